import PyProof.Rows.All
import Wide.All
import OpenK.AllK
import Wide.FinOn
import KE.KStateDown
import KE.KNestM
import KE.KExcInit
import Lean
import HandS.ForMost
import HandS.ForExc
import HandS.Defaults
import HandS.More
import HandS.HeadHook1
import HandS.HeadHook2
import HandS.HeadHook3
import HandS.HeadHook4
import PySem.Challenge.RW_bluepaint_k51_whole_brackets_and_numbers
import HandS.Head0
import HandS.Head1
import HandS.Head2
import HandS.HeadEnd
import HandS.HeadWalk
import KE.KUnpackStar
import HandS.Slots
import HandS.Nested
import HandS.NestedK
import HandS.Flow
import HandS.DictComp
import HandS.TupAny
import HandS.Wide
import HandS.WideBits
import HandS.IntHex
import HandS.IsInst
import HandS.Strs
import HandS.SetKeys
import HandS.Zip
import HandS.TryOnly
import HandS.Set
import HandS.SetFor
import HandS.ExcInit
import PyProof.NeKinds
import PyProof.StrBlock2
import HandS.Walk
import KE.GoesEnumKw
import PyProof.Rows.CallKwBuiltin
import HandS.Text
import HandS.MakeKwOnly
import HandS.CallSlots
import HandS.ExcOwn
import PyProof.Rows.StrCountLaw
/-! text: BpA -/
set_option Elab.async false
set_option linter.all false
set_option maxRecDepth 100000
set_option maxHeartbeats 4000000
namespace Bp
open PySem PySem.Spec PyProof.Rows L2
/-! ### the text by places -/
abbrev prog : Program := PySem.Challenge.pw_bluepaint_k51_whole_brackets_and_numbers
def top (i : Nat) : Stmt := prog.main.body.getD i (.Pass ⟨0, 0, 0, 0⟩)
abbrev s_ByNought_init : Stmt := inClass (top 11) 0
abbrev s_Piece_init : Stmt := inClass (top 19) 0
abbrev s_Piece_len : Stmt := inClass (top 19) 2
abbrev s_Piece_stands : Stmt := inClass (top 19) 5
abbrev s_is_name : Stmt := top 20
abbrev s_word_end : Stmt := top 21
abbrev s_token_end : Stmt := top 22
abbrev s_pieces_of : Stmt := top 24
abbrev s_closing_at : Stmt := top 28
abbrev s_parted : Stmt := top 29
abbrev s_call_at : Stmt := top 30
abbrev s_painted : Stmt := top 31
abbrev s_led : Stmt := top 32
abbrev s_passed : Stmt := top 33
abbrev s_becomes : Stmt := top 37
abbrev s_expand_arguments : Stmt := top 43
abbrev s_vet_row : Stmt := top 44
abbrev s_expand_row : Stmt := top 45
abbrev s_expansion : Stmt := top 46
abbrev s_expanded : Stmt := top 47
abbrev s_things_of : Stmt := top 52
abbrev s_Macro_init : Stmt := inClass (top 53) 0
abbrev s_Macro_things : Stmt := inClass (top 53) 5
abbrev s_Macro_wanted : Stmt := inClass (top 53) 6
abbrev s_need_name : Stmt := top 54
abbrev s_need_sign : Stmt := top 55
abbrev s_params_of : Stmt := top 56
abbrev s_vet_body : Stmt := top 57
abbrev s_macro_of : Stmt := top 58
abbrev s_Book_init : Stmt := inClass (top 59) 0
abbrev s_Book_len : Stmt := inClass (top 59) 1
abbrev s_Book_put : Stmt := inClass (top 59) 4
abbrev s_Book_tell : Stmt := inClass (top 59) 5
abbrev s_Book_macro : Stmt := inClass (top 59) 7
abbrev s_Book_stood : Stmt := inClass (top 59) 8
abbrev s_Book_names : Stmt := inClass (top 59) 9
abbrev s_place_of : Stmt := top 66
abbrev s_need : Stmt := top 67
abbrev s_text_at : Stmt := top 68
abbrev s_has_told : Stmt := top 69
abbrev s_Reading_init : Stmt := inClass (top 70) 0
abbrev s_Reading_now : Stmt := inClass (top 70) 1
abbrev s_Reading_here : Stmt := inClass (top 70) 2
abbrev s_Reading_taken : Stmt := inClass (top 70) 3
abbrev s_worth_of_token : Stmt := top 71
abbrev s_read_ahead : Stmt := top 72
abbrev s_read_level : Stmt := top 73
abbrev s_times : Stmt := top 74
abbrev s_over : Stmt := top 75
abbrev s_plus : Stmt := top 76
abbrev s_less : Stmt := top 77
abbrev s_below : Stmt := top 78
abbrev s_above : Stmt := top 79
abbrev s_at_most : Stmt := top 80
abbrev s_at_least : Stmt := top 81
abbrev s_alike : Stmt := top 82
abbrev s_unlike : Stmt := top 83
abbrev s_joined_conditions : Stmt := top 85
abbrev s_reckoned : Stmt := top 87
abbrev s_worth_of : Stmt := top 88
abbrev s_law_purse : Stmt := top 90
abbrev s_law_take : Stmt := top 91
abbrev s_law_signs : Stmt := top 92
abbrev s_law_atom : Stmt := top 93
abbrev s_law_flat : Stmt := top 94
abbrev s_law_strung : Stmt := top 95
abbrev s_law_held : Stmt := top 96
abbrev s_law_other : Stmt := top 97
abbrev s_law_sixteen : Stmt := top 98
abbrev s_law_told : Stmt := top 99
abbrev s_law : Stmt := top 100
/-! ### addresses of one's own paths -/
/-- the keyword default x of the def at p, if it is an object -/
def kwAt (p : Str × Option Str) (x : Str) (K : PySem.W.Frag) : Addr := match K.lookup (He.fAd K p) with
  | some ⟨_, _, .func fd, _⟩ => (match fd.kwdefaults with
    | .ref D => (match PySem.W.nsIn K D x with
      | some (some (.ref a)) => a
      | _ => 0)
    | _ => 0)
  | _ => 0
/-! ### the defs as data -/
def d_ByNought_init : He.DefD := ⟨("ByNought", some "__init__"), "__init__", "ByNought.__init__", defArgs s_ByNought_init, defBody s_ByNought_init, defScope s_ByNought_init, [], []⟩
def d_Piece_init : He.DefD := ⟨("Piece", some "__init__"), "__init__", "Piece.__init__", defArgs s_Piece_init, defBody s_Piece_init, defScope s_Piece_init, [.adr (He.dflAt ("Piece", some "__init__") 0)], []⟩
def d_Piece_len : He.DefD := ⟨("Piece", some "__len__"), "__len__", "Piece.__len__", defArgs s_Piece_len, defBody s_Piece_len, defScope s_Piece_len, [], []⟩
def d_Piece_stands : He.DefD := ⟨("Piece", some "stands"), "stands", "Piece.stands", defArgs s_Piece_stands, defBody s_Piece_stands, defScope s_Piece_stands, [], []⟩
def d_is_name : He.DefD := ⟨("is_name", none), "is_name", "is_name", defArgs s_is_name, defBody s_is_name, defScope s_is_name, [], []⟩
def d_word_end : He.DefD := ⟨("word_end", none), "word_end", "word_end", defArgs s_word_end, defBody s_word_end, defScope s_word_end, [], []⟩
def d_token_end : He.DefD := ⟨("token_end", none), "token_end", "token_end", defArgs s_token_end, defBody s_token_end, defScope s_token_end, [], []⟩
def d_pieces_of : He.DefD := ⟨("pieces_of", none), "pieces_of", "pieces_of", defArgs s_pieces_of, defBody s_pieces_of, defScope s_pieces_of, [], [("page", .str ""), ("number", .int 0)]⟩
def d_closing_at : He.DefD := ⟨("closing_at", none), "closing_at", "closing_at", defArgs s_closing_at, defBody s_closing_at, defScope s_closing_at, [], []⟩
def d_parted : He.DefD := ⟨("parted", none), "parted", "parted", defArgs s_parted, defBody s_parted, defScope s_parted, [], []⟩
def d_call_at : He.DefD := ⟨("call_at", none), "call_at", "call_at", defArgs s_call_at, defBody s_call_at, defScope s_call_at, [], []⟩
def d_painted : He.DefD := ⟨("painted", none), "painted", "painted", defArgs s_painted, defBody s_painted, defScope s_painted, [], []⟩
def d_led : He.DefD := ⟨("led", none), "led", "led", defArgs s_led, defBody s_led, defScope s_led, [], []⟩
def d_passed : He.DefD := ⟨("passed", none), "passed", "passed", defArgs s_passed, defBody s_passed, defScope s_passed, [], []⟩
def d_becomes : He.DefD := ⟨("becomes", none), "becomes", "becomes", defArgs s_becomes, defBody s_becomes, defScope s_becomes, [], []⟩
def d_expand_arguments : He.DefD := ⟨("expand_arguments", none), "expand_arguments", "expand_arguments", defArgs s_expand_arguments, defBody s_expand_arguments, defScope s_expand_arguments, [], []⟩
def d_vet_row : He.DefD := ⟨("vet_row", none), "vet_row", "vet_row", defArgs s_vet_row, defBody s_vet_row, defScope s_vet_row, [], []⟩
def d_expand_row : He.DefD := ⟨("expand_row", none), "expand_row", "expand_row", defArgs s_expand_row, defBody s_expand_row, defScope s_expand_row, [], []⟩
def d_expansion : He.DefD := ⟨("expansion", none), "expansion", "expansion", defArgs s_expansion, defBody s_expansion, defScope s_expansion, [], []⟩
def d_expanded : He.DefD := ⟨("expanded", none), "expanded", "expanded", defArgs s_expanded, defBody s_expanded, defScope s_expanded, [], []⟩
def d_things_of : He.DefD := ⟨("things_of", none), "things_of", "things_of", defArgs s_things_of, defBody s_things_of, defScope s_things_of, [], []⟩
def d_Macro_init : He.DefD := ⟨("Macro", some "__init__"), "__init__", "Macro.__init__", defArgs s_Macro_init, defBody s_Macro_init, defScope s_Macro_init, [], []⟩
def d_Macro_things : He.DefD := ⟨("Macro", some "things"), "things", "Macro.things", defArgs s_Macro_things, defBody s_Macro_things, defScope s_Macro_things, [], []⟩
def d_Macro_wanted : He.DefD := ⟨("Macro", some "wanted"), "wanted", "Macro.wanted", defArgs s_Macro_wanted, defBody s_Macro_wanted, defScope s_Macro_wanted, [], []⟩
def d_need_name : He.DefD := ⟨("need_name", none), "need_name", "need_name", defArgs s_need_name, defBody s_need_name, defScope s_need_name, [], []⟩
def d_need_sign : He.DefD := ⟨("need_sign", none), "need_sign", "need_sign", defArgs s_need_sign, defBody s_need_sign, defScope s_need_sign, [], []⟩
def d_params_of : He.DefD := ⟨("params_of", none), "params_of", "params_of", defArgs s_params_of, defBody s_params_of, defScope s_params_of, [], []⟩
def d_vet_body : He.DefD := ⟨("vet_body", none), "vet_body", "vet_body", defArgs s_vet_body, defBody s_vet_body, defScope s_vet_body, [], []⟩
def d_macro_of : He.DefD := ⟨("macro_of", none), "macro_of", "macro_of", defArgs s_macro_of, defBody s_macro_of, defScope s_macro_of, [], []⟩
def d_Book_init : He.DefD := ⟨("Book", some "__init__"), "__init__", "Book.__init__", defArgs s_Book_init, defBody s_Book_init, defScope s_Book_init, [.adr (He.dflAt ("Book", some "__init__") 0)], []⟩
def d_Book_len : He.DefD := ⟨("Book", some "__len__"), "__len__", "Book.__len__", defArgs s_Book_len, defBody s_Book_len, defScope s_Book_len, [], []⟩
def d_Book_put : He.DefD := ⟨("Book", some "put"), "put", "Book.put", defArgs s_Book_put, defBody s_Book_put, defScope s_Book_put, [], []⟩
def d_Book_tell : He.DefD := ⟨("Book", some "tell"), "tell", "Book.tell", defArgs s_Book_tell, defBody s_Book_tell, defScope s_Book_tell, [], [("page", .str ""), ("number", .int 0)]⟩
def d_Book_macro : He.DefD := ⟨("Book", some "macro"), "macro", "Book.macro", defArgs s_Book_macro, defBody s_Book_macro, defScope s_Book_macro, [], []⟩
def d_Book_stood : He.DefD := ⟨("Book", some "stood"), "stood", "Book.stood", defArgs s_Book_stood, defBody s_Book_stood, defScope s_Book_stood, [], []⟩
def d_Book_names : He.DefD := ⟨("Book", some "names"), "names", "Book.names", defArgs s_Book_names, defBody s_Book_names, defScope s_Book_names, [], []⟩
def d_place_of : He.DefD := ⟨("place_of", none), "place_of", "place_of", defArgs s_place_of, defBody s_place_of, defScope s_place_of, [], []⟩
def d_need : He.DefD := ⟨("need", none), "need", "need", defArgs s_need, defBody s_need, defScope s_need, [], []⟩
def d_text_at : He.DefD := ⟨("text_at", none), "text_at", "text_at", defArgs s_text_at, defBody s_text_at, defScope s_text_at, [], []⟩
def d_has_told : He.DefD := ⟨("has_told", none), "has_told", "has_told", defArgs s_has_told, defBody s_has_told, defScope s_has_told, [], []⟩
def d_Reading_init : He.DefD := ⟨("Reading", some "__init__"), "__init__", "Reading.__init__", defArgs s_Reading_init, defBody s_Reading_init, defScope s_Reading_init, [], []⟩
def d_Reading_now : He.DefD := ⟨("Reading", some "now"), "now", "Reading.now", defArgs s_Reading_now, defBody s_Reading_now, defScope s_Reading_now, [], []⟩
def d_Reading_here : He.DefD := ⟨("Reading", some "here"), "here", "Reading.here", defArgs s_Reading_here, defBody s_Reading_here, defScope s_Reading_here, [], []⟩
def d_Reading_taken : He.DefD := ⟨("Reading", some "taken"), "taken", "Reading.taken", defArgs s_Reading_taken, defBody s_Reading_taken, defScope s_Reading_taken, [], []⟩
def d_worth_of_token : He.DefD := ⟨("worth_of_token", none), "worth_of_token", "worth_of_token", defArgs s_worth_of_token, defBody s_worth_of_token, defScope s_worth_of_token, [], []⟩
def d_read_ahead : He.DefD := ⟨("read_ahead", none), "read_ahead", "read_ahead", defArgs s_read_ahead, defBody s_read_ahead, defScope s_read_ahead, [], []⟩
def d_read_level : He.DefD := ⟨("read_level", none), "read_level", "read_level", defArgs s_read_level, defBody s_read_level, defScope s_read_level, [], []⟩
def d_times : He.DefD := ⟨("times", none), "times", "times", defArgs s_times, defBody s_times, defScope s_times, [], []⟩
def d_over : He.DefD := ⟨("over", none), "over", "over", defArgs s_over, defBody s_over, defScope s_over, [], []⟩
def d_plus : He.DefD := ⟨("plus", none), "plus", "plus", defArgs s_plus, defBody s_plus, defScope s_plus, [], []⟩
def d_less : He.DefD := ⟨("less", none), "less", "less", defArgs s_less, defBody s_less, defScope s_less, [], []⟩
def d_below : He.DefD := ⟨("below", none), "below", "below", defArgs s_below, defBody s_below, defScope s_below, [], []⟩
def d_above : He.DefD := ⟨("above", none), "above", "above", defArgs s_above, defBody s_above, defScope s_above, [], []⟩
def d_at_most : He.DefD := ⟨("at_most", none), "at_most", "at_most", defArgs s_at_most, defBody s_at_most, defScope s_at_most, [], []⟩
def d_at_least : He.DefD := ⟨("at_least", none), "at_least", "at_least", defArgs s_at_least, defBody s_at_least, defScope s_at_least, [], []⟩
def d_alike : He.DefD := ⟨("alike", none), "alike", "alike", defArgs s_alike, defBody s_alike, defScope s_alike, [], []⟩
def d_unlike : He.DefD := ⟨("unlike", none), "unlike", "unlike", defArgs s_unlike, defBody s_unlike, defScope s_unlike, [], []⟩
def d_joined_conditions : He.DefD := ⟨("joined_conditions", none), "joined", "joined", defArgs s_joined_conditions, defBody s_joined_conditions, defScope s_joined_conditions, [], []⟩
def d_reckoned : He.DefD := ⟨("reckoned", none), "reckoned", "reckoned", defArgs s_reckoned, defBody s_reckoned, defScope s_reckoned, [], []⟩
def d_worth_of : He.DefD := ⟨("worth_of", none), "worth_of", "worth_of", defArgs s_worth_of, defBody s_worth_of, defScope s_worth_of, [], [("end", .adr (kwAt ("worth_of", none) "end"))]⟩
def d_law_purse : He.DefD := ⟨("_law_purse", none), "_law_purse", "_law_purse", defArgs s_law_purse, defBody s_law_purse, defScope s_law_purse, [], []⟩
def d_law_take : He.DefD := ⟨("_law_take", none), "_law_take", "_law_take", defArgs s_law_take, defBody s_law_take, defScope s_law_take, [], []⟩
def d_law_signs : He.DefD := ⟨("_law_signs", none), "_law_signs", "_law_signs", defArgs s_law_signs, defBody s_law_signs, defScope s_law_signs, [], []⟩
def d_law_atom : He.DefD := ⟨("_law_atom", none), "_law_atom", "_law_atom", defArgs s_law_atom, defBody s_law_atom, defScope s_law_atom, [], []⟩
def d_law_flat : He.DefD := ⟨("_law_flat", none), "_law_flat", "_law_flat", defArgs s_law_flat, defBody s_law_flat, defScope s_law_flat, [], []⟩
def d_law_strung : He.DefD := ⟨("_law_strung", none), "_law_strung", "_law_strung", defArgs s_law_strung, defBody s_law_strung, defScope s_law_strung, [], []⟩
def d_law_held : He.DefD := ⟨("_law_held", none), "_law_held", "_law_held", defArgs s_law_held, defBody s_law_held, defScope s_law_held, [], []⟩
def d_law_other : He.DefD := ⟨("_law_other", none), "_law_other", "_law_other", defArgs s_law_other, defBody s_law_other, defScope s_law_other, [], []⟩
def d_law_sixteen : He.DefD := ⟨("_law_sixteen", none), "_law_sixteen", "_law_sixteen", defArgs s_law_sixteen, defBody s_law_sixteen, defScope s_law_sixteen, [], []⟩
def d_law_told : He.DefD := ⟨("_law_told", none), "_law_told", "_law_told", defArgs s_law_told, defBody s_law_told, defScope s_law_told, [], []⟩
def d_law : He.DefD := ⟨("law", none), "law", "law", defArgs s_law, defBody s_law, defScope s_law, [], []⟩
def fn0 : List He.DefD := [d_ByNought_init, d_Piece_init, d_Piece_len, d_Piece_stands, d_is_name, d_word_end, d_token_end, d_pieces_of, d_closing_at, d_parted, d_call_at, d_painted, d_led, d_passed, d_becomes]
def fn1 : List He.DefD := [d_expand_arguments, d_vet_row, d_expand_row, d_expansion, d_expanded, d_things_of, d_Macro_init, d_Macro_things, d_Macro_wanted, d_need_name, d_need_sign, d_params_of, d_vet_body, d_macro_of, d_Book_init]
def fn2 : List He.DefD := [d_Book_len, d_Book_put, d_Book_tell, d_Book_macro, d_Book_stood, d_Book_names, d_place_of, d_need, d_text_at, d_has_told, d_Reading_init, d_Reading_now, d_Reading_here, d_Reading_taken, d_worth_of_token]
def fn3 : List He.DefD := [d_read_ahead, d_read_level, d_times, d_over, d_plus, d_less, d_below, d_above, d_at_most, d_at_least, d_alike, d_unlike, d_joined_conditions, d_reckoned, d_worth_of]
def fn4 : List He.DefD := [d_law_purse, d_law_take, d_law_signs, d_law_atom, d_law_flat, d_law_strung, d_law_held, d_law_other, d_law_sixteen, d_law_told, d_law]
def fn : List He.DefD := fn0 ++ (fn1 ++ (fn2 ++ (fn3 ++ (fn4))))
def fa0 : List He.Fa := [.glo "ByNought", .glo "Piece", .glo "is_name", .glo "word_end", .glo "token_end", .glo "pieces_of", .glo "closing_at", .glo "parted", .glo "call_at", .glo "painted", .glo "led", .glo "passed", .glo "becomes", .glo "expand_arguments", .glo "vet_row", .glo "expand_row", .glo "expansion", .glo "expanded", .glo "things_of", .glo "Macro"]
def fa1 : List He.Fa := [.glo "need_name", .glo "need_sign", .glo "params_of", .glo "vet_body", .glo "macro_of", .glo "Book", .glo "place_of", .glo "need", .glo "text_at", .glo "has_told", .glo "Reading", .glo "worth_of_token", .glo "read_ahead", .glo "read_level", .glo "times", .glo "over", .glo "plus", .glo "less", .glo "below", .glo "above"]
def fa2 : List He.Fa := [.glo "at_most", .glo "at_least", .glo "alike", .glo "unlike", .glo "reckoned", .glo "worth_of", .glo "_law_purse", .glo "_law_take", .glo "_law_signs", .glo "_law_atom", .glo "_law_flat", .glo "_law_strung", .glo "_law_held", .glo "_law_other", .glo "_law_sixteen", .glo "_law_told", .glo "law", .glo "joined_conditions", .glo "PAIRS", .glo "LEVELS"]
def fa3 : List He.Fa := [.glo "SIGNS", .free "len", .free "isinstance", .free "str", .free "tuple", .free "range", .free "sorted", .free "set", .free "zip", .free "sum", .free "list", .free "enumerate", .free "int", .free "all", .free "any", .free "abs", .free "max", .free "min", .free "KeyError", .int "MOST_CALLS" 300]
def fa4 : List He.Fa := [.int "MOST_PIECES" 400, .int "MOST_SIGNS" 2000, .int "MOST_DEEP" 20, .int "MOST_PARAMS" 8, .int "MOST_BODY" 60, .int "MOST_MACROS" 40, .int "MOST_OPEN" 20, .int "MOST_FIGURES" 30, .int "MOST_OF_SIXTEEN" 20, .str "LETTERS" "abcdefghijklmnopqrstuvwxyzABCDEFGHIJKLMNOPQRSTUVWXYZ", .str "FIGURES" "0123456789", .str "SIXTEEN" "0123456789abcdefABCDEF", .cls "Piece", .cls "Macro", .cls "Book", .cls "Reading", .mkr "Piece", .mkr "Macro", .mkr "Book", .mkr "Reading"]
def fa5 : List He.Fa := [.noat "Piece" "text", .noat "Piece" "signs", .noat "Piece" "paint", .noat "Macro" "name", .noat "Macro" "params", .noat "Macro" "body", .noat "Book" "kept", .noat "Reading" "given_row", .noat "Reading" "behind", .noat "Reading" "spot", .noat "Reading" "nested", .meth "Piece" "__init__", .meth "Piece" "__len__", .meth "Piece" "stands", .meth "Macro" "__init__", .meth "Macro" "things", .meth "Macro" "wanted", .meth "Book" "__init__", .meth "Book" "__len__", .meth "Book" "put"]
def fa6 : List He.Fa := [.meth "Book" "tell", .meth "Book" "macro", .meth "Book" "stood", .meth "Book" "names", .meth "Reading" "__init__", .meth "Reading" "now", .meth "Reading" "here", .meth "Reading" "taken"]
def fa : List He.Fa := fa0 ++ (fa1 ++ (fa2 ++ (fa3 ++ (fa4 ++ (fa5 ++ (fa6))))))
/-! ### what else is looked at -/
abbrev zdTail : List Value := [.type "ZeroDivisionError", .type "ArithmeticError", .type "Exception", .type "BaseException", .type "object"]
/-- the class ByNought -/
def bnB (K : PySem.W.Frag) : Bool := match K.lookup (He.ga K "ByNought") with
  | some ⟨.type "type", _, .cls cd, sl⟩ => decide (cd.mro = .ref (He.ga K "ByNought") :: zdTail) && (decide ((sl.toList[4]?).join = some (.builtin "ZeroDivisionError.__new__")) && (decide (sl.size = 6) && (cd.hasDict && !cd.hasDel)))
  | _ => false
def bnB2 (K : PySem.W.Frag) : Bool := He.eqO (PySem.W.findIn K (.ref (He.ga K "ByNought")) "__setattr__") (some (some (.builtin "object.__setattr__"))) && (He.eqO (PySem.W.findIn K (.ref (He.ga K "ByNought")) "__getattribute__") (some (some (.builtin "BaseException.__getattribute__"))) && (He.eqO (PySem.W.findIn K (.ref (He.ga K "ByNought")) "__getattr__") (some none) && (He.eqO (PySem.W.findIn K (.ref (He.ga K "ByNought")) "place") (some none) && (He.eqO (PySem.W.findIn K (.ref (He.ga K "ByNought")) "__init__") (some (some (.ref (He.ma K (He.ga K "ByNought") "__init__")))) &&
  (decide (PySem.W.typeIn K (.ref (He.ma K (He.ga K "ByNought") "__init__")) = some (.type "function")) && (PySem.W.keepIn K (.ref (He.ga K "ByNought")) && (decide (PySem.W.subIn K (.ref (He.ga K "ByNought")) (.type "BaseException") = some true) && (decide (PySem.W.typeIn K (.ref (He.ga K "ByNought")) = some (.type "type")) && (PySem.W.hasDictIn K (He.ga K "ByNought") && decide (PySem.W.exmOne K (.ref (He.ga K "ByNought")) (.ref (He.ga K "ByNought")) = some true))))))))))
/-- a tuple of tuples of texts -/
def tupTB (K : PySem.W.Frag) : List (List Str) → List Value → Bool
  | [], [] => true
  | z :: zs, .ref a :: us => (match K.lookup a with
    | some ⟨.type c, _, .seq its _, _⟩ => decide (c = "tuple") && (decide (its.size ≤ sizeLine) && He.relAll (z.map V.str) its.toList)
    | _ => false) && tupTB K zs us
  | _, _ => false
def levs : List (List Str) := [["||"], ["&&"], ["<", "<=", ">", ">=", "==", "!="], ["+", "-"], ["*", "/"]]
def levB (K : PySem.W.Frag) : Bool := match K.lookup (He.ga K "LEVELS") with
  | some ⟨.type c, _, .seq its _, _⟩ => decide (c = "tuple") && (decide (its.size ≤ sizeLine) && tupTB K levs its.toList)
  | _ => false
/-- Piece's default of paint: the empty tuple -/
def emB (K : PySem.W.Frag) : Bool := match K.lookup (He.dflAt ("Piece", some "__init__") 0 K) with
  | some ⟨.type c, _, .seq its _, _⟩ => decide (c = "tuple") && decide (its.size = 0)
  | _ => false
def pairsL : List Str := ["==", "!=", "<=", ">=", "&&", "||", "->"]
def signKs : List Str := ["*", "/", "+", "-", "<", "<=", ">", ">=", "==", "!="]
def signVs : List (Str × He.Dv) := [("*", .glo "times"), ("/", .glo "over"), ("+", .glo "plus"), ("-", .glo "less"), ("<", .glo "below"), ("<=", .glo "at_most"), (">", .glo "above"), (">=", .glo "at_least"), ("==", .glo "alike"), ("!=", .glo "unlike")]
def exB (K : PySem.W.Frag) : Bool := bnB K && (bnB2 K && (He.tupB K "PAIRS" (pairsL.map He.Dv.str) && (levB K && (emB K && He.valsB K (He.ga K "SIGNS") signVs))))
def ts : List He.Tab := [(fun K => He.ga K "SIGNS", signKs)]
def tf : List He.Defn := [("becomes", none)]
/-- the program's top, as the proofs lean on it -/
structure Top (w : World) (K : PySem.W.Frag) (mg : Str → Option Value) : Prop where
  h : ∃ h : Heap, K.In h ∧ h.Ns mainGlobals mg
  t : He.SaysT fa fn ts w K
  ex : exB K = true
section
variable {w : World} {K : PySem.W.Frag} {mg : Str → Option Value}

theorem Top.f_ByNought_init (T : Top w K mg) : ∃ fd, FunD K "__init__" "ByNought.__init__" (defArgs s_ByNought_init) (defBody s_ByNought_init) (defScope s_ByNought_init) [] [] (He.ma K (He.ga K "ByNought") "__init__") fd := T.t.d.def_ 0 (d := d_ByNought_init) rfl
theorem Top.f_Piece_init (T : Top w K mg) : ∃ fd, FunD K "__init__" "Piece.__init__" (defArgs s_Piece_init) (defBody s_Piece_init) (defScope s_Piece_init) [.ref (He.dflAt ("Piece", some "__init__") 0 K)] [] (He.ma K (He.ga K "Piece") "__init__") fd := T.t.d.def_ 1 (d := d_Piece_init) rfl
theorem Top.f_Piece_len (T : Top w K mg) : ∃ fd, FunD K "__len__" "Piece.__len__" (defArgs s_Piece_len) (defBody s_Piece_len) (defScope s_Piece_len) [] [] (He.ma K (He.ga K "Piece") "__len__") fd := T.t.d.def_ 2 (d := d_Piece_len) rfl
theorem Top.f_Piece_stands (T : Top w K mg) : ∃ fd, FunD K "stands" "Piece.stands" (defArgs s_Piece_stands) (defBody s_Piece_stands) (defScope s_Piece_stands) [] [] (He.ma K (He.ga K "Piece") "stands") fd := T.t.d.def_ 3 (d := d_Piece_stands) rfl
theorem Top.f_is_name (T : Top w K mg) : ∃ fd, FunD K "is_name" "is_name" (defArgs s_is_name) (defBody s_is_name) (defScope s_is_name) [] [] (He.ga K "is_name") fd := T.t.d.def_ 4 (d := d_is_name) rfl
theorem Top.f_word_end (T : Top w K mg) : ∃ fd, FunD K "word_end" "word_end" (defArgs s_word_end) (defBody s_word_end) (defScope s_word_end) [] [] (He.ga K "word_end") fd := T.t.d.def_ 5 (d := d_word_end) rfl
theorem Top.f_token_end (T : Top w K mg) : ∃ fd, FunD K "token_end" "token_end" (defArgs s_token_end) (defBody s_token_end) (defScope s_token_end) [] [] (He.ga K "token_end") fd := T.t.d.def_ 6 (d := d_token_end) rfl
theorem Top.f_pieces_of (T : Top w K mg) : ∃ fd, FunD K "pieces_of" "pieces_of" (defArgs s_pieces_of) (defBody s_pieces_of) (defScope s_pieces_of) [] [("page", .str ""), ("number", .int 0)] (He.ga K "pieces_of") fd := T.t.d.def_ 7 (d := d_pieces_of) rfl
theorem Top.f_closing_at (T : Top w K mg) : ∃ fd, FunD K "closing_at" "closing_at" (defArgs s_closing_at) (defBody s_closing_at) (defScope s_closing_at) [] [] (He.ga K "closing_at") fd := T.t.d.def_ 8 (d := d_closing_at) rfl
theorem Top.f_parted (T : Top w K mg) : ∃ fd, FunD K "parted" "parted" (defArgs s_parted) (defBody s_parted) (defScope s_parted) [] [] (He.ga K "parted") fd := T.t.d.def_ 9 (d := d_parted) rfl
theorem Top.f_call_at (T : Top w K mg) : ∃ fd, FunD K "call_at" "call_at" (defArgs s_call_at) (defBody s_call_at) (defScope s_call_at) [] [] (He.ga K "call_at") fd := T.t.d.def_ 10 (d := d_call_at) rfl
theorem Top.f_painted (T : Top w K mg) : ∃ fd, FunD K "painted" "painted" (defArgs s_painted) (defBody s_painted) (defScope s_painted) [] [] (He.ga K "painted") fd := T.t.d.def_ 11 (d := d_painted) rfl
theorem Top.f_led (T : Top w K mg) : ∃ fd, FunD K "led" "led" (defArgs s_led) (defBody s_led) (defScope s_led) [] [] (He.ga K "led") fd := T.t.d.def_ 12 (d := d_led) rfl
theorem Top.f_passed (T : Top w K mg) : ∃ fd, FunD K "passed" "passed" (defArgs s_passed) (defBody s_passed) (defScope s_passed) [] [] (He.ga K "passed") fd := T.t.d.def_ 13 (d := d_passed) rfl
theorem Top.f_becomes (T : Top w K mg) : ∃ fd, FunD K "becomes" "becomes" (defArgs s_becomes) (defBody s_becomes) (defScope s_becomes) [] [] (He.ga K "becomes") fd := T.t.d.def_ 14 (d := d_becomes) rfl
theorem Top.f_expand_arguments (T : Top w K mg) : ∃ fd, FunD K "expand_arguments" "expand_arguments" (defArgs s_expand_arguments) (defBody s_expand_arguments) (defScope s_expand_arguments) [] [] (He.ga K "expand_arguments") fd := T.t.d.def_ 15 (d := d_expand_arguments) rfl
theorem Top.f_vet_row (T : Top w K mg) : ∃ fd, FunD K "vet_row" "vet_row" (defArgs s_vet_row) (defBody s_vet_row) (defScope s_vet_row) [] [] (He.ga K "vet_row") fd := T.t.d.def_ 16 (d := d_vet_row) rfl
theorem Top.f_expand_row (T : Top w K mg) : ∃ fd, FunD K "expand_row" "expand_row" (defArgs s_expand_row) (defBody s_expand_row) (defScope s_expand_row) [] [] (He.ga K "expand_row") fd := T.t.d.def_ 17 (d := d_expand_row) rfl
theorem Top.f_expansion (T : Top w K mg) : ∃ fd, FunD K "expansion" "expansion" (defArgs s_expansion) (defBody s_expansion) (defScope s_expansion) [] [] (He.ga K "expansion") fd := T.t.d.def_ 18 (d := d_expansion) rfl
theorem Top.f_expanded (T : Top w K mg) : ∃ fd, FunD K "expanded" "expanded" (defArgs s_expanded) (defBody s_expanded) (defScope s_expanded) [] [] (He.ga K "expanded") fd := T.t.d.def_ 19 (d := d_expanded) rfl
theorem Top.f_things_of (T : Top w K mg) : ∃ fd, FunD K "things_of" "things_of" (defArgs s_things_of) (defBody s_things_of) (defScope s_things_of) [] [] (He.ga K "things_of") fd := T.t.d.def_ 20 (d := d_things_of) rfl
theorem Top.f_Macro_init (T : Top w K mg) : ∃ fd, FunD K "__init__" "Macro.__init__" (defArgs s_Macro_init) (defBody s_Macro_init) (defScope s_Macro_init) [] [] (He.ma K (He.ga K "Macro") "__init__") fd := T.t.d.def_ 21 (d := d_Macro_init) rfl
theorem Top.f_Macro_things (T : Top w K mg) : ∃ fd, FunD K "things" "Macro.things" (defArgs s_Macro_things) (defBody s_Macro_things) (defScope s_Macro_things) [] [] (He.ma K (He.ga K "Macro") "things") fd := T.t.d.def_ 22 (d := d_Macro_things) rfl
theorem Top.f_Macro_wanted (T : Top w K mg) : ∃ fd, FunD K "wanted" "Macro.wanted" (defArgs s_Macro_wanted) (defBody s_Macro_wanted) (defScope s_Macro_wanted) [] [] (He.ma K (He.ga K "Macro") "wanted") fd := T.t.d.def_ 23 (d := d_Macro_wanted) rfl
theorem Top.f_need_name (T : Top w K mg) : ∃ fd, FunD K "need_name" "need_name" (defArgs s_need_name) (defBody s_need_name) (defScope s_need_name) [] [] (He.ga K "need_name") fd := T.t.d.def_ 24 (d := d_need_name) rfl
theorem Top.f_need_sign (T : Top w K mg) : ∃ fd, FunD K "need_sign" "need_sign" (defArgs s_need_sign) (defBody s_need_sign) (defScope s_need_sign) [] [] (He.ga K "need_sign") fd := T.t.d.def_ 25 (d := d_need_sign) rfl
theorem Top.f_params_of (T : Top w K mg) : ∃ fd, FunD K "params_of" "params_of" (defArgs s_params_of) (defBody s_params_of) (defScope s_params_of) [] [] (He.ga K "params_of") fd := T.t.d.def_ 26 (d := d_params_of) rfl
theorem Top.f_vet_body (T : Top w K mg) : ∃ fd, FunD K "vet_body" "vet_body" (defArgs s_vet_body) (defBody s_vet_body) (defScope s_vet_body) [] [] (He.ga K "vet_body") fd := T.t.d.def_ 27 (d := d_vet_body) rfl
theorem Top.f_macro_of (T : Top w K mg) : ∃ fd, FunD K "macro_of" "macro_of" (defArgs s_macro_of) (defBody s_macro_of) (defScope s_macro_of) [] [] (He.ga K "macro_of") fd := T.t.d.def_ 28 (d := d_macro_of) rfl
theorem Top.f_Book_init (T : Top w K mg) : ∃ fd, FunD K "__init__" "Book.__init__" (defArgs s_Book_init) (defBody s_Book_init) (defScope s_Book_init) [.ref (He.dflAt ("Book", some "__init__") 0 K)] [] (He.ma K (He.ga K "Book") "__init__") fd := T.t.d.def_ 29 (d := d_Book_init) rfl
theorem Top.f_Book_len (T : Top w K mg) : ∃ fd, FunD K "__len__" "Book.__len__" (defArgs s_Book_len) (defBody s_Book_len) (defScope s_Book_len) [] [] (He.ma K (He.ga K "Book") "__len__") fd := T.t.d.def_ 30 (d := d_Book_len) rfl
theorem Top.f_Book_put (T : Top w K mg) : ∃ fd, FunD K "put" "Book.put" (defArgs s_Book_put) (defBody s_Book_put) (defScope s_Book_put) [] [] (He.ma K (He.ga K "Book") "put") fd := T.t.d.def_ 31 (d := d_Book_put) rfl
theorem Top.f_Book_tell (T : Top w K mg) : ∃ fd, FunD K "tell" "Book.tell" (defArgs s_Book_tell) (defBody s_Book_tell) (defScope s_Book_tell) [] [("page", .str ""), ("number", .int 0)] (He.ma K (He.ga K "Book") "tell") fd := T.t.d.def_ 32 (d := d_Book_tell) rfl
theorem Top.f_Book_macro (T : Top w K mg) : ∃ fd, FunD K "macro" "Book.macro" (defArgs s_Book_macro) (defBody s_Book_macro) (defScope s_Book_macro) [] [] (He.ma K (He.ga K "Book") "macro") fd := T.t.d.def_ 33 (d := d_Book_macro) rfl
theorem Top.f_Book_stood (T : Top w K mg) : ∃ fd, FunD K "stood" "Book.stood" (defArgs s_Book_stood) (defBody s_Book_stood) (defScope s_Book_stood) [] [] (He.ma K (He.ga K "Book") "stood") fd := T.t.d.def_ 34 (d := d_Book_stood) rfl
theorem Top.f_Book_names (T : Top w K mg) : ∃ fd, FunD K "names" "Book.names" (defArgs s_Book_names) (defBody s_Book_names) (defScope s_Book_names) [] [] (He.ma K (He.ga K "Book") "names") fd := T.t.d.def_ 35 (d := d_Book_names) rfl
theorem Top.f_place_of (T : Top w K mg) : ∃ fd, FunD K "place_of" "place_of" (defArgs s_place_of) (defBody s_place_of) (defScope s_place_of) [] [] (He.ga K "place_of") fd := T.t.d.def_ 36 (d := d_place_of) rfl
theorem Top.f_need (T : Top w K mg) : ∃ fd, FunD K "need" "need" (defArgs s_need) (defBody s_need) (defScope s_need) [] [] (He.ga K "need") fd := T.t.d.def_ 37 (d := d_need) rfl
theorem Top.f_text_at (T : Top w K mg) : ∃ fd, FunD K "text_at" "text_at" (defArgs s_text_at) (defBody s_text_at) (defScope s_text_at) [] [] (He.ga K "text_at") fd := T.t.d.def_ 38 (d := d_text_at) rfl
theorem Top.f_has_told (T : Top w K mg) : ∃ fd, FunD K "has_told" "has_told" (defArgs s_has_told) (defBody s_has_told) (defScope s_has_told) [] [] (He.ga K "has_told") fd := T.t.d.def_ 39 (d := d_has_told) rfl
theorem Top.f_Reading_init (T : Top w K mg) : ∃ fd, FunD K "__init__" "Reading.__init__" (defArgs s_Reading_init) (defBody s_Reading_init) (defScope s_Reading_init) [] [] (He.ma K (He.ga K "Reading") "__init__") fd := T.t.d.def_ 40 (d := d_Reading_init) rfl
theorem Top.f_Reading_now (T : Top w K mg) : ∃ fd, FunD K "now" "Reading.now" (defArgs s_Reading_now) (defBody s_Reading_now) (defScope s_Reading_now) [] [] (He.ma K (He.ga K "Reading") "now") fd := T.t.d.def_ 41 (d := d_Reading_now) rfl
theorem Top.f_Reading_here (T : Top w K mg) : ∃ fd, FunD K "here" "Reading.here" (defArgs s_Reading_here) (defBody s_Reading_here) (defScope s_Reading_here) [] [] (He.ma K (He.ga K "Reading") "here") fd := T.t.d.def_ 42 (d := d_Reading_here) rfl
theorem Top.f_Reading_taken (T : Top w K mg) : ∃ fd, FunD K "taken" "Reading.taken" (defArgs s_Reading_taken) (defBody s_Reading_taken) (defScope s_Reading_taken) [] [] (He.ma K (He.ga K "Reading") "taken") fd := T.t.d.def_ 43 (d := d_Reading_taken) rfl
theorem Top.f_worth_of_token (T : Top w K mg) : ∃ fd, FunD K "worth_of_token" "worth_of_token" (defArgs s_worth_of_token) (defBody s_worth_of_token) (defScope s_worth_of_token) [] [] (He.ga K "worth_of_token") fd := T.t.d.def_ 44 (d := d_worth_of_token) rfl
theorem Top.f_read_ahead (T : Top w K mg) : ∃ fd, FunD K "read_ahead" "read_ahead" (defArgs s_read_ahead) (defBody s_read_ahead) (defScope s_read_ahead) [] [] (He.ga K "read_ahead") fd := T.t.d.def_ 45 (d := d_read_ahead) rfl
theorem Top.f_read_level (T : Top w K mg) : ∃ fd, FunD K "read_level" "read_level" (defArgs s_read_level) (defBody s_read_level) (defScope s_read_level) [] [] (He.ga K "read_level") fd := T.t.d.def_ 46 (d := d_read_level) rfl
theorem Top.f_times (T : Top w K mg) : ∃ fd, FunD K "times" "times" (defArgs s_times) (defBody s_times) (defScope s_times) [] [] (He.ga K "times") fd := T.t.d.def_ 47 (d := d_times) rfl
theorem Top.f_over (T : Top w K mg) : ∃ fd, FunD K "over" "over" (defArgs s_over) (defBody s_over) (defScope s_over) [] [] (He.ga K "over") fd := T.t.d.def_ 48 (d := d_over) rfl
theorem Top.f_plus (T : Top w K mg) : ∃ fd, FunD K "plus" "plus" (defArgs s_plus) (defBody s_plus) (defScope s_plus) [] [] (He.ga K "plus") fd := T.t.d.def_ 49 (d := d_plus) rfl
theorem Top.f_less (T : Top w K mg) : ∃ fd, FunD K "less" "less" (defArgs s_less) (defBody s_less) (defScope s_less) [] [] (He.ga K "less") fd := T.t.d.def_ 50 (d := d_less) rfl
theorem Top.f_below (T : Top w K mg) : ∃ fd, FunD K "below" "below" (defArgs s_below) (defBody s_below) (defScope s_below) [] [] (He.ga K "below") fd := T.t.d.def_ 51 (d := d_below) rfl
theorem Top.f_above (T : Top w K mg) : ∃ fd, FunD K "above" "above" (defArgs s_above) (defBody s_above) (defScope s_above) [] [] (He.ga K "above") fd := T.t.d.def_ 52 (d := d_above) rfl
theorem Top.f_at_most (T : Top w K mg) : ∃ fd, FunD K "at_most" "at_most" (defArgs s_at_most) (defBody s_at_most) (defScope s_at_most) [] [] (He.ga K "at_most") fd := T.t.d.def_ 53 (d := d_at_most) rfl
theorem Top.f_at_least (T : Top w K mg) : ∃ fd, FunD K "at_least" "at_least" (defArgs s_at_least) (defBody s_at_least) (defScope s_at_least) [] [] (He.ga K "at_least") fd := T.t.d.def_ 54 (d := d_at_least) rfl
theorem Top.f_alike (T : Top w K mg) : ∃ fd, FunD K "alike" "alike" (defArgs s_alike) (defBody s_alike) (defScope s_alike) [] [] (He.ga K "alike") fd := T.t.d.def_ 55 (d := d_alike) rfl
theorem Top.f_unlike (T : Top w K mg) : ∃ fd, FunD K "unlike" "unlike" (defArgs s_unlike) (defBody s_unlike) (defScope s_unlike) [] [] (He.ga K "unlike") fd := T.t.d.def_ 56 (d := d_unlike) rfl
theorem Top.f_joined_conditions (T : Top w K mg) : ∃ fd, FunD K "joined" "joined" (defArgs s_joined_conditions) (defBody s_joined_conditions) (defScope s_joined_conditions) [] [] (He.ga K "joined_conditions") fd := T.t.d.def_ 57 (d := d_joined_conditions) rfl
theorem Top.f_reckoned (T : Top w K mg) : ∃ fd, FunD K "reckoned" "reckoned" (defArgs s_reckoned) (defBody s_reckoned) (defScope s_reckoned) [] [] (He.ga K "reckoned") fd := T.t.d.def_ 58 (d := d_reckoned) rfl
theorem Top.f_worth_of (T : Top w K mg) : ∃ fd, FunD K "worth_of" "worth_of" (defArgs s_worth_of) (defBody s_worth_of) (defScope s_worth_of) [] [("end", .ref (kwAt ("worth_of", none) "end" K))] (He.ga K "worth_of") fd := T.t.d.def_ 59 (d := d_worth_of) rfl
theorem Top.f_law_purse (T : Top w K mg) : ∃ fd, FunD K "_law_purse" "_law_purse" (defArgs s_law_purse) (defBody s_law_purse) (defScope s_law_purse) [] [] (He.ga K "_law_purse") fd := T.t.d.def_ 60 (d := d_law_purse) rfl
theorem Top.f_law_take (T : Top w K mg) : ∃ fd, FunD K "_law_take" "_law_take" (defArgs s_law_take) (defBody s_law_take) (defScope s_law_take) [] [] (He.ga K "_law_take") fd := T.t.d.def_ 61 (d := d_law_take) rfl
theorem Top.f_law_signs (T : Top w K mg) : ∃ fd, FunD K "_law_signs" "_law_signs" (defArgs s_law_signs) (defBody s_law_signs) (defScope s_law_signs) [] [] (He.ga K "_law_signs") fd := T.t.d.def_ 62 (d := d_law_signs) rfl
theorem Top.f_law_atom (T : Top w K mg) : ∃ fd, FunD K "_law_atom" "_law_atom" (defArgs s_law_atom) (defBody s_law_atom) (defScope s_law_atom) [] [] (He.ga K "_law_atom") fd := T.t.d.def_ 63 (d := d_law_atom) rfl
theorem Top.f_law_flat (T : Top w K mg) : ∃ fd, FunD K "_law_flat" "_law_flat" (defArgs s_law_flat) (defBody s_law_flat) (defScope s_law_flat) [] [] (He.ga K "_law_flat") fd := T.t.d.def_ 64 (d := d_law_flat) rfl
theorem Top.f_law_strung (T : Top w K mg) : ∃ fd, FunD K "_law_strung" "_law_strung" (defArgs s_law_strung) (defBody s_law_strung) (defScope s_law_strung) [] [] (He.ga K "_law_strung") fd := T.t.d.def_ 65 (d := d_law_strung) rfl
theorem Top.f_law_held (T : Top w K mg) : ∃ fd, FunD K "_law_held" "_law_held" (defArgs s_law_held) (defBody s_law_held) (defScope s_law_held) [] [] (He.ga K "_law_held") fd := T.t.d.def_ 66 (d := d_law_held) rfl
theorem Top.f_law_other (T : Top w K mg) : ∃ fd, FunD K "_law_other" "_law_other" (defArgs s_law_other) (defBody s_law_other) (defScope s_law_other) [] [] (He.ga K "_law_other") fd := T.t.d.def_ 67 (d := d_law_other) rfl
theorem Top.f_law_sixteen (T : Top w K mg) : ∃ fd, FunD K "_law_sixteen" "_law_sixteen" (defArgs s_law_sixteen) (defBody s_law_sixteen) (defScope s_law_sixteen) [] [] (He.ga K "_law_sixteen") fd := T.t.d.def_ 68 (d := d_law_sixteen) rfl
theorem Top.f_law_told (T : Top w K mg) : ∃ fd, FunD K "_law_told" "_law_told" (defArgs s_law_told) (defBody s_law_told) (defScope s_law_told) [] [] (He.ga K "_law_told") fd := T.t.d.def_ 69 (d := d_law_told) rfl
theorem Top.f_law (T : Top w K mg) : ∃ fd, FunD K "law" "law" (defArgs s_law) (defBody s_law) (defScope s_law) [] [] (He.ga K "law") fd := T.t.d.def_ 70 (d := d_law) rfl
theorem Top.g_ByNought (T : Top w K mg) : mg "ByNought" = some (.ref (He.ga K "ByNought")) := by
  obtain ⟨h, X, G⟩ := T.h
  exact He.glo_ok X G (T.t.d.fact 0 (f := .glo "ByNought") rfl)
theorem Top.g_Piece (T : Top w K mg) : mg "Piece" = some (.ref (He.ga K "Piece")) := by
  obtain ⟨h, X, G⟩ := T.h
  exact He.glo_ok X G (T.t.d.fact 1 (f := .glo "Piece") rfl)
theorem Top.g_is_name (T : Top w K mg) : mg "is_name" = some (.ref (He.ga K "is_name")) := by
  obtain ⟨h, X, G⟩ := T.h
  exact He.glo_ok X G (T.t.d.fact 2 (f := .glo "is_name") rfl)
theorem Top.g_word_end (T : Top w K mg) : mg "word_end" = some (.ref (He.ga K "word_end")) := by
  obtain ⟨h, X, G⟩ := T.h
  exact He.glo_ok X G (T.t.d.fact 3 (f := .glo "word_end") rfl)
theorem Top.g_token_end (T : Top w K mg) : mg "token_end" = some (.ref (He.ga K "token_end")) := by
  obtain ⟨h, X, G⟩ := T.h
  exact He.glo_ok X G (T.t.d.fact 4 (f := .glo "token_end") rfl)
theorem Top.g_pieces_of (T : Top w K mg) : mg "pieces_of" = some (.ref (He.ga K "pieces_of")) := by
  obtain ⟨h, X, G⟩ := T.h
  exact He.glo_ok X G (T.t.d.fact 5 (f := .glo "pieces_of") rfl)
theorem Top.g_closing_at (T : Top w K mg) : mg "closing_at" = some (.ref (He.ga K "closing_at")) := by
  obtain ⟨h, X, G⟩ := T.h
  exact He.glo_ok X G (T.t.d.fact 6 (f := .glo "closing_at") rfl)
theorem Top.g_parted (T : Top w K mg) : mg "parted" = some (.ref (He.ga K "parted")) := by
  obtain ⟨h, X, G⟩ := T.h
  exact He.glo_ok X G (T.t.d.fact 7 (f := .glo "parted") rfl)
theorem Top.g_call_at (T : Top w K mg) : mg "call_at" = some (.ref (He.ga K "call_at")) := by
  obtain ⟨h, X, G⟩ := T.h
  exact He.glo_ok X G (T.t.d.fact 8 (f := .glo "call_at") rfl)
theorem Top.g_painted (T : Top w K mg) : mg "painted" = some (.ref (He.ga K "painted")) := by
  obtain ⟨h, X, G⟩ := T.h
  exact He.glo_ok X G (T.t.d.fact 9 (f := .glo "painted") rfl)
theorem Top.g_led (T : Top w K mg) : mg "led" = some (.ref (He.ga K "led")) := by
  obtain ⟨h, X, G⟩ := T.h
  exact He.glo_ok X G (T.t.d.fact 10 (f := .glo "led") rfl)
theorem Top.g_passed (T : Top w K mg) : mg "passed" = some (.ref (He.ga K "passed")) := by
  obtain ⟨h, X, G⟩ := T.h
  exact He.glo_ok X G (T.t.d.fact 11 (f := .glo "passed") rfl)
theorem Top.g_becomes (T : Top w K mg) : mg "becomes" = some (.ref (He.ga K "becomes")) := by
  obtain ⟨h, X, G⟩ := T.h
  exact He.glo_ok X G (T.t.d.fact 12 (f := .glo "becomes") rfl)
theorem Top.g_expand_arguments (T : Top w K mg) : mg "expand_arguments" = some (.ref (He.ga K "expand_arguments")) := by
  obtain ⟨h, X, G⟩ := T.h
  exact He.glo_ok X G (T.t.d.fact 13 (f := .glo "expand_arguments") rfl)
theorem Top.g_vet_row (T : Top w K mg) : mg "vet_row" = some (.ref (He.ga K "vet_row")) := by
  obtain ⟨h, X, G⟩ := T.h
  exact He.glo_ok X G (T.t.d.fact 14 (f := .glo "vet_row") rfl)
theorem Top.g_expand_row (T : Top w K mg) : mg "expand_row" = some (.ref (He.ga K "expand_row")) := by
  obtain ⟨h, X, G⟩ := T.h
  exact He.glo_ok X G (T.t.d.fact 15 (f := .glo "expand_row") rfl)
theorem Top.g_expansion (T : Top w K mg) : mg "expansion" = some (.ref (He.ga K "expansion")) := by
  obtain ⟨h, X, G⟩ := T.h
  exact He.glo_ok X G (T.t.d.fact 16 (f := .glo "expansion") rfl)
theorem Top.g_expanded (T : Top w K mg) : mg "expanded" = some (.ref (He.ga K "expanded")) := by
  obtain ⟨h, X, G⟩ := T.h
  exact He.glo_ok X G (T.t.d.fact 17 (f := .glo "expanded") rfl)
theorem Top.g_things_of (T : Top w K mg) : mg "things_of" = some (.ref (He.ga K "things_of")) := by
  obtain ⟨h, X, G⟩ := T.h
  exact He.glo_ok X G (T.t.d.fact 18 (f := .glo "things_of") rfl)
theorem Top.g_Macro (T : Top w K mg) : mg "Macro" = some (.ref (He.ga K "Macro")) := by
  obtain ⟨h, X, G⟩ := T.h
  exact He.glo_ok X G (T.t.d.fact 19 (f := .glo "Macro") rfl)
theorem Top.g_need_name (T : Top w K mg) : mg "need_name" = some (.ref (He.ga K "need_name")) := by
  obtain ⟨h, X, G⟩ := T.h
  exact He.glo_ok X G (T.t.d.fact 20 (f := .glo "need_name") rfl)
theorem Top.g_need_sign (T : Top w K mg) : mg "need_sign" = some (.ref (He.ga K "need_sign")) := by
  obtain ⟨h, X, G⟩ := T.h
  exact He.glo_ok X G (T.t.d.fact 21 (f := .glo "need_sign") rfl)
theorem Top.g_params_of (T : Top w K mg) : mg "params_of" = some (.ref (He.ga K "params_of")) := by
  obtain ⟨h, X, G⟩ := T.h
  exact He.glo_ok X G (T.t.d.fact 22 (f := .glo "params_of") rfl)
theorem Top.g_vet_body (T : Top w K mg) : mg "vet_body" = some (.ref (He.ga K "vet_body")) := by
  obtain ⟨h, X, G⟩ := T.h
  exact He.glo_ok X G (T.t.d.fact 23 (f := .glo "vet_body") rfl)
theorem Top.g_macro_of (T : Top w K mg) : mg "macro_of" = some (.ref (He.ga K "macro_of")) := by
  obtain ⟨h, X, G⟩ := T.h
  exact He.glo_ok X G (T.t.d.fact 24 (f := .glo "macro_of") rfl)
theorem Top.g_Book (T : Top w K mg) : mg "Book" = some (.ref (He.ga K "Book")) := by
  obtain ⟨h, X, G⟩ := T.h
  exact He.glo_ok X G (T.t.d.fact 25 (f := .glo "Book") rfl)
theorem Top.g_place_of (T : Top w K mg) : mg "place_of" = some (.ref (He.ga K "place_of")) := by
  obtain ⟨h, X, G⟩ := T.h
  exact He.glo_ok X G (T.t.d.fact 26 (f := .glo "place_of") rfl)
theorem Top.g_need (T : Top w K mg) : mg "need" = some (.ref (He.ga K "need")) := by
  obtain ⟨h, X, G⟩ := T.h
  exact He.glo_ok X G (T.t.d.fact 27 (f := .glo "need") rfl)
theorem Top.g_text_at (T : Top w K mg) : mg "text_at" = some (.ref (He.ga K "text_at")) := by
  obtain ⟨h, X, G⟩ := T.h
  exact He.glo_ok X G (T.t.d.fact 28 (f := .glo "text_at") rfl)
theorem Top.g_has_told (T : Top w K mg) : mg "has_told" = some (.ref (He.ga K "has_told")) := by
  obtain ⟨h, X, G⟩ := T.h
  exact He.glo_ok X G (T.t.d.fact 29 (f := .glo "has_told") rfl)
theorem Top.g_Reading (T : Top w K mg) : mg "Reading" = some (.ref (He.ga K "Reading")) := by
  obtain ⟨h, X, G⟩ := T.h
  exact He.glo_ok X G (T.t.d.fact 30 (f := .glo "Reading") rfl)
theorem Top.g_worth_of_token (T : Top w K mg) : mg "worth_of_token" = some (.ref (He.ga K "worth_of_token")) := by
  obtain ⟨h, X, G⟩ := T.h
  exact He.glo_ok X G (T.t.d.fact 31 (f := .glo "worth_of_token") rfl)
theorem Top.g_read_ahead (T : Top w K mg) : mg "read_ahead" = some (.ref (He.ga K "read_ahead")) := by
  obtain ⟨h, X, G⟩ := T.h
  exact He.glo_ok X G (T.t.d.fact 32 (f := .glo "read_ahead") rfl)
theorem Top.g_read_level (T : Top w K mg) : mg "read_level" = some (.ref (He.ga K "read_level")) := by
  obtain ⟨h, X, G⟩ := T.h
  exact He.glo_ok X G (T.t.d.fact 33 (f := .glo "read_level") rfl)
theorem Top.g_times (T : Top w K mg) : mg "times" = some (.ref (He.ga K "times")) := by
  obtain ⟨h, X, G⟩ := T.h
  exact He.glo_ok X G (T.t.d.fact 34 (f := .glo "times") rfl)
theorem Top.g_over (T : Top w K mg) : mg "over" = some (.ref (He.ga K "over")) := by
  obtain ⟨h, X, G⟩ := T.h
  exact He.glo_ok X G (T.t.d.fact 35 (f := .glo "over") rfl)
theorem Top.g_plus (T : Top w K mg) : mg "plus" = some (.ref (He.ga K "plus")) := by
  obtain ⟨h, X, G⟩ := T.h
  exact He.glo_ok X G (T.t.d.fact 36 (f := .glo "plus") rfl)
theorem Top.g_less (T : Top w K mg) : mg "less" = some (.ref (He.ga K "less")) := by
  obtain ⟨h, X, G⟩ := T.h
  exact He.glo_ok X G (T.t.d.fact 37 (f := .glo "less") rfl)
theorem Top.g_below (T : Top w K mg) : mg "below" = some (.ref (He.ga K "below")) := by
  obtain ⟨h, X, G⟩ := T.h
  exact He.glo_ok X G (T.t.d.fact 38 (f := .glo "below") rfl)
theorem Top.g_above (T : Top w K mg) : mg "above" = some (.ref (He.ga K "above")) := by
  obtain ⟨h, X, G⟩ := T.h
  exact He.glo_ok X G (T.t.d.fact 39 (f := .glo "above") rfl)
theorem Top.g_at_most (T : Top w K mg) : mg "at_most" = some (.ref (He.ga K "at_most")) := by
  obtain ⟨h, X, G⟩ := T.h
  exact He.glo_ok X G (T.t.d.fact 40 (f := .glo "at_most") rfl)
theorem Top.g_at_least (T : Top w K mg) : mg "at_least" = some (.ref (He.ga K "at_least")) := by
  obtain ⟨h, X, G⟩ := T.h
  exact He.glo_ok X G (T.t.d.fact 41 (f := .glo "at_least") rfl)
theorem Top.g_alike (T : Top w K mg) : mg "alike" = some (.ref (He.ga K "alike")) := by
  obtain ⟨h, X, G⟩ := T.h
  exact He.glo_ok X G (T.t.d.fact 42 (f := .glo "alike") rfl)
theorem Top.g_unlike (T : Top w K mg) : mg "unlike" = some (.ref (He.ga K "unlike")) := by
  obtain ⟨h, X, G⟩ := T.h
  exact He.glo_ok X G (T.t.d.fact 43 (f := .glo "unlike") rfl)
theorem Top.g_reckoned (T : Top w K mg) : mg "reckoned" = some (.ref (He.ga K "reckoned")) := by
  obtain ⟨h, X, G⟩ := T.h
  exact He.glo_ok X G (T.t.d.fact 44 (f := .glo "reckoned") rfl)
theorem Top.g_worth_of (T : Top w K mg) : mg "worth_of" = some (.ref (He.ga K "worth_of")) := by
  obtain ⟨h, X, G⟩ := T.h
  exact He.glo_ok X G (T.t.d.fact 45 (f := .glo "worth_of") rfl)
theorem Top.g_law_purse (T : Top w K mg) : mg "_law_purse" = some (.ref (He.ga K "_law_purse")) := by
  obtain ⟨h, X, G⟩ := T.h
  exact He.glo_ok X G (T.t.d.fact 46 (f := .glo "_law_purse") rfl)
theorem Top.g_law_take (T : Top w K mg) : mg "_law_take" = some (.ref (He.ga K "_law_take")) := by
  obtain ⟨h, X, G⟩ := T.h
  exact He.glo_ok X G (T.t.d.fact 47 (f := .glo "_law_take") rfl)
theorem Top.g_law_signs (T : Top w K mg) : mg "_law_signs" = some (.ref (He.ga K "_law_signs")) := by
  obtain ⟨h, X, G⟩ := T.h
  exact He.glo_ok X G (T.t.d.fact 48 (f := .glo "_law_signs") rfl)
theorem Top.g_law_atom (T : Top w K mg) : mg "_law_atom" = some (.ref (He.ga K "_law_atom")) := by
  obtain ⟨h, X, G⟩ := T.h
  exact He.glo_ok X G (T.t.d.fact 49 (f := .glo "_law_atom") rfl)
theorem Top.g_law_flat (T : Top w K mg) : mg "_law_flat" = some (.ref (He.ga K "_law_flat")) := by
  obtain ⟨h, X, G⟩ := T.h
  exact He.glo_ok X G (T.t.d.fact 50 (f := .glo "_law_flat") rfl)
theorem Top.g_law_strung (T : Top w K mg) : mg "_law_strung" = some (.ref (He.ga K "_law_strung")) := by
  obtain ⟨h, X, G⟩ := T.h
  exact He.glo_ok X G (T.t.d.fact 51 (f := .glo "_law_strung") rfl)
theorem Top.g_law_held (T : Top w K mg) : mg "_law_held" = some (.ref (He.ga K "_law_held")) := by
  obtain ⟨h, X, G⟩ := T.h
  exact He.glo_ok X G (T.t.d.fact 52 (f := .glo "_law_held") rfl)
theorem Top.g_law_other (T : Top w K mg) : mg "_law_other" = some (.ref (He.ga K "_law_other")) := by
  obtain ⟨h, X, G⟩ := T.h
  exact He.glo_ok X G (T.t.d.fact 53 (f := .glo "_law_other") rfl)
theorem Top.g_law_sixteen (T : Top w K mg) : mg "_law_sixteen" = some (.ref (He.ga K "_law_sixteen")) := by
  obtain ⟨h, X, G⟩ := T.h
  exact He.glo_ok X G (T.t.d.fact 54 (f := .glo "_law_sixteen") rfl)
theorem Top.g_law_told (T : Top w K mg) : mg "_law_told" = some (.ref (He.ga K "_law_told")) := by
  obtain ⟨h, X, G⟩ := T.h
  exact He.glo_ok X G (T.t.d.fact 55 (f := .glo "_law_told") rfl)
theorem Top.g_law (T : Top w K mg) : mg "law" = some (.ref (He.ga K "law")) := by
  obtain ⟨h, X, G⟩ := T.h
  exact He.glo_ok X G (T.t.d.fact 56 (f := .glo "law") rfl)
theorem Top.g_joined_conditions (T : Top w K mg) : mg "joined_conditions" = some (.ref (He.ga K "joined_conditions")) := by
  obtain ⟨h, X, G⟩ := T.h
  exact He.glo_ok X G (T.t.d.fact 57 (f := .glo "joined_conditions") rfl)
theorem Top.g_PAIRS (T : Top w K mg) : mg "PAIRS" = some (.ref (He.ga K "PAIRS")) := by
  obtain ⟨h, X, G⟩ := T.h
  exact He.glo_ok X G (T.t.d.fact 58 (f := .glo "PAIRS") rfl)
theorem Top.g_LEVELS (T : Top w K mg) : mg "LEVELS" = some (.ref (He.ga K "LEVELS")) := by
  obtain ⟨h, X, G⟩ := T.h
  exact He.glo_ok X G (T.t.d.fact 59 (f := .glo "LEVELS") rfl)
theorem Top.g_SIGNS (T : Top w K mg) : mg "SIGNS" = some (.ref (He.ga K "SIGNS")) := by
  obtain ⟨h, X, G⟩ := T.h
  exact He.glo_ok X G (T.t.d.fact 60 (f := .glo "SIGNS") rfl)
theorem Top.b_len (T : Top w K mg) : mg "len" = none := by
  obtain ⟨h, X, G⟩ := T.h
  exact He.free_ok X G (T.t.d.fact 61 (f := .free "len") rfl)
theorem Top.b_isinstance (T : Top w K mg) : mg "isinstance" = none := by
  obtain ⟨h, X, G⟩ := T.h
  exact He.free_ok X G (T.t.d.fact 62 (f := .free "isinstance") rfl)
theorem Top.b_str (T : Top w K mg) : mg "str" = none := by
  obtain ⟨h, X, G⟩ := T.h
  exact He.free_ok X G (T.t.d.fact 63 (f := .free "str") rfl)
theorem Top.b_tuple (T : Top w K mg) : mg "tuple" = none := by
  obtain ⟨h, X, G⟩ := T.h
  exact He.free_ok X G (T.t.d.fact 64 (f := .free "tuple") rfl)
theorem Top.b_range (T : Top w K mg) : mg "range" = none := by
  obtain ⟨h, X, G⟩ := T.h
  exact He.free_ok X G (T.t.d.fact 65 (f := .free "range") rfl)
theorem Top.b_sorted (T : Top w K mg) : mg "sorted" = none := by
  obtain ⟨h, X, G⟩ := T.h
  exact He.free_ok X G (T.t.d.fact 66 (f := .free "sorted") rfl)
theorem Top.b_set (T : Top w K mg) : mg "set" = none := by
  obtain ⟨h, X, G⟩ := T.h
  exact He.free_ok X G (T.t.d.fact 67 (f := .free "set") rfl)
theorem Top.b_zip (T : Top w K mg) : mg "zip" = none := by
  obtain ⟨h, X, G⟩ := T.h
  exact He.free_ok X G (T.t.d.fact 68 (f := .free "zip") rfl)
theorem Top.b_sum (T : Top w K mg) : mg "sum" = none := by
  obtain ⟨h, X, G⟩ := T.h
  exact He.free_ok X G (T.t.d.fact 69 (f := .free "sum") rfl)
theorem Top.b_list (T : Top w K mg) : mg "list" = none := by
  obtain ⟨h, X, G⟩ := T.h
  exact He.free_ok X G (T.t.d.fact 70 (f := .free "list") rfl)
theorem Top.b_enumerate (T : Top w K mg) : mg "enumerate" = none := by
  obtain ⟨h, X, G⟩ := T.h
  exact He.free_ok X G (T.t.d.fact 71 (f := .free "enumerate") rfl)
theorem Top.b_int (T : Top w K mg) : mg "int" = none := by
  obtain ⟨h, X, G⟩ := T.h
  exact He.free_ok X G (T.t.d.fact 72 (f := .free "int") rfl)
theorem Top.b_all (T : Top w K mg) : mg "all" = none := by
  obtain ⟨h, X, G⟩ := T.h
  exact He.free_ok X G (T.t.d.fact 73 (f := .free "all") rfl)
theorem Top.b_any (T : Top w K mg) : mg "any" = none := by
  obtain ⟨h, X, G⟩ := T.h
  exact He.free_ok X G (T.t.d.fact 74 (f := .free "any") rfl)
theorem Top.b_abs (T : Top w K mg) : mg "abs" = none := by
  obtain ⟨h, X, G⟩ := T.h
  exact He.free_ok X G (T.t.d.fact 75 (f := .free "abs") rfl)
theorem Top.b_max (T : Top w K mg) : mg "max" = none := by
  obtain ⟨h, X, G⟩ := T.h
  exact He.free_ok X G (T.t.d.fact 76 (f := .free "max") rfl)
theorem Top.b_min (T : Top w K mg) : mg "min" = none := by
  obtain ⟨h, X, G⟩ := T.h
  exact He.free_ok X G (T.t.d.fact 77 (f := .free "min") rfl)
theorem Top.b_KeyError (T : Top w K mg) : mg "KeyError" = none := by
  obtain ⟨h, X, G⟩ := T.h
  exact He.free_ok X G (T.t.d.fact 78 (f := .free "KeyError") rfl)
theorem Top.i_MOST_CALLS (T : Top w K mg) : ∃ t, mg "MOST_CALLS" = some (.int 300 t) := by
  obtain ⟨h, X, G⟩ := T.h
  exact He.int_ok X G (T.t.d.fact 79 (f := .int "MOST_CALLS" 300) rfl)
theorem Top.i_MOST_PIECES (T : Top w K mg) : ∃ t, mg "MOST_PIECES" = some (.int 400 t) := by
  obtain ⟨h, X, G⟩ := T.h
  exact He.int_ok X G (T.t.d.fact 80 (f := .int "MOST_PIECES" 400) rfl)
theorem Top.i_MOST_SIGNS (T : Top w K mg) : ∃ t, mg "MOST_SIGNS" = some (.int 2000 t) := by
  obtain ⟨h, X, G⟩ := T.h
  exact He.int_ok X G (T.t.d.fact 81 (f := .int "MOST_SIGNS" 2000) rfl)
theorem Top.i_MOST_DEEP (T : Top w K mg) : ∃ t, mg "MOST_DEEP" = some (.int 20 t) := by
  obtain ⟨h, X, G⟩ := T.h
  exact He.int_ok X G (T.t.d.fact 82 (f := .int "MOST_DEEP" 20) rfl)
theorem Top.i_MOST_PARAMS (T : Top w K mg) : ∃ t, mg "MOST_PARAMS" = some (.int 8 t) := by
  obtain ⟨h, X, G⟩ := T.h
  exact He.int_ok X G (T.t.d.fact 83 (f := .int "MOST_PARAMS" 8) rfl)
theorem Top.i_MOST_BODY (T : Top w K mg) : ∃ t, mg "MOST_BODY" = some (.int 60 t) := by
  obtain ⟨h, X, G⟩ := T.h
  exact He.int_ok X G (T.t.d.fact 84 (f := .int "MOST_BODY" 60) rfl)
theorem Top.i_MOST_MACROS (T : Top w K mg) : ∃ t, mg "MOST_MACROS" = some (.int 40 t) := by
  obtain ⟨h, X, G⟩ := T.h
  exact He.int_ok X G (T.t.d.fact 85 (f := .int "MOST_MACROS" 40) rfl)
theorem Top.i_MOST_OPEN (T : Top w K mg) : ∃ t, mg "MOST_OPEN" = some (.int 20 t) := by
  obtain ⟨h, X, G⟩ := T.h
  exact He.int_ok X G (T.t.d.fact 86 (f := .int "MOST_OPEN" 20) rfl)
theorem Top.i_MOST_FIGURES (T : Top w K mg) : ∃ t, mg "MOST_FIGURES" = some (.int 30 t) := by
  obtain ⟨h, X, G⟩ := T.h
  exact He.int_ok X G (T.t.d.fact 87 (f := .int "MOST_FIGURES" 30) rfl)
theorem Top.i_MOST_OF_SIXTEEN (T : Top w K mg) : ∃ t, mg "MOST_OF_SIXTEEN" = some (.int 20 t) := by
  obtain ⟨h, X, G⟩ := T.h
  exact He.int_ok X G (T.t.d.fact 88 (f := .int "MOST_OF_SIXTEEN" 20) rfl)
theorem Top.t_LETTERS (T : Top w K mg) : ∃ t, mg "LETTERS" = some (.str "abcdefghijklmnopqrstuvwxyzABCDEFGHIJKLMNOPQRSTUVWXYZ" t) := by
  obtain ⟨h, X, G⟩ := T.h
  exact He.str_ok X G (T.t.d.fact 89 (f := .str "LETTERS" "abcdefghijklmnopqrstuvwxyzABCDEFGHIJKLMNOPQRSTUVWXYZ") rfl)
theorem Top.t_FIGURES (T : Top w K mg) : ∃ t, mg "FIGURES" = some (.str "0123456789" t) := by
  obtain ⟨h, X, G⟩ := T.h
  exact He.str_ok X G (T.t.d.fact 90 (f := .str "FIGURES" "0123456789") rfl)
theorem Top.t_SIXTEEN (T : Top w K mg) : ∃ t, mg "SIXTEEN" = some (.str "0123456789abcdefABCDEF" t) := by
  obtain ⟨h, X, G⟩ := T.h
  exact He.str_ok X G (T.t.d.fact 91 (f := .str "SIXTEEN" "0123456789abcdefABCDEF") rfl)
theorem Top.c_Piece (T : Top w K mg) : Cls K (He.ga K "Piece") := He.cls_ok (T.t.d.fact 92 (f := .cls "Piece") rfl)
theorem Top.c_Macro (T : Top w K mg) : Cls K (He.ga K "Macro") := He.cls_ok (T.t.d.fact 93 (f := .cls "Macro") rfl)
theorem Top.c_Book (T : Top w K mg) : Cls K (He.ga K "Book") := He.cls_ok (T.t.d.fact 94 (f := .cls "Book") rfl)
theorem Top.c_Reading (T : Top w K mg) : Cls K (He.ga K "Reading") := He.cls_ok (T.t.d.fact 95 (f := .cls "Reading") rfl)
theorem Top.k_Piece (T : Top w K mg) : Mk K (He.ga K "Piece") (He.ma K (He.ga K "Piece") "__init__") := He.mkr_ok (T.t.d.fact 96 (f := .mkr "Piece") rfl)
theorem Top.k_Macro (T : Top w K mg) : Mk K (He.ga K "Macro") (He.ma K (He.ga K "Macro") "__init__") := He.mkr_ok (T.t.d.fact 97 (f := .mkr "Macro") rfl)
theorem Top.k_Book (T : Top w K mg) : Mk K (He.ga K "Book") (He.ma K (He.ga K "Book") "__init__") := He.mkr_ok (T.t.d.fact 98 (f := .mkr "Book") rfl)
theorem Top.k_Reading (T : Top w K mg) : Mk K (He.ga K "Reading") (He.ma K (He.ga K "Reading") "__init__") := He.mkr_ok (T.t.d.fact 99 (f := .mkr "Reading") rfl)
theorem Top.n_Piece_text (T : Top w K mg) : NoAttr K (He.ga K "Piece") "text" := He.noat_ok (T.t.d.fact 100 (f := .noat "Piece" "text") rfl)
theorem Top.n_Piece_signs (T : Top w K mg) : NoAttr K (He.ga K "Piece") "signs" := He.noat_ok (T.t.d.fact 101 (f := .noat "Piece" "signs") rfl)
theorem Top.n_Piece_paint (T : Top w K mg) : NoAttr K (He.ga K "Piece") "paint" := He.noat_ok (T.t.d.fact 102 (f := .noat "Piece" "paint") rfl)
theorem Top.n_Macro_name (T : Top w K mg) : NoAttr K (He.ga K "Macro") "name" := He.noat_ok (T.t.d.fact 103 (f := .noat "Macro" "name") rfl)
theorem Top.n_Macro_params (T : Top w K mg) : NoAttr K (He.ga K "Macro") "params" := He.noat_ok (T.t.d.fact 104 (f := .noat "Macro" "params") rfl)
theorem Top.n_Macro_body (T : Top w K mg) : NoAttr K (He.ga K "Macro") "body" := He.noat_ok (T.t.d.fact 105 (f := .noat "Macro" "body") rfl)
theorem Top.n_Book_kept (T : Top w K mg) : NoAttr K (He.ga K "Book") "kept" := He.noat_ok (T.t.d.fact 106 (f := .noat "Book" "kept") rfl)
theorem Top.n_Reading_given_row (T : Top w K mg) : NoAttr K (He.ga K "Reading") "given_row" := He.noat_ok (T.t.d.fact 107 (f := .noat "Reading" "given_row") rfl)
theorem Top.n_Reading_behind (T : Top w K mg) : NoAttr K (He.ga K "Reading") "behind" := He.noat_ok (T.t.d.fact 108 (f := .noat "Reading" "behind") rfl)
theorem Top.n_Reading_spot (T : Top w K mg) : NoAttr K (He.ga K "Reading") "spot" := He.noat_ok (T.t.d.fact 109 (f := .noat "Reading" "spot") rfl)
theorem Top.n_Reading_nested (T : Top w K mg) : NoAttr K (He.ga K "Reading") "nested" := He.noat_ok (T.t.d.fact 110 (f := .noat "Reading" "nested") rfl)
theorem Top.m_Piece_init (T : Top w K mg) : Meth K (He.ga K "Piece") "__init__" (He.ma K (He.ga K "Piece") "__init__") := He.meth_ok (T.t.d.fact 111 (f := .meth "Piece" "__init__") rfl)
theorem Top.m_Piece_len (T : Top w K mg) : Meth K (He.ga K "Piece") "__len__" (He.ma K (He.ga K "Piece") "__len__") := He.meth_ok (T.t.d.fact 112 (f := .meth "Piece" "__len__") rfl)
theorem Top.m_Piece_stands (T : Top w K mg) : Meth K (He.ga K "Piece") "stands" (He.ma K (He.ga K "Piece") "stands") := He.meth_ok (T.t.d.fact 113 (f := .meth "Piece" "stands") rfl)
theorem Top.m_Macro_init (T : Top w K mg) : Meth K (He.ga K "Macro") "__init__" (He.ma K (He.ga K "Macro") "__init__") := He.meth_ok (T.t.d.fact 114 (f := .meth "Macro" "__init__") rfl)
theorem Top.m_Macro_things (T : Top w K mg) : Meth K (He.ga K "Macro") "things" (He.ma K (He.ga K "Macro") "things") := He.meth_ok (T.t.d.fact 115 (f := .meth "Macro" "things") rfl)
theorem Top.m_Macro_wanted (T : Top w K mg) : Meth K (He.ga K "Macro") "wanted" (He.ma K (He.ga K "Macro") "wanted") := He.meth_ok (T.t.d.fact 116 (f := .meth "Macro" "wanted") rfl)
theorem Top.m_Book_init (T : Top w K mg) : Meth K (He.ga K "Book") "__init__" (He.ma K (He.ga K "Book") "__init__") := He.meth_ok (T.t.d.fact 117 (f := .meth "Book" "__init__") rfl)
theorem Top.m_Book_len (T : Top w K mg) : Meth K (He.ga K "Book") "__len__" (He.ma K (He.ga K "Book") "__len__") := He.meth_ok (T.t.d.fact 118 (f := .meth "Book" "__len__") rfl)
theorem Top.m_Book_put (T : Top w K mg) : Meth K (He.ga K "Book") "put" (He.ma K (He.ga K "Book") "put") := He.meth_ok (T.t.d.fact 119 (f := .meth "Book" "put") rfl)
theorem Top.m_Book_tell (T : Top w K mg) : Meth K (He.ga K "Book") "tell" (He.ma K (He.ga K "Book") "tell") := He.meth_ok (T.t.d.fact 120 (f := .meth "Book" "tell") rfl)
theorem Top.m_Book_macro (T : Top w K mg) : Meth K (He.ga K "Book") "macro" (He.ma K (He.ga K "Book") "macro") := He.meth_ok (T.t.d.fact 121 (f := .meth "Book" "macro") rfl)
theorem Top.m_Book_stood (T : Top w K mg) : Meth K (He.ga K "Book") "stood" (He.ma K (He.ga K "Book") "stood") := He.meth_ok (T.t.d.fact 122 (f := .meth "Book" "stood") rfl)
theorem Top.m_Book_names (T : Top w K mg) : Meth K (He.ga K "Book") "names" (He.ma K (He.ga K "Book") "names") := He.meth_ok (T.t.d.fact 123 (f := .meth "Book" "names") rfl)
theorem Top.m_Reading_init (T : Top w K mg) : Meth K (He.ga K "Reading") "__init__" (He.ma K (He.ga K "Reading") "__init__") := He.meth_ok (T.t.d.fact 124 (f := .meth "Reading" "__init__") rfl)
theorem Top.m_Reading_now (T : Top w K mg) : Meth K (He.ga K "Reading") "now" (He.ma K (He.ga K "Reading") "now") := He.meth_ok (T.t.d.fact 125 (f := .meth "Reading" "now") rfl)
theorem Top.m_Reading_here (T : Top w K mg) : Meth K (He.ga K "Reading") "here" (He.ma K (He.ga K "Reading") "here") := He.meth_ok (T.t.d.fact 126 (f := .meth "Reading" "here") rfl)
theorem Top.m_Reading_taken (T : Top w K mg) : Meth K (He.ga K "Reading") "taken" (He.ma K (He.ga K "Reading") "taken") := He.meth_ok (T.t.d.fact 127 (f := .meth "Reading" "taken") rfl)
end
end Bp

/-! text: Hd -/
set_option Elab.async false
set_option linter.all false
set_option maxRecDepth 100000
set_option maxHeartbeats 0
namespace Bp
open PySem PySem.Spec PyProof.Rows L2
abbrev R : PySem.W.OpenRow := PySem.W.OpenLaw.row PySem.Challenge.rw_bluepaint_k51_whole_brackets_and_numbers
/-! ### what the Hook looks at: the module's own names, and what these lead to -/
def own0 (x : Str) : Bool := !((["__builtins__", "__name__", "__doc__", "__spec__", "__loader__", "__package__", "__annotations__", "Unread", "NoMacro", "Quoted", "NoCondition", "Twice", "NotSet", "Open", "Count"] : List Str).contains x || (["NoJoin", "Full", "TooLong", "TooDeep", "_wall", "is_token", "is_apart", "written", "made_text"] : List Str).contains x)
def roots (g : Addr → Option Obj) : List Addr := match g mainGlobals with
  | some ⟨_, _, .dict es _, _⟩ => es.toList.filterMap fun e => match e.key, e.val with
    | .str x _, .ref a => if own0 x then some a else none
    | _, _ => none
  | _ => []
def next1 (g : Addr → Option Obj) (l : List Addr) : List Addr := l.flatMap fun b => match g b with
  | some o => He.refsD o
  | none => []
/-- the levels, one behind another -/
def lvH (g : Addr → Option Obj) : Nat → List Addr → List Addr
  | 0, l => l
  | n + 1, l => l ++ lvH g n (next1 g l)
def asQ (g : Addr → Option Obj) : List Addr := mainGlobals :: lvH g 4 (roots g)
/-! ### a list, a part of the heap, put into plain form ahead of what is done with it -/
def frL {α : Type} : List Addr → (List Addr → α) → α
  | [], k => k []
  | a :: l, k => HandSHeadRun.frNat a fun a => frL l fun l => k (a :: l)
theorem frL_is {α : Type} : ∀ (l : List Addr) (k : List Addr → α), frL l k = k l
  | [], _ => rfl
  | a :: l, k => by
    show HandSHeadRun.frNat a (fun a => frL l fun l => k (a :: l)) = _
    rw [HandSHeadRun.frNat_eq, frL_is l]
def noTab (g : Addr → Option Obj) (a : Addr) : Option (Addr × Obj) := match g a with
  | some ⟨c, d, dt, sl⟩ => (match He.emptyTab ⟨c, d, dt, sl⟩ with
    | true => none
    | false => some (a, ⟨c, d, dt, sl⟩))
  | none => none
def frF {α : Type} (g : Addr → Option Obj) : List Addr → (PySem.W.Frag → α) → α
  | [], k => k []
  | a :: l, k => match noTab g a with
    | some q => frF g l fun K => k (q :: K)
    | none => frF g l k
theorem frF_is {α : Type} (g : Addr → Option Obj) : ∀ (l : List Addr) (k : PySem.W.Frag → α), frF g l k = k (l.filterMap (noTab g))
  | [], _ => rfl
  | a :: l, k => by
    rw [List.filterMap_cons]
    show (match noTab g a with
      | some q => frF g l fun K => k (q :: K)
      | none => frF g l k) = _
    cases noTab g a with
    | none => exact frF_is g l k
    | some q => exact frF_is g l _
theorem noTab_is {g : Addr → Option Obj} {a b : Addr} {o : Obj} (h : noTab g a = some (b, o)) : b = a ∧ g a = some o ∧ He.emptyTab o = false := by
  unfold noTab at h
  cases e : g a with
  | none =>
    rw [e] at h
    cases h
  | some u =>
    obtain ⟨c, d, dt, sl⟩ := u
    rw [e] at h
    cases q : He.emptyTab ⟨c, d, dt, sl⟩ with
    | true =>
      simp only [q] at h
      cases h
    | false =>
      simp only [q] at h
      obtain ⟨h1, h2⟩ := Prod.mk.inj (Option.some.inj h)
      subst h1 h2
      exact ⟨rfl, rfl, q⟩
abbrev frQ (g : Addr → Option Obj) : PySem.W.Frag := (asQ g).filterMap (noTab g)
theorem frQ_mem {g : Addr → Option Obj} {a : Addr} {o : Obj} (h : (frQ g).lookup a = some o) : g a = some o ∧ He.emptyTab o = false := by
  obtain ⟨b, _, e⟩ := List.mem_filterMap.mp (He.lookup_mem h)
  obtain ⟨h1, h2, h3⟩ := noTab_is e
  subst h1
  exact ⟨h2, h3⟩
theorem frQ_out {g : Addr → Option Obj} {a : Addr} {o : Obj} (h : g a = some o) (ht : He.emptyTab o = true) : (frQ g).lookup a = none := by
  cases e : (frQ g).lookup a with
  | none => rfl
  | some u =>
    obtain ⟨h1, h2⟩ := frQ_mem e
    rw [h] at h1
    rw [← Option.some.inj h1, ht] at h2
    cases h2
def seeK (g : Addr → Option Obj) (K : PySem.W.Frag) : He.AlX := (He.obsT fa fn ts K, exB K && He.tabsB g tf K)
def ob1 (g : Addr → Option Obj) : He.AlX := seeK g (frQ g)
/-- what is told of the heap h by the part K -/
structure SaysQ (w : World) (h : Heap) (K : PySem.W.Frag) : Prop where
  t : He.SaysT fa fn ts w K
  ex : exB K = true
  hd : ∀ p ∈ tf, PySem.W.codeHdIn K (He.cT K p).1 (He.cT K p).2 = true
  out : ∀ p ∈ tf, K.lookup (He.cT K p).2 = none
  bare : ∀ p ∈ tf, h.get? (He.cT K p).2 = some { cls := .none, data := .fields #[] }
theorem saysQ_of {w : World} {h : Heap} (e : ob1 h.get? = (He.valT fn ts w, true)) : SaysQ w h (frQ h.get?) := by
  have e1 : He.obsT fa fn ts (frQ h.get?) = He.valT fn ts w := congrArg (fun z : He.AlX => z.1) e
  have e2 : (exB (frQ h.get?) && He.tabsB h.get? tf (frQ h.get?)) = true := congrArg (fun z : He.AlX => z.2) e
  have e3 := He.ba e2
  have tab : ∀ p ∈ tf, PySem.W.codeHdIn (frQ h.get?) (He.cT (frQ h.get?) p).1 (He.cT (frQ h.get?) p).2 = true ∧ ∃ o, h.get? (He.cT (frQ h.get?) p).2 = some o ∧ He.emptyTab o = true := by
    intro p hp
    have z := He.ba (List.all_eq_true.mp e3.2 p hp)
    refine ⟨z.1, ?_⟩
    have z2 := z.2
    generalize h.get? (He.cT (frQ h.get?) p).2 = r at z2 ⊢
    cases r with
    | none => cases z2
    | some o => exact ⟨o, rfl, z2⟩
  refine ⟨e1, e3.1, fun p hp => (tab p hp).1, fun p hp => ?_, fun p hp => ?_⟩
  · obtain ⟨_, o, q, z⟩ := tab p hp
    exact frQ_out q z
  · obtain ⟨_, o, q, z⟩ := tab p hp
    rw [q, He.emptyTab_eq z]
abbrev hk : PySem.W.Hook where
  α := He.AlX
  obs := fun s => ob1 s.heap.get?
  val := fun w => (He.valT fn ts w, true)
  says := fun w h => ∃ K : PySem.W.Frag, K.In h ∧ SaysQ w h K
  of := fun _ _ e => ⟨_, fun _ _ q => (frQ_mem q).1, saysQ_of e⟩
  keeps := fun _ _ _ ⟨K, hK, c⟩ k => ⟨K, PySem.W.Frag.In.keeps hK k, { c with bare := fun p hp => k _ _ (c.bare p hp) }⟩
def ob2 (g : Addr → Option Obj) : He.AlX := frL (asQ g) fun as => frF g as fun K => seeK g K
theorem ob2_is (g : Addr → Option Obj) : ob2 g = ob1 g := by
  unfold ob2
  rw [frL_is, frF_is]
  rfl
def ob (s : PySem.W.SharedT) : He.AlX := ob2 (HandSHeadRun.getT s)
theorem ob_eq (s : PySem.W.SharedT) : ob s = hk.obs s.abs := by
  have e : HandSHeadRun.getT s = s.abs.heap.get? := funext (HandSHeadRun.getT_eq s)
  show ob2 _ = ob1 _
  rw [e, ob2_is]
def lo0 : List PySem.Str := ["_wall", "Unread", "NoMacro", "Quoted", "NoCondition", "Twice", "NotSet", "Open", "Count", "NoJoin", "ByNought", "Full", "TooLong", "TooDeep", "LETTERS", "FIGURES", "PAIRS", "Piece", "is_name", "word_end"]
def lo1 : List PySem.Str := ["token_end", "is_token", "pieces_of", "is_apart", "written", "closing_at", "parted", "call_at", "painted", "led", "passed", "made_text", "joined", "joined_calls", "becomes", "MOST_CALLS", "MOST_PIECES", "MOST_SIGNS", "MOST_DEEP", "expand_arguments"]
def lo2 : List PySem.Str := ["vet_row", "expand_row", "expansion", "expanded", "MOST_PARAMS", "MOST_BODY", "MOST_MACROS", "things_of", "Macro", "need_name", "need_sign", "params_of", "vet_body", "macro_of", "Book", "MOST_OPEN", "MOST_FIGURES", "MOST_OF_SIXTEEN", "SIXTEEN", "LEVELS"]
def lo3 : List PySem.Str := ["place_of", "need", "text_at", "has_told", "Reading", "worth_of_token", "read_ahead", "read_level", "times", "over", "plus", "less", "below", "above", "at_most", "at_least", "alike", "unlike", "SIGNS", "joined_conditions"]
def lo4 : List PySem.Str := ["reckoned", "worth_of", "_law_purse", "_law_take", "_law_signs", "_law_atom", "_law_flat", "_law_strung", "_law_held", "_law_other", "_law_sixteen", "_law_told"]
def loose : List PySem.Str := lo0 ++ (lo1 ++ (lo2 ++ (lo3 ++ (lo4))))
theorem run0 (w : World) : HandSHeadRun.RunEq R (PySem.W.view R.prog [100]) hk ob 9000 loose (w.withFollow "special-get-raises" false) := fun os => by kernel_rfl
theorem run1 (w : World) : HandSHeadRun.RunEq R (PySem.W.view R.prog [100]) hk ob 9000 loose (w.withFollow "special-get-raises" true) := fun os => by kernel_rfl
theorem run (w : World) : HandSHeadRun.RunEq R (PySem.W.view R.prog [100]) hk ob 9000 loose w :=
  PySem.W.byRow2 "special-get-raises" (P := fun w => HandSHeadRun.RunEq R (PySem.W.view R.prog [100]) hk ob 9000 loose w) run0 run1 w
end Bp

/-! text: R1 -/
set_option Elab.async false
set_option linter.all false
set_option maxRecDepth 100000
set_option maxHeartbeats 4000000
/-! rules that the hand layer lacks -/
namespace Bp
open PySem PySem.Spec PyProof.Rows L2
section
variable {X : Cx} {pins : List (Addr × Obj)} {σ : L2.St} {H : Hp} {s : Shared}
/-- behind a rule of the ledger that laid one object: all else is kept -/
theorem inv_grown {h' : Heap} {tk : Nat} {m : Str → Option Value} {D : Addr} {o : Obj} {u : HO} (I : Inv X pins σ H s) (F : Fr X.base X.env.locals s.heap m) (F' : Fr X.base X.env.locals h' m)
    (N' : News X.base X.env.locals h' ((D, o) :: allNews X.base s.heap X.env.locals)) (hlt : ∀ p ∈ allNews X.base s.heap X.env.locals, p.1 < D) (ok : h'.get? D = some o → ObjOk X.prog X.w (upd H D u) h' D u) :
    H D = none ∧ Inv X pins σ (upd H D u) { s with heap := h', toks := tk } := by
  have atD := N' _ List.mem_cons_self
  have keep : ∀ b ob, b ≠ X.env.locals → s.heap.get? b = some ob → h'.get? b = some ob := by
    intro b ob hb e
    cases q : X.base.get? b with
    | none => exact (N' (b, ob) (List.mem_cons_of_mem _ (mem_allNews hb q e))).1
    | some v =>
      have e2 := I.bk b v q
      rw [e] at e2
      cases e2
      exact F'.keep b _ q
  have hD : s.heap.get? D = none := by
    cases q : s.heap.get? D with
    | none => rfl
    | some v =>
      exfalso
      exact absurd (hlt (D, v) (mem_allNews atD.2.1 atD.2.2 q)) (Nat.lt_irrefl _)
  have nD : H D = none := I.hok.gone hD
  have neL : ∀ b v, H b = some v → b ≠ X.env.locals := fun b v e z => by
    rw [z, I.free] at e
    cases e
  refine ⟨nD, ?_⟩
  have there : ∀ b ob, s.heap.get? b = some ob → ∃ o', h'.get? b = some o' := by
    intro b ob e
    by_cases hb : b = X.env.locals
    · obtain ⟨oL, _, _, e2, _⟩ := F'.ns
      exact ⟨oL, by rw [hb]; exact e2⟩
    · exact ⟨ob, keep b ob hb e⟩
  have neD : ∀ b v, H b = some v → b ≠ D := fun b v e => ne_of_none e nD
  refine I.step (g' := s.gens) (d' := s.drawn) (ch := []) (fun _ z => nomatch z) (fun b ob h1 _ _ e _ => keep b ob h1 e) (fun b ob h1 _ _ e _ => ⟨ob.slots, keep b ob h1 e⟩) (fun b ob _ e n => ?_) (fun b ob _ e => there b ob e) (fun b xs e => ?_) (fun b ob v e => ?_) (fun b ps e => ⟨#[], ?_⟩) (fun m' hm => ?_) (fun b v e => ?_) I.bare
  · by_cases z : b = D
    · rw [z, hD] at e
      cases e
    · rw [upd_ne z]
      exact n
  · rw [upd_ne (neD b _ e)]
    exact e
  · rw [upd_ne (neD b _ e)]
    exact e
  · rw [upd_ne (neD b _ e), e, Array.append_empty]
  · rw [SlX.ns_only hm F.ns]
    exact F'.ns
  · by_cases z : b = D
    · subst z
      rw [upd_same] at e
      cases e
      exact ok atD.1
    · rw [upd_ne z] at e
      refine (I.hok b v e).stay (fun c w hc q => ?_) (fun c q => ?_) fun c xs q => ?_
      · refine keep c w ?_ q
        rcases hc with hc | hc
        · rw [hc]
          exact neL b v e
        · exact neL c _ hc
      · rw [upd_ne (neD c _ q)]
        exact q
      · rw [upd_ne (neD c _ q)]
        exact q
end
/-! ### targets with a star at the end -/
section
variable {X : Cx} {pos : Pos}
theorem pgs_star {t : Expr} {es : List Expr} {p : Pos} {g : TG} {u : TGs} (h1 : PG X t g) (h2 : PGs X es u) : PGs X (.Starred t p :: es) (gCons g u) := by
  constructor
  intro pins s σ H vs us Q I r h
  obtain ⟨v, vr, ev, h⟩ := h
  subst ev
  cases r with
  | cons r1 rr =>
    show wpAny _ _ (assignInOrder (assign t X.env :: (assignEach es X.env).map (·.2)) _) _ _ _
    refine assignInOrder_cons (thn (h1.run pins s σ H _ _ _ I r1 h) ?_)
    rintro _ s1 ⟨σ1, H1, I1, q1⟩
    exact h2.run pins s1 σ1 H1 _ _ Q I1 rr q1
/-- a, .., *b = a list or a tuple: k names ahead of the starred one, which is the last -/
def gStar (K : PySem.W.Frag) (k : Nat) (t : TGs) : TG := fun v σ H Q => ∃ a xs, v = .ref a ∧ (SqL K H a xs ∨ SqT K H a xs) ∧ k ≤ xs.length ∧ xs.length ≤ 16384 ∧
  ∀ D, H D = none → t (xs.take k ++ [.ref D]) σ (upd H D (.lst (xs.drop k))) Q
theorem pg_star {es : List Expr} {kk k : Nat} {t : TGs} (hc : X.calm = true) (h : PGs X es t) (hn : (assignEach es X.env).length = k + 1 := by rfl) (hst : (assignEach es X.env).findIdx? (·.1) = some k := by rfl) :
    PG X (.Tuple es kk pos) (gStar X.K k t) := by
  constructor
  intro pins s σ H v u Q I r hw
  obtain ⟨a, xs, ev, hq, hk, hz, hw⟩ := hw
  subst ev
  cases r
  obtain ⟨m, F⟩ := I.fr
  have fin : ∀ (its : List Value) (D : Addr) (h' : Heap) (tk : Nat), Vals xs its → Fr X.base X.env.locals h' m → News X.base X.env.locals h' ((D, PySem.W.listOf (its.drop k).toArray 0) :: allNews X.base s.heap X.env.locals) →
      (∀ p ∈ allNews X.base s.heap X.env.locals, p.1 < D) → wpAny (model X.prog X.w) X.A (assignInOrder ((assignEach es X.env).map (·.2)) (its.take k ++ [Value.ref D] ++ [])) (fun _ s' => ∃ σ' H', Inv X pins σ' H' s' ∧ Q σ' H') X.xe { s with heap := h', toks := tk } := by
    intro its D h' tk rv F' N' hlt
    have hl := rv.length
    obtain ⟨nD, I1⟩ := inv_grown (u := .lst (xs.drop k)) (tk := tk) I F F' N' hlt fun e => ⟨by
      rw [List.length_drop, sizeLine_eq]
      omega, its.drop k, 0, rv.drop k, e⟩
    rw [List.append_nil]
    exact h.run pins _ σ _ _ _ Q I1 (Vals.append (rv.take k) (Paired.cons (show RelV (.ref D) (.ref D) from rfl) .nil)) (hw D nD)
  rcases hq with hq | hq
  · obtain ⟨its, rv, pl, _⟩ := I.list hq
    have hl := rv.length
    have e1 : its.toArray.size = its.length := List.size_toArray
    refine PySem.W.kun_assignL (n := k + 1) (i := k) (first := its.take k) (mids := its.drop k) (lasts := []) F news_all pl.isList (I.ok.hd hc) hn hst (Nat.lt_succ_self k) (by rw [e1]; omega) (by rw [e1]; omega) rfl ?_ ?_ fun D h' tk F' N' hlt => fin its D h' tk rv F' N' hlt
    · show (its.drop k).take (its.toArray.size + 1 - (k + 1)) = its.drop k
      rw [e1]
      exact List.take_of_length_le (by rw [List.length_drop]; omega)
    · show (its.drop k).drop (its.toArray.size + 1 - (k + 1)) = []
      rw [e1]
      exact List.drop_of_length_le (by rw [List.length_drop]; omega)
  · obtain ⟨its, rv, pl, _⟩ := I.tuple hq
    have hl := rv.length
    have e1 : its.toArray.size = its.length := List.size_toArray
    refine PySem.W.kun_assignT (n := k + 1) (i := k) (first := its.take k) (mids := its.drop k) (lasts := []) F news_all pl (I.ok.hd hc) hn hst (Nat.lt_succ_self k) (by rw [e1]; omega) (by rw [e1]; omega) rfl ?_ ?_ fun D h' tk F' N' hlt => fin its D h' tk rv F' N' hlt
    · show (its.drop k).take (its.toArray.size + 1 - (k + 1)) = its.drop k
      rw [e1]
      exact List.take_of_length_le (by rw [List.length_drop]; omega)
    · show (its.drop k).drop (its.toArray.size + 1 - (k + 1)) = []
      rw [e1]
      exact List.drop_of_length_le (by rw [List.length_drop]; omega)
/-! ### xs[i] read by values (for xs[i] += e), xs[a:c] = ys -/
theorem get_list : PGet X (rIxL X.K) := by
  intro pins s σ H o i ov iv Q I ro ri h
  obtain ⟨p, xs, k, z, eo, ei, hq, he, q⟩ := h
  subst eo ei
  cases ro
  obtain ⟨t, rfl⟩ := ri
  obtain ⟨its, r, pl, hz⟩ := I.list hq
  obtain ⟨j, h1, h2, h3, h4, h5⟩ := atI_get he
  obtain ⟨u, eu, ru⟩ := r.get h2
  have hl := r.length
  have hn := line63
  by_cases h0 : 0 ≤ k
  · have hj : k.toNat = j := Option.some.inj ((seqIndex_of h0 h5).symm.trans h1)
    refine wpAny_getItem_list pl.isList h0 (by omega) (x := u) ?_ ⟨z, H, I, ru, q⟩
    rw [hj]
    simpa using eu
  · have hj : (k + (xs.length : Int)).toNat = j := Option.some.inj ((seqIndex_neg (by omega) h4).symm.trans h1)
    refine wpAny_getItem_list_neg pl.isList (by omega) (by rw [List.size_toArray, ← hl]; exact h4) (by omega) (x := u) ?_ ⟨z, H, I, ru, q⟩
    rw [List.size_toArray, ← hl, hj]
    simpa using eu
/-- xs[a:c] = ys, both lists tracked -/
def gCut (to : TE) (tl th : TO) : TG := fun v σ H Q => to σ H fun x H1 => tl σ H1 fun l H2 => th σ H2 fun u H3 => ∃ p b xs ys a c, x = .ref p ∧ v = .ref b ∧ l = some a ∧ u = some c ∧ H3 p = some (.lst xs) ∧ H3 b = some (.lst ys) ∧ p ≠ b ∧
  0 ≤ a ∧ a ≤ c ∧ c ≤ (xs.length : Int) ∧ xs.length + ys.length ≤ sizeLine ∧ Q σ (upd H3 p (.lst (xs.take a.toNat ++ ys ++ xs.drop c.toNat)))
theorem pg_cut {o : Expr} {lo hi : Option Expr} {p2 : Pos} {to : TE} {tl th : TO} (ho : PE X o to) (hl : PO X lo tl) (hh : PO X hi th) : PG X (.Subscript o (.Slice lo hi none p2) pos) (gCut to tl th) := by
  constructor
  intro pins s σ H v u Q I r h
  have arm : assign (.Subscript o (.Slice lo hi none p2) pos) X.env u = (do
      let ov ← holding [u] (eval o X.env)
      let iv ← holding [u, ov] (eval (.Slice lo hi none p2) X.env)
      standAt pos
      holding [u, ov, iv] (setItem ov iv u)
      release [iv, u, ov] []) := rfl
  rw [arm]
  refine wpAny_bind (wpAny_holding (thn (ho.run pins s σ H _ I h) ?_))
  rintro ov s1 ⟨x, H1, I1, r1, q1⟩
  refine wpAny_bind (wpAny_holding (wpAny_Slice (thn (hl.run pins s1 σ H1 _ I1 q1) ?_)))
  rintro vl s2 ⟨l, H2, I2, pl, q2⟩
  refine thn (hh.run pins s2 σ H2 _ I2 q2) ?_
  rintro vu s3 ⟨w, H3, I3, pu, p, b, xs, ys, a, c, ex, ev, el, ew, h3, h4, hne, g1, g2, g3, g4, q⟩
  subst ex ev el ew
  cases r1
  cases r
  rw [evalPart_none]
  refine wpAny_pure ?_
  have I4 : Inv X pins σ H3 { s3 with heap := s3.heap.push { cls := .type "slice", data := .fields #[vl, vu, .none] } } := I3.kept (t' := s3.toks) fun _ _ q => Heap.get?_push_of_some _ q
  refine wpAny_bind (wpAny_standAt (wpAny_bind (wpAny_holding (set_slice I4 h3 h4 hne (Heap.IsSliceOf.new ..) ?_ ?_ g1 g2 g3 g4 fun s4 I5 => wpAny_release ⟨σ, _, I5, q⟩))))
  · cases pl with
    | int i t => exact ⟨t, rfl⟩
  · cases pu with
    | int i t => exact ⟨t, rfl⟩
end
/-! ### len(x) by an own __len__ -/
section
variable {X : Cx} {CX : CXT} {k : Nat} {f C : Addr} {fd : FuncData} {ps : List Str} {sp : Sp}
theorem call_lenO (F : FnOk X.prog X.w X.K X.mg X.base CX k f fd ps sp) (hr : Room (k + 1) X.A) (hm : Meth X.K C "__len__" f) (hb : Binds X.K fd ps []) (hx : Passes CX X E0) :
    CallR X (.builtin "len") (fun xs H Q => ∃ a dx fs, xs = [.ref a] ∧ H a = some (.ins C dx fs) ∧ sp [.ref a] H (fun v H' => ∃ n : Int, v = .int n ∧ 0 ≤ n ∧ n < 2 ^ 63 ∧ Q (.int n) H') E0) := by
  intro pins s σ H vs us Q I r h
  obtain ⟨a, dx, fs, ev, ea, h⟩ := h
  subst ev
  obtain ⟨u, eu, ru⟩ := vals1 r
  subst eu
  cases ru
  obtain ⟨mA, O, _⟩ := ins_get I.hok ea
  obtain ⟨od, J, _⟩ := O.look
  obtain ⟨m, Fm⟩ := I.fr
  refine PySem.W.len_K Fm I.mod.kin J hm.at_ hm.fn ?_
  have hl : ([Value.ref a] : List Value).length = ps.length := F.len _ _ _ _ h
  refine wpAny_call (codeAny_mono (F.run X.A.in1 X.stack s H ⟨[.ref a], []⟩ [.ref a] [.ref a] _ E0 hr.in1 I.env0.in1 (hb s [.ref a] I.kIn (by simpa using hl)) (.cons rfl .nil) h) fun r s' hq => ?_)
  cases r with
  | error e => exact hx pins σ H s e s' I hq
  | ok fl =>
    cases fl with
    | ret u =>
      obtain ⟨v, H', I3, rv, n, ev, n0, n1, q3⟩ := I.after hq
      subst ev
      obtain ⟨t, rfl⟩ := rv
      exact ⟨⟨n0, n1⟩, .int n, H', I3.tok _, ⟨_, rfl⟩, q3⟩
    | next => exact False.elim hq
    | brk => exact False.elim hq
    | cont => exact False.elim hq
end
end Bp

/-! text: BpB -/
set_option Elab.async false
set_option linter.all false
set_option maxRecDepth 100000
set_option maxHeartbeats 4000000
/-! how a def of the text is told to its callers -/
namespace Bp
open PySem PySem.Spec PyProof.Rows L2
section
variable (P : Program) (w : World) (K : PySem.W.Frag) (mg : Str → Option Value) (base : Heap)
/-- the module's def x keeps sp -/
def GOk (CX : CXT) (k : Nat) (x : Str) (ps : List Str) (sp : Sp) : Prop := ∃ f fd, mg x = some (.ref f) ∧ PySem.W.keepIn K (.ref f) = true ∧ Binds K fd ps [] ∧ FnOk P w K mg base CX k f fd ps sp
/-- the method m of the class C keeps sp -/
def MOk (CX : CXT) (k : Nat) (C m : Str) (ps : List Str) (sp : Sp) : Prop := ∃ f fd, Cls K (He.ga K C) ∧ Meth K (He.ga K C) m f ∧ Binds K fd ps [] ∧ FnOk P w K mg base CX k f fd ps sp
/-- C(..) by its __init__, dvs the defaults that fill up -/
def COk (CX : CXT) (k : Nat) (C : Str) (ps : List Str) (dvs : List V) (sp : Sp) : Prop := ∃ f fd ds, mg C = some (.ref (He.ga K C)) ∧ Mk K (He.ga K C) f ∧ Vals dvs ds ∧ Binds K fd ps ds ∧ FnOk P w K mg base CX k f fd ps sp
end
section
variable {X : Cx} {CX : CXT} {k j : Nat} {x C m : Str} {ps : List Str} {sp : Sp} {dvs : List V} {E : XK} {p pos apos : Pos} {o e : Expr} {es : List Expr} {t : TA} {ta : TE}
theorem pe_g (G : GOk X.prog X.w X.K X.mg X.base CX k x ps sp) (hr : Room j X.A) (hk : k ≤ j) (hx : Passes CX X E) (ha : PA X (e :: es) t) (hg : Gl X x := by rfl) (hdb : (x == ("__debug__" : Str)) = false := by decide)
    (he : starEach (e :: es) X.env = (false, eval e X.env) :: starEach es X.env := by rfl) (hpl : (backTo pos (starEach es X.env)).any (·.1) = false := by rfl) : PE X (.Call (.Name x p) (e :: es) [] pos) (tCall sp [] E t) := by
  obtain ⟨f, fd, hm, kp, b, F⟩ := G
  exact pe_call F (hr.mono hk) hg hm kp b .nil hx ha hdb he hpl
theorem pe_m {pl : Sem Bool} (M : MOk X.prog X.w X.K X.mg X.base CX k C m ps sp) (hr : Room j X.A) (hk : k ≤ j) (hx : Passes CX X E) (ho : PE X o ta) (ha : PA X (e :: es) t)
    (hst : starEach (e :: es) X.env = (false, eval e X.env) :: starEach es X.env := by rfl) (hpl : (backTo pos (starEach es X.env)).any (·.1) = false := by rfl)
    (ht : eval (.Call (.Attribute o m apos) (e :: es) [] pos) X.env = (do
      let ov ← eval o X.env
      standAt apos.atName
      let (f, first) ← holding [ov] (getMethod ov m pl)
      callWith pos f first (backTo pos (starEach (e :: es) X.env)) (backToKw pos (keywordEach [] X.env))) := by rfl) : PE X (.Call (.Attribute o m apos) (e :: es) [] pos) (tMeth (He.ga X.K C) m sp [] E ta t) := by
  obtain ⟨f, fd, c, hm, b, F⟩ := M
  exact pe_meth ho c hm F (hr.mono hk) b .nil hx ha hst hpl ht
theorem pe_m0 {pl : Sem Bool} (M : MOk X.prog X.w X.K X.mg X.base CX k C m ps sp) (hr : Room j X.A) (hk : k ≤ j) (hx : Passes CX X E) (ho : PE X o ta)
    (ht : eval (.Call (.Attribute o m apos) [] [] pos) X.env = (do
      let ov ← eval o X.env
      standAt apos.atName
      let (f, first) ← holding [ov] (getMethod ov m pl)
      callWith pos f first (backTo pos (starEach [] X.env)) (backToKw pos (keywordEach [] X.env))) := by rfl) : PE X (.Call (.Attribute o m apos) [] [] pos) (tMeth (He.ga X.K C) m sp [] E ta tNil) := by
  obtain ⟨f, fd, c, hm, b, F⟩ := M
  exact pe_meth0 ho c hm F (hr.mono hk) b .nil hx ht
theorem pe_c (G : COk X.prog X.w X.K X.mg X.base CX k C ps dvs sp) (hr : Room j X.A) (hk : k + 1 ≤ j) (hx : Passes CX X E) (ha : PA X (e :: es) t) (hg : Gl X C := by rfl) (hdb : (C == ("__debug__" : Str)) = false := by decide)
    (he : starEach (e :: es) X.env = (false, eval e X.env) :: starEach es X.env := by rfl) (hpl : (backTo pos (starEach es X.env)).any (·.1) = false := by rfl) : PE X (.Call (.Name C p) (e :: es) [] pos) (tMake (He.ga X.K C) sp dvs E t) := by
  obtain ⟨f, fd, ds, hm, M, hd, b, F⟩ := G
  exact pe_make M F (hr.mono hk) hg hm b hd hx ha hdb he hpl
end
section
variable {P : Program} {w : World} {K : PySem.W.Frag} {mg : Str → Option Value} {base : Heap} {qual x : Str} {st : Stmt} {f : Addr} {fd : FuncData} {N ps : List Str} {k : Nat} {sp : Sp} {dvs : List V} {kws : List (Str × V)}
/-- a def out of which no exception comes, by its body -/
theorem ok0 (F : FunD K x qual (defArgs st) (defBody st) (defScope st) dvs kws f fd) (S : FnScope N ps (defScope st)) (len : ∀ vs H Q E, sp vs H Q E → vs.length = ps.length)
    (hb : ∀ (cdv : Value) (A : Around) (outer : List Env) (s : Shared) (H : Hp) (vs : List V) (Q : VK) (E : XK), Room k (A.deeper (envOfC qual (defScope st) s.heap.objs.size f cdv)) → sp vs H Q E →
      ∃ t, PSs (cxOf CX0 P w K mg base N qual (defScope st) f cdv A outer s H E).nox (defBody st) t ∧ t { nx := fun _ H' => Q .non H', rt := Q } (start N vs) H) : FnOk P w K mg base CX0 (k + 1) f fd ps sp := by
  refine F.ok S len fun cdv A outer s H vs Q E hr hsp => ?_
  obtain ⟨t, h, q⟩ := hb cdv A outer s H vs Q E hr hsp
  exact ⟨t, h.nox, q⟩
end
/-! ### what stands in the heap -/
/-- the fields of a Piece -/
def pFs (t : Str) (sa pa : Addr) : List (Str × V) := [("text", .str t), ("signs", .ref sa), ("paint", .ref pa)]
/-- a sign: where it came from; its column c, its way -/
def SgAt (K : PySem.W.Frag) (H : Hp) (v : V) (c : Int) : Prop := ∃ (a w : Addr) (pg rw : V) (ws : List V), v = .ref a ∧ SqT K H a [pg, rw, .int c, .ref w] ∧ SqT K H w ws ∧ ws.length ≤ 100
/-- a Piece stands at a: its text, its first sign's column, its paint -/
def PcAt (K : PySem.W.Frag) (H : Hp) (a : Addr) (t : Str) (c : Int) (pn : List Str) : Prop := ∃ (dx sa pa : Addr) (sgs : List V), H a = some (.ins (He.ga K "Piece") dx (pFs t sa pa)) ∧ SqT K H sa sgs ∧ sgs ≠ [] ∧ sgs.length ≤ 5000 ∧
  (∀ v ∈ sgs, ∃ c, SgAt K H v c) ∧ (∀ v, sgs[0]? = some v → SgAt K H v c) ∧ SqT K H pa (pn.map V.str)
/-- a Piece stands at a: its text, its first sign's column (nothing of ways and paint) -/
def PcD (K : PySem.W.Frag) (H : Hp) (a : Addr) (t : Str) (c : Int) : Prop := ∃ (dx sa pa g : Addr) (sgs : List V) (pg rw w : V), H a = some (.ins (He.ga K "Piece") dx (pFs t sa pa)) ∧ SqT K H sa sgs ∧ sgs[0]? = some (.ref g) ∧ SqT K H g [pg, rw, .int c, w]
theorem PcAt.pd {K : PySem.W.Frag} {H : Hp} {a : Addr} {t : Str} {c : Int} {pn : List Str} (h : PcAt K H a t c pn) : PcD K H a t c := by
  obtain ⟨dx, sa, pa, sgs, h1, h2, h3, h4, h5, h6, h7⟩ := h
  cases sgs with
  | nil => exact absurd rfl h3
  | cons v r =>
    obtain ⟨g, w, pg, rw, ws, rfl, k2, k3, k4⟩ := h6 v rfl
    exact ⟨dx, sa, pa, g, _, pg, rw, .ref w, h1, h2, rfl, k2⟩
theorem Same.sqt {K : PySem.W.Frag} {H H' : Hp} {a : Addr} {xs : List V} (e : Same H H') (h : SqT K H a xs) : SqT K H' a xs := by
  rcases h with (h | ⟨o, h⟩) | h
  · exact .inl (.inl (e _ _ h))
  · exact .inl (.inr ⟨o, e _ _ h⟩)
  · exact .inr h
theorem Same.sg {K : PySem.W.Frag} {H H' : Hp} {v : V} {c : Int} (e : Same H H') (h : SgAt K H v c) : SgAt K H' v c := by
  obtain ⟨a, w, pg, rw, ws, h1, h2, h3, h4⟩ := h
  exact ⟨a, w, pg, rw, ws, h1, Same.sqt e h2, Same.sqt e h3, h4⟩
theorem Same.pc {K : PySem.W.Frag} {H H' : Hp} {a : Addr} {t : Str} {c : Int} {pn : List Str} (e : Same H H') (h : PcAt K H a t c pn) : PcAt K H' a t c pn := by
  obtain ⟨dx, sa, pa, sgs, h1, h2, h3, h4, h5, h6, h7⟩ := h
  exact ⟨dx, sa, pa, sgs, e _ _ h1, Same.sqt e h2, h3, h4, fun v hv => let ⟨c, z⟩ := h5 v hv; ⟨c, Same.sg e z⟩, fun v hv => Same.sg e (h6 v hv), Same.sqt e h7⟩
theorem Same.pd {K : PySem.W.Frag} {H H' : Hp} {a : Addr} {t : Str} {c : Int} (e : Same H H') (h : PcD K H a t c) : PcD K H' a t c := by
  obtain ⟨dx, sa, pa, g, sgs, pg, rw, w, h1, h2, h3, h4⟩ := h
  exact ⟨dx, sa, pa, g, sgs, pg, rw, w, e _ _ h1, Same.sqt e h2, h3, Same.sqt e h4⟩
theorem same_upd {H : Hp} {p : Addr} (h : H p = none) (o : HO) : Same H (upd H p o) := fun b u q => by
  rw [upd_ne (ne_of_none q h)]
  exact q
end Bp

/-! text: D1 -/
set_option Elab.async false
set_option linter.all false
set_option maxRecDepth 100000
set_option maxHeartbeats 4000000
/-! tokens -/
namespace Bp
open PySem PySem.Spec PyProof.Rows L2
section
variable {P : Program} {w : World} {K : PySem.W.Frag} {mg : Str → Option Value} {base : Heap}
/-! ### codes -/
def isLetter (c : Nat) : Bool := decide (c ∈ ("abcdefghijklmnopqrstuvwxyzABCDEFGHIJKLMNOPQRSTUVWXYZ" : Str).cps.toList)
def isFigure (c : Nat) : Bool := decide (c ∈ ("0123456789" : Str).cps.toList)
def headLetter (t : Str) : Bool := match t.cps.toList with
  | c :: _ => isLetter c
  | [] => false
def spIsName : Sp := fun vs H Q _ => ∃ t : Str, vs = [.str t] ∧ t.length ≠ 0 ∧ t.length ≤ sizeLine ∧ Q (.bl (headLetter t)) H
theorem sc_is_name : FnScope ["text"] ["text"] (defScope s_is_name) := ⟨rfl, rfl, rfl, by decide +kernel, rfl, by decide +kernel, by decide +kernel⟩
theorem ok_is_name (T : Top w K mg) : GOk P w K mg base CX0 1 "is_name" ["text"] spIsName := by
  obtain ⟨fd, F⟩ := T.f_is_name
  refine ⟨_, fd, T.g_is_name, F.kp, F.bindsN fun _ _ _ _ _ _ us hl => match us, hl with | [_], _ => rfl, ok0 F sc_is_name (fun vs H Q E h => ?_) (fun cdv A outer s H vs Q E hr h => ?_)⟩
  · obtain ⟨t, rfl, _⟩ := h
    rfl
  · obtain ⟨t, rfl, h0, h1, q⟩ := h
    obtain ⟨t_LETTERS, h_LETTERS⟩ := T.t_LETTERS
    refine ⟨_, (pss_one (ps_ret (pe_cmpR op_in_sign (pe_ix ix_str (pv 0) pe_int (fun _ _ => rfl)) (pe_glob (v := .str "abcdefghijklmnopqrstuvwxyzABCDEFGHIJKLMNOPQRSTUVWXYZ") rfl h_LETTERS ⟨_, rfl⟩) (by rfl)))), ?_⟩
    obtain ⟨cs⟩ := t
    obtain ⟨l⟩ := cs
    cases l with
    | nil => exact absurd rfl h0
    | cons c r => exact ⟨_, rfl, _, _, c, rfl, rfl, h1, atI_nat (j := 0) rfl, _, _, rfl, rfl, q⟩
def isAl (c : Nat) : Bool := isLetter c || isFigure c
def wordLen (r : List Nat) : Nat := (r.takeWhile isAl).length
theorem wordLen_le : ∀ r : List Nat, wordLen r ≤ r.length
  | [] => Nat.le_refl 0
  | c :: r => by
    have ih := wordLen_le r
    unfold wordLen at ih ⊢
    cases q : isAl c with
    | true =>
      rw [List.takeWhile_cons_of_pos q]
      exact Nat.succ_le_succ ih
    | false =>
      rw [List.takeWhile_cons_of_neg (by rw [q]; exact Bool.false_ne_true)]
      exact Nat.zero_le _
theorem wordLen_in : ∀ (r : List Nat) (k : Nat), k < wordLen r → ∃ c, r[k]? = some c ∧ isAl c = true
  | [], k, h => absurd h (Nat.not_lt_zero k)
  | c :: r, k, h => by
    cases q : isAl c with
    | false =>
      have e : wordLen (c :: r) = 0 := by
        unfold wordLen
        rw [List.takeWhile_cons_of_neg (by rw [q]; exact Bool.false_ne_true)]
        rfl
      rw [e] at h
      exact absurd h (Nat.not_lt_zero k)
    | true =>
      cases k with
      | zero => exact ⟨c, rfl, q⟩
      | succ k =>
        have e : wordLen (c :: r) = wordLen r + 1 := by
          unfold wordLen
          rw [List.takeWhile_cons_of_pos q]
          rfl
        rw [e] at h
        obtain ⟨d, h1, h2⟩ := wordLen_in r k (Nat.lt_of_succ_lt_succ h)
        exact ⟨d, by simpa using h1, h2⟩
theorem wordLen_out : ∀ (r : List Nat) (c : Nat), r[wordLen r]? = some c → isAl c = false
  | [], c, h => by simp at h
  | d :: r, c, h => by
    cases q : isAl d with
    | false =>
      have e : wordLen (d :: r) = 0 := by
        unfold wordLen
        rw [List.takeWhile_cons_of_neg (by rw [q]; exact Bool.false_ne_true)]
        rfl
      rw [e] at h
      rw [← Option.some.inj h]
      exact q
    | true =>
      have e : wordLen (d :: r) = wordLen r + 1 := by
        unfold wordLen
        rw [List.takeWhile_cons_of_pos q]
        rfl
      rw [e] at h
      exact wordLen_out r c (by simpa using h)
theorem len_codes (z : Str) : z.length = z.cps.toList.length := by
  obtain ⟨⟨l⟩⟩ := z
  rfl
def spWordEnd : Sp := fun vs H Q _ => ∃ (z : Str) (a : Nat), vs = [.str z, .int a] ∧ a ≤ z.length ∧ z.length ≤ sizeLine ∧ Q (.int ((a + wordLen (z.cps.toList.drop a) : Nat) : Int)) H
theorem sc_word_end : FnScope ["row", "at", "end"] ["row", "at"] (defScope s_word_end) := ⟨rfl, rfl, rfl, by decide +kernel, rfl, by decide +kernel, by decide +kernel⟩
theorem ok_word_end (T : Top w K mg) : GOk P w K mg base CX0 1 "word_end" ["row", "at"] spWordEnd := by
  obtain ⟨fd, F⟩ := T.f_word_end
  refine ⟨_, fd, T.g_word_end, F.kp, F.bindsN fun _ _ _ _ _ _ us hl => match us, hl with | [_, _], _ => rfl, ok0 F sc_word_end (fun vs H Q E h => ?_) (fun cdv A outer s H vs Q E hr h => ?_)⟩
  · obtain ⟨z, a, rfl, _⟩ := h
    rfl
  · obtain ⟨z, a, rfl, ha, hz, q⟩ := h
    obtain ⟨t_LETTERS, h_LETTERS⟩ := T.t_LETTERS
    obtain ⟨t_FIGURES, h_FIGURES⟩ := T.t_FIGURES
    refine ⟨_, (pss_cons (ps_set (i := 2) sc_word_end.nd rfl (Or.inl rfl) (pv 1))
      (pss_cons (ps_while PassesOwn.never (PW.pt (pw_and (pt_cmpR op_lt (pv 2) (pe_callB call_len_str (by rfl) T.b_len PySem.boot_len (pa_cons (pv 0) pa_nil)) (nomark _)) (pw_and1 (PW.pt (pw_or (pt_cmpR op_in_sign (pe_ix ix_str (pv 0) (pv 2) (fun _ _ => rfl)) (pe_glob (v := .str "abcdefghijklmnopqrstuvwxyzABCDEFGHIJKLMNOPQRSTUVWXYZ") rfl h_LETTERS ⟨_, rfl⟩) (by rfl)) (pw_or1 (pt_cmpR op_in_sign (pe_ix ix_str (pv 0) (pv 2) (fun _ _ => rfl)) (pe_glob (v := .str "0123456789") rfl h_FIGURES ⟨_, rfl⟩) (by rfl))))))))
        (pss_one (ps_aug (i := 2) sc_word_end.nd rfl (Or.inl rfl) pe_int ip_add)))
      (pss_one (ps_ret (pv 2))))), ?_⟩
    refine ⟨_, rfl, fun m σ H' => ∃ k : Nat, k ≤ wordLen (z.cps.toList.drop a) ∧ m = wordLen (z.cps.toList.drop a) - k ∧ σ = [some (.str z), some (.int a), some (.int ((a + k : Nat) : Int))] ∧ H' = H, ⟨_, 0, Nat.zero_le _, rfl, rfl, rfl⟩, ?_⟩
    rintro m σ H' ⟨k, hk, rfl, rfl, rfl⟩
    have hwl := wordLen_le (z.cps.toList.drop a)
    rw [List.length_drop, ← len_codes] at hwl
    refine ⟨_, rfl, _, rfl, z, rfl, hz, _, _, rfl, rfl, _, rfl, ?_⟩
    by_cases c : ((a + k : Nat) : Int) < ((z.length : Nat) : Int)
    · rw [decide_eq_true c]
      refine iteT ?_
      have hlt : a + k < z.cps.toList.length := by rw [← len_codes]; omega
      have e : z.cps.toList[a + k]? = some (z.cps.toList[a + k]) := List.getElem?_eq_getElem hlt
      have e2 : (z.cps.toList.drop a)[k]? = some (z.cps.toList[a + k]) := by rw [List.getElem?_drop]; exact e
      generalize z.cps.toList[a + k] = d at e e2
      refine ⟨_, rfl, _, rfl, z, _, d, rfl, rfl, hz, atI_nat e, _, _, rfl, rfl, _, rfl, ?_⟩
      have goOn : isAl d = true → ∃ N : L2.St → Hp → Prop, (∀ σ' H'', N σ' H'' → ∃ m', m' < wordLen (z.cps.toList.drop a) - k ∧ ∃ k' : Nat, k' ≤ wordLen (z.cps.toList.drop a) ∧ m' = wordLen (z.cps.toList.drop a) - k' ∧ σ' = [some (V.str z), some (V.int a), some (V.int ((a + k' : Nat) : Int))] ∧ H'' = H') ∧ N [some (V.str z), some (V.int a), some (V.int (((a + k : Nat) : Int) + 1))] H' := by
        intro hd
        have hk2 : k < wordLen (z.cps.toList.drop a) := by
          rcases Nat.lt_or_ge k (wordLen (z.cps.toList.drop a)) with h | h
          · exact h
          · have ek : k = wordLen (z.cps.toList.drop a) := Nat.le_antisymm hk h
            rw [ek] at e2
            rw [wordLen_out _ _ e2] at hd
            cases hd
        exact ⟨fun σ' H'' => σ' = [some (V.str z), some (V.int a), some (V.int (((a + k : Nat) : Int) + 1))] ∧ H'' = H', fun σ' H'' ⟨e1, e3⟩ => ⟨_, by omega, k + 1, hk2, rfl, e1, e3⟩, rfl, rfl⟩
      have stop : isAl d = false → k = wordLen (z.cps.toList.drop a) := by
        intro hd
        rcases Nat.lt_or_ge k (wordLen (z.cps.toList.drop a)) with h | h
        · obtain ⟨d', h1, h2⟩ := wordLen_in _ k h
          rw [e2] at h1
          rw [← Option.some.inj h1, hd] at h2
          cases h2
        · exact Nat.le_antisymm hk h
      by_cases c1 : isLetter d = true
      · refine ite2 (fun _ => ?_) (fun n => absurd c1 n)
        refine iteT ?_
        obtain ⟨N, h1, h2⟩ := goOn (by unfold isAl; rw [c1]; rfl)
        exact ⟨N, h1, _, rfl, _, _, rfl, rfl, h2⟩
      · refine ite2 (fun n => absurd n c1) (fun _ => ?_)
        refine ⟨_, rfl, _, rfl, z, _, d, rfl, rfl, hz, atI_nat e, _, _, rfl, rfl, _, rfl, ?_⟩
        by_cases c2 : isFigure d = true
        · refine ite2 (fun _ => ?_) (fun n => absurd c2 n)
          obtain ⟨N, h1, h2⟩ := goOn (by unfold isAl; rw [c2, Bool.or_true])
          exact ⟨N, h1, _, rfl, _, _, rfl, rfl, h2⟩
        · refine ite2 (fun n => absurd n c2) (fun _ => ?_)
          have ek := stop (by unfold isAl; rw [Bool.eq_false_iff.mpr c1, Bool.eq_false_iff.mpr c2]; rfl)
          refine ⟨_, rfl, ?_⟩
          rw [ek]
          exact q
    · rw [decide_eq_false c]
      refine iteF (iteF ?_)
      have ek : k = wordLen (z.cps.toList.drop a) := by omega
      refine ⟨_, rfl, ?_⟩
      rw [ek]
      exact q
end
end Bp

/-! text: D2 -/
set_option Elab.async false
set_option linter.all false
set_option maxRecDepth 100000
set_option maxHeartbeats 4000000
/-! pieces, and how a row is read -/
namespace Bp
open PySem PySem.Spec PyProof.Rows L2
section
variable {P : Program} {w : World} {K : PySem.W.Frag} {mg : Str → Option Value} {base : Heap}
theorem ne_ts : ¬ (("text" : Str) = "signs") := by decide +kernel
theorem ne_tp : ¬ (("text" : Str) = "paint") := by decide +kernel
theorem ne_sp : ¬ (("signs" : Str) = "paint") := by decide +kernel
theorem pFs_is (t : Str) (sa pa : Addr) : putF "paint" (.ref pa) (putF "signs" (.ref sa) (putF "text" (.str t) [])) = pFs t sa pa := by
  show putF "paint" (V.ref pa) (if ("text" : Str) = "signs" then _ else (("text" : Str), V.str t) :: putF "signs" (.ref sa) []) = _
  rw [if_neg ne_ts]
  show (if ("text" : Str) = "paint" then _ else (("text" : Str), V.str t) :: (if ("signs" : Str) = "paint" then _ else (("signs" : Str), V.ref sa) :: putF "paint" (.ref pa) [])) = _
  rw [if_neg ne_tp, if_neg ne_sp]
  rfl
theorem pFs_text (t : Str) (sa pa : Addr) : (pFs t sa pa).lookup ("text" : Str) = some (.str t) := by
  rw [← pFs_is, lookup_putF, if_neg ne_tp, lookup_putF, if_neg ne_ts, lookup_putF, if_pos rfl]
theorem pFs_signs (t : Str) (sa pa : Addr) : (pFs t sa pa).lookup ("signs" : Str) = some (.ref sa) := by
  rw [← pFs_is, lookup_putF, if_neg ne_sp, lookup_putF, if_pos rfl]
theorem pFs_paint (t : Str) (sa pa : Addr) : (pFs t sa pa).lookup ("paint" : Str) = some (.ref pa) := by
  rw [← pFs_is, lookup_putF, if_pos rfl]
theorem pFs_no (t : Str) (sa pa : Addr) {m : Str} (h1 : ¬ m = "paint") (h2 : ¬ m = "signs") (h3 : ¬ m = "text") : (pFs t sa pa).lookup m = none := by
  rw [← pFs_is, lookup_putF, if_neg h1, lookup_putF, if_neg h2, lookup_putF, if_neg h3]
  rfl
/-! ### Piece(text, signs, paint) -/
def spPieceI (K : PySem.W.Frag) : Sp := fun vs H Q _ => ∃ (p dx sa pa : Addr) (t : Str), vs = [.ref p, .str t, .ref sa, .ref pa] ∧ H p = some (.ins (He.ga K "Piece") dx []) ∧ Q .non (upd H p (.ins (He.ga K "Piece") dx (pFs t sa pa)))
theorem sc_Piece_init : FnScope ["self", "text", "signs", "paint"] ["self", "text", "signs", "paint"] (defScope s_Piece_init) := ⟨rfl, rfl, rfl, by decide +kernel, rfl, by decide +kernel, by decide +kernel⟩
theorem fn_Piece (T : Top w K mg) {fd : FuncData} (F : FunD K "__init__" "Piece.__init__" (defArgs s_Piece_init) (defBody s_Piece_init) (defScope s_Piece_init) [.ref (He.dflAt ("Piece", some "__init__") 0 K)] [] (He.ma K (He.ga K "Piece") "__init__") fd) :
    FnOk P w K mg base CX0 1 (He.ma K (He.ga K "Piece") "__init__") fd ["self", "text", "signs", "paint"] (spPieceI K) := by
  refine ok0 F sc_Piece_init (fun vs H Q E h => ?_) (fun cdv A outer s H vs Q E hr h => ?_)
  · obtain ⟨p, dx, sa, pa, t, rfl, _⟩ := h
    rfl
  · obtain ⟨p, dx, sa, pa, t, rfl, hp, q⟩ := h
    refine ⟨_, (pss_cons (ps_fld (pv 0) (pv 1) rfl)
      (pss_cons (ps_fld (pv 0) (pv 2) rfl)
      (pss_one (ps_fld (pv 0) (pv 3) rfl)))), ?_⟩
    refine ⟨_, rfl, _, rfl, p, _, dx, [], rfl, hp, T.c_Piece, T.n_Piece_text, (by decide), ?_⟩
    refine ⟨_, rfl, _, rfl, p, _, dx, _, rfl, upd_same, T.c_Piece, T.n_Piece_signs, (by show 1 < 1000; decide), ?_⟩
    refine ⟨_, rfl, _, rfl, p, _, dx, _, rfl, upd_same, T.c_Piece, T.n_Piece_paint, (by show 2 < 1000; decide), ?_⟩
    rw [upd_upd, upd_upd, pFs_is]
    exact q
/-- with three arguments -/
theorem ok_Piece3 (T : Top w K mg) : COk P w K mg base CX0 1 "Piece" ["self", "text", "signs", "paint"] [] (spPieceI K) := by
  obtain ⟨fd, F⟩ := T.f_Piece_init
  obtain ⟨ds, hv, hb⟩ := F.binds1 (ps := ["self", "text", "signs", "paint"]) 4 1 (by simp) rfl fun _ _ _ _ _ _ _ us its hl hi => match us, hl, its, hi with | [_, _, _, _], _, [_], _ => ⟨_, rfl, rfl⟩
  exact ⟨_, fd, ds, T.g_Piece, T.k_Piece, hv, hb, fn_Piece T F⟩
/-- with two: paint is the empty tuple -/
theorem ok_Piece2 (T : Top w K mg) : COk P w K mg base CX0 1 "Piece" ["self", "text", "signs", "paint"] [.ref (He.dflAt ("Piece", some "__init__") 0 K)] (spPieceI K) := by
  obtain ⟨fd, F⟩ := T.f_Piece_init
  obtain ⟨ds, hv, hb⟩ := F.binds1 (ps := ["self", "text", "signs", "paint"]) 3 0 (by simp) rfl fun _ _ _ _ _ _ _ us its hl hi => match us, hl, its, hi with | [_, _, _], _, [_], _ => ⟨_, rfl, rfl⟩
  exact ⟨_, fd, ds, T.g_Piece, T.k_Piece, hv, hb, fn_Piece T F⟩
/-- the empty tuple that stands for no paint -/
theorem em_sq (T : Top w K mg) (H : Hp) : SqT K H (He.dflAt ("Piece", some "__init__") 0 K) [] := by
  have h := (He.ba (He.ba (He.ba (He.ba (He.ba T.ex).2).2).2).2).1
  unfold emB at h
  cases q : K.lookup (He.dflAt ("Piece", some "__init__") 0 K) with
  | none =>
    rw [q] at h
    cases h
  | some o =>
    obtain ⟨oc, od, dt, osl⟩ := o
    rw [q] at h
    cases oc with
    | type c =>
      cases dt with
      | seq its n =>
        have h2 := He.ba (show (decide (c = "tuple") && decide (its.size = 0)) = true from h)
        have e1 := of_decide_eq_true h2.1
        have e2 := of_decide_eq_true h2.2
        refine .inr ⟨_, its, n, q, congrArg Value.type e1, rfl, by rw [e2]; exact Nat.zero_le _, ?_⟩
        have e3 : its.toList = [] := by simpa using e2
        rw [e3]
        exact .nil
      | _ => cases h
    | _ => cases dt <;> cases h
/-- what a Piece just made is -/
theorem same_made {H : Hp} {x dx : Addr} {o : HO} (hx : H x = none) (hd : H dx = none) : Same H (upd (upd H dx (.own x)) x o) := fun b u q => by
  rw [upd_ne (ne_of_none q hx), upd_ne (ne_of_none q hd)]
  exact q
/-! ### stands(), len(piece) -/
def spStands (K : PySem.W.Frag) : Sp := fun vs H Q _ => ∃ (a : Addr) (t : Str) (c : Int), vs = [.ref a] ∧ PcD K H a t c ∧ ∀ p pg rw, H p = none → Q (.ref p) (upd H p (.tup [pg, rw, .int c]))
theorem sc_Piece_stands : FnScope ["self"] ["self"] (defScope s_Piece_stands) := ⟨rfl, rfl, rfl, by decide +kernel, rfl, by decide +kernel, by decide +kernel⟩
theorem ok_stands (T : Top w K mg) : MOk P w K mg base CX0 1 "Piece" "stands" ["self"] (spStands K) := by
  obtain ⟨fd, F⟩ := T.f_Piece_stands
  refine ⟨_, fd, T.c_Piece, T.m_Piece_stands, F.bindsN fun _ _ _ _ _ _ us hl => match us, hl with | [_], _ => rfl, ok0 F sc_Piece_stands (fun vs H Q E h => ?_) (fun cdv A outer s H vs Q E hr h => ?_)⟩
  · obtain ⟨a, t, c, rfl, _⟩ := h
    rfl
  · obtain ⟨a, t, c, rfl, ⟨dx, sa, pa, g, sgs, pg, rw', wv, h1, h2, h3, g1⟩, q⟩ := h
    refine ⟨_, (pss_one (ps_ret (pe_slice sl_tup (pe_ix ix_tup (pe_fld (pv 0) rfl) pe_int (fun _ _ => rfl)) po_none (po_some pe_int)))), ?_⟩
    refine ⟨_, rfl, a, _, dx, _, _, rfl, h1, T.c_Piece, T.n_Piece_signs, pFs_signs _ _ _, sa, _, 0, _, rfl, rfl, h2, atI_nat (j := 0) h3, 3, rfl, g, _, rfl, g1, ?_, fun p hp => ?_⟩
    · show ¬ (0 = 0 ∧ 3 = 4)
      decide
    · exact q p pg rw' hp
def spPieceLen (K : PySem.W.Frag) : Sp := fun vs H Q _ => ∃ (a : Addr) (t : Str) (c : Int), vs = [.ref a] ∧ PcD K H a t c ∧ t.length ≤ sizeLine ∧ Q (.int t.length) H
theorem sc_Piece_len : FnScope ["self"] ["self"] (defScope s_Piece_len) := ⟨rfl, rfl, rfl, by decide +kernel, rfl, by decide +kernel, by decide +kernel⟩
theorem ok_Piece_len (T : Top w K mg) : ∃ fd, Meth K (He.ga K "Piece") "__len__" (He.ma K (He.ga K "Piece") "__len__") ∧ Binds K fd ["self"] [] ∧ FnOk P w K mg base CX0 1 (He.ma K (He.ga K "Piece") "__len__") fd ["self"] (spPieceLen K) := by
  obtain ⟨fd, F⟩ := T.f_Piece_len
  refine ⟨fd, T.m_Piece_len, F.bindsN fun _ _ _ _ _ _ us hl => match us, hl with | [_], _ => rfl, ok0 F sc_Piece_len (fun vs H Q E h => ?_) (fun cdv A outer s H vs Q E hr h => ?_)⟩
  · obtain ⟨a, t, c, rfl, _⟩ := h
    rfl
  · obtain ⟨a, t, c, rfl, ⟨dx, sa, pa, g, sgs, pg, rw', wv, h1, _⟩, hz, q⟩ := h
    refine ⟨_, (pss_one (ps_ret (pe_callB call_len_str (by rfl) T.b_len PySem.boot_len (pa_cons (pe_fld (pv 0) rfl) pa_nil)))), ?_⟩
    exact ⟨_, rfl, a, _, dx, _, _, rfl, h1, T.c_Piece, T.n_Piece_text, pFs_text _ _ _, t, rfl, hz, q⟩
end
end Bp

/-! text: D3 -/
set_option Elab.async false
set_option linter.all false
set_option maxRecDepth 100000
set_option maxHeartbeats 4000000
/-! a row's pieces -/
namespace Bp
open PySem PySem.Spec PyProof.Rows L2
/-! ### what is read -/
def strN (l : List Nat) : Str := ⟨l.toArray⟩
def pairAt (r : List Nat) : Bool := inV (.str (strN (r.take 2))) (pairsL.map V.str)
def tokLen (r : List Nat) : Nat := match r with
  | [] => 0
  | c :: _ => if isAl c = true then wordLen r else if pairAt r = true then 2 else 1
def lexF : Nat → Nat → List Nat → List (Str × Nat)
  | 0, _, _ => []
  | _ + 1, _, [] => []
  | n + 1, c, d :: r => if d = 32 then lexF n (c + 1) r else (strN ((d :: r).take (tokLen (d :: r))), c) :: lexF n (c + tokLen (d :: r)) ((d :: r).drop (tokLen (d :: r)))
def lexS (z : Str) : List (Str × Nat) := lexF z.cps.toList.length 0 z.cps.toList
theorem wordLen_pos {c : Nat} {r : List Nat} (h : isAl c = true) : 1 ≤ wordLen (c :: r) := by
  unfold wordLen
  rw [List.takeWhile_cons_of_pos h]
  exact Nat.succ_le_succ (Nat.zero_le _)
theorem pair_short {c : Nat} : pairAt [c] = false := by
  show (pairsL.map V.str).any (fun y => eqV y (.str (strN [c]))) = false
  rw [List.any_map, List.any_eq_false]
  intro p hp
  have hl : p.length = 2 := by
    revert p
    decide +kernel
  show ¬ ((p == strN [c]) = true)
  intro q
  have e : p = strN [c] := by simpa using q
  rw [e] at hl
  exact absurd hl (by show ¬ (1 = 2); decide)
theorem tokLen_pos (c : Nat) (r : List Nat) : 1 ≤ tokLen (c :: r) := by
  show 1 ≤ (if isAl c = true then wordLen (c :: r) else if pairAt (c :: r) = true then 2 else 1)
  by_cases h : isAl c = true
  · rw [if_pos h]
    exact wordLen_pos h
  · rw [if_neg h]
    by_cases q : pairAt (c :: r) = true
    · rw [if_pos q]
      exact Nat.le_succ 1
    · rw [if_neg q]
      exact Nat.le_refl 1
theorem tokLen_le (r : List Nat) : tokLen r ≤ r.length := by
  cases r with
  | nil => exact Nat.le_refl 0
  | cons c r =>
    show (if isAl c = true then wordLen (c :: r) else if pairAt (c :: r) = true then 2 else 1) ≤ _
    split
    · exact wordLen_le _
    · split
      · rename_i h
        cases r with
        | nil =>
          rw [pair_short] at h
          cases h
        | cons d r =>
          show 2 ≤ r.length + 1 + 1
          omega
      · show 1 ≤ r.length + 1
        omega
theorem lexF_more : ∀ (n : Nat) (c : Nat) (r : List Nat), r.length ≤ n → lexF n c r = lexF r.length c r
  | 0, c, r, h => by
    have e : r = [] := List.length_eq_zero_iff.mp (Nat.le_zero.mp h)
    rw [e]
    rfl
  | n + 1, c, [], h => rfl
  | n + 1, c, d :: r, h => by
    have h1 : r.length ≤ n := Nat.le_of_succ_le_succ h
    show (if d = 32 then lexF n (c + 1) r else _ :: lexF n _ _) = (if d = 32 then lexF r.length (c + 1) r else _ :: lexF r.length _ _)
    have hp := tokLen_pos d r
    have hd : ((d :: r).drop (tokLen (d :: r))).length ≤ r.length := by
      rw [List.length_drop, List.length_cons]
      omega
    rw [lexF_more n (c + 1) r h1, lexF_more n _ _ (Nat.le_trans hd h1), ← lexF_more r.length _ _ hd]
termination_by n => n
theorem cut_mid (z : Str) (a b : Nat) (h : a ≤ z.length) : cutS z (some (a : Int)) (some (b : Int)) = strN ((z.cps.toList.drop a).take (b - a)) := by
  unfold cutS strN
  rw [HT.sIx_nat, HT.sIx_nat, Nat.min_eq_left h]
  congr 2
  rw [List.take_eq_take_iff, List.length_drop, ← len_codes]
  omega
section
variable {P : Program} {w : World} {K : PySem.W.Frag} {mg : Str → Option Value} {base : Heap}
theorem pairs_sq (T : Top w K mg) (H : Hp) : SqT K H (He.ga K "PAIRS") (pairsL.map V.str) := He.tupB_ok (He.ba (He.ba (He.ba T.ex).2).2).1 H
def spTokenEnd : Sp := fun vs H Q _ => ∃ (z : Str) (a d : Nat) (r : List Nat), vs = [.str z, .int a] ∧ z.length ≤ sizeLine ∧ z.cps.toList.drop a = d :: r ∧ d ≠ 34 ∧ Q (.int ((a + tokLen (d :: r) : Nat) : Int)) H
theorem drop_at {z : Str} {a d : Nat} {r : List Nat} (h : z.cps.toList.drop a = d :: r) : z.cps.toList[a]? = some d ∧ a < z.length := by
  have e : (z.cps.toList.drop a)[0]? = some d := by rw [h]; rfl
  rw [List.getElem?_drop, Nat.add_zero] at e
  refine ⟨e, ?_⟩
  rw [len_codes]
  exact (List.getElem?_eq_some_iff.mp e).1
theorem sign_ne {d e : Nat} (h : d ≠ e) : decide (V.str ⟨#[d]⟩ = V.str ⟨#[e]⟩) = false := by
  refine decide_eq_false fun q => h ?_
  have q1 := congrArg Array.toList (congrArg Str.cps (V.str.inj q))
  simpa using q1
theorem sc_token_end : FnScope ["row", "at", "sign", "closing"] ["row", "at"] (defScope s_token_end) := ⟨rfl, rfl, rfl, by decide +kernel, rfl, by decide +kernel, by decide +kernel⟩
theorem ok_token_end (T : Top w K mg) : GOk P w K mg base CX0 2 "token_end" ["row", "at"] spTokenEnd := by
  obtain ⟨fd, F⟩ := T.f_token_end
  refine ⟨_, fd, T.g_token_end, F.kp, F.bindsN fun _ _ _ _ _ _ us hl => match us, hl with | [_, _], _ => rfl, ok0 F sc_token_end (fun vs H Q E h => ?_) (fun cdv A outer s H vs Q E hr h => ?_)⟩
  · obtain ⟨z, a, d, r, rfl, _⟩ := h
    rfl
  · obtain ⟨z, a, d, r, rfl, hz, hd, h34, q⟩ := h
    obtain ⟨t_LETTERS, h_LETTERS⟩ := T.t_LETTERS
    obtain ⟨t_FIGURES, h_FIGURES⟩ := T.t_FIGURES
    have g_word_end := ok_word_end (P := P) (base := base) T
    obtain ⟨e, hlt⟩ := drop_at hd
    refine ⟨_, (pss_cons (ps_set (i := 2) sc_token_end.nd rfl (Or.inl rfl) (pe_ix ix_str (pv 0) (pv 1) (fun _ _ => rfl)))
      (pss_cons (ps_if (pt_cmpR op_eq (pv 2) pe_str (nomark _))
        (pss_cons ps_never
      (pss_one ps_never))
        pss_nil)
      (pss_cons (ps_if (PW.pt (pw_or (pt_cmpR op_in_sign (pv 2) (pe_glob (v := .str "abcdefghijklmnopqrstuvwxyzABCDEFGHIJKLMNOPQRSTUVWXYZ") rfl h_LETTERS ⟨_, rfl⟩) (by rfl)) (pw_or1 (pt_cmpR op_in_sign (pv 2) (pe_glob (v := .str "0123456789") rfl h_FIGURES ⟨_, rfl⟩) (by rfl)))))
        (pss_one (ps_ret (pe_g g_word_end hr (by decide) pass0 (pa_cons (pv 0) (pa_cons (pv 1) pa_nil)))))
        pss_nil)
      (pss_one (ps_ret (pe_ifExp (pt_cmpR op_in_seq (pe_slice sl_str (pv 0) (po_some (pv 1)) (po_some (pe_op op_add (pv 1) pe_int))) (pe_glob (v := .ref (He.ga K "PAIRS")) rfl T.g_PAIRS rfl) (by rfl)) (pe_op op_add (pv 1) pe_int) (pe_op op_add (pv 1) pe_int))))))), ?_⟩
    refine ⟨_, rfl, _, rfl, z, _, d, rfl, rfl, hz, atI_nat e, ?_⟩
    refine ⟨_, rfl, rfl, _, rfl, ?_⟩
    rw [show (V.str (Str.ofString "\"")) = V.str ⟨#[34]⟩ from by decide +kernel, sign_ne h34]
    refine iteF ?_
    have fin1 : isAl d = true → tokLen (d :: r) = wordLen (z.cps.toList.drop a) := fun h => by
      show (if isAl d = true then _ else _) = _
      rw [if_pos h, hd]
    refine ⟨_, rfl, d, _, rfl, rfl, _, rfl, ?_⟩
    by_cases c1 : isLetter d = true
    · refine ite2 (fun _ => ?_) (fun n => absurd c1 n)
      refine iteT ⟨_, rfl, _, rfl, z, a, rfl, Nat.le_of_lt hlt, hz, ?_⟩
      rw [← fin1 (by unfold isAl; rw [c1]; rfl)]
      exact q
    · refine ite2 (fun n => absurd n c1) (fun _ => ?_)
      refine ⟨_, rfl, d, _, rfl, rfl, _, rfl, ?_⟩
      by_cases c2 : isFigure d = true
      · refine ite2 (fun _ => ?_) (fun n => absurd n fun z => z c2)
        refine ⟨_, rfl, _, rfl, z, a, rfl, Nat.le_of_lt hlt, hz, ?_⟩
        rw [← fin1 (by unfold isAl; rw [c2, Bool.or_true])]
        exact q
      · refine ite2 (fun n => absurd n c2) (fun _ => ?_)
        have na : ¬ isAl d = true := by
          unfold isAl
          rw [Bool.eq_false_iff.mpr c1, Bool.eq_false_iff.mpr c2]
          exact Bool.false_ne_true
        have et : tokLen (d :: r) = if pairAt (d :: r) = true then 2 else 1 := if_neg na
        refine ⟨_, rfl, _, rfl, _, rfl, _, rfl, _, _, rfl, rfl, _, rfl, z, rfl, hz, ?_⟩
        refine ⟨_, _, rfl, .inr (pairs_sq T _), rfl, by decide +kernel, _, rfl, ?_⟩
        have ec : cutS z (some (a : Int)) (some ((a : Int) + 2)) = strN ((d :: r).take 2) := by
          have z1 := cut_mid z a (a + 2) (Nat.le_of_lt hlt)
          rw [hd, Nat.add_sub_cancel_left] at z1
          exact z1
        rw [ec]
        show if pairAt (d :: r) = true then _ else _
        cases hp : pairAt (d :: r) with
        | true =>
          rw [hp] at et
          refine iteT ⟨_, rfl, _, _, rfl, rfl, ?_⟩
          rw [et] at q
          exact q
        | false =>
          rw [hp] at et
          refine iteF ⟨_, rfl, _, _, rfl, rfl, ?_⟩
          rw [et] at q
          exact q
end
end Bp

/-! text: D4 -/
set_option Elab.async false
set_option linter.all false
set_option maxRecDepth 100000
set_option maxHeartbeats 4000000
/-! pieces_of -/
namespace Bp
open PySem PySem.Spec PyProof.Rows L2
/-- a row of pieces stands: texts and columns -/
def Pcs (K : PySem.W.Frag) (H : Hp) (ps : List Addr) (ts : List (Str × Nat)) : Prop := Paired (fun a (t : Str × Nat) => PcAt K H a t.1 (t.2 : Int) []) ps ts
theorem Same.pcs {K : PySem.W.Frag} {H H' : Hp} {ps : List Addr} {ts : List (Str × Nat)} (e : Same H H') (h : Pcs K H ps ts) : Pcs K H' ps ts := Paired.mapP h fun _ _ q => Same.pc e q
/-- all that was there is as it was, but p -/
def SameBut (p : Addr) (H H' : Hp) : Prop := ∀ b o, b ≠ p → H b = some o → H' b = some o
theorem lst_ne_pc {K : PySem.W.Frag} {H : Hp} {a p : Addr} {t : Str} {c : Int} {pn : List Str} {xs : List V} (h : PcAt K H a t c pn) (hp : H p = some (.lst xs)) : a ≠ p := by
  obtain ⟨dx, sa, pa, sgs, h1, _⟩ := h
  exact ne_of h1 hp fun z => nomatch z
theorem sqt_but {K : PySem.W.Frag} {H H' : Hp} {a p : Addr} {xs ys : List V} (e : SameBut p H H') (hp : H p = some (.lst ys)) (h : SqT K H a xs) : SqT K H' a xs := by
  rcases h with (h | ⟨o, h⟩) | h
  · exact .inl (.inl (e _ _ (ne_of h hp fun z => nomatch z) h))
  · exact .inl (.inr ⟨o, e _ _ (ne_of h hp fun z => nomatch z) h⟩)
  · exact .inr h
theorem sg_but {K : PySem.W.Frag} {H H' : Hp} {p : Addr} {ys : List V} {v : V} {c : Int} (e : SameBut p H H') (hp : H p = some (.lst ys)) (h : SgAt K H v c) : SgAt K H' v c := by
  obtain ⟨a, w, pg, rw, ws, h1, h2, h3, h4⟩ := h
  exact ⟨a, w, pg, rw, ws, h1, sqt_but e hp h2, sqt_but e hp h3, h4⟩
/-- a list elsewhere is written -/
theorem pc_but {K : PySem.W.Frag} {H H' : Hp} {a p : Addr} {ys : List V} {t : Str} {c : Int} {pn : List Str} (e : SameBut p H H') (hp : H p = some (.lst ys)) (h : PcAt K H a t c pn) : PcAt K H' a t c pn := by
  have hne := lst_ne_pc h hp
  obtain ⟨dx, sa, pa, sgs, h1, h2, h3, h4, h5, h6, h7⟩ := h
  exact ⟨dx, sa, pa, sgs, e _ _ hne h1, sqt_but e hp h2, h3, h4, fun v hv => let ⟨c, z⟩ := h5 v hv; ⟨c, sg_but e hp z⟩, fun v hv => sg_but e hp (h6 v hv), sqt_but e hp h7⟩
theorem pcs_but {K : PySem.W.Frag} {H H' : Hp} {p : Addr} {ys : List V} {ps : List Addr} {ts : List (Str × Nat)} (e : SameBut p H H') (hp : H p = some (.lst ys)) (h : Pcs K H ps ts) : Pcs K H' ps ts := Paired.mapP h fun _ _ q => pc_but e hp q
theorem but_upd {H : Hp} (p : Addr) (o : HO) : SameBut p H (upd H p o) := fun b u hb q => by
  rw [upd_ne hb]
  exact q
theorem drop_step {l : List Nat} {k d : Nat} (h : l[k]? = some d) : l.drop k = d :: l.drop (k + 1) := by
  obtain ⟨h1, h2⟩ := List.getElem?_eq_some_iff.mp h
  rw [List.drop_eq_getElem_cons h1, h2]
section
variable {P : Program} {w : World} {K : PySem.W.Frag} {mg : Str → Option Value} {base : Heap}
/-- found, where k signs of the row z are read -/
def PoW (K : PySem.W.Frag) (H : Hp) (z : Str) (pg rw : V) (p : Addr) (m : Nat) (σ : L2.St) (H' : Hp) : Prop :=
  ∃ (k : Nat) (ps : List Addr) (pr : List (Str × Nat)) (e c : Option V), σ = [some (.str z), some pg, some rw, some (.ref p), some (.int (k : Int)), e, c] ∧ m = z.length - k ∧ k ≤ z.length ∧ Same H H' ∧ H' p = some (.lst (ps.map V.ref)) ∧
    Pcs K H' ps pr ∧ ps.length ≤ k ∧ pr ++ lexF (z.length - k) k (z.cps.toList.drop k) = lexS z
def spPiecesOf (K : PySem.W.Frag) : Sp := fun vs H Q _ => ∃ (z : Str) (pg rw : V), vs = [.str z, pg, rw] ∧ z.length ≤ 2000 ∧ (∀ c ∈ z.cps.toList, c ≠ 34) ∧
  ∀ (p : Addr) (H' : Hp) (ps : List Addr), H p = none → Same H H' → H' p = some (.lst (ps.map V.ref)) → Pcs K H' ps (lexS z) → Q (.ref p) H'
theorem sc_pieces_of : FnScope ["row", "page", "number", "found", "at", "end", "column"] ["row", "page", "number"] (defScope s_pieces_of) := ⟨rfl, rfl, rfl, by decide +kernel, rfl, by decide +kernel, by decide +kernel⟩
theorem fn_pieces_of (T : Top w K mg) {fd : FuncData} (F : FunD K "pieces_of" "pieces_of" (defArgs s_pieces_of) (defBody s_pieces_of) (defScope s_pieces_of) [] [("page", .str ""), ("number", .int 0)] (He.ga K "pieces_of") fd) :
    FnOk P w K mg base CX0 3 (He.ga K "pieces_of") fd ["row", "page", "number"] (spPiecesOf K) := by
  refine ok0 F sc_pieces_of (fun vs H Q E h => ?_) (fun cdv A outer s H vs Q E hr h => ?_)
  · obtain ⟨z, pg, rw, rfl, _⟩ := h
    rfl
  · obtain ⟨z, pg, rw', rfl, hz, h34, q⟩ := h
    have g_token_end := ok_token_end (P := P) (base := base) T
    have c_Piece := ok_Piece2 (P := P) (base := base) T
    have hzl : z.length ≤ sizeLine := Nat.le_of_lt (Nat.lt_of_le_of_lt hz (by decide))
    refine ⟨_, (pss_cons (ps_set (i := 3) sc_pieces_of.nd rfl (Or.inl rfl) (pe_lst pa_nil))
      (pss_cons (ps_set (i := 4) sc_pieces_of.nd rfl (Or.inl rfl) pe_int)
      (pss_cons (ps_while PassesOwn.never (pt_cmpR op_lt (pv 4) (pe_callB call_len_str (by rfl) T.b_len PySem.boot_len (pa_cons (pv 0) pa_nil)) (nomark _))
        (pss_cons (ps_set (i := 5) sc_pieces_of.nd rfl (Or.inl rfl) (pe_op op_add (pv 4) pe_int))
      (pss_cons (ps_if (pt_cmpR op_ne (pe_ix ix_str (pv 0) (pv 4) (fun _ _ => rfl)) pe_str (nomark _))
        (pss_cons (ps_set (i := 5) sc_pieces_of.nd rfl (Or.inl rfl) (pe_g g_token_end hr (by decide) pass0 (pa_cons (pv 0) (pa_cons (pv 4) pa_nil))))
      (pss_cons (ps_if (pt_cmpR op_isN (pv 5) pe_non (nomark _))
        (pss_one ps_never)
        pss_nil)
      (pss_one (ps_expr (pe_bm PySem.F.plainAttrs_list PySem.F.slot_list_append PySem.F.type_list_append mt_append (pv 3) (pa_cons (pe_c c_Piece hr (by decide) pass0 (pa_cons (pe_slice sl_str (pv 0) (po_some (pv 4)) (po_some (pv 5))) (pa_cons (pe_callTy call_tuple_of (by rfl) T.b_tuple (by decide +kernel) (pa_cons (pe_lc (own := [("column", 6)]) (tt := tYes) (by rfl) sc_pieces_of.nd (pi_range2 rfl T.b_range (pa_cons (pv 4) (pa_cons (pv 5) pa_nil))) (blkOk_by (own := [("column", 6)]) (N := ["row", "page", "number", "found", "at", "end", "column"]) (sc := defScope s_pieces_of) (by decide +kernel)) (fun _ _ _ _ _ => (pg_name (i := 6) sc_pieces_of.nd rfl (Or.inl rfl))) (fun _ _ _ _ _ => pts_nil) (fun _ _ _ _ _ => (pe_tup (pa_cons (pv 1) (pa_cons (pv 2) (pa_cons (pv 6) (pa_cons (pe_tup pa_nil) pa_nil))))))) pa_nil)) pa_nil))) pa_nil))))))
        pss_nil)
      (pss_one (ps_set (i := 4) sc_pieces_of.nd rfl (Or.inl rfl) (pv 5))))))
      (pss_one (ps_ret (pv 3)))))), ?_⟩
    refine ⟨Nat.zero_le _, fun p hp => ?_⟩
    refine ⟨PoW K H z pg rw' p, ⟨z.length, 0, [], [], none, none, rfl, rfl, Nat.zero_le _, same_upd hp _, upd_same, .nil, Nat.le_refl 0, ?_⟩, ?_⟩
    · rw [len_codes]
      rfl
    rintro m σ H1 ⟨k, ps, pr, ev, cv, rfl, rfl, hk, s1, hp1, hps, hpk, hlex⟩
    refine ⟨_, rfl, _, rfl, z, rfl, hzl, _, _, rfl, rfl, _, rfl, ?_⟩
    by_cases c : (k : Int) < ((z.length : Nat) : Int)
    case neg =>
      rw [decide_eq_false c]
      refine iteF ⟨_, rfl, q p H1 ps hp s1 hp1 ?_⟩
      have ek : k = z.length := by omega
      rw [ek, Nat.sub_self] at hlex
      rw [← hlex]
      show Pcs K H1 ps (pr ++ [])
      rw [List.append_nil]
      exact hps
    rw [decide_eq_true c]
    have hlt : k < z.cps.toList.length := by rw [← len_codes]; omega
    have e : z.cps.toList[k]? = some (z.cps.toList[k]) := List.getElem?_eq_getElem hlt
    have h34k : z.cps.toList[k] ≠ 34 := h34 _ (List.getElem_mem hlt)
    generalize z.cps.toList[k] = d at e h34k
    have hd := drop_step e
    obtain ⟨n, hn⟩ : ∃ n, z.length - k = n + 1 := ⟨z.length - k - 1, by omega⟩
    rw [hd, hn] at hlex
    refine iteT ⟨fun σ' H' => ∃ m', m' < z.length - k ∧ PoW K H z pg rw' p m' σ' H', fun _ _ h => h, ?_⟩
    refine ⟨_, rfl, _, _, rfl, rfl, ?_⟩
    refine ⟨_, rfl, _, rfl, z, _, d, rfl, rfl, hzl, atI_nat e, rfl, _, rfl, ?_⟩
    rw [show (V.str (Str.ofString " ")) = V.str ⟨#[32]⟩ from by decide +kernel]
    by_cases c32 : d = 32
    · subst c32
      rw [decide_eq_true rfl]
      refine iteF ⟨_, rfl, ?_⟩
      have z1 : pr ++ lexF n (k + 1) (z.cps.toList.drop (k + 1)) = lexS z := hlex
      have en : n = z.length - (k + 1) := by omega
      rw [en] at z1
      exact ⟨z.length - (k + 1), by omega, k + 1, ps, pr, _, _, rfl, rfl, by omega, s1, hp1, hps, by omega, z1⟩
    · rw [sign_ne c32]
      refine iteT ?_
      -- end = token_end(row, at)
      have hL1 := tokLen_pos d (z.cps.toList.drop (k + 1))
      have hL2 := tokLen_le (d :: z.cps.toList.drop (k + 1))
      have elen : (d :: z.cps.toList.drop (k + 1)).length = z.length - k := by rw [← hd, List.length_drop, ← len_codes]
      rw [elen] at hL2
      have hlex2 : pr ++ (strN ((d :: z.cps.toList.drop (k + 1)).take (tokLen (d :: z.cps.toList.drop (k + 1)))), k) :: lexF n (k + tokLen (d :: z.cps.toList.drop (k + 1))) ((d :: z.cps.toList.drop (k + 1)).drop (tokLen (d :: z.cps.toList.drop (k + 1)))) = lexS z := by
        rw [← hlex]
        show _ = pr ++ (if d = 32 then _ else _)
        rw [if_neg c32]
      refine ⟨_, rfl, _, rfl, z, k, d, _, rfl, hzl, hd, h34k, ?_⟩
      have emid := cut_mid z k (k + tokLen (d :: z.cps.toList.drop (k + 1))) (Nat.le_of_lt (by rw [len_codes]; exact hlt))
      rw [hd, Nat.add_sub_cancel_left] at emid
      have eend : (d :: z.cps.toList.drop (k + 1)).drop (tokLen (d :: z.cps.toList.drop (k + 1))) = z.cps.toList.drop (k + tokLen (d :: z.cps.toList.drop (k + 1))) := by
        rw [← hd, List.drop_drop]
      rw [eend] at hlex2
      generalize htk : strN ((d :: z.cps.toList.drop (k + 1)).take (tokLen (d :: z.cps.toList.drop (k + 1)))) = tok at emid hlex2
      generalize tokLen (d :: z.cps.toList.drop (k + 1)) = L at *
      -- if end is None
      refine ⟨_, rfl, rfl, _, rfl, iteF ?_⟩
      -- found.append(Piece(row[at:end], tuple([..])))
      refine ⟨_, rfl, .inl ⟨rfl, _, SqL.of hp1⟩, ?_⟩
      refine ⟨_, rfl, _, rfl, _, rfl, _, rfl, _, rfl, z, rfl, hzl, ?_⟩
      rw [emid]
      refine ⟨_, rfl, _, rfl, (k : Int), ((k + L : Nat) : Int), rfl, ⟨by omega, by omega, by omega, by omega⟩, fun D hD => ?_⟩
      refine lc_range (lo := (k : Int)) (n := ((((k + L : Nat) : Int)) - (k : Int)).toNat) (fun i H2 => ∃ acc : List V, SameBut D (upd H1 D (.lst [])) H2 ∧ H2 D = some (.lst acc) ∧ acc.length = i ∧ ∀ j v, acc[j]? = some v → SgAt K H2 v ((k : Int) + (j : Nat)))
        ⟨[], fun _ _ _ q => q, upd_same, rfl, fun j v h => by simp at h⟩ ?_ ?_
      · rintro i H2 hi ⟨acc, sb, hacc, hla, hsg⟩
        refine ⟨rfl, _, rfl, _, rfl, _, rfl, Nat.zero_le _, fun wa hwa => ?_⟩
        refine ⟨by show 4 ≤ sizeLine; decide, fun ga hga => ?_⟩
        have s2 : Same H2 (upd (upd H2 wa (.tup [])) ga (.tup [pg, rw', .int ((k : Int) + (i : Nat)), .ref wa])) := (same_upd hwa _).trans (same_upd hga _)
        refine ⟨acc, s2 _ _ hacc, by rw [hla, sizeLine_eq]; omega, ?_⟩
        have s3 := but_upd (H := upd (upd H2 wa (.tup [])) ga (.tup [pg, rw', .int ((k : Int) + (i : Nat)), .ref wa])) D (.lst (acc ++ [V.ref ga]))
        refine ⟨acc ++ [V.ref ga], fun b o hb q => s3 _ _ hb (s2 _ _ (sb _ _ hb q)), upd_same, by rw [List.length_append, hla]; rfl, fun j v hv => ?_⟩
        refine sg_but s3 (s2 _ _ hacc) ?_
        rcases Nat.lt_or_ge j acc.length with hj | hj
        · rw [List.getElem?_append_left hj] at hv
          exact Same.sg s2 (hsg j v hv)
        · rw [List.getElem?_append_right hj] at hv
          have ej : j - acc.length = 0 := by
            rcases Nat.eq_zero_or_pos (j - acc.length) with h | h
            · exact h
            · rw [List.getElem?_eq_none (show ([V.ref ga] : List V).length ≤ j - acc.length from h)] at hv
              cases hv
          rw [ej] at hv
          have ev2 : v = V.ref ga := (Option.some.inj hv).symm
          have ej2 : j = i := by omega
          subst ev2 ej2
          refine ⟨ga, wa, pg, rw', [], rfl, SqT.of upd_same, SqT.of ?_, Nat.zero_le _⟩
          rw [upd_ne (ne_of_none (upd_same (H := H2) (a := wa) (o := .tup [])) hga)]
          exact upd_same
      · rintro H2 ⟨acc, sb, hacc, hla, hsg⟩
        have hla2 : acc.length = L := by omega
        refine ⟨D, acc, rfl, .inl ⟨SqL.of hacc, fun l hl => ?_⟩⟩
        intro x dx hx hdx hne
        have s12 : Same H1 H2 := fun b o q => sb _ _ (ne_of_none q hD) (same_upd hD _ _ _ q)
        have s23 := same_upd hl (.tup acc)
        refine ⟨x, dx, l, _, tok, rfl, upd_same, rfl, ?_⟩
        rw [upd_upd]
        have s34 : Same (upd H2 l (.tup acc)) (upd (upd (upd H2 l (.tup acc)) dx (.own x)) x (.ins (He.ga K "Piece") dx (pFs tok l (He.dflAt ("Piece", some "__init__") 0 K)))) := same_made hx hdx
        have s14 := s12.trans (s23.trans s34)
        have npc : PcAt K (upd (upd (upd H2 l (.tup acc)) dx (.own x)) x (.ins (He.ga K "Piece") dx (pFs tok l (He.dflAt ("Piece", some "__init__") 0 K)))) x tok (k : Int) [] := by
          refine ⟨dx, l, _, acc, upd_same, SqT.of (s34 _ _ upd_same), ?_, by omega, fun v hv => ?_, fun v hv => ?_, em_sq T _⟩
          · intro z
            rw [z] at hla2
            exact absurd hla2 (by show ¬ (0 = L); omega)
          · obtain ⟨j, hj⟩ := List.getElem?_of_mem hv
            exact ⟨_, Same.sg (s23.trans s34) (hsg j v hj)⟩
          · have z := Same.sg (s23.trans s34) (hsg 0 v hv)
            rw [show ((k : Int) + ((0 : Nat) : Int)) = (k : Int) from Int.add_zero _] at z
            exact z
        generalize (upd (upd (upd H2 l (.tup acc)) dx (.own x)) x (.ins (He.ga K "Piece") dx (pFs tok l (He.dflAt ("Piece", some "__init__") 0 K)))) = H4 at s34 s14 npc ⊢
        refine ⟨p, _, _, rfl, rfl, s14 _ _ hp1, by rw [List.length_map, sizeLine_eq]; omega, ?_⟩
        refine ⟨_, rfl, ?_⟩
        have sb5 := but_upd (H := H4) p (.lst (ps.map V.ref ++ [V.ref x]))
        refine ⟨z.length - (k + L), by omega, k + L, ps ++ [x], pr ++ [(tok, k)], _, _, rfl, rfl, by omega, fun b o q => sb5 _ _ (ne_of_none q hp) (s14 _ _ (s1 _ _ q)), ?_, ?_, ?_, ?_⟩
        · rw [upd_same, List.map_append]
          rfl
        · exact pcs_but sb5 (s14 _ _ hp1) (Paired.snoc (Same.pcs s14 hps) npc)
        · rw [List.length_append]
          show ps.length + 1 ≤ k + L
          omega
        · rw [List.append_assoc]
          show pr ++ (tok, k) :: lexF (z.length - (k + L)) (k + L) (z.cps.toList.drop (k + L)) = lexS z
          rw [← hlex2]
          congr 2
          have e1 : (z.cps.toList.drop (k + L)).length = z.length - (k + L) := by rw [List.length_drop, ← len_codes]
          rw [lexF_more n _ _ (by omega), e1]
end
end Bp

/-! text: D5 -/
set_option Elab.async false
set_option linter.all false
set_option maxRecDepth 100000
set_option maxHeartbeats 4000000
/-! conditions: small defs, Reading -/
namespace Bp
open PySem PySem.Spec PyProof.Rows L2
/-! ### what is new in the heap -/
def New (H H' : Hp) : Hp := fun a => match H a with
  | none => H' a
  | some _ => none
def Dom (H H' : Hp) : Prop := ∀ a, H' a = none → H a = none
theorem new_some {H H' : Hp} {a : Addr} {o : HO} : New H H' a = some o ↔ H a = none ∧ H' a = some o := by
  unfold New
  cases e : H a with
  | none => exact Iff.intro (fun h => ⟨rfl, h⟩) (fun h => h.2)
  | some u => exact Iff.intro (fun h => nomatch h) (fun h => nomatch h.1)
theorem Dom.refl {H : Hp} : Dom H H := fun _ h => h
theorem Dom.trans {H H' H'' : Hp} (h : Dom H H') (k : Dom H' H'') : Dom H H'' := fun a q => h a (k a q)
theorem Dom.of {H H' : Hp} {rd : Addr} {o : HO} (h : SameBut rd H H') (k : H' rd = some o) : Dom H H' := fun a q => by
  cases e : H a with
  | none => rfl
  | some u =>
    by_cases c : a = rd
    · rw [c, k] at q
      cases q
    · rw [h a u c e] at q
      cases q
theorem Dom.same {H H' : Hp} (h : Same H H') : Dom H H' := fun a q => by
  cases e : H a with
  | none => rfl
  | some u =>
    rw [h a u e] at q
    cases q
theorem Dom.upd {H : Hp} {p : Addr} {o : HO} : Dom H (upd H p o) := fun a q => by
  by_cases c : a = p
  · rw [c, upd_same] at q
    cases q
  · rw [upd_ne c] at q
    exact q
theorem new_to {H1 H2 G1 G2 : Hp} (h1 : Dom G1 H1) (h2 : ∀ a o, H1 a = none → H2 a = some o → G2 a = some o) : Same (New H1 H2) (New G1 G2) := fun a o q => by
  obtain ⟨q1, q2⟩ := new_some.mp q
  exact new_some.mpr ⟨h1 a q1, h2 a o q1 q2⟩
theorem inV_str {s : Str} : ∀ {xs : List Str}, inV (.str s) (xs.map V.str) = decide (s ∈ xs)
  | [] => rfl
  | x :: xs => by
    have ih := inV_str (s := s) (xs := xs)
    unfold inV at ih ⊢
    rw [List.map_cons, List.any_cons, ih]
    show (x == s || decide (s ∈ xs)) = _
    by_cases e : x = s
    · subst e
      rw [beq_self_eq_true, Bool.true_or, decide_eq_true (List.mem_cons_self ..)]
    · rw [beq_eq_false_iff_ne.mpr e, Bool.false_or]
      refine decide_eq_decide.mpr ⟨fun h => List.mem_cons_of_mem _ h, fun h => ?_⟩
      rcases List.mem_cons.mp h with h | h
      · exact absurd h.symm e
      · exact h
theorem all_str : ∀ xs : List Str, (xs.map V.str).all flatV = true
  | [] => rfl
  | _ :: xs => all_str xs
/-- a row of pieces at the list l: texts and first columns -/
def RowAt (K : PySem.W.Frag) (H : Hp) (l : Addr) (ts : List (Str × Int)) : Prop := ∃ ps : List Addr, H l = some (.lst (ps.map V.ref)) ∧ Paired (fun a (t : Str × Int) => PcD K H a t.1 t.2) ps ts ∧ ts.length ≤ 3000
def textAt (ts : List (Str × Int)) (i : Nat) : Str := match ts[i]? with
  | some t => t.1
  | none => " "
theorem Paired.at_ {α β : Type} {F : α → β → Prop} : ∀ {l₁ : List α} {l₂ : List β} {i : Nat} {b : β}, Paired F l₁ l₂ → l₂[i]? = some b → ∃ a, l₁[i]? = some a ∧ F a b
  | _, _, _, _, .nil, h => by simp at h
  | _, _, 0, _, .cons r _, h => ⟨_, rfl, by
    have e := Option.some.inj h
    rw [← e]
    exact r⟩
  | _, _, i + 1, b, .cons _ t, h => by
    obtain ⟨a, h1, h2⟩ := Paired.at_ (i := i) (b := b) t (by simpa using h)
    exact ⟨a, by simpa using h1, h2⟩
theorem Paired.at1 {α β : Type} {F : α → β → Prop} : ∀ {l₁ : List α} {l₂ : List β} {i : Nat} {a : α}, Paired F l₁ l₂ → l₁[i]? = some a → ∃ b, l₂[i]? = some b ∧ F a b
  | _, _, _, _, .nil, h => by simp at h
  | _, _, 0, _, .cons r _, h => ⟨_, rfl, by
    have e := Option.some.inj h
    rw [← e]
    exact r⟩
  | _, _, i + 1, b, .cons _ t, h => by
    obtain ⟨a, h1, h2⟩ := Paired.at1 (i := i) (a := b) t (by simpa using h)
    exact ⟨a, by simpa using h1, h2⟩
theorem Same.row {K : PySem.W.Frag} {H H' : Hp} {l : Addr} {ts : List (Str × Int)} (e : Same H H') (h : RowAt K H l ts) : RowAt K H' l ts := by
  obtain ⟨ps, h1, h2, h3⟩ := h
  exact ⟨ps, e _ _ h1, Paired.mapP h2 fun _ _ q => Same.pd e q, h3⟩
section
variable {P : Program} {w : World} {K : PySem.W.Frag} {mg : Str → Option Value} {base : Heap}
def spTextAt (K : PySem.W.Frag) : Sp := fun vs H Q _ => ∃ (l : Addr) (ts : List (Str × Int)) (i : Nat), vs = [.ref l, .int i] ∧ RowAt K H l ts ∧ Q (.str (textAt ts i)) H
theorem sc_text_at : FnScope ["pieces", "at"] ["pieces", "at"] (defScope s_text_at) := ⟨rfl, rfl, rfl, by decide +kernel, rfl, by decide +kernel, by decide +kernel⟩
theorem ok_text_at (T : Top w K mg) : GOk P w K mg base CX0 1 "text_at" ["pieces", "at"] (spTextAt K) := by
  obtain ⟨fd, F⟩ := T.f_text_at
  refine ⟨_, fd, T.g_text_at, F.kp, F.bindsN fun _ _ _ _ _ _ us hl => match us, hl with | [_, _], _ => rfl, ok0 F sc_text_at (fun vs H Q E h => ?_) (fun cdv A outer s H vs Q E hr h => ?_)⟩
  · obtain ⟨l, ts, i, rfl, _⟩ := h
    rfl
  · obtain ⟨l, ts, i, rfl, ⟨ps, h1, h2, h3⟩, q⟩ := h
    have hl : (ps.map V.ref).length = ts.length := by rw [List.length_map]; exact h2.length
    refine ⟨_, (pss_one (ps_ret (pe_ifExp (pt_cmpR op_lt (pv 1) (pe_callB call_len_seq (by rfl) T.b_len PySem.boot_len (pa_cons (pv 0) pa_nil)) (nomark _)) (pe_fld (pe_ix ix_list (pv 0) (pv 1) (fun _ _ => rfl)) rfl) pe_str))), ?_⟩
    refine ⟨_, rfl, _, rfl, l, _, rfl, .inl (SqL.of h1), _, _, rfl, rfl, _, rfl, ?_⟩
    rw [hl]
    unfold textAt at q
    cases e : ts[i]? with
    | none =>
      rw [e] at q
      have hn : ts.length ≤ i := List.getElem?_eq_none_iff.mp e
      rw [decide_eq_false (show ¬ ((i : Int) < ((ts.length : Nat) : Int)) by omega)]
      exact iteF q
    | some t =>
      rw [e] at q
      obtain ⟨a, ea, dx, sa, pa, g, sgs, pg, rw', wv, g1, _⟩ := Paired.at_ h2 e
      have hn := (List.getElem?_eq_some_iff.mp e).1
      rw [decide_eq_true (show (i : Int) < ((ts.length : Nat) : Int) by omega)]
      refine iteT ⟨_, rfl, _, rfl, l, _, _, _, rfl, rfl, SqL.of h1, atI_nat (j := i) (v := .ref a) (by rw [List.getElem?_map, ea]; rfl), a, _, dx, _, _, rfl, g1, T.c_Piece, T.n_Piece_text, pFs_text _ _ _, q⟩
def spPlaceOf (K : PySem.W.Frag) : Sp := fun vs H Q _ => ∃ (l : Addr) (ts : List (Str × Int)) (i : Nat) (b : V) (t : Str × Int), vs = [.ref l, .int i, b] ∧ RowAt K H l ts ∧ ts[i]? = some t ∧ ∀ p pg rw, H p = none → Q (.ref p) (upd H p (.tup [pg, rw, .int t.2]))
theorem sc_place_of : FnScope ["pieces", "at", "end"] ["pieces", "at", "end"] (defScope s_place_of) := ⟨rfl, rfl, rfl, by decide +kernel, rfl, by decide +kernel, by decide +kernel⟩
theorem ok_place_of (T : Top w K mg) : GOk P w K mg base CX0 2 "place_of" ["pieces", "at", "end"] (spPlaceOf K) := by
  obtain ⟨fd, F⟩ := T.f_place_of
  refine ⟨_, fd, T.g_place_of, F.kp, F.bindsN fun _ _ _ _ _ _ us hl => match us, hl with | [_, _, _], _ => rfl, ok0 F sc_place_of (fun vs H Q E h => ?_) (fun cdv A outer s H vs Q E hr h => ?_)⟩
  · obtain ⟨l, ts, i, b, t, rfl, _⟩ := h
    rfl
  · obtain ⟨l, ts, i, b, t, rfl, ⟨ps, h1, h2, h3⟩, e, q⟩ := h
    have m_Piece_stands := ok_stands (P := P) (base := base) T
    have hl : (ps.map V.ref).length = ts.length := by rw [List.length_map]; exact h2.length
    obtain ⟨a, ea, hpc⟩ := Paired.at_ h2 e
    have hn := (List.getElem?_eq_some_iff.mp e).1
    refine ⟨_, (pss_one (ps_ret (pe_ifExp (pt_cmpR op_lt (pv 1) (pe_callB call_len_seq (by rfl) T.b_len PySem.boot_len (pa_cons (pv 0) pa_nil)) (nomark _)) (pe_m0 m_Piece_stands hr (by decide) pass0 (pe_ix ix_list (pv 0) (pv 1) (fun _ _ => rfl))) (pv 2)))), ?_⟩
    refine ⟨_, rfl, _, rfl, l, _, rfl, .inl (SqL.of h1), _, _, rfl, rfl, _, rfl, ?_⟩
    rw [hl, decide_eq_true (show (i : Int) < ((ts.length : Nat) : Int) by omega)]
    obtain ⟨dx, sa, pa, g, sgs, pg, rw', wv, g1, _⟩ := id hpc
    exact iteT ⟨_, rfl, _, rfl, l, _, _, _, rfl, rfl, SqL.of h1, atI_nat (j := i) (v := .ref a) (by rw [List.getElem?_map, ea]; rfl), a, dx, _, rfl, g1, pFs_no _ _ _ (by decide +kernel) (by decide +kernel) (by decide +kernel), a, t.1, t.2, rfl, hpc, q⟩
def spNeed (K : PySem.W.Frag) : Sp := fun vs H Q _ => ∃ (l : Addr) (ts : List (Str × Int)) (i : Nat) (b : V), vs = [.ref l, .int i, b, .bl true] ∧ RowAt K H l ts ∧ i < ts.length ∧ Q .non H
theorem sc_need : FnScope ["pieces", "at", "end", "fits"] ["pieces", "at", "end", "fits"] (defScope s_need) := ⟨rfl, rfl, rfl, by decide +kernel, rfl, by decide +kernel, by decide +kernel⟩
theorem ok_need (T : Top w K mg) : GOk P w K mg base CX0 1 "need" ["pieces", "at", "end", "fits"] (spNeed K) := by
  obtain ⟨fd, F⟩ := T.f_need
  refine ⟨_, fd, T.g_need, F.kp, F.bindsN fun _ _ _ _ _ _ us hl => match us, hl with | [_, _, _, _], _ => rfl, ok0 F sc_need (fun vs H Q E h => ?_) (fun cdv A outer s H vs Q E hr h => ?_)⟩
  · obtain ⟨l, ts, i, b, rfl, _⟩ := h
    rfl
  · obtain ⟨l, ts, i, b, rfl, ⟨ps, h1, h2, h3⟩, hi, q⟩ := h
    have hl : (ps.map V.ref).length = ts.length := by rw [List.length_map]; exact h2.length
    refine ⟨_, (pss_one (ps_if (PW.pt (pw_or (pt_cmpR op_ge (pv 1) (pe_callB call_len_seq (by rfl) T.b_len PySem.boot_len (pa_cons (pv 0) pa_nil)) (nomark _)) (pw_or1 (pt_not (pt_val (pv 3))))))
        (pss_one ps_never)
        pss_nil)), ?_⟩
    refine ⟨_, rfl, _, rfl, l, _, rfl, .inl (SqL.of h1), _, _, rfl, rfl, _, rfl, ?_⟩
    rw [hl, decide_eq_false (show ¬ (((ts.length : Nat) : Int) ≤ (i : Int)) by omega)]
    exact iteF ⟨_, rfl, _, rfl, iteF q⟩
end
end Bp

/-! text: R3 -/
set_option Elab.async false
set_option linter.all false
set_option maxRecDepth 100000
set_option maxHeartbeats 4000000
/-! sorted(set(t)), t a tuple of one text -/
namespace Bp
open PySem PySem.Spec PyProof.Rows L2
/-- a set of the one text z -/
def SetT (w : World) (z : Str) (h : Heap) (a : Addr) : Prop := ∃ (es : Array (Int × Value)) (ep : Nat) (t : SetTable) (k : Int) (tk : Tok), SetAt h a es ep t ∧ es.toList = [(k, .str z tk)] ∧ t.fits es.size = true ∧ Ris t.place.toList ∧ (w.params.followText "set-order" = true ∨ t.led = true)
theorem SetT.at {w : World} {z : Str} {h h' : Heap} {a : Addr} (R : SetT w z h a) (k : ∀ o, h.get? a = some o → h'.get? a = some o) : SetT w z h' a := by
  obtain ⟨es, ep, t, kk, tk, ⟨o, h1, h2, h3⟩, r⟩ := R
  exact ⟨es, ep, t, kk, tk, ⟨o, k _ h1, h2, h3⟩, r⟩
def hoT (w : World) (z : Str) (a : Addr) : HO := .ext fun h => SetT w z h a
theorem hoT_ok {P : Program} {w : World} {H : Hp} {h : Heap} {a : Addr} {z : Str} (R : SetT w z h a) : ObjOk P w H h a (hoT w z a) :=
  ⟨R, (by obtain ⟨_, _, _, _, _, ⟨o, e, _⟩, _⟩ := R; exact ⟨o, e⟩), fun h1 h2 r k => SetT.at r k⟩
section
variable {P : Program} {w : World} {A : Around} {E : Value → Shared → Prop} {s : Shared} {a : Addr}
theorem set_tail1 {g : Bool → Sem Unit} (hg : ∀ (b : Bool) (s₁ : Shared) (Q' : Unit → Shared → Prop), Q' () s₁ → wpAny (model P w) A (g b) Q' E s₁)
    {o : Obj} {es : Array (Int × Value)} {ep : Nat} {t : SetTable} (ho : s.heap.get? a = some o) (hex : o.ExactSet) (hd : o.data = .set es ep t)
    {es1 : Array (Int × Value)} {t2 : SetTable} {k : Int} {z : Str} {tk : Tok} (g1 : es1.toList = [(k, .str z tk)]) (hf2 : t2.fits es1.size = true) (hr : Ris t2.place.toList) (hl : w.params.followText "set-order" = true ∨ t2.led = true) {wasDummy : Bool} {R : Option Bool → Shared → Prop}
    (hR : ∀ h', Heap.SameBut a s.heap h' → SetT w z h' a → R (some true) { s with heap := h' }) :
    wpAny (model P w) A (do
        storeSet a es1 t2
        if (!wasDummy && t2.tooFull) = true then do
            g (relayAll t2 es1 (SetTable.grown es1.size)).2.2
            storeSet a (relayAll t2 es1 (SetTable.grown es1.size)).1 (relayAll t2 es1 (SetTable.grown es1.size)).2.1
            pure (some true)
          else pure (some true)) R E s := by
  have hz1 : es1.size = 1 := by rw [← Array.length_toList, g1]; rfl
  refine wpAny_bind (wpAny_storeSet_of ho hd ?_ (by rw [hz1, sizeLine_eq]; omega))
  have ho1 := store_at (es' := es1) (t' := t2) ho hd
  have sb1 := Heap.SameBut.update s.heap a (Obj.putSet es1 t2)
  split
  · have pm := relayAll_perm t2 es1 (SetTable.grown es1.size)
    have hf3 := relayAll_fits t2 es1 (SetTable.grown es1.size)
    have hr3 := relayAll_ris t2 es1 (SetTable.grown es1.size)
    have hl3 := relayAll_led t2 es1 (SetTable.grown es1.size)
    generalize relayAll t2 es1 (SetTable.grown es1.size) = Z at pm hf3 hr3 hl3 ⊢
    obtain ⟨es2, t3, gave⟩ := Z
    dsimp only at pm hf3 hr3 hl3 ⊢
    have hsz : es2.size = es1.size := by rw [← Array.length_toList, pm.length_eq, Array.length_toList]
    refine wpAny_bind (hg _ _ _ ?_)
    refine wpAny_bind (wpAny_storeSet_of ho1 rfl ?_ (by rw [hsz, hz1, sizeLine_eq]; omega))
    have ho2 := store_at (es' := es2) (t' := t3) ho1 rfl
    refine wpAny_pure (hR _ (sb1.trans (Heap.SameBut.update _ a _)) ?_)
    refine ⟨es2, _, t3, k, tk, ⟨_, ho2, hex.1, rfl⟩, ?_, hf3, hr3, hl.imp id fun z => by rw [hl3]; exact z⟩
    rw [g1] at pm
    exact List.perm_singleton.mp pm
  · exact wpAny_pure (hR _ sb1 ⟨es1, _, t2, k, tk, ⟨_, ho1, hex.1, rfl⟩, g1, hf2, hr, hl⟩)
/-- the first text -/
theorem set_add1 {z : Str} {tk : Tok} {Q : Bool → Shared → Prop} {led : Bool} (ho : s.heap.get? a = some { cls := .type "set", dict := none, data := .set #[] 0 (.fresh 0 0 led) }) (hl : w.params.followText "set-order" = true ∨ led = true)
    (hQ : ∀ h', Heap.SameBut a s.heap h' → SetT w z h' a → Q true { s with heap := h' }) :
    wpAny (model P w) A (setAddHashed a (.str z tk) ((PySem.strKind P w).hash z)) Q E s := by
  have hkey : (PySem.strKind P w).is z (.str z tk) = true := strKind_is P w z tk
  have hsc : (Value.str z tk).scannable = true := rfl
  have hel : ElemsOf (PySem.strKind P w) (#[] : Array (Int × Value)).toList := fun e he => by cases he
  have hex : Obj.ExactSet { cls := .type "set", dict := none, data := .set #[] 0 (.fresh 0 0 led) } := ⟨rfl, rfl, rfl⟩
  have hf : (SetTable.fresh 0 0 led).fits (#[] : Array (Int × Value)).size = true := by rfl
  have hr : Ris (SetTable.fresh 0 0 led).place.toList := List.Pairwise.nil
  unfold setAddHashed setAddHashedIn
  refine wpAny_holding (wpAny_bind (wpAny_setState_of ho rfl hf ?_))
  dsimp only
  rw [byScan_of hsc (by decide) hel]
  simp only [↓reduceIte]
  unfold setAddByScan
  refine wpAny_bind ?_
  refine wpAny_bind (wpAny_rule ?_)
  refine wpAny_bind (wpAny_setScan_of hkey ho rfl hf hel ?_)
  have hfi : List.findIdx? (fun e => (PySem.strKind P w).is z e.2) (#[] : Array (Int × Value)).toList = none := rfl
  rw [hfi]
  dsimp only
  have hgw : ∀ (b : Bool) {s₁ : Shared} {Q' : Unit → Shared → Prop}, Q' () s₁ → wpAny (model P w) A (match b with | true => rule "set.scan.the-table-gave-way" | false => pure ()) Q' E s₁ :=
    fun b s₁ Q' q => by cases b <;> first | exact wpAny_pure q | exact wpAny_rule q
  have pm := layNew_perm (SetTable.fresh 0 0 led) #[] ((PySem.strKind P w).hash z) (.str z tk)
  have hf1 := layNew_fits (SetTable.fresh 0 0 led) #[] ((PySem.strKind P w).hash z) (.str z tk)
  have hr1 := layNew_ris (SetTable.fresh 0 0 led) #[] ((PySem.strKind P w).hash z) (.str z tk) hr
  have hl1 := layNew_led (SetTable.fresh 0 0 led) #[] ((PySem.strKind P w).hash z) (.str z tk)
  generalize layNew (SetTable.fresh 0 0 led) #[] ((PySem.strKind P w).hash z) (.str z tk) = Z at pm hf1 hr1 hl1 ⊢
  obtain ⟨es1, t1, wasDummy, gave⟩ := Z
  dsimp only at pm hf1 hr1 hl1 ⊢
  have g1 : es1.toList = [((PySem.strKind P w).hash z, Value.str z tk)] := List.perm_singleton.mp pm
  have hled : w.params.followText "set-order" = true ∨ t1.led = true := hl.imp id fun y => by rw [hl1]; exact y
  have fin : ∀ h', Heap.SameBut a s.heap h' → SetT w z h' a → Q true { s with heap := h' } := hQ
  refine wpAny_bind (hgw _ ?_)
  split
  · refine wpAny_bind ?_
    rw [hashByValue_scannable 8 hsc]
    refine wpAny_pure ?_
    refine set_tail1 ?_ ho hex rfl g1 ?_ ?_ ?_ ?_
    · intro b s₁ Q' q; cases b <;> first | exact wpAny_pure q | exact wpAny_rule q
    · first | (split <;> first | exact hf1 | exact SetTable.fits_plain_off hf1) | exact hf1
    · first | (split <;> exact hr1) | exact hr1
    · first | (split <;> exact hled) | exact hled
    · intro h' sb r; dsimp only; exact wpAny_pure (fin h' sb r)
  · refine wpAny_bind (wpAny_pure ?_)
    simp only [↓reduceIte]
    refine set_tail1 ?_ ho hex rfl g1 hf1 hr1 hled ?_
    · intro b s₁ Q' q; cases b <;> first | exact wpAny_pure q | exact wpAny_rule q
    · intro h' sb r; dsimp only; exact wpAny_pure (fin h' sb r)
/-- set.update over one text -/
theorem set_update1 {I : Addr} {fp wr : List Addr} {G : Array GenState → Array GenState → Prop} {Pv : Nat → Value → Prop} {St : Nat → Shared → Prop} {R : Result → Shared → Prop} {led : Bool} {z : Str}
    (W : WalksS P w A.in1 I fp wr G 1 Pv St) (S : Addr) (hSf : S ∉ fp) (hl : w.params.followText "set-order" = true ∨ led = true) (hval : ∀ v, Pv 0 v → ∃ t, v = .str z t) {s : Shared} (hst : St 0 s) (ho : s.heap.get? S = some { cls := .type "set", dict := none, data := .set #[] 0 (.fresh 0 0 led) })
    (hR : ∀ s', Moved (S :: wr) G s s' → SetT w z s'.heap S → R (.ok (.ret .none)) s') :
    codeAny (model P w) A (.builtin "set.update.loop" ⟨[.ref S, .ref I], []⟩) R s := by
  have hSw : S ∉ wr := fun h => hSf (W.sub _ h)
  have hsub : ∀ b ∈ wr, b ∈ S :: wr := fun b hb => List.mem_cons_of_mem _ hb
  refine codeAny_builtin F.entry_set_update_loop ?_
  rw [Around.under_plainId F.plain_set_update_loop _]
  show wpAny _ A.in1 (pyNext (.ref I) >>= _) _ _ s
  refine wpAny_bind (W.item 0 s _ _ (Nat.lt_succ_self 0) hst fun v s' hP hst' hm => ?_)
  obtain ⟨t, rfl⟩ := hval v hP
  have ho' := hm.heap S _ hSw ho
  show wpAny _ A.in1 (holding [Value.str z t] (setAdd S (.str z t)) >>= _) _ _ s'
  refine wpAny_bind (wpAny_holding ?_)
  unfold setAdd
  refine wpAny_holding ?_
  refine wpAny_bind ((PySem.strKind P w).pyHash (k := z) (strKind_is _ _ _ _) ?_)
  refine set_add1 (s := { s' with toks := s'.toks + 1 }) ho' hl fun h' hsb hS2 => ?_
  refine wpAny_pure ⟨plainId_quiet F.plain_set_update_loop _, ?_⟩
  have hst2 : St 1 { s' with heap := h', toks := s'.toks + 1 } := W.frame _ s' _ _ hst' (Nat.le_succ _) fun b hb o e => by
    rw [hsb.2 b (fun h : b = S => hSf (by rw [← h]; exact hb))]; exact e
  refine codeAny_builtin F.entry_set_update_loop ?_
  rw [Around.under_plainId F.plain_set_update_loop _]
  show wpAny _ A.in1 (pyNext (.ref I) >>= _) _ _ _
  refine wpAny_bind (W.done _ _ _ hst2 fun s2 hm2 => ?_)
  show wpAny _ A.in1 (ret Value.none) _ _ s2
  refine wpAny_pure (hR s2 (Moved.trans W.gtrans ((hm.mono hsub).then_heap (Nat.le_succ _) fun b o hb e => ?_) (hm2.mono hsub)) (SetT.at hS2 fun o e => hm2.heap S o hSw e))
  rw [hsb.2 b (fun h : b = S => hb (by rw [h]; exact List.mem_cons_self))]; exact e
end
section
variable {P : Program} {w : World} {A : Around} {E : Value → Shared → Prop} {s : Shared}
set_option maxHeartbeats 6400000 in
theorem call_set_tup1 {l : Addr} {items : Array Value} {z : Str} {tz : Tok} {Q : Value → Shared → Prop} (hh : A.handled = none) (hl : s.heap.IsTuple l items) (hit : items.toList = [.str z tz])
    (h : ∀ (h' : Heap) (tk : Nat), SetT w z h' s.heap.objs.size → (∀ b o, s.heap.get? b = some o → h'.get? b = some o) → Q (.ref s.heap.objs.size) { s with heap := h', toks := tk }) :
    wpAny (model P w) A (call (.type "set") [.ref l]) Q E s := by
  have hisz : items.size = 1 := by
    have q := congrArg List.length hit
    rw [Array.length_toList] at q
    exact q
  obtain ⟨c, tl, hmro⟩ := F.called_set.mro
  have hmade := F.called_set.made
  have hsub := F.called_set.sub
  refine wpAny_call (codeAny_of_tree ?_)
  show wpAny _ _ (callAny (.type "set") _) _ _ _
  refine wpAny_pure ⟨Code.quiet_builtin _ (by decide +kernel), codeAny_builtin F.entry_type_call ?_⟩
  rw [Around.under_plain (weight_type_call_type "set" [.ref l] []) rfl]
  have h1 := F.called_set.notType
  have h2 := F.called_set.canCreate
  have hct := F.typeCall_set_1 (.ref l)
  repeat (any_goals (first | assumption | wp_step))

  refine codeAny_mono (code_set_led1 (.ref l) (E := E) (Q₁ := fun obj s₁ => obj = .ref s.heap.objs.size ∧ s₁ = { s with heap := s.heap.push { cls := .type "set", dict := none, data := .set #[] 0 (.fresh 0 0 (!w.params.followText "set-order")) } }) ⟨rfl, rfl⟩) fun r s₁ hr => ?_
  cases r with
  | error e => exact hr
  | ok fl =>
    cases fl with
    | ret obj =>
      obtain ⟨rfl, rfl⟩ := hr
      have hS : (s.heap.push { cls := .type "set", dict := none, data := .set #[] 0 (.fresh 0 0 (!w.params.followText "set-order")) }).get? s.heap.objs.size = some { cls := .type "set", dict := none, data := .set #[] 0 (.fresh 0 0 (!w.params.followText "set-order")) } := Heap.get?_push_size _ rfl
      have hT : Shared.TypeIs { s with heap := s.heap.push { cls := .type "set", dict := none, data := .set #[] 0 (.fresh 0 0 (!w.params.followText "set-order")) } } (.ref s.heap.objs.size) "set" := ⟨_, hS, rfl⟩
      have hli := F.called_set.init.lookup
      have hbi := F.called_set.init.bind (.ref s.heap.objs.size)
      repeat (any_goals (first | assumption | wp_step))

      refine codeAny_mono (codeAny_call_builtin (R := wants (fun r s₂ => r = .none ∧ ∃ h' tk, s₂ = { s with heap := h', toks := tk } ∧ SetT w z h' s.heap.objs.size ∧
          (∀ b o, s.heap.get? b = some o → h'.get? b = some o)) E) F.called_set.init.plain F.entry_set_init (check_set_init_1 hT ?_)) fun r₂ s₂ hr₂ => ?_
      · obtain ⟨ol, hol, hcl, nl, hdl⟩ := hl
        obtain ⟨ocls, odict, odata, oslots⟩ := ol
        simp only at hcl hdl
        subst hcl; subst hdl
        have hol' : (s.heap.push { cls := .type "set", dict := none, data := .set #[] 0 (.fresh 0 0 (!w.params.followText "set-order")) }).get? l = some { cls := .type "tuple", dict := odict, data := .seq items nl, slots := oslots } := Heap.get?_push_of_some _ hol
        have hsls := F.sub_tuple_set
        have hslf := F.sub_tuple_frozenset
        have hne : (Value.type "tuple" == Value.type "dict") = false := by decide
        have hl1 : (s.heap.push { cls := .type "set", dict := none, data := .set #[] 0 (.fresh 0 0 (!w.params.followText "set-order")) }).IsTuple l items := ⟨_, hol', rfl, nl, rfl⟩
        unfold Builtin.«set.__init__» noKeywords Builtin.Frozenset.updateFrom
        generalize hPI : pyIter = PI
        wp_walk
        subst hPI

        refine wpAny_pyIter_tuple hl1 ?_
        refine wpAny_bind (wpAny_runValue ?_)
        have hlS : l < s.heap.objs.size := Heap.lt_size hol
        have hh3 : A.in1.in1.in1.handled = none := by simp [hh]
        have hneI : l ≠ (s.heap.push { cls := .type "set", dict := none, data := .set #[] 0 (.fresh 0 0 (!w.params.followText "set-order")) }).objs.size := by
          rw [Heap.size_push]; exact Nat.ne_of_lt (Nat.lt_succ_of_lt hlS)
        have hSf : s.heap.objs.size ∉ [(s.heap.push { cls := .type "set", dict := none, data := .set #[] 0 (.fresh 0 0 (!w.params.followText "set-order")) }).objs.size, l] := by
          rw [Heap.size_push]; simp only [List.mem_cons, List.mem_singleton, List.not_mem_nil, or_false, not_or]
          exact ⟨Nat.ne_of_lt (Nat.lt_succ_self _), Nat.ne_of_gt hlS⟩
        have hval : ∀ (v : Value), items[0]? = some v → ∃ t, v = .str z t := fun v hv => by
          rw [← Array.getElem?_toList, hit] at hv
          exact ⟨tz, (Option.some.inj hv).symm⟩
        have hled : w.params.followText "set-order" = true ∨ (!w.params.followText "set-order") = true := by
          cases w.params.followText "set-order"
          · exact .inr rfl
          · exact .inl rfl
        have WW := (Walks.tuple (prog := P) (w := w) hh3 (s.heap.push { cls := .type "set", dict := none, data := .set #[] 0 (.fresh 0 0 (!w.params.followText "set-order")) }).objs.size l hneI items).toS
        rw [hisz] at WW
        refine set_update1 WW s.heap.objs.size hSf hled hval ⟨⟨_, Heap.get?_push_size _ rfl, rfl, rfl⟩, (hl1.push _)⟩ (Heap.get?_push_of_some _ hS) ?hR
        case hR =>
          intro s' hm hS'
          obtain ⟨h', g2, d', tk', os'⟩ := s'
          have eg : g2 = s.gens := hm.gens
          have ed : d' = s.drawn := hm.drawn
          have eo : os' = s.os := hm.os
          subst eg; subst ed; subst eo
          show wpAny _ _ _ _ _ _
          refine wpAny_pure ?_
          show wpAny _ _ (ret Value.none) _ _ _
          refine wpAny_pure ⟨rfl, h', tk', rfl, hS', fun b o e => ?_⟩
          have hb0 : b < s.heap.objs.size := Heap.lt_size e
          have hb1 : b ≠ s.heap.objs.size := Nat.ne_of_lt hb0
          have hb2 : b ≠ (s.heap.push { cls := .type "set", dict := none, data := .set #[] 0 (.fresh 0 0 (!w.params.followText "set-order")) }).objs.size := by
            rw [Heap.size_push]; exact Nat.ne_of_lt (Nat.lt_succ_of_lt hb0)
          exact hm.heap b o (by simp only [List.mem_cons, List.mem_singleton, List.not_mem_nil, or_false, not_or]; exact ⟨hb1, hb2⟩) (Heap.get?_push_of_some _ (Heap.get?_push_of_some _ e))

      · cases r₂ with
        | error e => exact hr₂
        | ok fl₂ =>
          cases fl₂ with
          | ret r =>
            obtain ⟨rfl, h', tk, rfl, hS', hk'⟩ := hr₂
            repeat (any_goals (first | assumption | wp_step))
            exact h _ _ hS' hk'
          | _ => exact hr₂.elim
    | _ => exact hr.elim
/-- sorted(..) of it -/
theorem sorted_set1 {z : Str} {a : Addr} {Q : Value → Shared → Prop} {A : Around} (R : SetT w z s.heap a) (hh : A.handled = none)
    (hQ : ∀ s' p (out : Array Value) (c : Nat) (tk : Tok), (∀ b o, s.heap.get? b = some o → s'.heap.get? b = some o) → s'.gens = s.gens → s'.os = s.os → s.heap.objs.size ≤ p →
      s'.heap.get? p = some (seqObj "list" out c) → out.toList = [.str z tk] → Q (.ref p) s') :
    wpAny (model P w) A (call (.builtin "sorted") [.ref a]) Q E s := by
  obtain ⟨es, ep, t, k, tk, ha, he, hf, hr, hl⟩ := R
  have hb : es.size < scanBound := by rw [← Array.length_toList, he]; show 1 < scanBound; decide
  refine Calls.call_function_entry kind_sorted plain_sorted entry_sorted (args_sorted1 _) ?_
  unfold Builtin.«sorted»
  refine wpAny_bind (m := checkCount "sorted" 1 1 _) (wpAny_pure ?_)
  refine wpAny_bind (collect_set (A := A.in1) hh ha hf hb hr hl fun s1 vs k1 hz g1 o1 pm => ?_)
  have hvs : vs = [.str z tk] := by
    rw [he] at pm
    exact List.perm_singleton.mp pm
  subst hvs
  have hI : StrsAre [Value.str z tk] [z] := .cons z tk .nil
  refine wpAny_bind (wpAny_newList ?_ (by rw [sizeLine_eq]; show 1 ≤ 16777216; decide))
  have hoL : (s1.heap.push (seqObj "list" [Value.str z tk].toArray 0)).get? s1.heap.objs.size = some (seqObj "list" [Value.str z tk].toArray 0) := Heap.get?_push_size _ rfl
  refine wpAny_bind (wpAny_holding (wpAny_call_entry slot_list_sort ⟨_, hoL, rfl⟩ entry_list_sort
    (list_sort_treeK strKind_oneLt (s := { s1 with heap := s1.heap.push (seqObj "list" [Value.str z tk].toArray 0) }) hoL hI.keysOf (fun v₁ v₂ rest e => keyKind_strs (by rw [← e]; exact hI)) (by show 1 < 64; decide) fun st' hp hs => ⟨_, rfl, ?_⟩)
    (args_list_sort _)))
  obtain ⟨ys, y1, y2, y3⟩ := sorted_out_str hI hp hs
  have ey : ys = [z] := List.perm_singleton.mp y2
  subst ey
  obtain ⟨c, hc⟩ := sortedHeap_at (vs := [Value.str z tk]) (out := (arrOf st').map (·.2)) hoL
  have ho1 : ∃ tk2, ((arrOf st').map (·.2)).toList = [Value.str z tk2] := by
    cases y : ((arrOf st').map (·.2)).toList with
    | nil => rw [y] at y1; cases y1
    | cons v r =>
      rw [y] at y1
      cases y1 with
      | cons n t' hr' =>
        cases hr'
        exact ⟨_, rfl⟩
  obtain ⟨tk2, ho1⟩ := ho1
  refine wpAny_pure ⟨_, rfl, hQ _ s1.heap.objs.size _ c tk2 (fun b u e => ?_) g1 o1 hz hc ho1⟩
  have q := k1 b u e
  have hlt := Heap.lt_size q
  show (sortedHeap (s1.heap.push (seqObj "list" [Value.str z tk].toArray 0)) s1.heap.objs.size [Value.str z tk] ((arrOf st').map (·.2))).get? b = some u
  rw [sortedHeap_old (Nat.ne_of_lt hlt) (by rw [size_push']; exact Nat.lt_succ_of_lt hlt)]
  exact Heap.get?_push_of_some _ q
end
section
variable {X : Cx}
/-- set(t), t a tuple of one text -/
theorem cr_set1 (hcalm : X.calm = true) : CallR X (.type "set") (fun xs H Q => ∃ (a : Addr) (z : Str), xs = [.ref a] ∧ SqT X.K H a [.str z] ∧ ∀ p, H p = none → Q (.ref p) (upd H p (hoT X.w z p))) := by
  intro pins s σ H xs us Q I r q
  obtain ⟨a, z, ex, ha, q⟩ := q
  subst ex
  obtain ⟨u, eu, rx⟩ := vals1 r
  subst eu
  cases rx
  obtain ⟨its, rv, ht, hz⟩ := I.tuple ha
  obtain ⟨u, eu, ru⟩ := vals1 rv
  subst eu
  obtain ⟨tz, rfl⟩ := ru
  refine call_set_tup1 (I.ok.hd hcalm) ht rfl fun h' tk R k => ?_
  exact ⟨.ref s.heap.objs.size, _, I.laid (t' := tk) k (Nat.le_refl _) (hoT_ok R), rfl, q _ (I.hok.fresh (Nat.le_refl _))⟩
/-- sorted(..) of it -/
theorem cr_sortedT (hcalm : X.calm = true) : CallR X (.builtin "sorted") (fun xs H Q => ∃ (a : Addr) (z : Str), xs = [.ref a] ∧ H a = some (hoT X.w z a) ∧ ∀ p, H p = none → Q (.ref p) (upd H p (.lst [.str z]))) := by
  intro pins s σ H xs us Q I r q
  obtain ⟨a, z, ex, ha, q⟩ := q
  subst ex
  obtain ⟨u, eu, rx⟩ := vals1 r
  subst eu
  cases rx
  have R : ObjOk X.prog X.w H s.heap a (.ext fun h => SetT X.w z h a) := I.hok a _ ha
  refine sorted_set1 R.1 (I.ok.hd hcalm) fun s' p out c tk k g1 o1 hp hc ho => ?_
  have hn : H p = none := I.hok.fresh hp
  have J : L2.Inv X pins σ (upd H p (.lst [.str z])) { s with heap := s'.heap, gens := s'.gens, drawn := s'.drawn, toks := s'.toks } :=
    I.call (ch := []) (Un.laid k hp hn) (I.hok.laid k hp ⟨(by rw [sizeLine_eq]; show 1 ≤ 16777216; decide), out.toList, c, (by rw [ho]; exact .cons ⟨_, rfl⟩ .nil), hc⟩) (by rw [g1]; exact I.bare) (fun _ z => nomatch z)
  have e : s' = { s with heap := s'.heap, gens := s'.gens, drawn := s'.drawn, toks := s'.toks } := by
    cases s'
    cases s
    cases o1
    rfl
  rw [e]
  exact ⟨.ref p, _, J, rfl, q p hn⟩
end
/-! ### rules within a comprehension: the written part told from without -/
section
variable {X : Cx} {K : PySem.W.Frag}
theorem op_catK (hK : X.K = K) : OpR X (binaryOp .Add) (rCatA K) := by
  subst hK
  exact op_catA
theorem pg_tupK {es : List Expr} {k n : Nat} {t : TGs} {pos : Pos} (hK : X.K = K) (hc : X.calm = true) (h : PGs X es t)
    (hn : (assignEach es X.env).length = n := by rfl) (hst : (assignEach es X.env).findIdx? (·.1) = none := by rfl) : PG X (.Tuple es k pos) (gTup K n t) := by
  subst hK
  exact pg_tup hc h hn hst
theorem pe_fldK {e : Expr} {f : Str} {pos : Pos} {ta : TE} (hK : X.K = K) (he : PE X e ta) (hb : attributeBase e f X.env (eval e X.env) = eval e X.env) : PE X (.Attribute e f pos) (tFld K ta f) := by
  subst hK
  exact pe_fld he hb
end
end Bp

/-! text: D15 -/
set_option Elab.async false
set_option linter.all false
set_option maxRecDepth 100000
set_option maxHeartbeats 4000000
/-! calls: paint, signs, closing_at, parted -/
namespace Bp
open PySem PySem.Spec PyProof.Rows L2
/-- a sign, its way left open -/
def SgD (K : PySem.W.Frag) (H : Hp) (v : V) (c : Int) : Prop := ∃ (g : Addr) (pg rw w : V), v = .ref g ∧ SqT K H g [pg, rw, .int c, w]
theorem SgAt.d {K : PySem.W.Frag} {H : Hp} {v : V} {c : Int} (h : SgAt K H v c) : SgD K H v c := by
  obtain ⟨g, w, pg, rw, ws, h1, h2, _⟩ := h
  exact ⟨g, pg, rw, .ref w, h1, h2⟩
theorem Same.sd {K : PySem.W.Frag} {H H' : Hp} {v : V} {c : Int} (e : Same H H') (h : SgD K H v c) : SgD K H' v c := by
  obtain ⟨g, pg, rw, w, h1, h2⟩ := h
  exact ⟨g, pg, rw, w, h1, Same.sqt e h2⟩
theorem sd_but {K : PySem.W.Frag} {H H' : Hp} {p : Addr} {ys : List V} {v : V} {c : Int} (e : SameBut p H H') (hp : H p = some (.lst ys)) (h : SgD K H v c) : SgD K H' v c := by
  obtain ⟨g, pg, rw, w, h1, h2⟩ := h
  exact ⟨g, pg, rw, w, h1, sqt_but e hp h2⟩
theorem Paired.ofAll {α β : Type} {F : α → β → Prop} : ∀ {l : List α}, (∀ a ∈ l, ∃ b, F a b) → ∃ r, Paired F l r
  | [], _ => ⟨[], .nil⟩
  | a :: l, h => by
    obtain ⟨b, hb⟩ := h a (List.mem_cons_self ..)
    obtain ⟨r, hr⟩ := Paired.ofAll (l := l) fun x hx => h x (List.mem_cons_of_mem _ hx)
    exact ⟨b :: r, .cons hb hr⟩
/-- a Piece's signs with their columns -/
theorem PcAt.cols {K : PySem.W.Frag} {H : Hp} {a : Addr} {t : Str} {c : Int} {pn : List Str} (h : PcAt K H a t c pn) : ∃ (dx sa pa : Addr) (sgs : List V) (cs : List Int), H a = some (.ins (He.ga K "Piece") dx (pFs t sa pa)) ∧ SqT K H sa sgs ∧ SqT K H pa (pn.map V.str) ∧ sgs.length ≤ 5000 ∧
    Paired (SgAt K H) sgs (c :: cs) := by
  obtain ⟨dx, sa, pa, sgs, h1, h2, h3, h4, h5, h6, h7⟩ := h
  cases sgs with
  | nil => exact absurd rfl h3
  | cons v r =>
    obtain ⟨cs, hcs⟩ := Paired.ofAll (F := SgAt K H) (l := r) fun x hx => h5 x (List.mem_cons_of_mem _ hx)
    exact ⟨dx, sa, pa, v :: r, cs, h1, h2, h7, h4, .cons (h6 v rfl) hcs⟩
/-- a Piece made of such signs -/
theorem pd_of {K : PySem.W.Frag} {H : Hp} {a dx sa pa : Addr} {t : Str} {c : Int} {sgs : List V} {cs : List Int} (h1 : H a = some (.ins (He.ga K "Piece") dx (pFs t sa pa))) (h2 : SqT K H sa sgs) (h3 : Paired (SgD K H) sgs (c :: cs)) : PcD K H a t c := by
  cases h3 with
  | cons k _ =>
    obtain ⟨g, pg, rw, w, e, q⟩ := k
    subst e
    exact ⟨dx, sa, pa, g, _, pg, rw, w, h1, h2, rfl, q⟩
section
variable {P : Program} {w : World} {K : PySem.W.Frag} {mg : Str → Option Value} {base : Heap}
def spPainted (K : PySem.W.Frag) : Sp := fun vs H Q _ => ∃ (a b : Addr) (z : Str), vs = [.ref a, .ref b] ∧ SqT K H a [] ∧ SqT K H b [.str z] ∧ ∀ p H', H p = none → Same H H' → H' p = some (.tup [.str z]) → Q (.ref p) H'
theorem sc_painted : FnScope ["one", "other"] ["one", "other"] (defScope s_painted) := ⟨rfl, rfl, rfl, by decide +kernel, rfl, by decide +kernel, by decide +kernel⟩
theorem ok_painted (T : Top w K mg) : GOk P w K mg base CX0 1 "painted" ["one", "other"] (spPainted K) := by
  obtain ⟨fd, F⟩ := T.f_painted
  refine ⟨_, fd, T.g_painted, F.kp, F.bindsN fun _ _ _ _ _ _ us hl => match us, hl with | [_, _], _ => rfl, ok0 F sc_painted (fun vs H Q E h => ?_) (fun cdv A outer s H vs Q E hr h => ?_)⟩
  · obtain ⟨a, b, z, rfl, _⟩ := h
    rfl
  · obtain ⟨a, b, z, rfl, h1, h2, q⟩ := h
    refine ⟨_, (pss_one (ps_ret (pe_callTy call_tuple_of (by rfl) T.b_tuple (by decide +kernel) (pa_cons (pe_callB (cr_sortedT rfl) (by rfl) T.b_sorted (by decide +kernel) (pa_cons (pe_callTy (cr_set1 rfl) (by rfl) T.b_set (by decide +kernel) (pa_cons (pe_op op_catA (pv 0) (pv 1)) pa_nil)) pa_nil)) pa_nil)))), ?_⟩
    refine ⟨_, rfl, _, rfl, a, b, [], _, rfl, rfl, h1, h2, (by show 0 + 1 ≤ sizeLine; rw [sizeLine_eq]; decide), fun _ => ?_, fun z => absurd rfl z, fun z => absurd rfl z⟩
    refine ⟨b, z, rfl, h2, fun p hp => ?_⟩
    refine ⟨p, z, rfl, upd_same, fun p2 hp2 => ?_⟩
    refine ⟨p2, _, rfl, .inl ⟨SqL.of upd_same, fun l hl => ?_⟩⟩
    have s1 := same_upd hp (hoT w z p)
    have s2 := same_upd hp2 (.lst [.str z])
    exact q l _ (Dom.same (s1.trans s2) l hl) (s1.trans (s2.trans (same_upd hl _))) upd_same
def spLed (K : PySem.W.Frag) : Sp := fun vs H Q _ => ∃ (a wa : Addr) (sgs : List V) (cs : List Int), vs = [.ref a, .ref wa] ∧ SqT K H a sgs ∧ sgs.length ≤ 5000 ∧ Paired (SgD K H) sgs cs ∧
  ∀ p H' sgs', H p = none → Same H H' → H' p = some (.tup sgs') → Paired (SgD K H') sgs' cs → Q (.ref p) H'
theorem sc_led : FnScope ["signs", "way", "page", "row", "column", "old"] ["signs", "way"] (defScope s_led) := ⟨rfl, rfl, rfl, by decide +kernel, rfl, by decide +kernel, by decide +kernel⟩
theorem Paired.take1 {α β : Type} {F : α → β → Prop} {l : List α} {r : List β} {i : Nat} {a : α} {b : β} (h : Paired F (l.take i) (r.take i)) (ha : l[i]? = some a) (hb : r[i]? = some b) (hf : F a b) : Paired F (l.take (i + 1)) (r.take (i + 1)) := by
  rw [List.take_succ, List.take_succ, ha, hb]
  exact Paired.snoc h hf
/-- the list at D grows by what is made of each sign -/
def LdP (K : PySem.W.Frag) (H1 : Hp) (D : Addr) (cs : List Int) (i : Nat) (H2 : Hp) : Prop := ∃ acc : List V, SameBut D (upd H1 D (.lst [])) H2 ∧ H2 D = some (.lst acc) ∧ acc.length = i ∧ Paired (SgD K H2) acc (cs.take i)
theorem ok_led (T : Top w K mg) : GOk P w K mg base CX0 1 "led" ["signs", "way"] (spLed K) := by
  obtain ⟨fd, F⟩ := T.f_led
  refine ⟨_, fd, T.g_led, F.kp, F.bindsN fun _ _ _ _ _ _ us hl => match us, hl with | [_, _], _ => rfl, ok0 F sc_led (fun vs H Q E h => ?_) (fun cdv A outer s H vs Q E hr h => ?_)⟩
  · obtain ⟨a, wa, sgs, cs, rfl, _⟩ := h
    rfl
  · obtain ⟨a, wa, sgs, cs, rfl, h1, h2, h3, q⟩ := h
    refine ⟨_, (pss_one (ps_ret (pe_callTy call_tuple_of (by rfl) T.b_tuple (by decide +kernel) (pa_cons (pe_lc (own := [("page", 2), ("row", 3), ("column", 4), ("old", 5)]) (tt := tYes) (by rfl) sc_led.nd (pi_tup (pv 0)) (blkOk_by (own := [("page", 2), ("row", 3), ("column", 4), ("old", 5)]) (N := ["signs", "way", "page", "row", "column", "old"]) (sc := defScope s_led) (by decide +kernel)) (fun _ _ _ _ _ => (pg_tupK (K := K) (n := 4) rfl rfl (pgs_cons (pg_name (i := 2) sc_led.nd rfl (Or.inl rfl)) (pgs_cons (pg_name (i := 3) sc_led.nd rfl (Or.inl rfl)) (pgs_cons (pg_name (i := 4) sc_led.nd rfl (Or.inl rfl)) (pgs_cons (pg_name (i := 5) sc_led.nd rfl (Or.inl rfl)) pgs_nil)))))) (fun _ _ _ _ _ => pts_nil) (fun _ _ _ _ _ => (pe_tup (pa_cons (pv 2) (pa_cons (pv 3) (pa_cons (pv 4) (pa_cons (pv 1) pa_nil))))))) pa_nil)))), ?_⟩
    refine ⟨_, rfl, a, rfl, ⟨_, h1⟩, fun D hD => lc_tup (xs := sgs) (LdP K H D cs) ⟨[], fun _ _ _ z => z, upd_same, rfl, .nil⟩ ?_ ?_ ?_⟩
    · rintro i H2 hi ⟨acc, sb, hacc, hl, hp⟩
      exact sqt_but sb upd_same (Same.sqt (same_upd hD _) h1)
    · rintro i x H2 hx ⟨acc, sb, hacc, hl, hp⟩
      obtain ⟨c, hc, g, pg, rw', wv, rfl, hg⟩ := Paired.at1 h3 hx
      have hg2 : SqT K H2 g [pg, rw', .int c, wv] := sqt_but sb upd_same (Same.sqt (same_upd hD _) hg)
      have hi := (List.getElem?_eq_some_iff.mp hx).1
      refine ⟨g, _, rfl, hg2, rfl, _, _, rfl, _, _, rfl, _, _, rfl, _, _, rfl, rfl, rfl, ?_⟩
      refine ⟨_, rfl, _, rfl, _, rfl, _, rfl, (by show 4 ≤ sizeLine; decide), fun ga hga => ?_⟩
      have s2 : Same H2 (upd H2 ga (.tup [pg, rw', .int c, .ref wa])) := same_upd hga _
      have hD2 := s2 _ _ hacc
      refine ⟨acc, hD2, by rw [hl, sizeLine_eq]; omega, ?_⟩
      have s3 := but_upd (H := upd H2 ga (.tup [pg, rw', .int c, .ref wa])) D (.lst (acc ++ [V.ref ga]))
      refine ⟨acc ++ [V.ref ga], fun b o hb z => s3 _ _ hb (s2 _ _ (sb _ _ hb z)), upd_same, by rw [List.length_append, hl]; rfl, ?_⟩
      rw [List.take_succ, hc]
      refine Paired.snoc (Paired.mapP hp fun _ _ z => sd_but s3 hD2 (Same.sd s2 z)) ⟨ga, pg, rw', .ref wa, rfl, SqT.of ?_⟩
      rw [upd_ne (ne_of_none hacc hga).symm, upd_same]
    · rintro H2 ⟨acc, sb, hacc, hl, hp⟩
      refine ⟨D, acc, rfl, .inl ⟨SqL.of hacc, fun l hl2 => ?_⟩⟩
      have s3 := same_upd hl2 (.tup acc)
      have s02 : Same H H2 := fun b o z => sb b o (ne_of_none z hD) (same_upd hD _ b o z)
      rw [h3.length, List.take_length] at hp
      exact q l _ acc (Dom.same s02 l hl2) (s02.trans s3) upd_same (Paired.mapP hp fun _ _ z => Same.sd s3 z)
def spPassed (K : PySem.W.Frag) : Sp := fun vs H Q _ => ∃ (a : Addr) (nm : Str) (sgs : List V) (cs : List Int), vs = [.ref a, .str nm] ∧ SqT K H a sgs ∧ sgs.length ≤ 5000 ∧ Paired (SgAt K H) sgs cs ∧
  ∀ p H' sgs', H p = none → Same H H' → H' p = some (.tup sgs') → Paired (SgD K H') sgs' cs → Q (.ref p) H'
theorem sc_passed : FnScope ["signs", "name", "page", "row", "column", "way"] ["signs", "name"] (defScope s_passed) := ⟨rfl, rfl, rfl, by decide +kernel, rfl, by decide +kernel, by decide +kernel⟩
theorem ok_passed (T : Top w K mg) : GOk P w K mg base CX0 1 "passed" ["signs", "name"] (spPassed K) := by
  obtain ⟨fd, F⟩ := T.f_passed
  refine ⟨_, fd, T.g_passed, F.kp, F.bindsN fun _ _ _ _ _ _ us hl => match us, hl with | [_, _], _ => rfl, ok0 F sc_passed (fun vs H Q E h => ?_) (fun cdv A outer s H vs Q E hr h => ?_)⟩
  · obtain ⟨a, nm, sgs, cs, rfl, _⟩ := h
    rfl
  · obtain ⟨a, nm, sgs, cs, rfl, h1, h2, h3, q⟩ := h
    refine ⟨_, (pss_one (ps_ret (pe_callTy call_tuple_of (by rfl) T.b_tuple (by decide +kernel) (pa_cons (pe_lc (own := [("page", 2), ("row", 3), ("column", 4), ("way", 5)]) (tt := tYes) (by rfl) sc_passed.nd (pi_tup (pv 0)) (blkOk_by (own := [("page", 2), ("row", 3), ("column", 4), ("way", 5)]) (N := ["signs", "name", "page", "row", "column", "way"]) (sc := defScope s_passed) (by decide +kernel)) (fun _ _ _ _ _ => (pg_tupK (K := K) (n := 4) rfl rfl (pgs_cons (pg_name (i := 2) sc_passed.nd rfl (Or.inl rfl)) (pgs_cons (pg_name (i := 3) sc_passed.nd rfl (Or.inl rfl)) (pgs_cons (pg_name (i := 4) sc_passed.nd rfl (Or.inl rfl)) (pgs_cons (pg_name (i := 5) sc_passed.nd rfl (Or.inl rfl)) pgs_nil)))))) (fun _ _ _ _ _ => pts_nil) (fun _ _ _ _ _ => (pe_tup (pa_cons (pv 2) (pa_cons (pv 3) (pa_cons (pv 4) (pa_cons (pe_op (op_catK (K := K) rfl) (pv 5) (pe_tup (pa_cons (pv 1) pa_nil))) pa_nil))))))) pa_nil)))), ?_⟩
    refine ⟨_, rfl, a, rfl, ⟨_, h1⟩, fun D hD => lc_tup (xs := sgs) (LdP K H D cs) ⟨[], fun _ _ _ z => z, upd_same, rfl, .nil⟩ ?_ ?_ ?_⟩
    · rintro i H2 hi ⟨acc, sb, hacc, hl, hp⟩
      exact sqt_but sb upd_same (Same.sqt (same_upd hD _) h1)
    · rintro i x H2 hx ⟨acc, sb, hacc, hl, hp⟩
      obtain ⟨c, hc, g, wv, pg, rw', ws, rfl, hg, hw, hwl⟩ := Paired.at1 h3 hx
      have hg2 : SqT K H2 g [pg, rw', .int c, .ref wv] := sqt_but sb upd_same (Same.sqt (same_upd hD _) hg)
      have hw2 : SqT K H2 wv ws := sqt_but sb upd_same (Same.sqt (same_upd hD _) hw)
      have hi := (List.getElem?_eq_some_iff.mp hx).1
      refine ⟨g, _, rfl, hg2, rfl, _, _, rfl, _, _, rfl, _, _, rfl, _, _, rfl, rfl, rfl, ?_⟩
      refine ⟨_, rfl, _, rfl, _, rfl, _, rfl, _, rfl, (by show 1 ≤ sizeLine; decide), fun na hna => ?_⟩
      have s1 : Same H2 (upd H2 na (.tup [.str nm])) := same_upd hna _
      have fin : ∀ (wn : Addr) (H3 : Hp), Same H2 H3 → ∀ ga, H3 ga = none → ∃ acc, (upd H3 ga (.tup [pg, rw', .int c, .ref wn])) D = some (.lst acc) ∧ acc.length < sizeLine ∧ LdP K H D cs (i + 1) (upd (upd H3 ga (.tup [pg, rw', .int c, .ref wn])) D (.lst (acc ++ [V.ref ga]))) := by
        intro wn H3 s13 ga hga
        have s2 : Same H2 (upd H3 ga (.tup [pg, rw', .int c, .ref wn])) := s13.trans (same_upd hga _)
        have hD2 := s2 _ _ hacc
        refine ⟨acc, hD2, by rw [hl, sizeLine_eq]; omega, ?_⟩
        have s3 := but_upd (H := upd H3 ga (.tup [pg, rw', .int c, .ref wn])) D (.lst (acc ++ [V.ref ga]))
        refine ⟨acc ++ [V.ref ga], fun b o hb z => s3 _ _ hb (s2 _ _ (sb _ _ hb z)), upd_same, by rw [List.length_append, hl]; rfl, ?_⟩
        rw [List.take_succ, hc]
        refine Paired.snoc (Paired.mapP hp fun _ _ z => sd_but s3 hD2 (Same.sd s2 z)) ⟨ga, pg, rw', .ref wn, rfl, SqT.of ?_⟩
        rw [upd_ne (ne_of_none (s13 _ _ hacc) hga).symm, upd_same]
      refine ⟨wv, na, ws, [.str nm], rfl, rfl, Same.sqt s1 hw2, SqT.of upd_same, (by rw [sizeLine_eq]; show ws.length + 1 ≤ _; omega), fun _ => ⟨(by show 4 ≤ sizeLine; decide), fun ga hga => fin na _ s1 ga hga⟩, fun _ z => absurd z (by simp), fun _ _ pp hpp => ⟨(by show 4 ≤ sizeLine; decide), fun ga hga => fin pp _ (s1.trans (same_upd hpp _)) ga hga⟩⟩
    · rintro H2 ⟨acc, sb, hacc, hl, hp⟩
      refine ⟨D, acc, rfl, .inl ⟨SqL.of hacc, fun l hl2 => ?_⟩⟩
      have s3 := same_upd hl2 (.tup acc)
      have s02 : Same H H2 := fun b o z => sb b o (ne_of_none z hD) (same_upd hD _ b o z)
      rw [h3.length, List.take_length] at hp
      exact q l _ acc (Dom.same s02 l hl2) (s02.trans s3) upd_same (Paired.mapP hp fun _ _ z => Same.sd s3 z)
end
end Bp

/-! text: D6 -/
set_option Elab.async false
set_option linter.all false
set_option maxRecDepth 100000
set_option maxHeartbeats 4000000
/-! Reading -/
namespace Bp
open PySem PySem.Spec PyProof.Rows L2
def rFs (l : Addr) (b : V) (i m : Int) : List (Str × V) := [("given_row", .ref l), ("behind", b), ("spot", .int i), ("nested", .int m)]
theorem ne_gb : ¬ (("given_row" : Str) = "behind") := by decide +kernel
theorem ne_gs : ¬ (("given_row" : Str) = "spot") := by decide +kernel
theorem ne_gn : ¬ (("given_row" : Str) = "nested") := by decide +kernel
theorem ne_bs : ¬ (("behind" : Str) = "spot") := by decide +kernel
theorem ne_bn : ¬ (("behind" : Str) = "nested") := by decide +kernel
theorem ne_sn : ¬ (("spot" : Str) = "nested") := by decide +kernel
theorem rFs_is (l : Addr) (b : V) (i m : Int) : putF "nested" (.int m) (putF "spot" (.int i) (putF "behind" b (putF "given_row" (.ref l) []))) = rFs l b i m := by
  show putF "nested" (.int m) (putF "spot" (.int i) (if ("given_row" : Str) = "behind" then _ else (("given_row" : Str), V.ref l) :: putF "behind" b [])) = _
  rw [if_neg ne_gb]
  show putF "nested" (.int m) (if ("given_row" : Str) = "spot" then _ else (("given_row" : Str), V.ref l) :: (if ("behind" : Str) = "spot" then _ else (("behind" : Str), b) :: putF "spot" (.int i) [])) = _
  rw [if_neg ne_gs, if_neg ne_bs]
  show (if ("given_row" : Str) = "nested" then _ else (("given_row" : Str), V.ref l) :: (if ("behind" : Str) = "nested" then _ else (("behind" : Str), b) :: (if ("spot" : Str) = "nested" then _ else (("spot" : Str), V.int i) :: putF "nested" (.int m) []))) = _
  rw [if_neg ne_gn, if_neg ne_bn, if_neg ne_sn]
  rfl
theorem rFs_row (l : Addr) (b : V) (i m : Int) : (rFs l b i m).lookup ("given_row" : Str) = some (.ref l) := by
  rw [← rFs_is, lookup_putF, if_neg ne_gn, lookup_putF, if_neg ne_gs, lookup_putF, if_neg ne_gb, lookup_putF, if_pos rfl]
theorem rFs_behind (l : Addr) (b : V) (i m : Int) : (rFs l b i m).lookup ("behind" : Str) = some b := by
  rw [← rFs_is, lookup_putF, if_neg ne_bn, lookup_putF, if_neg ne_bs, lookup_putF, if_pos rfl]
theorem rFs_spot (l : Addr) (b : V) (i m : Int) : (rFs l b i m).lookup ("spot" : Str) = some (.int i) := by
  rw [← rFs_is, lookup_putF, if_neg ne_sn, lookup_putF, if_pos rfl]
theorem rFs_nested (l : Addr) (b : V) (i m : Int) : (rFs l b i m).lookup ("nested" : Str) = some (.int m) := by
  rw [← rFs_is, lookup_putF, if_pos rfl]
theorem rFs_no (l : Addr) (b : V) (i n : Int) {m : Str} (h1 : ¬ m = "nested") (h2 : ¬ m = "spot") (h3 : ¬ m = "behind") (h4 : ¬ m = "given_row") : (rFs l b i n).lookup m = none := by
  rw [← rFs_is, lookup_putF, if_neg h1, lookup_putF, if_neg h2, lookup_putF, if_neg h3, lookup_putF, if_neg h4]
  rfl
theorem rFs_putSpot (l : Addr) (b : V) (i m j : Int) : putF "spot" (.int j) (rFs l b i m) = rFs l b j m := by
  show (if ("given_row" : Str) = "spot" then _ else (("given_row" : Str), V.ref l) :: (if ("behind" : Str) = "spot" then _ else (("behind" : Str), b) :: (if ("spot" : Str) = "spot" then (("spot" : Str), V.int j) :: [(("nested" : Str), V.int m)] else _))) = _
  rw [if_neg ne_gs, if_neg ne_bs, if_pos rfl]
  rfl
theorem rFs_putNested (l : Addr) (b : V) (i m j : Int) : putF "nested" (.int j) (rFs l b i m) = rFs l b i j := by
  show (if ("given_row" : Str) = "nested" then _ else (("given_row" : Str), V.ref l) :: (if ("behind" : Str) = "nested" then _ else (("behind" : Str), b) :: (if ("spot" : Str) = "nested" then _ else (("spot" : Str), V.int i) :: (if ("nested" : Str) = "nested" then (("nested" : Str), V.int j) :: [] else _)))) = _
  rw [if_neg ne_gn, if_neg ne_bn, if_neg ne_sn, if_pos rfl]
  rfl
/-- a Reading stands at a: its row, how far it is read, how much is open -/
def RdAt (K : PySem.W.Frag) (H : Hp) (a l : Addr) (i m : Nat) : Prop := ∃ (dx : Addr) (b : V), H a = some (.ins (He.ga K "Reading") dx (rFs l b (i : Int) (m : Int)))
/-- the Reading at a is written -/
def RdTo (K : PySem.W.Frag) (H : Hp) (a l : Addr) (i m : Nat) : Hp := match H a with
  | some (.ins C dx fs) => upd H a (.ins C dx (putF "nested" (.int m) (putF "spot" (.int i) fs)))
  | _ => H
section
variable {P : Program} {w : World} {K : PySem.W.Frag} {mg : Str → Option Value} {base : Heap}
def spReadingI (K : PySem.W.Frag) : Sp := fun vs H Q _ => ∃ (p dx l : Addr) (b : V), vs = [.ref p, .ref l, b] ∧ H p = some (.ins (He.ga K "Reading") dx []) ∧ Q .non (upd H p (.ins (He.ga K "Reading") dx (rFs l b 0 0)))
theorem sc_Reading_init : FnScope ["self", "pieces", "end"] ["self", "pieces", "end"] (defScope s_Reading_init) := ⟨rfl, rfl, rfl, by decide +kernel, rfl, by decide +kernel, by decide +kernel⟩
theorem ok_Reading (T : Top w K mg) : COk P w K mg base CX0 1 "Reading" ["self", "pieces", "end"] [] (spReadingI K) := by
  obtain ⟨fd, F⟩ := T.f_Reading_init
  refine ⟨_, fd, [], T.g_Reading, T.k_Reading, .nil, F.bindsN fun _ _ _ _ _ _ us hl => match us, hl with | [_, _, _], _ => rfl, ok0 F sc_Reading_init (fun vs H Q E h => ?_) (fun cdv A outer s H vs Q E hr h => ?_)⟩
  · obtain ⟨p, dx, l, b, rfl, _⟩ := h
    rfl
  · obtain ⟨p, dx, l, b, rfl, hp, q⟩ := h
    refine ⟨_, (pss_cons (ps_fld (pv 0) (pv 1) rfl)
      (pss_cons (ps_fld (pv 0) (pv 2) rfl)
      (pss_cons (ps_fld (pv 0) pe_int rfl)
      (pss_one (ps_fld (pv 0) pe_int rfl))))), ?_⟩
    refine ⟨_, rfl, _, rfl, p, _, dx, [], rfl, hp, T.c_Reading, T.n_Reading_given_row, (by decide), ?_⟩
    refine ⟨_, rfl, _, rfl, p, _, dx, _, rfl, upd_same, T.c_Reading, T.n_Reading_behind, (by show 1 < 1000; decide), ?_⟩
    refine ⟨_, rfl, p, _, dx, _, rfl, upd_same, T.c_Reading, T.n_Reading_spot, ?_, ?_⟩
    · show (putF "behind" b (putF "given_row" (V.ref l) [])).length < 1000
      show ((if ("given_row" : Str) = "behind" then _ else (("given_row" : Str), V.ref l) :: putF "behind" b [])).length < 1000
      rw [if_neg ne_gb]
      show 2 < 1000
      decide
    refine ⟨_, rfl, p, _, dx, _, rfl, upd_same, T.c_Reading, T.n_Reading_nested, ?_, ?_⟩
    · show (putF "spot" (V.int 0) (if ("given_row" : Str) = "behind" then _ else (("given_row" : Str), V.ref l) :: putF "behind" b [])).length < 1000
      rw [if_neg ne_gb]
      show (if ("given_row" : Str) = "spot" then _ else (("given_row" : Str), V.ref l) :: (if ("behind" : Str) = "spot" then _ else (("behind" : Str), b) :: putF "spot" (.int 0) [])).length < 1000
      rw [if_neg ne_gs, if_neg ne_bs]
      show 3 < 1000
      decide
    rw [upd_upd, upd_upd, upd_upd, rFs_is]
    exact q
def spNow (K : PySem.W.Frag) : Sp := fun vs H Q _ => ∃ (rd l : Addr) (i m : Nat) (ts : List (Str × Int)), vs = [.ref rd] ∧ RdAt K H rd l i m ∧ RowAt K H l ts ∧ Q (.str (textAt ts i)) H
theorem sc_Reading_now : FnScope ["self"] ["self"] (defScope s_Reading_now) := ⟨rfl, rfl, rfl, by decide +kernel, rfl, by decide +kernel, by decide +kernel⟩
theorem ok_now (T : Top w K mg) : MOk P w K mg base CX0 2 "Reading" "now" ["self"] (spNow K) := by
  obtain ⟨fd, F⟩ := T.f_Reading_now
  refine ⟨_, fd, T.c_Reading, T.m_Reading_now, F.bindsN fun _ _ _ _ _ _ us hl => match us, hl with | [_], _ => rfl, ok0 F sc_Reading_now (fun vs H Q E h => ?_) (fun cdv A outer s H vs Q E hr h => ?_)⟩
  · obtain ⟨rd, l, i, m, ts, rfl, _⟩ := h
    rfl
  · obtain ⟨rd, l, i, m, ts, rfl, ⟨dx, b, h1⟩, h2, q⟩ := h
    have g_text_at := ok_text_at (P := P) (base := base) T
    refine ⟨_, (pss_one (ps_ret (pe_g g_text_at hr (by decide) pass0 (pa_cons (pe_fld (pv 0) rfl) (pa_cons (pe_fld (pv 0) rfl) pa_nil))))), ?_⟩
    exact ⟨_, rfl, rd, _, dx, _, _, rfl, h1, T.c_Reading, T.n_Reading_given_row, rFs_row _ _ _ _, _, rfl, rd, _, dx, _, _, rfl, h1, T.c_Reading, T.n_Reading_spot, rFs_spot _ _ _ _, l, ts, i, rfl, h2, q⟩
def spHere (K : PySem.W.Frag) : Sp := fun vs H Q _ => ∃ (rd l : Addr) (i m : Nat) (ts : List (Str × Int)) (t : Str × Int), vs = [.ref rd] ∧ RdAt K H rd l i m ∧ RowAt K H l ts ∧ ts[i]? = some t ∧ ∀ p pg rw, H p = none → Q (.ref p) (upd H p (.tup [pg, rw, .int t.2]))
theorem sc_Reading_here : FnScope ["self"] ["self"] (defScope s_Reading_here) := ⟨rfl, rfl, rfl, by decide +kernel, rfl, by decide +kernel, by decide +kernel⟩
theorem ok_here (T : Top w K mg) : MOk P w K mg base CX0 3 "Reading" "here" ["self"] (spHere K) := by
  obtain ⟨fd, F⟩ := T.f_Reading_here
  refine ⟨_, fd, T.c_Reading, T.m_Reading_here, F.bindsN fun _ _ _ _ _ _ us hl => match us, hl with | [_], _ => rfl, ok0 F sc_Reading_here (fun vs H Q E h => ?_) (fun cdv A outer s H vs Q E hr h => ?_)⟩
  · obtain ⟨rd, l, i, m, ts, t, rfl, _⟩ := h
    rfl
  · obtain ⟨rd, l, i, m, ts, t, rfl, ⟨dx, b, h1⟩, h2, h3, q⟩ := h
    have g_place_of := ok_place_of (P := P) (base := base) T
    refine ⟨_, (pss_one (ps_ret (pe_g g_place_of hr (by decide) pass0 (pa_cons (pe_fld (pv 0) rfl) (pa_cons (pe_fld (pv 0) rfl) (pa_cons (pe_fld (pv 0) rfl) pa_nil)))))), ?_⟩
    exact ⟨_, rfl, rd, _, dx, _, _, rfl, h1, T.c_Reading, T.n_Reading_given_row, rFs_row _ _ _ _, _, rfl, rd, _, dx, _, _, rfl, h1, T.c_Reading, T.n_Reading_spot, rFs_spot _ _ _ _, _, rfl, rd, _, dx, _, _, rfl, h1, T.c_Reading, T.n_Reading_behind, rFs_behind _ _ _ _, l, ts, i, b, t, rfl, h2, h3, q⟩
/-- what the Reading at a becomes -/
def Moved (K : PySem.W.Frag) (H H' : Hp) (a l : Addr) (i m : Nat) : Prop := SameBut a H H' ∧ RdAt K H' a l i m
def spTaken (K : PySem.W.Frag) : Sp := fun vs H Q _ => ∃ (rd l : Addr) (i m : Nat) (ts : List (Str × Int)), vs = [.ref rd] ∧ RdAt K H rd l i m ∧ RowAt K H l ts ∧ ∀ dx b, H rd = some (.ins (He.ga K "Reading") dx (rFs l b (i : Int) (m : Int))) → Q (.str (textAt ts i)) (upd H rd (.ins (He.ga K "Reading") dx (rFs l b ((i + 1 : Nat) : Int) (m : Int))))
theorem sc_Reading_taken : FnScope ["self", "found"] ["self"] (defScope s_Reading_taken) := ⟨rfl, rfl, rfl, by decide +kernel, rfl, by decide +kernel, by decide +kernel⟩
theorem ok_taken (T : Top w K mg) : MOk P w K mg base CX0 3 "Reading" "taken" ["self"] (spTaken K) := by
  obtain ⟨fd, F⟩ := T.f_Reading_taken
  refine ⟨_, fd, T.c_Reading, T.m_Reading_taken, F.bindsN fun _ _ _ _ _ _ us hl => match us, hl with | [_], _ => rfl, ok0 F sc_Reading_taken (fun vs H Q E h => ?_) (fun cdv A outer s H vs Q E hr h => ?_)⟩
  · obtain ⟨rd, l, i, m, ts, rfl, _⟩ := h
    rfl
  · obtain ⟨rd, l, i, m, ts, rfl, ⟨dx, b, h1⟩, h2, q⟩ := h
    have m_Reading_now := ok_now (P := P) (base := base) T
    refine ⟨_, (pss_cons (ps_set (i := 1) sc_Reading_taken.nd rfl (Or.inl rfl) (pe_m0 m_Reading_now hr (by decide) pass0 (pv 0)))
      (pss_cons (ps_fldaug (pv 0) pe_int in_add)
      (pss_one (ps_ret (pv 1))))), ?_⟩
    refine ⟨_, rfl, rd, dx, _, rfl, h1, rFs_no _ _ _ _ (by decide +kernel) (by decide +kernel) (by decide +kernel) (by decide +kernel), rd, l, i, m, ts, rfl, ⟨dx, b, h1⟩, h2, ?_⟩
    refine ⟨_, rfl, rd, _, dx, _, _, rfl, h1, T.c_Reading, T.n_Reading_spot, rFs_spot _ _ _ _, ?_⟩
    refine ⟨_, _, rfl, rfl, dx, _, h1, (by show 4 < 1000; decide), ?_⟩
    rw [rFs_putSpot]
    exact ⟨_, rfl, q dx b h1⟩
end
end Bp

/-! text: R2 -/
set_option Elab.async false
set_option linter.all false
set_option maxRecDepth 100000
set_option maxHeartbeats 4000000
/-! more rules that the hand layer lacks -/
namespace Bp
open PySem PySem.Spec PyProof.Rows L2
theorem len_codes' (z : Str) : z.length = z.cps.toList.length := by
  obtain ⟨⟨l⟩⟩ := z
  rfl
section
variable {X : Cx}
/-- xs != [] -/
theorem op_ne_nil (hu : X.A.units + 64 < cLine) : OpR X (compareOp .NotEq) (fun x y H Q => ∃ a b xs, x = .ref a ∧ y = .ref b ∧ SqL X.K H a xs ∧ SqL X.K H b [] ∧ Q (.bl (!xs.isEmpty)) H) := by
  intro pins s σ H x y v u Q I rx ry h
  obtain ⟨a, b, xs, ex, ey, h1, h2, q⟩ := h
  subst ex ey
  cases rx
  cases ry
  obtain ⟨its, rv, pl, _⟩ := I.list h1
  obtain ⟨its2, rv2, pl2, _⟩ := I.list h2
  have l2 : its2 = [] := List.length_eq_zero_iff.mp rv2.length.symm
  subst l2
  have hu2 : X.A.units < cLine := by omega
  cases xs with
  | nil =>
    have l1 : its = [] := List.length_eq_zero_iff.mp rv.length.symm
    subst l1
    exact SeqAt.RcNeAt.lists (e := fun _ => true) pl.isList pl2.isList rfl hu2 (fun j h1 _ => absurd h1 (Nat.not_lt_zero j)) X.prog X.w _ _ ⟨.bl false, H, I, rfl, q⟩
  | cons z r =>
    have l1 : its.length = r.length + 1 := rv.length.symm
    exact SeqAt.RcNeAt.lists_lengths pl.isList pl2.isList (by rw [List.size_toArray, l1]; rfl) hu2 X.prog X.w _ _ ⟨.bl true, H, I, rfl, q⟩
/-- a text some times -/
theorem op_mulS : OpR X (binaryOp .Mult) (fun x y H Q => ∃ (z : Str) (n : Nat), x = .str z ∧ y = .int (n : Int) ∧ z.length = 1 ∧ n ≤ 10000 ∧ Q (.str (Txt.mul z n)) H) := by
  intro pins s σ H x y v u Q I rx ry h
  obtain ⟨z, n, ex, ey, hz, hn, q⟩ := h
  subst ex ey
  obtain ⟨t, rfl⟩ := rx
  obtain ⟨t2, rfl⟩ := ry
  refine PySem.SB.mul ⟨?_, fun h1 h2 => ?_, fun h1 h2 => ?_⟩ fun t' k => ⟨.str _, H, I.tok _, ⟨_, rfl⟩, q⟩
  · rw [decide_eq_false (show ¬ ((n : Int) < -(2 ^ 63 : Int)) by omega), decide_eq_false (show ¬ ((n : Int) ≥ 2 ^ 63) by omega)]
    rfl
  · rw [hz]
    intro z1
    have z2 : (2 ^ 63 - 1 : Int) / (n : Int) ≥ 1 := by
      refine Int.le_ediv_of_mul_le (by omega) ?_
      omega
    omega
  · rw [hz, Int.toNat_natCast, Nat.one_mul]
    exact decide_eq_false (by rw [sizeLine_eq]; omega)
/-- a power of whole numbers of any size, the exponent small -/
theorem op_powW : OpR X (binaryOp .Pow) (rI (fun i j => 0 ≤ j ∧ j ≤ 100 ∧ i.natAbs < 2 ^ 1000) fun i j => .int (i ^ j.toNat)) := opI fun i j _ _ _ _ _ hc q => by
  refine pow_int hc.1 ?_ q
  have h1 : Builtin.Int.intBits i ≤ 1000 := by
    unfold Builtin.Int.intBits
    split
    · omega
    · have := PySem.Flt.log2_lt_of (k := 1000) (by decide) hc.2.2
      omega
  have h2 : (Builtin.Int.intBits i : Int) * j ≤ 1000 * 100 := Int.mul_le_mul (by omega) hc.2.1 hc.1 (by omega)
  omega
/-! ### int(t, 16) of a text that begins with 0x -/
open PySem.NumText in
theorem read_0x {l : List Nat} (h : ∀ c ∈ l, Hx.IsHex c) (hne : l ≠ []) : (int_private% "readNumeral") 0 16 (48 :: 120 :: l) = (int_private% "Numeral.value") ((Hx.hexNum l : Nat) : Int) := by
  have hr : ∀ c ∈ l.reverse, Hx.IsHex c := fun c hc => h c (List.mem_reverse.mp hc)
  have b0 : based 16 (48 :: 120 :: l) = (16, false, l) := by
    clear hr
    cases l with
    | nil => rfl
    | cons c r =>
      have hc := Hx.hex_rng (h c (List.mem_cons_self ..))
      by_cases e : c = 95
      · exact absurd e hc.2.2
      · show ((16, false, (match (c :: r : List Nat) with
          | 95 :: r => r
          | r => r)) : Nat × Bool × List Nat) = (16, false, c :: r)
        split
        · rename_i q
          exact absurd (List.cons.inj q).1 e
        · rfl
  refine (readNumeral_eq 0 16 _).trans ?_
  show judge 0 false (based 16 (48 :: 120 :: l)).1 (based 16 (48 :: 120 :: l)).2.1 (digits? (based 16 (48 :: 120 :: l)).1 (((based 16 (48 :: 120 :: l)).2.2.reverse.dropWhile blank).reverse)) = _
  rw [b0]
  show judge 0 false 16 false (digits? 16 ((l.reverse.dropWhile blank).reverse)) = _
  rw [Hx.dropB hr, List.reverse_reverse, Hx.digits_hex h hne]
  have z := Hx.push_hex l #[]
  have e0 : (#[] : Array Nat).foldl (fun acc d => acc * 16 + d) 0 = 0 := by simp
  rw [e0] at z
  show (int_private% "Numeral.value") (((l.foldl (fun acc c => acc.push (Hx.hv c)) (#[] : Array Nat)).foldl (fun acc d => acc * 16 + d) 0 : Nat) : Int) = _
  rw [z]
  rfl
open PySem.NumText PySem.Calls in
theorem seen_0x {x : Str} {l : List Nat} (e : x.cps.toList = 48 :: 120 :: l) (h : ∀ c ∈ l, Hx.IsHex c) : numTextOf x = x.cps.toList ∧ numSeenOf x = x.cps.toList := by
  have all : ∀ c ∈ x.cps.toList, 48 ≤ c ∧ c < 128 := by
    intro c hc
    rw [e] at hc
    rcases List.mem_cons.mp hc with q | hc
    · omega
    · rcases List.mem_cons.mp hc with q | hc
      · omega
      · have := Hx.hex_rng (h c hc)
        omega
  have e1 : numTextOf x = x.cps.toList := by
    refine if_pos ?_
    rw [← Array.all_toList, List.all_eq_true]
    exact fun c hc => decide_eq_true (all c hc).2
  refine ⟨e1, ?_⟩
  show (numTextOf x).takeWhile _ = _
  rw [e1]
  exact takeWhile_all fun c hc => bne_iff_ne.mpr (by have := (all c hc).1; omega)
open PySem.NumText PySem.Calls in
set_option maxHeartbeats 4000000 in
theorem gives_0x {x : Str} {u t : Tok} {l : List Nat} (e : x.cps.toList = 48 :: 120 :: l) (hl : x.length ≤ 640) (h : ∀ c ∈ l, Hx.IsHex c) (hne : l ≠ []) :
    Gives (Builtin.«int.__new__» ⟨[.type "int", .str x u, .int 16 t], []⟩) (.int ((Hx.hexNum l : Nat) : Int)) := by
  refine .of_wp fun M A E s Q hQ => ?_
  obtain ⟨hp, g, d, tk, os⟩ := s
  obtain ⟨e1, e2⟩ := seen_0x e h
  have told : Hx.Hid ((numSeenOf x).length ≤ 640 ∧ (int_private% "readNumeral") 0 16 (numSeenOf x) = (int_private% "Numeral.value") ((Hx.hexNum l : Nat) : Int) ∧ ((numSeenOf x).length == (numTextOf x).length) = true) := by
    refine ⟨?_, ?_, ?_⟩
    · rw [e2, ← len_codes']
      exact hl
    · rw [e2, e]
      exact read_0x h hne
    · rw [e1, e2]
      exact beq_self_eq_true _
  clear e1 e2 e hl hne h
  have g1 := F.conv_sub_int
  have g2 := F.madeHere_int
  have g3 : typeOf (.str x u) = pure (.type "str") := rfl
  repeat
    any_goals first
      | assumption
      | (with_reducible
          show wpAny _ _ ((int_private% "intFromText") _ _ _) _ _ _
         refine Hx.wp_textB told.out.1 told.out.2.1 ?_ ?_
         · exact told.out.2.2)
      | wp_step
  all_goals first | exact ⟨_, rfl, hQ⟩ | skip
/-- int(t, 16), t with 0x ahead -/
def rInt0x : List V → Hp → VK → Prop := fun xs H Q => ∃ (x : Str) (l : List Nat), xs = [.str x, .int 16] ∧ x.cps.toList = 48 :: 120 :: l ∧ l ≠ [] ∧ x.length ≤ 640 ∧ (∀ c ∈ l, Hx.IsHex c) ∧ Q (.int ((Hx.hexNum l : Nat) : Int)) H
open PySem.NumText PySem.Calls in
theorem call_int_0x : CallR X (.type "int") rInt0x := by
  intro pins s σ H xs us Q I r h
  obtain ⟨x, l, ev, e, hne, hl, hx, q⟩ := h
  subst ev
  obtain ⟨u, w', rfl, r1, r2⟩ := vals2 r
  obtain ⟨t1, rfl⟩ := r1
  obtain ⟨t2, rfl⟩ := r2
  have fin : EP X pins σ Q (.int ((Hx.hexNum l : Nat) : Int) s.toks) { s with toks := s.toks + 1 } := ⟨.int _, H, I.tok _, ⟨_, rfl⟩, q⟩
  exact callType_new F.called_int F.newNe_int (Hx.typeCall_int_2 _ _) (Hx.newCall_int_2 _ _)
    (fun obj => F.initArgs_range_2 obj _ _) F.entry_int_new
    (gives_0x e hl hx hne).meets
    (show (Made.int ((Hx.hexNum l : Nat) : Int)).post _ s from ⟨rfl, fin⟩)
end
/-! ### a call of what an expression tells -/
def tCallE (P : Program) (w : World) (K : PySem.W.Frag) (mg : Str → Option Value) (base : Heap) (k : Nat) (tf : TE) (t : TA) : TE := fun σ H Q => tf σ H fun y H1 => ∃ (f : Addr) (fd : FuncData) (ps : List Str) (sp : Sp), y = .ref f ∧ PySem.W.keepIn K (.ref f) = true ∧ Binds K fd ps [] ∧
  FnOk P w K mg base CX0 k f fd ps sp ∧ t σ H1 fun vs H2 => sp vs H2 Q E0
section
variable {X : Cx} {fe e : Expr} {es : List Expr} {tf : TE} {t : TA} {k : Nat} {pos : Pos}
theorem pe_callE (hf : PE X fe tf) (hr : Room k X.A) (hx : Passes CX0 X E0) (ha : PA X (e :: es) t)
    (hc : eval (.Call fe (e :: es) [] pos) X.env = (do callWith pos (← eval fe X.env) [] (backTo pos (starEach (e :: es) X.env)) (backToKw pos (keywordEach [] X.env))) := by rfl)
    (he : starEach (e :: es) X.env = (false, eval e X.env) :: starEach es X.env := by rfl) (hpl : (backTo pos (starEach es X.env)).any (·.1) = false := by rfl) :
    PE X (.Call fe (e :: es) [] pos) (tCallE X.prog X.w X.K X.mg X.base k tf t) := by
  constructor
  intro pins s σ H Q I h
  refine Call_ (thn (hf.run pins s σ H _ I h) ?_) hc
  rintro u s1 ⟨y, H1, I1, r1, f, fd, ps, sp, ey, hk, hb, F, h2⟩
  subst ey
  obtain rfl : u = Value.ref f := r1
  refine PySem.W.callWith_K (h₀ := X.base) I.ok.mod.kin hk (thn (ha.run pos pins s1 σ H1 _ I1 h2) ?_) he hpl
  rintro us s2 ⟨vs, H2, I2, r, q⟩
  refine ⟨I2.kIn, run_fn F hr hb .nil hx I2 r ?_⟩
  rw [List.append_nil]
  exact q
end
end Bp

/-! text: D7 -/
set_option Elab.async false
set_option linter.all false
set_option maxRecDepth 100000
set_option maxHeartbeats 4000000
/-! numbers of a condition -/
namespace Bp
open PySem PySem.Spec PyProof.Rows L2
/-- a token of a condition, expanded: a number, or a sign with its mark -/
inductive Tk
  | num (v : Nat)
  | sg (s : Str) (tag : Nat)
/-- a text that tells a number -/
def NumT (t : Str) (v : Nat) : Prop :=
  (t.cps.toList ≠ [] ∧ NumText.AllDigits t.cps.toList ∧ t.length ≤ 30 ∧ NumText.digitsVal t.cps.toList = v ∧ ¬ t.cps.toList.take 2 = [48, 120]) ∨
  (∃ l : List Nat, t.cps.toList = 48 :: 120 :: l ∧ l ≠ [] ∧ l.length ≤ 20 ∧ (∀ c ∈ l, (48 ≤ c ∧ c ≤ 57) ∨ (97 ≤ c ∧ c ≤ 102)) ∧ Hx.hexNum l = v)
def TkR (f : Int → Nat) (t : Str × Int) : Tk → Prop
  | .num v => NumT t.1 v
  | .sg s k => t.1 = s ∧ f t.2 = k
def RowR (f : Int → Nat) (ts : List (Str × Int)) (ks : List Tk) : Prop := Paired (TkR f) ts ks
theorem fig_is {c : Nat} : (isFigure c = true) ↔ (48 ≤ c ∧ c ≤ 57) := by
  unfold isFigure
  rw [decide_eq_true_iff]
  rw [show ("0123456789" : Str).cps.toList = [48, 49, 50, 51, 52, 53, 54, 55, 56, 57] from by decide +kernel]
  simp only [List.mem_cons, List.not_mem_nil, or_false]
  omega
theorem let_not {c : Nat} (h : 48 ≤ c ∧ c ≤ 57) : isLetter c = false := by
  unfold isLetter
  refine decide_eq_false fun z => ?_
  have all : ∀ d ∈ ("abcdefghijklmnopqrstuvwxyzABCDEFGHIJKLMNOPQRSTUVWXYZ" : Str).cps.toList, 65 ≤ d := by decide +kernel
  have := all c z
  omega
theorem NumT.head {t : Str} {v : Nat} (h : NumT t v) : ∃ c r, t.cps.toList = c :: r ∧ 48 ≤ c ∧ c ≤ 57 := by
  rcases h with ⟨h1, h2, _⟩ | ⟨l, h1, _⟩
  · cases e : t.cps.toList with
    | nil => exact absurd e h1
    | cons c r =>
      rw [e] at h2
      exact ⟨c, r, rfl, h2.head⟩
  · exact ⟨48, _, h1, by omega, by omega⟩
theorem NumT.len {t : Str} {v : Nat} (h : NumT t v) : t.length ≤ 30 ∧ t.length ≠ 0 := by
  rcases h with ⟨h1, h2, h3, _⟩ | ⟨l, h1, h2, h3, _⟩
  · refine ⟨h3, fun z => h1 ?_⟩
    rw [len_codes] at z
    exact List.length_eq_zero_iff.mp z
  · rw [len_codes, h1]
    refine ⟨?_, ?_⟩
    · show l.length + 1 + 1 ≤ 30
      omega
    · show ¬ (l.length + 1 + 1 = 0)
      omega
theorem NumT.noName {t : Str} {v : Nat} (h : NumT t v) : headLetter t = false := by
  obtain ⟨c, r, e, hc⟩ := h.head
  unfold headLetter
  rw [e]
  exact let_not hc
section
variable {P : Program} {w : World} {K : PySem.W.Frag} {mg : Str → Option Value} {base : Heap}
def spWorthTok (K : PySem.W.Frag) : Sp := fun vs H Q _ => ∃ (rd l : Addr) (i m : Nat) (ts : List (Str × Int)) (t : Str × Int) (v : Nat), vs = [.ref rd] ∧ RdAt K H rd l i m ∧ RowAt K H l ts ∧ ts[i]? = some t ∧ NumT t.1 v ∧
  ∀ H', SameBut rd H H' → RdAt K H' rd l (i + 1) m → Q (.int (v : Int)) H'
theorem sc_worth_of_token : FnScope ["reading", "text", "place", "sign"] ["reading"] (defScope s_worth_of_token) := ⟨rfl, rfl, rfl, by decide +kernel, rfl, by decide +kernel, by decide +kernel⟩
theorem textAt_of {ts : List (Str × Int)} {i : Nat} {t : Str × Int} (h : ts[i]? = some t) : textAt ts i = t.1 := by
  unfold textAt
  rw [h]
theorem but_same {a : Addr} {H H' : Hp} (h : Same H H') : SameBut a H H' := fun b o _ q => h b o q
theorem SameBut.trans {a : Addr} {H H' H'' : Hp} (h : SameBut a H H') (k : SameBut a H' H'') : SameBut a H H'' := fun b o n q => k b o n (h b o n q)
theorem six_in {c : Nat} (h : (48 ≤ c ∧ c ≤ 57) ∨ (97 ≤ c ∧ c ≤ 102)) : decide (c ∈ ("0123456789abcdefABCDEF" : Str).cps.toList) = true := by
  refine decide_eq_true ?_
  rw [show ("0123456789abcdefABCDEF" : Str).cps.toList = [48, 49, 50, 51, 52, 53, 54, 55, 56, 57, 97, 98, 99, 100, 101, 102, 65, 66, 67, 68, 69, 70] from by decide +kernel]
  simp only [List.mem_cons, List.not_mem_nil, or_false]
  omega
theorem str_eq {a b : Str} (h : a.cps.toList = b.cps.toList) : a = b := by
  obtain ⟨⟨l⟩⟩ := a
  obtain ⟨⟨r⟩⟩ := b
  show (⟨⟨l⟩⟩ : Str) = ⟨⟨r⟩⟩
  rw [show l = r from h]
theorem cut_front (z : Str) (b : Nat) : cutS z none (some (b : Int)) = strN (z.cps.toList.take b) := by
  unfold cutS strN
  rw [HT.sIx_nat]
  show (⟨((z.cps.toList.drop 0).take (min b z.length - 0)).toArray⟩ : Str) = _
  congr 2
  rw [List.drop_zero, List.take_eq_take_iff, ← len_codes]
  omega
theorem cut_back (z : Str) (a : Nat) : cutS z (some (a : Int)) none = strN (z.cps.toList.drop a) := by
  unfold cutS strN
  rw [HT.sIx_nat]
  show (⟨((z.cps.toList.drop (min a z.length)).take (z.length - min a z.length)).toArray⟩ : Str) = _
  congr 2
  rw [List.take_of_length_le (by rw [List.length_drop, ← len_codes]; exact Nat.le_refl _)]
  rcases Nat.le_total a z.length with h | h
  · rw [Nat.min_eq_left h]
  · rw [Nat.min_eq_right h, List.drop_of_length_le (by rw [← len_codes]; exact Nat.le_refl _), List.drop_of_length_le (by rw [← len_codes]; exact h)]
/-- over the signs of a text: a list of what f makes -/
theorem lc_signs {z : Str} (f : Nat → V) {g : TG} {te : TE} {vs : List Nat} {σ : L2.St} {H1 : Hp} {D : Addr} {Qd : Hp → Prop} (hz : z.length ≤ 1000)
    (hs : ∀ c ∈ z.cps.toList, ∀ H (Q : VK), Q (f c) H → g (.str ⟨#[c]⟩) (wipe σ vs) H fun σ2 H2 => wipe σ2 vs = wipe σ vs ∧ te σ2 H2 Q)
    (hd : Qd (upd H1 D (.lst (z.cps.toList.map f)))) :
    ∃ W : Nat → Nat → Hp → Prop, (∃ m, W 0 m (upd H1 D (.lst []))) ∧ ∀ i m H, W i m H →
      ((Its z).stop i H ∧ Qd H) ∨ ((Its z).go i H ∧ ∃ Nx : Hp → Prop, (∀ H', Nx H' → ∃ m', m' < m ∧ W (i + 1) m' H') ∧ ∀ x H', (Its z).yld i H x H' → g x (wipe σ vs) H' fun σ2 H2 => wipe σ2 vs = wipe σ vs ∧ tYes σ2 H2 fun b H3 =>
        if b = true then te σ2 H3 fun y H4 => ∃ acc, H4 D = some (.lst acc) ∧ acc.length < sizeLine ∧ Nx (upd H4 D (.lst (acc ++ [y]))) else Nx H3) := by
  have hsz : z.cps.size = z.cps.toList.length := by simp
  refine lc_it walk_str (fun i H => H = upd H1 D (.lst ((z.cps.toList.take i).map f))) rfl (fun _ _ _ _ => trivial) ?_ ?_
  · rintro i x H H' hi rfl ⟨rfl, c, hc, rfl⟩
    have hc' : z.cps.toList[i]? = some c := by rw [← hc]; simp
    refine hs c (List.mem_of_getElem? hc') _ (fun y H4 => ∃ acc, H4 D = some (.lst acc) ∧ acc.length < sizeLine ∧ (upd H4 D (.lst (acc ++ [y]))) = upd H1 D (.lst ((z.cps.toList.take (i + 1)).map f))) ?_
    refine ⟨_, upd_same, ?_, ?_⟩
    · rw [List.length_map, List.length_take, ← len_codes, sizeLine_eq]
      omega
    · rw [upd_upd]
      have e : z.cps.toList.take (i + 1) = z.cps.toList.take i ++ [c] := by
        rw [List.take_succ, hc']
        rfl
      rw [e, List.map_append]
      rfl
  · rintro H rfl
    rw [hsz, List.take_length]
    exact hd
theorem ok_worth_of_token (T : Top w K mg) : GOk P w K mg base CX0 4 "worth_of_token" ["reading"] (spWorthTok K) := by
  obtain ⟨fd, F⟩ := T.f_worth_of_token
  refine ⟨_, fd, T.g_worth_of_token, F.kp, F.bindsN fun _ _ _ _ _ _ us hl => match us, hl with | [_], _ => rfl, ok0 F sc_worth_of_token (fun vs H Q E h => ?_) (fun cdv A outer s H vs Q E hr h => ?_)⟩
  · obtain ⟨rd, l, i, m, ts, t, v, rfl, _⟩ := h
    rfl
  · obtain ⟨rd, l, i, m, ts, t, v, rfl, ⟨dx, b, h1⟩, h2, h3, hn, q⟩ := h
    obtain ⟨t_SIXTEEN, h_SIXTEEN⟩ := T.t_SIXTEEN
    obtain ⟨t_FIGURES, h_FIGURES⟩ := T.t_FIGURES
    obtain ⟨t_MF, h_MOST_FIGURES⟩ := T.i_MOST_FIGURES
    obtain ⟨t_MS, h_MOST_OF_SIXTEEN⟩ := T.i_MOST_OF_SIXTEEN
    have m_Reading_now := ok_now (P := P) (base := base) T
    have m_Reading_here := ok_here (P := P) (base := base) T
    have g_need := ok_need (P := P) (base := base) T
    have g_is_name := ok_is_name (P := P) (base := base) T
    have hlen := hn.len
    have hil := (List.getElem?_eq_some_iff.mp h3).1
    refine ⟨_, (pss_cons (ps_set (i := 1) sc_worth_of_token.nd rfl (Or.inl rfl) (pe_m0 m_Reading_now hr (by decide) pass0 (pv 0)))
      (pss_cons (ps_expr (pe_g g_need hr (by decide) pass0 (pa_cons (pe_fld (pv 0) rfl) (pa_cons (pe_fld (pv 0) rfl) (pa_cons (pe_fld (pv 0) rfl) (pa_cons pe_bl pa_nil))))))
      (pss_cons (ps_set (i := 2) sc_worth_of_token.nd rfl (Or.inl rfl) (pe_m0 m_Reading_here hr (by decide) pass0 (pv 0)))
      (pss_cons (ps_fldaug (pv 0) pe_int in_add)
      (pss_cons (ps_if (pt_val (pe_g g_is_name hr (by decide) pass0 (pa_cons (pv 1) pa_nil)))
        (pss_one (ps_ret pe_int))
        pss_nil)
      (pss_cons (ps_if (pt_cmpR op_eq (pe_slice sl_str (pv 1) po_none (po_some pe_int)) pe_str (nomark _))
        (pss_one (ps_if (PW.pt (pw_and (pt_chain op_le op_le pe_int (pe_op op_sub (pe_callB call_len_str (by rfl) T.b_len PySem.boot_len (pa_cons (pv 1) pa_nil)) pe_int) (pe_glob (v := .int 20) rfl h_MOST_OF_SIXTEEN ⟨_, rfl⟩)) (pw_and1 (pt_val (pe_callB (cr_all rfl) (by rfl) T.b_all (by decide +kernel) (pa_cons (pe_lc (own := [("sign", 3)]) (tt := tYes) (by rfl) sc_worth_of_token.nd (pi_str (pe_slice sl_str (pv 1) (po_some pe_int) po_none)) (blkOk_by (own := [("sign", 3)]) (N := ["reading", "text", "place", "sign"]) (sc := defScope s_worth_of_token) (by decide +kernel)) (fun _ _ _ _ _ => (pg_name (i := 3) sc_worth_of_token.nd rfl (Or.inl rfl))) (fun _ _ _ _ _ => pts_nil) (fun _ _ _ _ _ => (pe_cmpR op_in_sign (pv 3) (pe_glob (v := .str "0123456789abcdefABCDEF") rfl h_SIXTEEN ⟨_, rfl⟩) (by rfl)))) pa_nil))))))
        (pss_one (ps_ret (pe_callTy call_int_0x (by rfl) T.b_int (by decide +kernel) (pa_cons (pv 1) (pa_cons pe_int pa_nil)))))
        pss_nil))
        (pss_one (ps_if (PW.pt (pw_and (pt_cmpR op_le (pe_callB call_len_str (by rfl) T.b_len PySem.boot_len (pa_cons (pv 1) pa_nil)) (pe_glob (v := .int 30) rfl h_MOST_FIGURES ⟨_, rfl⟩) (nomark _)) (pw_and1 (pt_val (pe_callB (cr_all rfl) (by rfl) T.b_all (by decide +kernel) (pa_cons (pe_lc (own := [("sign", 3)]) (tt := tYes) (by rfl) sc_worth_of_token.nd (pi_str (pv 1)) (blkOk_by (own := [("sign", 3)]) (N := ["reading", "text", "place", "sign"]) (sc := defScope s_worth_of_token) (by decide +kernel)) (fun _ _ _ _ _ => (pg_name (i := 3) sc_worth_of_token.nd rfl (Or.inl rfl))) (fun _ _ _ _ _ => pts_nil) (fun _ _ _ _ _ => (pe_cmpR op_in_sign (pv 3) (pe_glob (v := .str "0123456789") rfl h_FIGURES ⟨_, rfl⟩) (by rfl)))) pa_nil))))))
        (pss_one (ps_ret (pe_callTy call_int_str (by rfl) T.b_int (by decide +kernel) (pa_cons (pv 1) pa_nil))))
        pss_nil)))
      (pss_one ps_never))))))), ?_⟩
    refine ⟨_, rfl, rd, dx, _, rfl, h1, rFs_no _ _ _ _ (by decide +kernel) (by decide +kernel) (by decide +kernel) (by decide +kernel), rd, l, i, m, ts, rfl, ⟨dx, b, h1⟩, h2, ?_⟩
    refine ⟨_, rfl, rd, _, dx, _, _, rfl, h1, T.c_Reading, T.n_Reading_given_row, rFs_row _ _ _ _, _, rfl, rd, _, dx, _, _, rfl, h1, T.c_Reading, T.n_Reading_spot, rFs_spot _ _ _ _, _, rfl, rd, _, dx, _, _, rfl, h1, T.c_Reading, T.n_Reading_behind, rFs_behind _ _ _ _, l, ts, i, b, rfl, h2, hil, ?_⟩
    refine ⟨_, rfl, rd, dx, _, rfl, h1, rFs_no _ _ _ _ (by decide +kernel) (by decide +kernel) (by decide +kernel) (by decide +kernel), rd, l, i, m, ts, t, rfl, ⟨dx, b, h1⟩, h2, h3, fun p pg rw' hp => ?_⟩
    have hpr : rd ≠ p := ne_of_none h1 hp
    refine ⟨_, rfl, rd, _, dx, _, _, rfl, by rw [upd_ne hpr]; exact h1, T.c_Reading, T.n_Reading_spot, rFs_spot _ _ _ _, ?_⟩
    refine ⟨_, _, rfl, rfl, dx, _, by rw [upd_ne hpr]; exact h1, (by show 4 < 1000; decide), ?_⟩
    rw [rFs_putSpot, textAt_of h3]
    have hsb : SameBut rd H (upd (upd H p (.tup [pg, rw', .int t.2])) rd (.ins (He.ga K "Reading") dx (rFs l b ((i : Int) + 1) (m : Int)))) := (but_same (same_upd hp _)).trans (but_upd _ _)
    have hq := fun H' => q H'
    refine ⟨_, rfl, t.1, rfl, hlen.2, Nat.le_trans hlen.1 (by decide), ?_⟩
    rw [hn.noName]
    refine ⟨_, rfl, iteF ?_⟩
    have hrd : RdAt K (upd (upd H p (.tup [pg, rw', .int t.2])) rd (.ins (He.ga K "Reading") dx (rFs l b ((i : Int) + 1) (m : Int)))) rd l (i + 1) m := ⟨dx, b, upd_same⟩
    generalize upd (upd H p (.tup [pg, rw', .int t.2])) rd (.ins (He.ga K "Reading") dx (rFs l b ((i : Int) + 1) (m : Int))) = H1 at hsb hrd ⊢
    have hlz : t.1.length ≤ sizeLine := Nat.le_trans hlen.1 (by decide)
    refine ⟨_, rfl, _, rfl, t.1, rfl, hlz, rfl, _, rfl, ?_⟩
    rw [show cutS t.1 none (some 2) = strN (t.1.cps.toList.take 2) from cut_front t.1 2]
    rcases hn with ⟨n1, n2, n3, n4, n5⟩ | ⟨r, n1, n2, n3, n4, n5⟩
    · rw [decide_eq_false (show ¬ (V.str (strN (t.1.cps.toList.take 2)) = V.str "0x") from fun z => n5 (by
        have z2 : t.1.cps.toList.take 2 = ("0x" : Str).cps.toList := congrArg (fun s : Str => s.cps.toList) (V.str.inj z)
        rw [z2]
        decide +kernel))]
      refine iteF ?_
      refine ⟨_, rfl, t.1, rfl, hlz, _, _, rfl, rfl, _, rfl, ?_⟩
      rw [decide_eq_true (show ((t.1.length : Nat) : Int) ≤ 30 by omega)]
      refine iteT ?_
      refine ⟨_, rfl, t.1, rfl, fun D hD => lc_signs (z := t.1) (fun _ => V.bl true) (by omega) (fun c hc H2 Q2 hQ => ?_) ?_⟩
      · refine ⟨rfl, _, rfl, c, _, rfl, rfl, ?_⟩
        have z := fig_is.mpr (n2 c hc)
        unfold isFigure at z
        rw [z]
        exact hQ
      refine ⟨D, t.1.cps.toList.map (fun _ => true), rfl, SqL.of (by rw [upd_same, List.map_map]; rfl), _, rfl, ?_⟩
      rw [show (t.1.cps.toList.map (fun _ => true)).all id = true by rw [List.all_map, List.all_eq_true]; intro x _; rfl]
      refine iteT ⟨_, rfl, t.1, (v : Int), rfl, ?_, Nat.le_trans hlen.1 (by decide), ?_⟩
      · rw [← n4]
        exact PySem.intText_digits n2 n1 (by omega)
      refine q _ (hsb.trans (but_same (same_upd hD _))) ?_
      obtain ⟨dx2, b2, h9⟩ := hrd
      exact ⟨dx2, b2, by rw [upd_ne (ne_of_none h9 hD)]; exact h9⟩
    · have e2 : V.str (strN (t.1.cps.toList.take 2)) = V.str "0x" := by
        rw [n1]
        show V.str (strN [48, 120]) = V.str "0x"
        decide +kernel
      rw [e2, decide_eq_true rfl]
      have el : t.1.length = r.length + 2 := by
        rw [len_codes, n1]
        rfl
      have hr0 : r.length ≠ 0 := fun z => n2 (List.length_eq_zero_iff.mp z)
      refine iteT ?_
      refine ⟨_, rfl, t.1, rfl, hlz, _, _, rfl, rfl, _, _, rfl, rfl, _, rfl, ?_⟩
      rw [decide_eq_true (show (1 : Int) ≤ ((t.1.length : Nat) : Int) - 2 by omega)]
      refine iteT ⟨_, _, rfl, rfl, _, rfl, ?_⟩
      rw [decide_eq_true (show ((t.1.length : Nat) : Int) - 2 ≤ 20 by omega)]
      refine iteT ?_
      have e3 : cutS t.1 (some 2) none = strN r := by
        rw [show cutS t.1 (some 2) none = strN (t.1.cps.toList.drop 2) from cut_back t.1 2, n1]
        rfl
      refine ⟨_, rfl, _, rfl, t.1, rfl, hlz, _, rfl, fun D hD => ?_⟩
      rw [e3]
      refine lc_signs (z := strN r) (fun _ => V.bl true) (by show r.toArray.size ≤ 1000; rw [List.size_toArray]; omega) (fun c hc H2 Q2 hQ => ?_) ?_
      · refine ⟨rfl, _, rfl, c, _, rfl, rfl, ?_⟩
        rw [six_in (n4 c hc)]
        exact hQ
      refine ⟨D, r.map (fun _ => true), rfl, SqL.of (by rw [upd_same, List.map_map]; rfl), _, rfl, ?_⟩
      rw [show (r.map (fun _ => true)).all id = true by rw [List.all_map, List.all_eq_true]; intro x _; rfl]
      refine iteT ⟨_, rfl, t.1, r, rfl, n1, n2, by omega, fun c hc => ?_, ?_⟩
      · have := n4 c hc
        unfold Hx.IsHex
        omega
      rw [n5]
      refine q _ (hsb.trans (but_same (same_upd hD _))) ?_
      obtain ⟨dx2, b2, h9⟩ := hrd
      exact ⟨dx2, b2, by rw [upd_ne (ne_of_none h9 hD)]; exact h9⟩
end
end Bp

/-! text: R6 -/
set_option Elab.async false
set_option linter.all false
set_option maxRecDepth 100000
set_option maxHeartbeats 4000000
/-! name = {k: v for ..}; rules within comprehensions -/
namespace Bp
open PySem PySem.Spec PyProof.Rows L2
section
variable {X : Cx}
/-- name = {..} on one line, the name a local -/
theorem ps_setDc {i : Nat} {y : Str} {py : Pos} {kx vx tg iter : Expr} {ifs : List Expr} {scope : Scope} {own : List (Str × Nat)} {pos spos : Pos} {wi : TI} {g : TG} {tt : TT} {tk tv : TE} (hc : X.calm = true) (hN : X.N.Nodup) (hy : X.N[i]? = some y) (hyl : X.env.scope.names.lookup y = some .local)
    (hsw : swapsWith (.DictComp kx vx [⟨tg, iter, ifs, 0⟩] scope pos) (some (.Name y py)) spos.line X.env = pure true) (hi : PI X tg iter wi) (ok : BlkOk X.N X.env.scope scope own)
    (hg : ∀ (s : Shared) (H : Hp) (C : Addr) (cl : List (Str × Addr)) (fp : List Addr), PG (X.blk s H scope (compEnvC scope cl C X.env) fp) tg g) (ht : ∀ (s : Shared) (H : Hp) (C : Addr) (cl : List (Str × Addr)) (fp : List Addr), PTs (X.blk s H scope (compEnvC scope cl C X.env) fp) ifs tt)
    (hk : ∀ (s : Shared) (H : Hp) (C : Addr) (cl : List (Str × Addr)) (fp : List Addr), PE (X.blk s H scope (compEnvC scope cl C X.env) fp) kx tk)
    (he : ∀ (s : Shared) (H : Hp) (C : Addr) (cl : List (Str × Addr)) (fp : List Addr), PE (X.blk s H scope (compEnvC scope cl C X.env) fp) vx tv) (hs : ∀ x, foldedSetIterable iter X.env x = pure x := by intro _; rfl) :
    PS X (.Assign [.Name y py] (.DictComp kx vx [⟨tg, iter, ifs, 0⟩] scope pos) spos) (tAsg (tDc wi g tt tk tv (own.map (·.2))) (gName i)) := by
  refine ⟨fun pins s σ H D I h => ?_⟩
  rw [exec_Assign_Name_used _ _ _ _ hsw]
  refine wpAny_bind (wpAny_standAt (wpAny_bind ?_))
  show wpAny _ X.A (do let _ ← comprehension (.DictComp kx vx [⟨tg, iter, ifs, 0⟩] scope pos) scope X.env (firstIterPos [⟨tg, iter, ifs, 0⟩] pos) newDict false (eval iter X.env) (some (assign (.Name y py) X.env))) _ _ s
  have h : tDc wi g tt tk tv (own.map (·.2)) σ H (fun x H1 => gName i x σ H1 D.nx) := h
  refine wpAny_bind (thn (dc_core (Qf := fun _ s' => SP X pins D .next s') hc hN I hi ok hg ht hk he hs h fun L C s' m H' I' q hn f => ?_) fun _ s' hq => wpAny_pure (wpAny_pure hq))
  show wpAny _ _ (assign (.Name y py) X.env (.ref L)) _ _ _
  refine wpAny_assign_Name (store_ok2 (v := V.ref L) I' hN hy (.inl hyl) rfl (fun s2 I2 ⟨a, sb, ha⟩ => ?_) (.inr hyl))
  obtain ⟨f0, f1, f2, f3, f4, f5⟩ := f
  have haC : C ≠ a := by
    rcases ha with z | z
    · rw [z]; exact f1
    · exact fun e => f4 y a z e.symm
  refine ⟨m, hn.sameBut sb haC, fun h3 sb3 => ?_⟩
  exact ⟨_, H', I2.turned (t' := s2.toks) (fun b o hb e => (sb3.2 b hb).trans e) f0 f1 f3 f4 f5, q⟩
theorem sw_trueD {kx vx : Expr} {gs : List Comprehension} {scope : Scope} {pos py : Pos} {y : Str} {l : Nat} {env : Env} (hk : env.scope.kind = .function) (hy : env.scope.names.lookup y = some .local) (hl : (py.line == pos.line) = true)
    (ha : (scope.names.any fun (n, k) => n == y && (k == .local || k == .cell)) = false) : swapsWith (.DictComp kx vx gs scope pos) (some (.Name y py)) l env = pure true := by
  have ky : env.kindOf y = some .local := hy
  have hb : env.blockKind = .function := by unfold Env.blockKind; rw [hk]; rfl
  unfold swapsWith
  simp only [hb, ky, ha, Expr.pos, hl]
  rfl
/-- over a list that stays -/
theorem dc_list {K : PySem.W.Frag} {a : Addr} {xs : List V} {g : TG} {tt : TT} {tk tv : TE} {vs : List Nat} {σ : L2.St} {H1 : Hp} {D : Addr} {Qd : Hp → Prop} (Pv : Nat → Hp → Prop) (h0 : Pv 0 (upd H1 D (.dK []))) (hl : ∀ i H, i ≤ xs.length → Pv i H → SqL K H a xs)
    (hs : ∀ i x H, xs[i]? = some x → Pv i H → g x (wipe σ vs) H fun σ2 H2 => wipe σ2 vs = wipe σ vs ∧ tt σ2 H2 fun b H3 =>
      if b = true then tk σ2 H3 fun y H4 => tv σ2 H4 fun z H5 => ∃ kvs k, y = kV k ∧ H5 D = some (.dK kvs) ∧ kvs.length < sizeLine ∧ Pv (i + 1) (upd H5 D (.dK (putK kvs k z))) else Pv (i + 1) H3) (hd : ∀ H, Pv xs.length H → Qd H) :
    ∃ W : Nat → Nat → Hp → Prop, (∃ m, W 0 m (upd H1 D (.dK []))) ∧ ∀ i m H, W i m H →
      ((Itl K a).stop i H ∧ Qd H) ∨ ((Itl K a).go i H ∧ ∃ Nx : Hp → Prop, (∀ H', Nx H' → ∃ m', m' < m ∧ W (i + 1) m' H') ∧ ∀ x H', (Itl K a).yld i H x H' → g x (wipe σ vs) H' fun σ2 H2 => wipe σ2 vs = wipe σ vs ∧ tt σ2 H2 fun b H3 =>
        if b = true then tk σ2 H3 fun y H4 => tv σ2 H4 fun z H5 => ∃ kvs k, y = kV k ∧ H5 D = some (.dK kvs) ∧ kvs.length < sizeLine ∧ Nx (upd H5 D (.dK (putK kvs k z))) else Nx H3) := by
  refine ⟨fun i m H => m = xs.length - i ∧ i ≤ xs.length ∧ Pv i H, ⟨xs.length, by simp, Nat.zero_le _, h0⟩, ?_⟩
  rintro i m H ⟨rfl, hi, p⟩
  have q := hl i H hi p
  by_cases hlt : i < xs.length
  · refine .inr ⟨⟨xs, xs[i], q, by simp [hlt]⟩, Pv (i + 1), fun H' p' => ⟨xs.length - (i + 1), by omega, rfl, hlt, p'⟩, fun x H' y => ?_⟩
    obtain ⟨e, y⟩ := y
    subst e
    exact hs i x _ (y xs q) p
  · have e : i = xs.length := by omega
    subst e
    exact .inl ⟨⟨xs, q, Nat.le_refl _⟩, hd H p⟩
end
section
variable {X : Cx} {K : PySem.W.Frag}
theorem ix_listK (hK : X.K = K) : IxR X (rIxL K) := by
  subst hK
  exact ix_list
theorem ix_tupK (hK : X.K = K) : IxR X (rIxT K) := by
  subst hK
  exact ix_tup
theorem call_len_seqK (hK : X.K = K) : CallR X (.builtin "len") (fun xs H Q => ∃ p ys, xs = [.ref p] ∧ (SqL K H p ys ∨ SqT K H p ys) ∧ Q (.int ys.length) H) := by
  subst hK
  exact call_len_seq
theorem op_in_seqK (hK : X.K = K) : OpR X (compareOp .In) (rIn K false) := by
  subst hK
  exact op_in_seq
end
end Bp

/-! text: R7 -/
set_option Elab.async false
set_option linter.all false
set_option maxRecDepth 100000
set_option maxHeartbeats 4000000
/-! a tuple of a display, whose object is known: its method index; () += t -/
namespace Bp
open PySem PySem.Spec PyProof.Rows L2
/-- a tuple of a display -/
def FzT (H : Hp) (a : Addr) (xs : List V) : Prop := ∃ ob : Obj, H a = some (.frz ob (.tup xs)) ∧ ob.cls = .type "tuple" ∧ ob.dict = none
theorem FzT.sq {K : PySem.W.Frag} {H : Hp} {a : Addr} {xs : List V} (h : FzT H a xs) : SqT K H a xs := by
  obtain ⟨ob, h, _⟩ := h
  exact .inl (.inr ⟨ob, h⟩)
theorem Same.fz {H H' : Hp} {a : Addr} {xs : List V} (e : Same H H') (h : FzT H a xs) : FzT H' a xs := by
  obtain ⟨ob, h, q⟩ := h
  exact ⟨ob, e _ _ h, q⟩
section
variable {X : Cx} {es : List Expr} {t : TA} {pos : Pos}
def tTupF (t : TA) : TE := fun σ H Q => t σ H fun xs H1 => xs.length ≤ sizeLine ∧ ∀ p ob, H1 p = none → ob.cls = Value.type "tuple" → ob.dict = none → Q (.ref p) (upd H1 p (.frz ob (.tup xs)))
theorem pe_tupF {x1} (h : PA X es t) : PE X (.Tuple es x1 pos) (tTupF t) := by
  refine ⟨fun pins s σ H Q I hq => ?_⟩
  refine wpAny_Tuple_spliced (thn (h.run pos pins s σ H _ I hq) fun us s1 ⟨xs, H1, I1, r, z, q⟩ => ⟨by rw [← r.length]; exact z, ?_⟩)
  have hf : H1 s1.heap.objs.size = none := I1.hok.fresh (Nat.le_refl _)
  refine ⟨.ref s1.heap.objs.size, upd H1 s1.heap.objs.size (.frz { cls := .type "tuple", data := .seq us.toArray } (.tup xs)), I1.laid (t' := s1.toks) (fun b u e => Heap.get?_push_of_some _ e) (Nat.le_refl _) ?_, rfl, q _ { cls := .type "tuple", data := .seq us.toArray } hf rfl rfl⟩
  exact ⟨Heap.get?_push_size _ rfl, z, us, r, ⟨_, Heap.get?_push_size _ rfl, rfl, _, rfl⟩⟩
theorem no_tuple_iadd : typeLookup (.type "tuple") (dunderI "add") = pure none := by
  rw [typeLookup_type, builtinLookup_eq_fast]
  kernel_rfl
/-- () += u -/
theorem ip_cat0 : PIp X .Add (fun x y H Q => ∃ a b ys, x = .ref a ∧ y = .ref b ∧ SqT X.K H a [] ∧ SqT X.K H b ys ∧ Q (.ref b) H) := by
  intro pins s σ H x y v u Q I rx ry h
  obtain ⟨a, b, ys, rfl, rfl, ha, hb, q⟩ := h
  cases rx
  cases ry
  obtain ⟨its, r1, p1, _⟩ := I.tuple ha
  obtain ⟨its2, r2, p2, _⟩ := I.tuple hb
  cases r1
  obtain ⟨⟨cls, dd, data, sl⟩, ho, hc, n, hd⟩ := id p1
  obtain ⟨⟨cls2, dd2, data2, sl2⟩, ho2, hc2, n2, hd2⟩ := id p2
  simp only at hc hd hc2 hd2
  subst hc hd hc2 hd2
  exact wpAny_inplaceOp_concat ⟨_, ho, rfl⟩ ⟨_, ho2, rfl⟩ no_tuple_iadd noFill_tuple_add seq_tuple_add (call_meets PySem.F.slot_tuple_add ⟨_, ho, rfl⟩ PySem.F.entry_tuple_add (PySem.F.args_tuple_add_2 _ _)
    (tuple_addW0 a b ([] : List Value).toArray its2.toArray n n2 dd dd2 sl sl2 (by simp)) ⟨ho, ho2, ⟨.ref b, H, I, rfl, q⟩⟩)
/-- t.index(e), t such a tuple -/
def tTix (to : TE) (t : TA) : TE := fun σ H Q => to σ H fun x H1 => ∃ p xs, x = .ref p ∧ FzT H1 p xs ∧ t σ H1 fun vs H2 => ∃ (ys : List Str) (z : Str) (j : Nat), vs = [.str z] ∧ FzT H2 p (ys.map V.str) ∧ ys[j]? = some z ∧ (∀ m, m < j → ys[m]? ≠ some z) ∧ Q (.int (j : Nat)) H2
theorem pe_tixF {o e : Expr} {es : List Expr} {apos cpos : Pos} {to : TE} {t : TA} (ho : PE X o to) (ha : PA X (e :: es) t)
    (hbase : attributeBase o "index" X.env (eval o X.env) = eval o X.env := by rfl)
    (hfew : ((backTo cpos (starEach (e :: es) X.env)).all (fun x => !x.1) && (backToKw cpos (keywordEach [] X.env)).all (fun x => x.1.isSome)
      && decide ((e :: es).length + ([] : List Keyword).length + (if ([] : List Keyword).isEmpty then 0 else 1) < 30)) = true := by rfl)
    (hline : (apos.endLine == cpos.line) = true := by rfl) (hs : starEach (e :: es) X.env = (false, eval e X.env) :: starEach es X.env := by rfl) (hplain : (backTo cpos (starEach es X.env)).any (·.1) = false := by rfl) :
    PE X (.Call (.Attribute o "index" apos) (e :: es) [] cpos) (tTix to t) := by
  refine ⟨fun pins s σ H Q I h => ?_⟩
  refine wpAny_Call_method_late hbase hfew hline rfl (thn (ho.run pins s σ H _ I h) fun v s1 ⟨x, H1, I1, r1, p, xs, ex, hf, q1⟩ => ?_)
  subst ex
  cases r1
  obtain ⟨ob, hp, hc, hd⟩ := hf
  have ho1 : s1.heap.get? p = some ob := (I1.hok _ _ hp).1
  refine ⟨"tuple", "tuple.index", PySem.F.plainAttrs_tuple, PySem.F.slot_tuple_index, PySem.F.type_tuple_index, ⟨ob, ho1, hc⟩, fun a e => ?_, ?_⟩
  · cases e
    exact ⟨ob, ho1, hd⟩
  have hA := ha.run cpos pins s1 σ H1 _ I1 q1
  rw [hs] at hA ⊢
  refine Calls.callWith_builtin (by show (false || (backTo cpos (starEach es X.env)).any (·.1)) = false; rw [hplain] <;> rfl) (Calls.evalArgs_plain ?_)
  refine thn hA fun us s2 ⟨vs, H2, I2, r2, ys, z, j, ev, hf2, hy, hno, q2⟩ => ?_
  exact mt_tup_index pins s2 σ H2 (.ref p) vs (.ref p) us Q I2 rfl r2 ⟨p, ys, z, j, rfl, ev, hf2.sq, hy, hno, q2⟩
end
section
variable {X : Cx} {K : PySem.W.Frag} {CX : CXT} {k j : Nat} {C : Str} {ps : List Str} {sp : Sp} {dvs : List V} {E : XK} {p pos : Pos} {e : Expr} {es : List Expr} {t : TA}
theorem pe_cK (hK : X.K = K) (G : COk X.prog X.w X.K X.mg X.base CX k C ps dvs sp) (hr : Room j X.A) (hk : k + 1 ≤ j) (hx : Passes CX X E) (ha : PA X (e :: es) t) (hg : Gl X C := by rfl) (hdb : (C == ("__debug__" : Str)) = false := by decide)
    (he : starEach (e :: es) X.env = (false, eval e X.env) :: starEach es X.env := by rfl) (hpl : (backTo pos (starEach es X.env)).any (·.1) = false := by rfl) : PE X (.Call (.Name C p) (e :: es) [] pos) (tMake (He.ga K C) sp dvs E t) := by
  subst hK
  exact pe_c G hr hk hx ha hg hdb he hpl
end
end Bp

/-! text: D16 -/
set_option Elab.async false
set_option linter.all false
set_option maxRecDepth 100000
set_option maxHeartbeats 4000000
/-! the book's macros; closing_at, parted, call_at -/
namespace Bp
open PySem PySem.Spec PyProof.Rows L2
/-! ### macros and books -/
def mFs (nm : Str) (pv : V) (b : Addr) : List (Str × V) := [("name", .str nm), ("params", pv), ("body", .ref b)]
theorem ne_np : ¬ (("name" : Str) = "params") := by decide +kernel
theorem ne_nb : ¬ (("name" : Str) = "body") := by decide +kernel
theorem ne_pb : ¬ (("params" : Str) = "body") := by decide +kernel
theorem mFs_is (nm : Str) (pv : V) (b : Addr) : putF "body" (.ref b) (putF "params" pv (putF "name" (.str nm) [])) = mFs nm pv b := by
  show putF "body" (V.ref b) (if ("name" : Str) = "params" then _ else (("name" : Str), V.str nm) :: putF "params" pv []) = _
  rw [if_neg ne_np]
  show (if ("name" : Str) = "body" then _ else (("name" : Str), V.str nm) :: (if ("params" : Str) = "body" then _ else (("params" : Str), pv) :: putF "body" (.ref b) [])) = _
  rw [if_neg ne_nb, if_neg ne_pb]
  rfl
theorem mFs_name (nm : Str) (pv : V) (b : Addr) : (mFs nm pv b).lookup ("name" : Str) = some (.str nm) := by
  rw [← mFs_is, lookup_putF, if_neg ne_nb, lookup_putF, if_neg ne_np, lookup_putF, if_pos rfl]
theorem mFs_params (nm : Str) (pv : V) (b : Addr) : (mFs nm pv b).lookup ("params" : Str) = some pv := by
  rw [← mFs_is, lookup_putF, if_neg ne_pb, lookup_putF, if_pos rfl]
theorem mFs_body (nm : Str) (pv : V) (b : Addr) : (mFs nm pv b).lookup ("body" : Str) = some (.ref b) := by
  rw [← mFs_is, lookup_putF, if_pos rfl]
theorem mFs_no (nm : Str) (pv : V) (b : Addr) {m : Str} (h1 : ¬ m = "body") (h2 : ¬ m = "params") (h3 : ¬ m = "name") : (mFs nm pv b).lookup m = none := by
  rw [← mFs_is, lookup_putF, if_neg h1, lookup_putF, if_neg h2, lookup_putF, if_neg h3]
  rfl
/-- a Macro stands at m: name, params (none, or the tuple of one text), a body of one piece -/
def MacAt (K : PySem.W.Frag) (H : Hp) (m : Addr) (nm : Str) (pp : Option Str) (bt : Str) : Prop := ∃ (dx b pc : Addr) (pv : V) (bc : Int), H m = some (.ins (He.ga K "Macro") dx (mFs nm pv b)) ∧ SqT K H b [.ref pc] ∧ PcAt K H pc bt bc [] ∧
  (match pp with
    | none => pv = .non
    | some x => ∃ pr, pv = .ref pr ∧ FzT H pr [.str x])
theorem Same.mac {K : PySem.W.Frag} {H H' : Hp} {m : Addr} {nm bt : Str} {pp : Option Str} (e : Same H H') (h : MacAt K H m nm pp bt) : MacAt K H' m nm pp bt := by
  obtain ⟨dx, b, pc, pv, bc, h1, h2, h3, h4⟩ := h
  refine ⟨dx, b, pc, pv, bc, e _ _ h1, Same.sqt e h2, Same.pc e h3, ?_⟩
  cases pp with
  | none => exact h4
  | some x =>
    obtain ⟨pr, k1, k2⟩ := h4
    exact ⟨pr, k1, Same.fz e k2⟩
theorem fz_but {H H' : Hp} {a p : Addr} {xs ys : List V} (e : SameBut p H H') (hp : H p = some (.lst ys)) (h : FzT H a xs) : FzT H' a xs := by
  obtain ⟨ob, h, q⟩ := h
  exact ⟨ob, e _ _ (ne_of h hp fun z => nomatch z) h, q⟩
theorem mac_but {K : PySem.W.Frag} {H H' : Hp} {m p : Addr} {ys : List V} {nm bt : Str} {pp : Option Str} (e : SameBut p H H') (hp : H p = some (.lst ys)) (h : MacAt K H m nm pp bt) : MacAt K H' m nm pp bt := by
  obtain ⟨dx, b, pc, pv, bc, h1, h2, h3, h4⟩ := h
  refine ⟨dx, b, pc, pv, bc, e _ _ (ne_of h1 hp fun z => nomatch z) h1, sqt_but e hp h2, pc_but e hp h3, ?_⟩
  cases pp with
  | none => exact h4
  | some x =>
    obtain ⟨pr, k1, k2⟩ := h4
    exact ⟨pr, k1, fz_but e hp k2⟩
def bkKvs (m0 m1 m2 m3 : Addr) : List (Key × V) := [(Sum.inr "p0", .ref m0), (Sum.inr "p1", .ref m1), (Sum.inr "p2", .ref m2), (Sum.inr "q", .ref m3)]
/-- the book of the four macros -/
def BookAt (K : PySem.W.Frag) (H : Hp) (bk : Addr) : Prop := ∃ dx kd m0 m1 m2 m3 : Addr, H bk = some (.ins (He.ga K "Book") dx [("kept", .ref kd)]) ∧ H kd = some (.dK (bkKvs m0 m1 m2 m3)) ∧
  MacAt K H m0 "p0" none "0" ∧ MacAt K H m1 "p1" none "1" ∧ MacAt K H m2 "p2" none "2" ∧ MacAt K H m3 "q" (some "x") "x"
theorem Same.book {K : PySem.W.Frag} {H H' : Hp} {bk : Addr} (e : Same H H') (h : BookAt K H bk) : BookAt K H' bk := by
  obtain ⟨dx, kd, m0, m1, m2, m3, h1, h2, h3, h4, h5, h6⟩ := h
  exact ⟨dx, kd, m0, m1, m2, m3, e _ _ h1, e _ _ h2, Same.mac e h3, Same.mac e h4, Same.mac e h5, Same.mac e h6⟩
theorem book_but {K : PySem.W.Frag} {H H' : Hp} {bk p : Addr} {ys : List V} (e : SameBut p H H') (hp : H p = some (.lst ys)) (h : BookAt K H bk) : BookAt K H' bk := by
  obtain ⟨dx, kd, m0, m1, m2, m3, h1, h2, h3, h4, h5, h6⟩ := h
  exact ⟨dx, kd, m0, m1, m2, m3, e _ _ (ne_of h1 hp fun z => nomatch z) h1, e _ _ (ne_of h2 hp fun z => nomatch z) h2, mac_but e hp h3, mac_but e hp h4, mac_but e hp h5, mac_but e hp h6⟩
def noMac (t : Str) : Prop := t ≠ "p0" ∧ t ≠ "p1" ∧ t ≠ "p2" ∧ t ≠ "q"
/-- the macro of a name -/
def macOf (t : Str) : Option (Option Str × Str) := if t = "p0" then some (none, "0") else if t = "p1" then some (none, "1") else if t = "p2" then some (none, "2") else if t = "q" then some (some "x", "x") else none
theorem macOf_none {t : Str} (h : noMac t) : macOf t = none := by
  unfold macOf
  rw [if_neg h.1, if_neg h.2.1, if_neg h.2.2.1, if_neg h.2.2.2]
theorem book_get {K : PySem.W.Frag} {H : Hp} {bk : Addr} (h : BookAt K H bk) (t : Str) : ∃ (dx kd : Addr) (kvs : List (Key × V)), H bk = some (.ins (He.ga K "Book") dx [("kept", .ref kd)]) ∧ H kd = some (.dK kvs) ∧
    (match macOf t with
      | none => valV kvs (Sum.inr t) = none
      | some (pp, bt) => ∃ m, valV kvs (Sum.inr t) = some (.ref m) ∧ MacAt K H m t pp bt) := by
  obtain ⟨dx, kd, m0, m1, m2, m3, h1, h2, h3, h4, h5, h6⟩ := h
  refine ⟨dx, kd, _, h1, h2, ?_⟩
  have key : ∀ {a : Str}, ¬ t = a → ¬ (Sum.inr a : Key) = Sum.inr t := fun n z => n (Sum.inr.inj z).symm
  unfold macOf bkKvs
  by_cases c0 : t = "p0"
  · rw [if_pos c0]
    exact ⟨m0, by rw [c0]; exact valV_pos rfl, by rw [c0]; exact h3⟩
  rw [if_neg c0, valV_neg (key c0)]
  by_cases c1 : t = "p1"
  · rw [if_pos c1]
    exact ⟨m1, by rw [c1]; exact valV_pos rfl, by rw [c1]; exact h4⟩
  rw [if_neg c1, valV_neg (key c1)]
  by_cases c2 : t = "p2"
  · rw [if_pos c2]
    exact ⟨m2, by rw [c2]; exact valV_pos rfl, by rw [c2]; exact h5⟩
  rw [if_neg c2, valV_neg (key c2)]
  by_cases c3 : t = "q"
  · rw [if_pos c3]
    exact ⟨m3, by rw [c3]; exact valV_pos rfl, by rw [c3]; exact h6⟩
  rw [if_neg c3, valV_neg (key c3)]
  rfl
section
variable {P : Program} {w : World} {K : PySem.W.Frag} {mg : Str → Option Value} {base : Heap}
def spStood (K : PySem.W.Frag) : Sp := fun vs H Q _ => ∃ (bk : Addr) (t : Str), vs = [.ref bk, .str t] ∧ BookAt K H bk ∧ (macOf t = none → Q .non H) ∧ ∀ pp bt m, macOf t = some (pp, bt) → MacAt K H m t pp bt → Q (.ref m) H
theorem sc_Book_stood : FnScope ["self", "name"] ["self", "name"] (defScope s_Book_stood) := ⟨rfl, rfl, rfl, by decide +kernel, rfl, by decide +kernel, by decide +kernel⟩
theorem ok_stood (T : Top w K mg) : MOk P w K mg base CX0 1 "Book" "stood" ["self", "name"] (spStood K) := by
  obtain ⟨fd, F⟩ := T.f_Book_stood
  refine ⟨_, fd, T.c_Book, T.m_Book_stood, F.bindsN fun _ _ _ _ _ _ us hl => match us, hl with | [_, _], _ => rfl, ok0 F sc_Book_stood (fun vs H Q E h => ?_) (fun cdv A outer s H vs Q E hr h => ?_)⟩
  · obtain ⟨bk, t, rfl, _⟩ := h
    rfl
  · obtain ⟨bk, t, rfl, hb, q1, q2⟩ := h
    obtain ⟨dx, kd, kvs, h1, h2, h3⟩ := book_get hb t
    refine ⟨_, (pss_one (ps_ret (pe_dget1 (hu_of hr) (pe_fld (pv 0) rfl) (pv 1) ⟨rfl, rfl, rfl, rfl⟩))), ?_⟩
    refine ⟨_, rfl, bk, _, dx, _, _, rfl, h1, T.c_Book, T.n_Book_kept, rfl, kd, rfl, .inl ⟨kvs, .inl h2⟩, _, rfl, _, DGet.k (k := Sum.inr t) h2, ?_⟩
    cases e : macOf t with
    | none =>
      rw [e] at h3
      rw [h3]
      exact q1 e
    | some pb =>
      obtain ⟨pp, bt⟩ := pb
      rw [e] at h3
      obtain ⟨m, e1, e2⟩ := h3
      rw [e1]
      exact q2 pp bt m e e2
/-- of the call of q alone: ( number ) -/
def spClosing (K : PySem.W.Frag) : Sp := fun vs H Q _ => ∃ (l : Addr) (ps : List Addr) (i : Nat) (a0 a1 a2 : Addr) (t : Str) (c0 c1 c2 : Int), vs = [.ref l, .int (i : Int)] ∧ H l = some (.lst (ps.map V.ref)) ∧ ps.length ≤ 3000 ∧ ps[i]? = some a0 ∧ ps[i + 1]? = some a1 ∧ ps[i + 2]? = some a2 ∧
  PcD K H a0 "(" c0 ∧ PcD K H a1 t c1 ∧ PcD K H a2 ")" c2 ∧ t ≠ "(" ∧ t ≠ ")" ∧ Q (.int ((i + 2 : Nat) : Int)) H
theorem sc_closing_at : FnScope ["pieces", "at", "deep", "number"] ["pieces", "at"] (defScope s_closing_at) := ⟨rfl, rfl, rfl, by decide +kernel, rfl, by decide +kernel, by decide +kernel⟩
theorem ok_closing_at (T : Top w K mg) : GOk P w K mg base CX0 1 "closing_at" ["pieces", "at"] (spClosing K) := by
  obtain ⟨fd, F⟩ := T.f_closing_at
  refine ⟨_, fd, T.g_closing_at, F.kp, F.bindsN fun _ _ _ _ _ _ us hl => match us, hl with | [_, _], _ => rfl, ok0 F sc_closing_at (fun vs H Q E h => ?_) (fun cdv A outer s H vs Q E hr h => ?_)⟩
  · obtain ⟨l, ps, i, a0, a1, a2, t, c0, c1, c2, rfl, _⟩ := h
    rfl
  · obtain ⟨l, ps, i, a0, a1, a2, t, c0, c1, c2, rfl, h1, h2, e0, e1, e2, p0, p1, p2, n1, n2, q⟩ := h
    have hi2 := (List.getElem?_eq_some_iff.mp e2).1
    refine ⟨_, (pss_cons (ps_set (i := 2) sc_closing_at.nd rfl (Or.inl rfl) pe_int)
      (pss_cons (ps_for PassesOwn.never rfl (pi_range2 rfl T.b_range (pa_cons (pv 1) (pa_cons (pe_callB call_len_seq (by rfl) T.b_len PySem.boot_len (pa_cons (pv 0) pa_nil)) pa_nil))) (pg_name (i := 3) sc_closing_at.nd rfl (Or.inl rfl))
        (pss_cons (ps_if (pt_cmpR op_eq (pe_fld (pe_ix ix_list (pv 0) (pv 3) (fun _ _ => rfl)) rfl) pe_str (nomark _))
        (pss_one (ps_aug (i := 2) sc_closing_at.nd rfl (Or.inl rfl) pe_int ip_add))
        pss_nil)
      (pss_one (ps_if (pt_cmpR op_eq (pe_fld (pe_ix ix_list (pv 0) (pv 3) (fun _ _ => rfl)) rfl) pe_str (nomark _))
        (pss_cons (ps_aug (i := 2) sc_closing_at.nd rfl (Or.inl rfl) pe_int ip_sub)
      (pss_one (ps_if (pt_cmpR op_eq (pv 2) pe_int (nomark _))
        (pss_one (ps_ret (pv 3)))
        pss_nil)))
        pss_nil))))
      (pss_one (ps_ret pe_non)))), ?_⟩
    refine ⟨_, rfl, _, rfl, l, _, rfl, .inl (SqL.of h1), ?_⟩
    rw [List.length_map]
    refine ⟨(i : Int), _, rfl, ⟨by omega, by omega, by omega, by omega⟩, for_range (lo := (i : Int)) (n := (((ps.length : Nat) : Int) - (i : Int)).toNat) (fun k σ H' => H' = H ∧ k ≤ 2 ∧ ∃ o : Option V, σ = [some (.ref l), some (.int (i : Int)), some (.int (if k = 0 then 0 else 1)), o]) ⟨rfl, Nat.zero_le _, _, rfl⟩ ?_ ?_⟩
    · rintro k σ H' hk ⟨rfl, hk2, o, rfl⟩
      have at_ : ∀ {j : Nat} {a : Addr}, ps[j]? = some a → (ps.map V.ref)[j]? = some (V.ref a) := fun z => by rw [List.getElem?_map, z]; rfl
      have dS : ∀ {a b : Str}, a = b → decide (V.str a = V.str b) = true := fun z => decide_eq_true (congrArg V.str z)
      have dN : ∀ {a b : Str}, ¬ a = b → decide (V.str a = V.str b) = false := fun z => decide_eq_false fun y => z (V.str.inj y)
      match k, hk2 with
      | 0, _ =>
        obtain ⟨dx, sa, pa, g, sgs, pg, rw', wv, g1, _⟩ := p0
        have hat : atI (ps.map V.ref) ((i : Int) + ((0 : Nat) : Int)) = some (.ref a0) := atI_nat (j := i) (at_ e0)
        refine ⟨_, rfl, _, rfl, l, _, _, _, rfl, rfl, SqL.of h1, hat, a0, _, dx, _, _, rfl, g1, T.c_Piece, T.n_Piece_text, pFs_text _ _ _, rfl, _, rfl, ?_⟩
        rw [dS (show (Str.ofString "(") = Str.ofString "(" from rfl)]
        refine iteT ⟨_, rfl, _, _, rfl, rfl, ?_⟩
        refine ⟨_, rfl, _, rfl, l, _, _, _, rfl, rfl, SqL.of h1, hat, a0, _, dx, _, _, rfl, g1, T.c_Piece, T.n_Piece_text, pFs_text _ _ _, rfl, _, rfl, ?_⟩
        rw [dN (show ¬ (Str.ofString "(") = Str.ofString ")" by decide +kernel)]
        exact iteF ⟨rfl, by decide, _, rfl⟩
      | 1, _ =>
        obtain ⟨dx, sa, pa, g, sgs, pg, rw', wv, g1, _⟩ := p1
        have hat : atI (ps.map V.ref) ((i : Int) + ((1 : Nat) : Int)) = some (.ref a1) := atI_nat (j := i + 1) (at_ e1)
        refine ⟨_, rfl, _, rfl, l, _, _, _, rfl, rfl, SqL.of h1, hat, a1, _, dx, _, _, rfl, g1, T.c_Piece, T.n_Piece_text, pFs_text _ _ _, rfl, _, rfl, ?_⟩
        rw [dN n1]
        refine iteF ⟨_, rfl, _, rfl, l, _, _, _, rfl, rfl, SqL.of h1, hat, a1, _, dx, _, _, rfl, g1, T.c_Piece, T.n_Piece_text, pFs_text _ _ _, rfl, _, rfl, ?_⟩
        rw [dN n2]
        exact iteF ⟨rfl, by decide, _, rfl⟩
      | 2, _ =>
        obtain ⟨dx, sa, pa, g, sgs, pg, rw', wv, g1, _⟩ := p2
        have hat : atI (ps.map V.ref) ((i : Int) + ((2 : Nat) : Int)) = some (.ref a2) := atI_nat (j := i + 2) (at_ e2)
        refine ⟨_, rfl, _, rfl, l, _, _, _, rfl, rfl, SqL.of h1, hat, a2, _, dx, _, _, rfl, g1, T.c_Piece, T.n_Piece_text, pFs_text _ _ _, rfl, _, rfl, ?_⟩
        rw [dN (show ¬ (Str.ofString ")") = Str.ofString "(" by decide +kernel)]
        refine iteF ⟨_, rfl, _, rfl, l, _, _, _, rfl, rfl, SqL.of h1, hat, a2, _, dx, _, _, rfl, g1, T.c_Piece, T.n_Piece_text, pFs_text _ _ _, rfl, _, rfl, ?_⟩
        rw [dS (show (Str.ofString ")") = Str.ofString ")" from rfl)]
        refine iteT ⟨_, rfl, _, _, rfl, rfl, ?_⟩
        refine ⟨_, rfl, rfl, _, rfl, iteT ⟨_, rfl, q⟩⟩
    · rintro σ H' ⟨_, hk2, _⟩
      omega
end
end Bp

/-! text: D17 -/
set_option Elab.async false
set_option linter.all false
set_option maxRecDepth 100000
set_option maxHeartbeats 4000000
/-! parted, call_at -/
namespace Bp
open PySem PySem.Spec PyProof.Rows L2
/-- a test that is never reached -/
def tNeverT : TT := fun _ _ _ => False
theorem pt_never {X : Cx} {e : Expr} : PT X e tNeverT := ⟨fun _ _ _ _ _ _ h => h.elim⟩
theorem dS {a b : Str} (z : a = b) : decide (V.str a = V.str b) = true := decide_eq_true (congrArg V.str z)
theorem dN {a b : Str} (z : ¬ a = b) : decide (V.str a = V.str b) = false := decide_eq_false fun y => z (V.str.inj y)
section
variable {P : Program} {w : World} {K : PySem.W.Frag} {mg : Str → Option Value} {base : Heap}
/-- of one piece that is no comma and no bracket -/
def spParted (K : PySem.W.Frag) : Sp := fun vs H Q _ => ∃ (l a : Addr) (t : Str) (c : Int), vs = [.ref l] ∧ H l = some (.lst [.ref a]) ∧ PcD K H a t c ∧ t ≠ "," ∧ t ≠ "(" ∧ t ≠ ")" ∧
  ∀ p r H', H p = none → H r = none → p ≠ r → Same H H' → H' p = some (.lst [.ref r]) → H' r = some (.lst [.ref a]) → Q (.ref p) H'
theorem sc_parted : FnScope ["pieces", "rows", "deep", "piece"] ["pieces"] (defScope s_parted) := ⟨rfl, rfl, rfl, by decide +kernel, rfl, by decide +kernel, by decide +kernel⟩
theorem ok_parted (T : Top w K mg) : GOk P w K mg base CX0 1 "parted" ["pieces"] (spParted K) := by
  obtain ⟨fd, F⟩ := T.f_parted
  refine ⟨_, fd, T.g_parted, F.kp, F.bindsN fun _ _ _ _ _ _ us hl => match us, hl with | [_], _ => rfl, ok0 F sc_parted (fun vs H Q E h => ?_) (fun cdv A outer s H vs Q E hr h => ?_)⟩
  · obtain ⟨l, a, t, c, rfl, _⟩ := h
    rfl
  · obtain ⟨l, a, t, c, rfl, h1, hp, n1, n2, n3, q⟩ := h
    refine ⟨_, (pss_cons (ps_set (i := 1) sc_parted.nd rfl (Or.inl rfl) (pe_lst (pa_cons (pe_lst pa_nil) pa_nil)))
      (pss_cons (ps_set (i := 2) sc_parted.nd rfl (Or.inl rfl) pe_int)
      (pss_cons (ps_for PassesOwn.never rfl (pi_list (pv 0)) (pg_name (i := 3) sc_parted.nd rfl (Or.inl rfl))
        (pss_cons (ps_if (PW.pt (pw_and (pt_cmpR op_eq (pe_fld (pv 3) rfl) pe_str (nomark _)) (pw_and1 (pt_cmpR op_eq (pv 2) pe_int (nomark _)))))
        (pss_one (ps_expr (pe_bm PySem.F.plainAttrs_list PySem.F.slot_list_append PySem.F.type_list_append mt_append (pv 1) (pa_cons (pe_lst pa_nil) pa_nil))))
        (pss_one (ps_expr (pe_bm PySem.F.plainAttrs_list PySem.F.slot_list_append PySem.F.type_list_append mt_append (pe_ix ix_list (pv 1) (pe_un un_neg pe_int) (fun _ _ => rfl)) (pa_cons (pv 3) pa_nil)))))
      (pss_cons (ps_if (pt_cmpR op_eq (pe_fld (pv 3) rfl) pe_str (nomark _))
        (pss_one (ps_aug (i := 2) sc_parted.nd rfl (Or.inl rfl) pe_int ip_add))
        pss_nil)
      (pss_one (ps_if (pt_cmpR op_eq (pe_fld (pv 3) rfl) pe_str (nomark _))
        (pss_one (ps_aug (i := 2) sc_parted.nd rfl (Or.inl rfl) pe_int ip_sub))
        pss_nil)))))
      (pss_one (ps_ret (pv 1)))))), ?_⟩
    refine ⟨Nat.zero_le _, fun r hr => ⟨(by show 1 ≤ sizeLine; decide), fun p hp0 => ?_⟩⟩
    have hne : p ≠ r := fun z => by
      rw [z, upd_same] at hp0
      cases hp0
    have hp1 : H p = none := by
      rw [upd_ne hne] at hp0
      exact hp0
    have s1 : Same H (upd (upd H r (.lst [])) p (.lst [.ref r])) := (same_upd hr _).trans (same_upd hp0 _)
    have hr1 : (upd (upd H r (.lst [])) p (.lst [.ref r])) r = some (.lst []) := by rw [upd_ne hne.symm, upd_same]
    have hpp : (upd (upd H r (.lst [])) p (.lst [.ref r])) p = some (.lst [.ref r]) := upd_same
    generalize upd (upd H r (.lst [])) p (.lst [.ref r]) = H1 at s1 hr1 hpp ⊢
    refine ⟨_, rfl, l, rfl, ⟨_, SqL.of (s1 _ _ h1)⟩, for_list (xs := [.ref a]) (fun i σ H' => (∃ o : Option V, σ = [some (.ref l), some (.ref p), some (.int 0), o]) ∧ ((i = 0 ∧ H' = H1) ∨ (i = 1 ∧ H' = upd H1 r (.lst [.ref a])))) ⟨⟨_, rfl⟩, .inl ⟨rfl, rfl⟩⟩ ?_ ?_ ?_⟩
    · rintro i σ H' hi ⟨_, ⟨rfl, rfl⟩ | ⟨rfl, rfl⟩⟩
      · exact SqL.of (s1 _ _ h1)
      · refine SqL.of ?_
        rw [upd_ne (ne_of_none h1 hr)]
        exact s1 _ _ h1
    · rintro i y σ H' hy ⟨⟨o, rfl⟩, h⟩
      have hi : i = 0 := by
        have := (List.getElem?_eq_some_iff.mp hy).1
        have z : ([.ref a] : List V).length = 1 := rfl
        omega
      subst hi
      have hya : y = .ref a := by simpa using hy.symm
      subst hya
      rcases h with ⟨_, rfl⟩ | ⟨z, _⟩
      · obtain ⟨dx, sa, pa, g, sgs, pg, rw', wv, g1, _⟩ := hp
        have g2 := s1 _ _ g1
        refine ⟨_, rfl, a, _, dx, _, _, rfl, g2, T.c_Piece, T.n_Piece_text, pFs_text _ _ _, rfl, _, rfl, ?_⟩
        rw [dN n1]
        refine iteF ?_
        refine ⟨_, rfl, _, rfl, p, _, _, .ref r, rfl, rfl, SqL.of hpp, rfl, .inl ⟨rfl, _, SqL.of hr1⟩, _, rfl, r, _, _, rfl, rfl, hr1, (by decide), ?_⟩
        have g3 : (upd H' r (.lst ([] ++ [.ref a]))) a = some (.ins (He.ga K "Piece") dx (pFs t sa pa)) := by
          rw [upd_ne (ne_of_none g1 hr)]
          exact g2
        refine ⟨_, rfl, a, _, dx, _, _, rfl, g3, T.c_Piece, T.n_Piece_text, pFs_text _ _ _, rfl, _, rfl, ?_⟩
        rw [dN n2]
        refine iteF ⟨_, rfl, a, _, dx, _, _, rfl, g3, T.c_Piece, T.n_Piece_text, pFs_text _ _ _, rfl, _, rfl, ?_⟩
        rw [dN n3]
        exact iteF ⟨⟨_, rfl⟩, .inr ⟨rfl, rfl⟩⟩
      · cases z
    · rintro σ H' ⟨⟨o, rfl⟩, ⟨z, _⟩ | ⟨_, rfl⟩⟩
      · cases z
      · refine ⟨_, rfl, q p r _ hp1 hr hne (fun b o z => ?_) ?_ upd_same⟩
        · rw [upd_ne (ne_of_none z hr)]
          exact s1 _ _ z
        · rw [upd_ne hne]
          exact hpp
def pMac (t : Str) : Prop := t = "p0" ∨ t = "p1" ∨ t = "p2"
theorem macOf_p {t : Str} (h : pMac t) : ∃ bt, macOf t = some (none, bt) ∧ (bt = "0" ∧ t = "p0" ∨ bt = "1" ∧ t = "p1" ∨ bt = "2" ∧ t = "p2") := by
  rcases h with rfl | rfl | rfl
  · exact ⟨"0", by decide +kernel, .inl ⟨rfl, rfl⟩⟩
  · exact ⟨"1", by decide +kernel, .inr (.inl ⟨rfl, rfl⟩)⟩
  · exact ⟨"2", by decide +kernel, .inr (.inr ⟨rfl, rfl⟩)⟩
theorem macOf_q : macOf "q" = some (some ("x" : Str), ("x" : Str)) := by decide +kernel
def spCallAt (K : PySem.W.Frag) : Sp := fun vs H Q _ => ∃ (l bk : Addr) (ps : List Addr) (i : Nat) (a : Addr), vs = [.ref l, .int (i : Int), .ref bk] ∧ BookAt K H bk ∧ H l = some (.lst (ps.map V.ref)) ∧ ps.length ≤ 3000 ∧ ps[i]? = some a ∧
  ((∃ (t : Str) (c : Int), PcD K H a t c ∧ noMac t ∧ Q .non H) ∨
  (∃ (t : Str) (c : Int), PcAt K H a t c [] ∧ pMac t ∧ ∀ p r H', H p = none → H r = none → p ≠ r → Same H H' → H' p = some (.tup [.int 1, .ref r]) → H' r = some (.lst []) → Q (.ref p) H') ∨
  (∃ (c c1 c2 c3 : Int) (a1 a2 a3 : Addr) (t : Str), PcAt K H a "q" c [] ∧ ps[i + 1]? = some a1 ∧ ps[i + 2]? = some a2 ∧ ps[i + 3]? = some a3 ∧ PcD K H a1 "(" c1 ∧ PcD K H a2 t c2 ∧ PcD K H a3 ")" c3 ∧ t ≠ "," ∧ t ≠ "(" ∧ t ≠ ")" ∧
    ∀ p r r1 H', H p = none → H r = none → H r1 = none → p ≠ r → p ≠ r1 → r ≠ r1 → Same H H' → H' p = some (.tup [.int 4, .ref r]) → H' r = some (.lst [.ref r1]) → H' r1 = some (.lst [.ref a2]) → Q (.ref p) H'))
theorem sc_call_at : FnScope ["pieces", "at", "book", "caller", "macro", "closing", "arguments", "due"] ["pieces", "at", "book"] (defScope s_call_at) := ⟨rfl, rfl, rfl, by decide +kernel, rfl, by decide +kernel, by decide +kernel⟩
theorem ok_call_at (T : Top w K mg) : GOk P w K mg base CX0 2 "call_at" ["pieces", "at", "book"] (spCallAt K) := by
  obtain ⟨fd, F⟩ := T.f_call_at
  refine ⟨_, fd, T.g_call_at, F.kp, F.bindsN fun _ _ _ _ _ _ us hl => match us, hl with | [_, _, _], _ => rfl, ok0 F sc_call_at (fun vs H Q E h => ?_) (fun cdv A outer s H vs Q E hr h => ?_)⟩
  · obtain ⟨l, bk, ps, i, a, rfl, _⟩ := h
    rfl
  · obtain ⟨l, bk, ps, i, a, rfl, hb, h1, h2, e0, h⟩ := h
    have m_Book_stood := ok_stood (P := P) (base := base) T
    have g_closing_at := ok_closing_at (P := P) (base := base) T
    have g_parted := ok_parted (P := P) (base := base) T
    refine ⟨_, (pss_cons (ps_set (i := 3) sc_call_at.nd rfl (Or.inl rfl) (pe_ix ix_list (pv 0) (pv 1) (fun _ _ => rfl)))
      (pss_cons (ps_set (i := 4) sc_call_at.nd rfl (Or.inl rfl) (pe_m m_Book_stood hr (by decide) pass0 (pv 2) (pa_cons (pe_fld (pv 3) rfl) pa_nil)))
      (pss_cons (ps_if (PW.pt (pw_or (pt_cmpR op_isN (pv 4) pe_non (nomark _)) (pw_or1 (pt_cmpR op_in_seq (pe_fld (pv 3) rfl) (pe_fld (pv 3) rfl) (by rfl)))))
        (pss_one (ps_ret pe_non))
        pss_nil)
      (pss_cons (ps_if (pt_cmpR op_isN (pe_fld (pv 4) rfl) pe_non (nomark _))
        (pss_one (ps_ret (pe_tup (pa_cons pe_int (pa_cons (pe_lst pa_nil) pa_nil)))))
        pss_nil)
      (pss_cons (ps_if (PW.pt (pw_or (pt_cmpR op_eq (pe_op op_add (pv 1) pe_int) (pe_callB call_len_seq (by rfl) T.b_len PySem.boot_len (pa_cons (pv 0) pa_nil)) (nomark _)) (pw_or1 (pt_cmpR op_ne (pe_fld (pe_ix ix_list (pv 0) (pe_op op_add (pv 1) pe_int) (fun _ _ => rfl)) rfl) pe_str (nomark _)))))
        (pss_one (ps_ret pe_non))
        pss_nil)
      (pss_cons (ps_set (i := 5) sc_call_at.nd rfl (Or.inl rfl) (pe_g g_closing_at hr (by decide) pass0 (pa_cons (pv 0) (pa_cons (pe_op op_add (pv 1) pe_int) pa_nil))))
      (pss_cons (ps_if (pt_cmpR op_isN (pv 5) pe_non (nomark _))
        (pss_one ps_never)
        pss_nil)
      (pss_cons (ps_set (i := 6) sc_call_at.nd rfl (Or.inl rfl) (pe_g g_parted hr (by decide) pass0 (pa_cons (pe_slice sl_list (pv 0) (po_some (pe_op op_add (pv 1) pe_int)) (po_some (pv 5))) pa_nil)))
      (pss_cons (ps_set (i := 7) sc_call_at.nd rfl (Or.inl rfl) (pe_callB call_len_seq (by rfl) T.b_len PySem.boot_len (pa_cons (pe_fld (pv 4) rfl) pa_nil)))
      (pss_cons (ps_if (PW.pt (pw_and (pt_cmpR op_eq (pv 7) pe_int (nomark _)) (pw_and1 pt_never)))
        (pss_one (ps_set (i := 6) sc_call_at.nd rfl (Or.inl rfl) (pe_lst pa_nil)))
        pss_nil)
      (pss_cons (ps_if (pt_cmpR op_ne (pe_callB call_len_seq (by rfl) T.b_len PySem.boot_len (pa_cons (pv 6) pa_nil)) (pv 7) (nomark _))
        (pss_one ps_never)
        pss_nil)
      (pss_one (ps_ret (pe_tup (pa_cons (pe_op op_sub (pe_op op_add (pv 5) pe_int) (pv 1)) (pa_cons (pv 6) pa_nil)))))))))))))))), ?_⟩
    rcases h with ⟨t, c, hp, hn, q⟩ | ⟨t, c, hp, hn, q⟩ | ⟨c, c1, c2, c3, a1, a2, a3, t, hp, e1, e2, e3, hp1, hp2, hp3, n1, n2, n3, q⟩
    · obtain ⟨dx, sa, pa, g, sgs, pg, rw', wv, g1, _⟩ := id hp
      obtain ⟨dxb, kd, m0, m1, m2, m3, hbk, _⟩ := id hb
      refine ⟨_, rfl, _, rfl, l, _, _, _, rfl, rfl, SqL.of h1, atI_nat (j := i) (v := .ref a) (by rw [List.getElem?_map, e0]; rfl), ?_⟩
      refine ⟨_, rfl, bk, dxb, _, rfl, hbk, rfl, _, rfl, a, _, dx, _, _, rfl, g1, T.c_Piece, T.n_Piece_text, pFs_text _ _ _, bk, t, rfl, hb, fun _ => ?_, fun pp bt m z => by rw [macOf_none hn] at z; cases z⟩
      exact ⟨_, rfl, rfl, _, rfl, iteT q⟩
    · have hpd := hp.pd
      obtain ⟨dx, sa, pa, sgs, cs, g1, hsa, hpa, _⟩ := hp.cols
      obtain ⟨dxb, kd, m0, m1, m2, m3, hbk, _⟩ := id hb
      obtain ⟨bt0, em, _⟩ := macOf_p hn
      refine ⟨_, rfl, _, rfl, l, _, _, _, rfl, rfl, SqL.of h1, atI_nat (j := i) (v := .ref a) (by rw [List.getElem?_map, e0]; rfl), ?_⟩
      refine ⟨_, rfl, bk, dxb, _, rfl, hbk, rfl, _, rfl, a, _, dx, _, _, rfl, g1, T.c_Piece, T.n_Piece_text, pFs_text _ _ _, bk, t, rfl, hb, (fun z => by rw [em] at z; cases z), fun pp bt m z hm => ?_⟩
      rw [em] at z
      obtain ⟨rfl, rfl⟩ := Prod.mk.inj (Option.some.inj z)
      obtain ⟨dxm, b, pc, pv, bc, k1, k2, k3, k4⟩ := hm
      have k4' : pv = .non := k4
      subst k4'
      refine ⟨_, rfl, rfl, _, rfl, iteF ?_⟩
      refine ⟨_, rfl, a, _, dx, _, _, rfl, g1, T.c_Piece, T.n_Piece_text, pFs_text _ _ _, _, rfl, a, _, dx, _, _, rfl, g1, T.c_Piece, T.n_Piece_paint, pFs_paint _ _ _, pa, [], rfl, .inr hpa, rfl, rfl, _, rfl, ?_⟩
      refine iteF ?_
      refine ⟨_, rfl, m, _, dxm, _, _, rfl, k1, T.c_Macro, T.n_Macro_params, mFs_params _ _ _, rfl, _, rfl, iteT ?_⟩
      refine ⟨Nat.zero_le _, fun r hr => ⟨(by show 2 ≤ sizeLine; decide), fun p hp0 => ?_⟩⟩
      have hne : p ≠ r := fun z => by
        rw [z, upd_same] at hp0
        cases hp0
      refine q p r _ (by rw [upd_ne hne] at hp0; exact hp0) hr hne ((same_upd hr _).trans (same_upd hp0 _)) upd_same (by rw [upd_ne hne.symm, upd_same])
    · obtain ⟨dx, sa, pa, sgs, cs, g1, hsa, hpa, _⟩ := hp.cols
      obtain ⟨dxb, kd, m0, m1, m2, m3, hbk, _⟩ := id hb
      obtain ⟨dx1, sa1, pa1, gg1, sgs1, pg1, rw1, wv1, g11, _⟩ := id hp1
      have hi3 := (List.getElem?_eq_some_iff.mp e3).1
      refine ⟨_, rfl, _, rfl, l, _, _, _, rfl, rfl, SqL.of h1, atI_nat (j := i) (v := .ref a) (by rw [List.getElem?_map, e0]; rfl), ?_⟩
      refine ⟨_, rfl, bk, dxb, _, rfl, hbk, rfl, _, rfl, a, _, dx, _, _, rfl, g1, T.c_Piece, T.n_Piece_text, pFs_text _ _ _, bk, "q", rfl, hb, (fun z => by rw [macOf_q] at z; cases z), fun pp bt m z hm => ?_⟩
      rw [macOf_q] at z
      obtain ⟨rfl, rfl⟩ := Prod.mk.inj (Option.some.inj z)
      obtain ⟨dxm, b, pc, pv, bc, k1, k2, k3, k4⟩ := hm
      obtain ⟨pr, rfl, k5⟩ := k4
      refine ⟨_, rfl, rfl, _, rfl, iteF ?_⟩
      refine ⟨_, rfl, a, _, dx, _, _, rfl, g1, T.c_Piece, T.n_Piece_text, pFs_text _ _ _, _, rfl, a, _, dx, _, _, rfl, g1, T.c_Piece, T.n_Piece_paint, pFs_paint _ _ _, pa, [], rfl, .inr hpa, rfl, rfl, _, rfl, ?_⟩
      refine iteF ?_
      refine ⟨_, rfl, m, _, dxm, _, _, rfl, k1, T.c_Macro, T.n_Macro_params, mFs_params _ _ _, rfl, _, rfl, iteF ?_⟩
      refine ⟨_, rfl, _, _, rfl, rfl, _, rfl, l, _, rfl, .inl (SqL.of h1), rfl, _, rfl, ?_⟩
      rw [List.length_map, decide_eq_false (show ¬ (V.int ((i : Int) + 1) = V.int ((ps.length : Nat) : Int)) from fun z => by have := V.int.inj z; omega)]
      have hat1 : atI (ps.map V.ref) ((i : Int) + 1) = some (.ref a1) := atI_nat (j := i + 1) (by rw [List.getElem?_map, e1]; rfl)
      refine iteF ⟨_, rfl, _, rfl, _, _, rfl, rfl, l, _, _, _, rfl, rfl, SqL.of h1, hat1, a1, _, dx1, _, _, rfl, g11, T.c_Piece, T.n_Piece_text, pFs_text _ _ _, rfl, _, rfl, ?_⟩
      rw [dS (show (Str.ofString "(") = Str.ofString "(" from rfl)]
      refine iteF ?_
      refine ⟨_, rfl, _, rfl, _, _, rfl, rfl, l, ps, i + 1, a1, a2, a3, t, c1, c2, c3, rfl, h1, h2, e1, e2, e3, hp1, hp2, hp3, n2, n3, ?_⟩
      refine ⟨_, rfl, rfl, _, rfl, iteF ?_⟩
      refine ⟨_, rfl, _, rfl, _, _, rfl, rfl, _, rfl, _, rfl, _, rfl, l, _, rfl, SqL.of h1, fun p0 hp0 => ?_⟩
      have ecut : cutV (ps.map V.ref) (some ((i : Int) + 2)) (some ((i + 1 + 2 : Nat) : Int)) = [.ref a2] := by
        have z1 : HT.sIx (ps.map V.ref).length 0 (some ((i : Int) + 2)) = i + 2 := by
          have z := HT.sIx_nat (ps.map V.ref).length 0 (i + 2)
          rw [List.length_map] at z ⊢
          rw [show ((i : Int) + 2) = ((i + 2 : Nat) : Int) by omega, z]
          omega
        have z2 : HT.sIx (ps.map V.ref).length (ps.map V.ref).length (some ((i + 1 + 2 : Nat) : Int)) = i + 3 := by
          rw [HT.sIx_nat, List.length_map]
          omega
        unfold cutV
        rw [z1, z2, show i + 3 - (i + 2) = 1 by omega]
        have z3 : (ps.map V.ref)[i + 2]? = some (.ref a2) := by rw [List.getElem?_map, e2]; rfl
        obtain ⟨z4, z5⟩ := List.getElem?_eq_some_iff.mp z3
        rw [List.drop_eq_getElem_cons z4, z5]
        rfl
      rw [ecut]
      have s1 := same_upd hp0 (.lst [.ref a2])
      refine ⟨p0, a2, t, c2, rfl, upd_same, Same.pd s1 hp2, n1, n2, n3, fun p r H2 hpn hrn hprn s2 hp2' hr2 => ?_⟩
      have s12 := s1.trans s2
      have km := s12 _ _ k1
      have kpr : SqT K H2 pr [.str "x"] := (Same.fz s12 k5).sq
      refine ⟨_, rfl, m, _, dxm, _, _, rfl, km, T.c_Macro, T.n_Macro_params, mFs_params _ _ _, pr, _, rfl, .inr kpr, ?_⟩
      refine ⟨_, rfl, rfl, _, rfl, iteF ?_⟩
      refine ⟨_, rfl, p, _, rfl, .inl (SqL.of hp2'), _, rfl, rfl, _, rfl, iteF ?_⟩
      refine ⟨_, rfl, _, _, rfl, rfl, _, rfl, _, _, rfl, rfl, _, rfl, (by show 2 ≤ sizeLine; decide), fun p3 hp3 => ?_⟩
      have s3 := same_upd hp3 (.tup [.int (((i + 1 + 2 : Nat) : Int) + 1 - (i : Int)), .ref p])
      have e4 : (((i + 1 + 2 : Nat) : Int) + 1 - (i : Int)) = 4 := by omega
      show Q (V.ref p3) (upd H2 p3 (.tup [.int (((i + 1 + 2 : Nat) : Int) + 1 - (i : Int)), .ref p]))
      rw [e4] at s3 ⊢
      have s13 := s12.trans s3
      have hp2n : H p = none := Dom.same s1 _ hpn
      have hr2n : H r = none := Dom.same s1 _ hrn
      refine q p3 p r _ (Dom.same s12 _ hp3) hp2n hr2n ?_ ?_ hprn s13 upd_same (s3 _ _ hp2') (s3 _ _ hr2)
      · intro z
        rw [z, hp2'] at hp3
        cases hp3
      · intro z
        rw [z, hr2] at hp3
        cases hp3
end
end Bp

/-! text: D18 -/
set_option Elab.async false
set_option linter.all false
set_option maxRecDepth 100000
set_option maxHeartbeats 4000000
/-! a macro's things -/
namespace Bp
open PySem PySem.Spec PyProof.Rows L2
/-- one row of one thing: at p the rows, r the row, t the thing -/
def OneRow (H H' : Hp) (p : Addr) (th : List V) : Prop := ∃ r t : Addr, H p = none ∧ H r = none ∧ H t = none ∧ p ≠ r ∧ p ≠ t ∧ r ≠ t ∧ Same H H' ∧ H' p = some (.lst [.ref r]) ∧ H' r = some (.lst [.ref t]) ∧ H' t = some (.tup th)
section
variable {P : Program} {w : World} {K : PySem.W.Frag} {mg : Str → Option Value} {base : Heap}
def spThingsOf (K : PySem.W.Frag) : Sp := fun vs H Q _ => ∃ (pa b pc : Addr) (xs : List Str) (bt : Str) (c : Int), vs = [.ref pa, .ref b] ∧ SqT K H b [.ref pc] ∧ PcD K H pc bt c ∧ bt ≠ "~" ∧ bt ≠ "$" ∧
  ((xs = [] ∧ SqT K H pa [] ∧ ∀ p H', OneRow H H' p [.str "piece", .ref pc] → Q (.ref p) H') ∨ (xs = [bt] ∧ FzT H pa [.str bt] ∧ ∀ p H', OneRow H H' p [.str "param", .int 0] → Q (.ref p) H'))
theorem sc_things_of : FnScope ["params", "body", "rows", "joins", "sign", "piece", "thing"] ["params", "body"] (defScope s_things_of) := ⟨rfl, rfl, rfl, by decide +kernel, rfl, by decide +kernel, by decide +kernel⟩
theorem ok_things_of (T : Top w K mg) : GOk P w K mg base CX0 1 "things_of" ["params", "body"] (spThingsOf K) := by
  obtain ⟨fd, F⟩ := T.f_things_of
  refine ⟨_, fd, T.g_things_of, F.kp, F.bindsN fun _ _ _ _ _ _ us hl => match us, hl with | [_, _], _ => rfl, ok0 F sc_things_of (fun vs H Q E h => ?_) (fun cdv A outer s H vs Q E hr h => ?_)⟩
  · obtain ⟨pa, b, pc, xs, bt, c, rfl, _⟩ := h
    rfl
  · obtain ⟨pa, b, pc, xs, bt, c, rfl, h2, ⟨dx, sa, pp, g, sgs, pg, rw', wv, g1, _⟩, n1, n2, q⟩ := h
    have h1 : SqT K H pa (xs.map V.str) := by
      rcases q with ⟨rfl, h, _⟩ | ⟨rfl, h, _⟩
      · exact h
      · exact h.sq
    refine ⟨_, (pss_cons (ps_set (i := 2) sc_things_of.nd rfl (Or.inl rfl) (pe_lst pa_nil))
      (pss_cons (ps_set (i := 3) sc_things_of.nd rfl (Or.inl rfl) pe_bl)
      (pss_cons (ps_set (i := 4) sc_things_of.nd rfl (Or.inl rfl) pe_non)
      (pss_cons (ps_for PassesOwn.never rfl (pi_tup (pv 1)) (pg_name (i := 5) sc_things_of.nd rfl (Or.inl rfl))
        (pss_one (ps_if (pt_cmpR op_eq (pe_fld (pv 5) rfl) pe_str (nomark _))
        (pss_one (ps_set (i := 3) sc_things_of.nd rfl (Or.inl rfl) pe_bl))
        (pss_one (ps_if (PW.pt (pw_and (pt_cmpR op_eq (pe_fld (pv 5) rfl) pe_str (nomark _)) (pw_and1 pt_never)))
        (pss_one (ps_set (i := 4) sc_things_of.nd rfl (Or.inl rfl) (pv 5)))
        (pss_cons (ps_set (i := 6) sc_things_of.nd rfl (Or.inl rfl) (pe_tup (pa_cons pe_str (pa_cons (pv 5) pa_nil))))
      (pss_cons (ps_if (pt_cmpR op_in_seq (pe_fld (pv 5) rfl) (pv 0) (by rfl))
        (pss_cons (ps_set (i := 6) sc_things_of.nd rfl (Or.inl rfl) (pe_tup (pa_cons pe_str (pa_cons (pe_tixF (pv 0) (pa_cons (pe_fld (pv 5) rfl) pa_nil)) pa_nil))))
      (pss_one (ps_if (pt_cmpR op_notN (pv 4) pe_non (nomark _))
        (pss_one (ps_set (i := 6) sc_things_of.nd rfl (Or.inl rfl) (pe_tup (pa_cons pe_str (pa_cons (pe_ix ix_list (pv 6) pe_int (fun _ _ => rfl)) (pa_cons (pv 4) pa_nil))))))
        pss_nil)))
        pss_nil)
      (pss_cons (ps_set (i := 4) sc_things_of.nd rfl (Or.inl rfl) pe_non)
      (pss_cons (ps_if (pt_val (pv 3))
        (pss_one ps_never)
        (pss_one (ps_expr (pe_bm PySem.F.plainAttrs_list PySem.F.slot_list_append PySem.F.type_list_append mt_append (pv 2) (pa_cons (pe_lst (pa_cons (pv 6) pa_nil)) pa_nil)))))
      (pss_one (ps_set (i := 3) sc_things_of.nd rfl (Or.inl rfl) pe_bl)))))))))))
      (pss_one (ps_ret (pv 2))))))), ?_⟩
    refine ⟨Nat.zero_le _, fun p hp => ?_⟩
    have s1 := same_upd hp (.lst [])
    have hpp : (upd H p (.lst [])) p = some (.lst []) := upd_same
    generalize upd H p (.lst []) = H1 at s1 hpp ⊢
    have mk : ∀ (Hb : Hp), Same H1 Hb → ∀ (th : List V), 2 ≤ th.length → (∀ p' H', OneRow H H' p' th → Q (.ref p') H') → ∀ t r, Hb t = none → (upd Hb t (.tup th)) r = none → Q (.ref p) (upd (upd (upd Hb t (.tup th)) r (.lst [.ref t])) p (.lst [.ref r])) := by
      intro Hb sb th _ hq t r ht hr
      have hpb := sb _ _ hpp
      have hrt : r ≠ t := fun z => by
        rw [z, upd_same] at hr
        cases hr
      have hr1 : Hb r = none := by
        rw [upd_ne hrt] at hr
        exact hr
      have htp : t ≠ p := (ne_of_none hpb ht).symm
      have hrp : r ≠ p := (ne_of_none hpb hr1).symm
      have s1b := s1.trans sb
      refine hq p _ ⟨r, t, hp, Dom.same s1b _ hr1, Dom.same s1b _ ht, hrp.symm, htp.symm, hrt, fun b o z => ?_, upd_same, by rw [upd_ne hrp, upd_same], by rw [upd_ne htp, upd_ne hrt.symm, upd_same]⟩
      have z1 := s1b _ _ z
      rw [upd_ne (ne_of_none z hp), upd_ne (ne_of_none z1 hr1), upd_ne (ne_of_none z1 ht)]
      exact z1
    have g2 := s1 _ _ g1
    refine ⟨_, rfl, b, rfl, ⟨_, Same.sqt s1 h2⟩, for_tup (xs := [.ref pc]) (fun i σ H' => (i = 0 ∧ H' = H1 ∧ ∃ o o2, σ = [some (.ref pa), some (.ref b), some (.ref p), some (.bl false), some .non, o, o2]) ∨ (i = 1 ∧ SqT K H' b [.ref pc] ∧ ∃ o o2, σ = [some (.ref pa), some (.ref b), some (.ref p), some (.bl false), some .non, o, o2] ∧ Q (.ref p) H')) (.inl ⟨rfl, rfl, _, _, rfl⟩) ?_ ?_ ?_⟩
    · rintro i σ H' hi (⟨rfl, rfl, _⟩ | ⟨rfl, h3, _⟩)
      · exact Same.sqt s1 h2
      · exact h3
    · rintro i y σ H' hy (⟨rfl, rfl, o, o2, rfl⟩ | ⟨rfl, _⟩)
      · have hya : y = .ref pc := by simpa using hy.symm
        subst hya
        refine ⟨_, rfl, pc, _, dx, _, _, rfl, g2, T.c_Piece, T.n_Piece_text, pFs_text _ _ _, rfl, _, rfl, ?_⟩
        rw [dN n1]
        refine iteF ⟨_, rfl, pc, _, dx, _, _, rfl, g2, T.c_Piece, T.n_Piece_text, pFs_text _ _ _, rfl, _, rfl, ?_⟩
        rw [dN n2]
        refine iteF ?_
        refine ⟨_, rfl, (by show 2 ≤ sizeLine; decide), fun t ht => ?_⟩
        have s2 := same_upd ht (.tup [.str "piece", .ref pc])
        refine ⟨_, rfl, pc, _, dx, _, _, rfl, s2 _ _ g2, T.c_Piece, T.n_Piece_text, pFs_text _ _ _, _, rfl, pa, _, rfl, .inr (Same.sqt (s1.trans s2) h1), rfl, all_str _, _, rfl, ?_⟩
        show if inV (V.str bt) (xs.map V.str) = true then _ else _
        rw [inV_str]
        rcases q with ⟨hn, _, q⟩ | ⟨rfl, hfz, q⟩
        · rw [decide_eq_false (by rw [hn]; exact List.not_mem_nil)]
          refine iteF ?_
          refine ⟨_, rfl, _, rfl, iteF ?_⟩
          refine ⟨_, rfl, .inl ⟨rfl, _, SqL.of (s2 _ _ hpp)⟩, _, rfl, (by show 1 ≤ sizeLine; decide), fun r hr2 => ?_⟩
          refine ⟨p, _, _, rfl, rfl, same_upd hr2 _ _ _ (s2 _ _ hpp), (by decide), ?_⟩
          refine .inr ⟨rfl, ?_, _, _, rfl, mk _ (fun _ _ z => z) [.str "piece", .ref pc] (Nat.le_refl 2) q t r ht hr2⟩
          refine sqt_but (but_upd _ _) (same_upd hr2 _ _ _ (s2 _ _ hpp)) (Same.sqt (s1.trans (s2.trans (same_upd hr2 _))) h2)
        · rw [decide_eq_true (List.mem_singleton.mpr rfl)]
          refine iteT ?_
          have hfz2 := Same.fz (s1.trans s2) hfz
          refine ⟨_, rfl, pa, _, rfl, hfz2, _, rfl, pc, _, dx, _, _, rfl, s2 _ _ g2, T.c_Piece, T.n_Piece_text, pFs_text _ _ _, [bt], bt, 0, rfl, hfz2, rfl, (fun m hm => absurd hm (Nat.not_lt_zero m)), (by show 2 ≤ sizeLine; decide), fun t2 ht2 => ?_⟩
          have s3 := same_upd ht2 (.tup [.str "param", .int ((0 : Nat) : Int)])
          have s23 := s2.trans s3
          refine ⟨_, rfl, rfl, _, rfl, iteF ?_⟩
          refine ⟨_, rfl, _, rfl, iteF ?_⟩
          refine ⟨_, rfl, .inl ⟨rfl, _, SqL.of (s23 _ _ hpp)⟩, _, rfl, (by show 1 ≤ sizeLine; decide), fun r hr2 => ?_⟩
          refine ⟨p, _, _, rfl, rfl, same_upd hr2 _ _ _ (s23 _ _ hpp), (by decide), ?_⟩
          refine .inr ⟨rfl, ?_, _, _, rfl, mk _ s2 [.str "param", .int ((0 : Nat) : Int)] (Nat.le_refl 2) q t2 r ht2 hr2⟩
          refine sqt_but (but_upd _ _) (same_upd hr2 _ _ _ (s23 _ _ hpp)) (Same.sqt (s1.trans (s23.trans (same_upd hr2 _))) h2)
      · have z1 := (List.getElem?_eq_some_iff.mp hy).1
        have z : ([.ref pc] : List V).length = 1 := rfl
        omega
    · rintro σ H' (⟨z, _⟩ | ⟨_, _, o, o2, rfl, q⟩)
      · cases z
      · exact ⟨_, rfl, q⟩
end
end Bp

/-! text: D19 -/
set_option Elab.async false
set_option linter.all false
set_option maxRecDepth 100000
set_option maxHeartbeats 4000000
/-! things(), wanted() -/
namespace Bp
open PySem PySem.Spec PyProof.Rows L2
section
variable {P : Program} {w : World} {K : PySem.W.Frag} {mg : Str → Option Value} {base : Heap}
def spThings (K : PySem.W.Frag) : Sp := fun vs H Q _ => ∃ (m : Addr) (nm bt : Str) (pp : Option Str), vs = [.ref m] ∧ MacAt K H m nm pp bt ∧ bt ≠ "~" ∧ bt ≠ "$" ∧
  ((pp = none ∧ ∀ p H' pc c, PcAt K H pc bt c [] → OneRow H H' p [.str "piece", .ref pc] → Q (.ref p) H') ∨ (pp = some bt ∧ ∀ p H', OneRow H H' p [.str "param", .int 0] → Q (.ref p) H'))
theorem sc_Macro_things : FnScope ["self"] ["self"] (defScope s_Macro_things) := ⟨rfl, rfl, rfl, by decide +kernel, rfl, by decide +kernel, by decide +kernel⟩
theorem OneRow.after {H0 H H' : Hp} {p : Addr} {th : List V} (e : Same H0 H) (h : OneRow H H' p th) : OneRow H0 H' p th := by
  obtain ⟨r, t, h1, h2, h3, h4, h5, h6, h7, h8, h9, h10⟩ := h
  exact ⟨r, t, Dom.same e _ h1, Dom.same e _ h2, Dom.same e _ h3, h4, h5, h6, e.trans h7, h8, h9, h10⟩
theorem ok_things (T : Top w K mg) : MOk P w K mg base CX0 2 "Macro" "things" ["self"] (spThings K) := by
  obtain ⟨fd, F⟩ := T.f_Macro_things
  refine ⟨_, fd, T.c_Macro, T.m_Macro_things, F.bindsN fun _ _ _ _ _ _ us hl => match us, hl with | [_], _ => rfl, ok0 F sc_Macro_things (fun vs H Q E h => ?_) (fun cdv A outer s H vs Q E hr h => ?_)⟩
  · obtain ⟨m, nm, bt, pp, rfl, _⟩ := h
    rfl
  · obtain ⟨m, nm, bt, pp, rfl, ⟨dx, b, pc, prv, bc, k1, k2, k3, k4⟩, n1, n2, q⟩ := h
    have g_things_of := ok_things_of (P := P) (base := base) T
    refine ⟨_, (pss_one (ps_ret (pe_g g_things_of hr (by decide) pass0 (pa_cons (pe_orT (pe_fld (pv 0) rfl) (pe_one (pe_tup pa_nil))) (pa_cons (pe_fld (pv 0) rfl) pa_nil))))), ?_⟩
    refine ⟨_, rfl, m, _, dx, _, _, rfl, k1, T.c_Macro, T.n_Macro_params, mFs_params _ _ _, ?_⟩
    rcases q with ⟨rfl, q⟩ | ⟨rfl, q⟩
    · have k4' : prv = .non := k4
      subst k4'
      refine ⟨false, rfl, iteF ⟨Nat.zero_le _, fun p hp => ?_⟩⟩
      have s1 := same_upd hp (.tup [])
      refine ⟨_, rfl, m, _, dx, _, _, rfl, s1 _ _ k1, T.c_Macro, T.n_Macro_body, mFs_body _ _ _, p, b, pc, [], bt, bc, rfl, Same.sqt s1 k2, Same.pd s1 k3.pd, n1, n2, .inl ⟨rfl, SqT.of upd_same, fun p' H' h => q p' H' pc bc k3 (h.after s1)⟩⟩
    · obtain ⟨pr, rfl, k5⟩ := k4
      refine ⟨true, .inr (.inl ⟨_, k5.sq, rfl⟩), iteT ?_⟩
      exact ⟨_, rfl, m, _, dx, _, _, rfl, k1, T.c_Macro, T.n_Macro_body, mFs_body _ _ _, pr, b, pc, [bt], bt, bc, rfl, k2, k3.pd, n1, n2, .inr ⟨rfl, k5, q⟩⟩
def spWanted (K : PySem.W.Frag) : Sp := fun vs H Q _ => ∃ (m : Addr) (nm bt : Str) (pp : Option Str), vs = [.ref m] ∧ MacAt K H m nm pp bt ∧ bt ≠ "~" ∧ bt ≠ "$" ∧
  ((pp = none ∧ ∀ p H', H p = none → Same H H' → H' p = some (.tup []) → Q (.ref p) H') ∨ (pp = some bt ∧ ∀ p H', H p = none → Same H H' → H' p = some (.tup [.bl true]) → Q (.ref p) H'))
theorem sc_Macro_wanted : FnScope ["self", "alone", "row", "k"] ["self"] (defScope s_Macro_wanted) := ⟨rfl, rfl, rfl, by decide +kernel, rfl, by decide +kernel, by decide +kernel⟩
theorem ok_wanted (T : Top w K mg) : MOk P w K mg base CX0 3 "Macro" "wanted" ["self"] (spWanted K) := by
  obtain ⟨fd, F⟩ := T.f_Macro_wanted
  refine ⟨_, fd, T.c_Macro, T.m_Macro_wanted, F.bindsN fun _ _ _ _ _ _ us hl => match us, hl with | [_], _ => rfl, ok0 F sc_Macro_wanted (fun vs H Q E h => ?_) (fun cdv A outer s H vs Q E hr h => ?_)⟩
  · obtain ⟨m, nm, bt, pp, rfl, _⟩ := h
    rfl
  · obtain ⟨m, nm, bt, pp, rfl, hm, n1, n2, q⟩ := h
    have m_Macro_things := ok_things (P := P) (base := base) T
    obtain ⟨dx, b, pc, prv, bc, k1, k2, k3, k4⟩ := id hm
    refine ⟨_, (pss_cons (ps_set (i := 1) sc_Macro_wanted.nd rfl (Or.inr rfl) (pe_dc (own := [("row", 2)]) (by rfl) sc_Macro_wanted.nd (pi_list (pe_m0 m_Macro_things hr (by decide) pass0 (pv 0))) (blkOk_by (own := [("row", 2)]) (N := ["self", "alone", "row", "k"]) (sc := defScope s_Macro_wanted) (by decide +kernel)) (fun _ _ _ _ _ => (pg_name (i := 2) sc_Macro_wanted.nd rfl (Or.inl rfl))) (fun _ _ _ _ _ => (pts_one (PW.pt (pw_and (pt_cmpR op_eq (pe_callB (call_len_seqK (K := K) rfl) (by rfl) T.b_len PySem.boot_len (pa_cons (pv 2) pa_nil)) pe_int (nomark _)) (pw_and1 (pt_cmpR op_eq (pe_ix (ix_tupK (K := K) rfl) (pe_ix (ix_listK (K := K) rfl) (pv 2) pe_int (fun _ _ => rfl)) pe_int (fun _ _ => rfl)) pe_str (nomark _))))))) (fun _ _ _ _ _ => (pe_ix (ix_tupK (K := K) rfl) (pe_ix (ix_listK (K := K) rfl) (pv 2) pe_int (fun _ _ => rfl)) pe_int (fun _ _ => rfl))) (fun _ _ _ _ _ => pe_bl)))
      (pss_one (ps_ret (pe_callTy call_tuple_of (by rfl) T.b_tuple (by decide +kernel) (pa_cons (pe_lc (own := [("k", 3)]) (tt := tYes) (by rfl) sc_Macro_wanted.nd (pi_range1 rfl T.b_range (pa_cons (pe_callB call_len_seq (by rfl) T.b_len PySem.boot_len (pa_cons (pe_orT (pe_fld (pv 0) rfl) (pe_one (pe_tup pa_nil))) pa_nil)) pa_nil)) (blkOk_by (own := [("k", 3)]) (N := ["self", "alone", "row", "k"]) (sc := defScope s_Macro_wanted) (by decide +kernel)) (fun _ _ _ _ _ => (pg_name (i := 3) sc_Macro_wanted.nd rfl (Or.inl rfl))) (fun _ _ _ _ _ => pts_nil) (fun _ _ _ _ _ => (pe_cmp (pc_din (hu_of hr) (pv 3) (pv 1))))) pa_nil))))), ?_⟩
    rcases q with ⟨rfl, q⟩ | ⟨rfl, q⟩
    · have k4' : prv = .non := k4
      subst k4'
      refine ⟨_, rfl, m, dx, _, rfl, k1, mFs_no _ _ _ (by decide +kernel) (by decide +kernel) (by decide +kernel), m, nm, bt, none, rfl, hm, n1, n2, .inl ⟨rfl, fun p H1 pc2 c2 hpc hone => ?_⟩⟩
      obtain ⟨r, t, e1, e2, e3, e4, e5, e6, s1, hp1, hr1, ht1⟩ := hone
      refine ⟨p, rfl, ⟨_, SqL.of hp1⟩, fun D hD => dc_list (xs := [.ref r]) (fun i H2 => H2 = upd H1 D (.dK [])) rfl ?_ ?_ ?_⟩
      · rintro i H2 hi rfl
        exact SqL.of (same_upd hD _ _ _ hp1)
      · rintro i x H2 hx rfl
        have hi : i = 0 := by
          have := (List.getElem?_eq_some_iff.mp hx).1
          have z : ([.ref r] : List V).length = 1 := rfl
          omega
        subst hi
        have hxr : x = .ref r := by simpa using hx.symm
        subst hxr
        have hr2 := same_upd hD (.dK []) _ _ hr1
        have ht2 := same_upd hD (.dK []) _ _ ht1
        refine ⟨rfl, _, rfl, r, _, rfl, .inl (SqL.of hr2), rfl, _, rfl, ?_⟩
        refine iteT ⟨_, rfl, r, _, 0, _, rfl, rfl, SqL.of hr2, atI_nat (j := 0) rfl, t, _, 0, _, rfl, rfl, SqT.of ht2, atI_nat (j := 0) rfl, rfl, _, rfl, ?_⟩
        rw [dN (show ¬ (Str.ofString "piece") = Str.ofString "param" by decide +kernel)]
        exact iteF rfl
      · rintro H2 rfl
        have s2 := s1.trans (same_upd hD (.dK []))
        refine ⟨_, rfl, m, _, dx, _, _, rfl, s2 _ _ k1, T.c_Macro, T.n_Macro_params, mFs_params _ _ _, ?_⟩
        refine ⟨false, rfl, iteF ⟨Nat.zero_le _, fun p2 hp2 => ?_⟩⟩
        have s3 := s2.trans (same_upd hp2 (.tup []))
        refine ⟨p2, _, rfl, .inr (SqT.of upd_same), _, rfl, by decide, by decide, fun D2 hD2 => lc_range (lo := 0) (n := 0) (fun i H3 => H3 = upd (upd (upd H1 D (.dK [])) p2 (.tup [])) D2 (.lst [])) rfl (fun i _ hi => absurd hi (Nat.not_lt_zero i)) ?_⟩
        rintro H3 rfl
        refine ⟨D2, [], rfl, .inl ⟨SqL.of upd_same, fun l hl => ?_⟩⟩
        have s4 := s3.trans (same_upd hD2 (.lst []))
        exact q l _ (Dom.same s4 _ hl) (s4.trans (same_upd hl _)) upd_same
    · obtain ⟨pr, rfl, k5⟩ := k4
      refine ⟨_, rfl, m, dx, _, rfl, k1, mFs_no _ _ _ (by decide +kernel) (by decide +kernel) (by decide +kernel), m, nm, bt, some bt, rfl, hm, n1, n2, .inr ⟨rfl, fun p H1 hone => ?_⟩⟩
      obtain ⟨r, t, e1, e2, e3, e4, e5, e6, s1, hp1, hr1, ht1⟩ := hone
      refine ⟨p, rfl, ⟨_, SqL.of hp1⟩, fun D hD => dc_list (xs := [.ref r]) (fun i H2 => H2 = upd H1 D (.dK (if i = 0 then [] else [(Sum.inl 0, .bl true)]))) rfl ?_ ?_ ?_⟩
      · rintro i H2 hi rfl
        exact SqL.of (same_upd hD _ _ _ hp1)
      · rintro i x H2 hx rfl
        have hi : i = 0 := by
          have := (List.getElem?_eq_some_iff.mp hx).1
          have z : ([.ref r] : List V).length = 1 := rfl
          omega
        subst hi
        have hxr : x = .ref r := by simpa using hx.symm
        subst hxr
        have hr2 := same_upd hD (.dK []) _ _ hr1
        have ht2 := same_upd hD (.dK []) _ _ ht1
        refine ⟨rfl, _, rfl, r, _, rfl, .inl (SqL.of hr2), rfl, _, rfl, ?_⟩
        refine iteT ⟨_, rfl, r, _, 0, _, rfl, rfl, SqL.of hr2, atI_nat (j := 0) rfl, t, _, 0, _, rfl, rfl, SqT.of ht2, atI_nat (j := 0) rfl, rfl, _, rfl, ?_⟩
        rw [dS (show (Str.ofString "param") = Str.ofString "param" from rfl)]
        refine iteT ?_
        refine ⟨_, rfl, r, _, 0, _, rfl, rfl, SqL.of hr2, atI_nat (j := 0) rfl, t, _, 1, _, rfl, rfl, SqT.of ht2, atI_nat (j := 1) rfl, [], Sum.inl 0, rfl, upd_same, by decide, ?_⟩
        rw [upd_upd]
        rfl
      · rintro H2 rfl
        have s2 := s1.trans (same_upd hD (.dK [(Sum.inl 0, .bl true)]))
        refine ⟨_, rfl, m, _, dx, _, _, rfl, s2 _ _ k1, T.c_Macro, T.n_Macro_params, mFs_params _ _ _, ?_⟩
        refine ⟨true, .inr (.inl ⟨_, (Same.fz s2 k5).sq, rfl⟩), iteT ?_⟩
        refine ⟨pr, _, rfl, .inr (Same.fz s2 k5).sq, _, rfl, (by show _ ≤ (1 : Int); decide), (by show (1 : Int) < _; decide), fun D2 hD2 => lc_range (lo := 0) (n := 1) (fun i H3 => H3 = upd (upd H1 D (.dK [(Sum.inl 0, .bl true)])) D2 (.lst (if i = 0 then [] else [.bl true]))) rfl ?_ ?_⟩
        · rintro i H3 hi rfl
          have hi0 : i = 0 := by omega
          subst hi0
          refine ⟨rfl, _, rfl, _, rfl, D, _, rfl, DGet.k (k := Sum.inl 0) (same_upd hD2 (.lst []) _ _ upd_same), [], upd_same, by decide, ?_⟩
          rw [upd_upd]
          rfl
        · rintro H3 rfl
          refine ⟨D2, [.bl true], rfl, .inl ⟨SqL.of upd_same, fun l hl => ?_⟩⟩
          have s4 := s2.trans (same_upd hD2 (.lst [.bl true]))
          exact q l _ (Dom.same s4 _ hl) (s4.trans (same_upd hl _)) upd_same
end
end Bp

/-! text: D20 -/
set_option Elab.async false
set_option linter.all false
set_option maxRecDepth 100000
set_option maxHeartbeats 4000000
/-! becomes: the def within -/
namespace Bp
open PySem PySem.Spec PyProof.Rows L2 NdefX LamX
abbrev s_moved : Stmt := (defBody s_becomes).getD 3 (.Pass ⟨0, 0, 0, 0⟩)
abbrev frM : List Str := ["name", "paint", "raw", "way"]
theorem nsc_moved : NScope ["thing", "rows", "name", "paint", "raw", "way", "kind", "what", "more", "sign", "one"] ["thing", "rows"] frM (C8.fnScope s_moved) := nscope_by (by decide +kernel)
abbrev nfM (q : Str) (cl : List (Str × Addr)) (c : Addr) : NF := NF.of s_moved "moved" q cl c
section
variable {P : Program} {w : World} {K : PySem.W.Frag} {mg : Str → Option Value} {base : Heap}
/-- a new list of one piece at p -/
def OnePc (K : PySem.W.Frag) (H H' : Hp) (p : Addr) (t : Str) : Prop := ∃ (x : Addr) (c : Int), H p = none ∧ H x = none ∧ p ≠ x ∧ Same H H' ∧ H' p = some (.lst [.ref x]) ∧ PcD K H' x t c
theorem pd_but {K : PySem.W.Frag} {H H' : Hp} {a p : Addr} {ys : List V} {t : Str} {c : Int} (e : SameBut p H H') (hp : H p = some (.lst ys)) (h : PcD K H a t c) : PcD K H' a t c := by
  obtain ⟨dx, sa, pa, g, sgs, pg, rw, w, h1, h2, h3, h4⟩ := h
  exact ⟨dx, sa, pa, g, sgs, pg, rw, w, e _ _ (ne_of h1 hp fun z => nomatch z) h1, sqt_but e hp h2, h3, sqt_but e hp h4⟩
def spMoved (K : PySem.W.Frag) (ws : List (Option V)) : Sp := fun vs H Q _ => ∃ (th pa wa : Addr) (nm : Str) (rv rows : V), vs = [.ref th, rows] ∧ ws = [some (.str nm), some (.ref pa), some rv, some (.ref wa)] ∧ SqT K H pa [.str nm] ∧
  ((∃ (pc : Addr) (bt : Str) (c : Int), H th = some (.tup [.str "piece", .ref pc]) ∧ PcAt K H pc bt c [] ∧ ∀ p H', OnePc K H H' p bt → Q (.ref p) H') ∨
   (∃ (rl al a : Addr) (t : Str) (c : Int), H th = some (.tup [.str "param", .int 0]) ∧ rows = .ref rl ∧ H rl = some (.lst [.ref al]) ∧ H al = some (.lst [.ref a]) ∧ PcAt K H a t c [] ∧ ∀ p H', OnePc K H H' p t → Q (.ref p) H'))
theorem nok_moved (T : Top w K mg) (qn : Str) (cl : List (Str × Addr)) (f c' : Addr) : NOk P w K mg base CX0 3 f (nfM qn cl c') ["thing", "rows"] frM (spMoved K) := by
  have c_Piece := ok_Piece3 (P := P) (base := base) T
  have g_led := ok_led (P := P) (base := base) T
  have g_passed := ok_passed (P := P) (base := base) T
  have g_painted := ok_painted (P := P) (base := base) T
  refine nok_of (k := 2) nsc_moved (fun doc pm ctv us hl => match us, hl with | [_, _], _ => rfl) (fun ws vs H Q E h => ?_) (fun A outer s H vs ws Q E hr hf hc hws h => ?_)
  · obtain ⟨th, pa, wa, nm, rv, rows, rfl, _⟩ := h
    rfl
  · obtain ⟨th, pa, wa, nm, rv, rows, rfl, rfl, h1, h⟩ := h
    refine ⟨_, (pss_cons (ps_asg (pv 0) (pg_star (k := 2) rfl (pgs_cons (pg_name (i := 6) nsc_moved.nd rfl (Or.inl rfl)) (pgs_cons (pg_name (i := 7) nsc_moved.nd rfl (Or.inl rfl)) (pgs_star (pg_name (i := 8) nsc_moved.nd rfl (Or.inl rfl)) pgs_nil)))))
      (pss_cons (ps_if (pt_cmpR op_eq (pv 6) pe_str (nomark _))
        (pss_one (ps_ret (pe_lst (pa_cons (pe_c c_Piece hr (by decide) pass0 (pa_cons (pe_fld (pv 7) rfl) (pa_cons (pe_g g_led hr (by decide) pass0 (pa_cons (pe_fld (pv 7) rfl) (pa_cons (pv 5) pa_nil))) (pa_cons (pe_g g_painted hr (by decide) pass0 (pa_cons (pe_fld (pv 7) rfl) (pa_cons (pv 3) pa_nil))) pa_nil)))) pa_nil))))
        pss_nil)
      (pss_cons (ps_if (pt_cmpR op_eq (pv 6) pe_str (nomark _))
        (pss_cons ps_never
      (pss_one ps_never))
        pss_nil)
      (pss_one (ps_ret (pe_lc (own := [("one", 10)]) (tt := tYes) (by rfl) nsc_moved.nd (pi_list (pe_ix ix_list (pv 1) (pv 7) (fun _ _ => rfl))) (blkOk_by (own := [("one", 10)]) (N := ["thing", "rows", "name", "paint", "raw", "way", "kind", "what", "more", "sign", "one"]) (sc := defScope s_moved) (by decide +kernel)) (fun _ _ _ _ _ => (pg_name (i := 10) nsc_moved.nd rfl (Or.inl rfl))) (fun _ _ _ _ _ => pts_nil) (fun _ _ _ _ _ => (pe_cK (K := K) rfl c_Piece hr (by decide) pass0 (pa_cons (pe_fldK (K := K) rfl (pv 10) rfl) (pa_cons (pe_g g_passed hr (by decide) pass0 (pa_cons (pe_fldK (K := K) rfl (pv 10) rfl) (pa_cons (pv 2) pa_nil))) (pa_cons (pe_g g_painted hr (by decide) pass0 (pa_cons (pe_fldK (K := K) rfl (pv 10) rfl) (pa_cons (pv 3) pa_nil))) pa_nil))))))))))), ?_⟩
    rcases h with ⟨pc, bt, c, h2, h3, q⟩ | ⟨rl, al, a, t, c, h2, rfl, h4, h5, h6, q⟩
    · refine ⟨_, rfl, th, _, rfl, .inr (SqT.of h2), (by show 2 ≤ 2; decide), (by show 2 ≤ 16384; decide), fun D hD => ⟨_, _, rfl, _, _, rfl, _, _, rfl, rfl, ?_⟩⟩
      have s1 : Same H (upd H D (.lst (List.drop 2 [.str "piece", .ref pc]))) := same_upd hD _
      generalize upd H D (.lst (List.drop 2 [.str "piece", .ref pc])) = H1 at s1 ⊢
      refine ⟨_, rfl, rfl, _, rfl, ?_⟩
      rw [dS (show (Str.ofString "piece") = Str.ofString "piece" from rfl)]
      refine iteT ?_
      obtain ⟨dx, sa, pp, sgs, cs, g1, hsa, hpa, hl, hcs⟩ := h3.cols
      have g11 := s1 _ _ g1
      refine ⟨_, rfl, pc, _, dx, _, _, rfl, g11, T.c_Piece, T.n_Piece_text, pFs_text _ _ _, ?_⟩
      refine ⟨_, rfl, pc, _, dx, _, _, rfl, g11, T.c_Piece, T.n_Piece_signs, pFs_signs _ _ _, _, rfl, sa, wa, sgs, c :: cs, rfl, Same.sqt s1 hsa, hl, Paired.mapP hcs fun _ _ z => Same.sd s1 z.d, fun p1 H2 sgs' hp1 s2 hp1' hsg => ?_⟩
      have s12 := s1.trans s2
      refine ⟨_, rfl, pc, _, dx, _, _, rfl, s12 _ _ g1, T.c_Piece, T.n_Piece_paint, pFs_paint _ _ _, _, rfl, pp, pa, nm, rfl, Same.sqt s12 hpa, Same.sqt s12 h1, fun p2 H3 hp2 s3 hp2' => ?_⟩
      have s13 := s12.trans s3
      intro x dx2 hx hdx hne
      refine ⟨x, dx2, p1, p2, bt, rfl, upd_same, rfl, ?_⟩
      rw [upd_upd]
      have s4 : Same H3 (upd (upd H3 dx2 (.own x)) x (.ins (He.ga K "Piece") dx2 (pFs bt p1 p2))) := same_made hx hdx
      have s14 := s13.trans s4
      refine ⟨(by show 1 ≤ sizeLine; decide), fun p hp => ?_⟩
      have s5 := same_upd hp (.lst [.ref x])
      have hxp : p ≠ x := fun z => by
        rw [z, upd_same] at hp
        cases hp
      refine q p _ ⟨x, c, Dom.same s14 _ hp, Dom.same s13 _ hx, hxp, s14.trans s5, upd_same, ?_⟩
      refine Same.pd s5 (pd_of upd_same (Same.sqt (s3.trans s4) (SqT.of hp1')) (Paired.mapP hsg fun _ _ z => Same.sd (s3.trans s4) z))
    · refine ⟨_, rfl, th, _, rfl, .inr (SqT.of h2), (by show 2 ≤ 2; decide), (by show 2 ≤ 16384; decide), fun D hD => ⟨_, _, rfl, _, _, rfl, _, _, rfl, rfl, ?_⟩⟩
      have s1 : Same H (upd H D (.lst (List.drop 2 [.str "param", .int 0]))) := same_upd hD _
      generalize upd H D (.lst (List.drop 2 [.str "param", .int 0])) = H1 at s1 ⊢
      refine ⟨_, rfl, rfl, _, rfl, ?_⟩
      rw [dN (show ¬ (Str.ofString "param") = Str.ofString "piece" by decide +kernel)]
      refine iteF ⟨_, rfl, rfl, _, rfl, ?_⟩
      rw [dN (show ¬ (Str.ofString "param") = Str.ofString "made" by decide +kernel)]
      refine iteF ?_
      obtain ⟨dx, sa, pp, sgs, cs, g1, hsa, hpa, hl, hcs⟩ := h6.cols
      refine ⟨_, rfl, _, rfl, rl, _, 0, _, rfl, rfl, SqL.of (s1 _ _ h4), atI_nat (j := 0) rfl, al, rfl, ⟨_, SqL.of (s1 _ _ h5)⟩, fun D2 hD2 => lc_list (xs := [.ref a]) (fun i H' => (i = 0 ∧ H' = upd H1 D2 (.lst [])) ∨ (i = 1 ∧ OnePc K H H' D2 t)) (.inl ⟨rfl, rfl⟩) ?_ ?_ ?_⟩
      · rintro i H' hi (⟨rfl, rfl⟩ | ⟨rfl, x, c2, k1, k2, k3, k4, k5⟩)
        · exact SqL.of (same_upd hD2 _ _ _ (s1 _ _ h5))
        · exact SqL.of (k4 _ _ h5)
      · rintro i y H' hy h7
        have hi : i = 0 := by
          have := (List.getElem?_eq_some_iff.mp hy).1
          have z : ([.ref a] : List V).length = 1 := rfl
          omega
        subst hi
        have hya : y = .ref a := by simpa using hy.symm
        subst hya
        rcases h7 with ⟨_, rfl⟩ | ⟨z, _⟩
        · have sD : Same H (upd H1 D2 (.lst [])) := s1.trans (same_upd hD2 _)
          have hDD : (upd H1 D2 (.lst [])) D2 = some (.lst []) := upd_same
          have hDn : H D2 = none := Dom.same s1 _ hD2
          generalize upd H1 D2 (.lst []) = H2 at sD hDD ⊢
          have g11 := sD _ _ g1
          refine ⟨rfl, _, rfl, a, _, dx, _, _, rfl, g11, T.c_Piece, T.n_Piece_text, pFs_text _ _ _, ?_⟩
          refine ⟨_, rfl, a, _, dx, _, _, rfl, g11, T.c_Piece, T.n_Piece_signs, pFs_signs _ _ _, _, rfl, sa, nm, sgs, c :: cs, rfl, Same.sqt sD hsa, hl, Paired.mapP hcs fun _ _ z => Same.sg sD z, fun p1 H3 sgs' hp1 s2 hp1' hsg => ?_⟩
          have s12 := sD.trans s2
          refine ⟨_, rfl, a, _, dx, _, _, rfl, s12 _ _ g1, T.c_Piece, T.n_Piece_paint, pFs_paint _ _ _, _, rfl, pp, pa, nm, rfl, Same.sqt s12 hpa, Same.sqt s12 h1, fun p2 H4 hp2 s3 hp2' => ?_⟩
          have s13 := s12.trans s3
          intro x dx2 hx hdx hne
          refine ⟨x, dx2, p1, p2, t, rfl, upd_same, rfl, ?_⟩
          rw [upd_upd]
          have s4 : Same H4 (upd (upd H4 dx2 (.own x)) x (.ins (He.ga K "Piece") dx2 (pFs t p1 p2))) := same_made hx hdx
          have s24 := s2.trans (s3.trans s4)
          have hD5 := s24 _ _ hDD
          refine ⟨[], hD5, by decide, .inr ⟨rfl, x, c, hDn, Dom.same s13 _ hx, ?_, ?_, upd_same, ?_⟩⟩
          · exact (ne_of_none (s3 _ _ (s2 _ _ hDD)) hx)
          · intro b o z
            rw [upd_ne (ne_of_none z hDn)]
            exact s4 _ _ (s13 _ _ z)
          · have hpd : PcD K (upd (upd H4 dx2 (.own x)) x (.ins (He.ga K "Piece") dx2 (pFs t p1 p2))) x t c := pd_of upd_same (Same.sqt (s3.trans s4) (SqT.of hp1')) (Paired.mapP hsg fun _ _ z => Same.sd (s3.trans s4) z)
            exact pd_but (but_upd _ _) hD5 hpd
        · cases z
      · rintro H' (⟨z, _⟩ | ⟨_, k⟩)
        · cases z
        · exact q D2 H' k
end
end Bp

/-! text: D21 -/
set_option Elab.async false
set_option linter.all false
set_option maxRecDepth 100000
set_option maxHeartbeats 4000000
/-! becomes -/
namespace Bp
open PySem PySem.Spec PyProof.Rows L2 NdefX LamX
/-! ### all but tables stays -/
theorem ExtN.of_same {H H' : Hp} (e : Same H H') : ExtN H H' := fun b o q _ => e b o q
theorem exn_sqt {K : PySem.W.Frag} {H H' : Hp} {a : Addr} {xs : List V} (e : ExtN H H') (h : SqT K H a xs) : SqT K H' a xs := by
  rcases h with (h | ⟨o, h⟩) | h
  · exact .inl (.inl (e _ _ h (fun ps z => nomatch z)))
  · exact .inl (.inr ⟨o, e _ _ h (fun ps z => nomatch z)⟩)
  · exact .inr h
theorem exn_sg {K : PySem.W.Frag} {H H' : Hp} {v : V} {c : Int} (e : ExtN H H') (h : SgAt K H v c) : SgAt K H' v c := by
  obtain ⟨a, w, pg, rw, ws, h1, h2, h3, h4⟩ := h
  exact ⟨a, w, pg, rw, ws, h1, exn_sqt e h2, exn_sqt e h3, h4⟩
theorem exn_pc {K : PySem.W.Frag} {H H' : Hp} {a : Addr} {t : Str} {c : Int} {pn : List Str} (e : ExtN H H') (h : PcAt K H a t c pn) : PcAt K H' a t c pn := by
  obtain ⟨dx, sa, pa, sgs, h1, h2, h3, h4, h5, h6, h7⟩ := h
  exact ⟨dx, sa, pa, sgs, e _ _ h1 (fun ps z => nomatch z), exn_sqt e h2, h3, h4, fun v hv => let ⟨c, z⟩ := h5 v hv; ⟨c, exn_sg e z⟩, fun v hv => exn_sg e (h6 v hv), exn_sqt e h7⟩
theorem exn_pd {K : PySem.W.Frag} {H H' : Hp} {a : Addr} {t : Str} {c : Int} (e : ExtN H H') (h : PcD K H a t c) : PcD K H' a t c := by
  obtain ⟨dx, sa, pa, g, sgs, pg, rw, w, h1, h2, h3, h4⟩ := h
  exact ⟨dx, sa, pa, g, sgs, pg, rw, w, e _ _ h1 (fun ps z => nomatch z), exn_sqt e h2, h3, exn_sqt e h4⟩
theorem exn_mac {K : PySem.W.Frag} {H H' : Hp} {m : Addr} {nm bt : Str} {pp : Option Str} (e : ExtN H H') (h : MacAt K H m nm pp bt) : MacAt K H' m nm pp bt := by
  obtain ⟨dx, b, pc, pv, bc, h1, h2, h3, h4⟩ := h
  refine ⟨dx, b, pc, pv, bc, e _ _ h1 (fun ps z => nomatch z), exn_sqt e h2, exn_pc e h3, ?_⟩
  cases pp with
  | none => exact h4
  | some x =>
    obtain ⟨pr, k1, ob, k2, k3⟩ := h4
    exact ⟨pr, k1, ob, e _ _ k2 (fun ps z => nomatch z), k3⟩
theorem exn_book {K : PySem.W.Frag} {H H' : Hp} {bk : Addr} (e : ExtN H H') (h : BookAt K H bk) : BookAt K H' bk := by
  obtain ⟨dx, kd, m0, m1, m2, m3, h1, h2, h3, h4, h5, h6⟩ := h
  exact ⟨dx, kd, m0, m1, m2, m3, e _ _ h1 (fun ps z => nomatch z), e _ _ h2 (fun ps z => nomatch z), exn_mac e h3, exn_mac e h4, exn_mac e h5, exn_mac e h6⟩
/-- t + u, the heap kept -/
theorem op_catS {X : Cx} : OpR X (binaryOp .Add) (fun x y H Q => ∃ a b xs ys, x = .ref a ∧ y = .ref b ∧ SqT X.K H a xs ∧ SqT X.K H b ys ∧ xs.length + ys.length ≤ sizeLine ∧ ∀ p H', Same H H' → Q (.ref p) H') := by
  intro pins s σ H x y v u Q I rx ry h
  obtain ⟨a, b, xs, ys, e1, e2, h1, h2, h3, q⟩ := h
  exact op_catA pins s σ H x y v u Q I rx ry ⟨a, b, xs, ys, e1, e2, h1, h2, h3, fun _ => q b H (fun _ _ z => z), fun _ _ => q a H (fun _ _ z => z), fun _ _ p hp => q p _ (same_upd hp _)⟩
theorem ndM : ndefB (defScope s_becomes) (C8.fnScope s_moved) frM = true := by decide +kernel
/-! ### the table of becomes -/
abbrev tabC (K : PySem.W.Frag) : Addr := (He.cT K ("becomes", none)).1
abbrev tabP (K : PySem.W.Frag) : Addr := (He.cT K ("becomes", none)).2
def tabT (K : PySem.W.Frag) (q : Str) : List NTab := [(tabP K, fun _ _ => q)]
abbrev qnM : Str := ("becomes" : Str) ++ ".<locals>." ++ "moved"
section
variable {P : Program} {w : World} {K : PySem.W.Frag} {mg : Str → Option Value} {base : Heap}
theorem cd_becomes {fd : FuncData} (F : FunD K "becomes" "becomes" (defArgs s_becomes) (defBody s_becomes) (defScope s_becomes) [] [] (He.ga K "becomes") fd) {CX : CXT} {N ps : List Str} {k : Nat} {sp : Sp} (S : FnScope N ps (defScope s_becomes)) (len : ∀ vs H Q E, sp vs H Q E → vs.length = ps.length)
    (hbody : ∀ (A : Around) (outer : List Env) (s : Shared) (H : Hp) (vs : List V) (Q : VK) (E : XK), Room k (A.deeper (envOfC "becomes" (defScope s_becomes) s.heap.objs.size (He.ga K "becomes") (.ref (tabC K)))) → sp vs H Q E →
      ∃ t, PSs (cxOf CX P w K mg base N "becomes" (defScope s_becomes) (He.ga K "becomes") (.ref (tabC K)) A outer s H E) (defBody s_becomes) t ∧ t { nx := fun _ H' => Q .non H', rt := Q } (start N vs) H) : FnOk P w K mg base CX (k + 1) (He.ga K "becomes") fd ps sp := by
  obtain ⟨oc, od, dV, kV, doc, pm, an, cdv, ct, osl, rfl, lk, hcd, _, _⟩ := F.ex
  obtain ⟨c, rfl⟩ := He.codeIn_ref hcd
  have e : tabC K = c := He.codeOf_eq (p := ("becomes", none)) lk rfl
  rw [e] at hbody
  exact fn_of lk hcd S len fun A outer s H vs Q E hr hsp => hbody A outer s H vs Q E hr hsp
theorem things_any {H : Hp} {m : Addr} {nm bt : Str} {pp : Option Str} {Q : VK} {E : XK} (hm : MacAt K H m nm pp bt) (n1 : bt ≠ "~") (n2 : bt ≠ "$") (hp : pp = none ∨ pp = some bt)
    (q : ∀ p H' th, OneRow H H' p th → ((pp = none ∧ ∃ pc c, th = [.str "piece", .ref pc] ∧ PcAt K H pc bt c []) ∨ (pp = some bt ∧ th = [.str "param", .int 0])) → Q (.ref p) H') : spThings K [.ref m] H Q E := by
  refine ⟨m, nm, bt, pp, rfl, hm, n1, n2, ?_⟩
  rcases hp with rfl | rfl
  · exact .inl ⟨rfl, fun p H' pc c hpc hone => q p H' _ hone (.inl ⟨rfl, pc, c, rfl, hpc⟩)⟩
  · exact .inr ⟨rfl, fun p H' hone => q p H' _ hone (.inr ⟨rfl, rfl⟩)⟩
def spBecomes (K : PySem.W.Frag) : Sp := fun vs H Q _ => ∃ (m ca : Addr) (rv fv : V) (nm bt ct : Str) (cc : Int) (pp : Option Str), vs = [.ref m, .ref ca, rv, fv] ∧ TabsN (tabT K qnM) H ∧ PcAt K H ca ct cc [] ∧ MacAt K H m nm pp bt ∧ bt ≠ "~" ∧ bt ≠ "$" ∧
  ∃ t : Str, ((pp = none ∧ t = bt) ∨ (pp = some bt ∧ ∃ (fl al a : Addr) (c : Int), fv = .ref fl ∧ H fl = some (.lst [.ref al]) ∧ H al = some (.lst [.ref a]) ∧ PcAt K H a t c [])) ∧
  ∀ (p x : Addr) (H' : Hp) (c : Int), H p = none → H x = none → p ≠ x → ExtN H H' → (∀ b, H' b = none → H b = none) → TabsN (tabT K qnM) H' → H' p = some (.lst [.ref x]) → PcD K H' x t c → Q (.ref p) H'
theorem sc_becomes : FnScope ["macro", "caller", "raw", "full", "name", "paint", "way", "moved", "found", "first", "others", "so_far", "thing"] ["macro", "caller", "raw", "full"] (defScope s_becomes) := ⟨rfl, rfl, rfl, by decide +kernel, rfl, by decide +kernel, by decide +kernel⟩
theorem fn_becomes (T : Top w K mg) (TB : TabB base mg (tabC K) (tabP K)) {fd : FuncData} (F : FunD K "becomes" "becomes" (defArgs s_becomes) (defBody s_becomes) (defScope s_becomes) [] [] (He.ga K "becomes") fd) :
    FnOk P w K mg base CX0 4 (He.ga K "becomes") fd ["macro", "caller", "raw", "full"] (spBecomes K) := by
  have g_painted := ok_painted (P := P) (base := base) T
  have m_Macro_things := ok_things (P := P) (base := base) T
  refine cd_becomes (k := 3) F sc_becomes (fun vs H Q E h => ?_) (fun A outer s H vs Q E hr h => ?_)
  · obtain ⟨m, ca, rv, fv, nm, bt, ct, cc, pp, rfl, _⟩ := h
    rfl
  · obtain ⟨m, ca, rv, fv, nm, bt, ct, cc, pp, rfl, hT, hca, hm, n1, n2, t, hcase, q⟩ := h
    have main : ∃ t, PSs (cxOf CX0 P w K mg base ["macro", "caller", "raw", "full", "name", "paint", "way", "moved", "found", "first", "others", "so_far", "thing"] "becomes" (defScope s_becomes) (He.ga K "becomes") (.ref (tabC K)) A outer s H E).nox (defBody s_becomes) t ∧ t { nx := fun _ H' => Q .non H', rt := Q } (start ["macro", "caller", "raw", "full", "name", "paint", "way", "moved", "found", "first", "others", "so_far", "thing"] [.ref m, .ref ca, rv, fv]) H := by
      refine ⟨_, (pss_cons (ps_set (i := 4) sc_becomes.nd rfl (Or.inr rfl) (pe_fld (pv 0) rfl))
      (pss_cons (ps_set (i := 5) sc_becomes.nd rfl (Or.inr rfl) (pe_g g_painted hr (by decide) pass0 (pa_cons (pe_fld (pv 1) rfl) (pa_cons (pe_tup (pa_cons (pv 4) pa_nil)) pa_nil))))
      (pss_cons (ps_set (i := 6) sc_becomes.nd rfl (Or.inr rfl) (pe_op op_catS (pe_ix ix_tup (pe_ix ix_tup (pe_fld (pv 1) rfl) pe_int (fun _ _ => rfl)) pe_int (fun _ _ => rfl)) (pe_tup (pa_cons (pv 4) pa_nil))))
      (pss_cons (ps_ndefMS (T := tabT K qnM) (nm := fun _ _ => qnM) (c := tabC K) (P := tabP K) (name := "moved") (i := 7) rfl TB rfl (List.mem_cons_self ..) (by first | rfl | decide +kernel) (fun p hp _ => by rw [List.mem_singleton.mp hp]) (ndef_free (sc := defScope s_becomes) (fr := frM) ndM) rfl rfl rfl sc_becomes.nd rfl (Or.inl rfl) (Or.inr rfl))
      (pss_cons (ps_set (i := 8) sc_becomes.nd rfl (Or.inl rfl) (pe_lst pa_nil))
      (pss_cons (ps_for PassesOwn.never rfl (pi_list (pe_m0 m_Macro_things hr (by decide) pass0 (pv 0))) (pg_star (k := 1) rfl (pgs_cons (pg_name (i := 9) sc_becomes.nd rfl (Or.inl rfl)) (pgs_star (pg_name (i := 10) sc_becomes.nd rfl (Or.inl rfl)) pgs_nil)))
        (pss_cons (ps_set (i := 11) sc_becomes.nd rfl (Or.inl rfl) (pe_calln (js := [4, 5, 2, 6]) (i := 7) (ps := ["thing", "rows"]) (fr := frM) (mk := nfM qnM _) (sp := fun _ _ => spMoved K) (fun f c' => nok_moved T _ _ f c') (fun _ => rfl) (fun ok => Caps.made (scope := C8.fnScope s_moved) ok (ndef_free (sc := defScope s_becomes) (fr := frM) ndM) (ndef_fr (sc := defScope s_becomes) (fr := frM) ndM) rfl) hr (by decide) pass0 rfl (Or.inl rfl) (pa_cons (pv 9) (pa_cons (pe_ifExp (pt_cmpR op_eq (pe_callB call_len_seq (by rfl) T.b_len PySem.boot_len (pa_cons (pv 10) pa_nil)) pe_int (nomark _)) (pv 3) (pv 2)) pa_nil))))
      (pss_cons (ps_for PassesOwn.never rfl (pi_list (pv 10)) (pg_name (i := 12) sc_becomes.nd rfl (Or.inl rfl))
        (pss_one ps_never))
      (pss_one (ps_expr (pe_bm PySem.F.plainAttrs_list PySem.F.slot_list_extend PySem.F.type_list_extend mt_extend (pv 8) (pa_cons (pv 11) pa_nil)))))))
      (pss_one (ps_ret (pv 8))))))))), ?_⟩
      obtain ⟨dxm, b, pc, prv, bc, k1, k2, k3, k4⟩ := id hm
      obtain ⟨dx, sa, pp0, sgs, cs, g1, hsa, hpa, hl, hcs⟩ := hca.cols
      refine ⟨_, rfl, m, _, dxm, _, _, rfl, k1, T.c_Macro, T.n_Macro_name, mFs_name _ _ _, ?_⟩
      refine ⟨_, rfl, ca, _, dx, _, _, rfl, g1, T.c_Piece, T.n_Piece_paint, pFs_paint _ _ _, _, rfl, (by show 1 ≤ sizeLine; decide), fun p0 hp0 => ?_⟩
      have s0 := same_upd hp0 (.tup [.str nm])
      refine ⟨pp0, p0, nm, rfl, Same.sqt s0 hpa, SqT.of upd_same, fun p1 H1 hp1 s1 hp1' => ?_⟩
      have s01 := s0.trans s1
      cases hcs with
      | cons hc0 hcr =>
        rename_i v0 sgr
        obtain ⟨g, wv, pg, rw', ws, rfl, hg, hw, hwl⟩ := hc0
        refine ⟨_, rfl, ca, _, dx, _, _, rfl, s01 _ _ g1, T.c_Piece, T.n_Piece_signs, pFs_signs _ _ _, sa, _, 0, _, rfl, rfl, Same.sqt s01 hsa, atI_nat (j := 0) rfl, g, _, 3, _, rfl, rfl, Same.sqt s01 hg, atI_nat (j := 3) rfl, ?_⟩
        refine ⟨_, rfl, (by show 1 ≤ sizeLine; decide), fun p2 hp2 => ?_⟩
        have s2 := same_upd hp2 (.tup [.str nm])
        refine ⟨wv, p2, ws, [.str nm], rfl, rfl, Same.sqt (s01.trans s2) hw, SqT.of upd_same, (by rw [sizeLine_eq]; show ws.length + 1 ≤ _; omega), fun wa H2 s3 => ?_⟩
        have s02 := s01.trans (s2.trans s3)
        have hpn : SqT K H2 p1 [.str nm] := Same.sqt (s2.trans s3) (SqT.of hp1')
        refine ⟨hT.ext s02, fun f c' H3 eN nn hT3 hf0 hf1 hc1 => ?_⟩
        have e03 : ExtN H H3 := (ExtN.of_same s02).trans eN
        have nn0 : ∀ b, H3 b = none → H b = none := fun b z => Dom.same s02 b (nn b z)
        have hpn3 := exn_sqt eN hpn
        refine ⟨Nat.zero_le _, fun p hp => ?_⟩
        have s4 := same_upd hp (.lst [])
        have e04 : ExtN H (upd H3 p (.lst [])) := e03.trans (ExtN.of_same s4)
        have nn4 : ∀ b, (upd H3 p (.lst [])) b = none → H b = none := fun b z => nn0 b (Dom.same s4 b z)
        have hp4 : (upd H3 p (.lst [])) p = some (.lst []) := upd_same
        have hT4 := hT3.ext s4
        have hpn4 := Same.sqt s4 hpn3
        have hf4 := s4 _ _ hf1
        have hc4 := s4 _ _ hc1
        have hpn0 : H p = none := nn0 _ hp
        generalize upd H3 p (.lst []) = H4 at s4 e04 nn4 hp4 hT4 hpn4 hf4 hc4 ⊢
        have hm4 := exn_mac e04 hm
        have k14 := e04 _ _ k1 (fun ps z => nomatch z)
        refine ⟨_, rfl, m, dxm, _, rfl, k14, mFs_no _ _ _ (by decide +kernel) (by decide +kernel) (by decide +kernel), ?_⟩
        unfold tNil
        refine things_any hm4 n1 n2 (hcase.imp (fun z => z.1) fun z => z.1) fun p3 H5 th hone hrel => ?_
        obtain ⟨r, t0, x1, x2, x3, x4, x5, x6, s5, hp3, hr5, ht5⟩ := hone
        refine ⟨p3, rfl, ⟨_, SqL.of hp3⟩, for_list (xs := [.ref r]) (fun i σ H' => (i = 0 ∧ H' = H5 ∧ ∃ o1 o2 o3 o4, σ = [some (.ref m), some (.ref ca), some rv, some fv, some (.str nm), some (.ref p1), some (.ref wa), some (.ref f), some (.ref p), o1, o2, o3, o4]) ∨ (i = 1 ∧ SqL K H' p3 [.ref r] ∧ ∃ o1 o2 o3 o4, σ = [some (.ref m), some (.ref ca), some rv, some fv, some (.str nm), some (.ref p1), some (.ref wa), some (.ref f), some (.ref p), o1, o2, o3, o4] ∧ Q (.ref p) H')) (.inl ⟨rfl, rfl, _, _, _, _, rfl⟩) ?_ ?_ ?_⟩
        · rintro i σ H' hi (⟨rfl, rfl, _⟩ | ⟨rfl, h, _⟩)
          · exact SqL.of hp3
          · exact h
        · rintro i y σ H' hy h7
          have hi : i = 0 := by
            have := (List.getElem?_eq_some_iff.mp hy).1
            have z : ([.ref r] : List V).length = 1 := rfl
            omega
          subst hi
          have hya : y = .ref r := by simpa using hy.symm
          subst hya
          rcases h7 with ⟨_, rfl, o1, o2, o3, o4, rfl⟩ | ⟨z, _⟩
          · refine ⟨r, _, rfl, .inl (SqL.of hr5), (by show 1 ≤ 1; decide), (by show 1 ≤ 16384; decide), fun D hD => ⟨_, _, rfl, _, _, rfl, rfl, ?_⟩⟩
            have s6 : Same H' (upd H' D (.lst (List.drop 1 [.ref t0]))) := same_upd hD _
            have hDD : (upd H' D (.lst (List.drop 1 [.ref t0]))) D = some (.lst []) := upd_same
            have s46 := s5.trans s6
            generalize upd H' D (.lst (List.drop 1 [.ref t0])) = H6 at s6 hDD s46 ⊢
            have e06 : ExtN H H6 := e04.trans (ExtN.of_same s46)
            have nn6 : ∀ b, H6 b = none → H b = none := fun b z => nn4 b (Dom.same s46 b z)
            have fin : ∀ (p' : Addr) (H7 : Hp), OnePc K H6 H7 p' t → ∃ x c, H6 x = none ∧ H7 p' = some (.lst [.ref x]) ∧ p' ≠ p ∧ p' ≠ D ∧ p ≠ x ∧ Same H6 H7 ∧ PcD K H7 x t c := by
              rintro p' H7 ⟨x, c, z1, z2, z3, z4, z5, z6⟩
              exact ⟨x, c, z2, z5, (ne_of_none (s46 _ _ hp4) z1).symm, (ne_of_none hDD z1).symm, ne_of_none (s46 _ _ hp4) z2, z4, z6⟩
            refine ⟨f, c', rfl, s46 _ _ hf4, _, rfl, ?_⟩
            refine ⟨_, rfl, D, _, rfl, .inl (SqL.of hDD), rfl, _, rfl, iteT ⟨_, rfl, s46 _ _ hf4, s46 _ _ hc4, ?_⟩⟩
            have goOn : ∀ (Qm : VK) (Em : XK), (∀ p' H7, OnePc K H6 H7 p' t → Qm (.ref p') H7) → spMoved K [some (.str nm), some (.ref p1), some rv, some (.ref wa)] [.ref t0, fv] H6 Qm Em := by
              intro Qm Em hq
              refine ⟨t0, p1, wa, nm, rv, fv, rfl, rfl, Same.sqt s46 hpn4, ?_⟩
              rcases hrel with ⟨hpp, pc3, c3, rfl, hpc3⟩ | ⟨hpp, rfl⟩
              · rcases hcase with ⟨_, rfl⟩ | ⟨z, _⟩
                · exact .inl ⟨pc3, t, c3, s6 _ _ ht5, Same.pc s46 hpc3, hq⟩
                · rw [hpp] at z
                  cases z
              · rcases hcase with ⟨z, _⟩ | ⟨_, fl, al, a, c3, rfl, y1, y2, y3⟩
                · rw [hpp] at z
                  cases z
                · exact .inr ⟨fl, al, a, t, c3, s6 _ _ ht5, rfl, e06 _ _ y1 (fun ps z => nomatch z), e06 _ _ y2 (fun ps z => nomatch z), exn_pc e06 y3, hq⟩
            refine goOn _ _ fun p' H7 hone7 => ?_
            obtain ⟨x, c, z2, z5, z6, z7, z8, s7, z9⟩ := fin p' H7 hone7
            refine ⟨_, rfl, D, rfl, ⟨_, SqL.of (s7 _ _ hDD)⟩, for_list (xs := []) (fun i σ H' => H' = H7 ∧ ∃ o1, σ = [some (.ref m), some (.ref ca), some rv, some fv, some (.str nm), some (.ref p1), some (.ref wa), some (.ref f), some (.ref p), some (.ref t0), some (.ref D), some (.ref p'), o1]) ⟨rfl, _, rfl⟩ (fun i σ H' _ h => by rw [h.1]; exact SqL.of (s7 _ _ hDD)) (fun i x σ H' h => by simp at h) ?_⟩
            rintro σ H8 ⟨rfl, o5, rfl⟩
            refine ⟨_, rfl, .inl ⟨rfl, _, SqL.of (s7 _ _ (s46 _ _ hp4))⟩, _, rfl, p, p', [], _, rfl, rfl, s7 _ _ (s46 _ _ hp4), z5, (by show 1 ≤ sizeLine; decide), ?_⟩
            have sb := but_upd (H := H8) p (.lst ([] ++ [.ref x]))
            have hp8 := s7 _ _ (s46 _ _ hp4)
            have hp3n : p3 ≠ p := (ne_of_none hp4 x1).symm
            refine .inr ⟨rfl, SqL.of (by rw [upd_ne hp3n]; exact s7 _ _ (s6 _ _ hp3)), _, _, _, _, rfl, q p x _ c hpn0 (nn6 _ z2) z8 ?_ ?_ ?_ upd_same (pd_but sb hp8 z9)⟩
            · intro b o y ny
              have yn : b ≠ p := fun z => by rw [z, hpn0] at y; cases y
              rw [upd_ne yn]
              exact s7 _ _ (e06 _ _ y ny)
            · intro b y
              by_cases yp : b = p
              · rw [yp]
                exact hpn0
              · rw [upd_ne yp] at y
                exact nn6 _ (Dom.same s7 _ y)
            · intro pq hpq
              obtain ⟨ps, y1, y2, y3⟩ := (hT4.ext (s46.trans s7)) pq hpq
              have np : ∀ {b : Addr} {o : HO}, H8 b = some o → (∀ l, o ≠ .lst l) → (upd H8 p (.lst ([] ++ [.ref x]))) b = some o := fun {b o} y ny => by
                have yn : b ≠ p := fun z => by
                  rw [z, hp8] at y
                  exact ny _ (Option.some.inj y).symm
                rw [upd_ne yn]
                exact y
              refine ⟨ps, np y1 (fun l z => nomatch z), y2, fun pos cv hc => ?_⟩
              obtain ⟨cc2, y4, y5⟩ := y3 pos cv hc
              exact ⟨cc2, y4, np y5 (fun l z => by unfold CodeO at z; cases z)⟩
          · cases z
        · rintro σ H' (⟨z, _⟩ | ⟨_, _, o1, o2, o3, o4, rfl, q⟩)
          · cases z
          · exact ⟨_, rfl, q⟩
    obtain ⟨t, h1, h2⟩ := main
    exact ⟨t, h1.nox, h2⟩
end
end Bp

/-! text: D22 -/
set_option Elab.async false
set_option linter.all false
set_option maxRecDepth 100000
set_option maxHeartbeats 4000000
/-! the call of becomes by keywords; vet_row -/
namespace Bp
open PySem PySem.Spec PyProof.Rows L2 NdefX LamX
section
variable {P : Program} {w : World} {K : PySem.W.Frag} {mg : Str → Option Value} {base : Heap}
theorem kb_becomes {fd : FuncData} (F : FunD K "becomes" "becomes" (defArgs s_becomes) (defBody s_becomes) (defScope s_becomes) [] [] (He.ga K "becomes") fd) :
    KBn K fd ["macro", "caller", "raw", "full"] 2 ["raw", "full"] (fun us ws => us ++ ws) (fun vs zs => vs ++ zs) := by
  obtain ⟨oc, od, dV, kV, doc, pm, an, cdv, ct, osl, rfl, lk, hcd, hd, _⟩ := F.ex
  rcases hd with ⟨_, rfl⟩ | ⟨z, _⟩
  rotate_left
  · exact absurd rfl z
  refine ⟨fun s us ws X h1 h2 => ?_, fun r rz => r.append rz⟩
  match us, ws, h1, h2 with
  | [a, b], [c, d], _, _ => exact BindsTo.of_eq (by first | rfl | with_unfolding_all rfl)
def totL (ts : List Str) : Nat := (ts.map fun t => t.length).sum
theorem totL_mem {ts : List Str} {t : Str} (h : t ∈ ts) : t.length ≤ totL ts := by
  induction ts with
  | nil => cases h
  | cons a r ih =>
    show t.length ≤ a.length + totL r
    rcases List.mem_cons.mp h with rfl | h
    · exact Nat.le_add_right _ _
    · exact Nat.le_trans (ih h) (Nat.le_add_left _ _)
theorem sum_ints : ∀ ts : List Str, (ts.map fun t => ((t.length : Nat) : Int)).sum = ((totL ts : Nat) : Int)
  | [] => rfl
  | t :: ts => by
    have ih := sum_ints ts
    rw [List.map_cons, List.sum_cons, ih]
    show _ = (((t.length + totL ts : Nat)) : Int)
    omega
def spVetRow (K : PySem.W.Frag) : Sp := fun vs H Q _ => ∃ (l : Addr) (ca : V) (ps : List Addr) (ts : List Str), vs = [.ref l, ca] ∧ H l = some (.lst (ps.map V.ref)) ∧ Paired (fun a t => ∃ c, PcD K H a t c) ps ts ∧ ps.length ≤ 400 ∧ totL ts ≤ 2000 ∧ ∀ H', Same H H' → Q .non H'
theorem sc_vet_row : FnScope ["row", "caller", "piece"] ["row", "caller"] (defScope s_vet_row) := ⟨rfl, rfl, rfl, by decide +kernel, rfl, by decide +kernel, by decide +kernel⟩
theorem ok_vet_row (T : Top w K mg) : GOk P w K mg base CX0 3 "vet_row" ["row", "caller"] (spVetRow K) := by
  obtain ⟨fd, F⟩ := T.f_vet_row
  refine ⟨_, fd, T.g_vet_row, F.kp, F.bindsN fun _ _ _ _ _ _ us hl => match us, hl with | [_, _], _ => rfl, ok0 F sc_vet_row (fun vs H Q E h => ?_) (fun cdv A outer s H vs Q E hr h => ?_)⟩
  · obtain ⟨l, ca, ps, ts, rfl, _⟩ := h
    rfl
  · obtain ⟨l, ca, ps, ts, rfl, h1, h2, h3, h4, q⟩ := h
    obtain ⟨fL, hLM, hLB, hLF⟩ := ok_Piece_len (P := P) (base := base) T
    obtain ⟨t_MP, h_MOST_PIECES⟩ := T.i_MOST_PIECES
    obtain ⟨t_MS, h_MOST_SIGNS⟩ := T.i_MOST_SIGNS
    refine ⟨_, (pss_one (ps_if (PW.pt (pw_or (pt_cmpR op_gt (pe_callB call_len_seq (by rfl) T.b_len PySem.boot_len (pa_cons (pv 0) pa_nil)) (pe_glob (v := .int 400) rfl h_MOST_PIECES ⟨_, rfl⟩) (nomark _)) (pw_or1 (pt_cmpR op_gt (pe_callB (cr_sum rfl) (by rfl) T.b_sum (by decide +kernel) (pa_cons (pe_lc (own := [("piece", 2)]) (tt := tYes) (by rfl) sc_vet_row.nd (pi_list (pv 0)) (blkOk_by (own := [("piece", 2)]) (N := ["row", "caller", "piece"]) (sc := defScope s_vet_row) (by decide +kernel)) (fun _ _ _ _ _ => (pg_name (i := 2) sc_vet_row.nd rfl (Or.inl rfl))) (fun _ _ _ _ _ => pts_nil) (fun _ _ _ _ _ => (pe_callB (call_lenO hLF hr hLM hLB pass0) (by rfl) T.b_len PySem.boot_len (pa_cons (pv 2) pa_nil)))) pa_nil)) (pe_glob (v := .int 2000) rfl h_MOST_SIGNS ⟨_, rfl⟩) (nomark _)))))
        (pss_one ps_never)
        pss_nil)), ?_⟩
    refine ⟨_, rfl, l, _, rfl, .inl (SqL.of h1), _, _, rfl, rfl, _, rfl, ?_⟩
    rw [List.length_map, decide_eq_false (show ¬ (((ps.length : Nat) : Int) > 400) by omega)]
    refine iteF ?_
    refine ⟨_, rfl, l, rfl, ⟨_, SqL.of h1⟩, fun D hD => lc_list (xs := ps.map V.ref) (fun i H' => H' = upd H D (.lst ((ts.take i).map fun t => V.int ((t.length : Nat) : Int)))) rfl ?_ ?_ ?_⟩
    · rintro i H' hi rfl
      exact SqL.of (same_upd hD _ _ _ h1)
    · rintro i x H' hx rfl
      rw [List.getElem?_map] at hx
      cases e : ps[i]? with
      | none =>
        rw [e] at hx
        cases hx
      | some a =>
        rw [e] at hx
        have hxa : x = .ref a := (Option.some.inj hx).symm
        subst hxa
        obtain ⟨t, et, c, hpd⟩ := Paired.at1 h2 e
        have sD : Same H (upd H D (.lst ((ts.take i).map fun t => V.int ((t.length : Nat) : Int)))) := same_upd hD _
        have hpd2 := Same.pd sD hpd
        obtain ⟨dx, sa, pa, g, sgs, pg, rw', wv, g1, _⟩ := id hpd2
        have hlt : t.length ≤ 2000 := Nat.le_trans (totL_mem (List.mem_of_getElem? et)) h4
        refine ⟨rfl, _, rfl, a, dx, _, rfl, g1, a, t, c, rfl, hpd2, by rw [sizeLine_eq]; omega, _, rfl, by omega, by omega, _, upd_same, ?_, ?_⟩
        · rw [List.length_map, List.length_take, sizeLine_eq]
          have := h2.length
          omega
        · rw [upd_upd, List.take_succ, et, List.map_append]
          rfl
    · rintro H' rfl
      have el : (ps.map V.ref).length = ts.length := by rw [List.length_map]; exact h2.length
      rw [el, List.take_length]
      refine ⟨D, ts.map fun t => ((t.length : Nat) : Int), rfl, SqL.of (by rw [upd_same, List.map_map]; rfl), _, _, rfl, rfl, _, rfl, ?_⟩
      rw [sum_ints, decide_eq_false (show ¬ (((totL ts : Nat) : Int) > 2000) by omega)]
      exact iteF (q _ (same_upd hD _))
end
end Bp

/-! text: R4 -/
set_option Elab.async false
set_option linter.all false
set_option maxRecDepth 100000
set_option maxHeartbeats 4000000
/-! zip(a list, a tuple, strict=True) -/
namespace Bp
open PySem PySem.Spec PyProof.Rows L2
abbrev IsZipS (h : Heap) (z TI TO : Addr) (f0 : Value) : Prop :=
  h.get? z = some { cls := .type "zip", dict := none, data := .fields #[f0, .bool false, .bool true, .ref TI, .ref TO], slots := #[] }
section
variable {prog : Program} {w : World} {A : Around} {E : Value → Shared → Prop} {s : Shared}
open Builtin.SmallTypes in
theorem noe_item {it : Value} {Q : Option Value → Shared → Prop} (h : wpAny (model prog w) A (nextOf it) (fun v s' => Q (some v) s') (fun _ _ => False) s) : wpAny (model prog w) A (nextOrEnd it) Q E s := by
  unfold nextOrEnd
  refine wpAny_bind (wpAny_attempt (wpAny_mono h (fun v s' q => ?_) fun _ _ x => x.elim))
  exact wpAny_pure q
open Builtin.SmallTypes in
theorem noe_end {it : Value} {Q : Option Value → Shared → Prop} (h : wpAny (model prog w) A (nextOf it) (fun _ _ => False) (fun e s' => ∃ a o, e = .ref a ∧ s'.heap.get? a = some o ∧ o.cls = .type "StopIteration" ∧ Q none s') s) : wpAny (model prog w) A (nextOrEnd it) Q E s := by
  unfold nextOrEnd
  refine wpAny_bind (wpAny_attempt (wpAny_mono h (fun v s' q => q.elim) fun e s' q => ?_))
  obtain ⟨a, o, rfl, ho, hc, q⟩ := q
  refine wpAny_bind (wpAny_isInstance (T := "StopIteration") (b := true) ⟨o, ho, hc⟩ isSubtype_stop ?_)
  exact wpAny_pure q
theorem zipS_next_item {z TI TO i1 i2 l1 l2 : Addr} {k1 k2 : Nat} {xs ys : Array Value} {x y a b : Value} {Q : Value → Shared → Prop} (D : ZipApart z TI TO i1 i2 l1 l2)
    (hz : IsZipS s.heap z TI TO .none) (hTI : IsPair s.heap TI (.ref i1) (.ref i2)) (hTO : IsPair s.heap TO a b)
    (h1 : s.heap.IsListIter i1 l1 k1) (h2 : s.heap.IsTupleIter i2 l2 k2) (hl1 : s.heap.IsList l1 xs) (hl2 : s.heap.IsTuple l2 ys) (hx : xs[k1]? = some x) (hy : ys[k2]? = some y)
    (hQ : ∀ h', IsZipS h' z TI TO (rawInt s.heap.objs.size) → IsPair h' TO x y → h'.IsListIter i1 l1 (k1 + 1) → h'.IsTupleIter i2 l2 (k2 + 1) → IsPair h' s.heap.objs.size x y → h'.objs.size = s.heap.objs.size + 1 →
      (∀ c o, c ≠ z → c ≠ TO → c ≠ i1 → c ≠ i2 → s.heap.get? c = some o → h'.get? c = some o) → Q (.ref s.heap.objs.size) { s with heap := h' }) :
    wpAny (model prog w) A (Builtin.«zip.__next__» ⟨[.ref z], []⟩) (fun fin s' => ∃ v, fin = .done (.ret v) ∧ Q v s') E s := by
  show wpAny _ _ (field (.ref z) 2 >>= _) _ _ _
  refine wpAny_bind (wpAny_field hz rfl (x := .bool true) rfl ?_)
  show wpAny _ _ (field (.ref z) 3 >>= _) _ _ _
  refine wpAny_bind (wpAny_field hz rfl (x := .ref TI) rfl ?_)
  refine wpAny_bind (wpAny_seqItems hTI rfl ?_)
  show wpAny _ _ (Builtin.SmallTypes.ownedTupleIsFree (.ref z) >>= _) _ _ _
  refine wpAny_bind ?_
  unfold Builtin.SmallTypes.ownedTupleIsFree
  refine wpAny_bind (wpAny_field hz rfl (x := .none) rfl (wpAny_pure ?_))
  simp only [if_true]
  refine wpAny_bind (wpAny_rule ?_)
  refine wpAny_bind (wpAny_field hz rfl (x := .ref TO) rfl ?_)
  refine wpAny_bind (wpAny_setField_rec hz (by simp) fun h₁ hz₁ hs₁ => ?_)
  replace hz₁ : IsZipS h₁ z TI TO .ellipsis := hz₁
  refine wpAny_bind ?_
  simp only [List.zipIdx_cons, List.zipIdx_nil, List.forIn_cons, List.forIn_nil]
  refine wpAny_bind (wpAny_bind (wpAny_onRaise ?_))
  show wpAny _ _ (Builtin.SmallTypes.nextOrEnd (.ref i1)) _ _ _
  refine noe_item (wpAny_nextOf_list_item (h1.extBut hs₁.extBut D.i1z) (hl1.extBut hs₁.extBut D.l1z) hx fun h₂ h1₂ hs₂ => ?_)
  have hTO₂ : IsPair h₂ TO a b := hs₂.extBut _ _ D.TOi1 (hs₁.extBut _ _ D.TOz hTO)
  refine wpAny_bind (wpAny_seqItems hTO₂ rfl ?_)
  refine wpAny_bind (wpAny_updateSeq_pair hTO₂ fun h₃ hTO₃ hs₃ => ?_)
  replace hTO₃ : IsPair h₃ TO x b := hTO₃
  refine wpAny_bind (wpAny_letGo (wpAny_pure ?_))
  refine wpAny_bind (wpAny_bind (wpAny_onRaise ?_))
  show wpAny _ _ (Builtin.SmallTypes.nextOrEnd (.ref i2)) _ _ _
  refine noe_item (RZ.nextOf_tuple_item (((h2.extBut hs₁.extBut D.i2z).extBut hs₂.extBut D.i12.symm).extBut hs₃.extBut D.TOi2.symm)
    (((hl2.extBut hs₁.extBut D.l2z).extBut hs₂.extBut D.l2i1).extBut hs₃.extBut D.l2TO) hy fun h₄ h2₄ hs₄ => ?_)
  have hTO₄ : IsPair h₄ TO x b := hs₄.extBut _ _ D.TOi2 hTO₃
  refine wpAny_bind (wpAny_seqItems hTO₄ rfl ?_)
  refine wpAny_bind (wpAny_updateSeq_pair hTO₄ fun h₅ hTO₅ hs₅ => ?_)
  replace hTO₅ : IsPair h₅ TO x y := hTO₅
  refine wpAny_bind (wpAny_letGo (wpAny_pure (wpAny_pure ?_)))
  refine wpAny_bind (wpAny_seqItems hTO₅ rfl ?_)
  refine wpAny_bind (wpAny_newTuple ?_)
  have hsz : h₅.objs.size = s.heap.objs.size := by rw [hs₅.1, hs₄.1, hs₃.1, hs₂.1, hs₁.1]
  have hz₅ : IsZipS h₅ z TI TO .ellipsis := hs₅.extBut _ _ D.TOz.symm (hs₄.extBut _ _ D.i2z.symm (hs₃.extBut _ _ D.TOz.symm (hs₂.extBut _ _ D.i1z.symm hz₁)))
  have hk₅ : ∀ c o, c ≠ z → c ≠ TO → c ≠ i1 → c ≠ i2 → s.heap.get? c = some o → h₅.get? c = some o := fun c o c1 c2 c3 c4 e =>
    hs₅.extBut _ _ c2 (hs₄.extBut _ _ c4 (hs₃.extBut _ _ c2 (hs₂.extBut _ _ c3 (hs₁.extBut _ _ c1 e))))
  have h1₅ : h₅.IsListIter i1 l1 (k1 + 1) := ((h1₂.extBut hs₃.extBut D.TOi1.symm).extBut hs₄.extBut D.i12).extBut hs₅.extBut D.TOi1.symm
  have h2₅ : h₅.IsTupleIter i2 l2 (k2 + 1) := h2₄.extBut hs₅.extBut D.TOi2.symm
  have hzlt : z < h₅.objs.size := Heap.lt_size hz₅
  show wpAny _ _ (Builtin.SmallTypes.ownedTupleHandOut (.ref z) (.ref h₅.objs.size) >>= _) _ _ _
  refine wpAny_bind ?_
  unfold Builtin.SmallTypes.ownedTupleHandOut
  have hz₆ : IsZipS (h₅.push { cls := .type "tuple", data := .seq #[x, y] }) z TI TO .ellipsis := Heap.get?_push_of_some _ hz₅
  refine wpAny_bind (wpAny_setField_rec hz₆ (by simp) fun h₇ hz₇ hs₇ => ?_)
  replace hz₇ : IsZipS h₇ z TI TO (rawInt h₅.objs.size) := hz₇
  refine wpAny_setField_rec hz₇ (by simp) fun h₈ hz₈ hs₈ => ?_
  replace hz₈ : IsZipS h₈ z TI TO (rawInt h₅.objs.size) := hz₈
  have up : ∀ c o, c ≠ z → h₅.get? c = some o → h₈.get? c = some o := fun c o c1 e => hs₈.extBut _ _ c1 (hs₇.extBut _ _ c1 (Heap.get?_push_of_some _ e))
  have hT₈ : IsPair h₈ h₅.objs.size x y := hs₈.extBut _ _ (Nat.ne_of_gt hzlt) (hs₇.extBut _ _ (Nat.ne_of_gt hzlt) (Heap.get?_push_size _ rfl))
  have hz8 : h₈.objs.size = h₅.objs.size + 1 := by rw [hs₈.1, hs₇.1, Heap.size_push]
  rw [hsz] at hz₈ hT₈ hz8
  refine wpAny_pure ⟨_, rfl, ?_⟩
  show Q (.ref h₅.objs.size) _
  rw [hsz]
  exact hQ h₈ hz₈ (up _ _ D.TOz hTO₅) (h1₅.at fun o e => up _ o D.i1z e) (h2₅.at fun o e => up _ o D.i2z e) hT₈ hz8 fun c o c1 c2 c3 c4 e => up c o c1 (hk₅ c o c1 c2 c3 c4 e)
theorem zipS_next_end {z TI TO i1 i2 l1 l2 : Addr} {k1 k2 : Nat} {xs ys : Array Value} {a b : Value} {Q : Fin → Shared → Prop} (hh : A.handled = none) (D : ZipApart z TI TO i1 i2 l1 l2)
    (hz : IsZipS s.heap z TI TO .none) (hTI : IsPair s.heap TI (.ref i1) (.ref i2)) (hTO : IsPair s.heap TO a b)
    (h1 : s.heap.IsListIter i1 l1 k1) (h2 : s.heap.IsTupleIter i2 l2 k2) (hl1 : s.heap.IsList l1 xs) (hl2 : s.heap.IsTuple l2 ys) (hx : xs[k1]? = none) (hy : ys[k2]? = none)
    (hE : ∀ h' e, (∀ c o, c ≠ z → c ≠ TO → c ≠ i1 → c ≠ i2 → s.heap.get? c = some o → h'.get? c = some o) → (∃ o, h'.get? e = some o ∧ o.cls = .type "StopIteration") → E (.ref e) { s with heap := h' }) :
    wpAny (model prog w) A (Builtin.«zip.__next__» ⟨[.ref z], []⟩) Q E s := by
  show wpAny _ _ (field (.ref z) 2 >>= _) _ _ _
  refine wpAny_bind (wpAny_field hz rfl (x := .bool true) rfl ?_)
  show wpAny _ _ (field (.ref z) 3 >>= _) _ _ _
  refine wpAny_bind (wpAny_field hz rfl (x := .ref TI) rfl ?_)
  refine wpAny_bind (wpAny_seqItems hTI rfl ?_)
  show wpAny _ _ (Builtin.SmallTypes.ownedTupleIsFree (.ref z) >>= _) _ _ _
  refine wpAny_bind ?_
  unfold Builtin.SmallTypes.ownedTupleIsFree
  refine wpAny_bind (wpAny_field hz rfl (x := .none) rfl (wpAny_pure ?_))
  simp only [if_true]
  refine wpAny_bind (wpAny_rule ?_)
  refine wpAny_bind (wpAny_field hz rfl (x := .ref TO) rfl ?_)
  refine wpAny_bind (wpAny_setField_rec hz (by simp) fun h₁ hz₁ hs₁ => ?_)
  replace hz₁ : IsZipS h₁ z TI TO .ellipsis := hz₁
  refine wpAny_bind ?_
  simp only [List.zipIdx_cons, List.zipIdx_nil, List.forIn_cons, List.forIn_nil]
  refine wpAny_bind (wpAny_bind (wpAny_onRaise ?_))
  show wpAny _ _ (Builtin.SmallTypes.nextOrEnd (.ref i1)) _ _ _
  refine noe_end (wpAny_nextOf_list_end hh (h1.extBut hs₁.extBut D.i1z) (hl1.extBut hs₁.extBut D.l1z) hx fun h₂ e hs₂ he => ?_)
  obtain ⟨oe, hoe, hce⟩ := he
  have hz₂ : IsZipS h₂ z TI TO .ellipsis := hs₂ _ _ D.i1z.symm hz₁
  refine ⟨e, oe, rfl, hoe, hce, ?_⟩
  refine wpAny_bind (wpAny_setField_rec hz₂ (by simp) fun h₃ hz₃ hs₃ => ?_)
  have h2₃ := ((h2.extBut hs₁.extBut D.i2z).extBut hs₂ D.i12.symm).extBut hs₃.extBut D.i2z
  have hl2₃ := ((hl2.extBut hs₁.extBut D.l2z).extBut hs₂ D.l2i1).extBut hs₃.extBut D.l2z
  refine wpAny_bind ?_
  wp_delta
  rw [if_neg (show ¬ (0 > 0) by decide)]
  dsimp only
  refine wpAny_bind ?_
  simp only [List.drop_succ_cons, List.drop_zero, List.zipIdx_cons, List.zipIdx_nil, List.forIn_cons, List.forIn_nil]
  refine wpAny_bind (wpAny_bind (noe_end (RZ.nextOf_tuple_end hh h2₃ hl2₃ hy fun h₄ e2 hs₄ he2 => ?_)))
  obtain ⟨oe2, hoe2, hce2⟩ := he2
  refine ⟨e2, oe2, rfl, hoe2, hce2, ?_⟩
  refine wpAny_pure (wpAny_pure (wpAny_bind (wpAny_rule ?_)))
  show wpAny _ _ (newExc (.type "StopIteration") [] >>= _) _ _ _
  refine wpAny_bind ?_
  simp only [newExc, newTuple]
  refine wpAny_bind (wpAny_newObj_type ?_ (by size_fits))
  refine wpAny_bind (m := firstArgMember _ _) (wpAny_of_eq (a := Value.none) (by first | rfl | (simp only [firstArgMember]; rfl)) ?_)
  refine wpAny_newObj_type ?_ (by size_fits)
  simp only [raiseNew]
  refine wpAny_bind (wpAny_handled ?_)
  first | rw [show A.in1.handled = none from hh] | rw [hh]
  refine wpAny_bind (wpAny_pure (wpAny_throw ?_))
  refine hE _ _ (fun c o c1 c2 c3 c4 q => ?_) ⟨_, Heap.get?_push_size _ rfl, rfl⟩
  exact Heap.get?_push_of_some _ (Heap.get?_push_of_some _ (hs₄ _ _ c4 (hs₃.extBut _ _ c1 (hs₂ _ _ c3 (hs₁.extBut _ _ c1 q)))))
theorem pyNext_zipS_item {z TI TO i1 i2 l1 l2 : Addr} {k1 k2 : Nat} {xs ys : Array Value} {x y a b : Value} {Q : Option Value → Shared → Prop} (D : ZipApart z TI TO i1 i2 l1 l2)
    (hz : IsZipS s.heap z TI TO .none) (hTI : IsPair s.heap TI (.ref i1) (.ref i2)) (hTO : IsPair s.heap TO a b)
    (h1 : s.heap.IsListIter i1 l1 k1) (h2 : s.heap.IsTupleIter i2 l2 k2) (hl1 : s.heap.IsList l1 xs) (hl2 : s.heap.IsTuple l2 ys) (hx : xs[k1]? = some x) (hy : ys[k2]? = some y)
    (hQ : ∀ h', IsZipS h' z TI TO (rawInt s.heap.objs.size) → IsPair h' TO x y → h'.IsListIter i1 l1 (k1 + 1) → h'.IsTupleIter i2 l2 (k2 + 1) → IsPair h' s.heap.objs.size x y → h'.objs.size = s.heap.objs.size + 1 →
      (∀ c o, c ≠ z → c ≠ TO → c ≠ i1 → c ≠ i2 → s.heap.get? c = some o → h'.get? c = some o) → Q (some (.ref s.heap.objs.size)) { s with heap := h' }) :
    wpAny (model prog w) A (pyNext (.ref z)) Q E s := by
  have hT : s.TypeIs (.ref z) "zip" := ⟨_, hz, rfl⟩
  unfold pyNext
  exact wpAny_bind (wpAny_attempt (wpAny_callSpecial?_slot (name := Str.ofString "__next__") hT F.slot_zip_next
    (wpAny_call_entry F.slot_zip_next hT F.entry_zip_next
      (zipS_next_item D hz hTI hTO h1 h2 hl1 hl2 hx hy fun h' a1 a2 a3 a4 a5 a6 a7 => wpAny_pure (hQ h' a1 a2 a3 a4 a5 a6 a7)) (F.args_zip_next_1 _))))
theorem pyNext_zipS_end {z TI TO i1 i2 l1 l2 : Addr} {k1 k2 : Nat} {xs ys : Array Value} {a b : Value} {Q : Option Value → Shared → Prop} (hh : A.handled = none) (D : ZipApart z TI TO i1 i2 l1 l2)
    (hz : IsZipS s.heap z TI TO .none) (hTI : IsPair s.heap TI (.ref i1) (.ref i2)) (hTO : IsPair s.heap TO a b)
    (h1 : s.heap.IsListIter i1 l1 k1) (h2 : s.heap.IsTupleIter i2 l2 k2) (hl1 : s.heap.IsList l1 xs) (hl2 : s.heap.IsTuple l2 ys) (hx : xs[k1]? = none) (hy : ys[k2]? = none)
    (hQ : ∀ h', (∀ c o, c ≠ z → c ≠ TO → c ≠ i1 → c ≠ i2 → s.heap.get? c = some o → h'.get? c = some o) → Q none { s with heap := h' }) : wpAny (model prog w) A (pyNext (.ref z)) Q E s := by
  have hT : s.TypeIs (.ref z) "zip" := ⟨_, hz, rfl⟩
  unfold pyNext
  refine wpAny_bind (wpAny_attempt (wpAny_callSpecial?_slot (name := Str.ofString "__next__") hT F.slot_zip_next
    (wpAny_call_entry F.slot_zip_next hT F.entry_zip_next (zipS_next_end hh D hz hTI hTO h1 h2 hl1 hl2 hx hy fun h' e hk he => ?_) (F.args_zip_next_1 _))))
  obtain ⟨o, ho, hc⟩ := he
  refine wpAny_bind (wpAny_isInstance (T := "StopIteration") (b := true) ⟨o, ho, hc⟩ isSubtype_stop ?_)
  exact wpAny_pure (hQ _ hk)
theorem letGo_zipS {elts : List Expr} {x1} {pos : Pos} {z TI TO T : Addr} {Q : Unit → Shared → Prop} (hz : IsZipS s.heap z TI TO (rawInt T))
    (hQ : ∀ h', IsZipS h' z TI TO .none → Heap.SameBut z s.heap h' → Q () { s with heap := h' }) :
    wpAny (model prog w) A (letOwnedTupleGo (.Tuple elts x1 pos) (.ref z) (.ref T)) Q E s := by
  unfold letOwnedTupleGo
  refine wpAny_bind (wpAny_load hz ?_)
  show wpAny _ _ (if (["enumerate", "zip", "dict_itemiterator", "dict_reverseitemiterator", "odict_iterator", "itertools.zip_longest", "itertools.pairwise"].contains "zip" &&
      (#[rawInt T, .bool false, .bool true, .ref TI, .ref TO] : Array Value)[0]? == some (rawInt T)) = true then _ else _) Q E s
  rw [if_pos (by simp)]
  refine wpAny_bind (wpAny_rule ?_)
  show wpAny _ _ (setField (.ref z) 0 .none) Q E s
  exact wpAny_setField_rec hz (by simp) fun h' hz' hs' => hQ h' hz' hs'
theorem pyIter_zipS {z TI TO : Addr} {f0 : Value} {Q : Value → Shared → Prop} (hz : IsZipS s.heap z TI TO f0) (h : Q (.ref z) s) : wpAny (model prog w) A (pyIter (.ref z)) Q E s := by
  have hT : s.TypeIs (.ref z) "zip" := ⟨_, hz, rfl⟩
  refine wpAny_pyIter_slot hT F.slot_zip_iter (wpAny_call_entry F.slot_zip_iter hT F.entry_zip_iter ?_ (F.args_zip_iter_1 _))
  show wpAny _ _ (ret (.ref z)) _ _ s
  exact wpAny_pure ⟨_, rfl, "zip", _, hT, F.slot_zip_next.lookup, h⟩
end
theorem typeCall_zip_s (a b c : Value) : checkTypeCall "zip" ⟨[a, b], [(Str.ofString "strict", c)]⟩ = pure () := by kernel_rfl
theorem newCall_zip_s (a b c : Value) : checkBuiltinCall "zip.__new__" ⟨[.type "zip", a, b], [(Str.ofString "strict", c)]⟩ = pure () := by kernel_rfl
theorem args_init_s (obj a b c : Value) : argsOk "object.__init__" ⟨[obj, a, b], [(Str.ofString "strict", c)]⟩ := by
  unfold argsOk
  kernel_rfl
abbrev zsH1 (h : Heap) (l1 : Addr) : Heap := h.push { cls := .type "list_iterator", data := .fields #[.ref l1, .int 0 0] }
abbrev zsH2 (h : Heap) (l1 l2 : Addr) : Heap := (zsH1 h l1).push { cls := .type "tuple_iterator", data := .fields #[.ref l2, .int 0 0] }
abbrev zsH3 (h : Heap) (l1 l2 : Addr) : Heap := (zsH2 h l1 l2).push { cls := .type "tuple", data := .seq #[.ref h.objs.size, .ref (zsH1 h l1).objs.size] }
abbrev zsH4 (h : Heap) (l1 l2 : Addr) : Heap := (zsH3 h l1 l2).push { cls := .type "tuple", data := .seq #[.none, .none] }
abbrev zsH5 (h : Heap) (l1 l2 : Addr) : Heap := (zsH4 h l1 l2).push { cls := .type "zip", data := .fields #[.none, .bool false, .bool true, .ref (zsH2 h l1 l2).objs.size, .ref (zsH3 h l1 l2).objs.size] }
theorem meets_zipS_new (l1 l2 : Addr) (xs ys : Array Value) :
    Meets (Builtin.«zip.__new__» ⟨[.type "zip", .ref l1, .ref l2], [(Str.ofString "strict", .bool true)]⟩) (fun _ R s => s.heap.IsList l1 xs ∧ s.heap.IsTuple l2 ys ∧
      R (.ok (.ret (.ref (zsH4 s.heap l1 l2).objs.size))) { s with heap := zsH5 s.heap l1 l2 }) :=
  .of_wp fun prog w A R s h => by
    obtain ⟨hp, g, d, tk, os⟩ := s; obtain ⟨hl1, hl2, h⟩ := h
    have hsub := sub_zip
    have hL1 : Heap.IsList (Shared.heap ⟨hp, g, d, tk, os⟩) l1 xs := hl1
    have hL2 : Heap.IsTuple (Shared.heap ⟨hp.push { cls := .type "list_iterator", data := .fields #[.ref l1, .int 0 0] }, g, d, tk, os⟩) l2 ys := Heap.IsTuple.push hl2 _
    wp_walk using wpAny_pyIter_list hL1, wpAny_pyIter_tuple hL2
    exact ⟨_, rfl, h⟩
section
variable {prog : Program} {w : World} {A : Around} {E : Value → Shared → Prop} {s : Shared}
theorem call_zipS {l1 l2 : Addr} {xs ys : Array Value} {Q : Value → Shared → Prop} (hl1 : s.heap.IsList l1 xs) (hl2 : s.heap.IsTuple l2 ys)
    (h : ∀ h', IsZipS h' (s.heap.objs.size + 4) (s.heap.objs.size + 2) (s.heap.objs.size + 3) .none → IsPair h' (s.heap.objs.size + 2) (.ref s.heap.objs.size) (.ref (s.heap.objs.size + 1)) →
      IsPair h' (s.heap.objs.size + 3) .none .none → h'.IsListIter s.heap.objs.size l1 0 → h'.IsTupleIter (s.heap.objs.size + 1) l2 0 → h'.objs.size = s.heap.objs.size + 5 →
      (∀ c o, s.heap.get? c = some o → h'.get? c = some o) → Q (.ref (s.heap.objs.size + 4)) { s with heap := h' }) :
    wpAny (model prog w) A (call (.type "zip") [.ref l1, .ref l2] [(Str.ofString "strict", .bool true)]) Q E s := by
  refine callType_newKw F.called_zip (by decide) (typeCall_zip_s _ _ _) (newCall_zip_s _ _ _) (fun obj => args_init_s obj _ _ _) F.entry_zip_new
    (meets_zipS_new l1 l2 xs ys) ⟨hl1, hl2, ?_⟩
  have z1 : (zsH1 s.heap l1).objs.size = s.heap.objs.size + 1 := Heap.size_push ..
  have z2 : (zsH2 s.heap l1 l2).objs.size = s.heap.objs.size + 2 := by rw [Heap.size_push, z1]
  have z3 : (zsH3 s.heap l1 l2).objs.size = s.heap.objs.size + 3 := by rw [Heap.size_push, z2]
  have z4 : (zsH4 s.heap l1 l2).objs.size = s.heap.objs.size + 4 := by rw [Heap.size_push, z3]
  have z5 : (zsH5 s.heap l1 l2).objs.size = s.heap.objs.size + 5 := by rw [Heap.size_push, z4]
  have g5 : (zsH5 s.heap l1 l2).get? (zsH4 s.heap l1 l2).objs.size = some _ := Heap.get?_push_size _ rfl
  have g4 : (zsH5 s.heap l1 l2).get? (zsH3 s.heap l1 l2).objs.size = some _ := Heap.get?_push_of_some _ (Heap.get?_push_size _ rfl)
  have g3 : (zsH5 s.heap l1 l2).get? (zsH2 s.heap l1 l2).objs.size = some _ := Heap.get?_push_of_some _ (Heap.get?_push_of_some _ (Heap.get?_push_size _ rfl))
  have g2 : (zsH5 s.heap l1 l2).get? (zsH1 s.heap l1).objs.size = some _ := Heap.get?_push_of_some _ (Heap.get?_push_of_some _ (Heap.get?_push_of_some _ (Heap.get?_push_size _ rfl)))
  have g1 : (zsH5 s.heap l1 l2).get? s.heap.objs.size = some _ := Heap.get?_push_of_some _ (Heap.get?_push_of_some _ (Heap.get?_push_of_some _ (Heap.get?_push_of_some _ (Heap.get?_push_size _ rfl))))
  show _ ∧ _
  rw [z2, z3, z4] at g5
  rw [z1, z2] at g3
  rw [z3] at g4
  rw [z1] at g2
  rw [z4]
  exact ⟨⟨_, g5, rfl⟩, h _ g5 g3 g4 ⟨_, g1, rfl, rfl⟩ ⟨_, g2, rfl, rfl⟩ z5 fun c o x =>
    Heap.get?_push_of_some _ (Heap.get?_push_of_some _ (Heap.get?_push_of_some _ (Heap.get?_push_of_some _ (Heap.get?_push_of_some _ x))))⟩
end
/-- the list at a and the tuple at b as they stand at each turn, the items in new pairs -/
def ItzS (K : PySem.W.Frag) (a b : Addr) : It :=
  ⟨fun i H => ∃ (xs ys : List V) (x y : V), SqL K H a xs ∧ SqT K H b ys ∧ xs[i]? = some x ∧ ys[i]? = some y,
    fun i H v H' => ∃ T x y, v = .ref T ∧ H T = none ∧ H' = upd H T (.tup [x, y]) ∧ (∀ xs, SqL K H a xs → xs[i]? = some x) ∧ ∀ ys, SqT K H b ys → ys[i]? = some y,
    fun i H => ∃ xs ys : List V, SqL K H a xs ∧ SqT K H b ys ∧ xs.length ≤ i ∧ ys.length ≤ i⟩
theorem turn_zipS {P : Program} {w : World} {K : PySem.W.Frag} {elts : List Expr} {kk : Nat} {tpos : Pos} {a b z TI TO i1 i2 : Addr} (D : ZipApart z TI TO i1 i2 a b) :
    Turn P w K (.Tuple elts kk tpos) (ItzS K a b) [z, TI, TO, i1, i2] z (fun i h => IsZipS h z TI TO .none ∧ IsPair h TI (.ref i1) (.ref i2) ∧ (∃ x y, IsPair h TO x y) ∧ h.IsListIter i1 a i ∧ h.IsTupleIter i2 b i) where
  mem := by simp
  obj := fun i h st c hc => by
    obtain ⟨hz, hTI, ⟨x, y, hTO⟩, ⟨o1, e1, _, d1⟩, ⟨o2, e2, _, d2⟩⟩ := st
    have e' : c = z ∨ c = TI ∨ c = TO ∨ c = i1 ∨ c = i2 := by simpa using hc
    rcases e' with q | q | q | q | q
    · rw [q]; exact ⟨_, hz, fun v q => nomatch q⟩
    · rw [q]; exact ⟨_, hTI, fun v q => nomatch q⟩
    · rw [q]; exact ⟨_, hTO, fun v q => nomatch q⟩
    · rw [q]; exact ⟨o1, e1, fun v q => by rw [d1] at q; cases q⟩
    · rw [q]; exact ⟨o2, e2, fun v q => by rw [d2] at q; cases q⟩
  keep := fun i h h' st k => by
    obtain ⟨hz, hTI, ⟨x, y, hTO⟩, h1, h2⟩ := st
    exact ⟨k z (by simp) _ hz, k TI (by simp) _ hTI, ⟨x, y, k TO (by simp) _ hTO⟩, h1.at fun o q => k i1 (by simp) o q, h2.at fun o q => k i2 (by simp) o q⟩
  item := by
    intro X hP hw hK hc i pins s σ H E I hf st hg
    subst hP hw hK
    obtain ⟨hz, hTI, ⟨x0, y0, hTO⟩, h1, h2⟩ := st
    obtain ⟨xs, ys, x, y, hqx, hqy, hx, hy⟩ := hg
    obtain ⟨its, rv, p, _⟩ := I.list hqx
    obtain ⟨its2, rv2, p2, _⟩ := I.tuple hqy
    obtain ⟨u, hu, ru⟩ := rv.get hx
    obtain ⟨u2, hu2, ru2⟩ := rv2.get hy
    have hzl : z < s.heap.objs.size := Heap.lt_size hz
    refine pyNext_zipS_item D hz hTI hTO h1 h2 p.isList p2 (x := u) (y := u2) (by simpa using hu) (by simpa using hu2) fun h' z' TO' h1' h2' hT hsz hk => ?_
    refine ⟨_, rfl, letGo_zipS (s := { s with heap := h' }) z' fun h'' z'' sb => ?_⟩
    have hT2 : h''.get? s.heap.objs.size = some { cls := .type "tuple", data := .seq #[u, u2] } := (sb.2 _ (Nat.ne_of_gt hzl)).trans hT
    have new : ObjOk X.prog X.w (upd H s.heap.objs.size (.tup [x, y])) h'' s.heap.objs.size (.tup [x, y]) :=
      ⟨by show 2 ≤ sizeLine; decide, [u, u2], .cons ru (.cons ru2 .nil), ⟨_, hT2, rfl, _, rfl⟩⟩
    have I1 : L2.Inv X pins σ (upd H s.heap.objs.size (.tup [x, y])) { s with heap := h'' } :=
      I.turnedNew (t' := s.toks) (ch := [z, TI, TO, i1, i2]) (fun c o hb q => (sb.2 c (fun q' => hb (by simp [q']))).trans (hk c o (fun q' => hb (by simp [q'])) (fun q' => hb (by simp [q'])) (fun q' => hb (by simp [q'])) (fun q' => hb (by simp [q'])) q)) hf (Nat.le_refl _) new
    refine ⟨.ref s.heap.objs.size, _, I1, rfl, ⟨_, x, y, rfl, I.hok.fresh (Nat.le_refl _), rfl, fun l hl => by rw [I.list_inj hl hqx]; exact hx, fun l hl => by rw [I.tuple_inj hl hqy]; exact hy⟩, ⟨z'', ?_, ⟨u, u2, ?_⟩, ?_, ?_⟩, fun c hcm => ?_⟩
    · exact (sb.2 _ D.TIz).trans (hk _ _ D.TIz D.TITO D.TIi1 D.TIi2 hTI)
    · exact (sb.2 _ D.TOz).trans TO'
    · exact h1'.at fun o q => (sb.2 _ D.i1z).trans q
    · exact h2'.at fun o q => (sb.2 _ D.i2z).trans q
    · have hlt : c < s.heap.objs.size := by
        have e' : c = z ∨ c = TI ∨ c = TO ∨ c = i1 ∨ c = i2 := by simpa using hcm
        rcases e' with q | q | q | q | q
        · rw [q]; exact hzl
        · rw [q]; exact Heap.lt_size hTI
        · rw [q]; exact Heap.lt_size hTO
        · rw [q]; obtain ⟨_, e1, _⟩ := h1; exact Heap.lt_size e1
        · rw [q]; obtain ⟨_, e2, _⟩ := h2; exact Heap.lt_size e2
      rw [upd_ne (Nat.ne_of_lt hlt)]
      exact (hf c hcm).1
  done := by
    intro X hP hw hK hc i pins s σ H E I hf st hg
    subst hP hw hK
    obtain ⟨hz, hTI, ⟨x0, y0, hTO⟩, h1, h2⟩ := st
    obtain ⟨xs, ys, hqx, hqy, he1, he2⟩ := hg
    obtain ⟨its, rv, p, _⟩ := I.list hqx
    obtain ⟨its2, rv2, p2, _⟩ := I.tuple hqy
    have l1 := rv.length
    have l2 := rv2.length
    exact pyNext_zipS_end (I.ok.hd hc) D hz hTI hTO h1 h2 p.isList p2 (by simp; omega) (by simp; omega) fun h' hk => ⟨rfl, I.turnedL (t' := s.toks) (ch := [z, TI, TO, i1, i2]) (fun c o hb q =>
      hk c o (fun q' => hb (by simp [q'])) (fun q' => hb (by simp [q'])) (fun q' => hb (by simp [q'])) (fun q' => hb (by simp [q'])) q) hf⟩
  self := fun A i s Q E st h => pyIter_zipS st.1 h
theorem callWith_type_kw {M : Model} {A : Around} {E : Value → Shared → Prop} {s : Shared} {env : Env} {pos : Pos} {T : String} {e : Expr} {rest : List Expr} {kws : List Keyword} {Q : Value → Shared → Prop}
    (h : wpAny M A (spliced (backTo pos (starEach (e :: rest) env))) (fun vs s₁ => wpAny M A (evalAll ((backToKw pos (keywordEach kws env)).map (·.2)))
      (fun kvs s₂ => wpAny M A (call (.type T) vs (((backToKw pos (keywordEach kws env)).filterMap (·.1)).zip kvs)) Q E s₂) E s₁) E s)
    (he : backTo pos (starEach (e :: rest) env) = (false, eval e env) :: backTo pos (starEach rest env) := by rfl)
    (hplain : (backTo pos (starEach (e :: rest) env)).any (·.1) = false := by rfl)
    (hall : (backToKw pos (keywordEach kws env)).all (·.1.isSome) = true := by rfl)
    (hkw : (backToKw pos (keywordEach kws env)).any (·.1.isNone) = false := by rfl) :
    wpAny M A (callWith pos (.type T) [] (backTo pos (starEach (e :: rest) env)) (backToKw pos (keywordEach kws env))) Q E s := by
  rw [he] at h ⊢
  rw [he] at hplain
  unfold callWith
  refine wpAny_bind (wpAny_holding (wpAny_mono (evalArgs_kwB (Q := fun a s₁ => wpAny M A (call (.type T) ([] ++ a.pos) a.kw) Q E s₁) hall h) (fun a s₁ h₁ => wpAny_bind (wpAny_standAt ?_)) fun _ _ x => x))
  simp only [hplain, hkw, Bool.or_false]
  refine wpAny_bind (wpAny_pure ?_)
  exact wpAny_bind (wpAny_mono h₁ (fun r s₂ hr => wpAny_bind (wpAny_holding (wpAny_point (wpAny_pure hr)))) fun _ _ x => x)
def iZipS (K : PySem.W.Frag) (ta : TA) : TI := fun σ H R => ta σ H fun vs H1 => ∃ a b xs ys, vs = [.ref a, .ref b] ∧ SqL K H1 a xs ∧ SqT K H1 b ys ∧ R (ItzS K a b) H1
theorem pi_zipS {X : Cx} {e e2 ke : Expr} {ta : TA} {p pos tpos kp : Pos} {elts : List Expr} {kk : Nat} (hg : Gl X "zip") (hm : X.mg "zip" = none) (ha : PA X [e, e2] ta) (hk : PK X [⟨some (Str.ofString "strict"), ke, kp⟩] (tCons (tC (.bl true)) tNil))
    (hs : backTo pos (starEach [e, e2] X.env) = (false, eval e X.env) :: backTo pos (starEach [e2] X.env) := by rfl) (hpl : (backTo pos (starEach [e, e2] X.env)).any (·.1) = false := by rfl)
    (hall : (backToKw pos (keywordEach [⟨some (Str.ofString "strict"), ke, kp⟩] X.env)).all (·.1.isSome) = true := by rfl) (hnone : (backToKw pos (keywordEach [⟨some (Str.ofString "strict"), ke, kp⟩] X.env)).any (·.1.isNone) = false := by rfl)
    (hks : (backToKw pos (keywordEach [⟨some (Str.ofString "strict"), ke, kp⟩] X.env)).filterMap (·.1) = [Str.ofString "strict"] := by rfl) :
    PI X (.Tuple elts kk tpos) (.Call (.Name "zip" p) [e, e2] [⟨some (Str.ofString "strict"), ke, kp⟩] pos) (iZipS X.K ta) := by
  refine ⟨fun pins s σ H R I h => ?_⟩
  refine wpAny_Call_Name_kw (ld_blt I hg hm PyProof.Rows.boot_zip (callWith_type_kw (thn (ha.run pos pins s σ H _ I h) fun us s1 ⟨vs, H1, I1, r1, q1⟩ => ?_) hs hpl hall hnone))
  refine thn (hk.run pos pins s1 σ H1 (fun zs H2 => zs = [.bl true] ∧ H2 = H1) I1 ⟨rfl, rfl⟩) fun ws s2 ⟨zs, H2, I2, r2, ez, eH⟩ => ?_
  subst ez eH
  rw [hks]
  obtain ⟨a, b, xs, ys, ex, q1⟩ := q1
  subst ex
  obtain ⟨w0, ew, rw0⟩ := vals1 r2
  subst ew
  cases rw0
  cases r1 with
  | cons r rr =>
    cases rr with
    | cons r' rr =>
      cases rr
      cases r
      cases r'
      obtain ⟨hqx, hqy, q⟩ := q1
      have fresh5 : ∀ c, c ∈ [s2.heap.objs.size + 4, s2.heap.objs.size + 2, s2.heap.objs.size + 3, s2.heap.objs.size, s2.heap.objs.size + 1] → FpOk X pins H2 c := fun c hcm => by
        have e' : c = s2.heap.objs.size + 4 ∨ c = s2.heap.objs.size + 2 ∨ c = s2.heap.objs.size + 3 ∨ c = s2.heap.objs.size ∨ c = s2.heap.objs.size + 1 := by simpa using hcm
        have hle : s2.heap.objs.size ≤ c := by
          rcases e' with z | z | z | z | z
          · rw [z]; exact Nat.le_add_right _ _
          · rw [z]; exact Nat.le_add_right _ _
          · rw [z]; exact Nat.le_add_right _ _
          · rw [z]; exact Nat.le_refl _
          · rw [z]; exact Nat.le_add_right _ _
        exact I2.fpOk hle (I2.hok.fresh hle)
      obtain ⟨its, rv, p1, _⟩ := I2.list hqx
      obtain ⟨its2, rv2, p2, _⟩ := I2.tuple hqy
      obtain ⟨o2, ho2, _⟩ := id p2
      refine call_zipS p1.isList (show s2.heap.IsTuple b its2.toArray from p2) fun h' hz hTI hTO h1 h2 hsz hk2 => pyIter_zipS hz ?_
      have I3 : L2.Inv X pins σ H2 { s2 with heap := h' } := I2.kept (t' := s2.toks) hk2
      exact ⟨s2.heap.objs.size + 4, [s2.heap.objs.size + 4, s2.heap.objs.size + 2, s2.heap.objs.size + 3, s2.heap.objs.size, s2.heap.objs.size + 1], _, _, H2, rfl, I3, turn_zipS (PySem.W.ktu_apart s2.heap.objs.size a b p1.lt (Heap.lt_size ho2)), ⟨hz, hTI, ⟨_, _, hTO⟩, h1, h2⟩, fresh5, q⟩
end Bp

/-! text: D23 -/
set_option Elab.async false
set_option linter.all false
set_option maxRecDepth 100000
set_option maxHeartbeats 4000000
/-! a row without calls, expanded -/
namespace Bp
open PySem PySem.Spec PyProof.Rows L2
section
variable {P : Program} {w : World} {K : PySem.W.Frag} {mg : Str → Option Value} {base : Heap}
def spPlain (K : PySem.W.Frag) : Sp := fun vs H Q _ => ∃ (l bk : Addr) (dv cv : V) (ps : List Addr), vs = [.ref l, .ref bk, dv, cv] ∧ BookAt K H bk ∧ H l = some (.lst (ps.map V.ref)) ∧ ps.length ≤ 400 ∧ (∀ (i : Nat) (a : Addr), ps[i]? = some a → ∃ t c, PcD K H a t c ∧ noMac t) ∧
  ∀ p r st H', H p = none → H r = none → p ≠ r → p ≠ st → r ≠ st → Same H H' → H' p = some (.tup [.ref r, .ref st]) → H' r = some (.lst (ps.map V.ref)) → Q (.ref p) H'
theorem sc_expand_row : FnScope ["pieces", "book", "deep", "calls", "row", "steps", "at", "call", "many", "raw", "caller", "macro", "full", "parts"] ["pieces", "book", "deep", "calls"] (defScope s_expand_row) := ⟨rfl, rfl, rfl, by decide +kernel, rfl, by decide +kernel, by decide +kernel⟩
theorem ok_plain (T : Top w K mg) : GOk P w K mg base CX0 3 "expand_row" ["pieces", "book", "deep", "calls"] (spPlain K) := by
  obtain ⟨fd, F⟩ := T.f_expand_row
  refine ⟨_, fd, T.g_expand_row, F.kp, F.bindsN fun _ _ _ _ _ _ us hl => match us, hl with | [_, _, _, _], _ => rfl, ok0 F sc_expand_row (fun vs H Q E h => ?_) (fun cdv A outer s H vs Q E hr h => ?_)⟩
  · obtain ⟨l, bk, dv, cv, ps, rfl, _⟩ := h
    rfl
  · obtain ⟨l, bk, dv, cv, ps, rfl, hb, h1, h2, h3, q⟩ := h
    have g_call_at := ok_call_at (P := P) (base := base) T
    obtain ⟨t_MC, h_MOST_CALLS⟩ := T.i_MOST_CALLS
    refine ⟨_, (pss_cons (ps_set (i := 4) sc_expand_row.nd rfl (Or.inl rfl) (pe_callTy call_list_of (by rfl) T.b_list (by decide +kernel) (pa_cons (pv 0) pa_nil)))
      (pss_cons (ps_set (i := 5) sc_expand_row.nd rfl (Or.inl rfl) (pe_lst pa_nil))
      (pss_cons (ps_set (i := 6) sc_expand_row.nd rfl (Or.inl rfl) pe_int)
      (pss_cons (ps_while PassesOwn.never (pt_cmpR op_lt (pv 6) (pe_callB call_len_seq (by rfl) T.b_len PySem.boot_len (pa_cons (pv 4) pa_nil)) (nomark _))
        (pss_cons (ps_set (i := 7) sc_expand_row.nd rfl (Or.inl rfl) (pe_g g_call_at hr (by decide) pass0 (pa_cons (pv 4) (pa_cons (pv 6) (pa_cons (pv 1) pa_nil)))))
      (pss_one (ps_if (pt_cmpR op_isN (pv 7) pe_non (nomark _))
        (pss_one (ps_aug (i := 6) sc_expand_row.nd rfl (Or.inl rfl) pe_int ip_add))
        (pss_cons ps_never
      (pss_cons ps_never
      (pss_cons ps_never
      (pss_cons ps_never
      (pss_cons (ps_if (pt_cmpR op_eq (pe_ix ix_list (pv 3) pe_int (fun _ _ => rfl)) (pe_glob (v := .int 300) rfl h_MOST_CALLS ⟨_, rfl⟩) (nomark _))
        (pss_one ps_never)
        pss_nil)
      (pss_cons ps_never
      (pss_cons ps_never
      (pss_cons ps_never
      (pss_one ps_never)))))))))))))
      (pss_one (ps_ret (pe_tup (pa_cons (pv 4) (pa_cons (pv 5) pa_nil))))))))), ?_⟩
    refine ⟨_, rfl, l, _, rfl, .inl (SqL.of h1), fun r hr0 => ?_⟩
    refine ⟨Nat.zero_le _, fun st hst => ?_⟩
    have s1 := (same_upd hr0 (.lst (ps.map V.ref))).trans (same_upd hst (.lst []))
    have hrr : (upd (upd H r (.lst (ps.map V.ref))) st (.lst [])) r = some (.lst (ps.map V.ref)) := same_upd hst _ _ _ upd_same
    have hrs : r ≠ st := ne_of_none (upd_same (H := H) (a := r) (o := .lst (ps.map V.ref))) hst
    have hss : (upd (upd H r (.lst (ps.map V.ref))) st (.lst [])) st = some (.lst []) := upd_same
    generalize upd (upd H r (.lst (ps.map V.ref))) st (.lst []) = H1 at s1 hrr hss ⊢
    refine ⟨fun m σ H' => ∃ (k : Nat) (o1 o2 o3 o4 o5 o6 o7 : Option V), H' = H1 ∧ k ≤ ps.length ∧ m = ps.length - k ∧ σ = [some (.ref l), some (.ref bk), some dv, some cv, some (.ref r), some (.ref st), some (.int (k : Int)), o1, o2, o3, o4, o5, o6, o7], ⟨_, 0, _, _, _, _, _, _, _, rfl, Nat.zero_le _, rfl, rfl⟩, ?_⟩
    rintro m σ H' ⟨k, o1, o2, o3, o4, o5, o6, o7, rfl, hk, rfl, rfl⟩
    refine ⟨_, rfl, _, rfl, r, _, rfl, .inl (SqL.of hrr), _, _, rfl, rfl, _, rfl, ?_⟩
    rw [List.length_map]
    by_cases c : (k : Int) < ((ps.length : Nat) : Int)
    · rw [decide_eq_true c]
      refine iteT ⟨fun σ' H'' => ∃ m', m' < ps.length - k ∧ ∃ (k : Nat) (o1 o2 o3 o4 o5 o6 o7 : Option V), H'' = H' ∧ k ≤ ps.length ∧ m' = ps.length - k ∧ σ' = [some (.ref l), some (.ref bk), some dv, some cv, some (.ref r), some (.ref st), some (.int (k : Int)), o1, o2, o3, o4, o5, o6, o7], fun _ _ h => h, ?_⟩
      have hkl : k < ps.length := by omega
      have e : ps[k]? = some ps[k] := List.getElem?_eq_getElem hkl
      obtain ⟨t, c2, hpd, hno⟩ := h3 k _ e
      refine ⟨_, rfl, _, rfl, _, rfl, r, bk, ps, k, ps[k], rfl, Same.book s1 hb, hrr, by omega, e, .inl ⟨t, c2, Same.pd s1 hpd, hno, ?_⟩⟩
      refine ⟨_, rfl, rfl, _, rfl, iteT ⟨_, rfl, _, _, rfl, rfl, ?_⟩⟩
      exact ⟨ps.length - (k + 1), by omega, k + 1, _, _, _, _, _, _, _, rfl, by omega, rfl, rfl⟩
    · rw [decide_eq_false c]
      refine iteF ⟨_, rfl, _, rfl, (by show 2 ≤ sizeLine; decide), fun p hp => ?_⟩
      refine q p r st _ (Dom.same s1 _ hp) hr0 ?_ ?_ hrs (s1.trans (same_upd hp _)) upd_same (same_upd hp _ _ _ hrr)
      · exact (ne_of_none hrr hp).symm
      · exact (ne_of_none hss hp).symm
end
end Bp

/-! text: D24 -/
set_option Elab.async false
set_option linter.all false
set_option maxRecDepth 100000
set_option maxHeartbeats 4000000
/-! book.macro(..), expand_arguments -/
namespace Bp
open PySem PySem.Spec PyProof.Rows L2
section
variable {P : Program} {w : World} {K : PySem.W.Frag} {mg : Str → Option Value} {base : Heap}
theorem walk_zipS {a b : Addr} {xs ys : List V} (hl : xs.length = ys.length) : Walk (ItzS K a b) xs.length (fun H => SqL K H a xs ∧ SqT K H b ys) (YPair (fun i => xs[i]?) (fun i => ys[i]?)) :=
  ⟨fun i _ hi q => ⟨xs, ys, xs[i], ys[i]'(by omega), q.1, q.2, by simp [hi], by simp [show i < ys.length by omega]⟩, fun _ q => ⟨xs, ys, q.1, q.2, Nat.le_refl _, by omega⟩,
    fun _ _ _ _ _ q ⟨T, x, y, e1, e2, e3, e4, e5⟩ => ⟨T, x, y, e1, e2, e3, e4 xs q.1, e5 ys q.2⟩⟩
def spBkMacro (K : PySem.W.Frag) : Sp := fun vs H Q _ => ∃ (bk : Addr) (t : Str) (pp : Option Str) (bt : Str), vs = [.ref bk, .str t] ∧ BookAt K H bk ∧ macOf t = some (pp, bt) ∧ ∀ m, MacAt K H m t pp bt → Q (.ref m) H
theorem sc_Book_macro : FnScope ["self", "name", "why"] ["self", "name"] (defScope s_Book_macro) := ⟨rfl, rfl, rfl, by decide +kernel, rfl, by decide +kernel, by decide +kernel⟩
theorem ok_bk_macro (T : Top w K mg) : MOk P w K mg base CX0 1 "Book" "macro" ["self", "name"] (spBkMacro K) := by
  obtain ⟨fd, F⟩ := T.f_Book_macro
  refine ⟨_, fd, T.c_Book, T.m_Book_macro, F.bindsN fun _ _ _ _ _ _ us hl => match us, hl with | [_, _], _ => rfl, ok0 F sc_Book_macro (fun vs H Q E h => ?_) (fun cdv A outer s H vs Q E hr h => ?_)⟩
  · obtain ⟨bk, t, pp, bt, rfl, _⟩ := h
    rfl
  · obtain ⟨bk, t, pp, bt, rfl, hb, hm, q⟩ := h
    obtain ⟨dx, kd, kvs, h1, h2, h3⟩ := book_get hb t
    rw [hm] at h3
    obtain ⟨m, e1, e2⟩ := h3
    refine ⟨_, (pss_one (ps_try_thru0 (pss_one (ps_ret (pe_dget (hu_of hr) (pe_fld (pv 0) rfl) (pv 1) (fun _ _ => rfl)))))), ?_⟩
    refine ⟨_, rfl, bk, _, dx, _, _, rfl, h1, T.c_Book, T.n_Book_kept, rfl, _, rfl, kd, _, rfl, ?_, q m e2⟩
    have z := DGet.k (k := Sum.inr t) h2
    rw [e1] at z
    exact z
def spExpArgs (K : PySem.W.Frag) : Sp := fun vs H Q _ => ∃ (m rl bk : Addr) (ca cv : V) (nm bt : Str) (pp : Option Str), vs = [.ref m, ca, .ref rl, .ref bk, .int 0, cv] ∧ BookAt K H bk ∧ MacAt K H m nm pp bt ∧ bt ≠ "~" ∧ bt ≠ "$" ∧
  ((pp = none ∧ H rl = some (.lst []) ∧ ∀ p fl pl H', Same H H' → H' p = some (.tup [.ref fl, .ref pl]) → H' fl = some (.lst []) → Q (.ref p) H') ∨
   (pp = some bt ∧ ∃ (al a : Addr) (t : Str) (c : Int), H rl = some (.lst [.ref al]) ∧ H al = some (.lst [.ref a]) ∧ PcD K H a t c ∧ noMac t ∧
    ∀ p fl pl ar H', Same H H' → H' p = some (.tup [.ref fl, .ref pl]) → H' fl = some (.lst [.ref ar]) → H' ar = some (.lst [.ref a]) → Q (.ref p) H'))
theorem sc_expand_arguments : FnScope ["macro", "caller", "raw", "book", "deep", "calls", "wanted", "full", "parts", "argument", "is_wanted", "pieces", "steps"] ["macro", "caller", "raw", "book", "deep", "calls"] (defScope s_expand_arguments) := ⟨rfl, rfl, rfl, by decide +kernel, rfl, by decide +kernel, by decide +kernel⟩
theorem ok_exp_args (T : Top w K mg) : GOk P w K mg base CX0 4 "expand_arguments" ["macro", "caller", "raw", "book", "deep", "calls"] (spExpArgs K) := by
  obtain ⟨fd, F⟩ := T.f_expand_arguments
  refine ⟨_, fd, T.g_expand_arguments, F.kp, F.bindsN fun _ _ _ _ _ _ us hl => match us, hl with | [_, _, _, _, _, _], _ => rfl, ok0 F sc_expand_arguments (fun vs H Q E h => ?_) (fun cdv A outer s H vs Q E hr h => ?_)⟩
  · obtain ⟨m, rl, bk, ca, cv, nm, bt, pp, rfl, _⟩ := h
    rfl
  · obtain ⟨m, rl, bk, ca, cv, nm, bt, pp, rfl, hb, hm, n1, n2, h⟩ := h
    have m_Macro_wanted := ok_wanted (P := P) (base := base) T
    have g_expand_row := ok_plain (P := P) (base := base) T
    obtain ⟨t_MD, h_MOST_DEEP⟩ := T.i_MOST_DEEP
    obtain ⟨dxm, b, pc, prv, bc, k1, k2, k3, k4⟩ := id hm
    refine ⟨_, (pss_cons (ps_set (i := 6) sc_expand_arguments.nd rfl (Or.inl rfl) (pe_m0 m_Macro_wanted hr (by decide) pass0 (pv 0)))
      (pss_cons (ps_if (PW.pt (pw_and (pt_cmpR op_in_seq pe_bl (pv 6) (by rfl)) (pw_and1 (pt_cmpR op_eq (pv 4) (pe_glob (v := .int 20) rfl h_MOST_DEEP ⟨_, rfl⟩) (nomark _)))))
        (pss_one ps_never)
        pss_nil)
      (pss_cons (ps_set (i := 7) sc_expand_arguments.nd rfl (Or.inl rfl) (pe_lst pa_nil))
      (pss_cons (ps_set (i := 8) sc_expand_arguments.nd rfl (Or.inl rfl) (pe_lst pa_nil))
      (pss_cons (ps_for PassesOwn.never rfl (pi_zipS (by rfl) T.b_zip (pa_cons (pv 2) (pa_cons (pv 6) pa_nil)) (pk_cons pe_bl pk_nil)) (pg_tup rfl (pgs_cons (pg_name (i := 9) sc_expand_arguments.nd rfl (Or.inl rfl)) (pgs_cons (pg_name (i := 10) sc_expand_arguments.nd rfl (Or.inl rfl)) pgs_nil)))
        (pss_cons (ps_asg2 pe_non (pg_name (i := 11) sc_expand_arguments.nd rfl (Or.inl rfl)) (pg_name (i := 12) sc_expand_arguments.nd rfl (Or.inl rfl)))
      (pss_cons (ps_if (pt_val (pv 10))
        (pss_one (ps_asg (pe_g g_expand_row hr (Nat.le_refl _) pass0 (pa_cons (pv 9) (pa_cons (pv 3) (pa_cons (pe_op op_add (pv 4) pe_int) (pa_cons (pv 5) pa_nil))))) (pg_tup rfl (pgs_cons (pg_name (i := 11) sc_expand_arguments.nd rfl (Or.inl rfl)) (pgs_cons (pg_name (i := 12) sc_expand_arguments.nd rfl (Or.inl rfl)) pgs_nil)))))
        pss_nil)
      (pss_cons (ps_expr (pe_bm PySem.F.plainAttrs_list PySem.F.slot_list_append PySem.F.type_list_append mt_append (pv 7) (pa_cons (pv 11) pa_nil)))
      (pss_one (ps_expr (pe_bm PySem.F.plainAttrs_list PySem.F.slot_list_append PySem.F.type_list_append mt_append (pv 8) (pa_cons (pv 12) pa_nil))))))))
      (pss_one (ps_ret (pe_tup (pa_cons (pv 7) (pa_cons (pv 8) pa_nil)))))))))), ?_⟩
    rcases h with ⟨rfl, h2, q⟩ | ⟨rfl, al, a, t, c, h2, h3, h4, h5, q⟩
    · refine ⟨_, rfl, m, dxm, _, rfl, k1, mFs_no _ _ _ (by decide +kernel) (by decide +kernel) (by decide +kernel), m, nm, bt, none, rfl, hm, n1, n2, .inl ⟨rfl, fun p H1 hp s1 hp1 => ?_⟩⟩
      refine ⟨_, rfl, p, [], rfl, .inr (SqT.of hp1), rfl, rfl, _, rfl, iteF ?_⟩
      refine ⟨Nat.zero_le _, fun fl hfl => ⟨Nat.zero_le _, fun pl hpl => ?_⟩⟩
      have s2 := (same_upd hfl (.lst [])).trans (same_upd hpl (.lst []))
      have hff : (upd (upd H1 fl (.lst [])) pl (.lst [])) fl = some (.lst []) := same_upd hpl _ _ _ upd_same
      generalize upd (upd H1 fl (.lst [])) pl (.lst []) = H2 at s2 hff ⊢
      have s02 := s1.trans s2
      refine ⟨_, rfl, _, rfl, rl, p, [], [], rfl, SqL.of (s02 _ _ h2), SqT.of (s2 _ _ hp1), for_it (walk_zipS (K := K) (a := rl) (b := p) (xs := []) (ys := []) rfl) (fun i σ H' => H' = H2 ∧ ∃ o1 o2 o3 o4, σ = [some (.ref m), some ca, some (.ref rl), some (.ref bk), some (.int 0), some cv, some (.ref p), some (.ref fl), some (.ref pl), o1, o2, o3, o4]) ⟨rfl, _, _, _, _, rfl⟩ (fun i σ H' _ z => by rw [z.1]; exact ⟨SqL.of (s02 _ _ h2), SqT.of (s2 _ _ hp1)⟩) (fun i x σ H' H'' hi => absurd hi (Nat.not_lt_zero i)) ?_⟩
      rintro σ H' ⟨rfl, o1, o2, o3, o4, rfl⟩
      refine ⟨_, rfl, _, rfl, (by show 2 ≤ sizeLine; decide), fun p5 hp5 => q p5 fl pl _ (s02.trans (same_upd hp5 _)) upd_same (same_upd hp5 _ _ _ hff)⟩
    · refine ⟨_, rfl, m, dxm, _, rfl, k1, mFs_no _ _ _ (by decide +kernel) (by decide +kernel) (by decide +kernel), m, nm, bt, some bt, rfl, hm, n1, n2, .inr ⟨rfl, fun p H1 hp s1 hp1 => ?_⟩⟩
      refine ⟨_, rfl, p, [.bl true], rfl, .inr (SqT.of hp1), rfl, rfl, _, rfl, iteT ?_⟩
      refine ⟨_, rfl, rfl, _, rfl, ?_⟩
      rw [decide_eq_false (show ¬ (V.int 0 = V.int 20) from fun z => by have := V.int.inj z; omega)]
      refine iteF ?_
      refine ⟨Nat.zero_le _, fun fl hfl => ⟨Nat.zero_le _, fun pl hpl => ?_⟩⟩
      have s2 := (same_upd hfl (.lst [])).trans (same_upd hpl (.lst []))
      have hff : (upd (upd H1 fl (.lst [])) pl (.lst [])) fl = some (.lst []) := same_upd hpl _ _ _ upd_same
      have hpp : (upd (upd H1 fl (.lst [])) pl (.lst [])) pl = some (.lst []) := upd_same
      have hfp : fl ≠ pl := ne_of_none (upd_same (H := H1) (a := fl) (o := .lst [])) hpl
      have hfn : H fl = none := Dom.same s1 _ hfl
      have hpln : H1 pl = none := Dom.same (same_upd hfl (.lst [])) _ hpl
      generalize upd (upd H1 fl (.lst [])) pl (.lst []) = H2 at s2 hff hpp ⊢
      have s02 := s1.trans s2
      have hp2 := s2 _ _ hp1
      refine ⟨_, rfl, _, rfl, rl, p, [.ref al], [.bl true], rfl, SqL.of (s02 _ _ h2), SqT.of hp2, for_it (walk_zipS (K := K) (a := rl) (b := p) (xs := [.ref al]) (ys := [.bl true]) rfl) (fun i σ H' => Same H H' ∧ H' p = some (.tup [.bl true]) ∧ ((i = 0 ∧ H' = H2) ∨ (i = 1 ∧ ∃ ar, H' fl = some (.lst [.ref ar]) ∧ H' ar = some (.lst [.ref a]))) ∧ ∃ o1 o2 o3 o4, σ = [some (.ref m), some ca, some (.ref rl), some (.ref bk), some (.int 0), some cv, some (.ref p), some (.ref fl), some (.ref pl), o1, o2, o3, o4]) ⟨s02, hp2, .inl ⟨rfl, rfl⟩, _, _, _, _, rfl⟩ (fun i σ H' _ z => ⟨SqL.of (z.1 _ _ h2), SqT.of z.2.1⟩) ?_ ?_⟩
      · rintro i x σ H' H'' hi ⟨s9, hp9, h7, o1, o2, o3, o4, rfl⟩ ⟨T0, v1, v2, rfl, eT, rfl, ex, ey⟩
        have hi0 : i = 0 := by
          have z : ([.ref al] : List V).length = 1 := rfl
          omega
        subst hi0
        have e1 : v1 = .ref al := by simpa using ex.symm
        have e2 : v2 = .bl true := by simpa using ey.symm
        subst e1 e2
        rcases h7 with ⟨_, rfl⟩ | ⟨z, _⟩
        rotate_left
        · cases z
        have s3 := same_upd eT (.tup [.ref al, .bl true])
        have hTT : (upd H' T0 (.tup [.ref al, .bl true])) T0 = some (.tup [.ref al, .bl true]) := upd_same
        generalize upd H' T0 (.tup [.ref al, .bl true]) = H3 at s3 hTT ⊢
        have s03 := s9.trans s3
        refine ⟨T0, _, rfl, SqT.of hTT, rfl, _, _, rfl, _, _, rfl, rfl, ?_⟩
        refine ⟨_, rfl, _, rfl, iteT ?_⟩
        refine ⟨_, rfl, _, rfl, _, rfl, _, _, rfl, rfl, _, rfl, al, bk, _, _, [a], rfl, Same.book s03 hb, s03 _ _ h3, (by show 1 ≤ 400; decide), ?_, fun p7 r7 st7 H4 z1 z2 z3 z4 z5 s4 hp7 hr7 => ?_⟩
        · intro i a' e
          have hi1 := (List.getElem?_eq_some_iff.mp e).1
          have z : ([a] : List Addr).length = 1 := rfl
          have hi0 : i = 0 := by omega
          subst hi0
          have ea : a' = a := by simpa using e.symm
          subst ea
          exact ⟨t, c, Same.pd s03 h4, h5⟩
        have s04 := s03.trans s4
        have s24 := s3.trans s4
        refine ⟨p7, _, rfl, SqT.of hp7, rfl, _, _, rfl, _, _, rfl, rfl, ?_⟩
        refine ⟨_, rfl, .inl ⟨rfl, _, SqL.of (s24 _ _ hff)⟩, _, rfl, fl, _, _, rfl, rfl, s24 _ _ hff, (by decide), ?_⟩
        have hpl4 : (upd H4 fl (.lst ([] ++ [.ref r7]))) pl = some (.lst []) := by
          rw [upd_ne hfp.symm]
          exact s24 _ _ hpp
        refine ⟨_, rfl, .inl ⟨rfl, _, SqL.of hpl4⟩, _, rfl, pl, _, _, rfl, rfl, hpl4, (by decide), ?_⟩
        have hpln0 : H pl = none := Dom.same s1 _ hpln
        have hr7f : r7 ≠ fl := (ne_of_none (s3 _ _ hff) z2).symm
        have hr7p : r7 ≠ pl := (ne_of_none (s3 _ _ hpp) z2).symm
        refine ⟨fun b o y => ?_, ?_, .inr ⟨rfl, r7, ?_, ?_⟩, _, _, _, _, rfl⟩
        · rw [upd_ne (ne_of_none y hpln0), upd_ne (ne_of_none y hfn)]
          exact s04 _ _ y
        · rw [upd_ne (ne_of_none hp1 hpln), upd_ne (ne_of_none hp1 hfl)]
          exact s24 _ _ hp9
        · rw [upd_ne hfp, upd_same]
          rfl
        · rw [upd_ne hr7p, upd_ne hr7f]
          exact hr7
      · rintro σ H' ⟨s9, _, ⟨z, _⟩ | ⟨_, ar, y1, y2⟩, o1, o2, o3, o4, rfl⟩
        · cases z
        refine ⟨_, rfl, _, rfl, (by show 2 ≤ sizeLine; decide), fun p5 hp5 => q p5 fl pl ar _ (s9.trans (same_upd hp5 _)) upd_same (same_upd hp5 _ _ _ y1) (same_upd hp5 _ _ _ y2)⟩
end
end Bp

/-! text: D25 -/
set_option Elab.async false
set_option linter.all false
set_option maxRecDepth 100000
set_option maxHeartbeats 4000000
/-! expand_row -/
namespace Bp
open PySem PySem.Spec PyProof.Rows L2 NdefX LamX
/-- what comes of the rest of a row: texts, columns where they stay; n the turns, mc the macros, tl the texts' length -/
inductive Rst (K : PySem.W.Frag) (H : Hp) : List Addr → List (Str × Option Int) → Nat → Nat → Nat → Prop
  | nil : Rst K H [] [] 0 0 0
  | keep {a : Addr} {r : List Addr} {t : Str} {c : Int} {oc : Option Int} {out : List (Str × Option Int)} {n mc tl : Nat} : PcD K H a t c → noMac t → (∀ c', oc = some c' → c' = c) → Rst K H r out n mc tl → Rst K H (a :: r) ((t, oc) :: out) (n + 1) mc (t.length + tl)
  | pm {a : Addr} {r : List Addr} {t bt : Str} {c : Int} {out : List (Str × Option Int)} {n mc tl : Nat} : PcAt K H a t c [] → pMac t → macOf t = some (none, bt) → Rst K H r out n mc tl → Rst K H (a :: r) ((bt, none) :: out) (n + 2) (mc + 1) (t.length + tl)
  | q {a a1 a2 a3 : Addr} {r : List Addr} {t : Str} {c c1 c2 c3 : Int} {out : List (Str × Option Int)} {n mc tl : Nat} : PcAt K H a "q" c [] → PcD K H a1 "(" c1 → PcAt K H a2 t c2 [] → PcD K H a3 ")" c3 → noMac t → t ≠ "," → t ≠ "(" → t ≠ ")" → Rst K H r out n mc tl →
      Rst K H (a :: a1 :: a2 :: a3 :: r) ((t, none) :: out) (n + 2) (mc + 1) (t.length + 3 + tl)
/-- all but lists and tables stays -/
def Kp (H H' : Hp) : Prop := ∀ b o, H b = some o → (∀ xs, o ≠ .lst xs) → (∀ ps, o ≠ .tbl ps) → H' b = some o
theorem Kp.refl {H : Hp} : Kp H H := fun _ _ h _ _ => h
theorem Kp.trans {H H' H'' : Hp} (a : Kp H H') (b : Kp H' H'') : Kp H H'' := fun c o h n m => b c o (a c o h n m) n m
theorem Kp.of_same {H H' : Hp} (e : Same H H') : Kp H H' := fun b o h _ _ => e b o h
theorem Kp.of_exn {H H' : Hp} (e : ExtN H H') : Kp H H' := fun b o h _ m => e b o h m
theorem Kp.lst {H : Hp} {p : Addr} {xs ys : List V} (hp : H p = some (.lst xs)) : Kp H (upd H p (.lst ys)) := fun b o h n _ => by
  have hb : b ≠ p := fun z => by
    rw [z, hp] at h
    exact n _ (Option.some.inj h).symm
  rw [upd_ne hb]
  exact h
theorem kp_sqt {K : PySem.W.Frag} {H H' : Hp} {a : Addr} {xs : List V} (e : Kp H H') (h : SqT K H a xs) : SqT K H' a xs := by
  rcases h with (h | ⟨o, h⟩) | h
  · exact .inl (.inl (e _ _ h (fun _ z => nomatch z) (fun _ z => nomatch z)))
  · exact .inl (.inr ⟨o, e _ _ h (fun _ z => nomatch z) (fun _ z => nomatch z)⟩)
  · exact .inr h
theorem kp_sg {K : PySem.W.Frag} {H H' : Hp} {v : V} {c : Int} (e : Kp H H') (h : SgAt K H v c) : SgAt K H' v c := by
  obtain ⟨a, w, pg, rw, ws, h1, h2, h3, h4⟩ := h
  exact ⟨a, w, pg, rw, ws, h1, kp_sqt e h2, kp_sqt e h3, h4⟩
theorem kp_pc {K : PySem.W.Frag} {H H' : Hp} {a : Addr} {t : Str} {c : Int} {pn : List Str} (e : Kp H H') (h : PcAt K H a t c pn) : PcAt K H' a t c pn := by
  obtain ⟨dx, sa, pa, sgs, h1, h2, h3, h4, h5, h6, h7⟩ := h
  exact ⟨dx, sa, pa, sgs, e _ _ h1 (fun _ z => nomatch z) (fun _ z => nomatch z), kp_sqt e h2, h3, h4, fun v hv => let ⟨c, z⟩ := h5 v hv; ⟨c, kp_sg e z⟩, fun v hv => kp_sg e (h6 v hv), kp_sqt e h7⟩
theorem kp_pd {K : PySem.W.Frag} {H H' : Hp} {a : Addr} {t : Str} {c : Int} (e : Kp H H') (h : PcD K H a t c) : PcD K H' a t c := by
  obtain ⟨dx, sa, pa, g, sgs, pg, rw, w, h1, h2, h3, h4⟩ := h
  exact ⟨dx, sa, pa, g, sgs, pg, rw, w, e _ _ h1 (fun _ z => nomatch z) (fun _ z => nomatch z), kp_sqt e h2, h3, kp_sqt e h4⟩
theorem kp_mac {K : PySem.W.Frag} {H H' : Hp} {m : Addr} {nm bt : Str} {pp : Option Str} (e : Kp H H') (h : MacAt K H m nm pp bt) : MacAt K H' m nm pp bt := by
  obtain ⟨dx, b, pc, pv, bc, h1, h2, h3, h4⟩ := h
  refine ⟨dx, b, pc, pv, bc, e _ _ h1 (fun _ z => nomatch z) (fun _ z => nomatch z), kp_sqt e h2, kp_pc e h3, ?_⟩
  cases pp with
  | none => exact h4
  | some x =>
    obtain ⟨pr, k1, ob, k2, k3⟩ := h4
    exact ⟨pr, k1, ob, e _ _ k2 (fun _ z => nomatch z) (fun _ z => nomatch z), k3⟩
theorem kp_book {K : PySem.W.Frag} {H H' : Hp} {bk : Addr} (e : Kp H H') (h : BookAt K H bk) : BookAt K H' bk := by
  obtain ⟨dx, kd, m0, m1, m2, m3, h1, h2, h3, h4, h5, h6⟩ := h
  exact ⟨dx, kd, m0, m1, m2, m3, e _ _ h1 (fun _ z => nomatch z) (fun _ z => nomatch z), e _ _ h2 (fun _ z => nomatch z) (fun _ z => nomatch z), kp_mac e h3, kp_mac e h4, kp_mac e h5, kp_mac e h6⟩
theorem kp_rst {K : PySem.W.Frag} {H H' : Hp} (e : Kp H H') : ∀ {ps out n mc tl}, Rst K H ps out n mc tl → Rst K H' ps out n mc tl
  | _, _, _, _, _, .nil => .nil
  | _, _, _, _, _, .keep h1 h2 h3 t => .keep (kp_pd e h1) h2 h3 (kp_rst e t)
  | _, _, _, _, _, .pm h1 h2 h3 t => .pm (kp_pc e h1) h2 h3 (kp_rst e t)
  | _, _, _, _, _, .q h1 h2 h3 h4 h5 h6 h7 h8 t => .q (kp_pc e h1) (kp_pd e h2) (kp_pc e h3) (kp_pd e h4) h5 h6 h7 h8 (kp_rst e t)
/-- the texts of the rest, in all -/
theorem Rst.texts {K : PySem.W.Frag} {H : Hp} : ∀ {ps out n mc tl}, Rst K H ps out n mc tl → ∃ ts : List Str, Paired (fun a t => ∃ c, PcD K H a t c) ps ts ∧ totL ts = tl
  | _, _, _, _, _, .nil => ⟨[], .nil, rfl⟩
  | _, _, _, _, _, .keep h1 h2 h3 t => by
    obtain ⟨ts, k1, k2⟩ := Rst.texts t
    exact ⟨_ :: ts, .cons ⟨_, h1⟩ k1, by rw [← k2]; rfl⟩
  | _, _, _, _, _, .pm h1 h2 h3 t => by
    obtain ⟨ts, k1, k2⟩ := Rst.texts t
    exact ⟨_ :: ts, .cons ⟨_, h1.pd⟩ k1, by rw [← k2]; rfl⟩
  | _, _, _, _, _, .q (t := t0) h1 h2 h3 h4 h5 h6 h7 h8 t => by
    obtain ⟨ts, k1, k2⟩ := Rst.texts t
    refine ⟨"q" :: "(" :: t0 :: ")" :: ts, .cons ⟨_, h1.pd⟩ (.cons ⟨_, h2⟩ (.cons ⟨_, h3.pd⟩ (.cons ⟨_, h4⟩ k1))), ?_⟩
    show ("q" : Str).length + (("(" : Str).length + (t0.length + ((")" : Str).length + totL ts))) = _
    rw [show ("q" : Str).length = 1 by decide +kernel, show ("(" : Str).length = 1 by decide +kernel, show (")" : Str).length = 1 by decide +kernel, k2]
    omega
/-- the row that came: texts, columns where they stay -/
def OutR (t : Str × Option Int) (u : Str × Int) : Prop := t.1 = u.1 ∧ ∀ c, t.2 = some c → c = u.2
section
variable {P : Program} {w : World} {K : PySem.W.Frag} {mg : Str → Option Value} {base : Heap}
end
end Bp

/-! text: D26 -/
set_option Elab.async false
set_option linter.all false
set_option maxRecDepth 100000
set_option maxHeartbeats 4000000
/-! expand_row, the walk -/
namespace Bp
open PySem PySem.Spec PyProof.Rows L2 NdefX LamX
section
variable {P : Program} {w : World} {K : PySem.W.Frag} {mg : Str → Option Value} {base : Heap}
def ExtB (p : Addr) (H H' : Hp) : Prop := ∀ b o, b ≠ p → H b = some o → (∀ ps, o ≠ .tbl ps) → H' b = some o
def spExpand (K : PySem.W.Frag) : Sp := fun vs H Q _ => ∃ (l bk cl : Addr) (ps : List Addr) (out : List (Str × Option Int)) (n mc tl : Nat), vs = [.ref l, .ref bk, .int 0, .ref cl] ∧ BookAt K H bk ∧ TabsN (tabT K qnM) H ∧ H l = some (.lst (ps.map V.ref)) ∧ l ≠ cl ∧ H cl = some (.lst [.int 0]) ∧
  Rst K H ps out n mc tl ∧ mc ≤ 299 ∧ tl ≤ 2000 ∧ ps.length ≤ 400 ∧
  ∀ p r st H' ts, ExtB cl H H' → (∀ b, H' b = none → H b = none) → TabsN (tabT K qnM) H' → H' p = some (.tup [.ref r, .ref st]) → RowAt K H' r ts → Paired OutR out ts → Q (.ref p) H'
/-- within the loop -/
def ExW (K : PySem.W.Frag) (H : Hp) (l bk cl r st : Addr) (out : List (Str × Option Int)) (m : Nat) (σ : L2.St) (H' : Hp) : Prop :=
  ∃ (done : List Addr) (outd outr : List (Str × Option Int)) (tsd : List (Str × Int)) (rest : List Addr) (mc tl cn : Nat) (sts : List V) (o1 o2 o3 o4 o5 o6 o7 : Option V),
    σ = [some (.ref l), some (.ref bk), some (.int 0), some (.ref cl), some (.ref r), some (.ref st), some (.int ((done.length : Nat) : Int)), o1, o2, o3, o4, o5, o6, o7] ∧ ExtB cl H H' ∧ (∀ b, H' b = none → H b = none) ∧ TabsN (tabT K qnM) H' ∧
    H' r = some (.lst ((done ++ rest).map V.ref)) ∧ H' st = some (.lst sts) ∧ H' cl = some (.lst [.int ((cn : Nat) : Int)]) ∧ Paired (fun a (t : Str × Int) => PcD K H' a t.1 t.2) done tsd ∧ Paired OutR outd tsd ∧ Rst K H' rest outr m mc tl ∧ outd ++ outr = out ∧
    cn + mc ≤ 299 ∧ totL (tsd.map (·.1)) + tl ≤ 2000 ∧ done.length + rest.length ≤ 400 ∧ sts.length ≤ cn ∧ BookAt K H' bk
theorem tabs_lst {T : List NTab} {H : Hp} {p : Addr} {xs ys : List V} (t : TabsN T H) (hp : H p = some (.lst xs)) : TabsN T (upd H p (.lst ys)) := by
  intro pq hpq
  obtain ⟨ps, y1, y2, y3⟩ := t pq hpq
  have np : ∀ {b : Addr} {o : HO}, H b = some o → (∀ l, o ≠ .lst l) → (upd H p (.lst ys)) b = some o := fun {b o} y ny => by
    have yn : b ≠ p := fun z => by
      rw [z, hp] at y
      exact ny _ (Option.some.inj y).symm
    rw [upd_ne yn]
    exact y
  refine ⟨ps, np y1 (fun l z => nomatch z), y2, fun pos cv hc => ?_⟩
  obtain ⟨cc2, y4, y5⟩ := y3 pos cv hc
  exact ⟨cc2, y4, np y5 (fun l z => by unfold CodeO at z; cases z)⟩
theorem mac_dig {t bt : Str} (h : pMac t) (e : macOf t = some (none, bt)) : noMac bt ∧ bt ≠ "~" ∧ bt ≠ "$" ∧ bt.length ≤ t.length := by
  obtain ⟨b2, e2, h2⟩ := macOf_p h
  rw [e2] at e
  have eb : b2 = bt := (Prod.mk.inj (Option.some.inj e)).2
  subst eb
  rcases h2 with ⟨rfl, rfl⟩ | ⟨rfl, rfl⟩ | ⟨rfl, rfl⟩
  · exact ⟨by unfold noMac; decide +kernel, by decide +kernel, by decide +kernel, by decide +kernel⟩
  · exact ⟨by unfold noMac; decide +kernel, by decide +kernel, by decide +kernel, by decide +kernel⟩
  · exact ⟨by unfold noMac; decide +kernel, by decide +kernel, by decide +kernel, by decide +kernel⟩
theorem nref {H : Hp} {b p x : Addr} {i : Int} (h : H b = some (.lst [.ref x])) (k : H p = some (.lst [.int i])) : b ≠ p := fun z => by
  rw [z, k] at h
  cases h
theorem paired_app {α β : Type} {F : α → β → Prop} : ∀ {l : List α} {r : List β} {l2 : List α} {r2 : List β}, Paired F l r → Paired F l2 r2 → Paired F (l ++ l2) (r ++ r2)
  | _, _, _, _, .nil, h => h
  | _, _, _, _, .cons k t, h => .cons k (paired_app t h)
theorem paired_mapR {α β γ : Type} {F : α → β → Prop} {G : α → γ → Prop} {g : β → γ} (hg : ∀ a b, F a b → G a (g b)) : ∀ {l : List α} {r : List β}, Paired F l r → Paired G l (r.map g)
  | _, _, .nil => .nil
  | _, _, .cons k t => .cons (hg _ _ k) (paired_mapR hg t)
theorem totL_app (a b : List Str) : totL (a ++ b) = totL a + totL b := by
  unfold totL
  rw [List.map_append, List.sum_append]
theorem fn_expand_row (T : Top w K mg) (TB : TabB base mg (tabC K) (tabP K)) : GOk P w K mg base CX0 5 "expand_row" ["pieces", "book", "deep", "calls"] (spExpand K) := by
  obtain ⟨fd, F⟩ := T.f_expand_row
  refine ⟨_, fd, T.g_expand_row, F.kp, F.bindsN fun _ _ _ _ _ _ us hl => match us, hl with | [_, _, _, _], _ => rfl, ok0 F sc_expand_row (fun vs H Q E h => ?_) (fun cdv A outer s H vs Q E hr h => ?_)⟩
  · obtain ⟨l, bk, cl, ps, out, n, mc, tl, rfl, _⟩ := h
    rfl
  · obtain ⟨l, bk, cl, ps, out, n, mc, tl, rfl, hb, hT, h1, hlc, h2, h3, h4, h5, h6, q⟩ := h
    have g_call_at := ok_call_at (P := P) (base := base) T
    have m_Book_macro := ok_bk_macro (P := P) (base := base) T
    have g_expand_arguments := ok_exp_args (P := P) (base := base) T
    have g_vet_row := ok_vet_row (P := P) (base := base) T
    obtain ⟨t_MC, h_MOST_CALLS⟩ := T.i_MOST_CALLS
    obtain ⟨fdb, Fb⟩ := T.f_becomes
    have hbF := fn_becomes (P := P) T TB Fb
    have hbK := kb_becomes Fb
    have hbP := Fb.kp
    refine ⟨_, (pss_cons (ps_set (i := 4) sc_expand_row.nd rfl (Or.inl rfl) (pe_callTy call_list_of (by rfl) T.b_list (by decide +kernel) (pa_cons (pv 0) pa_nil)))
      (pss_cons (ps_set (i := 5) sc_expand_row.nd rfl (Or.inl rfl) (pe_lst pa_nil))
      (pss_cons (ps_set (i := 6) sc_expand_row.nd rfl (Or.inl rfl) pe_int)
      (pss_cons (ps_while PassesOwn.never (pt_cmpR op_lt (pv 6) (pe_callB call_len_seq (by rfl) T.b_len PySem.boot_len (pa_cons (pv 4) pa_nil)) (nomark _))
        (pss_cons (ps_set (i := 7) sc_expand_row.nd rfl (Or.inl rfl) (pe_g g_call_at hr (by decide) pass0 (pa_cons (pv 4) (pa_cons (pv 6) (pa_cons (pv 1) pa_nil)))))
      (pss_one (ps_if (pt_cmpR op_isN (pv 7) pe_non (nomark _))
        (pss_one (ps_aug (i := 6) sc_expand_row.nd rfl (Or.inl rfl) pe_int ip_add))
        (pss_cons (ps_asg (pv 7) (pg_tup rfl (pgs_cons (pg_name (i := 8) sc_expand_row.nd rfl (Or.inl rfl)) (pgs_cons (pg_name (i := 9) sc_expand_row.nd rfl (Or.inl rfl)) pgs_nil))))
      (pss_cons (ps_set (i := 10) sc_expand_row.nd rfl (Or.inl rfl) (pe_ix ix_list (pv 4) (pv 6) (fun _ _ => rfl)))
      (pss_cons (ps_set (i := 11) sc_expand_row.nd rfl (Or.inl rfl) (pe_m m_Book_macro hr (by decide) pass0 (pv 1) (pa_cons (pe_fld (pv 10) rfl) pa_nil)))
      (pss_cons (ps_asg (pe_g g_expand_arguments hr (by decide) pass0 (pa_cons (pv 11) (pa_cons (pv 10) (pa_cons (pv 9) (pa_cons (pv 1) (pa_cons (pv 2) (pa_cons (pv 3) pa_nil))))))) (pg_tup rfl (pgs_cons (pg_name (i := 12) sc_expand_row.nd rfl (Or.inl rfl)) (pgs_cons (pg_name (i := 13) sc_expand_row.nd rfl (Or.inl rfl)) pgs_nil))))
      (pss_cons (ps_if (pt_cmpR op_eq (pe_ix ix_list (pv 3) pe_int (fun _ _ => rfl)) (pe_glob (v := .int 300) rfl h_MOST_CALLS ⟨_, rfl⟩) (nomark _))
        (pss_one ps_never)
        pss_nil)
      (pss_cons (ps_augS (pv 3) pe_int get_list pe_int ip_add set_list)
      (pss_cons (ps_asg (pe_callN hbF hr rfl T.g_becomes hbP hbK pass0 (pa_cons (pv 11) (pa_cons (pv 10) pa_nil)) (pk_cons (pv 9) (pk_cons (pv 12) pk_nil))) (pg_cut (pv 4) (po_some (pv 6)) (po_some (pe_op op_add (pv 6) (pv 8)))))
      (pss_cons (ps_expr (pe_g g_vet_row hr (by decide) pass0 (pa_cons (pv 4) (pa_cons (pv 10) pa_nil))))
      (pss_one (ps_expr (pe_bm PySem.F.plainAttrs_list PySem.F.slot_list_append PySem.F.type_list_append mt_append (pv 5) (pa_cons (pe_tup (pa_cons (pv 6) (pa_cons (pe_fld (pv 11) rfl) (pa_cons (pv 8) (pa_cons (pv 13) pa_nil))))) pa_nil))))))))))))))))
      (pss_one (ps_ret (pe_tup (pa_cons (pv 4) (pa_cons (pv 5) pa_nil))))))))), ?_⟩
    refine ⟨_, rfl, l, _, rfl, .inl (SqL.of h1), fun r hr0 => ?_⟩
    refine ⟨Nat.zero_le _, fun st hst => ?_⟩
    have s1 := (same_upd hr0 (.lst (ps.map V.ref))).trans (same_upd hst (.lst []))
    have hrr : (upd (upd H r (.lst (ps.map V.ref))) st (.lst [])) r = some (.lst (ps.map V.ref)) := same_upd hst _ _ _ upd_same
    have hrs : r ≠ st := ne_of_none (upd_same (H := H) (a := r) (o := .lst (ps.map V.ref))) hst
    have hss : (upd (upd H r (.lst (ps.map V.ref))) st (.lst [])) st = some (.lst []) := upd_same
    have hstn : H st = none := Dom.same (same_upd hr0 (.lst (ps.map V.ref))) _ hst
    have hrc : r ≠ cl := (ne_of_none h2 hr0).symm
    have hsc : st ≠ cl := (ne_of_none h2 hstn).symm
    generalize upd (upd H r (.lst (ps.map V.ref))) st (.lst []) = H1 at s1 hrr hss ⊢
    refine ⟨ExW K H l bk cl r st out, ⟨n, [], [], out, [], ps, mc, tl, 0, [], _, _, _, _, _, _, _, rfl, fun b o _ h _ => s1 b o h, fun b h => Dom.same s1 b h, hT.ext s1, hrr, hss, s1 _ _ h2, .nil, .nil, kp_rst (Kp.of_same s1) h3, rfl, by omega, by show 0 + tl ≤ 2000; omega, by show 0 + ps.length ≤ 400; omega, Nat.zero_le _, Same.book s1 hb⟩, ?_⟩
    rintro m σ H' ⟨done, outd, outr, tsd, rest, mc', tl', cn, sts, o1, o2, o3, o4, o5, o6, o7, rfl, hx, hd, hT', hr', hst', hcl', hdn, hod, hrs', hout, hcm, htt, hlen, hsl, hb'⟩
    refine ⟨_, rfl, _, rfl, r, _, rfl, .inl (SqL.of hr'), _, _, rfl, rfl, _, rfl, ?_⟩
    rw [List.length_map, List.length_append]
    cases hrs' with
    | nil =>
      rw [decide_eq_false (show ¬ (((done.length : Nat) : Int) < ((done.length + ([] : List Addr).length : Nat) : Int)) by show ¬ (((done.length : Nat) : Int) < ((done.length + 0 : Nat) : Int)); omega)]
      refine iteF ⟨_, rfl, _, rfl, (by show 2 ≤ sizeLine; decide), fun p hp => ?_⟩
      have s2 := same_upd hp (.tup [.ref r, .ref st])
      rw [List.append_nil] at hr' hout
      refine q p r st _ tsd (fun b o h7 h8 h9 => s2 _ _ (hx b o h7 h8 h9)) (fun b h7 => hd b (Dom.same s2 b h7)) (hT'.ext s2) upd_same ⟨done, s2 _ _ hr', Paired.mapP hdn fun _ _ z => Same.pd s2 z, ?_⟩ (by rw [← hout]; exact hod)
      rw [← hdn.length]
      have z : ([] : List Addr).length = 0 := rfl
      omega
    | keep k1 k2 k3 k4 =>
      rename_i a rest' t c oc out' n' tlx
      have e0 : (done ++ a :: rest')[done.length]? = some a := by
        rw [List.getElem?_append_right (Nat.le_refl _), Nat.sub_self]
        rfl
      rw [decide_eq_true (show ((done.length : Nat) : Int) < ((done.length + (a :: rest').length : Nat) : Int) by rw [List.length_cons]; omega)]
      refine iteT ⟨fun σ' H'' => ∃ m', m' < n' + 1 ∧ ExW K H l bk cl r st out m' σ' H'', fun _ _ h => h, ?_⟩
      refine ⟨_, rfl, _, rfl, _, rfl, r, bk, done ++ a :: rest', done.length, a, rfl, hb', hr', by rw [List.length_append]; omega, e0, .inl ⟨t, c, k1, k2, ?_⟩⟩
      refine ⟨_, rfl, rfl, _, rfl, iteT ⟨_, rfl, _, _, rfl, rfl, ?_⟩⟩
      refine ⟨n', Nat.lt_succ_self _, done ++ [a], outd ++ [(t, oc)], out', tsd ++ [(t, c)], rest', mc', tlx, cn, sts, some .non, o2, o3, o4, o5, o6, o7, ?_, hx, hd, hT', ?_, hst', hcl', Paired.snoc hdn k1, Paired.snoc hod ⟨rfl, k3⟩, k4, ?_, hcm, ?_, ?_, hsl, hb'⟩
      · rw [List.length_append]
        rfl
      · rw [List.append_assoc]
        exact hr'
      · rw [List.append_assoc]
        exact hout
      · rw [List.map_append]
        unfold totL at htt ⊢
        rw [List.map_append, List.sum_append]
        show _ + (t.length + 0) + tlx ≤ 2000
        omega
      · rw [List.length_append]
        rw [List.length_cons] at hlen
        show done.length + 1 + rest'.length ≤ 400
        omega
    | pm k1 k2 k3 k4 =>
      rename_i a rest' t bt c out' n' mcx tlx
      obtain ⟨m1, m2, m3, m4⟩ := mac_dig k2 k3
      have e0 : (done ++ a :: rest')[done.length]? = some a := by
        rw [List.getElem?_append_right (Nat.le_refl _), Nat.sub_self]
        rfl
      have e0r : ((done ++ a :: rest').map V.ref)[done.length]? = some (.ref a) := by
        rw [List.getElem?_map, e0]
        rfl
      rw [decide_eq_true (show ((done.length : Nat) : Int) < ((done.length + (a :: rest').length : Nat) : Int) by rw [List.length_cons]; omega)]
      refine iteT ⟨fun σ' H'' => ∃ m', m' < n' + 2 ∧ ExW K H l bk cl r st out m' σ' H'', fun _ _ h => h, ?_⟩
      refine ⟨_, rfl, _, rfl, _, rfl, r, bk, done ++ a :: rest', done.length, a, rfl, hb', hr', by rw [List.length_append]; omega, e0, .inr (.inl ⟨t, c, k1, k2, fun p1 r1 H2 hp1n hr1n hpr1 s2 hp1 hr1 => ?_⟩)⟩
      refine ⟨_, rfl, rfl, _, rfl, iteF ?_⟩
      refine ⟨_, rfl, p1, _, rfl, SqT.of hp1, rfl, _, _, rfl, _, _, rfl, rfl, ?_⟩
      refine ⟨_, rfl, _, rfl, r, _, _, _, rfl, rfl, SqL.of (s2 _ _ hr'), atI_nat e0r, ?_⟩
      obtain ⟨dx, sa, pa, sgs, cs, g1, hsa, hpa, _⟩ := k1.cols
      have hb2 := Same.book s2 hb'
      obtain ⟨dxb, kd, m0, mm1, mm2, mm3, hbk, _⟩ := id hb2
      refine ⟨_, rfl, bk, dxb, _, rfl, hbk, rfl, _, rfl, a, _, dx, _, _, rfl, s2 _ _ g1, T.c_Piece, T.n_Piece_text, pFs_text _ _ _, bk, t, none, bt, rfl, hb2, k3, fun m hm => ?_⟩
      refine ⟨_, rfl, _, rfl, _, rfl, _, rfl, _, rfl, _, rfl, m, r1, bk, _, _, t, bt, none, rfl, hb2, hm, m2, m3, .inl ⟨rfl, hr1, fun p2 fl pl H3 s3 hp2 hfl => ?_⟩⟩
      refine ⟨p2, _, rfl, SqT.of hp2, rfl, _, _, rfl, _, _, rfl, rfl, ?_⟩
      have s23 := s2.trans s3
      have hcl3 := s23 _ _ hcl'
      refine ⟨_, rfl, cl, _, _, _, rfl, rfl, SqL.of hcl3, atI_nat (j := 0) rfl, rfl, _, rfl, ?_⟩
      rw [decide_eq_false (show ¬ (V.int ((cn : Nat) : Int) = V.int 300) from fun z => by have := V.int.inj z; omega)]
      refine iteF ?_
      refine ⟨_, rfl, cl, _, _, _, rfl, rfl, SqL.of hcl3, atI_nat (j := 0) rfl, _, _, rfl, rfl, cl, _, _, 0, rfl, rfl, hcl3, rfl, ?_⟩
      have kp4 : Kp H3 (upd H3 cl (.lst (List.set [.int ((cn : Nat) : Int)] 0 (.int (((cn : Nat) : Int) + 1))))) := Kp.lst hcl3
      have hT4 := tabs_lst (ys := List.set [.int ((cn : Nat) : Int)] 0 (.int (((cn : Nat) : Int) + 1))) (hT'.ext s23) hcl3
      have hcl4 : (upd H3 cl (.lst (List.set [.int ((cn : Nat) : Int)] 0 (.int (((cn : Nat) : Int) + 1))))) cl = some (.lst [.int (((cn + 1 : Nat)) : Int)]) := upd_same
      have hr4 : (upd H3 cl (.lst (List.set [.int ((cn : Nat) : Int)] 0 (.int (((cn : Nat) : Int) + 1))))) r = some (.lst ((done ++ a :: rest').map V.ref)) := by
        rw [upd_ne hrc]
        exact s23 _ _ hr'
      have hst4 : (upd H3 cl (.lst (List.set [.int ((cn : Nat) : Int)] 0 (.int (((cn : Nat) : Int) + 1))))) st = some (.lst sts) := by
        rw [upd_ne hsc]
        exact s23 _ _ hst'
      have hx4 : ExtB cl H (upd H3 cl (.lst (List.set [.int ((cn : Nat) : Int)] 0 (.int (((cn : Nat) : Int) + 1))))) := fun b o z1 z2 z3 => by
        rw [upd_ne z1]
        exact s23 _ _ (hx b o z1 z2 z3)
      have hd4 : ∀ b, (upd H3 cl (.lst (List.set [.int ((cn : Nat) : Int)] 0 (.int (((cn : Nat) : Int) + 1))))) b = none → H b = none := fun b z => hd b (Dom.same s23 b (Dom.upd b z))
      generalize upd H3 cl (.lst (List.set [.int ((cn : Nat) : Int)] 0 (.int (((cn : Nat) : Int) + 1)))) = H4 at kp4 hT4 hcl4 hr4 hst4 hx4 hd4 ⊢
      have kp04 : Kp H' H4 := (Kp.of_same s23).trans kp4
      refine ⟨_, rfl, _, rfl, _, rfl, _, rfl, rfl, rfl, m, a, _, _, t, bt, t, c, none, rfl, hT4, kp_pc kp04 k1, kp_mac ((Kp.of_same s3).trans kp4) hm, m2, m3, bt, .inl ⟨rfl, rfl⟩, fun pb x H5 c9 z1 z2 z3 e5 nn5 hT5 hpb hpd => ?_⟩
      have lh5 : ∀ {b : Addr} {xs : List V}, H4 b = some (.lst xs) → H5 b = some (.lst xs) := fun y => e5 _ _ y (fun _ z => nomatch z)
      have hr5 := lh5 hr4
      have hpr : r ≠ pb := ne_of_none hr4 z1
      refine ⟨_, rfl, _, rfl, _, rfl, _, rfl, _, rfl, _, _, rfl, rfl, _, rfl, r, pb, _, _, _, _, rfl, rfl, rfl, rfl, hr5, hpb, hpr, by omega, by omega, ?_, ?_, ?_⟩
      · rw [List.length_map, List.length_append]
        show ((done.length : Nat) : Int) + 1 ≤ ((done.length + (rest'.length + 1) : Nat) : Int)
        omega
      · rw [List.length_map, List.length_append, sizeLine_eq]
        show done.length + (rest'.length + 1) + 1 ≤ _
        rw [List.length_cons] at hlen
        omega
      have ecut : ((done ++ a :: rest').map V.ref).take (((done.length : Nat) : Int)).toNat ++ [V.ref x] ++ ((done ++ a :: rest').map V.ref).drop (((done.length : Nat) : Int) + 1).toNat = (done ++ x :: rest').map V.ref := by
        have z1 : (((done.length : Nat) : Int)).toNat = done.length := Int.toNat_natCast _
        have z2 : (((done.length : Nat) : Int) + 1).toNat = done.length + 1 := by omega
        rw [z1, z2, List.map_append, List.map_append, List.map_cons, List.map_cons]
        have z3 : (done.map V.ref).length = done.length := List.length_map ..
        rw [← z3, List.take_left, List.drop_append, List.append_assoc]
        rw [show List.drop ((List.map V.ref done).length + 1) (List.map V.ref done) = [] from List.drop_of_length_le (Nat.le_succ _)]
        rw [Nat.add_sub_cancel_left]
        rfl
      rw [ecut]
      have kp6 : Kp H5 (upd H5 r (.lst ((done ++ x :: rest').map V.ref))) := Kp.lst hr5
      have hr6 : (upd H5 r (.lst ((done ++ x :: rest').map V.ref))) r = some (.lst ((done ++ x :: rest').map V.ref)) := upd_same
      have hT6 := tabs_lst (ys := (done ++ x :: rest').map V.ref) hT5 hr5
      have hst6 : (upd H5 r (.lst ((done ++ x :: rest').map V.ref))) st = some (.lst sts) := by
        rw [upd_ne hrs.symm]
        exact lh5 hst4
      have hcl6 : (upd H5 r (.lst ((done ++ x :: rest').map V.ref))) cl = some (.lst [.int (((cn + 1 : Nat)) : Int)]) := by
        rw [upd_ne hrc.symm]
        exact lh5 hcl4
      have hx6 : ExtB cl H (upd H5 r (.lst ((done ++ x :: rest').map V.ref))) := fun b o y1 y2 y3 => by
        rw [upd_ne (ne_of_none y2 hr0)]
        exact e5 _ _ (hx4 b o y1 y2 y3) y3
      have hd6 : ∀ b, (upd H5 r (.lst ((done ++ x :: rest').map V.ref))) b = none → H b = none := fun b y => hd4 b (nn5 b (Dom.upd b y))
      have kp06 : Kp H' (upd H5 r (.lst ((done ++ x :: rest').map V.ref))) := kp04.trans ((Kp.of_exn e5).trans kp6)
      have hpd6 := kp_pd kp6 hpd
      generalize upd H5 r (.lst ((done ++ x :: rest').map V.ref)) = H6 at kp6 hr6 hT6 hst6 hcl6 hx6 hd6 kp06 hpd6 ⊢
      have k46 := kp_rst kp06 k4
      obtain ⟨tsr, y1, y2⟩ := k46.texts
      have hdn6 := Paired.mapP hdn fun _ _ z => kp_pd kp06 z
      refine ⟨_, rfl, _, rfl, r, _, done ++ x :: rest', tsd.map (·.1) ++ bt :: tsr, rfl, hr6, ?_, ?_, ?_, fun H7 s7 => ?_⟩
      · exact paired_app (paired_mapR (fun a b z => ⟨b.2, z⟩) hdn6) (.cons ⟨c9, hpd6⟩ y1)
      · rw [List.length_append]
        rw [List.length_cons] at hlen ⊢
        exact hlen
      · rw [totL_app]
        show _ + (bt.length + totL tsr) ≤ 2000
        omega
      have kp07 : Kp H' H7 := kp06.trans (Kp.of_same s7)
      obtain ⟨dxm, bm, pcm, pvm, bcm, km, _⟩ := kp_mac ((Kp.of_same s3).trans (kp4.trans ((Kp.of_exn e5).trans (kp6.trans (Kp.of_same s7))))) hm
      refine ⟨_, rfl, .inl ⟨rfl, _, SqL.of (s7 _ _ hst6)⟩, _, rfl, _, rfl, m, _, dxm, _, _, rfl, km, T.c_Macro, T.n_Macro_name, mFs_name _ _ _, _, rfl, _, rfl, (by show 4 ≤ sizeLine; decide), fun p9 hp9 => ?_⟩
      have s8 := same_upd hp9 (.tup [.int ((done.length : Nat) : Int), .str t, .int 1, .ref pl])
      have hst8 := s8 _ _ (s7 _ _ hst6)
      refine ⟨st, _, _, rfl, rfl, hst8, by rw [sizeLine_eq]; omega, ?_⟩
      have kp8 := Kp.lst (ys := sts ++ [.ref p9]) hst8
      have kp09 := (kp07.trans (Kp.of_same s8)).trans kp8
      refine ⟨n' + 1, by omega, done, outd, (bt, none) :: out', tsd, x :: rest', mcx, bt.length + tlx, cn + 1, sts ++ [.ref p9], _, _, _, _, _, _, _, rfl, fun b o y1 y2 y3 => ?_, fun b y => ?_, tabs_lst (hT6.ext (s7.trans s8)) hst8, ?_, upd_same, ?_, Paired.mapP hdn fun _ _ z => kp_pd kp09 z, hod, .keep (kp_pd (((Kp.of_same s7).trans (Kp.of_same s8)).trans kp8) hpd6) m1 (fun c' z => nomatch z) (kp_rst kp09 k4), hout, by omega, by omega, by rw [List.length_cons] at hlen ⊢; exact hlen, by rw [List.length_append]; exact Nat.succ_le_succ hsl, kp_book kp09 hb'⟩
      · rw [upd_ne (ne_of_none y2 hstn)]
        exact s8 _ _ (s7 _ _ (hx6 b o y1 y2 y3))
      · exact hd6 b (Dom.same (s7.trans s8) b (Dom.upd b y))
      · rw [upd_ne hrs]
        exact s8 _ _ (s7 _ _ hr6)
      · rw [upd_ne hsc.symm]
        exact s8 _ _ (s7 _ _ hcl6)
    | q k1 kb1 kb2 kb3 m1 nb1 nb2 nb3 k4 =>
      rename_i a a1 a2 a3 rest' t c c1 c2 c3 out' n' mcx tlx
      have e0 : (done ++ a :: a1 :: a2 :: a3 :: rest')[done.length]? = some a := by
        rw [List.getElem?_append_right (Nat.le_refl _), Nat.sub_self]
        rfl
      have eN : ∀ {y : Addr} (j : Nat), (a :: a1 :: a2 :: a3 :: rest')[j]? = some y → (done ++ a :: a1 :: a2 :: a3 :: rest')[done.length + j]? = some y := fun {y} j z => by
        rw [List.getElem?_append_right (Nat.le_add_right _ _), Nat.add_sub_cancel_left]
        exact z
      have e0r : ((done ++ a :: a1 :: a2 :: a3 :: rest').map V.ref)[done.length]? = some (.ref a) := by
        rw [List.getElem?_map, e0]
        rfl
      rw [decide_eq_true (show ((done.length : Nat) : Int) < ((done.length + (a :: a1 :: a2 :: a3 :: rest').length : Nat) : Int) by rw [List.length_cons]; omega)]
      refine iteT ⟨fun σ' H'' => ∃ m', m' < n' + 2 ∧ ExW K H l bk cl r st out m' σ' H'', fun _ _ h => h, ?_⟩
      refine ⟨_, rfl, _, rfl, _, rfl, r, bk, done ++ a :: a1 :: a2 :: a3 :: rest', done.length, a, rfl, hb', hr', by rw [List.length_append]; omega, e0, .inr (.inr ⟨c, c1, c2, c3, a1, a2, a3, t, k1, eN 1 (by rfl), eN 2 (by rfl), eN 3 (by rfl), kb1, kb2.pd, kb3, nb1, nb2, nb3, fun p1 r1 r2 H2 hp1n hr1n hr2n hpr1 _ _ s2 hp1 hr1 hr2 => ?_⟩)⟩
      refine ⟨_, rfl, rfl, _, rfl, iteF ?_⟩
      refine ⟨_, rfl, p1, _, rfl, SqT.of hp1, rfl, _, _, rfl, _, _, rfl, rfl, ?_⟩
      refine ⟨_, rfl, _, rfl, r, _, _, _, rfl, rfl, SqL.of (s2 _ _ hr'), atI_nat e0r, ?_⟩
      obtain ⟨dx, sa, pa, sgs, cs, g1, hsa, hpa, _⟩ := k1.cols
      have hb2 := Same.book s2 hb'
      obtain ⟨dxb, kd, m0, mm1, mm2, mm3, hbk, _⟩ := id hb2
      refine ⟨_, rfl, bk, dxb, _, rfl, hbk, rfl, _, rfl, a, _, dx, _, _, rfl, s2 _ _ g1, T.c_Piece, T.n_Piece_text, pFs_text _ _ _, bk, "q", some "x", "x", rfl, hb2, macOf_q, fun m hm => ?_⟩
      refine ⟨_, rfl, _, rfl, _, rfl, _, rfl, _, rfl, _, rfl, m, r1, bk, _, _, "q", "x", some "x", rfl, hb2, hm, by decide +kernel, by decide +kernel, .inr ⟨rfl, r2, a2, t, c2, hr1, hr2, Same.pd s2 kb2.pd, m1, fun p2 fl pl ar H3 s3 hp2 hfl har => ?_⟩⟩
      refine ⟨p2, _, rfl, SqT.of hp2, rfl, _, _, rfl, _, _, rfl, rfl, ?_⟩
      have s23 := s2.trans s3
      have hcl3 := s23 _ _ hcl'
      refine ⟨_, rfl, cl, _, _, _, rfl, rfl, SqL.of hcl3, atI_nat (j := 0) rfl, rfl, _, rfl, ?_⟩
      rw [decide_eq_false (show ¬ (V.int ((cn : Nat) : Int) = V.int 300) from fun z => by have := V.int.inj z; omega)]
      refine iteF ?_
      refine ⟨_, rfl, cl, _, _, _, rfl, rfl, SqL.of hcl3, atI_nat (j := 0) rfl, _, _, rfl, rfl, cl, _, _, 0, rfl, rfl, hcl3, rfl, ?_⟩
      have kp4 : Kp H3 (upd H3 cl (.lst (List.set [.int ((cn : Nat) : Int)] 0 (.int (((cn : Nat) : Int) + 1))))) := Kp.lst hcl3
      have hT4 := tabs_lst (ys := List.set [.int ((cn : Nat) : Int)] 0 (.int (((cn : Nat) : Int) + 1))) (hT'.ext s23) hcl3
      have hcl4 : (upd H3 cl (.lst (List.set [.int ((cn : Nat) : Int)] 0 (.int (((cn : Nat) : Int) + 1))))) cl = some (.lst [.int (((cn + 1 : Nat)) : Int)]) := upd_same
      have hr4 : (upd H3 cl (.lst (List.set [.int ((cn : Nat) : Int)] 0 (.int (((cn : Nat) : Int) + 1))))) r = some (.lst ((done ++ a :: a1 :: a2 :: a3 :: rest').map V.ref)) := by
        rw [upd_ne hrc]
        exact s23 _ _ hr'
      have hst4 : (upd H3 cl (.lst (List.set [.int ((cn : Nat) : Int)] 0 (.int (((cn : Nat) : Int) + 1))))) st = some (.lst sts) := by
        rw [upd_ne hsc]
        exact s23 _ _ hst'
      have hx4 : ExtB cl H (upd H3 cl (.lst (List.set [.int ((cn : Nat) : Int)] 0 (.int (((cn : Nat) : Int) + 1))))) := fun b o z1 z2 z3 => by
        rw [upd_ne z1]
        exact s23 _ _ (hx b o z1 z2 z3)
      have hd4 : ∀ b, (upd H3 cl (.lst (List.set [.int ((cn : Nat) : Int)] 0 (.int (((cn : Nat) : Int) + 1))))) b = none → H b = none := fun b z => hd b (Dom.same s23 b (Dom.upd b z))
      have hfl4 : (upd H3 cl (.lst (List.set [.int ((cn : Nat) : Int)] 0 (.int (((cn : Nat) : Int) + 1))))) fl = some (.lst [.ref ar]) := by
        rw [upd_ne (nref hfl hcl3)]
        exact hfl
      have har4 : (upd H3 cl (.lst (List.set [.int ((cn : Nat) : Int)] 0 (.int (((cn : Nat) : Int) + 1))))) ar = some (.lst [.ref a2]) := by
        rw [upd_ne (nref har hcl3)]
        exact har
      generalize upd H3 cl (.lst (List.set [.int ((cn : Nat) : Int)] 0 (.int (((cn : Nat) : Int) + 1)))) = H4 at kp4 hT4 hcl4 hr4 hst4 hx4 hd4 hfl4 har4 ⊢
      have kp04 : Kp H' H4 := (Kp.of_same s23).trans kp4
      refine ⟨_, rfl, _, rfl, _, rfl, _, rfl, rfl, rfl, m, a, _, _, "q", "x", "q", c, some "x", rfl, hT4, kp_pc kp04 k1, kp_mac ((Kp.of_same s3).trans kp4) hm, by decide +kernel, by decide +kernel, t, .inr ⟨rfl, fl, ar, a2, c2, rfl, hfl4, har4, kp_pc kp04 kb2⟩, fun pb x H5 c9 z1 z2 z3 e5 nn5 hT5 hpb hpd => ?_⟩
      have lh5 : ∀ {b : Addr} {xs : List V}, H4 b = some (.lst xs) → H5 b = some (.lst xs) := fun y => e5 _ _ y (fun _ z => nomatch z)
      have hr5 := lh5 hr4
      have hpr : r ≠ pb := ne_of_none hr4 z1
      refine ⟨_, rfl, _, rfl, _, rfl, _, rfl, _, rfl, _, _, rfl, rfl, _, rfl, r, pb, _, _, _, _, rfl, rfl, rfl, rfl, hr5, hpb, hpr, by omega, by omega, ?_, ?_, ?_⟩
      · rw [List.length_map, List.length_append]
        show ((done.length : Nat) : Int) + 4 ≤ ((done.length + (rest'.length + 4) : Nat) : Int)
        omega
      · rw [List.length_map, List.length_append, sizeLine_eq]
        show done.length + (rest'.length + 4) + 1 ≤ _
        simp only [List.length_cons] at hlen
        omega
      have ecut : ((done ++ a :: a1 :: a2 :: a3 :: rest').map V.ref).take (((done.length : Nat) : Int)).toNat ++ [V.ref x] ++ ((done ++ a :: a1 :: a2 :: a3 :: rest').map V.ref).drop (((done.length : Nat) : Int) + 4).toNat = (done ++ x :: rest').map V.ref := by
        have z1 : (((done.length : Nat) : Int)).toNat = done.length := Int.toNat_natCast _
        have z2 : (((done.length : Nat) : Int) + 4).toNat = done.length + 4 := by omega
        rw [z1, z2, List.map_append, List.map_append, List.map_cons, List.map_cons, List.map_cons, List.map_cons, List.map_cons]
        have z3 : (done.map V.ref).length = done.length := List.length_map ..
        rw [← z3, List.take_left, List.drop_append, List.append_assoc]
        rw [show List.drop ((List.map V.ref done).length + 4) (List.map V.ref done) = [] from List.drop_of_length_le (Nat.le_add_right _ _)]
        rw [Nat.add_sub_cancel_left]
        rfl
      rw [ecut]
      have kp6 : Kp H5 (upd H5 r (.lst ((done ++ x :: rest').map V.ref))) := Kp.lst hr5
      have hr6 : (upd H5 r (.lst ((done ++ x :: rest').map V.ref))) r = some (.lst ((done ++ x :: rest').map V.ref)) := upd_same
      have hT6 := tabs_lst (ys := (done ++ x :: rest').map V.ref) hT5 hr5
      have hst6 : (upd H5 r (.lst ((done ++ x :: rest').map V.ref))) st = some (.lst sts) := by
        rw [upd_ne hrs.symm]
        exact lh5 hst4
      have hcl6 : (upd H5 r (.lst ((done ++ x :: rest').map V.ref))) cl = some (.lst [.int (((cn + 1 : Nat)) : Int)]) := by
        rw [upd_ne hrc.symm]
        exact lh5 hcl4
      have hx6 : ExtB cl H (upd H5 r (.lst ((done ++ x :: rest').map V.ref))) := fun b o y1 y2 y3 => by
        rw [upd_ne (ne_of_none y2 hr0)]
        exact e5 _ _ (hx4 b o y1 y2 y3) y3
      have hd6 : ∀ b, (upd H5 r (.lst ((done ++ x :: rest').map V.ref))) b = none → H b = none := fun b y => hd4 b (nn5 b (Dom.upd b y))
      have kp06 : Kp H' (upd H5 r (.lst ((done ++ x :: rest').map V.ref))) := kp04.trans ((Kp.of_exn e5).trans kp6)
      have hpd6 := kp_pd kp6 hpd
      generalize upd H5 r (.lst ((done ++ x :: rest').map V.ref)) = H6 at kp6 hr6 hT6 hst6 hcl6 hx6 hd6 kp06 hpd6 ⊢
      have k46 := kp_rst kp06 k4
      obtain ⟨tsr, y1, y2⟩ := k46.texts
      have hdn6 := Paired.mapP hdn fun _ _ z => kp_pd kp06 z
      refine ⟨_, rfl, _, rfl, r, _, done ++ x :: rest', tsd.map (·.1) ++ t :: tsr, rfl, hr6, ?_, ?_, ?_, fun H7 s7 => ?_⟩
      · exact paired_app (paired_mapR (fun a b z => ⟨b.2, z⟩) hdn6) (.cons ⟨c9, hpd6⟩ y1)
      · rw [List.length_append]
        simp only [List.length_cons] at hlen ⊢
        omega
      · rw [totL_app]
        show _ + (t.length + totL tsr) ≤ 2000
        omega
      have kp07 : Kp H' H7 := kp06.trans (Kp.of_same s7)
      obtain ⟨dxm, bm, pcm, pvm, bcm, km, _⟩ := kp_mac ((Kp.of_same s3).trans (kp4.trans ((Kp.of_exn e5).trans (kp6.trans (Kp.of_same s7))))) hm
      refine ⟨_, rfl, .inl ⟨rfl, _, SqL.of (s7 _ _ hst6)⟩, _, rfl, _, rfl, m, _, dxm, _, _, rfl, km, T.c_Macro, T.n_Macro_name, mFs_name _ _ _, _, rfl, _, rfl, (by show 4 ≤ sizeLine; decide), fun p9 hp9 => ?_⟩
      have s8 := same_upd hp9 (.tup [.int ((done.length : Nat) : Int), .str "q", .int 4, .ref pl])
      have hst8 := s8 _ _ (s7 _ _ hst6)
      refine ⟨st, _, _, rfl, rfl, hst8, by rw [sizeLine_eq]; omega, ?_⟩
      have kp8 := Kp.lst (ys := sts ++ [.ref p9]) hst8
      have kp09 := (kp07.trans (Kp.of_same s8)).trans kp8
      refine ⟨n' + 1, by omega, done, outd, (t, none) :: out', tsd, x :: rest', mcx, t.length + tlx, cn + 1, sts ++ [.ref p9], _, _, _, _, _, _, _, rfl, fun b o y1 y2 y3 => ?_, fun b y => ?_, tabs_lst (hT6.ext (s7.trans s8)) hst8, ?_, upd_same, ?_, Paired.mapP hdn fun _ _ z => kp_pd kp09 z, hod, .keep (kp_pd (((Kp.of_same s7).trans (Kp.of_same s8)).trans kp8) hpd6) m1 (fun c' z => nomatch z) (kp_rst kp09 k4), hout, by omega, by omega, by simp only [List.length_cons] at hlen ⊢; omega, by rw [List.length_append]; exact Nat.succ_le_succ hsl, kp_book kp09 hb'⟩
      · rw [upd_ne (ne_of_none y2 hstn)]
        exact s8 _ _ (s7 _ _ (hx6 b o y1 y2 y3))
      · exact hd6 b (Dom.same (s7.trans s8) b (Dom.upd b y))
      · rw [upd_ne hrs]
        exact s8 _ _ (s7 _ _ hr6)
      · rw [upd_ne hsc.symm]
        exact s8 _ _ (s7 _ _ hcl6)
end
end Bp

/-! text: D27 -/
set_option Elab.async false
set_option linter.all false
set_option maxRecDepth 100000
set_option maxHeartbeats 4000000
/-! expansion, expanded -/
namespace Bp
open PySem PySem.Spec PyProof.Rows L2 NdefX LamX
section
variable {P : Program} {w : World} {K : PySem.W.Frag} {mg : Str → Option Value} {base : Heap}
def spExpansion (K : PySem.W.Frag) : Sp := fun vs H Q _ => ∃ (l bk : Addr) (ps : List Addr) (out : List (Str × Option Int)) (n mc tl : Nat), vs = [.ref l, .ref bk] ∧ BookAt K H bk ∧ TabsN (tabT K qnM) H ∧ H l = some (.lst (ps.map V.ref)) ∧
  Rst K H ps out n mc tl ∧ mc ≤ 299 ∧ tl ≤ 2000 ∧ ps.length ≤ 400 ∧
  ∀ p r st H' ts, ExtN H H' → (∀ b, H' b = none → H b = none) → TabsN (tabT K qnM) H' → H' p = some (.tup [.ref r, .ref st]) → RowAt K H' r ts → Paired OutR out ts → Q (.ref p) H'
def spExpanded (K : PySem.W.Frag) : Sp := fun vs H Q _ => ∃ (l bk : Addr) (ps : List Addr) (out : List (Str × Option Int)) (n mc tl : Nat), vs = [.ref l, .ref bk] ∧ BookAt K H bk ∧ TabsN (tabT K qnM) H ∧ H l = some (.lst (ps.map V.ref)) ∧
  Rst K H ps out n mc tl ∧ mc ≤ 299 ∧ tl ≤ 2000 ∧ ps.length ≤ 400 ∧
  ∀ r H' ts, ExtN H H' → (∀ b, H' b = none → H b = none) → TabsN (tabT K qnM) H' → RowAt K H' r ts → Paired OutR out ts → Q (.ref r) H'
theorem sc_expansion : FnScope ["pieces", "book"] ["pieces", "book"] (defScope s_expansion) := ⟨rfl, rfl, rfl, by decide +kernel, rfl, by decide +kernel, by decide +kernel⟩
theorem sc_expanded : FnScope ["pieces", "book"] ["pieces", "book"] (defScope s_expanded) := ⟨rfl, rfl, rfl, by decide +kernel, rfl, by decide +kernel, by decide +kernel⟩
theorem fn_expansion (T : Top w K mg) (TB : TabB base mg (tabC K) (tabP K)) : GOk P w K mg base CX0 6 "expansion" ["pieces", "book"] (spExpansion K) := by
  obtain ⟨fd, F⟩ := T.f_expansion
  refine ⟨_, fd, T.g_expansion, F.kp, F.bindsN fun _ _ _ _ _ _ us hl => match us, hl with | [_, _], _ => rfl, ok0 F sc_expansion (fun vs H Q E h => ?_) (fun cdv A outer s H vs Q E hr h => ?_)⟩
  · obtain ⟨l, bk, ps, out, n, mc, tl, rfl, _⟩ := h
    rfl
  · obtain ⟨l, bk, ps, out, n, mc, tl, rfl, hb, hT, h1, h3, h4, h5, h6, q⟩ := h
    have g_expand_row := fn_expand_row (P := P) T TB
    refine ⟨_, (pss_one (ps_ret (pe_g g_expand_row hr (by decide) pass0 (pa_cons (pv 0) (pa_cons (pv 1) (pa_cons pe_int (pa_cons (pe_lst (pa_cons pe_int pa_nil)) pa_nil))))))), ?_⟩
    refine ⟨_, rfl, _, rfl, (by show 1 ≤ sizeLine; decide), fun cl hcl => ?_⟩
    have s1 := same_upd hcl (.lst [.int 0])
    refine ⟨l, bk, cl, ps, out, n, mc, tl, rfl, Same.book s1 hb, hT.ext s1, s1 _ _ h1, ne_of_none h1 hcl, upd_same, kp_rst (Kp.of_same s1) h3, h4, h5, h6, ?_⟩
    intro p r st H' ts hx hd hT' hp hr' ho
    exact q p r st H' ts (fun b o k1 k2 => hx b o (ne_of_none k1 hcl) (s1 _ _ k1) k2) (fun b k => Dom.same s1 b (hd b k)) hT' hp hr' ho
theorem fn_expanded (T : Top w K mg) (TB : TabB base mg (tabC K) (tabP K)) : GOk P w K mg base CX0 7 "expanded" ["pieces", "book"] (spExpanded K) := by
  obtain ⟨fd, F⟩ := T.f_expanded
  refine ⟨_, fd, T.g_expanded, F.kp, F.bindsN fun _ _ _ _ _ _ us hl => match us, hl with | [_, _], _ => rfl, ok0 F sc_expanded (fun vs H Q E h => ?_) (fun cdv A outer s H vs Q E hr h => ?_)⟩
  · obtain ⟨l, bk, ps, out, n, mc, tl, rfl, _⟩ := h
    rfl
  · obtain ⟨l, bk, ps, out, n, mc, tl, rfl, hb, hT, h1, h3, h4, h5, h6, q⟩ := h
    have g_expansion := fn_expansion (P := P) T TB
    refine ⟨_, (pss_one (ps_ret (pe_ix ix_tup (pe_g g_expansion hr (by decide) pass0 (pa_cons (pv 0) (pa_cons (pv 1) pa_nil))) pe_int (fun _ _ => rfl)))), ?_⟩
    refine ⟨_, rfl, _, rfl, l, bk, ps, out, n, mc, tl, rfl, hb, hT, h1, h3, h4, h5, h6, fun p r st H' ts hx hd hT' hp hr' ho => ?_⟩
    refine ⟨p, _, 0, _, rfl, rfl, SqT.of hp, rfl, ?_⟩
    exact q r H' ts hx hd hT' hr' ho
end
end Bp

/-! text: D28 -/
set_option Elab.async false
set_option linter.all false
set_option maxRecDepth 100000
set_option maxHeartbeats 4000000
/-! names(), has_told -/
namespace Bp
open PySem PySem.Spec PyProof.Rows L2 NdefX LamX
section
variable {P : Program} {w : World} {K : PySem.W.Frag} {mg : Str → Option Value} {base : Heap}
def bkNames : List Str := ["p0", "p1", "p2", "q"]
def spNames (K : PySem.W.Frag) : Sp := fun vs H Q _ => ∃ bk : Addr, vs = [.ref bk] ∧ BookAt K H bk ∧ ∀ (ys : List Str) (p : Addr), ys.Perm bkNames → H p = none → Q (.ref p) (upd H p (.lst (ys.map V.str)))
theorem sc_Book_names : FnScope ["self"] ["self"] (defScope s_Book_names) := ⟨rfl, rfl, rfl, by decide +kernel, rfl, by decide +kernel, by decide +kernel⟩
theorem ok_names (T : Top w K mg) : MOk P w K mg base CX0 1 "Book" "names" ["self"] (spNames K) := by
  obtain ⟨fd, F⟩ := T.f_Book_names
  refine ⟨_, fd, T.c_Book, T.m_Book_names, F.bindsN fun _ _ _ _ _ _ us hl => match us, hl with | [_], _ => rfl, ok0 F sc_Book_names (fun vs H Q E h => ?_) (fun cdv A outer s H vs Q E hr h => ?_)⟩
  · obtain ⟨bk, rfl, _⟩ := h
    rfl
  · obtain ⟨bk, rfl, ⟨dx, kd, m0, m1, m2, m3, h1, h2, _⟩, q⟩ := h
    refine ⟨_, (pss_one (ps_ret (pe_callB (call_sortedD rfl) (by rfl) T.b_sorted (by decide +kernel) (pa_cons (pe_fld (pv 0) rfl) pa_nil)))), ?_⟩
    exact ⟨_, rfl, bk, _, dx, _, _, rfl, h1, T.c_Book, T.n_Book_kept, rfl, kd, _, bkNames, rfl, .inl h2, rfl, by decide, fun ys p hp _ hn => q ys p hp hn⟩
/-- what has_told makes of a row -/
inductive HsR : List Addr → List (Str × Int) → List (Addr ⊕ Str) → Prop
  | nil : HsR [] [] []
  | keep {a : Addr} {t : Str × Int} {ps : List Addr} {ts : List (Str × Int)} {is : List (Addr ⊕ Str)} : t.1 ≠ "has" → HsR ps ts is → HsR (a :: ps) (t :: ts) (.inl a :: is)
  | has {a a1 : Addr} {c : Int} {x : Str × Int} {d : Str} {ps : List Addr} {ts : List (Str × Int)} {is : List (Addr ⊕ Str)} : (x.1 = "no" ∧ d = "0" ∨ x.1 = "p1" ∧ d = "1") → HsR ps ts is → HsR (a :: a1 :: ps) (("has", c) :: x :: ts) (.inr d :: is)
def ItR (K : PySem.W.Frag) (H : Hp) (i : Addr ⊕ Str) (b : Addr) : Prop := match i with
  | .inl a => a = b
  | .inr d => ∃ c, PcD K H b d c
theorem it_but {K : PySem.W.Frag} {H H' : Hp} {p : Addr} {ys : List V} {i : Addr ⊕ Str} {b : Addr} (e : SameBut p H H') (hp : H p = some (.lst ys)) (h : ItR K H i b) : ItR K H' i b := by
  cases i with
  | inl a => exact h
  | inr d =>
    obtain ⟨c, h⟩ := h
    exact ⟨c, pd_but e hp h⟩
theorem it_same {K : PySem.W.Frag} {H H' : Hp} {i : Addr ⊕ Str} {b : Addr} (e : Same H H') (h : ItR K H i b) : ItR K H' i b := by
  cases i with
  | inl a => exact h
  | inr d =>
    obtain ⟨c, h⟩ := h
    exact ⟨c, Same.pd e h⟩
/-- the dict of names -/
def kn (ys : List Str) : List (Key × V) := ys.foldl (fun kvs y => putK kvs (Sum.inr y) (.bl true)) []
theorem kn_snoc (ys : List Str) (y : Str) : kn (ys ++ [y]) = putK (kn ys) (Sum.inr y) (.bl true) := by
  unfold kn
  rw [List.foldl_append]
  rfl
theorem kn_val (t : Str) : ∀ n, ∀ ys : List Str, ys.length = n → (valV (kn ys) (Sum.inr t)).isSome = decide (t ∈ ys) := by
  intro n
  induction n with
  | zero =>
    intro ys h
    have : ys = [] := List.length_eq_zero_iff.mp h
    subst this
    rfl
  | succ n ih =>
    intro ys h
    have hne : ys ≠ [] := fun z => by rw [z] at h; cases h
    obtain ⟨zs, y, rfl⟩ : ∃ zs y, ys = zs ++ [y] := ⟨ys.dropLast, ys.getLast hne, (List.dropLast_concat_getLast hne).symm⟩
    rw [kn_snoc, valV_put]
    have hz : zs.length = n := by
      rw [List.length_append] at h
      exact Nat.succ.inj h
    by_cases e : t = y
    · subst e
      rw [if_pos rfl, decide_eq_true (by simp)]
      rfl
    · rw [if_neg (fun z => e (Sum.inr.inj z)), ih zs hz]
      congr 1
      simp [e]
theorem kn_len (ys : List Str) : (kn ys).length ≤ ys.length := by
  have : ∀ (ys : List Str) (acc : List (Key × V)), (ys.foldl (fun kvs y => putK kvs (Sum.inr y) (.bl true)) acc).length ≤ acc.length + ys.length := by
    intro ys
    induction ys with
    | nil => exact fun acc => Nat.le_refl _
    | cons y ys ih =>
      intro acc
      have h := ih (putK acc (Sum.inr y) (.bl true))
      have h2 := length_putK acc (Sum.inr y : Key) (.bl true)
      show (List.foldl _ (putK acc (Sum.inr y) (.bl true)) ys).length ≤ acc.length + (ys.length + 1)
      omega
  have h := this ys []
  simpa [kn] using h
end
end Bp

/-! text: D8 -/
set_option Elab.async false
set_option linter.all false
set_option maxRecDepth 100000
set_option maxHeartbeats 4000000
/-! conditions: read as a tree -/
namespace Bp
open PySem PySem.Spec PyProof.Rows L2
/-! ### what signs make -/
abbrev Res := Except Nat Int
def b01 (b : Bool) : Int := if b = true then 1 else 0
def notR : Res → Res
  | .ok i => .ok (b01 (decide (i = 0)))
  | .error e => .error e
def negR : Res → Res
  | .ok i => .ok (0 - i)
  | .error e => .error e
def boolR : Res → Res
  | .ok i => .ok (b01 (decide (i ≠ 0)))
  | .error e => .error e
def opV (s : Str) (l r : Int) : Int :=
  if s = "*" then l * r else if s = "/" then l.fdiv r else if s = "+" then l + r else if s = "-" then l - r
  else if s = "<" then b01 (decide (l < r)) else if s = "<=" then b01 (decide (l ≤ r)) else if s = ">" then b01 (decide (l > r)) else if s = ">=" then b01 (decide (l ≥ r))
  else if s = "==" then b01 (decide (l = r)) else b01 (decide (l ≠ r))
def step (s : Str) (k : Nat) : Res → Res → Res
  | .error e, _ => .error e
  | .ok l, x => if s = "&&" then (if l = 0 then .ok 0 else boolR x) else if s = "||" then (if l ≠ 0 then .ok 1 else boolR x) else match x with
    | .error e => .error e
    | .ok r => if s = "/" ∧ r = 0 then .error k else .ok (opV s l r)
def unS (neg : Bool) : Str := if neg = true then "-" else "!"
def unR (neg : Bool) (x : Res) : Res := if neg = true then negR x else notR x
def lev (L : Nat) : List Str := levs.getD L []
/-- the tree at v in the heap comes to r; numbers below 2 ^ b -/
inductive EvL (F : Nat → V → Res → Prop) (H : Hp) (f : Int → Nat) : Nat → Res → List V → Nat → Res → Prop
  | nil {b r} : EvL F H f b r [] b r
  | cons {b bx : Nat} {r x : Res} {s : Str} {p pl : Addr} {pg rw u : V} {c : Int} {vs : List V} {b' : Nat} {r' : Res} {L : Nat} : H p = some (.tup [.str s, .ref pl, u]) → H pl = some (.tup [pg, rw, .int c]) → s ∈ lev L → F bx u x →
      EvL F H f (b + bx) (step s (f c) r x) vs b' r' → EvL F H f b r (.ref p :: vs) b' r'
def Ev (H : Hp) (f : Int → Nat) : Nat → Nat → V → Res → Prop
  | 0, _, _, _ => False
  | n + 1, b, v, r => (∃ i : Nat, v = .int (i : Int) ∧ r = .ok (i : Int) ∧ i < 2 ^ b ∧ 1 ≤ b) ∨
    (∃ (a : Addr) (u : V) (x : Res) (neg : Bool), v = .ref a ∧ H a = some (.tup [.str (unS neg), u]) ∧ Ev H f n b u x ∧ r = unR neg x) ∨
    (∃ (a l : Addr) (u : V) (x : Res) (vs : List V) (b0 : Nat), v = .ref a ∧ H a = some (.tup [.str "chain", u, .ref l]) ∧ H l = some (.lst vs) ∧ Ev H f n b0 u x ∧ EvL (Ev H f n) H f b0 x vs b r)
theorem EvL.mono {F G : Nat → V → Res → Prop} {H H' : Hp} {f : Int → Nat} (e : Same H H') (h : ∀ b v r, F b v r → G b v r) : ∀ {b r vs b' r'}, EvL F H f b r vs b' r' → EvL G H' f b r vs b' r'
  | _, _, _, _, _, .nil => .nil
  | _, _, _, _, _, .cons h1 h2 h3 h4 t => .cons (e _ _ h1) (e _ _ h2) h3 (h _ _ _ h4) (EvL.mono e h t)
theorem EvL.snoc {F : Nat → V → Res → Prop} {H : Hp} {f : Int → Nat} {bx L : Nat} {x : Res} {s : Str} {p pl : Addr} {pg rw u : V} {c : Int} (h1 : H p = some (.tup [.str s, .ref pl, u])) (h2 : H pl = some (.tup [pg, rw, .int c])) (h3 : s ∈ lev L) (h4 : F bx u x) :
    ∀ {b r vs b' r'}, EvL F H f b r vs b' r' → EvL F H f b r (vs ++ [.ref p]) (b' + bx) (step s (f c) r' x)
  | _, _, _, _, _, .nil => .cons h1 h2 h3 h4 .nil
  | _, _, _, _, _, .cons g1 g2 g3 g4 t => .cons g1 g2 g3 g4 (EvL.snoc h1 h2 h3 h4 t)
theorem Ev.mono {H H' : Hp} {f : Int → Nat} (e : Same H H') : ∀ {n b v r}, Ev H f n b v r → Ev H' f n b v r
  | 0, _, _, _, h => h.elim
  | n + 1, b, v, r, h => by
    rcases h with h | ⟨a, u, x, neg, h1, h2, h3, h4⟩ | ⟨a, l, u, x, vs, b0, h1, h2, h3, h4, h5⟩
    · exact .inl h
    · exact .inr (.inl ⟨a, u, x, neg, h1, e _ _ h2, Ev.mono e h3, h4⟩)
    · exact .inr (.inr ⟨a, l, u, x, vs, b0, h1, e _ _ h2, e _ _ h3, Ev.mono e h4, h5.mono e fun _ _ _ q => Ev.mono e q⟩)
/-! ### how a row is read -/
inductive RdL (F : Nat → List Tk → Res → Prop) (L : Nat) : Nat → Res → List Tk → Nat → Res → Prop
  | nil {b r} : RdL F L b r [] b r
  | cons {b bx : Nat} {r x : Res} {s : Str} {k : Nat} {ks rest : List Tk} {b' : Nat} {r' : Res} : s ∈ lev L → F bx ks x → RdL F L (b + bx) (step s k r x) rest b' r' → RdL F L b r (.sg s k :: (ks ++ rest)) b' r'
/-- L: 0 to 5: read_level at this level; 6: read_ahead; m are open -/
def Rd : Nat → Nat → Nat → Nat → List Tk → Res → Prop
  | 0, _, _, _, _, _ => False
  | n + 1, L, m, b, ks, r =>
    (L = 6 ∧ ((∃ v : Nat, ks = [.num v] ∧ r = .ok (v : Int) ∧ v < 2 ^ b ∧ 1 ≤ b) ∨ (∃ (neg : Bool) (k : Nat) (ks' : List Tk) (x : Res), ks = .sg (unS neg) k :: ks' ∧ m < 20 ∧ Rd n 6 (m + 1) b ks' x ∧ r = unR neg x) ∨
      (∃ (k k' : Nat) (ks' : List Tk), ks = .sg "(" k :: (ks' ++ [.sg ")" k']) ∧ m < 20 ∧ Rd n 0 (m + 1) b ks' r))) ∨
    (L = 5 ∧ Rd n 6 m b ks r) ∨
    (L < 5 ∧ ∃ (k0 k1 : List Tk) (b0 : Nat) (x : Res), ks = k0 ++ k1 ∧ Rd n (L + 1) m b0 k0 x ∧ RdL (Rd n (L + 1) m) L b0 x k1 b r)
/-- what stands behind does not go on at the level L or a tighter one -/
def Stop (L : Nat) (rest : List Tk) : Prop := match rest with
  | [] => True
  | .num _ :: _ => False
  | .sg s _ :: _ => ∀ j, L ≤ j → s ∉ lev j
theorem Stop.up {L : Nat} {rest : List Tk} (h : Stop L rest) : Stop (L + 1) rest := by
  cases rest with
  | nil => trivial
  | cons t r =>
    cases t with
    | num v => exact h
    | sg s k => exact fun j hj => h j (Nat.le_of_succ_le hj)
theorem lev_far {s : Str} {j : Nat} (h : s ∈ lev j) : j < 5 := by
  rcases Nat.lt_or_ge j 5 with q | q
  · exact q
  · have e : lev j = [] := by
      unfold lev
      rw [List.getD_eq_getElem?_getD, List.getElem?_eq_none (show levs.length ≤ j from q)]
      rfl
    rw [e] at h
    cases h
theorem lev_oneB : ((List.range 5).all fun i => (List.range 5).all fun j => decide (i = j) || (lev i).all fun s => decide (s ∉ lev j)) = true := by decide +kernel
theorem lev_one {i j : Nat} (hi : i < 5) (hj : j < 5) (h : i ≠ j) (s : Str) (hs : s ∈ lev i) : s ∉ lev j := by
  have z := List.all_eq_true.mp (List.all_eq_true.mp lev_oneB i (List.mem_range.mpr hi)) j (List.mem_range.mpr hj)
  rw [decide_eq_false h, Bool.false_or] at z
  exact of_decide_eq_true (List.all_eq_true.mp z s hs)
theorem Stop.sign {L k : Nat} {s : Str} {rest : List Tk} (h : s ∈ lev L) : Stop (L + 1) (.sg s k :: rest) := fun j hj q => lev_one (lev_far h) (lev_far q) (by omega) s h q
section
variable {P : Program} {w : World} {K : PySem.W.Frag} {mg : Str → Option Value} {base : Heap}
theorem tupTB_ok {H : Hp} : ∀ {zs : List (List Str)} {us : List Value}, tupTB K zs us = true → ∃ as : List Addr, Vals (as.map V.ref) us ∧ as.length = zs.length ∧ ∀ (j : Nat) (a : Addr) (z : List Str), as[j]? = some a → zs[j]? = some z → SqT K H a (z.map V.str)
  | [], [], _ => ⟨[], .nil, rfl, fun j a z h => by simp at h⟩
  | [], _ :: _, h => by unfold tupTB at h; cases h
  | _ :: _, [], h => by unfold tupTB at h; cases h
  | z :: zs, u :: us, h => by
    cases u with
    | ref a =>
      unfold tupTB at h
      obtain ⟨h1, h2⟩ := He.ba h
      obtain ⟨as, g1, g2, g3⟩ := tupTB_ok (H := H) h2
      refine ⟨a :: as, .cons rfl g1, by rw [List.length_cons, List.length_cons, g2], fun j b y e1 e2 => ?_⟩
      cases j with
      | succ j => exact g3 j b y (by simpa using e1) (by simpa using e2)
      | zero =>
        have e1 : b = a := by simpa using e1.symm
        have e2 : y = z := by simpa using e2.symm
        subst e1 e2
        cases q : K.lookup b with
        | none =>
          rw [q] at h1
          cases h1
        | some o =>
          obtain ⟨oc, od, dt, osl⟩ := o
          rw [q] at h1
          cases oc with
          | type c =>
            cases dt with
            | seq its n =>
              obtain ⟨k1, k2⟩ := He.ba (show (decide (c = "tuple") && (decide (its.size ≤ sizeLine) && He.relAll (y.map V.str) its.toList)) = true from h1)
              obtain ⟨k3, k4⟩ := He.ba k2
              exact .inr ⟨_, its, n, q, congrArg Value.type (of_decide_eq_true k1), rfl, of_decide_eq_true k3, He.relAll_ok k4⟩
            | _ => cases h1
          | _ => cases dt <;> cases h1
    | _ => unfold tupTB at h; cases h
theorem lev_sq (T : Top w K mg) (H : Hp) : ∃ as : List Addr, SqT K H (He.ga K "LEVELS") (as.map V.ref) ∧ as.length = 5 ∧ ∀ (j : Nat) (a : Addr), as[j]? = some a → SqT K H a ((lev j).map V.str) := by
  have h := (He.ba (He.ba (He.ba (He.ba T.ex).2).2).2).1
  unfold levB at h
  cases q : K.lookup (He.ga K "LEVELS") with
  | none =>
    rw [q] at h
    cases h
  | some o =>
    obtain ⟨oc, od, dt, osl⟩ := o
    rw [q] at h
    cases oc with
    | type c =>
      cases dt with
      | seq its n =>
        obtain ⟨k1, k2⟩ := He.ba (show (decide (c = "tuple") && (decide (its.size ≤ sizeLine) && tupTB K levs its.toList)) = true from h)
        obtain ⟨k3, k4⟩ := He.ba k2
        obtain ⟨as, g1, g2, g3⟩ := tupTB_ok (H := H) k4
        refine ⟨as, .inr ⟨_, its, n, q, congrArg Value.type (of_decide_eq_true k1), rfl, of_decide_eq_true k3, g1⟩, g2, fun j a e => ?_⟩
        have hj : j < levs.length := by
          rw [← g2]
          exact (List.getElem?_eq_some_iff.mp e).1
        have e2 : levs[j]? = some (lev j) := by
          unfold lev
          rw [List.getD_eq_getElem?_getD, List.getElem?_eq_getElem hj]
          rfl
        exact g3 j a _ e e2
      | _ => cases h
    | _ => cases dt <;> cases h
end
end Bp

/-! text: P1 -/
set_option Elab.async false
set_option linter.all false
set_option maxRecDepth 100000
set_option maxHeartbeats 4000000
/-! readings of a row, in plain -/
namespace Bp
open PySem PySem.Spec PyProof.Rows L2
theorem RdL.monoF {F G : Nat → List Tk → Res → Prop} {L : Nat} (h : ∀ b ks x, F b ks x → G b ks x) : ∀ {b r ks b' r'}, RdL F L b r ks b' r' → RdL G L b r ks b' r'
  | _, _, _, _, _, .nil => .nil
  | _, _, _, _, _, .cons g1 g2 t => .cons g1 (h _ _ _ g2) (RdL.monoF h t)
theorem Rd.up1 : ∀ {n L m b : Nat} {ks : List Tk} {r : Res}, Rd n L m b ks r → Rd (n + 1) L m b ks r
  | 0, _, _, _, _, _, h => h.elim
  | n + 1, L, m, b, ks, r, h => by
    rcases h with ⟨h1, h⟩ | ⟨h1, h⟩ | ⟨h1, k0, k1, b0, x, h2, h3, h4⟩
    · refine .inl ⟨h1, ?_⟩
      rcases h with h | ⟨neg, k, ks', x, h2, h3, h4, h5⟩ | ⟨k, k', ks', h2, h3, h4⟩
      · exact .inl h
      · exact .inr (.inl ⟨neg, k, ks', x, h2, h3, Rd.up1 h4, h5⟩)
      · exact .inr (.inr ⟨k, k', ks', h2, h3, Rd.up1 h4⟩)
    · exact .inr (.inl ⟨h1, Rd.up1 h⟩)
    · exact .inr (.inr ⟨h1, k0, k1, b0, x, h2, Rd.up1 h3, h4.monoF fun _ _ _ q => Rd.up1 q⟩)
theorem Rd.up {n n' L m b : Nat} {ks : List Tk} {r : Res} (h : Rd n L m b ks r) (e : n ≤ n') : Rd n' L m b ks r := by
  induction e with
  | refl => exact h
  | step _ ih => exact Rd.up1 ih
theorem RdL.snoc {F : Nat → List Tk → Res → Prop} {L bx k : Nat} {s : Str} {x : Res} {kx : List Tk} (h1 : s ∈ lev L) (h2 : F bx kx x) : ∀ {b r ks b' r'}, RdL F L b r ks b' r' → RdL F L b r (ks ++ .sg s k :: kx) (b' + bx) (step s k r' x)
  | b, r, _, _, _, .nil => by
    have z : RdL F L b r (.sg s k :: (kx ++ [])) (b + bx) (step s k r x) := .cons (k := k) h1 h2 .nil
    rw [List.append_nil] at z
    exact z
  | _, _, _, _, _, .cons g1 g2 t => by
    rw [List.cons_append, List.append_assoc]
    exact .cons g1 g2 (RdL.snoc h1 h2 t)
/-- one level down, nothing behind -/
theorem Rd.down {n L m b : Nat} {ks : List Tk} {x : Res} (hL : L ≤ 5) (h : Rd n (L + 1) m b ks x) : Rd (n + 1) L m b ks x := by
  rcases Nat.lt_or_ge L 5 with q | q
  · exact .inr (.inr ⟨q, ks, [], b, x, (List.append_nil _).symm, h, .nil⟩)
  · have e : L = 5 := by omega
    subst e
    exact .inr (.inl ⟨rfl, h⟩)
theorem Rd.downs {n m b : Nat} {ks : List Tk} {x : Res} : ∀ (j L : Nat), L + j ≤ 6 → Rd n (L + j) m b ks x → Rd (n + j) L m b ks x
  | 0, _, _, h => h
  | j + 1, L, hL, h => Rd.down (by omega) (Rd.downs j (L + 1) (by omega) (by rw [show L + 1 + j = L + (j + 1) by omega]; exact h))
/-- what stands for itself: d deeper at most, height n, weight b -/
def U (d n b : Nat) (ks : List Tk) (x : Res) : Prop := ∀ m, m + d ≤ 20 → Rd n 6 m b ks x
theorem U.up {d d' n n' b : Nat} {ks : List Tk} {x : Res} (h : U d n b ks x) (hd : d ≤ d') (hn : n ≤ n') : U d' n' b ks x := fun m q => (h m (by omega)).up hn
theorem U.num {v : Nat} (h : v < 2 ^ 60) : U 0 1 60 [.num v] (.ok (v : Int)) := fun _ _ => .inl ⟨rfl, .inl ⟨v, rfl, rfl, h, by decide⟩⟩
theorem U.un {d n b : Nat} {ks : List Tk} {x : Res} (neg : Bool) (k : Nat) (h : U d n b ks x) : U (d + 1) (n + 1) b (.sg (unS neg) k :: ks) (unR neg x) := fun m q => .inl ⟨rfl, .inr (.inl ⟨neg, k, ks, x, rfl, by omega, h (m + 1) (by omega), rfl⟩)⟩
theorem U.br {d n b : Nat} {ks : List Tk} {x : Res} (k k' : Nat) (h : ∀ m, m + d ≤ 20 → Rd n 0 m b ks x) : U (d + 1) (n + 1) b (.sg "(" k :: (ks ++ [.sg ")" k'])) x := fun m q => .inl ⟨rfl, .inr (.inr ⟨k, k', ks, rfl, by omega, h (m + 1) (by omega)⟩)⟩
theorem U.br1 {d n b : Nat} {ks : List Tk} {x : Res} (k k' : Nat) (h : U d n b ks x) : U (d + 1) (n + 7) b (.sg "(" k :: (ks ++ [.sg ")" k'])) x := U.br (n := n + 6) k k' fun m q => Rd.downs 6 0 (by decide) (h m q)
theorem U.bin {d n bx bz L : Nat} {s : Str} {kx kz : List Tk} {x z : Res} (k k1 k2 : Nat) (hs : s ∈ lev L) (hx : U d n bx kx x) (hz : U d n bz kz z) : U (d + 1) (n + 7) (bx + bz) (.sg "(" k1 :: ((kx ++ .sg s k :: kz) ++ [.sg ")" k2])) (step s k x z) := by
  have hL := lev_far hs
  refine U.br (n := n + 6) k1 k2 fun m q => ?_
  have one : ∀ {b ks v}, U d n b ks v → Rd (n + (5 - L)) (L + 1) m b ks v := fun h => Rd.downs (5 - L) (L + 1) (by omega) (by rw [show L + 1 + (5 - L) = 6 by omega]; exact h m q)
  have two : Rd (n + (5 - L) + 1) L m (bx + bz) (kx ++ .sg s k :: kz) (step s k x z) := by
    refine .inr (.inr ⟨hL, kx, .sg s k :: kz, bx, x, rfl, one hx, ?_⟩)
    have z0 : RdL (Rd (n + (5 - L)) (L + 1) m) L bx x ([] ++ .sg s k :: kz) (bx + bz) (step s k x z) := RdL.snoc hs (one hz) .nil
    exact z0
  have three := Rd.downs (n := n + (5 - L) + 1) L 0 (by omega) (by rw [Nat.zero_add]; exact two)
  exact three.up (by omega)
end Bp

/-! text: P2 -/
set_option Elab.async false
set_option linter.all false
set_option maxRecDepth 100000
set_option maxHeartbeats 4000000
/-! rows of texts, held: plain -/
namespace Bp
open PySem PySem.Spec PyProof.Rows L2
abbrev rp : Str := ")"
def sl (s : Str) : Nat := if s = "/" then 1 else 0
def nsl (ts : List Str) : Nat := (ts.map sl).sum
def sgs : List Str := ["||", "&&", "<", "<=", ">", ">=", "==", "!=", "+", "-", "*", "/", "!", "(", ")"]
def dec (v : Nat) : Str := Str.ofString (toString ((v : Nat) : Int))
theorem dec_cps (v : Nat) : (dec v).cps.toList = TL.numL v := TL.tl_num v
theorem dec_numT {v : Nat} (h : v < 10 ^ 18) : NumT (dec v) v := by
  refine .inl ⟨?_, ?_, ?_, ?_, ?_⟩
  · rw [dec_cps]
    exact TL.numL_ne v
  · rw [dec_cps]
    exact TL.numL_digits v
  · rw [len_codes, dec_cps]
    have := TL.numL_len (k := 18) (by decide) h
    omega
  · rw [dec_cps]
    exact TL.numL_val v
  · rw [dec_cps]
    intro z
    have m : 120 ∈ TL.numL v := List.mem_of_mem_take (by rw [z]; decide)
    exact TL.numL_free (by omega) m
/-- texts that are told as tokens; t signs / ahead -/
inductive Tl : Nat → List Str → List Tk → Prop
  | nil {t : Nat} : Tl t [] []
  | sg {t : Nat} {s : Str} {us : List Str} {ks : List Tk} : s ∈ sgs → Tl (t + sl s) us ks → Tl t (s :: us) (.sg s t :: ks)
  | num {t v : Nat} {us : List Str} {ks : List Tk} : v < 10 ^ 18 → Tl t us ks → Tl t (dec v :: us) (.num v :: ks)
theorem nsl_cons (s : Str) (ts : List Str) : nsl (s :: ts) = sl s + nsl ts := by
  unfold nsl
  rw [List.map_cons, List.sum_cons]
theorem nsl_app (a b : List Str) : nsl (a ++ b) = nsl a + nsl b := by
  unfold nsl
  rw [List.map_append, List.sum_append]
theorem sl_num {u : Str} {v : Nat} (h : NumT u v) : sl u = 0 := by
  obtain ⟨c, r, e, hc⟩ := h.head
  refine if_neg fun z => ?_
  rw [z, show ("/" : Str).cps.toList = [47] by decide +kernel] at e
  have := (List.cons.inj e).1
  omega
theorem Tl.append : ∀ {t : Nat} {us : List Str} {ks : List Tk} {vs : List Str} {js : List Tk}, Tl t us ks → Tl (t + nsl us) vs js → Tl t (us ++ vs) (ks ++ js)
  | _, _, _, _, _, .nil, h => h
  | t, _, _, _, _, .sg h1 h2, h => .sg h1 (Tl.append h2 (by rw [nsl_cons, ← Nat.add_assoc] at h; exact h))
  | _, _, _, _, _, .num h1 h2, h => .num h1 (Tl.append h2 (by rw [nsl_cons, sl_num (dec_numT h1), Nat.zero_add] at h; exact h))
/-! ### atoms -/
abbrev At := List Bool × Nat
def AtOk (a : At) : Prop := a.1.length ≤ 2 ∧ a.2 < 10 ^ 18
def atT (a : At) : List Str := a.1.map unS ++ [dec a.2]
def atK (t : Nat) (a : At) : List Tk := a.1.map (fun b => Tk.sg (unS b) t) ++ [.num a.2]
def atV (a : At) : Res := a.1.foldr unR (.ok (a.2 : Int))
theorem sl_un (b : Bool) : sl (unS b) = 0 := by cases b <;> decide +kernel
theorem mem_un (b : Bool) : unS b ∈ sgs := by cases b <;> decide +kernel
theorem atT_tl (t : Nat) {a : At} (h : AtOk a) : Tl t (atT a) (atK t a) ∧ nsl (atT a) = 0 := by
  obtain ⟨ns, v⟩ := a
  have h0 : v < 10 ^ 18 := h.2
  have hv := dec_numT h0
  clear h
  induction ns with
  | nil => exact ⟨.num h0 .nil, by show nsl [dec v] = 0; rw [nsl_cons, sl_num hv]; rfl⟩
  | cons b r ih =>
    refine ⟨.sg (mem_un b) ?_, ?_⟩
    · rw [sl_un, Nat.add_zero]
      exact ih.1
    · show nsl (unS b :: atT (r, v)) = 0
      rw [nsl_cons, sl_un, ih.2]
theorem lt60 {v : Nat} (h : v < 10 ^ 18) : v < 2 ^ 60 := Nat.lt_trans h (by decide)
theorem atK_u0 (t : Nat) : ∀ (ns : List Bool) (v : Nat), v < 10 ^ 18 → U ns.length (ns.length + 1) 60 (atK t (ns, v)) (atV (ns, v))
  | [], v, h => U.num (lt60 h)
  | b :: r, v, h => U.un b t (atK_u0 t r v h)
theorem atK_u (t : Nat) {a : At} (h : AtOk a) : U 2 3 60 (atK t a) (atV a) := (atK_u0 t a.1 a.2 h.2).up h.1 (by have := h.1; omega)
/-- an atom in brackets -/
def brT1 (a : At) : List Str := "(" :: (atT a ++ [rp])
def brK1 (t : Nat) (a : At) : List Tk := .sg "(" t :: (atK t a ++ [.sg ")" (t + nsl (atT a))])
theorem brT1_tl (t : Nat) {a : At} (h : AtOk a) : Tl t (brT1 a) (brK1 t a) ∧ nsl (brT1 a) = 0 := by
  obtain ⟨h1, h2⟩ := atT_tl t h
  refine ⟨.sg (by decide +kernel) ?_, ?_⟩
  · rw [show sl "(" = 0 by decide +kernel, Nat.add_zero]
    exact h1.append (.sg (show rp ∈ sgs by decide +kernel) .nil)
  · show nsl ("(" :: (atT a ++ [rp])) = 0
    rw [nsl_cons, nsl_app, h2]
    decide +kernel
theorem brK1_u (t : Nat) {a : At} (h : AtOk a) : U 3 10 60 (brK1 t a) (atV a) := U.br1 t _ (atK_u t h)
/-! ### rows -/
abbrev Row := List (Str × At)
def restK (tk : Nat → At → List Tk) : Nat → Row → List Tk
  | _, [] => []
  | t, (s, a) :: r => .sg s t :: (tk (t + sl s) a ++ restK tk (t + sl s) r)
def restT (tt : At → List Str) : Row → List Str
  | [] => []
  | (s, a) :: r => s :: (tt a ++ restT tt r)
def slr (r : Row) : Nat := nsl (r.map (·.1))
theorem slr_cons (s : Str) (a : At) (r : Row) : slr ((s, a) :: r) = sl s + slr r := nsl_cons _ _
theorem slr_app (r q : Row) : slr (r ++ q) = slr r + slr q := by
  unfold slr
  rw [List.map_append, nsl_app]
theorem restK_app (tk : Nat → At → List Tk) : ∀ (r q : Row) (t : Nat), restK tk t (r ++ q) = restK tk t r ++ restK tk (t + slr r) q
  | [], q, t => rfl
  | (s, a) :: r, q, t => by
    show Tk.sg s t :: (tk (t + sl s) a ++ restK tk (t + sl s) (r ++ q)) = Tk.sg s t :: (tk (t + sl s) a ++ restK tk (t + sl s) r) ++ _
    rw [restK_app tk r q, slr_cons, Nat.add_assoc, List.cons_append, List.append_assoc]
/-- a row of atoms and signs stands right -/
def RowOk (L : Nat) (r : Row) : Prop := ∀ y ∈ r, AtOk y.2 ∧ ∃ j, L ≤ j ∧ y.1 ∈ lev j
theorem lev_sgs {s : Str} {j : Nat} (h : s ∈ lev j) : s ∈ sgs := by
  have all : ((List.range 5).all fun i => (lev i).all fun s => decide (s ∈ sgs)) = true := by decide +kernel
  exact of_decide_eq_true (List.all_eq_true.mp (List.all_eq_true.mp all j (List.mem_range.mpr (lev_far h))) s h)
theorem restT_tl {tt : At → List Str} {tk : Nat → At → List Tk} (h : ∀ t a, AtOk a → Tl t (tt a) (tk t a) ∧ nsl (tt a) = 0) : ∀ (r : Row) (t : Nat), RowOk 0 r → Tl t (restT tt r) (restK tk t r)
  | [], _, _ => .nil
  | (s, a) :: r, t, hr => by
    obtain ⟨ha, j, _, hj⟩ := hr (s, a) (List.mem_cons_self ..)
    refine .sg (lev_sgs hj) ((h _ a ha).1.append ?_)
    rw [(h 0 a ha).2, Nat.add_zero]
    exact restT_tl h r _ fun y hy => hr y (List.mem_cons_of_mem _ hy)
/-! ### held -/
def brT (F : List Str) (s : Str) (p : List Str) : List Str := "(" :: ((F ++ s :: p) ++ [rp])
def hd2 (p : At → Row → List Str) (S : List Str) (F : List Str) (s : Str) (ca : At) (cr : Row) : Row → List Str
  | [] => brT F s (p ca cr)
  | (s', a) :: r => if s' ∈ S then hd2 p S (brT F s (p ca cr)) s' a [] r else hd2 p S F s ca (cr ++ [(s', a)]) r
def hd1 (p : At → Row → List Str) (S : List Str) (ca : At) (cr : Row) : Row → List Str
  | [] => p ca cr
  | (s, a) :: r => if s ∈ S then hd2 p S (p ca cr) s a [] r else hd1 p S ca (cr ++ [(s, a)]) r
/-- n levels below -/
def hd : Nat → At → Row → List Str
  | 0, a, _ => brT1 a
  | n + 1, a, r => hd1 (hd n) (lev (4 - n)) a [] r
def OkTk (tk : Nat → At → List Tk) : Prop := ∀ t a, AtOk a → U 3 10 60 (tk t a) (atV a)
def PreB (n L : Nat) (kp : (Nat → At → List Tk) → List Tk) (b : Nat) (x : Res) : Prop := ∀ tk, OkTk tk → ∀ m, m + 3 ≤ 20 → ∃ k0 k1 b0 x0, kp tk = k0 ++ k1 ∧ Rd (11 + n) (L + 1) m b0 k0 x0 ∧ RdL (Rd (11 + n) (L + 1) m) L b0 x0 k1 b x
def PreH (t : Nat) (F : List Str) (q c : Nat) (x : Res) : Prop := ∃ ks, Tl t F ks ∧ nsl F = c ∧ U (2 + q) (3 + 7 * q) (60 * q) ks x
def RdB (n L : Nat) (kz : (Nat → At → List Tk) → List Tk) (b : Nat) (z : Res) : Prop := ∀ tk, OkTk tk → ∀ m, m + 3 ≤ 20 → Rd n L m b (kz tk) z
theorem PreB.first {n L b : Nat} {kz : (Nat → At → List Tk) → List Tk} {z : Res} (h : RdB (11 + n) (L + 1) kz b z) : PreB n L kz b z := fun tk ht m hm => ⟨kz tk, [], b, z, (List.append_nil _).symm, h tk ht m hm, .nil⟩
theorem PreB.snoc {n L b bz k : Nat} {s : Str} {kp kz : (Nat → At → List Tk) → List Tk} {x z : Res} (h : PreB n L kp b x) (hs : s ∈ lev L) (hz : RdB (11 + n) (L + 1) kz bz z) : PreB n L (fun tk => kp tk ++ .sg s k :: kz tk) (b + bz) (step s k x z) := fun tk ht m hm => by
  obtain ⟨k0, k1, b0, x0, e, h1, h2⟩ := h tk ht m hm
  exact ⟨k0, k1 ++ .sg s k :: kz tk, b0, x0, by show kp tk ++ Tk.sg s k :: kz tk = _; rw [e, List.append_assoc], h1, h2.snoc hs (hz tk ht m hm)⟩
theorem PreB.fin {n L b : Nat} {kp : (Nat → At → List Tk) → List Tk} {x : Res} (hL : L < 5) (h : PreB n L kp b x) : RdB (12 + n) L kp b x := fun tk ht m hm => by
  obtain ⟨k0, k1, b0, x0, e, h1, h2⟩ := h tk ht m hm
  rw [show 12 + n = 11 + n + 1 by omega]
  exact .inr (.inr ⟨hL, k0, k1, b0, x0, e, h1, h2⟩)
theorem PreH.bin {t q q' c c' L : Nat} {s : Str} {F P : List Str} {x z : Res} (hs : s ∈ lev L) (h : PreH t F q c x) (hp : PreH (t + c + sl s) P q' c' z) (h1 : 1 ≤ q) (h2 : 1 ≤ q') : PreH t (brT F s P) (q + q') (c + sl s + c') (step s (t + c) x z) := by
  obtain ⟨ks, a1, a2, a3⟩ := h
  obtain ⟨js, b1, b2, b3⟩ := hp
  refine ⟨.sg "(" t :: ((ks ++ .sg s (t + c) :: js) ++ [.sg ")" (t + (c + sl s + c'))]), ?_, ?_, ?_⟩
  · have e0 : sl "(" = 0 := by decide +kernel
    have e1 : nsl (F ++ s :: P) = c + sl s + c' := by rw [nsl_app, nsl_cons, a2, b2, Nat.add_assoc]
    have m1 : Tl t (F ++ s :: P) (ks ++ .sg s (t + c) :: js) := a1.append (by rw [a2]; exact .sg (lev_sgs hs) b1)
    have m2 := m1.append (vs := [rp]) (js := [.sg ")" (t + (c + sl s + c'))]) (by rw [e1]; exact .sg (show rp ∈ sgs by decide +kernel) .nil)
    exact .sg (by decide +kernel) (by rw [e0, Nat.add_zero]; exact m2)
  · show nsl ("(" :: ((F ++ s :: P) ++ [rp])) = _
    rw [nsl_cons, nsl_app, nsl_app, nsl_cons, a2, b2, show sl "(" = 0 by decide +kernel, show nsl [rp] = 0 by decide +kernel]
    omega
  · have z1 := U.bin (t + c) t (t + (c + sl s + c')) hs (a3.up (d' := 1 + q + q') (n' := 3 + 7 * (q + q' - 1)) (by omega) (by omega)) (b3.up (d' := 1 + q + q') (n' := 3 + 7 * (q + q' - 1)) (by omega) (by omega))
    rw [← Nat.mul_add] at z1
    exact z1.up (by omega) (by omega)
def Main (n : Nat) : Prop := ∀ (a : At) (r : Row) (t : Nat), AtOk a → RowOk (5 - n) r → ∃ x : Res, RdB (11 + n) (5 - n) (fun tk => tk t a ++ restK tk t r) (60 * (r.length + 1)) x ∧ PreH t (hd n a r) (r.length + 1) (slr r) x
theorem main0 : Main 0 := by
  intro a r t ha hr
  cases r with
  | cons y r =>
    obtain ⟨_, j, h1, h2⟩ := hr y (List.mem_cons_self ..)
    have := lev_far h2
    omega
  | nil =>
    refine ⟨atV a, fun tk ht m hm => ?_, brK1 t a, (brT1_tl t ha).1, (brT1_tl t ha).2, brK1_u t ha⟩
    show Rd 11 5 m 60 (tk t a ++ []) _
    rw [List.append_nil]
    exact .inr (.inl ⟨rfl, ht t a ha m hm⟩)
theorem hd2_ok {n : Nat} (M : Main n) (hn : n ≤ 4) (t : Nat) : ∀ (r : Row) (F : List Str) (s : Str) (ca : At) (cr : Row) (q c : Nat) (x : Res) (kp : (Nat → At → List Tk) → List Tk), 1 ≤ q → PreB n (4 - n) kp (60 * q) x → PreH t F q c x → s ∈ lev (4 - n) → AtOk ca → RowOk (5 - n) cr → RowOk (4 - n) r →
    ∃ y, PreB n (4 - n) (fun tk => kp tk ++ .sg s (t + c) :: (tk (t + c + sl s) ca ++ restK tk (t + c + sl s) (cr ++ r))) (60 * (q + 1 + cr.length + r.length)) y ∧ PreH t (hd2 (hd n) (lev (4 - n)) F s ca cr r) (q + 1 + cr.length + r.length) (c + sl s + slr (cr ++ r)) y := by
  have eL : 4 - n + 1 = 5 - n := by omega
  intro r
  induction r with
  | nil =>
    intro F s ca cr q c x kp hq hB hH hs hca hcr _
    obtain ⟨z, z1, z2⟩ := M ca cr (t + c + sl s) hca hcr
    refine ⟨step s (t + c) x z, ?_, ?_⟩
    · have p := hB.snoc (k := t + c) hs (by rw [eL]; exact z1)
      rw [← Nat.mul_add] at p
      rw [List.append_nil]
      simpa [Nat.add_assoc, Nat.add_comm, Nat.add_left_comm] using p
    · have p := PreH.bin hs hH z2 hq (by omega)
      rw [List.append_nil]
      show PreH t (brT F s (hd n ca cr)) (q + 1 + cr.length + 0) (c + sl s + slr cr) _
      rw [show q + 1 + cr.length + 0 = q + (cr.length + 1) by omega]
      exact p
  | cons y r ih =>
    obtain ⟨s', a⟩ := y
    intro F s ca cr q c x kp hq hB hH hs hca hcr hr
    obtain ⟨ha, j, hj1, hj2⟩ := hr (s', a) (List.mem_cons_self ..)
    have hr' : RowOk (4 - n) r := fun y hy => hr y (List.mem_cons_of_mem _ hy)
    by_cases h : s' ∈ lev (4 - n)
    · obtain ⟨z, z1, z2⟩ := M ca cr (t + c + sl s) hca hcr
      have p := hB.snoc (k := t + c) hs (by rw [eL]; exact z1)
      rw [← Nat.mul_add] at p
      have p2 := PreH.bin hs hH z2 hq (by omega)
      obtain ⟨y, y1, y2⟩ := ih (brT F s (hd n ca cr)) s' a [] (q + (cr.length + 1)) (c + sl s + slr cr) _ _ (by omega) p p2 h ha (fun _ hz => nomatch hz) hr'
      refine ⟨y, ?_, ?_⟩
      · intro tk ht m hm
        have g := y1 tk ht m hm
        dsimp only at g
        rw [List.nil_append] at g
        dsimp only
        rw [restK_app]
        have e1 : t + c + sl s + slr cr = t + (c + sl s + slr cr) := by omega
        have e2 : q + 1 + cr.length + ((s', a) :: r).length = q + (cr.length + 1) + 1 + ([] : Row).length + r.length := by
          rw [List.length_cons, List.length_nil]
          omega
        rw [e2]
        show ∃ k0 k1 b0 x0, kp tk ++ .sg s (t + c) :: (tk (t + c + sl s) ca ++ (restK tk (t + c + sl s) cr ++ (.sg s' (t + c + sl s + slr cr) :: (tk (t + c + sl s + slr cr + sl s') a ++ restK tk (t + c + sl s + slr cr + sl s') r)))) = k0 ++ k1 ∧ _
        rw [e1]
        simp only [List.append_assoc, List.cons_append] at g ⊢
        exact g
      · show PreH t (if s' ∈ lev (4 - n) then hd2 (hd n) (lev (4 - n)) (brT F s (hd n ca cr)) s' a [] r else _) _ _ y
        rw [if_pos h, slr_app, slr_cons]
        rw [show q + 1 + cr.length + ((s', a) :: r).length = q + (cr.length + 1) + 1 + ([] : Row).length + r.length by
          rw [List.length_cons, List.length_nil]
          omega, show c + sl s + (slr cr + (sl s' + slr r)) = c + sl s + slr cr + sl s' + slr ([] ++ r) by
          rw [List.nil_append]
          omega]
        exact y2
    · have hcr' : RowOk (5 - n) (cr ++ [(s', a)]) := fun y hy => by
        rcases List.mem_append.mp hy with hy | hy
        · exact hcr y hy
        · rw [List.mem_singleton.mp hy]
          refine ⟨ha, j, ?_, hj2⟩
          rcases Nat.lt_or_ge j (5 - n) with z | z
          · have e : j = 4 - n := by omega
            rw [e] at hj2
            exact absurd hj2 h
          · exact z
      obtain ⟨y, y1, y2⟩ := ih F s ca (cr ++ [(s', a)]) q c x kp hq hB hH hs hca hcr' hr'
      rw [List.append_assoc] at y1 y2
      rw [show q + 1 + (cr ++ [(s', a)]).length + r.length = q + 1 + cr.length + ((s', a) :: r).length by
        rw [List.length_append, List.length_cons, List.length_cons, List.length_nil]
        omega] at y1 y2
      refine ⟨y, y1, ?_⟩
      show PreH t (if s' ∈ lev (4 - n) then _ else hd2 (hd n) (lev (4 - n)) F s ca (cr ++ [(s', a)]) r) _ _ y
      rw [if_neg h]
      exact y2
theorem hd1_ok {n : Nat} (M : Main n) (hn : n ≤ 4) (t : Nat) : ∀ (r : Row) (ca : At) (cr : Row), AtOk ca → RowOk (5 - n) cr → RowOk (4 - n) r →
    ∃ y, PreB n (4 - n) (fun tk => tk t ca ++ restK tk t (cr ++ r)) (60 * (1 + cr.length + r.length)) y ∧ PreH t (hd1 (hd n) (lev (4 - n)) ca cr r) (1 + cr.length + r.length) (slr (cr ++ r)) y := by
  have eL : 4 - n + 1 = 5 - n := by omega
  intro r
  induction r with
  | nil =>
    intro ca cr hca hcr _
    obtain ⟨z, z1, z2⟩ := M ca cr t hca hcr
    have p : PreB n (4 - n) _ _ z := PreB.first (by rw [eL]; exact z1)
    refine ⟨z, ?_, ?_⟩
    · rw [List.append_nil, show 1 + cr.length + ([] : Row).length = cr.length + 1 by rw [List.length_nil]; omega]
      exact p
    · rw [List.append_nil, show 1 + cr.length + ([] : Row).length = cr.length + 1 by rw [List.length_nil]; omega]
      exact z2
  | cons y r ih =>
    obtain ⟨s', a⟩ := y
    intro ca cr hca hcr hr
    obtain ⟨ha, j, hj1, hj2⟩ := hr (s', a) (List.mem_cons_self ..)
    have hr' : RowOk (4 - n) r := fun y hy => hr y (List.mem_cons_of_mem _ hy)
    by_cases h : s' ∈ lev (4 - n)
    · obtain ⟨z, z1, z2⟩ := M ca cr t hca hcr
      have p : PreB n (4 - n) _ _ z := PreB.first (by rw [eL]; exact z1)
      obtain ⟨y, y1, y2⟩ := hd2_ok M hn t r (hd n ca cr) s' a [] (cr.length + 1) (slr cr) z _ (by omega) p z2 h ha (fun _ hz => nomatch hz) hr'
      have e2 : 1 + cr.length + ((s', a) :: r).length = cr.length + 1 + 1 + ([] : Row).length + r.length := by
        rw [List.length_cons, List.length_nil]
        omega
      refine ⟨y, ?_, ?_⟩
      · intro tk ht m hm
        have g := y1 tk ht m hm
        dsimp only at g
        rw [List.nil_append] at g
        dsimp only
        rw [restK_app, e2]
        show ∃ k0 k1 b0 x0, tk t ca ++ (restK tk t cr ++ (.sg s' (t + slr cr) :: (tk (t + slr cr + sl s') a ++ restK tk (t + slr cr + sl s') r))) = k0 ++ k1 ∧ _
        simp only [List.append_assoc, List.cons_append] at g ⊢
        exact g
      · show PreH t (if s' ∈ lev (4 - n) then hd2 (hd n) (lev (4 - n)) (hd n ca cr) s' a [] r else _) _ _ y
        rw [if_pos h, slr_app, slr_cons, e2, show slr cr + (sl s' + slr r) = slr cr + sl s' + slr ([] ++ r) by
          rw [List.nil_append]
          omega]
        exact y2
    · have hcr' : RowOk (5 - n) (cr ++ [(s', a)]) := fun y hy => by
        rcases List.mem_append.mp hy with hy | hy
        · exact hcr y hy
        · rw [List.mem_singleton.mp hy]
          refine ⟨ha, j, ?_, hj2⟩
          rcases Nat.lt_or_ge j (5 - n) with z | z
          · have e : j = 4 - n := by omega
            rw [e] at hj2
            exact absurd hj2 h
          · exact z
      obtain ⟨y, y1, y2⟩ := ih ca (cr ++ [(s', a)]) hca hcr' hr'
      rw [List.append_assoc] at y1 y2
      rw [show 1 + (cr ++ [(s', a)]).length + r.length = 1 + cr.length + ((s', a) :: r).length by
        rw [List.length_append, List.length_cons, List.length_cons, List.length_nil]
        omega] at y1 y2
      refine ⟨y, y1, ?_⟩
      show PreH t (if s' ∈ lev (4 - n) then _ else hd1 (hd n) (lev (4 - n)) ca (cr ++ [(s', a)]) r) _ _ y
      rw [if_neg h]
      exact y2
theorem main_ok : ∀ n, n ≤ 5 → Main n
  | 0, _ => main0
  | n + 1, h => fun a r t ha hr => by
    have e : 5 - (n + 1) = 4 - n := by omega
    rw [e] at hr
    obtain ⟨y, y1, y2⟩ := hd1_ok (main_ok n (by omega)) (by omega) t r a [] ha (fun _ hz => nomatch hz) hr
    rw [List.nil_append, show 1 + ([] : Row).length + r.length = r.length + 1 by rw [List.length_nil]; omega] at y2
    refine ⟨y, ?_, y2⟩
    have p := PreB.fin (by omega) y1
    rw [e, show 11 + (n + 1) = 12 + n by omega]
    rw [show 1 + ([] : Row).length + r.length = r.length + 1 by rw [List.length_nil]; omega] at p
    exact p
/-! ### the five rows of texts are worth the same -/
/-- the texts are worth r -/
def Good (us : List Str) (r : Res) : Prop := ∃ ks b, Tl 0 us ks ∧ Rd 80 0 0 b ks r ∧ b ≤ 8000
def bareT (a : At) (r : Row) : List Str := atT a ++ restT atT r
def apartT (a : At) (r : Row) : List Str := brT1 a ++ restT brT1 r
theorem good_all (a : At) (r : Row) (ha : AtOk a) (hr : RowOk 0 r) (hl : r.length ≤ 6) : ∃ x, Good (bareT a r) x ∧ Good (hd 5 a r) x ∧ Good (apartT a r) x ∧ Good ("(" :: (bareT a r ++ [rp])) x := by
  obtain ⟨x, h1, ks, h2, h3, h4⟩ := main_ok 5 (Nat.le_refl _) a r 0 ha hr
  have oa : OkTk atK := fun t a h => (atK_u t h).up (by decide) (by decide)
  have ob : OkTk brK1 := fun t a h => brK1_u t h
  have hb : 60 * (r.length + 1) ≤ 8000 := by omega
  have tb : Tl 0 (bareT a r) (atK 0 a ++ restK atK 0 r) := (atT_tl 0 ha).1.append (by rw [(atT_tl 0 ha).2]; exact restT_tl (fun t a h => atT_tl t h) r _ hr)
  refine ⟨x, ⟨_, _, tb, (h1 atK oa 0 (by decide)).up (by decide), hb⟩, ⟨ks, _, h2, ?_, hb⟩, ⟨brK1 0 a ++ restK brK1 0 r, _, ?_, (h1 brK1 ob 0 (by decide)).up (by decide), hb⟩, ⟨.sg "(" 0 :: ((atK 0 a ++ restK atK 0 r) ++ [.sg ")" (nsl (bareT a r))]), 60 * (r.length + 1), ?_, ?_, hb⟩⟩
  · have z := h4 0 (by omega)
    exact (Rd.downs 6 0 (by decide) z).up (by omega)
  · exact (brT1_tl 0 ha).1.append (by rw [(brT1_tl 0 ha).2]; exact restT_tl (fun t a h => brT1_tl t h) r _ hr)
  · refine .sg (by decide +kernel) ?_
    rw [show sl "(" = 0 by decide +kernel]
    have z := tb.append (vs := [rp]) (js := [.sg ")" (0 + nsl (bareT a r))]) (.sg (show rp ∈ sgs by decide +kernel) .nil)
    rw [Nat.zero_add] at z
    exact z
  · have z : U 4 17 (60 * (r.length + 1)) (.sg "(" 0 :: ((atK 0 a ++ restK atK 0 r) ++ [.sg ")" (nsl (bareT a r))])) x := U.br (d := 3) (n := 16) 0 _ fun m hm => h1 atK oa m hm
    exact (Rd.downs 6 0 (by decide) (z 0 (by decide))).up (by decide)
end Bp

/-! text: D29 -/
set_option Elab.async false
set_option linter.all false
set_option maxRecDepth 100000
set_option maxHeartbeats 4000000
/-! has_told -/
namespace Bp
open PySem PySem.Spec PyProof.Rows L2 NdefX LamX
section
variable {P : Program} {w : World} {K : PySem.W.Frag} {mg : Str → Option Value} {base : Heap}
theorem drop_cons' {α : Type} {l : List α} {i : Nat} {a : α} {r : List α} (h : l.drop i = a :: r) : l[i]? = some a ∧ l.drop (i + 1) = r := by
  refine ⟨?_, ?_⟩
  · have z : (l.drop i)[0]? = some a := by rw [h]; rfl
    rw [List.getElem?_drop] at z
    exact z
  · have z := congrArg List.tail h
    rw [List.tail_drop] at z
    exact z
theorem ne_none_of {H H' : Hp} {r : Addr} (s : Same H H') (h : H' r = none) : H r = none := Dom.same s r h
def spHasTold (K : PySem.W.Frag) : Sp := fun vs H Q _ => ∃ (l bk : Addr) (ev : V) (ps : List Addr) (ts : List (Str × Int)) (is : List (Addr ⊕ Str)), vs = [.ref l, .ref bk, ev] ∧ BookAt K H bk ∧ H l = some (.lst (ps.map V.ref)) ∧ Paired (fun a (t : Str × Int) => PcD K H a t.1 t.2) ps ts ∧ ts.length ≤ 3000 ∧ (∀ t ∈ ts, t.1.length ≤ 2000) ∧ HsR ps ts is ∧
  ∀ r H' xs, H r = none → Same H H' → H' r = some (.lst (xs.map V.ref)) → Paired (ItR K H') is xs → xs.length ≤ ts.length → Q (.ref r) H'
def HtW (K : PySem.W.Frag) (H : Hp) (l bk : Addr) (ev : V) (D r : Addr) (ps : List Addr) (ts : List (Str × Int)) (is : List (Addr ⊕ Str)) (kvs : List (Key × V)) (m : Nat) (σ : L2.St) (H' : Hp) : Prop :=
  ∃ (i : Nat) (id ir : List (Addr ⊕ Str)) (xs : List Addr) (o4 o7 o8 o9 : Option V),
    σ = [some (.ref l), some (.ref bk), some ev, some (.ref D), o4, some (.ref r), some (.int ((i : Nat) : Int)), o7, o8, o9] ∧ m = ts.length - i ∧ i ≤ ts.length ∧ HsR (ps.drop i) (ts.drop i) ir ∧ id ++ ir = is ∧ Same H H' ∧ H' D = some (.dK kvs) ∧ H' r = some (.lst (xs.map V.ref)) ∧ Paired (ItR K H') id xs ∧ xs.length ≤ i
theorem sc_has_told : FnScope ["pieces", "book", "end", "known", "name", "found", "at", "piece", "bracket", "told"] ["pieces", "book", "end"] (defScope s_has_told) := ⟨rfl, rfl, rfl, by decide +kernel, rfl, by decide +kernel, by decide +kernel⟩
theorem ok_has_told (T : Top w K mg) : GOk P w K mg base CX0 3 "has_told" ["pieces", "book", "end"] (spHasTold K) := by
  obtain ⟨fd, F⟩ := T.f_has_told
  refine ⟨_, fd, T.g_has_told, F.kp, F.bindsN fun _ _ _ _ _ _ us hl => match us, hl with | [_, _, _], _ => rfl, ok0 F sc_has_told (fun vs H Q E h => ?_) (fun cdv A outer s H vs Q E hr h => ?_)⟩
  · obtain ⟨l, bk, ev, ps, ts, is, rfl, _⟩ := h
    rfl
  · obtain ⟨l, bk, ev, ps, ts, is, rfl, hb, h1, h2, h3, h4, h5, q⟩ := h
    have m_Book_names := ok_names (P := P) (base := base) T
    have g_text_at := ok_text_at (P := P) (base := base) T
    have g_need := ok_need (P := P) (base := base) T
    have g_is_name := ok_is_name (P := P) (base := base) T
    have c_Piece := ok_Piece2 (P := P) (base := base) T
    obtain ⟨dxb, kd, m0, mm1, mm2, mm3, hbk, _⟩ := id hb
    refine ⟨_, (pss_cons (ps_setDc (i := 3) (own := [("name", 4)]) (tt := tYes) (by rfl) sc_has_told.nd rfl rfl (sw_trueD rfl rfl rfl (by decide +kernel)) (pi_list (pe_m0 m_Book_names hr (by decide) pass0 (pv 1))) (blkOk_by (own := [("name", 4)]) (N := ["pieces", "book", "end", "known", "name", "found", "at", "piece", "bracket", "told"]) (sc := defScope s_has_told) (by decide +kernel)) (fun _ _ _ _ _ => (pg_name (i := 4) sc_has_told.nd rfl (Or.inl rfl))) (fun _ _ _ _ _ => pts_nil) (fun _ _ _ _ _ => (pv 4)) (fun _ _ _ _ _ => pe_bl))
      (pss_cons (ps_set (i := 5) sc_has_told.nd rfl (Or.inl rfl) (pe_lst pa_nil))
      (pss_cons (ps_set (i := 6) sc_has_told.nd rfl (Or.inl rfl) pe_int)
      (pss_cons (ps_while PassesOwn.never (pt_cmpR op_lt (pv 6) (pe_callB call_len_seq (by rfl) T.b_len PySem.boot_len (pa_cons (pv 0) pa_nil)) (nomark _))
        (pss_cons (ps_set (i := 7) sc_has_told.nd rfl (Or.inl rfl) (pe_ix ix_list (pv 0) (pv 6) (fun _ _ => rfl)))
      (pss_cons (ps_aug (i := 6) sc_has_told.nd rfl (Or.inl rfl) pe_int ip_add)
      (pss_cons (ps_if (pt_cmpR op_eq (pe_fld (pv 7) rfl) pe_str (nomark _))
        (pss_cons (ps_set (i := 8) sc_has_told.nd rfl (Or.inl rfl) (pe_cmpR op_eq (pe_g g_text_at hr (by decide) pass0 (pa_cons (pv 0) (pa_cons (pv 6) pa_nil))) pe_str (nomark _)))
      (pss_cons (ps_aug (i := 6) sc_has_told.nd rfl (Or.inl rfl) (pe_callTy call_int1 (by rfl) T.b_int (by decide +kernel) (pa_cons (pv 8) pa_nil)) ip_add)
      (pss_cons (ps_expr (pe_g g_need hr (by decide) pass0 (pa_cons (pv 0) (pa_cons (pv 6) (pa_cons (pv 2) (pa_cons (pe_g g_is_name hr (by decide) pass0 (pa_cons (pe_g g_text_at hr (by decide) pass0 (pa_cons (pv 0) (pa_cons (pv 6) pa_nil))) pa_nil)) pa_nil))))))
      (pss_cons (ps_set (i := 9) sc_has_told.nd rfl (Or.inl rfl) (pe_callTy call_str_int (by rfl) T.b_str (by decide +kernel) (pa_cons (pe_callTy call_int1 (by rfl) T.b_int (by decide +kernel) (pa_cons (pe_cmp (pc_din (hu_of hr) (pe_fld (pe_ix ix_list (pv 0) (pv 6) (fun _ _ => rfl)) rfl) (pv 3))) pa_nil)) pa_nil)))
      (pss_cons (ps_aug (i := 6) sc_has_told.nd rfl (Or.inl rfl) pe_int ip_add)
      (pss_cons (ps_if (pt_val (pv 8))
        (pss_cons (ps_expr (pe_g g_need hr (by decide) pass0 (pa_cons (pv 0) (pa_cons (pv 6) (pa_cons (pv 2) (pa_cons (pe_cmpR op_eq (pe_g g_text_at hr (by decide) pass0 (pa_cons (pv 0) (pa_cons (pv 6) pa_nil))) pe_str (nomark _)) pa_nil))))))
      (pss_one (ps_aug (i := 6) sc_has_told.nd rfl (Or.inl rfl) pe_int ip_add)))
        pss_nil)
      (pss_one (ps_set (i := 7) sc_has_told.nd rfl (Or.inl rfl) (pe_c c_Piece hr (by decide) pass0 (pa_cons (pv 9) (pa_cons (pe_tup (pa_cons (pe_ix ix_tup (pe_fld (pv 7) rfl) pe_int (fun _ _ => rfl)) pa_nil)) pa_nil)))))))))))
        pss_nil)
      (pss_one (ps_expr (pe_bm PySem.F.plainAttrs_list PySem.F.slot_list_append PySem.F.type_list_append mt_append (pv 5) (pa_cons (pv 7) pa_nil))))))))
      (pss_one (ps_ret (pv 5))))))), ?_⟩
    refine ⟨_, rfl, bk, dxb, _, rfl, hbk, rfl, bk, rfl, hb, fun ys p hys hp => ?_⟩
    have s1 := same_upd hp (.lst (ys.map V.str))
    have hp1 : (upd H p (.lst (ys.map V.str))) p = some (.lst (ys.map V.str)) := upd_same
    generalize upd H p (.lst (ys.map V.str)) = H1 at s1 hp1 ⊢
    refine ⟨p, rfl, ⟨_, SqL.of hp1⟩, fun D hD => dc_list (xs := ys.map V.str) (fun i H2 => H2 = upd H1 D (.dK (kn (ys.take i)))) rfl ?_ ?_ ?_⟩
    · rintro i H2 hi rfl
      exact SqL.of (same_upd hD _ _ _ hp1)
    · rintro i x H2 hx rfl
      rw [List.getElem?_map] at hx
      obtain ⟨y, hy, rfl⟩ : ∃ y, ys[i]? = some y ∧ x = V.str y := by
        cases e : ys[i]? with
        | none =>
          rw [e] at hx
          cases hx
        | some y =>
          rw [e] at hx
          exact ⟨y, rfl, (Option.some.inj hx).symm⟩
      refine ⟨rfl, ?_⟩
      rw [tYes, if_pos rfl]
      have hkl := kn_len (ys.take i)
      have hyl : ys.length = 4 := hys.length_eq
      rw [List.length_take] at hkl
      refine ⟨_, rfl, kn (ys.take i), Sum.inr y, rfl, upd_same, ?_, ?_⟩
      · rw [sizeLine_eq]
        omega
      · rw [upd_upd, List.take_succ, hy]
        show _ = upd H1 D (.dK (kn (ys.take i ++ [y])))
        rw [kn_snoc]
    · rintro H2 rfl
      rw [List.length_map, List.take_length]
      have s2 := s1.trans (same_upd hD (.dK (kn ys)))
      have hD2 : (upd H1 D (.dK (kn ys))) D = some (.dK (kn ys)) := upd_same
      have hPn : H1 D = none := hD
      generalize upd H1 D (.dK (kn ys)) = H2 at s2 hD2 ⊢
      refine ⟨Nat.zero_le _, fun r hr => ?_⟩
      have s3 := s2.trans (same_upd hr (.lst []))
      have hDr : D ≠ r := fun z => by
        rw [← z, hD2] at hr
        cases hr
      have hD3 : (upd H2 r (.lst [])) D = some (.dK (kn ys)) := (upd_ne hDr).trans hD2
      have hr3 : (upd H2 r (.lst [])) r = some (.lst []) := upd_same
      have hrH : H r = none := ne_none_of s2 hr
      generalize upd H2 r (.lst []) = H3 at s3 hD3 hr3 ⊢
      refine ⟨HtW K H l bk ev D r ps ts is (kn ys), ⟨_, 0, [], is, [], _, _, _, _, rfl, rfl, Nat.zero_le _, h5, rfl, s3, hD3, hr3, .nil, Nat.zero_le _⟩, ?_⟩
      rintro m σ H' ⟨i, id, ir, xs, o4, o7, o8, o9, rfl, rfl, hi, hhs, hid, hsm, hD', hr', hpx, hlx⟩
      have hlen : ps.length = ts.length := Paired.length h2
      refine ⟨_, rfl, _, rfl, l, _, rfl, .inl (SqL.of (hsm _ _ h1)), _, _, rfl, rfl, _, rfl, ?_⟩
      rw [List.length_map]
      by_cases hc : ((i : Nat) : Int) < ((ps.length : Nat) : Int)
      · rw [decide_eq_true hc]
        refine iteT ⟨fun σ' H'' => ∃ m', m' < ts.length - i ∧ HtW K H l bk ev D r ps ts is (kn ys) m' σ' H'', fun _ _ h => h, ?_⟩
        have hrow : RowAt K H' l ts := Same.row hsm ⟨ps, h1, h2, h3⟩
        have dS : ∀ {a b : Str}, a = b → decide (V.str a = V.str b) = true := fun z => decide_eq_true (congrArg V.str z)
        have dN : ∀ {a b : Str}, ¬ a = b → decide (V.str a = V.str b) = false := fun z => decide_eq_false fun y => z (V.str.inj y)
        have at_ : ∀ {j : Nat} {a : Addr}, ps[j]? = some a → (ps.map V.ref)[j]? = some (V.ref a) := fun z => by rw [List.getElem?_map, z]; rfl
        generalize e1 : ps.drop i = dp at hhs
        generalize e2 : ts.drop i = dt at hhs
        cases hhs with
        | nil =>
          have := List.drop_eq_nil_iff.mp e1
          omega
        | keep hne hrest =>
          rename_i a t ps' ts' ir'
          obtain ⟨f1, f2⟩ := drop_cons' e1
          obtain ⟨f3, f4⟩ := drop_cons' e2
          obtain ⟨t', f5, hpd⟩ := Paired.at1 h2 f1
          have et : t' = t := Option.some.inj (f5.symm.trans f3)
          subst et
          obtain ⟨dx, sa, pa, g, sgs, pg, rw', wv, g1, _⟩ := Same.pd hsm hpd
          refine ⟨_, rfl, _, rfl, l, _, _, _, rfl, rfl, SqL.of (hsm _ _ h1), atI_nat (j := i) (at_ f1), ?_⟩
          refine ⟨_, rfl, _, _, rfl, rfl, ?_⟩
          refine ⟨_, rfl, a, _, dx, _, _, rfl, g1, T.c_Piece, T.n_Piece_text, pFs_text _ _ _, rfl, _, rfl, ?_⟩
          rw [dN hne]
          refine iteF ?_
          refine ⟨_, rfl, .inl ⟨rfl, _, SqL.of hr'⟩, _, rfl, r, _, _, rfl, rfl, hr', ?_, ?_⟩
          · rw [List.length_map, sizeLine_eq]
            omega
          have sb := but_upd (H := H') r (.lst (xs.map V.ref ++ [V.ref a]))
          refine ⟨ts.length - (i + 1), by omega, i + 1, id ++ [.inl a], ir', xs ++ [a], _, _, _, _, rfl, rfl, by omega, by rw [f2, f4]; exact hrest, by rw [List.append_assoc]; exact hid, fun b o q => sb _ _ (ne_of_none q hrH) (hsm _ _ q), (upd_ne hDr).trans hD', ?_, ?_, ?_⟩
          · rw [upd_same, List.map_append]
            rfl
          · exact Paired.snoc (Paired.mapP hpx fun _ _ q => it_but sb hr' q) rfl
          · rw [List.length_append]
            show xs.length + 1 ≤ i + 1
            omega
        | has hx hrest =>
          rename_i a a1 c x d ps' ts' ir'
          obtain ⟨f1, f2⟩ := drop_cons' e1
          obtain ⟨f3, f4⟩ := drop_cons' e2
          obtain ⟨f5, f6⟩ := drop_cons' f2
          obtain ⟨f7, f8⟩ := drop_cons' f4
          obtain ⟨t', f9, hpd⟩ := Paired.at1 h2 f1
          have et : t' = ((("has" : Str), c) : Str × Int) := Option.some.inj (f9.symm.trans f3)
          subst et
          obtain ⟨t', f10, hpd1⟩ := Paired.at1 h2 f5
          have et : t' = x := Option.some.inj (f10.symm.trans f7)
          subst et
          obtain ⟨dx, sa, pa, g, sgs, pg, rw', wv, g1, g2, g3, g4⟩ := Same.pd hsm hpd
          obtain ⟨dx1, sa1, pa1, ga1, sgs1, pg1, rw1, wv1, k1, _⟩ := Same.pd hsm hpd1
          have hx1 : i + 1 < ts.length := (List.getElem?_eq_some_iff.mp f7).1
          have htx : textAt ts (i + 1) = t'.1 := by
            unfold textAt
            rw [f7]
          have hnb : ¬ t'.1 = "(" := by rcases hx with ⟨z, _⟩ | ⟨z, _⟩ <;> rw [z] <;> decide +kernel
          have hlt : headLetter t'.1 = true := by rcases hx with ⟨z, _⟩ | ⟨z, _⟩ <;> rw [z] <;> decide +kernel
          have hl0 : t'.1.length ≠ 0 := by rcases hx with ⟨z, _⟩ | ⟨z, _⟩ <;> rw [z] <;> decide +kernel
          have hl1 : t'.1.length ≤ sizeLine := by rcases hx with ⟨z, _⟩ | ⟨z, _⟩ <;> rw [z] <;> decide +kernel
          refine ⟨_, rfl, _, rfl, l, _, _, _, rfl, rfl, SqL.of (hsm _ _ h1), atI_nat (j := i) (at_ f1), ?_⟩
          refine ⟨_, rfl, _, _, rfl, rfl, ?_⟩
          refine ⟨_, rfl, a, _, dx, _, _, rfl, g1, T.c_Piece, T.n_Piece_text, pFs_text _ _ _, rfl, _, rfl, ?_⟩
          rw [dS (show ((("has" : Str), c) : Str × Int).1 = Str.ofString "has" from rfl)]
          refine iteT ?_
          refine ⟨_, rfl, _, rfl, l, ts, i + 1, rfl, hrow, ?_⟩
          rw [htx]
          have hbv : decide (V.str t'.1 = V.str (Str.ofString "(")) = false := dN hnb
          refine ⟨rfl, _, rfl, _, rfl, .inr ⟨_, rfl, _, _, rfl, rfl, ?_⟩⟩
          rw [hbv]
          refine ⟨_, rfl, _, rfl, _, rfl, _, rfl, _, rfl, l, ts, i + 1, rfl, hrow, ?_⟩
          rw [htx]
          refine ⟨_, rfl, hl0, hl1, ?_⟩
          rw [hlt]
          refine ⟨l, ts, i + 1, ev, rfl, hrow, hx1, ?_⟩
          refine ⟨_, rfl, _, rfl, l, _, _, _, rfl, rfl, SqL.of (hsm _ _ h1), atI_nat (j := i + 1) (at_ f5), a1, _, dx1, _, _, rfl, k1, T.c_Piece, T.n_Piece_text, pFs_text _ _ _, _, rfl, D, _, rfl, DGet.k (k := Sum.inr t'.1) hD', ?_⟩
          obtain ⟨j, hj, hjv, hdj⟩ : ∃ j : Nat, j.log2 < 1920 ∧ (if (valV (kn ys) (Sum.inr t'.1 : Key)).isSome = true then (1 : Int) else 0) = ((j : Nat) : Int) ∧ d = dec j := by
            rw [kn_val t'.1 _ ys rfl]
            rcases hx with ⟨z, z2⟩ | ⟨z, z2⟩
            · refine ⟨0, by decide +kernel, ?_, by rw [z2]; decide +kernel⟩
              rw [z, decide_eq_false (fun w => absurd (hys.mem_iff.mp w) (show ¬ (("no" : Str) ∈ bkNames) by decide +kernel))]
              rfl
            · refine ⟨1, by decide +kernel, ?_, by rw [z2]; decide +kernel⟩
              rw [z, decide_eq_true (hys.mem_iff.mpr (show ("p1" : Str) ∈ bkNames by decide +kernel))]
              rfl
          refine .inr ⟨_, rfl, ?_⟩
          rw [hjv]
          refine ⟨_, rfl, hj, ?_⟩
          refine ⟨_, rfl, _, _, rfl, rfl, _, rfl, _, rfl, iteF ?_⟩
          refine ⟨_, rfl, _, rfl, a, _, dx, _, _, rfl, g1, T.c_Piece, T.n_Piece_signs, pFs_signs _ _ _, sa, _, 0, _, rfl, rfl, g2, atI_nat (j := 0) g3, (by show 1 ≤ sizeLine; decide), fun l2 hl2 => ?_⟩
          intro x dx' hxx hdx hne
          have s12 := same_upd hl2 (.tup [.ref g])
          have s34 := same_made (o := .ins (He.ga K "Piece") dx' (pFs (dec j) l2 (He.dflAt ("Piece", some "__init__") 0 K))) hxx hdx
          refine ⟨x, dx', l2, _, dec j, rfl, upd_same, rfl, ?_⟩
          rw [upd_upd]
          have s14 := s12.trans s34
          have npc : PcD K (upd (upd (upd H' l2 (.tup [.ref g])) dx' (.own x)) x (.ins (He.ga K "Piece") dx' (pFs (dec j) l2 (He.dflAt ("Piece", some "__init__") 0 K)))) x (dec j) c :=
            ⟨dx', l2, _, g, [.ref g], pg, rw', wv, upd_same, SqT.of (s34 _ _ upd_same), rfl, Same.sqt s14 g4⟩
          generalize (upd (upd (upd H' l2 (.tup [.ref g])) dx' (.own x)) x (.ins (He.ga K "Piece") dx' (pFs (dec j) l2 (He.dflAt ("Piece", some "__init__") 0 K)))) = H4 at s34 s14 npc ⊢
          have hr4 := s14 _ _ hr'
          refine ⟨_, rfl, .inl ⟨rfl, _, SqL.of hr4⟩, _, rfl, r, _, _, rfl, rfl, hr4, ?_, ?_⟩
          · rw [List.length_map, sizeLine_eq]
            omega
          have sb := but_upd (H := H4) r (.lst (xs.map V.ref ++ [V.ref x]))
          refine ⟨ts.length - (i + 1 + 1), by omega, i + 1 + 1, id ++ [.inr d], ir', xs ++ [x], _, _, _, _, rfl, rfl, by omega, by rw [f6, f8]; exact hrest, by rw [List.append_assoc]; exact hid, fun b o q => sb _ _ (ne_of_none q hrH) (s14 _ _ (hsm _ _ q)), (upd_ne hDr).trans (s14 _ _ hD'), ?_, ?_, ?_⟩
          · rw [upd_same, List.map_append]
            rfl
          · refine Paired.snoc (Paired.mapP hpx fun _ _ q => it_but sb hr4 (it_same s14 q)) ⟨c, ?_⟩
            rw [hdj]
            exact pd_but sb hr4 npc
          · rw [List.length_append]
            show xs.length + 1 ≤ i + 1 + 1
            omega
      · rw [decide_eq_false hc]
        refine iteF ?_
        have hie : i = ts.length := by omega
        rw [hie] at hhs
        rw [List.drop_of_length_le (by omega), List.drop_of_length_le (Nat.le_refl _)] at hhs
        cases hhs
        rw [List.append_nil] at hid
        subst hid
        exact ⟨_, rfl, q r H' xs hrH hsm hr' hpx (by omega)⟩
end
end Bp

/-! text: D9 -/
set_option Elab.async false
set_option linter.all false
set_option maxRecDepth 100000
set_option maxHeartbeats 4000000
/-! conditions: read as a tree, the walk -/
namespace Bp
open PySem PySem.Spec PyProof.Rows L2
theorem EvL.monoF {F G : Nat → V → Res → Prop} {H : Hp} {f : Int → Nat} (h : ∀ b v r, F b v r → G b v r) : ∀ {b r vs b' r'}, EvL F H f b r vs b' r' → EvL G H f b r vs b' r' := EvL.mono (fun _ _ q => q) h
theorem Ev.up {H : Hp} {f : Int → Nat} : ∀ {n b v r}, Ev H f n b v r → Ev H f (n + 1) b v r
  | 0, _, _, _, h => h.elim
  | n + 1, b, v, r, h => by
    rcases h with h | ⟨a, u, x, neg, h1, h2, h3, h4⟩ | ⟨a, l, u, x, vs, b0, h1, h2, h3, h4, h5⟩
    · exact .inl h
    · exact .inr (.inl ⟨a, u, x, neg, h1, h2, Ev.up h3, h4⟩)
    · exact .inr (.inr ⟨a, l, u, x, vs, b0, h1, h2, h3, Ev.up h4, h5.monoF fun _ _ _ q => Ev.up q⟩)
/-- an instance with not three fields is written: texts' rows stay -/
theorem sqt_butI {K : PySem.W.Frag} {H H' : Hp} {a p C dx : Addr} {fs : List (Str × V)} {xs : List V} (e : SameBut p H H') (hp : H p = some (.ins C dx fs)) (h : SqT K H a xs) : SqT K H' a xs := by
  rcases h with (h | ⟨o, h⟩) | h
  · exact .inl (.inl (e _ _ (ne_of h hp fun z => nomatch z) h))
  · exact .inl (.inr ⟨o, e _ _ (ne_of h hp fun z => nomatch z) h⟩)
  · exact .inr h
theorem sg_butI {K : PySem.W.Frag} {H H' : Hp} {p C dx : Addr} {fs : List (Str × V)} {v : V} {c : Int} (e : SameBut p H H') (hp : H p = some (.ins C dx fs)) (h : SgAt K H v c) : SgAt K H' v c := by
  obtain ⟨a, w, pg, rw, ws, h1, h2, h3, h4⟩ := h
  exact ⟨a, w, pg, rw, ws, h1, sqt_butI e hp h2, sqt_butI e hp h3, h4⟩
theorem pc_butI {K : PySem.W.Frag} {H H' : Hp} {a p C dx : Addr} {fs : List (Str × V)} {t : Str} {c : Int} {pn : List Str} (e : SameBut p H H') (hp : H p = some (.ins C dx fs)) (hf : fs.length ≠ 3) (h : PcAt K H a t c pn) : PcAt K H' a t c pn := by
  obtain ⟨dx', sa, pa, sgs, h1, h2, h3, h4, h5, h6, h7⟩ := h
  have hne : a ≠ p := ne_of h1 hp fun z => by
    have e := (HO.ins.inj z).2.2
    rw [← e] at hf
    exact hf rfl
  exact ⟨dx', sa, pa, sgs, e _ _ hne h1, sqt_butI e hp h2, h3, h4, fun v hv => let ⟨c, z⟩ := h5 v hv; ⟨c, sg_butI e hp z⟩, fun v hv => sg_butI e hp (h6 v hv), sqt_butI e hp h7⟩
theorem pd_butI {K : PySem.W.Frag} {H H' : Hp} {a p C dx : Addr} {fs : List (Str × V)} {t : Str} {c : Int} (e : SameBut p H H') (hp : H p = some (.ins C dx fs)) (hf : fs.length ≠ 3) (h : PcD K H a t c) : PcD K H' a t c := by
  obtain ⟨dx', sa, pa, g, sgs, pg, rw, w, h1, h2, h3, h4⟩ := h
  have hne : a ≠ p := ne_of h1 hp fun z => by
    have e := (HO.ins.inj z).2.2
    rw [← e] at hf
    exact hf rfl
  exact ⟨dx', sa, pa, g, sgs, pg, rw, w, e _ _ hne h1, sqt_butI e hp h2, h3, sqt_butI e hp h4⟩
theorem row_but {K : PySem.W.Frag} {H H' : Hp} {l p C dx : Addr} {fs : List (Str × V)} {ts : List (Str × Int)} (e : SameBut p H H') (hp : H p = some (.ins C dx fs)) (hf : fs.length ≠ 3) (h : RowAt K H l ts) : RowAt K H' l ts := by
  obtain ⟨ps, h1, h2, h3⟩ := h
  exact ⟨ps, e _ _ (ne_of h1 hp fun z => nomatch z) h1, Paired.mapP h2 fun _ _ q => pd_butI e hp hf q, h3⟩
/-- ks stands at i, rest behind it -/
def InRow (f : Int → Nat) (ts : List (Str × Int)) (i : Nat) (ks rest : List Tk) : Prop := ∃ pre : List Tk, RowR f ts (pre ++ (ks ++ rest)) ∧ pre.length = i
theorem InRow.head {f : Int → Nat} {ts : List (Str × Int)} {i : Nat} {k : Tk} {ks rest : List Tk} (h : InRow f ts i (k :: ks) rest) : ∃ t, ts[i]? = some t ∧ TkR f t k := by
  obtain ⟨pre, h1, h2⟩ := h
  refine Paired.at_ h1 ?_
  rw [← h2, List.getElem?_append_right (Nat.le_refl _), Nat.sub_self]
  rfl
theorem InRow.left {f : Int → Nat} {ts : List (Str × Int)} {i : Nat} {k0 k1 rest : List Tk} (h : InRow f ts i (k0 ++ k1) rest) : InRow f ts i k0 (k1 ++ rest) := by
  obtain ⟨pre, h1, h2⟩ := h
  refine ⟨pre, ?_, h2⟩
  rw [List.append_assoc] at h1
  exact h1
theorem InRow.right {f : Int → Nat} {ts : List (Str × Int)} {i : Nat} {k0 k1 rest : List Tk} (h : InRow f ts i (k0 ++ k1) rest) : InRow f ts (i + k0.length) k1 rest := by
  obtain ⟨pre, h1, h2⟩ := h
  refine ⟨pre ++ k0, ?_, by rw [List.length_append, h2]⟩
  rw [List.append_assoc] at h1 ⊢
  exact h1
theorem InRow.tail {f : Int → Nat} {ts : List (Str × Int)} {i : Nat} {k : Tk} {ks rest : List Tk} (h : InRow f ts i (k :: ks) rest) : InRow f ts (i + 1) ks rest := InRow.right (k0 := [k]) h
theorem InRow.stop {f : Int → Nat} {ts : List (Str × Int)} {i L j : Nat} {rest : List Tk} (h : InRow f ts i [] rest) (s : Stop L rest) (hj : L ≤ j) : textAt ts i ∉ lev j := by
  cases rest with
  | nil =>
    obtain ⟨pre, h1, h2⟩ := h
    have e : ts[i]? = none := by
      rw [List.getElem?_eq_none_iff, Paired.length h1, List.append_nil, List.append_nil, h2]
      exact Nat.le_refl _
    unfold textAt
    rw [e]
    intro z
    have hb : ∀ k, k < 5 → ¬ ((" " : Str) ∈ lev k) := by
      intro k hk
      match k, hk with
      | 0, _ | 1, _ | 2, _ | 3, _ | 4, _ => decide +kernel
    exact hb j (lev_far z) z
  | cons t r =>
    have h' : InRow f ts i (t :: r) [] := by
      obtain ⟨pre, h1, h2⟩ := h
      exact ⟨pre, by rw [List.append_nil]; exact h1, h2⟩
    obtain ⟨u, e, q⟩ := h'.head
    cases t with
    | num v => exact s.elim
    | sg z k =>
      rw [textAt_of e, show u.1 = z from q.1]
      exact s j hj
section
variable {P : Program} {w : World} {K : PySem.W.Frag} {mg : Str → Option Value} {base : Heap}
def spAhead (K : PySem.W.Frag) (f : Int → Nat) (n : Nat) : Sp := fun vs H Q _ => ∃ (rd l : Addr) (i m : Nat) (ts : List (Str × Int)) (ks rest : List Tk) (b : Nat) (r : Res), vs = [.ref rd] ∧ RdAt K H rd l i m ∧ RowAt K H l ts ∧ InRow f ts i ks rest ∧ Rd n 6 m b ks r ∧
  ∀ v H', SameBut rd H H' → RdAt K H' rd l (i + ks.length) m → Ev (New H H') f n b v r → Q v H'
def spLevel (K : PySem.W.Frag) (f : Int → Nat) (n : Nat) : Sp := fun vs H Q _ => ∃ (rd l : Addr) (i m : Nat) (ts : List (Str × Int)) (L : Nat) (ks rest : List Tk) (b : Nat) (r : Res), L ≤ 5 ∧ vs = [.ref rd, .int (L : Int)] ∧ RdAt K H rd l i m ∧ RowAt K H l ts ∧ InRow f ts i ks rest ∧ Rd n L m b ks r ∧ Stop L rest ∧
  ∀ v H', SameBut rd H H' → RdAt K H' rd l (i + ks.length) m → Ev (New H H') f n b v r → Q v H'
theorem sc_read_ahead : FnScope ["reading", "sign", "found"] ["reading"] (defScope s_read_ahead) := ⟨rfl, rfl, rfl, by decide +kernel, rfl, by decide +kernel, by decide +kernel⟩
theorem not3 {t : Str} {v : Nat} (h : NumT t v) : inV (.str t) [.str "!", .str "-", .str "("] = false := by
  have e : ([.str "!", .str "-", .str "("] : List V) = (["!", "-", "("] : List Str).map V.str := rfl
  rw [e, inV_str]
  refine decide_eq_false fun z => ?_
  obtain ⟨c, r, e1, h1, h2⟩ := h.head
  have all : ∀ s ∈ (["!", "-", "("] : List Str), ∀ c ∈ s.cps.toList, c < 48 := by decide +kernel
  have := all t z c (by rw [e1]; exact List.mem_cons_self ..)
  omega
theorem in3 (neg : Bool) : inV (.str (unS neg)) [.str "!", .str "-", .str "("] = true := by cases neg <;> decide +kernel
theorem open3 : inV (.str "(") [.str "!", .str "-", .str "("] = true := by decide +kernel
theorem un_open (neg : Bool) : decide (V.str (unS neg) = V.str "(") = false := by cases neg <;> decide +kernel
theorem ok_ahead (T : Top w K mg) (f : Int → Nat) (n : Nat) (g_read_level : GOk P w K mg base CX0 (4 + n) "read_level" ["reading", "level"] (spLevel K f n)) (g_read_ahead : GOk P w K mg base CX0 (4 + n) "read_ahead" ["reading"] (spAhead K f n)) :
    GOk P w K mg base CX0 (4 + n + 1) "read_ahead" ["reading"] (spAhead K f (n + 1)) := by
  obtain ⟨fd, F⟩ := T.f_read_ahead
  refine ⟨_, fd, T.g_read_ahead, F.kp, F.bindsN fun _ _ _ _ _ _ us hl => match us, hl with | [_], _ => rfl, ok0 F sc_read_ahead (fun vs H Q E h => ?_) (fun cdv A outer s H vs Q E hr h => ?_)⟩
  · obtain ⟨rd, l, i, m, ts, ks, rest, b, r, rfl, _⟩ := h
    rfl
  · obtain ⟨rd, l, i, m, ts, ks, rest, b, r, rfl, ⟨dx, bh, h1⟩, h2, h3, h4, q⟩ := h
    obtain ⟨t_MO, h_MOST_OPEN⟩ := T.i_MOST_OPEN
    have m_Reading_now := ok_now (P := P) (base := base) T
    have m_Reading_here := ok_here (P := P) (base := base) T
    have g_need := ok_need (P := P) (base := base) T
    have g_worth_of_token := ok_worth_of_token (P := P) (base := base) T
    have hlook : ∀ {i m : Int} {x : Str}, ¬ x = "nested" → ¬ x = "spot" → ¬ x = "behind" → ¬ x = "given_row" → (rFs l bh i m).lookup x = none := fun z1 z2 z3 z4 => rFs_no _ _ _ _ z1 z2 z3 z4
    refine ⟨_, (pss_cons (ps_set (i := 1) sc_read_ahead.nd rfl (Or.inl rfl) (pe_m0 m_Reading_now hr (by omega) pass0 (pv 0)))
      (pss_cons (ps_if (pt_cmpR op_notIn_seq (pv 1) (pe_tup (pa_cons pe_str (pa_cons pe_str (pa_cons pe_str pa_nil)))) (by rfl))
        (pss_one (ps_ret (pe_g g_worth_of_token hr (by omega) pass0 (pa_cons (pv 0) pa_nil))))
        pss_nil)
      (pss_cons (ps_if (pt_cmpR op_eq (pe_fld (pv 0) rfl) (pe_glob (v := .int 20) rfl h_MOST_OPEN ⟨_, rfl⟩) (nomark _))
        (pss_one ps_never)
        pss_nil)
      (pss_cons (ps_fldaug (pv 0) pe_int in_add)
      (pss_cons (ps_fldaug (pv 0) pe_int in_add)
      (pss_cons (ps_if (pt_cmpR op_eq (pv 1) pe_str (nomark _))
        (pss_cons (ps_set (i := 2) sc_read_ahead.nd rfl (Or.inl rfl) (pe_g g_read_level hr (Nat.le_refl _) pass0 (pa_cons (pv 0) (pa_cons pe_int pa_nil))))
      (pss_cons (ps_expr (pe_g g_need hr (by omega) pass0 (pa_cons (pe_fld (pv 0) rfl) (pa_cons (pe_fld (pv 0) rfl) (pa_cons (pe_fld (pv 0) rfl) (pa_cons (pe_cmpR op_eq (pe_m0 m_Reading_now hr (by omega) pass0 (pv 0)) pe_str (nomark _)) pa_nil))))))
      (pss_one (ps_fldaug (pv 0) pe_int in_add))))
        (pss_one (ps_set (i := 2) sc_read_ahead.nd rfl (Or.inl rfl) (pe_tup (pa_cons (pv 1) (pa_cons (pe_g g_read_ahead hr (Nat.le_refl _) pass0 (pa_cons (pv 0) pa_nil)) pa_nil))))))
      (pss_cons (ps_fldaug (pv 0) pe_int in_sub)
      (pss_one (ps_ret (pv 2)))))))))), ?_⟩
    refine ⟨_, rfl, rd, dx, _, rfl, h1, rFs_no _ _ _ _ (by decide +kernel) (by decide +kernel) (by decide +kernel) (by decide +kernel), rd, l, i, m, ts, rfl, ⟨dx, bh, h1⟩, h2, ?_⟩
    refine ⟨_, rfl, (by show 3 ≤ sizeLine; decide), fun p hp => ?_⟩
    refine ⟨p, _, rfl, .inr (SqT.of upd_same), rfl, rfl, _, rfl, ?_⟩
    have hpr : rd ≠ p := ne_of_none h1 hp
    have s1 : Same H (upd H p (.tup [.str "!", .str "-", .str "("])) := same_upd hp _
    have h1' : (upd H p (.tup [.str "!", .str "-", .str "("])) rd = some (.ins (He.ga K "Reading") dx (rFs l bh (i : Int) (m : Int))) := s1 _ _ h1
    have h2' := Same.row s1 h2
    generalize upd H p (.tup [.str "!", .str "-", .str "("]) = H1 at s1 h1' h2' ⊢
    rcases h4 with ⟨_, h4⟩ | ⟨z, _⟩ | ⟨z, _⟩
    rotate_left
    · cases z
    · exact absurd z (by decide)
    rcases h4 with ⟨v, rfl, rfl, hv, hb⟩ | ⟨neg, k, ks', x, rfl, hm, hx, rfl⟩ | ⟨k, k', ks', rfl, hm, hx⟩
    · -- a number
      obtain ⟨t, e, ht⟩ := h3.head
      rw [textAt_of e]
      show if (!inV (.str t.1) [.str "!", .str "-", .str "("]) = true then _ else _
      rw [not3 ht]
      refine iteT ⟨_, rfl, rd, l, i, m, ts, t, v, rfl, ⟨dx, bh, h1'⟩, h2', e, ht, fun H' sb hrd => ?_⟩
      exact q _ _ ((but_same s1).trans sb) hrd (.inl ⟨v, rfl, rfl, hv, hb⟩)
    · -- a sign ahead
      obtain ⟨t, e, ht1, ht2⟩ := h3.head
      rw [textAt_of e, ht1]
      show if (!inV (.str (unS neg)) [.str "!", .str "-", .str "("]) = true then _ else _
      rw [in3]
      refine iteF ?_
      refine ⟨_, rfl, rd, _, dx, _, _, rfl, h1', T.c_Reading, T.n_Reading_nested, rFs_nested _ _ _ _, rfl, _, rfl, ?_⟩
      rw [decide_eq_false (show ¬ (V.int (m : Int) = V.int 20) from fun z => by have := V.int.inj z; omega)]
      refine iteF ?_
      refine ⟨_, rfl, rd, _, dx, _, _, rfl, h1', T.c_Reading, T.n_Reading_spot, rFs_spot _ _ _ _, _, _, rfl, rfl, dx, _, h1', (by show 4 < 1000; decide), ?_⟩
      rw [rFs_putSpot]
      refine ⟨_, rfl, rd, _, dx, _, _, rfl, upd_same, T.c_Reading, T.n_Reading_nested, rFs_nested _ _ _ _, _, _, rfl, rfl, dx, _, upd_same, (by show 4 < 1000; decide), ?_⟩
      rw [rFs_putNested, upd_upd]
      have sb2 : SameBut rd H1 (upd H1 rd (.ins (He.ga K "Reading") dx (rFs l bh ((i : Int) + 1) ((m : Int) + 1)))) := but_upd _ _
      have h5 : RdAt K (upd H1 rd (.ins (He.ga K "Reading") dx (rFs l bh ((i : Int) + 1) ((m : Int) + 1)))) rd l (i + 1) (m + 1) := ⟨dx, bh, upd_same⟩
      have h6 := row_but sb2 h1' (by show 4 ≠ 3; decide) h2'
      generalize upd H1 rd (.ins (He.ga K "Reading") dx (rFs l bh ((i : Int) + 1) ((m : Int) + 1))) = H2 at sb2 h5 h6 ⊢
      refine ⟨_, rfl, rfl, _, rfl, ?_⟩
      rw [un_open]
      refine iteF ?_
      refine ⟨_, rfl, _, rfl, rd, l, i + 1, m + 1, ts, ks', rest, b, x, rfl, h5, h6, h3.tail, hx, fun v H3 sb3 hrd3 hev => ⟨(by show 2 ≤ sizeLine; decide), fun p2 hp2 => ?_⟩⟩
      obtain ⟨dx3, b3, h9⟩ := id hrd3
      have hne : rd ≠ p2 := ne_of_none h9 hp2
      have h10 : (upd H3 p2 (.tup [.str (unS neg), v])) rd = some (.ins (He.ga K "Reading") dx3 (rFs l b3 ((i + 1 + ks'.length : Nat) : Int) ((m + 1 : Nat) : Int))) := by rw [upd_ne hne]; exact h9
      refine ⟨_, rfl, rd, _, dx3, _, _, rfl, h10, T.c_Reading, T.n_Reading_nested, rFs_nested _ _ _ _, _, _, rfl, rfl, dx3, _, h10, (by show 4 < 1000; decide), ?_⟩
      rw [rFs_putNested, show ((m + 1 : Nat) : Int) - 1 = (m : Int) by omega]
      refine ⟨_, rfl, q _ _ ?_ ?_ ?_⟩
      · exact (but_same s1).trans (sb2.trans (sb3.trans ((but_same (same_upd hp2 _)).trans (but_upd _ _))))
      · refine ⟨dx3, b3, ?_⟩
        rw [upd_same, List.length_cons, show i + 1 + ks'.length = i + (ks'.length + 1) by omega]
      · have d2 : Dom H H2 := by
          obtain ⟨dx5, b5, h11⟩ := h5
          exact (Dom.same s1).trans (Dom.of sb2 h11)
        have n1 : Same (New H2 H3) (New H (upd (upd H3 p2 (.tup [.str (unS neg), v])) rd (.ins (He.ga K "Reading") dx3 (rFs l b3 ((i + 1 + ks'.length : Nat) : Int) (m : Int))))) := new_to d2 fun a o z1 z2 => by
          have a1 : a ≠ rd := fun z => by
            obtain ⟨dx5, b5, h11⟩ := h5
            rw [z, h11] at z1
            cases z1
          rw [upd_ne a1, upd_ne (ne_of_none z2 hp2)]
          exact z2
        refine .inr (.inl ⟨p2, v, x, neg, rfl, new_some.mpr ⟨?_, ?_⟩, Ev.mono n1 hev, rfl⟩)
        · refine d2 _ (Dom.of sb3 h9 _ hp2)
        · rw [upd_ne hne.symm, upd_same]
    · -- a bracket
      have ho := h3
      obtain ⟨t, e, ht1, ht2⟩ := h3.head
      rw [textAt_of e, ht1]
      show if (!inV (.str "(") [.str "!", .str "-", .str "("]) = true then _ else _
      rw [open3]
      refine iteF ?_
      refine ⟨_, rfl, rd, _, dx, _, _, rfl, h1', T.c_Reading, T.n_Reading_nested, rFs_nested _ _ _ _, rfl, _, rfl, ?_⟩
      rw [decide_eq_false (show ¬ (V.int (m : Int) = V.int 20) from fun z => by have := V.int.inj z; omega)]
      refine iteF ?_
      refine ⟨_, rfl, rd, _, dx, _, _, rfl, h1', T.c_Reading, T.n_Reading_spot, rFs_spot _ _ _ _, _, _, rfl, rfl, dx, _, h1', (by show 4 < 1000; decide), ?_⟩
      rw [rFs_putSpot]
      refine ⟨_, rfl, rd, _, dx, _, _, rfl, upd_same, T.c_Reading, T.n_Reading_nested, rFs_nested _ _ _ _, _, _, rfl, rfl, dx, _, upd_same, (by show 4 < 1000; decide), ?_⟩
      rw [rFs_putNested, upd_upd]
      have sb2 : SameBut rd H1 (upd H1 rd (.ins (He.ga K "Reading") dx (rFs l bh ((i : Int) + 1) ((m : Int) + 1)))) := but_upd _ _
      have h5 : RdAt K (upd H1 rd (.ins (He.ga K "Reading") dx (rFs l bh ((i : Int) + 1) ((m : Int) + 1)))) rd l (i + 1) (m + 1) := ⟨dx, bh, upd_same⟩
      have h6 := row_but sb2 h1' (by show 4 ≠ 3; decide) h2'
      generalize upd H1 rd (.ins (He.ga K "Reading") dx (rFs l bh ((i : Int) + 1) ((m : Int) + 1))) = H2 at sb2 h5 h6 ⊢
      refine ⟨_, rfl, rfl, _, rfl, ?_⟩
      rw [decide_eq_true (show V.str "(" = V.str "(" from rfl)]
      refine iteT ?_
      have h7 : InRow f ts (i + 1) ks' (.sg ")" k' :: rest) := InRow.left (k1 := [.sg ")" k']) h3.tail
      have h8 : InRow f ts (i + 1 + ks'.length) [.sg ")" k'] rest := InRow.right h3.tail
      have hst : Stop 0 (.sg ")" k' :: rest) := fun j _ z => by
        have hb : ∀ k, k < 5 → ¬ ((")" : Str) ∈ lev k) := by
          intro k hk
          match k, hk with
          | 0, _ | 1, _ | 2, _ | 3, _ | 4, _ => decide +kernel
        exact hb j (lev_far z) z
      refine ⟨_, rfl, rd, l, i + 1, m + 1, ts, 0, ks', _, b, r, Nat.zero_le _, rfl, h5, h6, h7, hx, hst, fun v H3 sb3 hrd3 hev => ?_⟩
      obtain ⟨dx3, b3, h9⟩ := id hrd3
      obtain ⟨dx5, b5, h11⟩ := id h5
      have h12 := row_but sb3 h11 (by show 4 ≠ 3; decide) h6
      obtain ⟨t2, e2, ht3, ht4⟩ := h8.head
      have hil := (List.getElem?_eq_some_iff.mp e2).1
      refine ⟨_, rfl, rd, _, dx3, _, _, rfl, h9, T.c_Reading, T.n_Reading_given_row, rFs_row _ _ _ _, _, rfl, rd, _, dx3, _, _, rfl, h9, T.c_Reading, T.n_Reading_spot, rFs_spot _ _ _ _, _, rfl, rd, _, dx3, _, _, rfl, h9, T.c_Reading, T.n_Reading_behind, rFs_behind _ _ _ _, ?_⟩
      refine ⟨_, rfl, rd, dx3, _, rfl, h9, rFs_no _ _ _ _ (by decide +kernel) (by decide +kernel) (by decide +kernel) (by decide +kernel), rd, l, i + 1 + ks'.length, m + 1, ts, rfl, hrd3, h12, ?_⟩
      rw [textAt_of e2, ht3]
      refine ⟨rfl, l, ts, i + 1 + ks'.length, b3, ?_, h12, hil, ?_⟩
      · rw [decide_eq_true (show V.str ")" = V.str (Str.ofString ")") from rfl)]
        rfl
      refine ⟨_, rfl, rd, _, dx3, _, _, rfl, h9, T.c_Reading, T.n_Reading_spot, rFs_spot _ _ _ _, _, _, rfl, rfl, dx3, _, h9, (by show 4 < 1000; decide), ?_⟩
      rw [rFs_putSpot]
      refine ⟨_, rfl, rd, _, dx3, _, _, rfl, upd_same, T.c_Reading, T.n_Reading_nested, rFs_nested _ _ _ _, _, _, rfl, rfl, dx3, _, upd_same, (by show 4 < 1000; decide), ?_⟩
      rw [rFs_putNested, upd_upd, show ((m + 1 : Nat) : Int) - 1 = (m : Int) by omega]
      refine ⟨_, rfl, q _ _ ?_ ?_ ?_⟩
      · exact (but_same s1).trans (sb2.trans (sb3.trans (but_upd _ _)))
      · refine ⟨dx3, b3, ?_⟩
        rw [upd_same, List.length_cons, List.length_append, show i + (ks'.length + [Tk.sg ")" k'].length + 1) = i + 1 + ks'.length + 1 from by show i + (ks'.length + 1 + 1) = _; omega]
        rfl
      · have d2 : Dom H H2 := (Dom.same s1).trans (Dom.of sb2 h11)
        refine Ev.up (Ev.mono (new_to d2 fun a o z1 z2 => ?_) hev)
        have a1 : a ≠ rd := fun z => by
          rw [z, h11] at z1
          cases z1
        rw [upd_ne a1]
        exact z2
end
end Bp

/-! text: D10 -/
set_option Elab.async false
set_option linter.all false
set_option maxRecDepth 100000
set_option maxHeartbeats 4000000
/-! conditions: read_level -/
namespace Bp
open PySem PySem.Spec PyProof.Rows L2
section
variable {P : Program} {w : World} {K : PySem.W.Frag} {mg : Str → Option Value} {base : Heap}
theorem sc_read_level : FnScope ["reading", "level", "first", "more", "place", "sign"] ["reading", "level"] (defScope s_read_level) := ⟨rfl, rfl, rfl, by decide +kernel, rfl, by decide +kernel, by decide +kernel⟩
def RlW (K : PySem.W.Frag) (f : Int → Nat) (n rd p l : Nat) (ts : List (Str × Int)) (L m b0 b iE : Nat) (x r : Res) (u : V) (rest : List Tk) (H1 H2 : Hp) (mm : Nat) (σ : L2.St) (H' : Hp) : Prop :=
  ∃ (i' : Nat) (kr : List Tk) (bc : Nat) (rc : Res) (vs : List V) (o1 o2 : Option V), σ = [some (.ref rd), some (.int (L : Int)), some u, some (.ref p), o1, o2] ∧ mm = kr.length ∧ SameBut rd H1 H' ∧ Dom H2 H' ∧ H' p = some (.lst vs) ∧ RdAt K H' rd l i' m ∧
    InRow f ts i' kr rest ∧ RdL (Rd n (L + 1) m) L bc rc kr b r ∧ EvL (Ev (New H2 H') f n) (New H2 H') f b0 x vs bc rc ∧ vs.length ≤ i' ∧ i' + kr.length = iE
theorem ok_level (T : Top w K mg) (f : Int → Nat) (n : Nat) (g_read_level : GOk P w K mg base CX0 (4 + n) "read_level" ["reading", "level"] (spLevel K f n)) (g_read_ahead : GOk P w K mg base CX0 (4 + n) "read_ahead" ["reading"] (spAhead K f n)) :
    GOk P w K mg base CX0 (4 + n + 1) "read_level" ["reading", "level"] (spLevel K f (n + 1)) := by
  obtain ⟨fd, F⟩ := T.f_read_level
  refine ⟨_, fd, T.g_read_level, F.kp, F.bindsN fun _ _ _ _ _ _ us hl => match us, hl with | [_, _], _ => rfl, ok0 F sc_read_level (fun vs H Q E h => ?_) (fun cdv A outer s H vs Q E hr h => ?_)⟩
  · obtain ⟨rd, l, i, m, ts, L, ks, rest, b, r, _, rfl, _⟩ := h
    rfl
  · obtain ⟨rd, l, i, m, ts, L, ks, rest, b, r, hL, rfl, h1, h2, h3, h4, hst, q⟩ := h
    have m_Reading_now := ok_now (P := P) (base := base) T
    have m_Reading_here := ok_here (P := P) (base := base) T
    have m_Reading_taken := ok_taken (P := P) (base := base) T
    obtain ⟨as, hv1, hv2, hv3⟩ := lev_sq T H
    refine ⟨_, (pss_cons (ps_if (pt_cmpR op_eq (pv 1) (pe_callB call_len_seq (by rfl) T.b_len PySem.boot_len (pa_cons (pe_glob (v := .ref (He.ga K "LEVELS")) rfl T.g_LEVELS rfl) pa_nil)) (nomark _))
        (pss_one (ps_ret (pe_g g_read_ahead hr (Nat.le_refl _) pass0 (pa_cons (pv 0) pa_nil))))
        pss_nil)
      (pss_cons (ps_set (i := 2) sc_read_level.nd rfl (Or.inl rfl) (pe_g g_read_level hr (Nat.le_refl _) pass0 (pa_cons (pv 0) (pa_cons (pe_op op_add (pv 1) pe_int) pa_nil))))
      (pss_cons (ps_set (i := 3) sc_read_level.nd rfl (Or.inl rfl) (pe_lst pa_nil))
      (pss_cons (ps_while PassesOwn.never (pt_cmpR op_in_seq (pe_m0 m_Reading_now hr (by omega) pass0 (pv 0)) (pe_ix ix_tup (pe_glob (v := .ref (He.ga K "LEVELS")) rfl T.g_LEVELS rfl) (pv 1) (fun _ _ => rfl)) (by rfl))
        (pss_cons (ps_set (i := 4) sc_read_level.nd rfl (Or.inl rfl) (pe_m0 m_Reading_here hr (by omega) pass0 (pv 0)))
      (pss_cons (ps_set (i := 5) sc_read_level.nd rfl (Or.inl rfl) (pe_m0 m_Reading_taken hr (by omega) pass0 (pv 0)))
      (pss_one (ps_expr (pe_bm PySem.F.plainAttrs_list PySem.F.slot_list_append PySem.F.type_list_append mt_append (pv 3) (pa_cons (pe_tup (pa_cons (pv 5) (pa_cons (pv 4) (pa_cons (pe_g g_read_level hr (Nat.le_refl _) pass0 (pa_cons (pv 0) (pa_cons (pe_op op_add (pv 1) pe_int) pa_nil))) pa_nil)))) pa_nil)))))))
      (pss_one (ps_ret (pe_ifExp (pt_cmpR (op_ne_nil hr.units) (pv 3) (pe_lst pa_nil) (nomark _)) (pe_tup (pa_cons pe_str (pa_cons (pv 2) (pa_cons (pv 3) pa_nil)))) (pv 2)))))))), ?_⟩
    refine ⟨_, rfl, _, _, rfl, .inr hv1, rfl, _, rfl, ?_⟩
    rw [List.length_map, hv2]
    rcases h4 with ⟨z, _⟩ | ⟨rfl, h4⟩ | ⟨hL5, k0, k1, b0, x, rfl, h4, h5⟩
    · omega
    · rw [decide_eq_true (show V.int ((5 : Nat) : Int) = V.int ((5 : Nat) : Int) from rfl)]
      refine iteT ⟨_, rfl, rd, l, i, m, ts, ks, rest, b, r, rfl, h1, h2, h3, h4, fun v H' sb hrd hev => q v H' sb hrd (Ev.up hev)⟩
    rw [decide_eq_false (show ¬ (V.int (L : Int) = V.int ((5 : Nat) : Int)) from fun z => by have := V.int.inj z; omega)]
    refine iteF ?_
    have hs1 : Stop (L + 1) (k1 ++ rest) := by
      cases h5 with
      | nil => exact hst.up
      | cons g1 g2 g3 => exact Stop.sign g1
    refine ⟨_, rfl, _, rfl, _, _, rfl, rfl, rd, l, i, m, ts, L + 1, k0, k1 ++ rest, b0, x, hL5, rfl, h1, h2, h3.left, h4, hs1, fun u H1 sb1 hrd1 hev1 => ?_⟩
    refine ⟨Nat.zero_le _, fun p hp => ?_⟩
    obtain ⟨dx0, bh0, h0⟩ := id h1
    obtain ⟨dx1, bh1, h1r⟩ := id hrd1
    have hrow1 := row_but sb1 h0 (by show 4 ≠ 3; decide) h2
    have hrp : rd ≠ p := ne_of_none h1r hp
    refine ⟨RlW K f n rd p l ts L m b0 b (i + (k0 ++ k1).length) x r u rest H1 (upd H1 p (.lst [])), ⟨k1.length, i + k0.length, k1, b0, x, [], none, none, rfl, rfl, but_same (same_upd hp _), Dom.refl, upd_same, ⟨dx1, bh1, by rw [upd_ne hrp]; exact h1r⟩, h3.right, h5, .nil, Nat.zero_le _, by rw [List.length_append]; omega⟩, ?_⟩
    have hd12 : Dom H1 (upd H1 p (.lst [])) := Dom.upd
    have hd01 : Dom H H1 := Dom.of sb1 h1r
    have h2rd : ∃ o, (upd H1 p (.lst [])) rd = some o := ⟨_, by rw [upd_ne hrp]; exact h1r⟩
    have h2p : ∃ o, (upd H1 p (.lst [])) p = some o := ⟨_, upd_same⟩
    generalize upd H1 p (.lst []) = H2 at hd12 h2rd h2p ⊢
    rintro mm σ H' ⟨i', kr, bc, rc, vs, o1, o2, rfl, rfl, sb2, hd2, hvs, hrd2, hin, hrl, hel, hlen, hiE⟩
    obtain ⟨dx2, bh2, h2r⟩ := id hrd2
    have hrow2 := row_but sb2 h1r (by show 4 ≠ 3; decide) hrow1
    obtain ⟨as, hv1, hv2, hv3⟩ := lev_sq T H'
    obtain ⟨aL, haL⟩ : ∃ a, as[L]? = some a := ⟨as[L]'(by omega), List.getElem?_eq_getElem (by omega)⟩
    refine ⟨_, rfl, rd, dx2, _, rfl, h2r, rFs_no _ _ _ _ (by decide +kernel) (by decide +kernel) (by decide +kernel) (by decide +kernel), rd, l, i', m, ts, rfl, hrd2, hrow2, ?_⟩
    refine ⟨_, rfl, _, _, _, .ref aL, rfl, rfl, hv1, atI_nat (j := L) (by rw [List.getElem?_map, haL]; rfl), aL, _, rfl, .inr (hv3 L aL haL), rfl, all_str _, _, rfl, ?_⟩
    show if (inV (V.str (textAt ts i')) ((lev L).map V.str)) = true then _ else _
    rw [inV_str]
    cases hrl with
    | nil =>
      rw [decide_eq_false (hin.stop hst (Nat.le_refl _))]
      refine iteF ?_
      refine ⟨_, rfl, Nat.zero_le _, fun p2 hp2 => ⟨p, p2, vs, rfl, rfl, SqL.of (by rw [upd_ne (ne_of_none hvs hp2)]; exact hvs), SqL.of upd_same, _, rfl, ?_⟩⟩
      have eI : i' = i + (k0 ++ k1).length := by simpa using hiE
      have sbE : SameBut rd H (upd H' p2 (.lst [])) := sb1.trans (sb2.trans (but_same (same_upd hp2 _)))
      have hrdE : RdAt K (upd H' p2 (.lst [])) rd l (i + (k0 ++ k1).length) m := ⟨dx2, bh2, by rw [upd_ne (ne_of_none h2r hp2), ← eI]; exact h2r⟩
      have hev2 : Ev (New H (upd H' p2 (.lst []))) f n b0 u x := Ev.mono (new_to Dom.refl fun a o z1 z2 => by
        have a1 : a ≠ rd := fun z => by
          rw [z, h0] at z1
          cases z1
        have z3 := sb2 a o a1 z2
        rw [upd_ne (ne_of_none z3 hp2)]
        exact z3) hev1
      cases hel with
      | nil =>
        refine iteF ⟨_, rfl, q _ _ sbE hrdE (Ev.up hev2)⟩
      | cons g1 g2 g3 g4 g5 =>
        refine iteT ⟨_, rfl, _, rfl, (by show 3 ≤ sizeLine; decide), fun p3 hp3 => ?_⟩
        have s3 : Same (upd H' p2 (.lst [])) (upd (upd H' p2 (.lst [])) p3 (.tup [.str "chain", u, .ref p])) := same_upd hp3 _
        have dE : Dom H (upd H' p2 (.lst [])) := Dom.of sbE (by rw [upd_ne (ne_of_none h2r hp2)]; exact h2r)
        refine q _ _ (sbE.trans (but_same s3)) ?_ ?_
        · obtain ⟨dx5, bh5, h5r⟩ := hrdE
          exact ⟨dx5, bh5, s3 _ _ h5r⟩
        · have hnew : Same (New H2 H') (New H (upd (upd H' p2 (.lst [])) p3 (.tup [.str "chain", u, .ref p]))) := new_to (hd01.trans hd12) fun a o z1 z2 => s3 _ _ (same_upd hp2 _ _ _ z2)
          refine .inr (.inr ⟨p3, p, u, x, _, b0, rfl, new_some.mpr ⟨dE _ hp3, upd_same⟩, new_some.mpr ⟨hd01 _ hp, s3 _ _ (same_upd hp2 _ _ _ hvs)⟩, Ev.mono (new_to Dom.refl fun a o _ z2 => s3 _ _ z2) hev2, ?_⟩)
          exact EvL.mono hnew (fun _ _ _ z => Ev.mono hnew z) (EvL.cons g1 g2 g3 g4 g5)
    | cons g1 g2 g3 =>
      rename_i bx x' s k ks' rest'
      obtain ⟨t, e, ht1, ht2⟩ := hin.head
      have etx : textAt ts i' = s := by rw [textAt_of e, ht1]
      rw [etx, decide_eq_true g1]
      refine iteT ⟨RlW K f n rd p l ts L m b0 b (i + (k0 ++ k1).length) x r u rest H1 H2 rest'.length, fun σ' H'' z => ⟨_, by rw [List.length_cons, List.length_append]; omega, z⟩, ?_⟩
      refine ⟨_, rfl, rd, dx2, _, rfl, h2r, rFs_no _ _ _ _ (by decide +kernel) (by decide +kernel) (by decide +kernel) (by decide +kernel), rd, l, i', m, ts, t, rfl, hrd2, hrow2, e, fun pp pg rw' hpp => ?_⟩
      have s3 : Same H' (upd H' pp (.tup [pg, rw', .int t.2])) := same_upd hpp _
      have h3r := s3 _ _ h2r
      have hrow3 := Same.row s3 hrow2
      have hpl3 : (upd H' pp (.tup [pg, rw', .int t.2])) pp = some (.tup [pg, rw', .int t.2]) := upd_same
      have hpd2 : H2 pp = none := hd2 _ hpp
      generalize upd H' pp (.tup [pg, rw', .int t.2]) = H3 at s3 h3r hrow3 hpl3 ⊢
      refine ⟨_, rfl, rd, dx2, _, rfl, h3r, rFs_no _ _ _ _ (by decide +kernel) (by decide +kernel) (by decide +kernel) (by decide +kernel), rd, l, i', m, ts, rfl, ⟨dx2, bh2, h3r⟩, hrow3, fun dx4 bh4 h4r => ?_⟩
      rw [etx]
      have sb4 : SameBut rd H3 (upd H3 rd (.ins (He.ga K "Reading") dx4 (rFs l bh4 ((i' + 1 : Nat) : Int) (m : Int)))) := but_upd _ _
      have hrd4 : RdAt K (upd H3 rd (.ins (He.ga K "Reading") dx4 (rFs l bh4 ((i' + 1 : Nat) : Int) (m : Int)))) rd l (i' + 1) m := ⟨dx4, bh4, upd_same⟩
      have hrow4 := row_but sb4 h3r (by show 4 ≠ 3; decide) hrow3
      generalize upd H3 rd (.ins (He.ga K "Reading") dx4 (rFs l bh4 ((i' + 1 : Nat) : Int) (m : Int))) = H4 at sb4 hrd4 hrow4 ⊢
      have h4p : H4 p = some (.lst vs) := sb4 _ _ hrp.symm (s3 _ _ hvs)
      have hst2 : Stop (L + 1) (rest' ++ rest) := by
        cases g3 with
        | nil => exact hst.up
        | cons y1 y2 y3 => exact Stop.sign y1
      refine ⟨_, rfl, .inl ⟨rfl, _, SqL.of h4p⟩, ?_⟩
      refine ⟨_, rfl, _, rfl, _, rfl, _, rfl, _, _, rfl, rfl, rd, l, i' + 1, m, ts, L + 1, ks', rest' ++ rest, bx, x', hL5, rfl, hrd4, hrow4, hin.tail.left, g2, hst2, fun v H5 sb5 hrd5 hev5 => ⟨(by show 3 ≤ sizeLine; decide), fun q2 hq2 => ?_⟩⟩
      have h5p : H5 p = some (.lst vs) := sb5 _ _ hrp.symm h4p
      have hq2p : q2 ≠ p := (ne_of_none h5p hq2).symm
      have hil := (List.getElem?_eq_some_iff.mp e).1
      have htl : ts.length ≤ 3000 := by
        obtain ⟨ps, y1, y2, y3⟩ := hrow2
        exact y3
      refine ⟨p, _, _, rfl, rfl, by rw [upd_ne hq2p.symm]; exact h5p, by rw [sizeLine_eq]; omega, ?_⟩
      obtain ⟨dx5, bh5, h5r⟩ := id hrd5
      have hq2r : q2 ≠ rd := (ne_of_none h5r hq2).symm
      have keep : ∀ a o, a ≠ rd → a ≠ p → H5 a = some o → (upd (upd H5 q2 (.tup [.str s, .ref pp, v])) p (.lst (vs ++ [.ref q2]))) a = some o := fun a o z1 z2 z3 => by
        rw [upd_ne z2, upd_ne (ne_of_none z3 hq2)]
        exact z3
      have keep3 : ∀ a o, a ≠ rd → a ≠ p → H' a = some o → (upd (upd H5 q2 (.tup [.str s, .ref pp, v])) p (.lst (vs ++ [.ref q2]))) a = some o := fun a o z1 z2 z3 => keep a o z1 z2 (sb5 a o z1 (sb4 a o z1 (s3 a o z3)))
      have kq : (upd (upd H5 q2 (.tup [.str s, .ref pp, v])) p (.lst (vs ++ [.ref q2]))) q2 = some (.tup [.str s, .ref pp, v]) := by rw [upd_ne hq2p, upd_same]
      have kp : (upd (upd H5 q2 (.tup [.str s, .ref pp, v])) p (.lst (vs ++ [.ref q2]))) p = some (.lst (vs ++ [.ref q2])) := upd_same
      have kr : (upd (upd H5 q2 (.tup [.str s, .ref pp, v])) p (.lst (vs ++ [.ref q2]))) rd = some (.ins (He.ga K "Reading") dx5 (rFs l bh5 ((i' + 1 + ks'.length : Nat) : Int) (m : Int))) := by rw [upd_ne hrp, upd_ne hq2r.symm]; exact h5r
      have d45 : Dom H4 H5 := Dom.of sb5 h5r
      obtain ⟨dx6, bh6, h6r⟩ := id hrd4
      have d34 : Dom H3 H4 := Dom.of sb4 h6r
      have d24 : Dom H2 H4 := hd2.trans ((Dom.same s3).trans d34)
      have hrdN : ∀ a, a = rd → H2 a = none → False := fun a z1 z2 => by
        obtain ⟨o2, y⟩ := h2rd
        rw [z1, y] at z2
        cases z2
      have hpN : ∀ a, a = p → H2 a = none → False := fun a z1 z2 => by
        obtain ⟨o2, y⟩ := h2p
        rw [z1, y] at z2
        cases z2
      generalize upd (upd H5 q2 (.tup [.str s, .ref pp, v])) p (.lst (vs ++ [.ref q2])) = H6 at keep keep3 kq kp kr ⊢
      have hd26 : Dom H2 H6 := fun a z => by
        cases y : H2 a with
        | none => rfl
        | some o =>
          exfalso
          by_cases c1 : a = rd
          · rw [c1, kr] at z
            cases z
          by_cases c2 : a = p
          · rw [c2, kp] at z
            cases z
          cases y2 : H' a with
          | none =>
            rw [hd2 a y2] at y
            cases y
          | some o2 =>
            rw [keep3 a o2 c1 c2 y2] at z
            cases z
      have nOld : Same (New H2 H') (New H2 H6) := new_to Dom.refl fun a o z1 z2 => keep3 a o (fun z => hrdN a z z1) (fun z => hpN a z z1) z2
      have nNew : Same (New H4 H5) (New H2 H6) := new_to d24 fun a o z1 z2 => keep a o (fun z => hrdN a z (d24 a z1)) (fun z => hpN a z (d24 a z1)) z2
      have hpl6 : New H2 H6 pp = some (.tup [pg, rw', .int t.2]) := new_some.mpr ⟨hpd2, by
        have a1 : pp ≠ rd := fun z => hrdN pp z hpd2
        have a2 : pp ≠ p := fun z => hpN pp z hpd2
        exact keep pp _ a1 a2 (sb5 _ _ a1 (sb4 _ _ a1 hpl3))⟩
      have hq6 : New H2 H6 q2 = some (.tup [.str s, .ref pp, v]) := new_some.mpr ⟨d24 _ (d45 _ hq2), kq⟩
      have el := EvL.snoc hq6 hpl6 g1 (Ev.mono nNew hev5) (EvL.mono nOld (fun _ _ _ z => Ev.mono nOld z) hel)
      rw [ht2] at el
      refine ⟨i' + 1 + ks'.length, rest', bc + bx, _, _, _, _, rfl, rfl, ?_, hd26, kp, ⟨dx5, bh5, kr⟩, hin.tail.right, g3, el, ?_, ?_⟩
      · exact fun a o z1 z2 => keep3 a o z1 (fun z => by rw [z, hp] at z2; cases z2) (sb2 a o z1 z2)
      · rw [List.length_append]
        show vs.length + 1 ≤ _
        omega
      · rw [List.length_cons, List.length_append] at hiE
        omega
theorem ok_read (T : Top w K mg) (f : Int → Nat) : ∀ n, GOk P w K mg base CX0 (4 + n) "read_level" ["reading", "level"] (spLevel K f n) ∧ GOk P w K mg base CX0 (4 + n) "read_ahead" ["reading"] (spAhead K f n)
  | 0 => by
    obtain ⟨fd, F⟩ := T.f_read_level
    obtain ⟨fd2, F2⟩ := T.f_read_ahead
    refine ⟨⟨_, fd, T.g_read_level, F.kp, F.bindsN fun _ _ _ _ _ _ us hl => match us, hl with | [_, _], _ => rfl, ok0 (k := 3) F sc_read_level (fun vs H Q E h => ?_) (fun cdv A outer s H vs Q E hr h => ?_)⟩, ⟨_, fd2, T.g_read_ahead, F2.kp, F2.bindsN fun _ _ _ _ _ _ us hl => match us, hl with | [_], _ => rfl, ok0 (k := 3) F2 sc_read_ahead (fun vs H Q E h => ?_) (fun cdv A outer s H vs Q E hr h => ?_)⟩⟩
    all_goals
      try obtain ⟨rd, l, i, m, ts, L, ks, rest, b, r, hL, e, h1, h2, h3, h4, h5⟩ := h
      try obtain ⟨rd, l, i, m, ts, ks, rest, b, r, e, h1, h2, h3, h4, h5⟩ := h
      exact h4.elim
  | n + 1 => ⟨ok_level T f n (ok_read T f n).1 (ok_read T f n).2, ok_ahead T f n (ok_read T f n).1 (ok_read T f n).2⟩
end
end Bp

/-! text: D11 -/
set_option Elab.async false
set_option linter.all false
set_option maxRecDepth 100000
set_option maxHeartbeats 4000000
/-! conditions: what signs make -/
namespace Bp
open PySem PySem.Spec PyProof.Rows L2
def CDivZ (i j : Int) : Prop := j ≠ 0 ∧ j.natAbs < 2 ^ 8000
theorem op_fdivZ {X : Cx} : OpR X (binaryOp .FloorDiv) (rI CDivZ fun i j => .int (i.fdiv j)) := opI fun i j _ _ _ _ _ hc q => floordiv_int hc.1 q (.inl (PyProof.noPylong_of_log2 (Nat.lt_of_lt_of_le (PySem.Flt.log2_lt_of (by decide) hc.2) (by decide))))
def spOp (s : Str) : Sp := fun vs H Q _ => ∃ (a b : Int), vs = [.int a, .int b] ∧ a.natAbs < 2 ^ 8000 ∧ b.natAbs < 2 ^ 8000 ∧ (s = "/" → b ≠ 0) ∧ Q (.int (opV s a b)) H
section
variable {P : Program} {w : World} {K : PySem.W.Frag} {mg : Str → Option Value} {base : Heap}
theorem sc_times : FnScope ["left", "right"] ["left", "right"] (defScope s_times) := ⟨rfl, rfl, rfl, by decide +kernel, rfl, by decide +kernel, by decide +kernel⟩
theorem opV_times (a b : Int) : opV "*" a b = a * b := by
  unfold opV
  rw [if_pos rfl]
theorem ok_times (T : Top w K mg) : GOk P w K mg base CX0 1 "times" ["left", "right"] (spOp "*") := by
  obtain ⟨fd, F⟩ := T.f_times
  refine ⟨_, fd, T.g_times, F.kp, F.bindsN fun _ _ _ _ _ _ us hl => match us, hl with | [_, _], _ => rfl, ok0 F sc_times (fun vs H Q E h => ?_) (fun cdv A outer s H vs Q E hr h => ?_)⟩
  · obtain ⟨a, b, rfl, _⟩ := h
    rfl
  · obtain ⟨a, b, rfl, ha, hb, h0, q⟩ := h
    rw [opV_times] at q
    refine ⟨_, (pss_one (ps_ret (pe_op op_mulW (pv 0) (pv 1)))), ?_⟩
    exact ⟨_, rfl, _, rfl, _, _, rfl, rfl, wide_mul ha hb (by decide) (by decide) (by decide), q⟩
theorem sc_over : FnScope ["left", "right"] ["left", "right"] (defScope s_over) := ⟨rfl, rfl, rfl, by decide +kernel, rfl, by decide +kernel, by decide +kernel⟩
theorem opV_over (a b : Int) : opV "/" a b = a.fdiv b := by
  unfold opV
  rw [if_neg (show ¬ (("/" : Str) = "*") from by decide +kernel)]
  rw [if_pos rfl]
theorem ok_over (T : Top w K mg) : GOk P w K mg base CX0 1 "over" ["left", "right"] (spOp "/") := by
  obtain ⟨fd, F⟩ := T.f_over
  refine ⟨_, fd, T.g_over, F.kp, F.bindsN fun _ _ _ _ _ _ us hl => match us, hl with | [_, _], _ => rfl, ok0 F sc_over (fun vs H Q E h => ?_) (fun cdv A outer s H vs Q E hr h => ?_)⟩
  · obtain ⟨a, b, rfl, _⟩ := h
    rfl
  · obtain ⟨a, b, rfl, ha, hb, h0, q⟩ := h
    rw [opV_over] at q
    refine ⟨_, (pss_one (ps_ret (pe_op op_fdivZ (pv 0) (pv 1)))), ?_⟩
    exact ⟨_, rfl, _, rfl, _, _, rfl, rfl, ⟨h0 rfl, hb⟩, q⟩
theorem sc_plus : FnScope ["left", "right"] ["left", "right"] (defScope s_plus) := ⟨rfl, rfl, rfl, by decide +kernel, rfl, by decide +kernel, by decide +kernel⟩
theorem opV_plus (a b : Int) : opV "+" a b = a + b := by
  unfold opV
  rw [if_neg (show ¬ (("+" : Str) = "*") from by decide +kernel)]
  rw [if_neg (show ¬ (("+" : Str) = "/") from by decide +kernel)]
  rw [if_pos rfl]
theorem ok_plus (T : Top w K mg) : GOk P w K mg base CX0 1 "plus" ["left", "right"] (spOp "+") := by
  obtain ⟨fd, F⟩ := T.f_plus
  refine ⟨_, fd, T.g_plus, F.kp, F.bindsN fun _ _ _ _ _ _ us hl => match us, hl with | [_, _], _ => rfl, ok0 F sc_plus (fun vs H Q E h => ?_) (fun cdv A outer s H vs Q E hr h => ?_)⟩
  · obtain ⟨a, b, rfl, _⟩ := h
    rfl
  · obtain ⟨a, b, rfl, ha, hb, h0, q⟩ := h
    rw [opV_plus] at q
    refine ⟨_, (pss_one (ps_ret (pe_op op_add (pv 0) (pv 1)))), ?_⟩
    exact ⟨_, rfl, _, rfl, _, _, rfl, rfl, q⟩
theorem sc_less : FnScope ["left", "right"] ["left", "right"] (defScope s_less) := ⟨rfl, rfl, rfl, by decide +kernel, rfl, by decide +kernel, by decide +kernel⟩
theorem opV_less (a b : Int) : opV "-" a b = a - b := by
  unfold opV
  rw [if_neg (show ¬ (("-" : Str) = "*") from by decide +kernel)]
  rw [if_neg (show ¬ (("-" : Str) = "/") from by decide +kernel)]
  rw [if_neg (show ¬ (("-" : Str) = "+") from by decide +kernel)]
  rw [if_pos rfl]
theorem ok_less (T : Top w K mg) : GOk P w K mg base CX0 1 "less" ["left", "right"] (spOp "-") := by
  obtain ⟨fd, F⟩ := T.f_less
  refine ⟨_, fd, T.g_less, F.kp, F.bindsN fun _ _ _ _ _ _ us hl => match us, hl with | [_, _], _ => rfl, ok0 F sc_less (fun vs H Q E h => ?_) (fun cdv A outer s H vs Q E hr h => ?_)⟩
  · obtain ⟨a, b, rfl, _⟩ := h
    rfl
  · obtain ⟨a, b, rfl, ha, hb, h0, q⟩ := h
    rw [opV_less] at q
    refine ⟨_, (pss_one (ps_ret (pe_op op_sub (pv 0) (pv 1)))), ?_⟩
    exact ⟨_, rfl, _, rfl, _, _, rfl, rfl, q⟩
theorem sc_below : FnScope ["left", "right"] ["left", "right"] (defScope s_below) := ⟨rfl, rfl, rfl, by decide +kernel, rfl, by decide +kernel, by decide +kernel⟩
theorem opV_below (a b : Int) : opV "<" a b = b01 (decide (a < b)) := by
  unfold opV
  rw [if_neg (show ¬ (("<" : Str) = "*") from by decide +kernel)]
  rw [if_neg (show ¬ (("<" : Str) = "/") from by decide +kernel)]
  rw [if_neg (show ¬ (("<" : Str) = "+") from by decide +kernel)]
  rw [if_neg (show ¬ (("<" : Str) = "-") from by decide +kernel)]
  rw [if_pos rfl]
theorem ok_below (T : Top w K mg) : GOk P w K mg base CX0 1 "below" ["left", "right"] (spOp "<") := by
  obtain ⟨fd, F⟩ := T.f_below
  refine ⟨_, fd, T.g_below, F.kp, F.bindsN fun _ _ _ _ _ _ us hl => match us, hl with | [_, _], _ => rfl, ok0 F sc_below (fun vs H Q E h => ?_) (fun cdv A outer s H vs Q E hr h => ?_)⟩
  · obtain ⟨a, b, rfl, _⟩ := h
    rfl
  · obtain ⟨a, b, rfl, ha, hb, h0, q⟩ := h
    rw [opV_below] at q
    refine ⟨_, (pss_one (ps_ret (pe_callTy call_int1 (by rfl) T.b_int (by decide +kernel) (pa_cons (pe_cmpR op_lt (pv 0) (pv 1) (nomark _)) pa_nil)))), ?_⟩
    exact ⟨_, rfl, _, rfl, _, _, rfl, rfl, .inr ⟨_, rfl, q⟩⟩
theorem sc_at_most : FnScope ["left", "right"] ["left", "right"] (defScope s_at_most) := ⟨rfl, rfl, rfl, by decide +kernel, rfl, by decide +kernel, by decide +kernel⟩
theorem opV_at_most (a b : Int) : opV "<=" a b = b01 (decide (a ≤ b)) := by
  unfold opV
  rw [if_neg (show ¬ (("<=" : Str) = "*") from by decide +kernel)]
  rw [if_neg (show ¬ (("<=" : Str) = "/") from by decide +kernel)]
  rw [if_neg (show ¬ (("<=" : Str) = "+") from by decide +kernel)]
  rw [if_neg (show ¬ (("<=" : Str) = "-") from by decide +kernel)]
  rw [if_neg (show ¬ (("<=" : Str) = "<") from by decide +kernel)]
  rw [if_pos rfl]
theorem ok_at_most (T : Top w K mg) : GOk P w K mg base CX0 1 "at_most" ["left", "right"] (spOp "<=") := by
  obtain ⟨fd, F⟩ := T.f_at_most
  refine ⟨_, fd, T.g_at_most, F.kp, F.bindsN fun _ _ _ _ _ _ us hl => match us, hl with | [_, _], _ => rfl, ok0 F sc_at_most (fun vs H Q E h => ?_) (fun cdv A outer s H vs Q E hr h => ?_)⟩
  · obtain ⟨a, b, rfl, _⟩ := h
    rfl
  · obtain ⟨a, b, rfl, ha, hb, h0, q⟩ := h
    rw [opV_at_most] at q
    refine ⟨_, (pss_one (ps_ret (pe_callTy call_int1 (by rfl) T.b_int (by decide +kernel) (pa_cons (pe_cmpR op_le (pv 0) (pv 1) (nomark _)) pa_nil)))), ?_⟩
    exact ⟨_, rfl, _, rfl, _, _, rfl, rfl, .inr ⟨_, rfl, q⟩⟩
theorem sc_above : FnScope ["left", "right"] ["left", "right"] (defScope s_above) := ⟨rfl, rfl, rfl, by decide +kernel, rfl, by decide +kernel, by decide +kernel⟩
theorem opV_above (a b : Int) : opV ">" a b = b01 (decide (a > b)) := by
  unfold opV
  rw [if_neg (show ¬ ((">" : Str) = "*") from by decide +kernel)]
  rw [if_neg (show ¬ ((">" : Str) = "/") from by decide +kernel)]
  rw [if_neg (show ¬ ((">" : Str) = "+") from by decide +kernel)]
  rw [if_neg (show ¬ ((">" : Str) = "-") from by decide +kernel)]
  rw [if_neg (show ¬ ((">" : Str) = "<") from by decide +kernel)]
  rw [if_neg (show ¬ ((">" : Str) = "<=") from by decide +kernel)]
  rw [if_pos rfl]
theorem ok_above (T : Top w K mg) : GOk P w K mg base CX0 1 "above" ["left", "right"] (spOp ">") := by
  obtain ⟨fd, F⟩ := T.f_above
  refine ⟨_, fd, T.g_above, F.kp, F.bindsN fun _ _ _ _ _ _ us hl => match us, hl with | [_, _], _ => rfl, ok0 F sc_above (fun vs H Q E h => ?_) (fun cdv A outer s H vs Q E hr h => ?_)⟩
  · obtain ⟨a, b, rfl, _⟩ := h
    rfl
  · obtain ⟨a, b, rfl, ha, hb, h0, q⟩ := h
    rw [opV_above] at q
    refine ⟨_, (pss_one (ps_ret (pe_callTy call_int1 (by rfl) T.b_int (by decide +kernel) (pa_cons (pe_cmpR op_gt (pv 0) (pv 1) (nomark _)) pa_nil)))), ?_⟩
    exact ⟨_, rfl, _, rfl, _, _, rfl, rfl, .inr ⟨_, rfl, q⟩⟩
theorem sc_at_least : FnScope ["left", "right"] ["left", "right"] (defScope s_at_least) := ⟨rfl, rfl, rfl, by decide +kernel, rfl, by decide +kernel, by decide +kernel⟩
theorem opV_at_least (a b : Int) : opV ">=" a b = b01 (decide (a ≥ b)) := by
  unfold opV
  rw [if_neg (show ¬ ((">=" : Str) = "*") from by decide +kernel)]
  rw [if_neg (show ¬ ((">=" : Str) = "/") from by decide +kernel)]
  rw [if_neg (show ¬ ((">=" : Str) = "+") from by decide +kernel)]
  rw [if_neg (show ¬ ((">=" : Str) = "-") from by decide +kernel)]
  rw [if_neg (show ¬ ((">=" : Str) = "<") from by decide +kernel)]
  rw [if_neg (show ¬ ((">=" : Str) = "<=") from by decide +kernel)]
  rw [if_neg (show ¬ ((">=" : Str) = ">") from by decide +kernel)]
  rw [if_pos rfl]
theorem ok_at_least (T : Top w K mg) : GOk P w K mg base CX0 1 "at_least" ["left", "right"] (spOp ">=") := by
  obtain ⟨fd, F⟩ := T.f_at_least
  refine ⟨_, fd, T.g_at_least, F.kp, F.bindsN fun _ _ _ _ _ _ us hl => match us, hl with | [_, _], _ => rfl, ok0 F sc_at_least (fun vs H Q E h => ?_) (fun cdv A outer s H vs Q E hr h => ?_)⟩
  · obtain ⟨a, b, rfl, _⟩ := h
    rfl
  · obtain ⟨a, b, rfl, ha, hb, h0, q⟩ := h
    rw [opV_at_least] at q
    refine ⟨_, (pss_one (ps_ret (pe_callTy call_int1 (by rfl) T.b_int (by decide +kernel) (pa_cons (pe_cmpR op_ge (pv 0) (pv 1) (nomark _)) pa_nil)))), ?_⟩
    exact ⟨_, rfl, _, rfl, _, _, rfl, rfl, .inr ⟨_, rfl, q⟩⟩
theorem sc_alike : FnScope ["left", "right"] ["left", "right"] (defScope s_alike) := ⟨rfl, rfl, rfl, by decide +kernel, rfl, by decide +kernel, by decide +kernel⟩
theorem opV_alike (a b : Int) : opV "==" a b = b01 (decide (a = b)) := by
  unfold opV
  rw [if_neg (show ¬ (("==" : Str) = "*") from by decide +kernel)]
  rw [if_neg (show ¬ (("==" : Str) = "/") from by decide +kernel)]
  rw [if_neg (show ¬ (("==" : Str) = "+") from by decide +kernel)]
  rw [if_neg (show ¬ (("==" : Str) = "-") from by decide +kernel)]
  rw [if_neg (show ¬ (("==" : Str) = "<") from by decide +kernel)]
  rw [if_neg (show ¬ (("==" : Str) = "<=") from by decide +kernel)]
  rw [if_neg (show ¬ (("==" : Str) = ">") from by decide +kernel)]
  rw [if_neg (show ¬ (("==" : Str) = ">=") from by decide +kernel)]
  rw [if_pos rfl]
theorem ok_alike (T : Top w K mg) : GOk P w K mg base CX0 1 "alike" ["left", "right"] (spOp "==") := by
  obtain ⟨fd, F⟩ := T.f_alike
  refine ⟨_, fd, T.g_alike, F.kp, F.bindsN fun _ _ _ _ _ _ us hl => match us, hl with | [_, _], _ => rfl, ok0 F sc_alike (fun vs H Q E h => ?_) (fun cdv A outer s H vs Q E hr h => ?_)⟩
  · obtain ⟨a, b, rfl, _⟩ := h
    rfl
  · obtain ⟨a, b, rfl, ha, hb, h0, q⟩ := h
    rw [opV_alike] at q
    refine ⟨_, (pss_one (ps_ret (pe_callTy call_int1 (by rfl) T.b_int (by decide +kernel) (pa_cons (pe_cmpR op_eq (pv 0) (pv 1) (nomark _)) pa_nil)))), ?_⟩
    refine ⟨_, rfl, _, rfl, rfl, .inr ⟨_, rfl, ?_⟩⟩
    rw [show decide (V.int a = V.int b) = decide (a = b) from decide_eq_decide.mpr ⟨fun z => V.int.inj z, fun z => congrArg V.int z⟩]
    exact q
theorem sc_unlike : FnScope ["left", "right"] ["left", "right"] (defScope s_unlike) := ⟨rfl, rfl, rfl, by decide +kernel, rfl, by decide +kernel, by decide +kernel⟩
theorem opV_unlike (a b : Int) : opV "!=" a b = b01 (decide (a ≠ b)) := by
  unfold opV
  rw [if_neg (show ¬ (("!=" : Str) = "*") from by decide +kernel)]
  rw [if_neg (show ¬ (("!=" : Str) = "/") from by decide +kernel)]
  rw [if_neg (show ¬ (("!=" : Str) = "+") from by decide +kernel)]
  rw [if_neg (show ¬ (("!=" : Str) = "-") from by decide +kernel)]
  rw [if_neg (show ¬ (("!=" : Str) = "<") from by decide +kernel)]
  rw [if_neg (show ¬ (("!=" : Str) = "<=") from by decide +kernel)]
  rw [if_neg (show ¬ (("!=" : Str) = ">") from by decide +kernel)]
  rw [if_neg (show ¬ (("!=" : Str) = ">=") from by decide +kernel)]
  rw [if_neg (show ¬ (("!=" : Str) = "==") from by decide +kernel)]
theorem ok_unlike (T : Top w K mg) : GOk P w K mg base CX0 1 "unlike" ["left", "right"] (spOp "!=") := by
  obtain ⟨fd, F⟩ := T.f_unlike
  refine ⟨_, fd, T.g_unlike, F.kp, F.bindsN fun _ _ _ _ _ _ us hl => match us, hl with | [_, _], _ => rfl, ok0 F sc_unlike (fun vs H Q E h => ?_) (fun cdv A outer s H vs Q E hr h => ?_)⟩
  · obtain ⟨a, b, rfl, _⟩ := h
    rfl
  · obtain ⟨a, b, rfl, ha, hb, h0, q⟩ := h
    rw [opV_unlike] at q
    refine ⟨_, (pss_one (ps_ret (pe_callTy call_int1 (by rfl) T.b_int (by decide +kernel) (pa_cons (pe_cmpR op_ne (pv 0) (pv 1) (nomark _)) pa_nil)))), ?_⟩
    refine ⟨_, rfl, _, rfl, rfl, .inr ⟨_, rfl, ?_⟩⟩
    rw [show (!decide (V.int a = V.int b)) = decide (a ≠ b) from by rw [← decide_not]; exact decide_eq_decide.mpr ⟨fun z y => z (congrArg V.int y), fun z y => z (V.int.inj y)⟩]
    exact q
/-- SIGNS[s]: the def that makes it -/
theorem ok_sign (T : Top w K mg) {s : Str} (h : s ∈ signKs) : ∃ (f : Addr) (fd : FuncData), KDct K w (He.ga K "SIGNS") s (.ref f) ∧ PySem.W.keepIn K (.ref f) = true ∧ Binds K fd ["left", "right"] [] ∧ FnOk P w K mg base CX0 1 f fd ["left", "right"] (spOp s) := by
  obtain ⟨es, n, hk⟩ := T.t.tab 0
  have hv := (He.ba (He.ba (He.ba (He.ba (He.ba T.ex).2).2).2).2).2
  have one : ∀ {x g : Str}, (x, He.Dv.glo g) ∈ signVs → ∃ u, PySem.W.nsIn K (He.ga K "SIGNS") x = some (some u) ∧ RelV (V.ref (He.ga K g)) u := fun hq => He.valsB_ok hv hq
  have fin : ∀ {x g : Str}, (x, He.Dv.glo g) ∈ signVs → mg g = some (.ref (He.ga K g)) → GOk P w K mg base CX0 1 g ["left", "right"] (spOp x) → ∃ (f : Addr) (fd : FuncData), KDct K w (He.ga K "SIGNS") x (.ref f) ∧ PySem.W.keepIn K (.ref f) = true ∧ Binds K fd ["left", "right"] [] ∧ FnOk P w K mg base CX0 1 f fd ["left", "right"] (spOp x) := by
    intro x g hm hg ⟨f, fd, g1, g2, g3, g4⟩
    obtain ⟨u, e1, e2⟩ := one hm
    have ef : f = He.ga K g := by
      rw [hg] at g1
      exact (Value.ref.inj (Option.some.inj g1)).symm
    subst ef
    exact ⟨_, fd, ⟨es, n, u, hk.1, hk.2, e1, e2⟩, g2, g3, g4⟩
  have e : signKs = (["*", "/", "+", "-", "<", "<=", ">", ">=", "==", "!="] : List Str) := rfl
  rw [e] at h
  simp only [List.mem_cons, List.not_mem_nil, or_false] at h
  rcases h with h | h | h | h | h | h | h | h | h | h
  · rw [h]
    exact fin (g := "times") (by unfold signVs; simp only [List.mem_cons, true_or, or_true]) T.g_times (ok_times T)
  · rw [h]
    exact fin (g := "over") (by unfold signVs; simp only [List.mem_cons, true_or, or_true]) T.g_over (ok_over T)
  · rw [h]
    exact fin (g := "plus") (by unfold signVs; simp only [List.mem_cons, true_or, or_true]) T.g_plus (ok_plus T)
  · rw [h]
    exact fin (g := "less") (by unfold signVs; simp only [List.mem_cons, true_or, or_true]) T.g_less (ok_less T)
  · rw [h]
    exact fin (g := "below") (by unfold signVs; simp only [List.mem_cons, true_or, or_true]) T.g_below (ok_below T)
  · rw [h]
    exact fin (g := "at_most") (by unfold signVs; simp only [List.mem_cons, true_or, or_true]) T.g_at_most (ok_at_most T)
  · rw [h]
    exact fin (g := "above") (by unfold signVs; simp only [List.mem_cons, true_or, or_true]) T.g_above (ok_above T)
  · rw [h]
    exact fin (g := "at_least") (by unfold signVs; simp only [List.mem_cons, true_or, or_true]) T.g_at_least (ok_at_least T)
  · rw [h]
    exact fin (g := "alike") (by unfold signVs; simp only [List.mem_cons, true_or, or_true]) T.g_alike (ok_alike T)
  · rw [h]
    exact fin (g := "unlike") (by unfold signVs; simp only [List.mem_cons, true_or, or_true]) T.g_unlike (ok_unlike T)
end
end Bp

/-! text: R5 -/
set_option Elab.async false
set_option linter.all false
set_option maxRecDepth 100000
set_option maxHeartbeats 4000000
/-! the exception ByNought: a class over ZeroDivisionError whose __init__ stores -/
namespace Bp
open PySem PySem.Spec PyProof.Rows L2
/-- what the written part says of the class -/
structure OexZ (K : PySem.W.Frag) (C : Addr) : Prop where
  cls : ∃ nm q N bs sn sub ab col dd k0 k1 k2 k3 k5, K.lookup C = some (excClassObj nm q C N bs zdTail true sn sub ab col dd k0 k1 k2 k3 k5 "ZeroDivisionError.__new__")
  sa : PySem.W.findIn K (.ref C) "__setattr__" = some (some (.builtin "object.__setattr__"))
  exC : PySem.W.subIn K (.ref C) (.type "BaseException") = some true
  tyC : PySem.W.typeIn K (.ref C) = some (.type "type")
  kC : PySem.W.keepIn K (.ref C) = true
section
open Builtin Builtin.ObjectAttr PySem.HandSPX
variable {prog : Program} {w : World} {A : Around} {E : Value → Shared → Prop} {R : Result → Shared → Prop} {hp : Heap} {g : Array GenState} {d : Drawn} {t : Nat} {os : OsState}
theorem exc_osaZ {K : PySem.W.Frag} {name : Str} {tk : Tok} {v : Value} {x C : Addr} {fv : Array Value} {cd : ClassData}
    (X : K.In hp) (hx : hp.get? x = some { cls := .ref C, data := .fields fv }) (hcd : PySem.W.clsIn K C = some cd) (hm : cd.mro = .ref C :: zdTail) (hh : cd.hasDict = true) (ha : PySem.W.findIn K (.ref C) name = some none)
    (hq : ∀ h' tk' dx, (∀ b o, b ≠ x → hp.get? b = some o → h'.get? b = some o) → hp.objs.size ≤ dx → dx ≠ x → h'.get? x = some { cls := .ref C, dict := some dx, data := .fields fv } →
      h'.Ns1 dx (fun y => if y = name then some v else none) → R (.ok (.ret .none)) ⟨h', g, d, tk', os⟩) :
    codeAny (model prog w) A (.call (.builtin "object.__setattr__") ⟨[.ref x, .str name tk, v], []⟩) R ⟨hp, g, d, t, os⟩ := by
  have I : PySem.W.InstAt hp x { cls := .ref C, data := .fields fv } C none := ⟨hx, rfl, rfl, trivial⟩
  have hxs : x ≠ hp.objs.size := Nat.ne_of_lt (Heap.lt_size hx)
  have hcls : PySem.W.Looks (model prog w) hp (classData C) cd := PySem.W.looks_clsIn X hcd
  have hov : PySem.W.excOver K C zdTail = true := by
    unfold PySem.W.excOver
    rw [hcd, Option.any_some, hm]
    show (C == C && PySem.W.excTail zdTail zdTail) = true
    rw [beq_self_eq_true, Bool.true_and]
    decide +kernel
  have htk : PySem.W.takerIn K C name = some none := by
    unfold PySem.W.takerIn
    rw [ha]
    rfl
  refine PySem.W.osa_openX F.store_ZeroDivisionError X I hov htk fun b => ?_
  show wpAny _ _ (storeInOwnDict (.ref x) (.ref C) (.str name tk) name v b) _ _ _
  obtain ⟨nm, bs, mro, ns, qn, hd, sn, sb, ab, col, del⟩ := cd
  dsimp only at hh
  subst hh
  unfold storeInOwnDict ownDictForStores
  repeat (first | with_reducible refine store_in_new ?_ ?_ | with_reducible refine wpAny_loadPart_at hx ?_ | with_reducible refine hcls.at ?_ | wp_step)
  · exact ⟨_, #[], _, (Heap.get?_update_ne _ _ _ _ hxs.symm).trans (Heap.get?_push_at rfl rfl), rfl, fun e he => absurd he (by simp), fun _ => rfl⟩
  · intro h' tk' hn' hs
    have hx₁ : (hp.push { cls := .type "dict", data := .dict #[] }).get? x = some { cls := .ref C, data := .fields fv } := Heap.get?_push_of_some _ hx
    refine hq h' tk' hp.objs.size (fun b o hb ho => ?_) (Nat.le_refl _) hxs.symm ?_ hn'
    · exact (hs.2 b (Nat.ne_of_lt (Heap.lt_size ho))).trans ((Heap.get?_update_ne _ _ _ _ hb).trans (Heap.get?_push_of_some _ ho))
    · exact (hs.2 x hxs).trans (Heap.get?_update_self _ hx₁ rfl)
end
section
variable {X : Cx} {pins : List (Addr × Obj)} {σ : L2.St} {H : Hp} {s : Shared} {a C dx : Addr} {f : Str} {y : V} {u : Value} {fs : List (Str × V)} {Q : Unit → Shared → Prop} {E : Value → Shared → Prop} {A : Around}
/-- self.f = y, the first one -/
theorem ost_newZ (T : OexZ X.K C) (I : Inv X pins σ H s) (e : H a = some (exo a C none)) (hno : PySem.W.findIn X.K (.ref C) f = some none) (ry : RelV y u)
    (h : ∀ dx s', H dx = none → dx ≠ a → Inv X pins σ (upd (upd H dx (exd dx [(f, y)])) a (exo a C (some dx))) s' → Q () s') : wpAny (model X.prog X.w) A (setAttr (.ref a) f u) Q E s := by
  obtain ⟨nm, q, N, bs, sn, sub, ab, col, dd, k0, k1, k2, k3, k5, hC⟩ := T.cls
  have hcl : PySem.W.clsIn X.K C = some { name := nm, bases := bs, mro := .ref C :: zdTail, ns := N, qualname := q, hasDict := true, slotNames := sn, subclasses := sub, abstract := ab, collection := col, hasDel := false } := by unfold PySem.W.clsIn; rw [hC] <;> rfl
  obtain ⟨t1, ho⟩ := exo_at I.hok e
  obtain ⟨hp, g, d, t, os⟩ := s
  refine PySem.W.set_plain I.kIn (ox := { cls := .ref C, dict := none, data := .fields #[.ref t1, .none, .none, .none, .bool false, .none] }) (od := none) ⟨ho, rfl, rfl, trivial⟩ T.sa ?_
  refine exc_osaZ I.kIn ho hcl rfl rfl hno (fun h' tk' dx k dn dne hx hn => ?_)
  have hnd : H dx = none := I.hok.fresh dn
  have nd : ∀ {b : Addr} {o : Obj}, hp.get? b = some o → b ≠ dx := fun {b o} q => Nat.ne_of_lt (Nat.lt_of_lt_of_le (Heap.lt_size q) dn)
  have na : ∀ {b : Addr}, H b = none → b ≠ a := fun {b} n z => by
    rw [z, e] at n
    cases n
  have Un1 : Un X.fs [] H (upd (upd H dx (exd dx [(f, y)])) a (exo a C (some dx))) hp h' := {
    keep := fun b o q n _ _ => k b o (na n) q
    slot := fun b o q n _ _ => ⟨o.slots, k b o (na n) q⟩
    free := fun b o q n _ => by rw [upd_ne (na n), upd_ne (nd q)]; exact n
    there := fun b o q _ => by
      by_cases hb : b = a
      · exact ⟨_, by rw [hb]; exact hx⟩
      · exact ⟨o, k b o hb q⟩
    tups := fun b xs q => by rw [upd_ne (at_ne e q exo_tup), upd_ne (ne_of_none q hnd)]; exact q
    frzs := fun b o v q => by rw [upd_ne (at_ne e q exo_frz), upd_ne (ne_of_none q hnd)]; exact q
    tbls := fun b ps q => ⟨#[], by rw [upd_ne (at_ne e q exo_tbl), upd_ne (ne_of_none q hnd), q]; simp⟩ }
  refine h dx _ hnd dne (I.un (t' := tk') Un1 fun b o q => ?_)
  by_cases hb : b = a
  · subst hb
    rw [upd_same] at q
    cases q
    exact exo_ok hx
  · rw [upd_ne hb] at q
    by_cases hd : b = dx
    · subst hd
      rw [upd_same] at q
      cases q
      exact exd_ok hn (relO_put (fs := []) ry fun g => True.intro)
    · rw [upd_ne hd] at q
      exact (I.hok b o q).stay (fun c v hc z => k c v (by
          rcases hc with hc | hc
          · rw [hc]
            exact hb
          · exact at_ne e hc exo_own) z)
        (fun c hc => by rw [upd_ne (at_ne e hc exo_own), upd_ne (ne_of_none hc hnd)]; exact hc) (fun c xs hc => by rw [upd_ne (at_ne e hc exo_tup), upd_ne (ne_of_none hc hnd)]; exact hc)
end
/-- self.f = e -/
def tOstZ (K : PySem.W.Frag) (f : Str) (to te : TE) : TS := fun D σ H => te σ H fun y H1 => to σ H1 fun x H2 => ∃ a C : Addr, x = .ref a ∧ OexZ K C ∧ PySem.W.findIn K (.ref C) f = some none ∧
  H2 a = some (exo a C none) ∧ ∀ dx, H2 dx = none → dx ≠ a → D.nx σ (upd (upd H2 dx (exd dx [(f, y)])) a (exo a C (some dx)))
section
variable {X : Cx} {o e : Expr} {es : List Expr} {to te : TE} {ta : TA} {f : Str} {p p' p1 p2 pos : Pos}
theorem ps_ostZ (ho : PE X o to) (he : PE X e te) (hs : swapsWith e (some (.Attribute o f p')) pos.line X.env = pure false := by rfl) : PS X (.Assign [.Attribute o f p'] e pos) (tOstZ X.K f to te) := by
  refine ⟨fun pins s σ H D I h => ?_⟩
  refine plainObj_wpAny_Assign_Attribute (thn (he.run pins s σ H _ I h) fun v s1 ⟨y, H1, I1, r1, q1⟩ => thn (ho.run pins s1 σ H1 _ I1 q1) fun u s2 ⟨x, H2, I2, r2, a, C, ex, T, hno, ea, q⟩ => ?_) hs
  subst ex
  obtain rfl : u = Value.ref a := r2
  exact ost_newZ T I2 ea hno r1 fun dx s' n ne J => ⟨σ, _, J, q dx n ne⟩
theorem pmk_oexZ {CX : CXT} {x : Str} {C fI : Addr} {k : Nat} {fd : FuncData} {ps : List Str} {sp : Sp} {ds : List Value} {dvs : List V} (T : OexZ X.K C) (iC : PySem.W.findIn X.K (.ref C) "__init__" = some (some (.ref fI))) (tI : PySem.W.typeIn X.K (.ref fI) = some (.type "function"))
    (F1 : FnOk X.prog X.w X.K X.mg X.base CX k fI fd ps sp) (hr : Room (k + 1) X.A) (hb : Binds X.K fd ps ds) (hd : Vals dvs ds) (hx : Passes CX X (fun _ _ _ => False)) (hg : Gl X x) (hm : X.mg x = some (.ref C)) (ha : PA X (e :: es) ta)
    (hdb : (x == ("__debug__" : Str)) = false := by decide) (he : starEach (e :: es) X.env = (false, eval e X.env) :: starEach es X.env := by rfl) (hpl : (backTo pos (starEach es X.env)).any (·.1) = false := by rfl) :
    PMk X (.Call (.Name x p) (e :: es) [] pos) (tMkO C sp dvs ta) := by
  intro pins s σ H Q I h
  obtain ⟨nm, q, N, bs, sn, sub, ab, col, dd, k0, k1, k2, k3, k5, hC⟩ := T.cls
  refine wpAny_Call_Name_kw (ld_glob I hg hm ?_ hdb)
  refine PySem.W.callWith_K (h₀ := X.base) I.ok.mod.kin T.kC (thn (ha.run pos pins s σ H _ I h) fun us s1 ⟨vs, H1, I1, r1, hz, q1⟩ => ⟨I1.kIn, ?_⟩) he hpl
  show wpAny _ _ (call (.ref C) us) _ _ _
  obtain ⟨hp, g, dr, tk, os⟩ := s1
  have hsz : hp.objs.size ≤ hp.objs.size + 1 := Nat.le_succ _
  have hn : H1 (hp.objs.size + 1) = none := I1.hok.fresh hsz
  have hq := q1 (hp.objs.size + 1) hn
  have kk : ∀ b o, hp.get? b = some o → ((hp.push (PySem.W.kdv_tup us)).push (PySem.HandSPX.excO C hp.objs.size)).get? b = some o := fun b o e => Heap.get?_push_of_some _ (Heap.get?_push_of_some _ e)
  have hget : ((hp.push (PySem.W.kdv_tup us)).push (PySem.HandSPX.excO C hp.objs.size)).get? (hp.objs.size + 1) = some (PySem.HandSPX.excO C hp.objs.size) := by heap_get
  have I2 : Inv X pins σ (upd H1 (hp.objs.size + 1) (exo (hp.objs.size + 1) C none)) ⟨(hp.push (PySem.W.kdv_tup us)).push (PySem.HandSPX.excO C hp.objs.size), g, dr, tk, os⟩ :=
    I1.laid (t' := tk) (a := hp.objs.size + 1) (o := exo (hp.objs.size + 1) C none) (h' := (hp.push (PySem.W.kdv_tup us)).push (PySem.HandSPX.excO C hp.objs.size)) kk hsz (exo_ok hget)
  have r2 : Vals (V.ref (hp.objs.size + 1) :: (vs ++ dvs)) (Value.ref (hp.objs.size + 1) :: (us ++ ds)) := .cons rfl (r1.append hd)
  have hl : (Value.ref (hp.objs.size + 1) :: us ++ ds).length = ps.length := by
    have e := r2.length
    rw [F1.len _ _ _ _ hq] at e
    exact e.symm
  have hus : us.length ≤ sizeLine := by
    rw [← Paired.length r1, sizeLine_eq]
    omega
  refine wpAny_call (PySem.HandSPX.call_own F.excBase_ZeroDivisionError (fun Y => rfl) (I1.kIn _ _ hC) (PySem.W.looks_findIn I1.kIn iC) (fun self => PySem.W.bind_fn I1.kIn self tI) hus
    (codeAny_mono (F1.run _ X.stack _ _ ⟨Value.ref (hp.objs.size + 1) :: us, []⟩ (Value.ref (hp.objs.size + 1) :: (us ++ ds)) _ _ (fun _ _ _ => False) (hr.make C us []) (I2.env0.make C us []) (hb _ (Value.ref (hp.objs.size + 1) :: us) I2.kIn hl) r2 hq) fun r s' hq' => ?_))
  cases r with
  | error er => exact hx pins σ _ _ er s' I2 hq'
  | ok fl =>
    cases fl with
    | ret u =>
      obtain ⟨v, H2, os2, bare2, un2, hok2, rv, ev, d, fs, ea, ed, hd1, q2⟩ := hq'
      subst ev
      obtain ⟨h2, g2, d2, t2, os'⟩ := s'
      exact ⟨rv, mk_end (raises_own T.exC T.tyC) I1 hsz kk un2 hok2 os2 bare2 ea ed hd1 q2⟩
    | next => exact False.elim hq'
    | brk => exact False.elim hq'
    | cont => exact False.elim hq'
end
section
variable {P : Program} {w : World} {K : PySem.W.Frag} {mg : Str → Option Value} {base : Heap}
/-- the address of the class, of its __init__ -/
abbrev bnC (K : PySem.W.Frag) : Addr := He.ga K "ByNought"
structure BnF (K : PySem.W.Frag) : Prop where
  x : OexZ K (bnC K)
  ga : PySem.W.findIn K (.ref (bnC K)) "__getattribute__" = some (some (.builtin "BaseException.__getattribute__"))
  gg : PySem.W.findIn K (.ref (bnC K)) "__getattr__" = some none
  no : PySem.W.findIn K (.ref (bnC K)) "place" = some none
  iC : PySem.W.findIn K (.ref (bnC K)) "__init__" = some (some (.ref (He.ma K (bnC K) "__init__")))
  tI : PySem.W.typeIn K (.ref (He.ma K (bnC K) "__init__")) = some (.type "function")
  hd : PySem.W.hasDictIn K (bnC K) = true
  te : PySem.W.exmOne K (.ref (bnC K)) (.ref (bnC K)) = some true
theorem six {α : Type} {l : List α} (h : l.length = 6) : ∃ a b c d e f, l = [a, b, c, d, e, f] := by
  match l, h with
  | [a, b, c, d, e, f], _ => exact ⟨a, b, c, d, e, f, rfl⟩
theorem bn_ok (T : Top w K mg) : BnF K := by
  have h1 := (He.ba T.ex).1
  have h2 := (He.ba (He.ba T.ex).2).1
  unfold bnB2 at h2
  obtain ⟨a1, h2⟩ := He.ba h2
  obtain ⟨a2, h2⟩ := He.ba h2
  obtain ⟨a3, h2⟩ := He.ba h2
  obtain ⟨a4, h2⟩ := He.ba h2
  obtain ⟨a5, h2⟩ := He.ba h2
  obtain ⟨a6, h2⟩ := He.ba h2
  obtain ⟨a7, h2⟩ := He.ba h2
  obtain ⟨a8, h2⟩ := He.ba h2
  obtain ⟨a9, h2⟩ := He.ba h2
  obtain ⟨a10, a11⟩ := He.ba h2
  refine ⟨⟨?_, He.eqO_ok a1, of_decide_eq_true a8, of_decide_eq_true a9, a7⟩, He.eqO_ok a2, He.eqO_ok a3, He.eqO_ok a4, He.eqO_ok a5, of_decide_eq_true a6, a10, of_decide_eq_true a11⟩
  unfold bnB at h1
  split at h1
  · rename_i od cd osl ho
    obtain ⟨b1, b2⟩ := He.ba h1
    obtain ⟨b3, b4⟩ := He.ba b2
    obtain ⟨b5, b6⟩ := He.ba b4
    obtain ⟨b7, b8⟩ := He.ba b6
    have e1 := of_decide_eq_true b1
    have e3 := of_decide_eq_true b3
    have e5 := of_decide_eq_true b5
    obtain ⟨nm, bs, mro, ns, qn, hd, sn, sb, ab, col, del⟩ := cd
    obtain ⟨sl⟩ := osl
    have e5' : sl.length = 6 := e5
    obtain ⟨k0, k1, k2, k3, k4, k5, rfl⟩ := six e5'
    have e4 : k4 = some (.builtin "ZeroDivisionError.__new__") := by
      have z : (some k4).join = some (Value.builtin "ZeroDivisionError.__new__") := e3
      simpa using z
    have e1' : mro = .ref (He.ga K "ByNought") :: zdTail := e1
    have e7 : hd = true := b7
    have e8 : del = false := by
      cases del with
      | false => rfl
      | true => cases b8
    subst e4 e1' e7 e8
    exact ⟨nm, qn, ns, bs, sn, sb, ab, col, od, k0, k1, k2, k3, k5, ho⟩
  · cases h1
/-- ByNought.__init__ -/
def spByI (K : PySem.W.Frag) : Sp := fun vs H Q _ => ∃ (a : Addr) (v : V), vs = [.ref a, v] ∧ H a = some (exo a (bnC K) none) ∧ ∀ dx, H dx = none → dx ≠ a → Q .non (upd (upd H dx (exd dx [("place", v)])) a (exo a (bnC K) (some dx)))
theorem sc_ByNought_init : FnScope ["self", "place"] ["self", "place"] (defScope s_ByNought_init) := ⟨rfl, rfl, rfl, by decide +kernel, rfl, by decide +kernel, by decide +kernel⟩
theorem ok_ByNought (T : Top w K mg) : ∃ fd, Binds K fd ["self", "place"] [] ∧ FnOk P w K mg base CX0 1 (He.ma K (bnC K) "__init__") fd ["self", "place"] (spByI K) := by
  obtain ⟨fd, F⟩ := T.f_ByNought_init
  refine ⟨fd, F.bindsN fun _ _ _ _ _ _ us hl => match us, hl with | [_, _], _ => rfl, ok0 F sc_ByNought_init (fun vs H Q E h => ?_) (fun cdv A outer s H vs Q E hr h => ?_)⟩
  · obtain ⟨a, v, rfl, _⟩ := h
    rfl
  · obtain ⟨a, v, rfl, e, q⟩ := h
    refine ⟨_, (pss_one (ps_ostZ (pv 0) (pv 1))), ?_⟩
    exact ⟨_, rfl, _, rfl, a, bnC K, rfl, (bn_ok T).x, (bn_ok T).no, e, q⟩
/-- what a raise of ByNought(v) leaves: the error's dict at d -/
def ByN (K : PySem.W.Frag) (H : Hp) (v : V) (E : XK) : Prop := ∀ d H', H d = none → Same H H' → H' d = some (.xd [("place", v)]) → E (.ref (bnC K)) (some d) H'
theorem byn_of {K : PySem.W.Frag} {H : Hp} {v : V} {E : XK} (h : ByN K H v E) : ∀ a, H a = none → spByI K [.ref a, v] (upd H a (exo a (bnC K) none)) (fun v' H2 => v' = .non ∧ ∃ (d : Addr) (fs : List (Str × V)), H2 a = some (exo a (bnC K) (some d)) ∧ H2 d = some (exd d fs) ∧ H d = none ∧ E (.ref (bnC K)) (some d) (upd (del H2 a) d (.xd fs))) (fun _ _ _ => False) := by
  intro a ha
  refine ⟨a, v, rfl, upd_same, fun dx hdx hne => ⟨rfl, dx, [("place", v)], upd_same, by rw [upd_ne hne, upd_same], ?_, ?_⟩⟩
  · rw [upd_ne hne] at hdx
    exact hdx
  · rw [upd_ne hne] at hdx
    refine h dx _ hdx (fun b o q => ?_) upd_same
    rw [upd_ne (ne_of_none q hdx), del_ne (ne_of_none q ha), upd_ne (ne_of_none q ha), upd_ne (ne_of_none q hdx), upd_ne (ne_of_none q ha)]
    exact q
end
section
variable {X : Cx} {e : Expr} {ta : TA} {p pos pos2 : Pos} {W : WX}
/-- raise ByNought(e) -/
def tRaiseZ (K : PySem.W.Frag) (W : WX) (ta : TA) : TS := fun _ σ H => ta σ H fun vs H1 => ∃ v, vs = [v] ∧ ByN K H1 v fun cls d H' => W cls d σ H'
theorem tMkO_of {K : PySem.W.Frag} {σ : L2.St} {H : Hp} {Q : XK} (ta : TA) (mono : ∀ σ H (Q Q' : List V → Hp → Prop), (∀ a b, Q a b → Q' a b) → ta σ H Q → ta σ H Q')
    (h : ta σ H fun vs H1 => ∃ v, vs = [v] ∧ ByN K H1 v Q) : tMkO (bnC K) (spByI K) [] ta σ H Q := by
  refine mono _ _ _ _ ?_ h
  rintro vs H1 ⟨v, rfl, z⟩
  exact ⟨Nat.le_trans (Nat.le_refl 1) (by decide), byn_of z⟩
theorem ps_raiseZ (hc : X.calm = true) (T : Top X.w X.K X.mg) (hr : Room 2 X.A) (tk : Takes X W) (hx : Passes CX0 X (fun _ _ _ => False)) (ha : PA X [e] ta) (hm : X.mg "ByNought" = some (.ref (bnC X.K))) (mono : ∀ σ H (Q Q' : List V → Hp → Prop), (∀ a b, Q a b → Q' a b) → ta σ H Q → ta σ H Q') (hg : Gl X "ByNought" := by rfl)
    (he : starEach (e :: []) X.env = (false, eval e X.env) :: starEach [] X.env := by rfl) (hpl : (backTo pos (starEach [] X.env)).any (·.1) = false := by rfl) :
    PS X (.Raise (some (.Call (.Name "ByNought" p) [e] [] pos)) none pos2) (tRaiseZ X.K W ta) := by
  obtain ⟨fd, hb, F⟩ := ok_ByNought (P := X.prog) (base := X.base) T
  have B := bn_ok T
  have z := ps_raise hc tk (pmk_oexZ (p := p) B.x B.iC B.tI F hr hb .nil hx hg hm ha (by decide) he hpl) (pos := pos2)
  refine ⟨fun pins s σ H D I h => z.run pins s σ H D I ?_⟩
  exact tMkO_of ta mono h
/-- e.place, e the exception that the suite holds -/
def tByZ (C : Addr) (a : Addr) (cls : Value) (d : Option Addr) (te : TE) : TE := fun σ H Q => te σ H fun x H1 => x = .ref a ∧ cls = .ref C ∧ ∃ (dd : Addr) (v : V), d = some dd ∧ H1 dd = some (.xd [(("place" : Str), v)]) ∧ Q v H1
theorem pe_byZ {a : Addr} {oe : Obj} {cls : Value} {d : Option Addr} {pn : List (Addr × Obj)} {e : Expr} {te : TE} {pos : Pos} (T : BnF X.K) (hz : Zc cls d oe) (hf : ∃ vs, oe.data = .fields vs) (he : PE (X.suite a ((a, oe) :: pn)) e te)
    (hb : attributeBase e "place" X.env (eval e X.env) = eval e X.env := by rfl) :
    PE (X.suite a ((a, oe) :: pn)) (.Attribute e "place" pos) (tByZ (bnC X.K) a cls d te) := by
  refine ⟨fun pins s σ H Q I h => ?_⟩
  refine attr_of hb (thn (he.run pins s σ H _ I h) fun u s1 hh => ?_)
  obtain ⟨x, H1, I1, rx, ex, ec, dd, v, ed, ea, q⟩ := hh
  subst ex
  obtain rfl : u = Value.ref a := rx
  subst ec
  subst ed
  obtain ⟨ha, _⟩ := I1.pin (a, oe) (List.mem_append_left _ List.mem_cons_self)
  obtain ⟨vs, hd⟩ := hf
  have hx : ObjOk X.prog X.w H1 s1.heap dd (.xd [(("place" : Str), v)]) := I1.hok dd _ ea
  obtain ⟨mA, hns, hr⟩ := hx
  obtain ⟨od, ho, hl⟩ := lookIn_ns hns
  have l : List.lookup ("place" : Str) [(("place" : Str), v)] = some v := by simp [List.lookup]
  obtain ⟨u, hu, ru⟩ := RelO.some_of (v := v) (o := mA "place") (by rw [← l]; exact hr "place")
  have J : PySem.W.InstAt s1.heap a oe (bnC X.K) (some od) := ⟨ha, hz.1, by unfold PySem.W.notCls; rw [hd] <;> rfl, by rw [hz.2]; exact ho⟩
  exact PySem.HandSPX.exc_get I1.kIn J T.ga T.gg T.x.exC (PySem.W.findObj_own T.hd T.no rfl (by rw [hl, hu])) (handed_of ru) ⟨v, H1, I1.tok _, ru, q⟩
end
end Bp

/-! text: D12 -/
set_option Elab.async false
set_option linter.all false
set_option maxRecDepth 100000
set_option maxHeartbeats 4000000
/-! conditions: reckoned -/
namespace Bp
open PySem PySem.Spec PyProof.Rows L2
/-! ### how great the numbers are -/
def Bd (b : Nat) (r : Res) : Prop := 1 ≤ b ∧ ∀ i, r = .ok i → i.natAbs < 2 ^ b
theorem two_le {b : Nat} (h : 1 ≤ b) : 2 ≤ 2 ^ b := by
  have := Nat.pow_le_pow_right (n := 2) (by decide) h
  simpa using this
theorem b01_lt {b : Nat} (h : 1 ≤ b) (p : Bool) : (b01 p).natAbs < 2 ^ b := by
  have := two_le h
  cases p
  · show 0 < 2 ^ b
    omega
  · show 1 < 2 ^ b
    omega
theorem pow_add_le {b c x y : Nat} (hb : 1 ≤ b) (hc : 1 ≤ c) (hx : x < 2 ^ b) (hy : y < 2 ^ c) : x + y < 2 ^ (b + c) := by
  have h1 := two_le hb
  have h2 := two_le hc
  rw [Nat.pow_add]
  generalize 2 ^ b = p at *
  generalize 2 ^ c = q at *
  have h3 : 2 * q ≤ p * q := Nat.mul_le_mul_right q h1
  have h4 : p * 2 ≤ p * q := Nat.mul_le_mul_left p h2
  omega
theorem pow_lt_add {b c x : Nat} (hx : x < 2 ^ b) : x < 2 ^ (b + c) := Nat.lt_of_lt_of_le hx (Nat.pow_le_pow_right (by decide) (Nat.le_add_right b c))
theorem unR_bd {b : Nat} {x : Res} (neg : Bool) (h : Bd b x) : Bd b (unR neg x) := by
  refine ⟨h.1, fun i e => ?_⟩
  cases x with
  | error k => cases neg <;> cases e
  | ok j =>
    have hj := h.2 j rfl
    cases neg with
    | true =>
      have e' : (0 - j : Int) = i := Except.ok.inj e
      rw [← e']
      omega
    | false =>
      have e' : b01 (decide (j = 0)) = i := Except.ok.inj e
      rw [← e']
      exact b01_lt h.1 _
theorem fdiv_abs (l r : Int) (hr : r ≠ 0) : (l.fdiv r).natAbs ≤ l.natAbs := by
  rw [Int.fdiv_eq_ediv]
  have h1 := Int.natAbs_ediv_le_natAbs l r
  split
  · rw [Int.sub_zero]
    exact h1
  · rename_i z
    have hlt : r < 0 := by omega
    have hnd : ¬ r ∣ l := by
      intro y
      exact z (.inr y)
    have hl0 : l ≠ 0 := by
      intro y
      rw [y] at hnd
      exact hnd (Int.dvd_zero r)
    rcases Int.lt_trichotomy l 0 with h | h | h
    · have hp : 0 < l / r := Int.ediv_pos_of_neg_of_neg h hlt
      omega
    · exact absurd h hl0
    · have hle : l / r ≤ 0 := Int.ediv_nonpos_of_nonneg_of_nonpos (by omega) (by omega)
      have hstrict : (l / r).natAbs < l.natAbs := by
        have hm := Int.mul_ediv_add_emod l r
        have hm0 : 0 ≤ l % r := Int.emod_nonneg l hr
        have hne : l % r ≠ 0 := fun y => hnd (Int.dvd_of_emod_eq_zero y)
        have hpos : 0 < l % r := by omega
        have e1 : r * (l / r) = l - l % r := by omega
        have e2 : (r * (l / r)).natAbs < l.natAbs := by
          rw [e1]
          have h9 : 0 ≤ r * (l / r) := Int.mul_nonneg_of_nonpos_of_nonpos (Int.le_of_lt hlt) hle
          omega
        rw [Int.natAbs_mul] at e2
        have e3 : 1 ≤ r.natAbs := by omega
        have e4 : (l / r).natAbs ≤ r.natAbs * (l / r).natAbs := Nat.le_mul_of_pos_left _ e3
        omega
      omega
theorem opV_bd {b c : Nat} {l r : Int} {s : Str} (hb : 1 ≤ b) (hc : 1 ≤ c) (hl : l.natAbs < 2 ^ b) (hr : r.natAbs < 2 ^ c) (h0 : s = "/" → r ≠ 0) : (opV s l r).natAbs < 2 ^ (b + c) := by
  have one : ∀ p : Bool, (b01 p).natAbs < 2 ^ (b + c) := fun p => b01_lt (by omega) p
  unfold opV
  split
  · exact wide_lt hl hr
  split
  · rename_i z
    exact pow_lt_add (Nat.lt_of_le_of_lt (fdiv_abs l r (h0 z)) hl)
  split
  · exact Nat.lt_of_le_of_lt (Int.natAbs_add_le l r) (pow_add_le hb hc hl hr)
  split
  · have := pow_add_le hb hc hl hr
    omega
  repeat (split; · exact one _)
  exact one _
theorem boolR_bd {b : Nat} {x : Res} (h : 1 ≤ b) : Bd b (boolR x) := by
  refine ⟨h, fun i e => ?_⟩
  cases x with
  | error k => cases e
  | ok j =>
    have e' : b01 (decide (j ≠ 0)) = i := Except.ok.inj e
    rw [← e']
    exact b01_lt h _
theorem step_bd {b c : Nat} {s : Str} {k : Nat} {r x : Res} (hr : Bd b r) (hx : Bd c x) : Bd (b + c) (step s k r x) := by
  have hbc : 1 ≤ b + c := by have := hr.1; omega
  refine ⟨hbc, fun i e => ?_⟩
  cases r with
  | error z => cases e
  | ok l =>
    have hl := hr.2 l rfl
    unfold step at e
    dsimp only at e
    split at e
    · split at e
      · cases e
        exact b01_lt hbc false
      · exact (boolR_bd hbc).2 i e
    split at e
    · split at e
      · cases e
        exact b01_lt hbc true
      · exact (boolR_bd hbc).2 i e
    cases x with
    | error z => cases e
    | ok y =>
      dsimp only at e
      split at e
      · cases e
      · rename_i hz
        have hy := hx.2 y rfl
        cases e
        exact opV_bd hr.1 hx.1 hl hy fun z1 z2 => hz ⟨z1, z2⟩
theorem EvL.bd {F : Nat → V → Res → Prop} {H : Hp} {f : Int → Nat} (hF : ∀ b v r, F b v r → Bd b r) : ∀ {b r vs b' r'}, EvL F H f b r vs b' r' → Bd b r → Bd b' r' ∧ b ≤ b'
  | _, _, _, _, _, .nil, h => ⟨h, Nat.le_refl _⟩
  | _, _, _, _, _, .cons g1 g2 g3 g4 t, h => by
    obtain ⟨q1, q2⟩ := EvL.bd hF t (step_bd h (hF _ _ _ g4))
    exact ⟨q1, by omega⟩
theorem Ev.bd {H : Hp} {f : Int → Nat} : ∀ {n b v r}, Ev H f n b v r → Bd b r
  | 0, _, _, _, h => h.elim
  | n + 1, b, v, r, h => by
    rcases h with ⟨i, h1, h2, h3, h4⟩ | ⟨a, u, x, neg, h1, h2, h3, h4⟩ | ⟨a, l, u, x, vs, b0, h1, h2, h3, h4, h5⟩
    · refine ⟨h4, fun j e => ?_⟩
      rw [h2] at e
      rw [← Except.ok.inj e]
      exact h3
    · rw [h4]
      exact unR_bd neg (Ev.bd h3)
    · exact (EvL.bd (fun _ _ _ q => Ev.bd q) h5 (Ev.bd h4)).1
end Bp

/-! text: D13 -/
set_option Elab.async false
set_option linter.all false
set_option maxRecDepth 100000
set_option maxHeartbeats 4000000
/-! conditions: reckoned, the walk -/
namespace Bp
open PySem PySem.Spec PyProof.Rows L2
section
variable {P : Program} {w : World} {K : PySem.W.Frag} {mg : Str → Option Value} {base : Heap}
def Out (K : PySem.W.Frag) (f : Int → Nat) (H : Hp) (r : Res) (Q : VK) (E : XK) : Prop := match r with
  | .ok i => Q (.int i) H
  | .error k => ∀ (pl : Addr) (pg rw : V) (c : Int), f c = k → H pl = some (.tup [pg, rw, .int c]) → ByN K H (.ref pl) E
def spReck (K : PySem.W.Frag) (f : Int → Nat) (n : Nat) : Sp := fun vs H Q E => ∃ (v : V) (b : Nat) (r : Res), vs = [v] ∧ Ev H f n b v r ∧ b ≤ 8000 ∧ Out K f H r Q E
def spJoin (K : PySem.W.Frag) (f : Int → Nat) (n : Nat) : Sp := fun vs H Q E => ∃ (l : Int) (s : Str) (pl : Addr) (pg rw : V) (c : Int) (u : V) (b bx L : Nat) (x : Res), vs = [.int l, .str s, .ref pl, u] ∧ H pl = some (.tup [pg, rw, .int c]) ∧ s ∈ lev L ∧ Ev H f n bx u x ∧ 1 ≤ b ∧ l.natAbs < 2 ^ b ∧ b + bx ≤ 8000 ∧
  Out K f H (step s (f c) (.ok l) x) Q E
theorem sc_joined_conditions : FnScope ["left", "sign", "place", "right", "number"] ["left", "sign", "place", "right"] (defScope s_joined_conditions) := ⟨rfl, rfl, rfl, by decide +kernel, rfl, by decide +kernel, by decide +kernel⟩
theorem ok_joined (T : Top w K mg) (f : Int → Nat) (n : Nat) (g_reckoned : GOk P w K mg base (CX P w) (3 + 2 * n) "reckoned" ["tree"] (spReck K f n)) : GOk P w K mg base (CX P w) (3 + 2 * n + 1) "joined_conditions" ["left", "sign", "place", "right"] (spJoin K f n) := by
  obtain ⟨fd, F⟩ := T.f_joined_conditions
  refine ⟨_, fd, T.g_joined_conditions, F.kp, F.bindsN fun _ _ _ _ _ _ us hl => match us, hl with | [_, _, _, _], _ => rfl, F.ok sc_joined_conditions (fun vs H Q E h => ?_) (fun cdv A outer s H vs Q E hr h => ?_)⟩
  · obtain ⟨l, s, pl, pg, rw', c, u, b, bx, L, x, rfl, _⟩ := h
    rfl
  · obtain ⟨l, s', pl, pg, rw', c, u, b, bx, L, x, rfl, hpl, hs, hev, hb, hl, hbb, q⟩ := h
    refine ⟨_, (pss_cons (ps_if (pt_cmpR op_eq (pv 1) pe_str (nomark _))
        (pss_one (ps_ret (pe_callTy call_int1 (by rfl) T.b_int (by decide +kernel) (pa_cons (pe_and (pe_cmpR op_ne (pv 0) pe_int (nomark _)) (pe_one (pe_cmpR op_ne (pe_g g_reckoned hr (Nat.le_refl _) (passes_call (takes_of rfl rfl rfl rfl) fun _ _ _ _ h => h) (pa_cons (pv 3) pa_nil)) pe_int (nomark _)))) pa_nil))))
        pss_nil)
      (pss_cons (ps_if (pt_cmpR op_eq (pv 1) pe_str (nomark _))
        (pss_one (ps_ret (pe_callTy call_int1 (by rfl) T.b_int (by decide +kernel) (pa_cons (pe_or (pe_cmpR op_ne (pv 0) pe_int (nomark _)) (pe_one (pe_cmpR op_ne (pe_g g_reckoned hr (Nat.le_refl _) (passes_call (takes_of rfl rfl rfl rfl) fun _ _ _ _ h => h) (pa_cons (pv 3) pa_nil)) pe_int (nomark _)))) pa_nil))))
        pss_nil)
      (pss_cons (ps_set (i := 4) sc_joined_conditions.nd rfl (Or.inl rfl) (pe_g g_reckoned hr (Nat.le_refl _) (passes_call (takes_of rfl rfl rfl rfl) fun _ _ _ _ h => h) (pa_cons (pv 3) pa_nil)))
      (pss_cons (ps_if (PW.pt (pw_and (pt_cmpR op_eq (pv 1) pe_str (nomark _)) (pw_and1 (pt_cmpR op_eq (pv 4) pe_int (nomark _)))))
        (pss_one (ps_raiseZ rfl T (hr.mono (by omega)) (takes_of rfl rfl rfl rfl) pass0 (pa_cons (pv 2) pa_nil) T.g_ByNought (fun _ _ _ _ h ⟨v, e, q⟩ => ⟨v, e, h _ _ q⟩)))
        pss_nil)
      (pss_one (ps_ret (pe_callE (k := 1) (pe_ix ix_kdict (pe_glob (v := .ref (He.ga K "SIGNS")) rfl T.g_SIGNS rfl) (pv 1) (fun _ _ => rfl)) (hr.mono (by omega)) pass0 (pa_cons (pv 0) (pa_cons (pv 4) pa_nil))))))))), ?_⟩
    refine ⟨_, rfl, rfl, _, rfl, ?_⟩
    have dS : ∀ {a b : Str}, a = b → decide (V.str a = V.str b) = true := fun z => decide_eq_true (congrArg V.str z)
    have dN : ∀ {a b : Str}, ¬ a = b → decide (V.str a = V.str b) = false := fun z => decide_eq_false fun y => z (V.str.inj y)
    have zb : ∀ i : Int, (!decide (V.int i = V.int 0)) = decide (i ≠ 0) := fun i => by rw [← decide_not]; exact decide_eq_decide.mpr ⟨fun z y => z (congrArg V.int y), fun z y => z (V.int.inj y)⟩
    have fin : ∀ i : Int, (if (!decide (V.int i = V.int 0)) = true then (1 : Int) else 0) = b01 (decide (i ≠ 0)) := fun i => by rw [zb]; rfl
    by_cases c1 : s' = "&&"
    · rw [dS c1]
      refine iteT ⟨_, rfl, rfl, _, rfl, ?_⟩
      rw [zb]
      have es : step s' (f c) (.ok l) x = if l = 0 then .ok 0 else boolR x := if_pos c1
      rw [es] at q
      by_cases c0 : l = 0
      · rw [if_pos c0] at q
        rw [decide_eq_false (fun z => z c0)]
        refine iteF (.inr ⟨_, rfl, q⟩)
      · rw [if_neg c0] at q
        rw [decide_eq_true c0]
        refine iteT ⟨_, rfl, u, bx, x, rfl, hev, by omega, ?_⟩
        cases x with
        | ok i =>
          refine ⟨rfl, .inr ⟨_, rfl, ?_⟩⟩
          rw [fin]
          exact q
        | error k => exact q
    rw [dN c1]
    refine iteF ⟨_, rfl, rfl, _, rfl, ?_⟩
    by_cases c2 : s' = "||"
    · rw [dS c2]
      refine iteT ⟨_, rfl, rfl, _, rfl, ?_⟩
      rw [zb]
      have es : step s' (f c) (.ok l) x = if l ≠ 0 then .ok 1 else boolR x := (if_neg c1).trans (if_pos c2)
      rw [es] at q
      by_cases c0 : l ≠ 0
      · rw [if_pos c0] at q
        rw [decide_eq_true c0]
        refine iteT (.inr ⟨_, rfl, q⟩)
      · rw [if_neg c0] at q
        rw [decide_eq_false c0]
        refine iteF ⟨_, rfl, u, bx, x, rfl, hev, by omega, ?_⟩
        cases x with
        | ok i =>
          refine ⟨rfl, .inr ⟨_, rfl, ?_⟩⟩
          rw [fin]
          exact q
        | error k => exact q
    rw [dN c2]
    have hsg : s' ∈ signKs := by
      have all : ((List.range 5).all fun j => (lev j).all fun z => decide (z = "&&") || (decide (z = "||") || decide (z ∈ signKs))) = true := by decide +kernel
      have z := List.all_eq_true.mp (List.all_eq_true.mp all L (List.mem_range.mpr (lev_far hs))) s' hs
      rw [decide_eq_false c1, decide_eq_false c2, Bool.false_or, Bool.false_or] at z
      exact of_decide_eq_true z
    have hxb := Ev.bd hev
    have es1 : ∀ e, step s' (f c) (.ok l) (.error e) = .error e := fun e => (if_neg c1).trans (if_neg c2)
    have es2 : ∀ r, step s' (f c) (.ok l) (.ok r) = if s' = "/" ∧ r = 0 then .error (f c) else .ok (opV s' l r) := fun r => (if_neg c1).trans (if_neg c2)
    refine iteF ⟨_, rfl, u, bx, x, rfl, hev, by omega, ?_⟩
    cases x with
    | error k =>
      rw [es1] at q
      exact q
    | ok r =>
      rw [es2] at q
      have hr8 : r.natAbs < 2 ^ 8000 := Nat.lt_of_lt_of_le (hxb.2 r rfl) (Nat.pow_le_pow_right (by decide) (by omega))
      have hl8 : l.natAbs < 2 ^ 8000 := Nat.lt_of_lt_of_le hl (Nat.pow_le_pow_right (by decide) (by omega))
      have zr : decide (V.int r = V.int 0) = decide (r = 0) := decide_eq_decide.mpr ⟨fun z => V.int.inj z, fun z => congrArg V.int z⟩
      obtain ⟨ff, ffd, k1, k2, k3, k4⟩ := ok_sign (P := P) (base := base) T hsg
      refine ⟨_, rfl, rfl, _, rfl, ?_⟩
      by_cases c3 : s' = "/"
      · rw [dS c3]
        refine iteT ⟨_, rfl, rfl, _, rfl, ?_⟩
        rw [zr]
        by_cases c4 : r = 0
        · rw [decide_eq_true c4]
          have q' : Out K f H (if s' = "/" ∧ r = 0 then .error (f c) else .ok (opV s' l r)) Q E := q
          rw [if_pos ⟨c3, c4⟩] at q'
          refine iteT ⟨_, rfl, _, rfl, q' pl pg rw' c rfl hpl⟩
        · rw [decide_eq_false c4]
          have q' : Out K f H (if s' = "/" ∧ r = 0 then .error (f c) else .ok (opV s' l r)) Q E := q
          rw [if_neg fun z => c4 z.2] at q'
          refine iteF ⟨_, rfl, _, _, _, rfl, rfl, k1, ff, ffd, _, _, rfl, k2, k3, k4, _, rfl, _, rfl, l, r, rfl, hl8, hr8, fun _ => c4, q'⟩
      · rw [dN c3]
        have q' : Out K f H (if s' = "/" ∧ r = 0 then .error (f c) else .ok (opV s' l r)) Q E := q
        rw [if_neg fun z => c3 z.1] at q'
        refine iteF (iteF ⟨_, rfl, _, _, _, rfl, rfl, k1, ff, ffd, _, _, rfl, k2, k3, k4, _, rfl, _, rfl, l, r, rfl, hl8, hr8, fun z => absurd z c3, q'⟩)
end
end Bp

/-! text: D14 -/
set_option Elab.async false
set_option linter.all false
set_option maxRecDepth 100000
set_option maxHeartbeats 4000000
/-! conditions: reckoned, the walk -/
namespace Bp
open PySem PySem.Spec PyProof.Rows L2
section
variable {P : Program} {w : World} {K : PySem.W.Frag} {mg : Str → Option Value} {base : Heap}
theorem EvL.err {F : Nat → V → Res → Prop} {H : Hp} {f : Int → Nat} {k : Nat} : ∀ {b r vs b' r'}, EvL F H f b r vs b' r' → r = .error k → r' = .error k
  | _, _, _, _, _, .nil, h => h
  | _, _, _, _, _, .cons g1 g2 g3 g4 t, h => by
    rw [h] at t
    exact EvL.err t rfl
theorem sc_reckoned : FnScope ["tree", "word", "first", "more", "found", "sign", "place", "right"] ["tree"] (defScope s_reckoned) := ⟨rfl, rfl, rfl, by decide +kernel, rfl, by decide +kernel, by decide +kernel⟩
theorem ok_reckoned1 (T : Top w K mg) (f : Int → Nat) (n : Nat) (g_reckoned : GOk P w K mg base (CX P w) (3 + 2 * n) "reckoned" ["tree"] (spReck K f n)) : GOk P w K mg base (CX P w) (3 + 2 * n + 1 + 1) "reckoned" ["tree"] (spReck K f (n + 1)) := by
  have g_joined_conditions := ok_joined T f n g_reckoned
  obtain ⟨fd, F⟩ := T.f_reckoned
  refine ⟨_, fd, T.g_reckoned, F.kp, F.bindsN fun _ _ _ _ _ _ us hl => match us, hl with | [_], _ => rfl, F.ok sc_reckoned (fun vs H Q E h => ?_) (fun cdv A outer s H vs Q E hr h => ?_)⟩
  · obtain ⟨v, b, r, rfl, _⟩ := h
    rfl
  · obtain ⟨v, b, r, rfl, hev, hb, q⟩ := h
    refine ⟨_, (pss_cons (ps_if (pt_val (pe_callB call_isi (by rfl) T.b_isinstance (by decide +kernel) (pa_cons (pv 0) (pa_cons (pe_bltn (v := .ty "int") rfl T.b_int (by decide +kernel) rfl) pa_nil))))
        (pss_one (ps_ret (pv 0)))
        pss_nil)
      (pss_cons (ps_if (pt_cmpR op_eq (pe_ix ix_tup (pv 0) pe_int (fun _ _ => rfl)) pe_str (nomark _))
        (pss_one (ps_ret (pe_callTy call_int1 (by rfl) T.b_int (by decide +kernel) (pa_cons (pe_cmpR op_eq (pe_g g_reckoned hr (by omega) (passes_call (takes_of rfl rfl rfl rfl) fun _ _ _ _ h => h) (pa_cons (pe_ix ix_tup (pv 0) pe_int (fun _ _ => rfl)) pa_nil)) pe_int (nomark _)) pa_nil))))
        pss_nil)
      (pss_cons (ps_if (pt_cmpR op_eq (pe_ix ix_tup (pv 0) pe_int (fun _ _ => rfl)) pe_str (nomark _))
        (pss_one (ps_ret (pe_op op_sub pe_int (pe_g g_reckoned hr (by omega) (passes_call (takes_of rfl rfl rfl rfl) fun _ _ _ _ h => h) (pa_cons (pe_ix ix_tup (pv 0) pe_int (fun _ _ => rfl)) pa_nil)))))
        pss_nil)
      (pss_cons (ps_asg (pv 0) (pg_tup rfl (pgs_cons (pg_name (i := 1) sc_reckoned.nd rfl (Or.inl rfl)) (pgs_cons (pg_name (i := 2) sc_reckoned.nd rfl (Or.inl rfl)) (pgs_cons (pg_name (i := 3) sc_reckoned.nd rfl (Or.inl rfl)) pgs_nil)))))
      (pss_cons (ps_set (i := 4) sc_reckoned.nd rfl (Or.inl rfl) (pe_g g_reckoned hr (by omega) (passes_call (takes_of rfl rfl rfl rfl) fun _ _ _ _ h => h) (pa_cons (pv 2) pa_nil)))
      (pss_cons (ps_for (passes_of rfl) rfl (pi_list (pv 3)) (pg_tup rfl (pgs_cons (pg_name (i := 5) sc_reckoned.nd rfl (Or.inl rfl)) (pgs_cons (pg_name (i := 6) sc_reckoned.nd rfl (Or.inl rfl)) (pgs_cons (pg_name (i := 7) sc_reckoned.nd rfl (Or.inl rfl)) pgs_nil))))
        (pss_one (ps_set (i := 4) sc_reckoned.nd rfl (Or.inl rfl) (pe_g g_joined_conditions hr (Nat.le_refl _) (passes_call (takes_of rfl rfl rfl rfl) fun _ _ _ _ h => h) (pa_cons (pv 4) (pa_cons (pv 5) (pa_cons (pv 6) (pa_cons (pv 7) pa_nil))))))))
      (pss_one (ps_ret (pv 4))))))))), ?_⟩
    rcases hev with ⟨i, rfl, rfl, h3, h4⟩ | ⟨a, u, x, neg, rfl, h2, h3, rfl⟩ | ⟨a, l, u, x, vs, b0, rfl, h2, h3, h4, h5⟩
    · refine ⟨_, rfl, _, _, _, _, true, rfl, .ty "int", .base (.int _), kit_ty (by decide +kernel), _, rfl, iteT ⟨_, rfl, q⟩⟩
    · refine ⟨_, rfl, _, _, _, _, false, rfl, .ty "int", .base (.tup h2), kit_ty (by decide +kernel), _, rfl, iteF ?_⟩
      refine ⟨_, rfl, a, _, 0, _, rfl, rfl, SqT.of h2, atI_nat (j := 0) rfl, rfl, _, rfl, ?_⟩
      cases neg with
      | false =>
        rw [show decide (V.str (unS false) = V.str (Str.ofString "!")) = true by decide +kernel]
        refine iteT ⟨_, rfl, a, _, 1, _, rfl, rfl, SqT.of h2, atI_nat (j := 1) rfl, u, b, x, rfl, h3, hb, ?_⟩
        cases x with
        | error k => exact q
        | ok i =>
          refine ⟨rfl, .inr ⟨_, rfl, ?_⟩⟩
          rw [show decide (V.int i = V.int 0) = decide (i = 0) from decide_eq_decide.mpr ⟨fun z => V.int.inj z, fun z => congrArg V.int z⟩]
          exact q
      | true =>
        rw [show decide (V.str (unS true) = V.str (Str.ofString "!")) = false by decide +kernel]
        refine iteF ⟨_, rfl, a, _, 0, _, rfl, rfl, SqT.of h2, atI_nat (j := 0) rfl, rfl, _, rfl, ?_⟩
        rw [show decide (V.str (unS true) = V.str (Str.ofString "-")) = true by decide +kernel]
        refine iteT ⟨_, rfl, a, _, 1, _, rfl, rfl, SqT.of h2, atI_nat (j := 1) rfl, u, b, x, rfl, h3, hb, ?_⟩
        cases x with
        | error k => exact q
        | ok i => exact ⟨_, _, rfl, rfl, q⟩
    · refine ⟨_, rfl, _, _, _, _, false, rfl, .ty "int", .base (.tup h2), kit_ty (by decide +kernel), _, rfl, iteF ?_⟩
      refine ⟨_, rfl, a, _, 0, _, rfl, rfl, SqT.of h2, atI_nat (j := 0) rfl, rfl, _, rfl, ?_⟩
      rw [show decide (V.str "chain" = V.str (Str.ofString "!")) = false by decide +kernel]
      refine iteF ⟨_, rfl, a, _, 0, _, rfl, rfl, SqT.of h2, atI_nat (j := 0) rfl, rfl, _, rfl, ?_⟩
      rw [show decide (V.str "chain" = V.str (Str.ofString "-")) = false by decide +kernel]
      refine iteF ?_
      refine ⟨_, rfl, a, _, rfl, SqT.of h2, rfl, _, _, rfl, _, _, rfl, _, _, rfl, rfl, ?_⟩
      have hbl := EvL.bd (fun _ _ _ z => Ev.bd z) h5 (Ev.bd h4)
      refine ⟨_, rfl, u, b0, x, rfl, h4, by omega, ?_⟩
      cases x with
      | error k =>
        rw [EvL.err h5 rfl] at q
        exact q
      | ok l0 =>
        refine ⟨_, rfl, l, rfl, ⟨_, SqL.of h3⟩, for_list (xs := vs) (fun i σ H' => H' = H ∧ ∃ (bc : Nat) (lc : Int) (o1 o2 o3 : Option V), σ = [some (.ref a), some (.str "chain"), some u, some (.ref l), some (.int lc), o1, o2, o3] ∧ EvL (Ev H f n) H f bc (.ok lc) (vs.drop i) b r ∧ Bd bc (.ok lc)) ⟨rfl, b0, l0, _, _, _, rfl, h5, Ev.bd h4⟩ ?_ ?_ ?_⟩
        · rintro i σ H' hi ⟨rfl, _⟩
          exact SqL.of h3
        · rintro i y σ H' hy ⟨rfl, bc, lc, o1, o2, o3, rfl, hel, hbd⟩
          obtain ⟨hi, hy2⟩ := List.getElem?_eq_some_iff.mp hy
          rw [List.drop_eq_getElem_cons hi, hy2] at hel
          cases hel with
          | cons g1 g2 g3 g4 g5 =>
            rename_i bx x s p pl pg rw' u2 c L
            have hb2 := EvL.bd (fun _ _ _ z => Ev.bd z) g5 (step_bd hbd (Ev.bd g4))
            refine ⟨p, _, rfl, SqT.of g1, rfl, _, _, rfl, _, _, rfl, _, _, rfl, rfl, ?_⟩
            refine ⟨_, rfl, _, rfl, _, rfl, _, rfl, lc, s, pl, pg, rw', c, u2, bc, bx, L, x, rfl, g2, g3, g4, hbd.1, hbd.2 _ rfl, by omega, ?_⟩
            have hst := step_bd (s := s) (k := f c) hbd (Ev.bd g4)
            cases e : step s (f c) (.ok lc) x with
            | error k =>
              rw [EvL.err g5 e] at q
              exact q
            | ok l2 =>
              rw [e] at g5 hst
              exact ⟨rfl, _, l2, _, _, _, rfl, g5, hst⟩
        · rintro σ H' ⟨rfl, bc, lc, o1, o2, o3, rfl, hel, hbd⟩
          rw [List.drop_length] at hel
          cases hel
          exact ⟨_, rfl, q⟩
theorem ok_reckoned (T : Top w K mg) (f : Int → Nat) : ∀ n, GOk P w K mg base (CX P w) (3 + 2 * n) "reckoned" ["tree"] (spReck K f n)
  | 0 => by
    obtain ⟨fd, F⟩ := T.f_reckoned
    refine ⟨_, fd, T.g_reckoned, F.kp, F.bindsN fun _ _ _ _ _ _ us hl => match us, hl with | [_], _ => rfl, F.ok (k := 2) sc_reckoned (fun vs H Q E h => ?_) (fun cdv A outer s H vs Q E hr h => ?_)⟩
    all_goals
      obtain ⟨v, b, r, e, hev, _⟩ := h
      exact hev.elim
  | n + 1 => ok_reckoned1 T f n (ok_reckoned T f n)
end
end Bp

/-! text: P3 -/
set_option Elab.async false
set_option linter.all false
set_option maxRecDepth 100000
set_option maxHeartbeats 4000000
/-! numbers told otherwise: plain -/
namespace Bp
open PySem PySem.Spec PyProof.Rows L2
/-- texts that are told as tokens, numbers in all ways -/
inductive TlW : Nat → List Str → List Tk → Prop
  | nil {t : Nat} : TlW t [] []
  | sg {t : Nat} {s : Str} {us : List Str} {ks : List Tk} : s ∈ sgs → TlW (t + sl s) us ks → TlW t (s :: us) (.sg s t :: ks)
  | num {t v : Nat} {u : Str} {us : List Str} {ks : List Tk} : NumT u v → TlW t us ks → TlW t (u :: us) (.num v :: ks)
  | pm {t v : Nat} {u : Str} {us : List Str} {ks : List Tk} : (u = "p0" ∧ v = 0 ∨ u = "p1" ∧ v = 1 ∨ u = "p2" ∧ v = 2) → TlW t us ks → TlW t (u :: us) (.num v :: ks)
  | q {t v : Nat} {u : Str} {us : List Str} {ks : List Tk} : NumT u v → TlW t us ks → TlW t ("q" :: "(" :: u :: ")" :: us) (.num v :: ks)
  | has {t v : Nat} {u : Str} {us : List Str} {ks : List Tk} : (u = "no" ∧ v = 0 ∨ u = "p1" ∧ v = 1) → TlW t us ks → TlW t ("has" :: u :: us) (.num v :: ks)
/-- numbers told otherwise -/
inductive OthR : List Str → List Str → Prop
  | nil : OthR [] []
  | keep {s : Str} {us ws : List Str} : s ∈ sgs → OthR us ws → OthR (s :: us) (s :: ws)
  | num {v : Nat} {u : Str} {us ws : List Str} : v < 10 ^ 18 → NumT u v → OthR us ws → OthR (dec v :: us) (u :: ws)
  | pm {v : Nat} {u : Str} {us ws : List Str} : v < 10 ^ 18 → (u = "p0" ∧ v = 0 ∨ u = "p1" ∧ v = 1 ∨ u = "p2" ∧ v = 2) → OthR us ws → OthR (dec v :: us) (u :: ws)
  | q {v : Nat} {us ws : List Str} : v < 10 ^ 18 → OthR us ws → OthR (dec v :: us) ("q" :: "(" :: dec v :: ")" :: ws)
  | has {v : Nat} {u : Str} {us ws : List Str} : v < 10 ^ 18 → (u = "no" ∧ v = 0 ∨ u = "p1" ∧ v = 1) → OthR us ws → OthR (dec v :: us) ("has" :: u :: ws)
theorem dec_inj {v v' : Nat} (h : dec v = dec v') : v = v' := TL.numL_inj (by rw [← dec_cps, ← dec_cps, h])
theorem sgs_head : (sgs.all fun s => match s.cps.toList with
    | c :: _ => decide (¬ (48 ≤ c ∧ c ≤ 57))
    | [] => true) = true := by decide +kernel
theorem dec_sgs {v : Nat} (hv : v < 10 ^ 18) (h : dec v ∈ sgs) : False := by
  obtain ⟨c, r, e, hc⟩ := (dec_numT hv).head
  have z := List.all_eq_true.mp sgs_head _ h
  rw [e] at z
  exact of_decide_eq_true z hc
theorem Tl.dec_cases {t v : Nat} {us : List Str} {ks : List Tk} (hv : v < 10 ^ 18) (h : Tl t (dec v :: us) ks) : ∃ ks', ks = .num v :: ks' ∧ Tl t us ks' := by
  generalize e : dec v :: us = ws at h
  cases h with
  | nil => cases e
  | sg h1 h2 =>
    obtain ⟨e1, e2⟩ := List.cons.inj e
    rw [← e1] at h1
    exact (dec_sgs hv h1).elim
  | num h1 h2 =>
    obtain ⟨e1, e2⟩ := List.cons.inj e
    rw [← dec_inj e1, e2]
    exact ⟨_, rfl, h2⟩
theorem Tl.sg_cases {t : Nat} {s : Str} {us : List Str} {ks : List Tk} (hs : s ∈ sgs) (h : Tl t (s :: us) ks) : ∃ ks', ks = .sg s t :: ks' ∧ Tl (t + sl s) us ks' := by
  generalize e : s :: us = ws at h
  cases h with
  | nil => cases e
  | sg h1 h2 =>
    obtain ⟨e1, e2⟩ := List.cons.inj e
    rw [e1, e2]
    exact ⟨_, rfl, h2⟩
  | num h1 h2 =>
    obtain ⟨e1, e2⟩ := List.cons.inj e
    rw [e1] at hs
    exact (dec_sgs h1 hs).elim
theorem OthR.tl : ∀ {us ws : List Str}, OthR us ws → ∀ {t : Nat} {ks : List Tk}, Tl t us ks → TlW t ws ks
  | _, _, .nil, _, _, h => by
    cases h
    exact .nil
  | _, _, .keep hs o, _, _, h => by
    obtain ⟨ks', rfl, h2⟩ := h.sg_cases hs
    exact .sg hs (o.tl h2)
  | _, _, .num hv hn o, _, _, h => by
    obtain ⟨ks', rfl, h2⟩ := h.dec_cases hv
    exact .num hn (o.tl h2)
  | _, _, .pm hv hn o, _, _, h => by
    obtain ⟨ks', rfl, h2⟩ := h.dec_cases hv
    exact .pm hn (o.tl h2)
  | _, _, .q hv o, _, _, h => by
    obtain ⟨ks', rfl, h2⟩ := h.dec_cases hv
    exact .q (dec_numT hv) (o.tl h2)
  | _, _, .has hv hn o, _, _, h => by
    obtain ⟨ks', rfl, h2⟩ := h.dec_cases hv
    exact .has hn (o.tl h2)
/-- texts of signs and numbers alone -/
def Sm (us : List Str) : Prop := ∀ u ∈ us, u ∈ sgs ∨ ∃ v, v < 10 ^ 18 ∧ u = dec v
theorem Tl.sm : ∀ {t : Nat} {us : List Str} {ks : List Tk}, Tl t us ks → Sm us
  | _, _, _, .nil => fun _ h => nomatch h
  | _, _, _, .sg h1 h2 => fun u hu => by
    rcases List.mem_cons.mp hu with e | hu
    · rw [e]
      exact .inl h1
    · exact h2.sm u hu
  | _, _, _, .num h1 h2 => fun u hu => by
    rcases List.mem_cons.mp hu with e | hu
    · rw [e]
      exact .inr ⟨_, h1, rfl⟩
    · exact h2.sm u hu
theorem OthR.snoc : ∀ {us ws : List Str}, OthR us ws → ∀ {us' ws' : List Str}, OthR us' ws' → OthR (us ++ us') (ws ++ ws')
  | _, _, .nil, _, _, h => h
  | _, _, .keep hs o, _, _, h => .keep hs (o.snoc h)
  | _, _, .num hv hn o, _, _, h => .num hv hn (o.snoc h)
  | _, _, .pm hv hn o, _, _, h => .pm hv hn (o.snoc h)
  | _, _, .q hv o, _, _, h => .q hv (o.snoc h)
  | _, _, .has hv hn o, _, _, h => .has hv hn (o.snoc h)
theorem OthR.same : ∀ {us : List Str}, Sm us → OthR us us
  | [], _ => .nil
  | u :: us, h => by
    have r : OthR us us := OthR.same fun y hy => h y (List.mem_cons_of_mem _ hy)
    rcases h u (List.mem_cons_self ..) with q | ⟨v, q, rfl⟩
    · exact .keep q r
    · exact .num q (dec_numT q) r
/-- the texts, told in any way, are worth r -/
def GoodW (us : List Str) (r : Res) : Prop := ∃ ks b, TlW 0 us ks ∧ Rd 80 0 0 b ks r ∧ b ≤ 8000
theorem Good.sm {us : List Str} {r : Res} (h : Good us r) : Sm us := by
  obtain ⟨ks, b, h, _⟩ := h
  exact h.sm
theorem Good.oth {us ws : List Str} {r : Res} (h : Good us r) (o : OthR us ws) : GoodW ws r := by
  obtain ⟨ks, b, h1, h2, h3⟩ := h
  exact ⟨ks, b, o.tl h1, h2, h3⟩
theorem Good.wide {us : List Str} {r : Res} (h : Good us r) : GoodW us r := h.oth (OthR.same h.sm)
end Bp

/-! text: P4 -/
set_option Elab.async false
set_option linter.all false
set_option maxRecDepth 100000
set_option maxHeartbeats 4000000
/-! a row of texts, read back: plain -/
namespace Bp
open PySem PySem.Spec PyProof.Rows L2
/-- a text that is read as one token -/
def TokL (l : List Nat) : Prop := (∃ d r, l = d :: r ∧ d ≠ 32) ∧ 34 ∉ l ∧ (∀ c ∈ l, c ≠ 10) ∧ ∀ rest, (rest = [] ∨ ∃ r', rest = 32 :: r') → tokLen (l ++ rest) = l.length
theorem takeWhile_all {p : Nat → Bool} : ∀ {l rest : List Nat}, (∀ c ∈ l, p c = true) → (rest = [] ∨ ∃ d r', rest = d :: r' ∧ p d = false) → (l ++ rest).takeWhile p = l
  | [], _, _, .inl e => by rw [e]; rfl
  | [], _, _, .inr ⟨d, r', e, hd⟩ => by
    rw [e, List.nil_append, List.takeWhile_cons_of_neg (by rw [hd]; decide)]
  | c :: l, rest, h, hr => by
    rw [List.cons_append, List.takeWhile_cons_of_pos (h c (List.mem_cons_self ..)), takeWhile_all (fun y hy => h y (List.mem_cons_of_mem _ hy)) hr]
theorem tok_word {l : List Nat} (hne : l ≠ []) (h : ∀ c ∈ l, isAl c = true) : TokL l := by
  have bad : ∀ c, c = 32 ∨ c = 34 ∨ c = 10 → isAl c = false := by
    intro c hc
    rcases hc with rfl | rfl | rfl <;> decide +kernel
  have no : ∀ c ∈ l, c ≠ 32 ∧ c ≠ 34 ∧ c ≠ 10 := fun c hc => by
    have z := h c hc
    refine ⟨fun e => ?_, fun e => ?_, fun e => ?_⟩ <;> rw [bad c (by simp [e])] at z <;> cases z
  refine ⟨?_, fun z => (no _ z).2.1 rfl, fun c hc => (no c hc).2.2, fun rest hr => ?_⟩
  · cases l with
    | nil => exact absurd rfl hne
    | cons d r => exact ⟨d, r, rfl, (no d (List.mem_cons_self ..)).1⟩
  · cases l with
    | nil => exact absurd rfl hne
    | cons d r =>
      show (if isAl d = true then wordLen (d :: r ++ rest) else _) = _
      rw [if_pos (h d (List.mem_cons_self ..))]
      unfold wordLen
      rw [takeWhile_all (p := isAl) h (hr.elim .inl fun ⟨r', e⟩ => .inr ⟨32, r', e, bad 32 (.inl rfl)⟩)]
def sgOkB (l : List Nat) : Bool := match l with
  | [c] => !isAl c && (!pairAt [c, 32] && (decide (c ≠ 32) && (decide (c ≠ 34) && decide (c ≠ 10))))
  | [c, d] => !isAl c && (pairAt [c, d] && (decide (c ≠ 32) && (decide (c ≠ 34) && (decide (c ≠ 10) && (decide (d ≠ 34) && decide (d ≠ 10))))))
  | _ => false
theorem sgs_okB : (sgs.all fun s => sgOkB s.cps.toList) = true := by decide +kernel
theorem tok_sgB {l : List Nat} (h : sgOkB l = true) : TokL l := by
  match l, h with
  | [c], h =>
    simp only [sgOkB, Bool.and_eq_true, Bool.not_eq_true', decide_eq_true_eq] at h
    obtain ⟨h1, h2, h3, h4, h5⟩ := h
    refine ⟨⟨c, [], rfl, h3⟩, by simpa using fun z => h4 z.symm, by simpa using h5, fun rest hr => ?_⟩
    show (if isAl c = true then _ else if pairAt (c :: ([] ++ rest)) = true then 2 else 1) = 1
    rw [if_neg (by rw [h1]; decide)]
    have e : pairAt (c :: ([] ++ rest)) = false := by
      rcases hr with rfl | ⟨r', rfl⟩
      · exact pair_short
      · exact h2
    rw [if_neg (by rw [e]; decide)]
  | [c, d], h =>
    simp only [sgOkB, Bool.and_eq_true, Bool.not_eq_true', decide_eq_true_eq] at h
    obtain ⟨h1, h2, h3, h4, h5, h6, h7⟩ := h
    refine ⟨⟨c, [d], rfl, h3⟩, by simpa using ⟨fun z => h4 z.symm, fun z => h6 z.symm⟩, by simpa using ⟨h5, h7⟩, fun rest hr => ?_⟩
    show (if isAl c = true then _ else if pairAt (c :: ([d] ++ rest)) = true then 2 else 1) = 2
    rw [if_neg (by rw [h1]; decide)]
    have e : pairAt (c :: ([d] ++ rest)) = true := h2
    rw [if_pos e]
theorem tok_sg {s : Str} (h : s ∈ sgs) : TokL s.cps.toList := tok_sgB (List.all_eq_true.mp sgs_okB s h)
theorem isAl_rng {c : Nat} (h : (48 ≤ c ∧ c ≤ 57) ∨ (97 ≤ c ∧ c ≤ 122)) : isAl c = true := by
  have all : ((List.range 123).all fun c => (decide (c < 48) || decide (57 < c)) && decide (c < 97) || isAl c) = true := by decide +kernel
  have z := List.all_eq_true.mp all c (List.mem_range.mpr (by omega))
  rcases h with h | h
  · rw [decide_eq_false (by omega : ¬ c < 48), decide_eq_false (by omega : ¬ 57 < c)] at z
    simpa using z
  · rw [decide_eq_false (by omega : ¬ c < 97)] at z
    simpa using z
theorem num_chars {u : Str} {v : Nat} (h : NumT u v) : ∀ c ∈ u.cps.toList, (48 ≤ c ∧ c ≤ 57) ∨ (97 ≤ c ∧ c ≤ 122) := by
  rcases h with ⟨_, h, _⟩ | ⟨l, e, _, _, h, _⟩
  · exact fun c hc => .inl (h c hc)
  · intro c hc
    rw [e] at hc
    rcases List.mem_cons.mp hc with rfl | hc
    · exact .inl (by omega)
    rcases List.mem_cons.mp hc with rfl | hc
    · exact .inr (by omega)
    · have := h c hc
      omega
theorem tok_num {u : Str} {v : Nat} (h : NumT u v) : TokL u.cps.toList := by
  obtain ⟨c, r, e, _⟩ := h.head
  exact tok_word (by rw [e]; simp) fun c hc => isAl_rng (num_chars h c hc)
def wordB (s : Str) : Bool := (!s.cps.toList.isEmpty) && s.cps.toList.all fun c => decide (97 ≤ c ∧ c ≤ 122) || decide (48 ≤ c ∧ c ≤ 57)
theorem tok_wordB {s : Str} (h : wordB s = true) : TokL s.cps.toList ∧ ∀ c ∈ s.cps.toList, (48 ≤ c ∧ c ≤ 57) ∨ (97 ≤ c ∧ c ≤ 122) := by
  unfold wordB at h
  rw [Bool.and_eq_true] at h
  have g : ∀ c ∈ s.cps.toList, (48 ≤ c ∧ c ≤ 57) ∨ (97 ≤ c ∧ c ≤ 122) := fun c hc => by
    have z := List.all_eq_true.mp h.2 c hc
    rw [Bool.or_eq_true, decide_eq_true_eq, decide_eq_true_eq] at z
    exact z.symm
  refine ⟨tok_word (fun e => ?_) fun c hc => isAl_rng (g c hc), g⟩
  rw [e] at h
  exact absurd h.1 (by decide)
/-- slashes among signs -/
def cnt (l : List Nat) : Nat := l.count 47
theorem cnt_word {l : List Nat} (h : ∀ c ∈ l, (48 ≤ c ∧ c ≤ 57) ∨ (97 ≤ c ∧ c ≤ 122)) : cnt l = 0 := List.count_eq_zero.mpr fun z => by
  have := h _ z
  omega
/-- a text as told: one token, slashes as counted -/
def TokS (u : Str) : Prop := TokL u.cps.toList ∧ cnt u.cps.toList = sl u
theorem toks_sg {s : Str} (h : s ∈ sgs) : TokS s := by
  refine ⟨tok_sg h, ?_⟩
  have all : (sgs.all fun s => decide (cnt s.cps.toList = sl s)) = true := by decide +kernel
  exact of_decide_eq_true (List.all_eq_true.mp all s h)
theorem sl_word {s : Str} (h : ∀ c ∈ s.cps.toList, (48 ≤ c ∧ c ≤ 57) ∨ (97 ≤ c ∧ c ≤ 122)) : sl s = 0 := if_neg fun z => by
  rw [z, show ("/" : Str).cps.toList = [47] by decide +kernel] at h
  have := h 47 (List.mem_singleton.mpr rfl)
  omega
theorem toks_num {u : Str} {v : Nat} (h : NumT u v) : TokS u := ⟨tok_num h, by rw [cnt_word (num_chars h), sl_num h]⟩
theorem toks_wordB {s : Str} (h : wordB s = true) : TokS s := ⟨(tok_wordB h).1, by rw [cnt_word (tok_wordB h).2, sl_word (tok_wordB h).2]⟩
theorem TlW.toks : ∀ {t : Nat} {us : List Str} {ks : List Tk}, TlW t us ks → ∀ u ∈ us, TokS u
  | _, _, _, .nil => fun _ h => nomatch h
  | _, _, _, .sg h1 h2 => fun u hu => by
    rcases List.mem_cons.mp hu with e | hu
    · rw [e]
      exact toks_sg h1
    · exact h2.toks u hu
  | _, _, _, .num h1 h2 => fun u hu => by
    rcases List.mem_cons.mp hu with e | hu
    · rw [e]
      exact toks_num h1
    · exact h2.toks u hu
  | _, _, _, .pm h1 h2 => fun u hu => by
    rcases List.mem_cons.mp hu with e | hu
    · rw [e]
      rcases h1 with ⟨z, _⟩ | ⟨z, _⟩ | ⟨z, _⟩ <;> rw [z] <;> exact toks_wordB (by decide +kernel)
    · exact h2.toks u hu
  | _, _, _, .q h1 h2 => fun u hu => by
    rcases List.mem_cons.mp hu with e | hu
    · rw [e]
      exact toks_wordB (by decide +kernel)
    rcases List.mem_cons.mp hu with e | hu
    · rw [e]
      exact toks_sg (by decide +kernel)
    rcases List.mem_cons.mp hu with e | hu
    · rw [e]
      exact toks_num h1
    rcases List.mem_cons.mp hu with e | hu
    · rw [e]
      exact toks_sg (by decide +kernel)
    · exact h2.toks u hu
  | _, _, _, .has h1 h2 => fun u hu => by
    rcases List.mem_cons.mp hu with e | hu
    · rw [e]
      exact toks_wordB (by decide +kernel)
    rcases List.mem_cons.mp hu with e | hu
    · rw [e]
      rcases h1 with ⟨z, _⟩ | ⟨z, _⟩ <;> rw [z] <;> exact toks_wordB (by decide +kernel)
    · exact h2.toks u hu
/-! ### the row of them, blanks between -/
def rowL (us : List Str) : List Nat := TL.joinL [32] (us.map fun u => u.cps.toList)
theorem rowL_two (a b : Str) (r : List Str) : rowL (a :: b :: r) = a.cps.toList ++ 32 :: rowL (b :: r) := rfl
theorem rowL_one (a : Str) : rowL [a] = a.cps.toList := rfl
def cols : Nat → List Str → List (Str × Nat)
  | _, [] => []
  | c, u :: us => (u, c) :: cols (c + u.length + 1) us
theorem strN_cps (u : Str) : strN u.cps.toList = u := by
  obtain ⟨⟨l⟩⟩ := u
  rfl
theorem lexF_tok {l : List Nat} (h : TokL l) {rest : List Nat} (hr : rest = [] ∨ ∃ r', rest = 32 :: r') (n c : Nat) : lexF (n + 1) c (l ++ rest) = (strN l, c) :: lexF n (c + l.length) rest := by
  obtain ⟨⟨d, r, e, hd⟩, _, _, ht⟩ := h
  have z := ht rest hr
  subst e
  rw [List.cons_append] at z
  show (if d = 32 then _ else (strN ((d :: (r ++ rest)).take (tokLen (d :: (r ++ rest)))), c) :: lexF n (c + tokLen (d :: (r ++ rest))) ((d :: (r ++ rest)).drop (tokLen (d :: (r ++ rest))))) = _
  rw [if_neg hd, z, ← List.cons_append, List.take_left, List.drop_left]
theorem lexF_cols : ∀ (us : List Str), (∀ u ∈ us, TokS u) → ∀ (n c : Nat), (rowL us).length ≤ n → lexF n c (rowL us) = cols c us
  | [], _, 0, _, _ => rfl
  | [], _, n + 1, _, _ => rfl
  | [a], h, n, c, hn => by
    have ha := (h a (List.mem_cons_self ..)).1
    rw [rowL_one] at hn ⊢
    obtain ⟨d, r, e, _⟩ := ha.1
    have hp : 0 < a.cps.toList.length := by rw [e]; exact Nat.succ_pos _
    obtain ⟨n, rfl⟩ : ∃ k, n = k + 1 := ⟨n - 1, by omega⟩
    have z := lexF_tok ha (rest := []) (.inl rfl) n c
    rw [List.append_nil] at z
    rw [z, strN_cps]
    cases n <;> rfl
  | a :: b :: us, h, n, c, hn => by
    have ha := (h a (List.mem_cons_self ..)).1
    rw [rowL_two] at hn ⊢
    obtain ⟨d, r, e, _⟩ := ha.1
    have hp : 0 < a.cps.toList.length := by rw [e]; exact Nat.succ_pos _
    rw [List.length_append, List.length_cons] at hn
    obtain ⟨n, rfl⟩ : ∃ k, n = k + 1 + 1 := ⟨n - 2, by omega⟩
    rw [lexF_tok ha (.inr ⟨_, rfl⟩) (n + 1) c, strN_cps]
    show (a, c) :: (if (32 : Nat) = 32 then lexF n (c + a.cps.toList.length + 1) (rowL (b :: us)) else _) = _
    rw [if_pos rfl, lexF_cols (b :: us) (fun u hu => h u (List.mem_cons_of_mem _ hu)) n _ (by omega), len_codes a |>.symm]
    rfl
/-- f tells how many / stand ahead -/
def ColF (f : Int → Nat) : Nat → Nat → List Str → Prop
  | _, _, [] => True
  | t, c, u :: us => f (c : Int) = t ∧ ColF f (t + sl u) (c + u.length + 1) us
def fOf (row : List Nat) (c : Int) : Nat := cnt (row.take c.toNat)
theorem colF_row : ∀ (us : List Str), (∀ u ∈ us, TokS u) → ∀ (pre : List Nat), ColF (fOf (pre ++ rowL us)) (cnt pre) pre.length us
  | [], _, _ => trivial
  | [a], h, pre => by
    refine ⟨?_, trivial⟩
    unfold fOf
    rw [Int.toNat_natCast, List.take_left]
  | a :: b :: us, h, pre => by
    refine ⟨?_, ?_⟩
    · unfold fOf
      rw [Int.toNat_natCast, List.take_left]
    · have z := colF_row (b :: us) (fun u hu => h u (List.mem_cons_of_mem _ hu)) (pre ++ (a.cps.toList ++ [32]))
      rw [List.append_assoc, List.append_assoc] at z
      have e1 : cnt (pre ++ (a.cps.toList ++ [32])) = cnt pre + sl a := by
        unfold cnt
        rw [List.count_append, List.count_append]
        have q := (h a (List.mem_cons_self ..)).2
        unfold cnt at q
        rw [q]
        rfl
      have e2 : (pre ++ (a.cps.toList ++ [32])).length = pre.length + a.length + 1 := by
        rw [List.length_append, List.length_append, len_codes, Nat.add_assoc]
        rfl
      rw [e1, e2] at z
      exact z
theorem lex_row {us : List Str} (h : ∀ u ∈ us, TokS u) {z : Str} (hz : z.cps.toList = rowL us) : lexS z = cols 0 us ∧ ColF (fOf z.cps.toList) 0 0 us := by
  refine ⟨?_, ?_⟩
  · unfold lexS
    rw [hz]
    exact lexF_cols us h _ 0 (Nat.le_refl _)
  · rw [hz]
    exact colF_row us h []
theorem rowL_mem : ∀ (us : List Str), (∀ u ∈ us, TokS u) → ∀ c ∈ rowL us, c ≠ 34 ∧ c ≠ 10
  | [], _, _, hc => nomatch hc
  | [a], h, c, hc => ⟨fun e => (h a (List.mem_cons_self ..)).1.2.1 (e ▸ hc), (h a (List.mem_cons_self ..)).1.2.2.1 c hc⟩
  | a :: b :: us, h, c, hc => by
    rw [rowL_two] at hc
    rcases List.mem_append.mp hc with hc | hc
    · exact ⟨fun e => (h a (List.mem_cons_self ..)).1.2.1 (e ▸ hc), (h a (List.mem_cons_self ..)).1.2.2.1 c hc⟩
    rcases List.mem_cons.mp hc with rfl | hc
    · exact ⟨by decide, by decide⟩
    · exact rowL_mem (b :: us) (fun u hu => h u (List.mem_cons_of_mem _ hu)) c hc
theorem rowL_len : ∀ (us : List Str), (∀ u ∈ us, TokS u) → (us.map Str.length).sum + us.length ≤ (rowL us).length + 1 ∧ us.length ≤ (us.map Str.length).sum
  | [], _ => ⟨Nat.zero_le _, Nat.zero_le _⟩
  | [a], h => by
    obtain ⟨d, r, e, _⟩ := (h a (List.mem_cons_self ..)).1.1
    have e1 : a.length = (rowL [a]).length := len_codes a
    have hp : 0 < a.length := by rw [len_codes, e]; exact Nat.succ_pos _
    refine ⟨?_, ?_⟩
    · show a.length + 0 + 1 ≤ _
      omega
    · show 1 ≤ a.length + 0
      omega
  | a :: b :: us, h => by
    obtain ⟨d, r, e, _⟩ := (h a (List.mem_cons_self ..)).1.1
    have hp : 0 < a.length := by rw [len_codes, e]; exact Nat.succ_pos _
    obtain ⟨z1, z2⟩ := rowL_len (b :: us) (fun u hu => h u (List.mem_cons_of_mem _ hu))
    have e1 : (rowL (a :: b :: us)).length = a.length + ((rowL (b :: us)).length + 1) := by
      rw [rowL_two, List.length_append, List.length_cons, ← len_codes]
    have e2 : ((a :: b :: us).map Str.length).sum = a.length + ((b :: us).map Str.length).sum := by
      rw [List.map_cons, List.sum_cons]
    have e3 : (a :: b :: us).length = (b :: us).length + 1 := rfl
    rw [e1, e2, e3]
    exact ⟨by omega, by omega⟩
end Bp

/-! text: P5 -/
set_option Elab.async false
set_option linter.all false
set_option maxRecDepth 100000
set_option maxHeartbeats 4000000
/-! a row of texts through has, macros, to its tokens: plain -/
namespace Bp
open PySem PySem.Spec PyProof.Rows L2
theorem noMac_num {u : Str} {v : Nat} (h : NumT u v) : noMac u := by
  obtain ⟨c, r, e, hc⟩ := h.head
  have one : ∀ s : Str, (match s.cps.toList with | c :: _ => decide (57 < c) | [] => true) = true → u ≠ s := by
    intro s hs z
    rw [← z, e] at hs
    have := of_decide_eq_true hs
    omega
  exact ⟨one _ (by decide +kernel), one _ (by decide +kernel), one _ (by decide +kernel), one _ (by decide +kernel)⟩
theorem noHas_num {u : Str} {v : Nat} (h : NumT u v) : u ≠ "has" := by
  obtain ⟨c, r, e, hc⟩ := h.head
  intro z
  rw [z, show ("has" : Str).cps.toList = [104, 97, 115] by decide +kernel] at e
  have := (List.cons.inj e).1
  omega
theorem num_ne {u : Str} {v : Nat} (h : NumT u v) : u ≠ "," ∧ u ≠ "(" ∧ u ≠ ")" := by
  obtain ⟨c, r, e, hc⟩ := h.head
  have one : ∀ s : Str, (match s.cps.toList with | c :: _ => decide (c < 48) | [] => true) = true → u ≠ s := by
    intro s hs z
    rw [← z, e] at hs
    have := of_decide_eq_true hs
    omega
  exact ⟨one _ (by decide +kernel), one _ (by decide +kernel), one _ (by decide +kernel)⟩
theorem sgs_plain {s : Str} (h : s ∈ sgs) : noMac s ∧ s ≠ "has" := by
  have all : (sgs.all fun s => decide (s ≠ "p0") && (decide (s ≠ "p1") && (decide (s ≠ "p2") && (decide (s ≠ "q") && decide (s ≠ "has"))))) = true := by decide +kernel
  have z := List.all_eq_true.mp all s h
  simp only [Bool.and_eq_true, decide_eq_true_eq] at z
  exact ⟨⟨z.1, z.2.1, z.2.2.1, z.2.2.2.1⟩, z.2.2.2.2⟩
theorem dec0 : dec 0 = "0" := by decide +kernel
theorem dec1 : dec 1 = "1" := by decide +kernel
theorem dec2 : dec 2 = "2" := by decide +kernel
theorem num0 : NumT "0" 0 := by rw [← dec0]; exact dec_numT (by decide)
theorem num1 : NumT "1" 1 := by rw [← dec1]; exact dec_numT (by decide)
theorem num2 : NumT "2" 2 := by rw [← dec2]; exact dec_numT (by decide)
/-- what a row's pieces go through -/
def Through (K : PySem.W.Frag) (H : Hp) (f : Int → Nat) (ps : List Addr) (ts : List (Str × Int)) (us : List Str) (ks : List Tk) : Prop := ∃ is, HsR ps ts is ∧ ∀ H' xs, Same H H' → Paired (ItR K H') is xs →
  ∃ out n mc tl, Rst K H' xs out n mc tl ∧ mc ≤ us.length ∧ tl ≤ (us.map Str.length).sum ∧ xs.length ≤ us.length ∧ ∀ ts2, Paired OutR out ts2 → RowR f ts2 ks
def intC (p : Str × Nat) : Str × Int := (p.1, (p.2 : Int))
theorem through_nil {K : PySem.W.Frag} {H : Hp} {f : Int → Nat} : Through K H f [] [] [] [] := by
  refine ⟨[], .nil, fun H' xs _ hx => ?_⟩
  cases hx
  refine ⟨[], 0, 0, 0, .nil, Nat.zero_le _, Nat.zero_le _, Nat.zero_le _, fun ts2 h => ?_⟩
  cases h
  exact .nil
section
variable {K : PySem.W.Frag} {H : Hp} {f : Int → Nat} {ps : List Addr} {ts : List (Str × Int)} {us : List Str} {ks : List Tk}
theorem through_sg {a : Addr} {s : Str} {t : Nat} {c : Int} (h1 : s ∈ sgs) (hf : f c = t) (g1 : PcAt K H a s c []) (h : Through K H f ps ts us ks) : Through K H f (a :: ps) ((s, c) :: ts) (s :: us) (.sg s t :: ks) := by
  obtain ⟨is, i1, i2⟩ := h
  have hs := sgs_plain h1
  refine ⟨.inl a :: is, .keep hs.2 i1, fun H' xs e hx => ?_⟩
  cases hx with
  | cons x1 x2 =>
    obtain ⟨out, n, mc, tl, k1, k2, k3, k4, k5⟩ := i2 H' _ e x2
    have x1 : a = _ := x1
    subst x1
    refine ⟨(s, some c) :: out, n + 1, mc, s.length + tl, .keep (c := c) (Same.pc e g1).pd hs.1 (fun c' z => (Option.some.inj z).symm) k1, Nat.le_succ_of_le k2, Nat.add_le_add_left k3 _, Nat.succ_le_succ k4, fun ts2 h => ?_⟩
    cases h with
    | cons y1 y2 => exact .cons ⟨y1.1.symm, by rw [← y1.2 _ rfl]; exact hf⟩ (k5 _ y2)
theorem through_num {a : Addr} {u : Str} {v : Nat} {c : Int} (h1 : NumT u v) (g1 : PcAt K H a u c []) (h : Through K H f ps ts us ks) : Through K H f (a :: ps) ((u, c) :: ts) (u :: us) (.num v :: ks) := by
  obtain ⟨is, i1, i2⟩ := h
  refine ⟨.inl a :: is, .keep (noHas_num h1) i1, fun H' xs e hx => ?_⟩
  cases hx with
  | cons x1 x2 =>
    obtain ⟨out, n, mc, tl, k1, k2, k3, k4, k5⟩ := i2 H' _ e x2
    have x1 : a = _ := x1
    subst x1
    refine ⟨(u, none) :: out, n + 1, mc, u.length + tl, .keep (Same.pc e g1).pd (noMac_num h1) (fun c' z => nomatch z) k1, Nat.le_succ_of_le k2, Nat.add_le_add_left k3 _, Nat.succ_le_succ k4, fun ts2 h => ?_⟩
    cases h with
    | cons y1 y2 => exact .cons (by show NumT _ _; rw [← y1.1]; exact h1) (k5 _ y2)
theorem through_pm {a : Addr} {u bt : Str} {v : Nat} {c : Int} (hh : u ≠ "has") (hm : pMac u) (hb : macOf u = some (none, bt)) (hn : NumT bt v) (g1 : PcAt K H a u c []) (h : Through K H f ps ts us ks) : Through K H f (a :: ps) ((u, c) :: ts) (u :: us) (.num v :: ks) := by
  obtain ⟨is, i1, i2⟩ := h
  refine ⟨.inl a :: is, .keep hh i1, fun H' xs e hx => ?_⟩
  cases hx with
  | cons x1 x2 =>
    obtain ⟨out, n, mc, tl, k1, k2, k3, k4, k5⟩ := i2 H' _ e x2
    have x1 : a = _ := x1
    subst x1
    refine ⟨(bt, none) :: out, n + 2, mc + 1, u.length + tl, .pm (Same.pc e g1) hm hb k1, Nat.succ_le_succ k2, Nat.add_le_add_left k3 _, Nat.succ_le_succ k4, fun ts2 h => ?_⟩
    cases h with
    | cons y1 y2 => exact .cons (by show NumT _ _; rw [← y1.1]; exact hn) (k5 _ y2)
theorem through_q {a a1 a2 a3 : Addr} {u : Str} {v : Nat} {c c1 c2 c3 : Int} (h1 : NumT u v) (g1 : PcAt K H a "q" c []) (g2 : PcAt K H a1 "(" c1 []) (g3 : PcAt K H a2 u c2 []) (g4 : PcAt K H a3 ")" c3 []) (h : Through K H f ps ts us ks) :
    Through K H f (a :: a1 :: a2 :: a3 :: ps) (("q", c) :: ("(", c1) :: (u, c2) :: (")", c3) :: ts) ("q" :: "(" :: u :: ")" :: us) (.num v :: ks) := by
  obtain ⟨is, i1, i2⟩ := h
  refine ⟨.inl a :: .inl a1 :: .inl a2 :: .inl a3 :: is, .keep (show ("q" : Str) ≠ "has" by decide +kernel) (.keep (show ("(" : Str) ≠ "has" by decide +kernel) (.keep (noHas_num h1) (.keep (show (")" : Str) ≠ "has" by decide +kernel) i1))), fun H' xs e hx => ?_⟩
  cases hx with
  | cons x1 x2 =>
  cases x2 with
  | cons x3 x4 =>
  cases x4 with
  | cons x5 x6 =>
  cases x6 with
  | cons x7 x8 =>
    obtain ⟨out, n, mc, tl, k1, k2, k3, k4, k5⟩ := i2 H' _ e x8
    have x1 : a = _ := x1
    have x3 : a1 = _ := x3
    have x5 : a2 = _ := x5
    have x7 : a3 = _ := x7
    subst x1 x3 x5 x7
    have hne := num_ne h1
    refine ⟨(u, none) :: out, n + 2, mc + 1, u.length + 3 + tl, .q (Same.pc e g1) (Same.pc e g2).pd (Same.pc e g3) (Same.pc e g4).pd (noMac_num h1) hne.1 hne.2.1 hne.2.2 k1, ?_, ?_, ?_, fun ts2 h => ?_⟩
    · show mc + 1 ≤ us.length + 1 + 1 + 1 + 1
      omega
    · have l1 : ("q" : Str).length = 1 := by decide +kernel
      have l2 : ("(" : Str).length = 1 := by decide +kernel
      have l3 : (")" : Str).length = 1 := by decide +kernel
      simp only [List.map_cons, List.sum_cons, l1, l2, l3]
      omega
    · simp only [List.length_cons]
      omega
    cases h with
    | cons y1 y2 => exact .cons (by show NumT _ _; rw [← y1.1]; exact h1) (k5 _ y2)
theorem through_has {a a1 : Addr} {u d : Str} {v : Nat} {c c1 : Int} (hd : u = "no" ∧ d = "0" ∨ u = "p1" ∧ d = "1") (hn : NumT d v) (h : Through K H f ps ts us ks) : Through K H f (a :: a1 :: ps) (("has", c) :: (u, c1) :: ts) ("has" :: u :: us) (.num v :: ks) := by
  have hd1 : d.length = 1 := by rcases hd with ⟨_, z⟩ | ⟨_, z⟩ <;> rw [z] <;> decide +kernel
  have hl : ("has" : Str).length = 3 := by decide +kernel
  obtain ⟨is, i1, i2⟩ := h
  refine ⟨.inr d :: is, .has (x := (u, c1)) hd i1, fun H' xs e hx => ?_⟩
  cases hx with
  | cons x1 x2 =>
    obtain ⟨out, n, mc, tl, k1, k2, k3, k4, k5⟩ := i2 H' _ e x2
    obtain ⟨cd, x1⟩ := x1
    refine ⟨(d, none) :: out, n + 1, mc, d.length + tl, .keep x1 (noMac_num hn) (fun c' z => nomatch z) k1, ?_, ?_, ?_, fun ts2 h => ?_⟩
    · simp only [List.length_cons]
      omega
    · simp only [List.map_cons, List.sum_cons, hl]
      omega
    · simp only [List.length_cons]
      omega
    cases h with
    | cons y1 y2 => exact .cons (by show NumT _ _; rw [← y1.1]; exact hn) (k5 _ y2)
end
theorem pcs_cons {K : PySem.W.Frag} {H : Hp} {ps : List Addr} {u : Str} {c : Nat} {r : List (Str × Nat)} (h : Pcs K H ps ((u, c) :: r)) : ∃ a ps', ps = a :: ps' ∧ PcAt K H a u (c : Int) [] ∧ Pcs K H ps' r := by
  generalize e : (u, c) :: r = z at h
  unfold Pcs at h
  cases h with
  | nil => cases e
  | cons h1 h2 =>
    obtain ⟨e1, e2⟩ := List.cons.inj e
    subst e1 e2
    exact ⟨_, _, rfl, h1, h2⟩
theorem tlw_row {K : PySem.W.Frag} {H : Hp} {f : Int → Nat} {t : Nat} {us : List Str} {ks : List Tk} (h : TlW t us ks) : ∀ (c : Nat), ColF f t c us → ∀ (ps : List Addr), Pcs K H ps (cols c us) → Through K H f ps ((cols c us).map intC) us ks := by
  induction h with
  | nil =>
    intro c _ ps hp
    unfold cols Pcs at hp
    cases hp
    exact through_nil
  | sg h1 h2 ih =>
    intro c hf ps hp
    obtain ⟨a, ps, rfl, g1, g2⟩ := pcs_cons hp
    exact through_sg h1 hf.1 g1 (ih _ hf.2 ps g2)
  | num h1 h2 ih =>
    intro c hf ps hp
    obtain ⟨a, ps, rfl, g1, g2⟩ := pcs_cons hp
    refine through_num h1 g1 (ih _ ?_ ps g2)
    have z := hf.2
    rw [sl_num h1] at z
    exact z
  | pm h1 h2 ih =>
    rename_i t v u us ks
    intro c hf ps hp
    obtain ⟨a, ps, rfl, g1, g2⟩ := pcs_cons hp
    have hsl : sl u = 0 := by rcases h1 with ⟨z, _⟩ | ⟨z, _⟩ | ⟨z, _⟩ <;> rw [z] <;> decide +kernel
    have hh : u ≠ "has" := by rcases h1 with ⟨z, _⟩ | ⟨z, _⟩ | ⟨z, _⟩ <;> rw [z] <;> decide +kernel
    obtain ⟨bt, hb, hn⟩ : ∃ bt, macOf u = some (none, bt) ∧ NumT bt v := by
      rcases h1 with ⟨rfl, rfl⟩ | ⟨rfl, rfl⟩ | ⟨rfl, rfl⟩
      · exact ⟨"0", by decide +kernel, num0⟩
      · exact ⟨"1", by decide +kernel, num1⟩
      · exact ⟨"2", by decide +kernel, num2⟩
    have hm : pMac u := by
      rcases h1 with ⟨z, _⟩ | ⟨z, _⟩ | ⟨z, _⟩
      · exact .inl z
      · exact .inr (.inl z)
      · exact .inr (.inr z)
    refine through_pm hh hm hb hn g1 (ih _ ?_ ps g2)
    have z := hf.2
    rw [hsl] at z
    exact z
  | q h1 h2 ih =>
    intro c hf ps hp
    obtain ⟨a, ps, rfl, g1, g2⟩ := pcs_cons hp
    obtain ⟨a1, ps, rfl, g3, g4⟩ := pcs_cons g2
    obtain ⟨a2, ps, rfl, g5, g6⟩ := pcs_cons g4
    obtain ⟨a3, ps, rfl, g7, g8⟩ := pcs_cons g6
    refine through_q h1 g1 g3 g5 g7 (ih _ ?_ ps g8)
    have z := hf.2.2.2.2
    rw [sl_num h1, show sl "q" = 0 by decide +kernel, show sl "(" = 0 by decide +kernel, show sl ")" = 0 by decide +kernel] at z
    exact z
  | has h1 h2 ih =>
    rename_i t v u us ks
    intro c hf ps hp
    obtain ⟨a, ps, rfl, g1, g2⟩ := pcs_cons hp
    obtain ⟨a1, ps, rfl, g3, g4⟩ := pcs_cons g2
    have hsl : sl u = 0 := by rcases h1 with ⟨z, _⟩ | ⟨z, _⟩ <;> rw [z] <;> decide +kernel
    obtain ⟨d, hd, hn⟩ : ∃ d : Str, (u = "no" ∧ d = "0" ∨ u = "p1" ∧ d = "1") ∧ NumT d v := by
      rcases h1 with ⟨rfl, rfl⟩ | ⟨rfl, rfl⟩
      · exact ⟨"0", .inl ⟨rfl, rfl⟩, num0⟩
      · exact ⟨"1", .inr ⟨rfl, rfl⟩, num1⟩
    refine through_has hd hn (ih _ ?_ ps g4)
    have z := hf.2.2
    rw [hsl, show sl "has" = 0 by decide +kernel] at z
    exact z
end Bp

/-! text: D30 -/
set_option Elab.async false
set_option linter.all false
set_option maxRecDepth 100000
set_option maxHeartbeats 4000000
/-! worth_of; defs with keyword defaults -/
namespace Bp
open PySem PySem.Spec PyProof.Rows L2 NdefX LamX
section
variable (P : Program) (w : World) (K : PySem.W.Frag) (mg : Str → Option Value) (base : Heap)
/-- the module's def x, defaults dvs filled up, keeps sp -/
def GOkD (CX : CXT) (k : Nat) (x : Str) (ps : List Str) (dvs : List V) (sp : Sp) : Prop := ∃ f fd ds, mg x = some (.ref f) ∧ PySem.W.keepIn K (.ref f) = true ∧ Vals dvs ds ∧ Binds K fd ps ds ∧ FnOk P w K mg base CX k f fd ps sp
end
section
variable {X : Cx} {CX : CXT} {k j : Nat} {x : Str} {ps : List Str} {sp : Sp} {dvs : List V} {E : XK} {p pos : Pos} {e : Expr} {es : List Expr} {t : TA}
theorem pe_gd (G : GOkD X.prog X.w X.K X.mg X.base CX k x ps dvs sp) (hr : Room j X.A) (hk : k ≤ j) (hx : Passes CX X E) (ha : PA X (e :: es) t) (hg : Gl X x := by rfl) (hdb : (x == ("__debug__" : Str)) = false := by decide)
    (he : starEach (e :: es) X.env = (false, eval e X.env) :: starEach es X.env := by rfl) (hpl : (backTo pos (starEach es X.env)).any (·.1) = false := by rfl) : PE X (.Call (.Name x p) (e :: es) [] pos) (tCall sp dvs E t) := by
  obtain ⟨f, fd, ds, hm, kp, hd, b, F⟩ := G
  exact pe_call F (hr.mono hk) hg hm kp b hd hx ha hdb he hpl
end
section
variable {P : Program} {w : World} {K : PySem.W.Frag} {mg : Str → Option Value} {base : Heap}
theorem ok_pieces_of (T : Top w K mg) : GOkD P w K mg base CX0 3 "pieces_of" ["row", "page", "number"] [.str "", .int 0] (spPiecesOf K) := by
  obtain ⟨fd, F⟩ := T.f_pieces_of
  obtain ⟨ds, hv, hb⟩ := F.binds0 (ps := ["row", "page", "number"]) 1 (by simp) rfl fun D doc pm an cdv ct us ks h1 h2 => match us, ks, h1, h2 with | [a], [b, c], _, _ => ⟨_, _, _, _, _, _, rfl, rfl, ⟨_, _, _, _, _, _, rfl, rfl, rfl⟩⟩
  exact ⟨_, fd, ds, T.g_pieces_of, F.kp, hv, hb, fn_pieces_of T F⟩
theorem Paired.mapR {α β γ : Type} {F : α → γ → Prop} {g : β → γ} : ∀ {l₁ : List α} {l₂ : List β}, Paired (fun a b => F a (g b)) l₁ l₂ → Paired F l₁ (l₂.map g)
  | _, _, .nil => .nil
  | _, _, .cons h t => .cons h (Paired.mapR t)
theorem cols_len : ∀ (us : List Str) (c : Nat), (cols c us).length = us.length
  | [], _ => rfl
  | u :: us, c => congrArg Nat.succ (cols_len us _)
theorem cols_mem : ∀ {us : List Str} {c : Nat} {p : Str × Nat}, p ∈ cols c us → p.1 ∈ us
  | [], _, _, h => nomatch h
  | u :: us, c, p, h => by
    rcases List.mem_cons.mp h with rfl | h
    · exact List.mem_cons_self ..
    · exact List.mem_cons_of_mem _ (cols_mem h)
theorem sum_mem : ∀ {us : List Str} {u : Str}, u ∈ us → u.length ≤ (us.map Str.length).sum
  | [], _, h => nomatch h
  | a :: us, u, h => by
    rw [List.map_cons, List.sum_cons]
    rcases List.mem_cons.mp h with rfl | h
    · exact Nat.le_add_right _ _
    · exact Nat.le_trans (sum_mem h) (Nat.le_add_left _ _)
/-- what is as it was, behind worth_of -/
def WE (K : PySem.W.Frag) (H H' : Hp) : Prop := ExtN H H' ∧ (∀ b, H' b = none → H b = none) ∧ TabsN (tabT K qnM) H'
def spWorth (K : PySem.W.Frag) (f : Int → Nat) : Sp := fun vs H Q E => ∃ (l bk : Addr) (ev : V) (ps : List Addr) (us : List Str) (ks : List Tk) (b : Nat) (r : Res), vs = [.ref l, .ref bk, ev] ∧ BookAt K H bk ∧ TabsN (tabT K qnM) H ∧ H l = some (.lst (ps.map V.ref)) ∧ Pcs K H ps (cols 0 us) ∧ ColF f 0 0 us ∧
  TlW 0 us ks ∧ Rd 80 0 0 b ks r ∧ b ≤ 8000 ∧ us.length ≤ 250 ∧ (us.map Str.length).sum ≤ 500 ∧ ∀ H', WE K H H' → Out K f H' r Q E
theorem sc_worth_of : FnScope ["pieces", "book", "end", "reading", "tree"] ["pieces", "book", "end"] (defScope s_worth_of) := ⟨rfl, rfl, rfl, by decide +kernel, rfl, by decide +kernel, by decide +kernel⟩
theorem fn_worth_of (T : Top w K mg) (TB : TabB base mg (tabC K) (tabP K)) (f : Int → Nat) {fd : FuncData} (F : FunD K "worth_of" "worth_of" (defArgs s_worth_of) (defBody s_worth_of) (defScope s_worth_of) [] [("end", .ref (kwAt ("worth_of", none) "end" K))] (He.ga K "worth_of") fd) :
    FnOk P w K mg base (CX P w) 170 (He.ga K "worth_of") fd ["pieces", "book", "end"] (spWorth K f) := by
  refine F.ok (k := 169) sc_worth_of (fun vs H Q E h => ?_) (fun cdv A outer s H vs Q E hr h => ?_)
  · obtain ⟨l, bk, ev, ps, us, ks, b, r, rfl, _⟩ := h
    rfl
  · obtain ⟨l, bk, ev, ps, us, ks, b, r, rfl, hb, hT, h1, h2, h3, h4, h5, h6, h7, h8, q⟩ := h
    have g_has_told := ok_has_told (P := P) (base := base) T
    have g_expanded := fn_expanded (P := P) T TB
    have c_Reading := ok_Reading (P := P) (base := base) T
    have g_read_level := (ok_read (P := P) (base := base) T f 80).1
    have g_reckoned := ok_reckoned (P := P) (base := base) T f 80
    refine ⟨_, (pss_cons (ps_set (i := 3) sc_worth_of.nd rfl (Or.inl rfl) (pe_c c_Reading hr (by decide) pass0 (pa_cons (pe_g g_expanded hr (by omega) pass0 (pa_cons (pe_g g_has_told hr (by omega) pass0 (pa_cons (pv 0) (pa_cons (pv 1) (pa_cons (pv 2) pa_nil)))) (pa_cons (pv 1) pa_nil))) (pa_cons (pv 2) pa_nil))))
      (pss_cons (ps_set (i := 4) sc_worth_of.nd rfl (Or.inl rfl) (pe_g g_read_level hr (by omega) pass0 (pa_cons (pv 3) (pa_cons pe_int pa_nil))))
      (pss_cons (ps_if (pt_cmpR op_lt (pe_fld (pv 3) rfl) (pe_callB call_len_seq (by rfl) T.b_len PySem.boot_len (pa_cons (pe_fld (pv 3) rfl) pa_nil)) (nomark _))
        (pss_one ps_never)
        pss_nil)
      (pss_one (ps_ret (pe_g g_reckoned hr (by omega) (passes_call (takes_of rfl rfl rfl rfl) fun _ _ _ _ h => h) (pa_cons (pv 4) pa_nil))))))), ?_⟩
    have hth := tlw_row h4 0 h3 ps h2
    obtain ⟨is, i1, i2⟩ := hth
    have hlen : ((cols 0 us).map intC).length = us.length := by rw [List.length_map, cols_len]
    refine ⟨_, rfl, _, rfl, _, rfl, l, bk, ev, ps, (cols 0 us).map intC, is, rfl, hb, h1, Paired.mapR (Paired.mapP h2 fun _ _ q => q.pd), by omega, fun t ht => ?_, i1, fun r1 H1 xs hn1 s1 hr1 hit hxl => ?_⟩
    · obtain ⟨p, hp, rfl⟩ := List.mem_map.mp ht
      have z := sum_mem (cols_mem hp)
      show p.1.length ≤ 2000
      omega
    obtain ⟨out, n, mc, tl, k1, k2, k3, k4, k5⟩ := i2 H1 xs s1 hit
    refine ⟨_, rfl, r1, bk, xs, out, n, mc, tl, rfl, Same.book s1 hb, hT.ext s1, hr1, k1, by omega, by omega, by omega, fun r2 H2 ts2 hx hd hT2 hrow ho => ?_⟩
    have hrr := k5 ts2 ho
    refine ⟨_, rfl, ?_⟩
    intro x dx hxx hdx hne
    refine ⟨x, dx, r2, ev, rfl, upd_same, rfl, ?_⟩
    rw [upd_upd]
    have s23 := same_made (o := .ins (He.ga K "Reading") dx (rFs r2 ev 0 0)) hxx hdx
    have hrd3 : RdAt K (upd (upd H2 dx (.own x)) x (.ins (He.ga K "Reading") dx (rFs r2 ev 0 0))) x r2 0 0 := ⟨dx, ev, upd_same⟩
    generalize upd (upd H2 dx (.own x)) x (.ins (He.ga K "Reading") dx (rFs r2 ev 0 0)) = H3 at s23 hrd3 ⊢
    refine ⟨_, rfl, x, r2, 0, 0, ts2, 0, ks, [], b, r, by decide, rfl, hrd3, Same.row s23 hrow, ⟨[], by rw [List.nil_append, List.append_nil]; exact hrr, rfl⟩, h5, trivial, fun v H4 sb hrd4 hev => ?_⟩
    have s24 : Same H2 H4 := fun b o q => sb _ _ (ne_of_none q hxx) (s23 _ _ q)
    obtain ⟨dx4, b4, g4⟩ := hrd4
    have hw : WE K H H4 := ⟨fun b o y1 y2 => s24 _ _ (hx b o (s1 _ _ y1) y2), fun b y => Dom.same s1 b (hd b (Dom.same s24 b y)), hT2.ext s24⟩
    obtain ⟨ps2, p1, p2, p3⟩ := Same.row s24 hrow
    refine ⟨_, rfl, x, _, dx4, _, _, rfl, g4, T.c_Reading, T.n_Reading_spot, rFs_spot _ _ _ _, _, rfl, x, _, dx4, _, _, rfl, g4, T.c_Reading, T.n_Reading_given_row, rFs_row _ _ _ _, r2, _, rfl, .inl (SqL.of p1), _, _, rfl, rfl, _, rfl, ?_⟩
    have e1 : ps2.length = ks.length := (Paired.length p2).trans (Paired.length hrr)
    rw [List.length_map, e1, decide_eq_false (by omega)]
    refine iteF ⟨_, rfl, v, b, r, rfl, Ev.mono (fun b o q => (new_some.mp q).2) hev, h6, ?_⟩
    have q4 := q H4 hw
    cases r with
    | ok i => exact q4
    | error k => exact q4
end
end Bp

/-! text: D32 -/
set_option Elab.async false
set_option linter.all false
set_option maxRecDepth 100000
set_option maxHeartbeats 4000000
/-! Macro's init, need_name, need_sign -/
namespace Bp
open PySem PySem.Spec PyProof.Rows L2 NdefX LamX
section
variable {P : Program} {w : World} {K : PySem.W.Frag} {mg : Str → Option Value} {base : Heap}
def spMacroI (K : PySem.W.Frag) : Sp := fun vs H Q _ => ∃ (p dx b : Addr) (nm : Str) (pv : V), vs = [.ref p, .str nm, pv, .ref b] ∧ H p = some (.ins (He.ga K "Macro") dx []) ∧ Q .non (upd H p (.ins (He.ga K "Macro") dx (mFs nm pv b)))
theorem sc_Macro_init : FnScope ["self", "name", "params", "body"] ["self", "name", "params", "body"] (defScope s_Macro_init) := ⟨rfl, rfl, rfl, by decide +kernel, rfl, by decide +kernel, by decide +kernel⟩
theorem ok_Macro (T : Top w K mg) : COk P w K mg base CX0 1 "Macro" ["self", "name", "params", "body"] [] (spMacroI K) := by
  obtain ⟨fd, F⟩ := T.f_Macro_init
  refine ⟨_, fd, [], T.g_Macro, T.k_Macro, .nil, F.bindsN fun _ _ _ _ _ _ us hl => match us, hl with | [_, _, _, _], _ => rfl, ok0 F sc_Macro_init (fun vs H Q E h => ?_) (fun cdv A outer s H vs Q E hr h => ?_)⟩
  · obtain ⟨p, dx, b, nm, pm, rfl, _⟩ := h
    rfl
  · obtain ⟨p, dx, b, nm, pm, rfl, hp, q⟩ := h
    refine ⟨_, (pss_cons (ps_fld (pv 0) (pv 1) rfl)
      (pss_cons (ps_fld (pv 0) (pv 2) rfl)
      (pss_one (ps_fld (pv 0) (pv 3) rfl)))), ?_⟩
    refine ⟨_, rfl, _, rfl, p, _, dx, [], rfl, hp, T.c_Macro, T.n_Macro_name, (by decide), ?_⟩
    refine ⟨_, rfl, _, rfl, p, _, dx, _, rfl, upd_same, T.c_Macro, T.n_Macro_params, (by show 1 < 1000; decide), ?_⟩
    refine ⟨_, rfl, _, rfl, p, _, dx, _, rfl, upd_same, T.c_Macro, T.n_Macro_body, ?_, ?_⟩
    · show (putF "params" pm (putF "name" (V.str nm) [])).length < 1000
      show (if ("name" : Str) = "params" then _ else (("name" : Str), V.str nm) :: putF "params" pm []).length < 1000
      rw [if_neg ne_np]
      show 2 < 1000
      decide
    rw [upd_upd, upd_upd, mFs_is]
    exact q
def spNeedName (K : PySem.W.Frag) : Sp := fun vs H Q _ => ∃ (l nt : Addr) (i : Nat) (ev : V) (ts : List (Str × Int)) (t : Str × Int), vs = [.ref l, .int (i : Int), ev, .ref nt] ∧ RowAt K H l ts ∧ ts[i]? = some t ∧ SqT K H nt [] ∧ headLetter t.1 = true ∧ t.1 ≠ "has" ∧ t.1.length ≠ 0 ∧ t.1.length ≤ sizeLine ∧ Q (.str t.1) H
theorem sc_need_name : FnScope ["pieces", "at", "end", "names", "text"] ["pieces", "at", "end", "names"] (defScope s_need_name) := ⟨rfl, rfl, rfl, by decide +kernel, rfl, by decide +kernel, by decide +kernel⟩
theorem ok_need_name (T : Top w K mg) : GOk P w K mg base CX0 2 "need_name" ["pieces", "at", "end", "names"] (spNeedName K) := by
  obtain ⟨fd, F⟩ := T.f_need_name
  refine ⟨_, fd, T.g_need_name, F.kp, F.bindsN fun _ _ _ _ _ _ us hl => match us, hl with | [_, _, _, _], _ => rfl, ok0 F sc_need_name (fun vs H Q E h => ?_) (fun cdv A outer s H vs Q E hr h => ?_)⟩
  · obtain ⟨l, nt, i, ev, ts, t, rfl, _⟩ := h
    rfl
  · obtain ⟨l, nt, i, ev, ts, t, rfl, ⟨ps, h1, h2, h3⟩, e, hnt, n1, n2, n3, n4, q⟩ := h
    have g_is_name := ok_is_name (P := P) (base := base) T
    obtain ⟨a, ha, hpd⟩ := Paired.at_ h2 e
    obtain ⟨dx, sa, pa, g, sgs, pg, rw', wv, g1, _⟩ := hpd
    have hi : i < ps.length := (List.getElem?_eq_some_iff.mp ha).1
    have hat : (ps.map V.ref)[i]? = some (.ref a) := by rw [List.getElem?_map, ha]; rfl
    refine ⟨_, (pss_cons (ps_if (pt_cmpR op_ge (pv 1) (pe_callB call_len_seq (by rfl) T.b_len PySem.boot_len (pa_cons (pv 0) pa_nil)) (nomark _))
        (pss_one ps_never)
        pss_nil)
      (pss_cons (ps_set (i := 4) sc_need_name.nd rfl (Or.inl rfl) (pe_fld (pe_ix ix_list (pv 0) (pv 1) (fun _ _ => rfl)) rfl))
      (pss_cons (ps_if (PW.pt (pw_or (pt_not (pt_val (pe_g g_is_name hr (by decide) pass0 (pa_cons (pv 4) pa_nil)))) (pw_or (pt_cmpR op_eq (pv 4) pe_str (nomark _)) (pw_or1 (pt_cmpR op_in_seq (pv 4) (pv 3) (by rfl))))))
        (pss_one ps_never)
        pss_nil)
      (pss_one (ps_ret (pv 4)))))), ?_⟩
    refine ⟨_, rfl, _, rfl, l, _, rfl, .inl (SqL.of h1), _, _, rfl, rfl, _, rfl, ?_⟩
    rw [List.length_map, decide_eq_false (by omega)]
    refine iteF ?_
    refine ⟨_, rfl, _, rfl, l, _, _, _, rfl, rfl, SqL.of h1, atI_nat (j := i) hat, a, _, dx, _, _, rfl, g1, T.c_Piece, T.n_Piece_text, pFs_text _ _ _, ?_⟩
    refine ⟨_, rfl, t.1, rfl, n3, n4, ?_⟩
    rw [n1]
    refine ⟨_, rfl, iteF ?_⟩
    refine ⟨_, rfl, rfl, _, rfl, ?_⟩
    rw [show decide (V.str t.1 = V.str (Str.ofString "has")) = false from decide_eq_false fun z => n2 (V.str.inj z)]
    refine iteF ⟨_, rfl, _, rfl, nt, _, rfl, .inr hnt, rfl, rfl, _, rfl, iteF ?_⟩
    exact ⟨_, rfl, q⟩
def spNeedSign (K : PySem.W.Frag) : Sp := fun vs H Q _ => ∃ (l nt : Addr) (i : Nat) (ev : V) (ts : List (Str × Int)) (t : Str × Int) (ss : List Str), vs = [.ref l, .int (i : Int), ev, .ref nt] ∧ RowAt K H l ts ∧ ts[i]? = some t ∧ SqT K H nt (ss.map V.str) ∧ t.1 ∈ ss ∧ Q (.str t.1) H
theorem sc_need_sign : FnScope ["pieces", "at", "end", "signs"] ["pieces", "at", "end", "signs"] (defScope s_need_sign) := ⟨rfl, rfl, rfl, by decide +kernel, rfl, by decide +kernel, by decide +kernel⟩
theorem ok_need_sign (T : Top w K mg) : GOk P w K mg base CX0 2 "need_sign" ["pieces", "at", "end", "signs"] (spNeedSign K) := by
  obtain ⟨fd, F⟩ := T.f_need_sign
  refine ⟨_, fd, T.g_need_sign, F.kp, F.bindsN fun _ _ _ _ _ _ us hl => match us, hl with | [_, _, _, _], _ => rfl, ok0 F sc_need_sign (fun vs H Q E h => ?_) (fun cdv A outer s H vs Q E hr h => ?_)⟩
  · obtain ⟨l, nt, i, ev, ts, t, ss, rfl, _⟩ := h
    rfl
  · obtain ⟨l, nt, i, ev, ts, t, ss, rfl, ⟨ps, h1, h2, h3⟩, e, hnt, n1, q⟩ := h
    obtain ⟨a, ha, hpd⟩ := Paired.at_ h2 e
    obtain ⟨dx, sa, pa, g, sgs, pg, rw', wv, g1, _⟩ := hpd
    have hi : i < ps.length := (List.getElem?_eq_some_iff.mp ha).1
    have hat : (ps.map V.ref)[i]? = some (.ref a) := by rw [List.getElem?_map, ha]; rfl
    refine ⟨_, (pss_cons (ps_if (pt_cmpR op_ge (pv 1) (pe_callB call_len_seq (by rfl) T.b_len PySem.boot_len (pa_cons (pv 0) pa_nil)) (nomark _))
        (pss_one ps_never)
        pss_nil)
      (pss_cons (ps_if (pt_cmpR op_notIn_seq (pe_fld (pe_ix ix_list (pv 0) (pv 1) (fun _ _ => rfl)) rfl) (pv 3) (by rfl))
        (pss_one ps_never)
        pss_nil)
      (pss_one (ps_ret (pe_fld (pe_ix ix_list (pv 0) (pv 1) (fun _ _ => rfl)) rfl))))), ?_⟩
    refine ⟨_, rfl, _, rfl, l, _, rfl, .inl (SqL.of h1), _, _, rfl, rfl, _, rfl, ?_⟩
    rw [List.length_map, decide_eq_false (by omega)]
    refine iteF ?_
    refine ⟨_, rfl, _, rfl, l, _, _, _, rfl, rfl, SqL.of h1, atI_nat (j := i) hat, a, _, dx, _, _, rfl, g1, T.c_Piece, T.n_Piece_text, pFs_text _ _ _, ?_⟩
    refine ⟨_, rfl, nt, _, rfl, .inr hnt, rfl, all_str _, _, rfl, ?_⟩
    show if (!inV (V.str t.1) (ss.map V.str)) = true then _ else _
    rw [inV_str, decide_eq_true n1]
    refine iteF ?_
    exact ⟨_, rfl, _, rfl, l, _, _, _, rfl, rfl, SqL.of h1, atI_nat (j := i) hat, a, _, dx, _, _, rfl, g1, T.c_Piece, T.n_Piece_text, pFs_text _ _ _, q⟩
end
end Bp

/-! text: D33 -/
set_option Elab.async false
set_option linter.all false
set_option maxRecDepth 100000
set_option maxHeartbeats 4000000
/-! params_of, vet_body -/
namespace Bp
open PySem PySem.Spec PyProof.Rows L2 NdefX LamX
section
variable {P : Program} {w : World} {K : PySem.W.Frag} {mg : Str → Option Value} {base : Heap}
def qRow (c0 c1 c2 c3 c4 c5 : Int) : List (Str × Int) := [("q", c0), ("(", c1), ("x", c2), (")", c3), ("=", c4), ("x", c5)]
def spParamsOf (K : PySem.W.Frag) : Sp := fun vs H Q _ => ∃ (l : Addr) (ev : V) (c0 c1 c2 c3 c4 c5 : Int), vs = [.ref l, ev] ∧ RowAt K H l (qRow c0 c1 c2 c3 c4 c5) ∧
  ∀ (t pr : Addr) (H' : Hp), Same H H' → H' t = some (.tup [.ref pr, .int 4]) → FzT H' pr [.str "x"] → Q (.ref t) H'
theorem sc_params_of : FnScope ["pieces", "end", "params", "at", "sign", "name"] ["pieces", "end"] (defScope s_params_of) := ⟨rfl, rfl, rfl, by decide +kernel, rfl, by decide +kernel, by decide +kernel⟩
theorem ok_params_of (T : Top w K mg) : GOk P w K mg base CX0 3 "params_of" ["pieces", "end"] (spParamsOf K) := by
  obtain ⟨fd, F⟩ := T.f_params_of
  refine ⟨_, fd, T.g_params_of, F.kp, F.bindsN fun _ _ _ _ _ _ us hl => match us, hl with | [_, _], _ => rfl, ok0 F sc_params_of (fun vs H Q E h => ?_) (fun cdv A outer s H vs Q E hr h => ?_)⟩
  · obtain ⟨l, ev, c0, c1, c2, c3, c4, c5, rfl, _⟩ := h
    rfl
  · obtain ⟨l, ev, c0, c1, c2, c3, c4, c5, rfl, hrow, q⟩ := h
    have g_need_name := ok_need_name (P := P) (base := base) T
    have g_need_sign := ok_need_sign (P := P) (base := base) T
    obtain ⟨ps, h1, h2, h3⟩ := id hrow
    have hpl := Paired.length h2
    obtain ⟨a2, ha2, hpd2⟩ := Paired.at_ (i := 2) h2 rfl
    obtain ⟨dx, sa, pa, g, sgs, pg, rw', wv, g1, _⟩ := hpd2
    have hat2 : (ps.map V.ref)[2]? = some (.ref a2) := by rw [List.getElem?_map, ha2]; rfl
    have dS : ∀ {a b : Str}, a = b → decide (V.str a = V.str b) = true := fun z => decide_eq_true (congrArg V.str z)
    have dN : ∀ {a b : Str}, ¬ a = b → decide (V.str a = V.str b) = false := fun z => decide_eq_false fun y => z (V.str.inj y)
    obtain ⟨t_MP, h_MOST_PARAMS⟩ := T.i_MOST_PARAMS
    refine ⟨_, (pss_cons (ps_if (PW.pt (pw_and (pt_cmpR op_gt (pe_callB call_len_seq (by rfl) T.b_len PySem.boot_len (pa_cons (pv 0) pa_nil)) pe_int (nomark _)) (pw_and1 (pt_cmpR op_eq (pe_fld (pe_ix ix_list (pv 0) pe_int (fun _ _ => rfl)) rfl) pe_str (nomark _)))))
        (pss_one (ps_ret (pe_tup (pa_cons (pe_tup pa_nil) (pa_cons pe_int pa_nil)))))
        pss_nil)
      (pss_cons (ps_set (i := 2) sc_params_of.nd rfl (Or.inl rfl) (pe_tup pa_nil))
      (pss_cons (ps_set (i := 3) sc_params_of.nd rfl (Or.inl rfl) pe_int)
      (pss_cons (ps_set (i := 4) sc_params_of.nd rfl (Or.inl rfl) pe_str)
      (pss_cons (ps_while PassesOwn.never (pt_cmpR op_eq (pv 4) pe_str (nomark _))
        (pss_cons (ps_set (i := 5) sc_params_of.nd rfl (Or.inl rfl) (pe_g g_need_name hr (by decide) pass0 (pa_cons (pv 0) (pa_cons (pv 3) (pa_cons (pv 1) (pa_cons (pv 2) pa_nil))))))
      (pss_cons (ps_if (pt_cmpR op_eq (pe_callB call_len_seq (by rfl) T.b_len PySem.boot_len (pa_cons (pv 2) pa_nil)) (pe_glob (v := .int 8) rfl h_MOST_PARAMS ⟨_, rfl⟩) (nomark _))
        (pss_one ps_never)
        pss_nil)
      (pss_cons (ps_aug (i := 2) sc_params_of.nd rfl (Or.inl rfl) (pe_tupF (pa_cons (pv 5) pa_nil)) ip_cat0)
      (pss_cons (ps_set (i := 4) sc_params_of.nd rfl (Or.inl rfl) (pe_g g_need_sign hr (by decide) pass0 (pa_cons (pv 0) (pa_cons (pe_op op_add (pv 3) pe_int) (pa_cons (pv 1) (pa_cons (pe_tup (pa_cons pe_str (pa_cons pe_str pa_nil))) pa_nil))))))
      (pss_one (ps_aug (i := 3) sc_params_of.nd rfl (Or.inl rfl) pe_int ip_add)))))))
      (pss_one (ps_ret (pe_tup (pa_cons (pv 2) (pa_cons (pv 3) pa_nil)))))))))), ?_⟩
    refine ⟨_, rfl, l, _, rfl, .inl (SqL.of h1), _, _, rfl, rfl, _, rfl, ?_⟩
    rw [List.length_map, hpl]
    refine iteT ⟨_, rfl, l, _, _, _, rfl, rfl, SqL.of h1, atI_nat (j := 2) hat2, a2, _, dx, _, _, rfl, g1, T.c_Piece, T.n_Piece_text, pFs_text _ _ _, rfl, _, rfl, ?_⟩
    rw [dN (show ¬ ((("x" : Str), c2) : Str × Int).1 = Str.ofString ")" from fun z => absurd (show ("x" : Str) = ")" from z) (by decide +kernel))]
    refine iteF ⟨Nat.zero_le _, fun pr0 hpr0 => ?_⟩
    have s1 := same_upd hpr0 (.tup [])
    have k1 : (upd H pr0 (.tup [])) pr0 = some (.tup []) := upd_same
    generalize upd H pr0 (.tup []) = H1 at s1 k1 ⊢
    refine ⟨fun m σ H' => (m = 1 ∧ σ = [some (.ref l), some ev, some (.ref pr0), some (.int 2), some (.str ","), none] ∧ H' = H1) ∨ (m = 0 ∧ ∃ (pr : Addr) (o5 : Option V), σ = [some (.ref l), some ev, some (.ref pr), some (.int 4), some (.str ")"), o5] ∧ Same H H' ∧ FzT H' pr [.str "x"]), ⟨1, .inl ⟨rfl, rfl, rfl⟩⟩, ?_⟩
    rintro m σ H' (⟨rfl, rfl, rfl⟩ | ⟨rfl, pr, o5, rfl, sm, fz⟩)
    · refine ⟨_, rfl, rfl, _, rfl, ?_⟩
      rw [dS (show Str.ofString "," = Str.ofString "," from rfl)]
      refine iteT ⟨fun σ' H'' => ∃ m', m' < 1 ∧ ((m' = 1 ∧ σ' = [some (.ref l), some ev, some (.ref pr0), some (.int 2), some (.str ","), none] ∧ H'' = H') ∨ (m' = 0 ∧ ∃ (pr : Addr) (o5 : Option V), σ' = [some (.ref l), some ev, some (.ref pr), some (.int 4), some (.str ")"), o5] ∧ Same H H'' ∧ FzT H'' pr [.str "x"])), fun _ _ h => h, ?_⟩
      refine ⟨_, rfl, _, rfl, _, rfl, _, rfl, l, pr0, 2, ev, _, ((("x" : Str), c2) : Str × Int), rfl, Same.row s1 hrow, rfl, SqT.of k1, (by show headLetter "x" = true; decide +kernel), (by show ¬ (("x" : Str) = "has"); decide +kernel), (by show ¬ (("x" : Str).length = 0); decide +kernel), (by show ("x" : Str).length ≤ sizeLine; decide +kernel), ?_⟩
      refine ⟨_, rfl, pr0, _, rfl, .inr (SqT.of k1), rfl, _, rfl, iteF ?_⟩
      refine ⟨_, rfl, _, rfl, (by show 1 ≤ sizeLine; decide), fun pr ob hpr ho1 ho2 => ?_⟩
      have s2 := same_upd hpr (.frz ob (.tup [.str "x"]))
      have k2 : FzT (upd H' pr (.frz ob (.tup [.str "x"]))) pr [.str "x"] := ⟨ob, upd_same, ho1, ho2⟩
      refine ⟨pr0, pr, _, rfl, rfl, SqT.of (s2 _ _ k1), k2.sq, ?_⟩
      show tSeq _ _ _ _ (upd H' pr (.frz ob (.tup [.str "x"])))
      generalize upd H' pr (.frz ob (.tup [.str "x"])) = H2 at s2 k2 ⊢
      refine ⟨_, rfl, _, rfl, _, _, rfl, rfl, _, rfl, (by show 2 ≤ sizeLine; decide), fun nt hnt => ?_⟩
      have s3 := same_upd hnt (.tup [.str ",", .str ")"])
      have s03 := s1.trans (s2.trans s3)
      refine ⟨l, nt, 3, ev, _, (((")" : Str), c3) : Str × Int), [",", ")"], rfl, Same.row s03 hrow, rfl, SqT.of upd_same, (by show (")" : Str) ∈ ([",", ")"] : List Str); decide +kernel), ?_⟩
      refine ⟨_, rfl, _, _, rfl, rfl, ?_⟩
      exact ⟨0, by decide, .inr ⟨rfl, pr, _, rfl, s03, Same.fz s3 k2⟩⟩
    · refine ⟨_, rfl, rfl, _, rfl, ?_⟩
      rw [dN (show ¬ Str.ofString ")" = Str.ofString "," by decide +kernel)]
      refine iteF ⟨_, rfl, _, rfl, (by show 2 ≤ sizeLine; decide), fun t ht => ?_⟩
      have s4 := same_upd ht (.tup [.ref pr, .int 4])
      exact q t pr _ (sm.trans s4) upd_same (Same.fz s4 fz)
end
end Bp

/-! text: D34 -/
set_option Elab.async false
set_option linter.all false
set_option maxRecDepth 100000
set_option maxHeartbeats 4000000
/-! vet_body, macro_of -/
namespace Bp
open PySem PySem.Spec PyProof.Rows L2 NdefX LamX
theorem pe_never {X : Cx} {e : Expr} : PE X e (fun _ _ _ => False) := ⟨fun _ _ _ _ _ _ h => h.elim⟩
section
variable {P : Program} {w : World} {K : PySem.W.Frag} {mg : Str → Option Value} {base : Heap}
def spVetBody (K : PySem.W.Frag) : Sp := fun vs H Q _ => ∃ (bl pc : Addr) (pv : V) (bt : Str) (c : Int), vs = [.ref bl, pv] ∧ H bl = some (.lst [.ref pc]) ∧ PcD K H pc bt c ∧ bt ≠ "$" ∧ bt ≠ "~" ∧ ∀ H', Same H H' → Q .non H'
theorem sc_vet_body : FnScope ["body", "params", "at", "piece", "behind", "lost", "one"] ["body", "params"] (defScope s_vet_body) := ⟨rfl, rfl, rfl, by decide +kernel, rfl, by decide +kernel, by decide +kernel⟩
theorem ok_vet_body (T : Top w K mg) : GOk P w K mg base CX0 1 "vet_body" ["body", "params"] (spVetBody K) := by
  obtain ⟨fd, F⟩ := T.f_vet_body
  refine ⟨_, fd, T.g_vet_body, F.kp, F.bindsN fun _ _ _ _ _ _ us hl => match us, hl with | [_, _], _ => rfl, ok0 F sc_vet_body (fun vs H Q E h => ?_) (fun cdv A outer s H vs Q E hr h => ?_)⟩
  · obtain ⟨bl, pc, pm, bt, c, rfl, _⟩ := h
    rfl
  · obtain ⟨bl, pc, pm, bt, c, rfl, h1, ⟨dx, sa, pa, g, sgs, pg, rw', wv, g1, _⟩, n1, n2, q⟩ := h
    obtain ⟨t_MB, h_MOST_BODY⟩ := T.i_MOST_BODY
    refine ⟨_, (pss_one (ps_for PassesOwn.never rfl (pi_enum (by rfl) T.b_enumerate (pa_cons (pv 0) pa_nil)) (pg_tup rfl (pgs_cons (pg_name (i := 2) sc_vet_body.nd rfl (Or.inl rfl)) (pgs_cons (pg_name (i := 3) sc_vet_body.nd rfl (Or.inl rfl)) pgs_nil)))
        (pss_cons (ps_set (i := 4) sc_vet_body.nd rfl (Or.inl rfl) (pe_slice sl_list (pv 0) (po_some (pe_op op_add (pv 2) pe_int)) (po_some (pe_op op_add (pv 2) pe_int))))
      (pss_cons (ps_set (i := 5) sc_vet_body.nd rfl (Or.inl rfl) (pe_and (pe_cmpR op_eq (pe_fld (pv 3) rfl) pe_str (nomark _)) (pe_one pe_never)))
      (pss_cons (ps_if (pt_cmpR op_eq (pe_fld (pv 3) rfl) pe_str (nomark _))
        (pss_one ps_never)
        pss_nil)
      (pss_one (ps_if (PW.pt (pw_or (pt_val (pv 5)) (pw_or1 (pt_cmpR op_eq (pv 2) (pe_glob (v := .int 60) rfl h_MOST_BODY ⟨_, rfl⟩) (nomark _)))))
        (pss_one ps_never)
        pss_nil))))))), ?_⟩
    have dN : ∀ {a b : Str}, ¬ a = b → decide (V.str a = V.str b) = false := fun z => decide_eq_false fun y => z (V.str.inj y)
    refine ⟨_, rfl, bl, _, rfl, SqL.of h1, for_it (walk_enum (K := K) (a := bl) (xs := [.ref pc])) (fun i σ H' => Same H H' ∧ ∃ o2 o3 o4 o5 o6 : Option V, σ = [some (.ref bl), some pm, o2, o3, o4, o5, o6]) ⟨fun _ _ y => y, _, _, _, _, _, rfl⟩ (fun i σ H' hi y => SqL.of (y.1 _ _ h1)) ?_ ?_⟩
    · rintro i x σ H' H'' hi ⟨sm, o2, o3, o4, o5, o6, rfl⟩ ⟨TT, x', y', rfl, hTT, rfl, e1, e2⟩
      have hi0 : i = 0 := by
        have : i < 1 := hi
        omega
      subst hi0
      have e1 := (Option.some.inj e1).symm
      have e2 : y' = .ref pc := (Option.some.inj e2).symm
      subst e1 e2
      have s1 := same_upd hTT (.tup [.int ((0 : Nat) : Int), .ref pc])
      refine ⟨TT, _, rfl, SqT.of upd_same, rfl, _, _, rfl, _, _, rfl, rfl, ?_⟩
      generalize upd H' TT (.tup [.int ((0 : Nat) : Int), .ref pc]) = H1 at s1 ⊢
      have s01 := sm.trans s1
      refine ⟨_, rfl, _, rfl, _, _, rfl, rfl, _, rfl, _, rfl, _, _, rfl, rfl, _, rfl, bl, _, rfl, SqL.of (s01 _ _ h1), fun p hp => ?_⟩
      have s2 := s01.trans (same_upd hp (.lst (cutV [.ref pc] (some (((0 : Nat) : Int) + 1)) (some (((0 : Nat) : Int) + 2)))))
      generalize upd H1 p (.lst (cutV [.ref pc] (some (((0 : Nat) : Int) + 1)) (some (((0 : Nat) : Int) + 2)))) = H2 at s2 ⊢
      have g2 := s2 _ _ g1
      refine ⟨_, rfl, pc, _, dx, _, _, rfl, g2, T.c_Piece, T.n_Piece_text, pFs_text _ _ _, rfl, _, rfl, ?_⟩
      rw [dN n1]
      refine iteF ⟨_, rfl, pc, _, dx, _, _, rfl, g2, T.c_Piece, T.n_Piece_text, pFs_text _ _ _, rfl, _, rfl, ?_⟩
      rw [dN n2]
      refine iteF ⟨_, rfl, _, rfl, iteF ⟨_, rfl, rfl, _, rfl, iteF ?_⟩⟩
      exact ⟨s2, _, _, _, _, _, rfl⟩
    · rintro σ H' ⟨sm, o2, o3, o4, o5, o6, rfl⟩
      exact q H' sm
end
end Bp

/-! text: L1 -/
set_option Elab.async false
set_option linter.all false
set_option maxRecDepth 100000
set_option maxHeartbeats 4000000
/-! the law's own defs: purse, take -/
namespace Bp
open PySem PySem.Spec PyProof.Rows L2
section
variable {P : Program} {w : World} {K : PySem.W.Frag} {mg : Str → Option Value} {base : Heap}
/-- a purse stands at p: at most n steps are done -/
def PuAt (H : Hp) (p : Addr) (n : Nat) : Prop := ∃ a b m : Nat, H p = some (.lst [.int (a : Int), .int (b : Int), .int (m : Int)]) ∧ b < 2 ^ 62 ∧ m ≤ n
def spPurse (K : PySem.W.Frag) : Sp := fun vs H Q _ => ∃ (a : Addr) (ns : List Int) (i : Nat), vs = [.ref a, .int (i : Int)] ∧ SqL K H a (ns.map V.int) ∧ ns.length ≤ 63 ∧ i ≤ 10 ∧ ∀ p H', H p = none → Same H H' → PuAt H' p 0 → Q (.ref p) H'
def spTake (K : PySem.W.Frag) : Sp := fun vs H Q _ => ∃ (p : Addr) (n m : Nat), vs = [.ref p, .int (m : Int)] ∧ PuAt H p n ∧ n < 2 ^ 30 ∧ 1 ≤ m ∧ m < 2 ^ 100 ∧ ∀ (r : Nat) (H' : Hp), r < m → SameBut p H H' → PuAt H' p (n + 1) → Q (.int (r : Int)) H'
theorem one64 (k : Bool) : -(2 ^ 64) < (if k = true then (1 : Int) else 0) ∧ (if k = true then (1 : Int) else 0) < 2 ^ 64 := by cases k <;> decide
def primesV : List V := [.int 2147483647, .int 2147483629, .int 2147483587, .int 2147483579, .int 2147483563, .int 2147483549, .int 2147483543]
theorem prime_at (k : Int) : ∃ pr : Int, atI primesV (k % 7) = some (.int pr) ∧ 0 < pr ∧ pr < 2147483648 := by
  have h0 : 0 ≤ k % 7 := Int.emod_nonneg _ (by decide)
  have h1 : k % 7 < 7 := Int.emod_lt_of_pos _ (by decide)
  generalize k % 7 = j at h0 h1
  obtain ⟨n, rfl⟩ := Int.eq_ofNat_of_zero_le h0
  have hn : n < 7 := by omega
  match n, hn with
  | 0, _ => exact ⟨_, rfl, by decide, by decide⟩
  | 1, _ => exact ⟨_, rfl, by decide, by decide⟩
  | 2, _ => exact ⟨_, rfl, by decide, by decide⟩
  | 3, _ => exact ⟨_, rfl, by decide, by decide⟩
  | 4, _ => exact ⟨_, rfl, by decide, by decide⟩
  | 5, _ => exact ⟨_, rfl, by decide, by decide⟩
  | 6, _ => exact ⟨_, rfl, by decide, by decide⟩
theorem base_bd {b st : Int} (h0 : 0 ≤ b) (h1 : b < 2 ^ 62) (h2 : 0 < st) (h3 : st ≤ 2 ^ 30 + 1) : ((b + 104729 * st) * (3 * st + 2) + 7919 * st * st).natAbs < 2 ^ 1000 := by
  have e1 : ((b + 104729 * st) * (3 * st + 2)).natAbs < 2 ^ (63 + 33) := wide_lt (by omega) (by omega)
  have e2 : (7919 * st * st).natAbs < 2 ^ (44 + 31) := wide_lt (by omega) (by omega)
  have e3 : (2 : Nat) ^ 97 < 2 ^ 1000 := Nat.pow_lt_pow_right (by decide) (by decide)
  generalize (b + 104729 * st) * (3 * st + 2) = x at *
  generalize 7919 * st * st = y at *
  refine Nat.lt_trans ?_ e3
  omega
theorem modI {X j : Int} {Q : VK} {H : Hp} (h : 0 < j) (k : ∀ x : Nat, (x : Int) < j → Q (.int (x : Int)) H) : rI (fun _ j => 0 < j) (fun i j => .int (i % j)) (.int X) (.int j) H Q := by
  obtain ⟨x, hx⟩ := Int.eq_ofNat_of_zero_le (Int.emod_nonneg X (show j ≠ 0 by omega))
  refine ⟨X, j, rfl, rfl, h, ?_⟩
  have z := k x (by rw [← hx]; exact Int.emod_lt_of_pos _ h)
  rw [← hx] at z
  exact z
theorem pu_new {H : Hp} {p : Addr} {c : Int} {k : Bool} {i : Nat} (hi : i ≤ 10) : PuAt (upd H p (.lst [.int ((if c < 0 then -c else c) * (if k = true then 1 else 0)), .int (c % 2305843009213693951 + 7177 * (i : Int) + 1), .int 0])) p 0 := by
  have h1 : 0 ≤ (if c < 0 then -c else c) * (if k = true then 1 else 0) := by
    split <;> split <;> omega
  have h2 : 0 ≤ c % 2305843009213693951 := Int.emod_nonneg _ (by decide)
  have h3 : c % 2305843009213693951 < 2305843009213693951 := Int.emod_lt_of_pos _ (by decide)
  obtain ⟨x, hx⟩ := Int.eq_ofNat_of_zero_le h1
  obtain ⟨y, hy⟩ := Int.eq_ofNat_of_zero_le (show 0 ≤ c % 2305843009213693951 + 7177 * (i : Int) + 1 by omega)
  rw [hx, hy]
  exact ⟨x, y, 0, upd_same, by omega, Nat.le_refl _⟩
theorem sc_law_purse : FnScope ["_law_script", "_law_at", "_law_cell", "_law_far"] ["_law_script", "_law_at"] (defScope s_law_purse) := ⟨rfl, rfl, rfl, by decide +kernel, rfl, by decide +kernel, by decide +kernel⟩
theorem ok_purse (T : Top w K mg) : GOk P w K mg base CX0 1 "_law_purse" ["_law_script", "_law_at"] (spPurse K) := by
  obtain ⟨fd, F⟩ := T.f_law_purse
  refine ⟨_, fd, T.g_law_purse, F.kp, F.bindsN fun _ _ _ _ _ _ us hl => match us, hl with | [_, _], _ => rfl, ok0 F sc_law_purse (fun vs H Q E h => ?_) (fun cdv A outer s H vs Q E hr h => ?_)⟩
  · obtain ⟨a, ns, i, rfl, _⟩ := h
    rfl
  · obtain ⟨a, ns, i, rfl, h1, h2, h3, q⟩ := h
    refine ⟨_, (pss_cons (ps_set (i := 2) sc_law_purse.nd rfl (Or.inl rfl) pe_int)
      (pss_cons (ps_if (pt_cmpR op_lt (pv 1) (pe_callB call_len_seq (by rfl) T.b_len PySem.boot_len (pa_cons (pv 0) pa_nil)) (nomark _))
        (pss_one (ps_set (i := 2) sc_law_purse.nd rfl (Or.inl rfl) (pe_ix ix_list (pv 0) (pv 1) (fun _ _ => rfl))))
        pss_nil)
      (pss_cons (ps_set (i := 3) sc_law_purse.nd rfl (Or.inl rfl) (pe_callB call_abs (by rfl) T.b_abs (by decide +kernel) (pa_cons (pv 2) pa_nil)))
      (pss_one (ps_ret (pe_lst (pa_cons (pe_op op_mul (pv 3) (pe_callTy call_int1 (by rfl) T.b_int (by decide +kernel) (pa_cons (pe_cmpR op_ge (pv 3) (pe_op op_pow pe_int pe_int) (nomark _)) pa_nil))) (pa_cons (pe_op op_add (pe_op op_add (pe_op op_mod (pv 2) pe_int) (pe_op op_mul pe_int (pv 1))) pe_int) (pa_cons pe_int pa_nil))))))))), ?_⟩
    refine ⟨_, rfl, _, rfl, a, _, rfl, .inl h1, _, _, rfl, rfl, _, rfl, ?_⟩
    have hp18 : (0 : Int) ≤ 18 ∧ (18 : Int) ≤ 1000000 ∧ (10 : Int).natAbs < 2 ^ 64 := by decide
    by_cases hc : (i : Int) < (((ns.map V.int).length : Nat) : Int)
    · rw [decide_eq_true hc]
      have hi : i < ns.length := by rw [List.length_map] at hc; omega
      refine iteT ⟨_, rfl, _, rfl, a, _, _, _, rfl, rfl, h1, atI_nat (j := i) (show (ns.map V.int)[i]? = some (.int ns[i]) by rw [List.getElem?_map, List.getElem?_eq_getElem hi]; rfl), ?_⟩
      generalize ns[i] = c
      refine ⟨_, rfl, _, rfl, ?_⟩
      refine ⟨_, rfl, _, rfl, _, _, rfl, rfl, hp18, _, _, rfl, rfl, .inr ⟨_, rfl, _, _, rfl, rfl, ?_, ?_⟩⟩
      · exact .inr (one64 _)
      refine ⟨_, rfl, _, _, rfl, rfl, (by show (0 : Int) < 2305843009213693951; decide), _, rfl, _, _, rfl, rfl, ?_, _, _, rfl, rfl, _, _, rfl, rfl, (by show 3 ≤ sizeLine; decide), fun r hr => ?_⟩
      · left
        decide
      exact q r _ hr (same_upd hr _) (pu_new h3)
    · rw [decide_eq_false hc]
      refine iteF ?_
      refine ⟨_, rfl, _, rfl, ?_⟩
      refine ⟨_, rfl, _, rfl, _, _, rfl, rfl, hp18, _, _, rfl, rfl, .inr ⟨_, rfl, _, _, rfl, rfl, ?_, ?_⟩⟩
      · exact .inr (one64 _)
      refine ⟨_, rfl, _, _, rfl, rfl, (by show (0 : Int) < 2305843009213693951; decide), _, rfl, _, _, rfl, rfl, ?_, _, _, rfl, rfl, _, _, rfl, rfl, (by show 3 ≤ sizeLine; decide), fun r hr => ?_⟩
      · left
        decide
      exact q r _ hr (same_upd hr _) (pu_new h3)
theorem sc_law_take : FnScope ["_law_purse_here", "_law_many", "_law_digit", "_law_primes", "_law_step", "_law_base", "_law_mixed"] ["_law_purse_here", "_law_many"] (defScope s_law_take) := ⟨rfl, rfl, rfl, by decide +kernel, rfl, by decide +kernel, by decide +kernel⟩
theorem ok_take (T : Top w K mg) : GOk P w K mg base CX0 1 "_law_take" ["_law_purse_here", "_law_many"] (spTake K) := by
  obtain ⟨fd, F⟩ := T.f_law_take
  refine ⟨_, fd, T.g_law_take, F.kp, F.bindsN fun _ _ _ _ _ _ us hl => match us, hl with | [_, _], _ => rfl, ok0 F sc_law_take (fun vs H Q E h => ?_) (fun cdv A outer s H vs Q E hr h => ?_)⟩
  · obtain ⟨p, n, m, rfl, _⟩ := h
    rfl
  · obtain ⟨p, n, m, rfl, ⟨a, b, k, hp, hb, hk⟩, hn, hm, hm2, q⟩ := h
    refine ⟨_, (pss_cons (ps_if (pt_cmpR op_gt (pe_ix ix_list (pv 0) pe_int (fun _ _ => rfl)) pe_int (nomark _))
        (pss_cons (ps_set (i := 2) sc_law_take.nd rfl (Or.inl rfl) (pe_op op_mod (pe_ix ix_list (pv 0) pe_int (fun _ _ => rfl)) (pv 1)))
      (pss_cons (ps_asg (pe_op op_fdivW (pe_ix ix_list (pv 0) pe_int (fun _ _ => rfl)) (pv 1)) (pg_sub (pv 0) pe_int set_list))
      (pss_one (ps_ret (pv 2)))))
        pss_nil)
      (pss_cons (ps_set (i := 3) sc_law_take.nd rfl (Or.inl rfl) (pe_tup (pa_cons pe_int (pa_cons pe_int (pa_cons pe_int (pa_cons pe_int (pa_cons pe_int (pa_cons pe_int (pa_cons pe_int pa_nil)))))))))
      (pss_cons (ps_asg (pe_op op_add (pe_ix ix_list (pv 0) pe_int (fun _ _ => rfl)) pe_int) (pg_sub (pv 0) pe_int set_list))
      (pss_cons (ps_set (i := 4) sc_law_take.nd rfl (Or.inl rfl) (pe_ix ix_list (pv 0) pe_int (fun _ _ => rfl)))
      (pss_cons (ps_set (i := 5) sc_law_take.nd rfl (Or.inl rfl) (pe_op op_add (pe_op op_mul (pe_op op_add (pe_ix ix_list (pv 0) pe_int (fun _ _ => rfl)) (pe_op op_mul pe_int (pv 4))) (pe_op op_add (pe_op op_mul pe_int (pv 4)) pe_int)) (pe_op op_mul (pe_op op_mul pe_int (pv 4)) (pv 4))))
      (pss_cons (ps_set (i := 6) sc_law_take.nd rfl (Or.inl rfl) (pe_op op_mod (pe_op op_powW (pv 5) pe_int) (pe_ix ix_tup (pv 3) (pe_op op_mod (pv 4) pe_int) (fun _ _ => rfl))))
      (pss_one (ps_ret (pe_op op_mod (pe_op op_fdivW (pe_op op_mod (pe_op op_mul (pv 6) (pe_op op_add (pe_op op_add (pe_op op_fdivW (pv 6) pe_int) (pe_op op_mul pe_int (pv 4))) pe_int)) (pe_ix ix_tup (pv 3) (pe_op op_mod (pe_op op_add (pv 4) pe_int) pe_int) (fun _ _ => rfl))) pe_int) (pv 1)))))))))), ?_⟩
    have cut : ∀ (H1 : Hp), Same H H1 → True := fun _ _ => trivial
    refine ⟨_, rfl, p, _, 0, _, rfl, rfl, SqL.of hp, rfl, ?_⟩
    refine ⟨_, _, rfl, rfl, _, rfl, ?_⟩
    by_cases hc : (0 : Int) < (a : Int)
    · rw [decide_eq_true hc]
      refine iteT ⟨_, rfl, p, _, 0, _, rfl, rfl, SqL.of hp, rfl, ?_⟩
      refine ⟨_, rfl, _, _, rfl, rfl, (by show (0 : Int) < m; omega), ?_⟩
      have hd : CDivW (a : Int) (m : Int) := wide_div (b := 100) (by omega) (by omega) (by decide) (by decide)
      refine ⟨_, rfl, p, _, 0, _, rfl, rfl, SqL.of hp, rfl, _, rfl, _, _, rfl, rfl, hd, _, rfl, p, _, _, 0, rfl, rfl, hp, rfl, ?_⟩
      refine ⟨_, rfl, ?_⟩
      exact q (a % m) _ (Nat.mod_lt _ (by omega)) (but_upd p _) ⟨a / m, b, k, upd_same, hb, by omega⟩
    · rw [decide_eq_false hc]
      refine iteF ⟨(by show 7 ≤ sizeLine; decide), fun t ht => ?_⟩
      have s1 := same_upd ht (.tup [V.int 2147483647, V.int 2147483629, V.int 2147483587, V.int 2147483579, V.int 2147483563, V.int 2147483549, V.int 2147483543])
      have ht1 : (upd H t (.tup [V.int 2147483647, V.int 2147483629, V.int 2147483587, V.int 2147483579, V.int 2147483563, V.int 2147483549, V.int 2147483543])) t = some (.tup primesV) := upd_same
      have hp1 := s1 _ _ hp
      have tp : t ≠ p := fun z => by
        rw [z, hp] at ht
        cases ht
      generalize upd H t (.tup [V.int 2147483647, V.int 2147483629, V.int 2147483587, V.int 2147483579, V.int 2147483563, V.int 2147483549, V.int 2147483543]) = H1 at s1 ht1 hp1 ⊢
      refine ⟨_, rfl, p, _, 2, _, rfl, rfl, SqL.of hp1, rfl, _, _, rfl, rfl, _, rfl, p, _, _, 2, rfl, rfl, hp1, rfl, ?_⟩
      obtain ⟨st, hst⟩ : ∃ st : Int, (k : Int) + 1 = st := ⟨_, rfl⟩
      have hs0 : 0 < st := by omega
      have hs1 : st ≤ 2 ^ 30 + 1 := by omega
      have hH2 : (upd H1 p (.lst (([V.int (a : Int), V.int (b : Int), V.int (k : Int)] : List V).set 2 (.int ((k : Int) + 1))))) p = some (.lst [.int (a : Int), .int (b : Int), .int ((k + 1 : Nat) : Int)]) := upd_same
      have s2 := but_upd (H := H1) p (.lst (([V.int (a : Int), V.int (b : Int), V.int (k : Int)] : List V).set 2 (.int ((k : Int) + 1))))
      have ht2 := s2 _ _ tp ht1
      generalize upd H1 p (.lst (([V.int (a : Int), V.int (b : Int), V.int (k : Int)] : List V).set 2 (.int ((k : Int) + 1)))) = H2 at hH2 s2 ht2 ⊢
      refine ⟨_, rfl, p, _, 2, _, rfl, rfl, SqL.of hH2, rfl, ?_⟩
      have ek : ((k + 1 : Nat) : Int) = st := by omega
      rw [ek]
      refine ⟨_, rfl, p, _, 1, _, rfl, rfl, SqL.of hH2, rfl, _, rfl, _, _, rfl, rfl, (.inl ⟨by decide, by decide⟩), _, _, rfl, rfl, _, rfl, _, _, rfl, rfl, (.inl ⟨by decide, by decide⟩), _, _, rfl, rfl, _, _, rfl, rfl, ?_, ?_⟩
      · exact .inr ⟨by omega, by omega⟩
      refine ⟨_, rfl, _, _, rfl, rfl, (.inl ⟨by decide, by decide⟩), _, rfl, _, _, rfl, rfl, ?_, _, _, rfl, rfl, ?_⟩
      · exact .inr ⟨by omega, by omega⟩
      have hbs := base_bd (b := (b : Int)) (st := st) (by omega) (by omega) hs0 hs1
      obtain ⟨p1, e1, e2, e3⟩ := prime_at st
      obtain ⟨p2, g1, g2, g3⟩ := prime_at (st + 3)
      refine ⟨_, rfl, _, _, rfl, rfl, ⟨by decide, by decide, hbs⟩, _, rfl, _, rfl, _, _, rfl, rfl, (by show (0 : Int) < 7; decide), t, _, _, _, rfl, rfl, SqT.of ht2, e1, modI e2 fun mx m1 => ?_⟩
      refine ⟨_, rfl, _, rfl, _, _, rfl, rfl, ⟨by decide, by decide⟩, _, rfl, _, _, rfl, rfl, (.inl ⟨by decide, by decide⟩), _, _, rfl, rfl, _, _, rfl, rfl, _, _, rfl, rfl, (.inl ⟨by omega, by omega⟩), ?_⟩
      refine ⟨_, rfl, _, rfl, _, _, rfl, rfl, _, _, rfl, rfl, (by show (0 : Int) < 7; decide), t, _, _, _, rfl, rfl, SqT.of ht2, g1, _, _, rfl, rfl, g2, _, _, rfl, rfl, ⟨by decide, by decide⟩, _, rfl, modI (by omega) fun r hr => ?_⟩
      exact q r H2 (by omega) (fun b o hb h => s2 _ _ hb (s1 _ _ h)) ⟨a, b, k + 1, hH2, hb, by omega⟩
end
end Bp

/-! text: L2 -/
set_option Elab.async false
set_option linter.all false
set_option maxRecDepth 100000
set_option maxHeartbeats 4000000
/-! the law's own defs: signs, atom -/
namespace Bp
open PySem PySem.Spec PyProof.Rows L2
section
variable {P : Program} {w : World} {K : PySem.W.Frag} {mg : Str → Option Value} {base : Heap}
def spSigns (K : PySem.W.Frag) : Sp := fun vs H Q _ => ∃ L : Nat, vs = [.int (L : Int)] ∧ L < 5 ∧ ∀ p H', H p = none → Same H H' → H' p = some (.lst ((lev L).map V.str)) → Q (.ref p) H'
theorem none_of {H H' : Hp} {r : Addr} (s : Same H H') (h : H' r = none) : H r = none := Dom.same s r h
theorem PuAt.same {H H' : Hp} {p : Addr} {n : Nat} (h : PuAt H p n) (s : Same H H') : PuAt H' p n := by
  obtain ⟨a, b, m, h1, h2⟩ := h
  exact ⟨a, b, m, s _ _ h1, h2⟩
theorem PuAt.mono {H : Hp} {p : Addr} {n n' : Nat} (h : PuAt H p n) (e : n ≤ n') : PuAt H p n' := by
  obtain ⟨a, b, m, h1, h2, h3⟩ := h
  exact ⟨a, b, m, h1, h2, by omega⟩
theorem PuAt.some {H : Hp} {p : Addr} {n : Nat} (h : PuAt H p n) : ∃ xs, H p = some (.lst xs) := by
  obtain ⟨a, b, m, h1, h2⟩ := h
  exact ⟨_, h1⟩
theorem PuAt.ne {H : Hp} {p r : Addr} {n : Nat} (h : PuAt H p n) (hr : H r = none) : r ≠ p := fun z => by
  obtain ⟨xs, e⟩ := h.some
  rw [z, e] at hr
  cases hr
theorem sc_law_signs : FnScope ["_law_level"] ["_law_level"] (defScope s_law_signs) := ⟨rfl, rfl, rfl, by decide +kernel, rfl, by decide +kernel, by decide +kernel⟩
theorem ok_signs (T : Top w K mg) : GOk P w K mg base CX0 1 "_law_signs" ["_law_level"] (spSigns K) := by
  obtain ⟨fd, F⟩ := T.f_law_signs
  refine ⟨_, fd, T.g_law_signs, F.kp, F.bindsN fun _ _ _ _ _ _ us hl => match us, hl with | [_], _ => rfl, ok0 F sc_law_signs (fun vs H Q E h => ?_) (fun cdv A outer s H vs Q E hr h => ?_)⟩
  · obtain ⟨L, rfl, _⟩ := h
    rfl
  · obtain ⟨L, rfl, hL, q⟩ := h
    refine ⟨_, (pss_one (ps_ret (pe_ix ix_list (pe_lst (pa_cons (pe_lst (pa_cons pe_str pa_nil)) (pa_cons (pe_lst (pa_cons pe_str pa_nil)) (pa_cons (pe_lst (pa_cons pe_str (pa_cons pe_str (pa_cons pe_str (pa_cons pe_str (pa_cons pe_str (pa_cons pe_str pa_nil))))))) (pa_cons (pe_lst (pa_cons pe_str (pa_cons pe_str pa_nil))) (pa_cons (pe_lst (pa_cons pe_str (pa_cons pe_str pa_nil))) pa_nil)))))) (pv 0) (fun _ _ => rfl)))), ?_⟩
    refine ⟨(by show 1 ≤ sizeLine; decide), fun r0 h0 => ?_⟩
    have s0 := same_upd h0 (.lst [.str "||"])
    have k0 : (upd H r0 (.lst [.str "||"])) r0 = some (.lst [.str "||"]) := upd_same
    generalize upd H r0 (.lst [.str "||"]) = H0 at s0 k0 ⊢
    refine ⟨(by show 1 ≤ sizeLine; decide), fun r1 h1 => ?_⟩
    have s1 := same_upd h1 (.lst [.str "&&"])
    have k1 : (upd H0 r1 (.lst [.str "&&"])) r1 = some (.lst [.str "&&"]) := upd_same
    generalize upd H0 r1 (.lst [.str "&&"]) = H1 at s1 k1 ⊢
    refine ⟨(by show 6 ≤ sizeLine; decide), fun r2 h2 => ?_⟩
    have s2 := same_upd h2 (.lst [.str "<", .str "<=", .str ">", .str ">=", .str "==", .str "!="])
    have k2 : (upd H1 r2 (.lst [.str "<", .str "<=", .str ">", .str ">=", .str "==", .str "!="])) r2 = some (.lst [.str "<", .str "<=", .str ">", .str ">=", .str "==", .str "!="]) := upd_same
    generalize upd H1 r2 (.lst [.str "<", .str "<=", .str ">", .str ">=", .str "==", .str "!="]) = H2 at s2 k2 ⊢
    refine ⟨(by show 2 ≤ sizeLine; decide), fun r3 h3 => ?_⟩
    have s3 := same_upd h3 (.lst [.str "+", .str "-"])
    have k3 : (upd H2 r3 (.lst [.str "+", .str "-"])) r3 = some (.lst [.str "+", .str "-"]) := upd_same
    generalize upd H2 r3 (.lst [.str "+", .str "-"]) = H3 at s3 k3 ⊢
    refine ⟨(by show 2 ≤ sizeLine; decide), fun r4 h4 => ?_⟩
    have s4 := same_upd h4 (.lst [.str "*", .str "/"])
    have k4 : (upd H3 r4 (.lst [.str "*", .str "/"])) r4 = some (.lst [.str "*", .str "/"]) := upd_same
    generalize upd H3 r4 (.lst [.str "*", .str "/"]) = H4 at s4 k4 ⊢
    refine ⟨(by show 5 ≤ sizeLine; decide), fun r5 h5 => ?_⟩
    have s5 := same_upd h5 (.lst [.ref r0, .ref r1, .ref r2, .ref r3, .ref r4])
    have k5 : (upd H4 r5 (.lst [.ref r0, .ref r1, .ref r2, .ref r3, .ref r4])) r5 = some (.lst [.ref r0, .ref r1, .ref r2, .ref r3, .ref r4]) := upd_same
    generalize upd H4 r5 (.lst [.ref r0, .ref r1, .ref r2, .ref r3, .ref r4]) = H5 at s5 k5 ⊢
    have t01 := s0.trans s1
    have t02 := t01.trans s2
    have t03 := t02.trans s3
    have t05 := t03.trans (s4.trans s5)
    match L, hL with
    | 0, _ => exact ⟨_, rfl, r5, _, 0, _, rfl, rfl, SqL.of k5, rfl, q r0 H5 h0 t05 (s5 _ _ (s4 _ _ (s3 _ _ (s2 _ _ (s1 _ _ k0)))))⟩
    | 1, _ => exact ⟨_, rfl, r5, _, 1, _, rfl, rfl, SqL.of k5, rfl, q r1 H5 (none_of s0 h1) t05 (s5 _ _ (s4 _ _ (s3 _ _ (s2 _ _ k1))))⟩
    | 2, _ => exact ⟨_, rfl, r5, _, 2, _, rfl, rfl, SqL.of k5, rfl, q r2 H5 (none_of t01 h2) t05 (s5 _ _ (s4 _ _ (s3 _ _ k2)))⟩
    | 3, _ => exact ⟨_, rfl, r5, _, 3, _, rfl, rfl, SqL.of k5, rfl, q r3 H5 (none_of t02 h3) t05 (s5 _ _ (s4 _ _ k3))⟩
    | 4, _ => exact ⟨_, rfl, r5, _, 4, _, rfl, rfl, SqL.of k5, rfl, q r4 H5 (none_of t03 h4) t05 (s5 _ _ k4)⟩
def spAtom (K : PySem.W.Frag) : Sp := fun vs H Q _ => ∃ (p : Addr) (n : Nat), vs = [.ref p] ∧ PuAt H p n ∧ n + 10 < 2 ^ 30 ∧ ∀ (a : At) (l : Addr) (H' : Hp), AtOk a → H l = none → SameBut p H H' → H' l = some (.lst ((atT a).map V.str)) → PuAt H' p (n + 10) → Q (.ref l) H'
theorem sc_law_atom : FnScope ["_law_purse_here", "_law_ahead"] ["_law_purse_here"] (defScope s_law_atom) := ⟨rfl, rfl, rfl, by decide +kernel, rfl, by decide +kernel, by decide +kernel⟩
theorem ok_atom (T : Top w K mg) : GOk P w K mg base CX0 2 "_law_atom" ["_law_purse_here"] (spAtom K) := by
  obtain ⟨fd, F⟩ := T.f_law_atom
  refine ⟨_, fd, T.g_law_atom, F.kp, F.bindsN fun _ _ _ _ _ _ us hl => match us, hl with | [_], _ => rfl, ok0 F sc_law_atom (fun vs H Q E h => ?_) (fun cdv A outer s H vs Q E hr h => ?_)⟩
  · obtain ⟨p, n, rfl, _⟩ := h
    rfl
  · obtain ⟨p, n, rfl, hp, hn, q⟩ := h
    have g_law_take := ok_take (P := P) (base := base) T
    refine ⟨_, (pss_cons (ps_set (i := 1) sc_law_atom.nd rfl (Or.inl rfl) (pe_ix ix_list (pe_lst (pa_cons (pe_lst pa_nil) (pa_cons (pe_lst pa_nil) (pa_cons (pe_lst pa_nil) (pa_cons (pe_lst (pa_cons pe_str pa_nil)) (pa_cons (pe_lst (pa_cons pe_str pa_nil)) (pa_cons (pe_lst (pa_cons pe_str (pa_cons pe_str pa_nil))) pa_nil))))))) (pe_g g_law_take hr (by decide) pass0 (pa_cons (pv 0) (pa_cons pe_int pa_nil))) (fun _ _ => rfl)))
      (pss_one (ps_ret (pe_op op_cat (pv 1) (pe_lst (pa_cons (pe_callTy call_str_int (by rfl) T.b_str (by decide +kernel) (pa_cons (pe_ix ix_list (pe_lst (pa_cons pe_int (pa_cons pe_int (pa_cons pe_int (pa_cons (pe_g g_law_take hr (by decide) pass0 (pa_cons (pv 0) (pa_cons pe_int pa_nil))) (pa_cons (pe_g g_law_take hr (by decide) pass0 (pa_cons (pv 0) (pa_cons (pe_op op_pow pe_int pe_int) pa_nil))) pa_nil)))))) (pe_g g_law_take hr (by decide) pass0 (pa_cons (pv 0) (pa_cons pe_int pa_nil))) (fun _ _ => rfl)) pa_nil)) pa_nil)))))), ?_⟩
    refine ⟨Nat.zero_le _, fun r0 h0 => ?_⟩
    have s0 := same_upd h0 (.lst [])
    have k0 : (upd H r0 (.lst [])) r0 = some (.lst []) := upd_same
    generalize upd H r0 (.lst []) = H0 at s0 k0 ⊢
    refine ⟨Nat.zero_le _, fun r1 h1 => ?_⟩
    have s1 := same_upd h1 (.lst [])
    have k1 : (upd H0 r1 (.lst [])) r1 = some (.lst []) := upd_same
    generalize upd H0 r1 (.lst []) = H1 at s1 k1 ⊢
    refine ⟨Nat.zero_le _, fun r2 h2 => ?_⟩
    have s2 := same_upd h2 (.lst [])
    have k2 : (upd H1 r2 (.lst [])) r2 = some (.lst []) := upd_same
    generalize upd H1 r2 (.lst []) = H2 at s2 k2 ⊢
    refine ⟨(by show 1 ≤ sizeLine; decide), fun r3 h3 => ?_⟩
    have s3 := same_upd h3 (.lst [.str "-"])
    have k3 : (upd H2 r3 (.lst [.str "-"])) r3 = some (.lst [.str "-"]) := upd_same
    generalize upd H2 r3 (.lst [.str "-"]) = H3 at s3 k3 ⊢
    refine ⟨(by show 1 ≤ sizeLine; decide), fun r4 h4 => ?_⟩
    have s4 := same_upd h4 (.lst [.str "!"])
    have k4 : (upd H3 r4 (.lst [.str "!"])) r4 = some (.lst [.str "!"]) := upd_same
    generalize upd H3 r4 (.lst [.str "!"]) = H4 at s4 k4 ⊢
    refine ⟨(by show 2 ≤ sizeLine; decide), fun r5 h5 => ?_⟩
    have s5 := same_upd h5 (.lst [.str "-", .str "-"])
    have k5 : (upd H4 r5 (.lst [.str "-", .str "-"])) r5 = some (.lst [.str "-", .str "-"]) := upd_same
    generalize upd H4 r5 (.lst [.str "-", .str "-"]) = H5 at s5 k5 ⊢
    refine ⟨(by show 6 ≤ sizeLine; decide), fun r6 h6 => ?_⟩
    have s6 := same_upd h6 (.lst [.ref r0, .ref r1, .ref r2, .ref r3, .ref r4, .ref r5])
    have k6 : (upd H5 r6 (.lst [.ref r0, .ref r1, .ref r2, .ref r3, .ref r4, .ref r5])) r6 = some (.lst [.ref r0, .ref r1, .ref r2, .ref r3, .ref r4, .ref r5]) := upd_same
    generalize upd H5 r6 (.lst [.ref r0, .ref r1, .ref r2, .ref r3, .ref r4, .ref r5]) = H6 at s6 k6 ⊢
    have t01 := s0.trans s1
    have t02 := t01.trans s2
    have t03 := t02.trans s3
    have t04 := t03.trans s4
    have t05 := t04.trans s5
    have t06 := t05.trans s6
    refine ⟨_, rfl, p, n, 6, rfl, hp.same t06, by omega, by decide, by decide, fun x H7 hx sb7 hp7 => ?_⟩
    obtain ⟨rl, ns, e1, e2, e3, e4⟩ : ∃ (rl : Addr) (ns : List Bool), ([.ref r0, .ref r1, .ref r2, .ref r3, .ref r4, .ref r5] : List V)[x]? = some (.ref rl) ∧ ns.length ≤ 2 ∧ H6 rl = some (.lst ((ns.map unS).map V.str)) ∧ rl ≠ p := by
      match x, hx with
      | 0, _ => exact ⟨r0, [], rfl, by decide, s6 _ _ (s5 _ _ (s4 _ _ (s3 _ _ (s2 _ _ (s1 _ _ k0))))), hp.ne h0⟩
      | 1, _ => exact ⟨r1, [], rfl, by decide, s6 _ _ (s5 _ _ (s4 _ _ (s3 _ _ (s2 _ _ k1)))), hp.ne (none_of s0 h1)⟩
      | 2, _ => exact ⟨r2, [], rfl, by decide, s6 _ _ (s5 _ _ (s4 _ _ (s3 _ _ k2))), hp.ne (none_of t01 h2)⟩
      | 3, _ => exact ⟨r3, [true], rfl, by decide, s6 _ _ (s5 _ _ (s4 _ _ k3)), hp.ne (none_of t02 h3)⟩
      | 4, _ => exact ⟨r4, [false], rfl, by decide, s6 _ _ (s5 _ _ k4), hp.ne (none_of t03 h4)⟩
      | 5, _ => exact ⟨r5, [true, true], rfl, by decide, s6 _ _ k5, hp.ne (none_of t04 h5)⟩
    have sbH : SameBut p H H7 := fun b o hb q => sb7 _ _ hb (t06 _ _ q)
    refine ⟨r6, _, x, _, rfl, rfl, SqL.of (sb7 _ _ (hp.ne (none_of t05 h6)) k6), atI_nat e1, ?_⟩
    have hl7 := sb7 _ _ e4 e3
    refine ⟨_, rfl, ?_⟩
    refine ⟨_, rfl, p, n + 1, 1000, rfl, hp7, by omega, by decide, by decide, fun x1 H8 hx1 sb8 hp8 => ?_⟩
    refine ⟨_, rfl, _, _, rfl, rfl, (show (0 : Int) ≤ 18 ∧ (18 : Int) ≤ 1000000 ∧ (10 : Int).natAbs < 2 ^ 64 by decide), p, n + 1 + 1, 10 ^ 18, ?_, hp8, by omega, by decide, by decide, fun x2 H9 hx2 sb9 hp9 => ?_⟩
    · rfl
    have hv1 : x1 < 10 ^ 18 := Nat.lt_of_lt_of_le hx1 (by decide)
    refine ⟨(by show 5 ≤ sizeLine; decide), fun rn hrn => ?_⟩
    have s10 := same_upd hrn (.lst [.int 0, .int 1, .int 2, .int (x1 : Int), .int (x2 : Int)])
    have k10 : (upd H9 rn (.lst [.int 0, .int 1, .int 2, .int (x1 : Int), .int (x2 : Int)])) rn = some (.lst [.int 0, .int 1, .int 2, .int (x1 : Int), .int (x2 : Int)]) := upd_same
    generalize upd H9 rn (.lst [.int 0, .int 1, .int 2, .int (x1 : Int), .int (x2 : Int)]) = H10 at s10 k10 ⊢
    refine ⟨_, rfl, p, n + 1 + 1 + 1, 5, rfl, hp9.same s10, by omega, by decide, by decide, fun x3 H11 hx3 sb11 hp11 => ?_⟩
    obtain ⟨v, f1, f2⟩ : ∃ v : Nat, ([.int 0, .int 1, .int 2, .int (x1 : Int), .int (x2 : Int)] : List V)[x3]? = some (.int (v : Int)) ∧ v < 10 ^ 18 := by
      match x3, hx3 with
      | 0, _ => exact ⟨0, rfl, by decide⟩
      | 1, _ => exact ⟨1, rfl, by decide⟩
      | 2, _ => exact ⟨2, rfl, by decide⟩
      | 3, _ => exact ⟨x1, rfl, hv1⟩
      | 4, _ => exact ⟨x2, rfl, hx2⟩
    refine ⟨rn, _, x3, _, rfl, rfl, SqL.of (sb11 _ _ (hp9.ne hrn) k10), atI_nat f1, ?_⟩
    refine ⟨_, rfl, PySem.Flt.log2_lt_of (k := 1920) (by decide) (Nat.lt_trans f2 (Nat.lt_of_lt_of_le (show (10 : Nat) ^ 18 < 2 ^ 60 by decide) (Nat.pow_le_pow_right (by decide) (by decide)))), ?_⟩
    refine ⟨(by show 1 ≤ sizeLine; decide), fun rs hrs => ?_⟩
    have s12 := same_upd hrs (.lst [.str (dec v)])
    have k12 : (upd H11 rs (.lst [.str (dec v)])) rs = some (.lst [.str (dec v)]) := upd_same
    have hl11 : H11 rl = some (.lst ((ns.map unS).map V.str)) := sb11 _ _ e4 (s10 _ _ (sb9 _ _ e4 (sb8 _ _ e4 hl7)))
    show rCat _ _ (upd H11 rs (.lst [.str (dec v)])) _
    generalize upd H11 rs (.lst [.str (dec v)]) = H12 at s12 k12 ⊢
    have sbA : SameBut p H H12 := fun b o hb q => s12 _ _ (sb11 _ _ hb (s10 _ _ (sb9 _ _ hb (sb8 _ _ hb (sbH b o hb q)))))
    have hp12 := (hp11.same s12)
    refine ⟨rl, rs, _, _, rfl, rfl, s12 _ _ hl11, k12, ?_, fun pf hpf => ?_⟩
    · rw [List.length_map, List.length_map, sizeLine_eq]
      show ns.length + 1 ≤ _
      omega
    have s13 := same_upd hpf (.lst ((ns.map unS).map V.str ++ [.str (dec v)]))
    refine q (ns, v) pf _ ⟨e2, f2⟩ ?_ (fun b o hb y => s13 _ _ (sbA b o hb y)) ?_ ((hp12.same s13).mono (by omega))
    · cases e : H pf with
      | none => rfl
      | some o =>
        have := sbA pf o (hp12.ne hpf) e
        rw [hpf] at this
        cases this
    · rw [upd_same]
      show some (HO.lst _) = some (HO.lst ((ns.map unS ++ [dec v]).map V.str))
      rw [List.map_append]
      rfl
end
end Bp

/-! text: L3 -/
set_option Elab.async false
set_option linter.all false
set_option maxRecDepth 100000
set_option maxHeartbeats 4000000
/-! the law's own defs: flat, strung -/
namespace Bp
open PySem PySem.Spec PyProof.Rows L2
/-- a list of lists of texts -/
def TxsAt (H : Hp) (la : Addr) (tss : List (List Str)) : Prop := ∃ ps : List Addr, H la = some (.lst (ps.map V.ref)) ∧ Paired (fun p (ts : List Str) => H p = some (.lst (ts.map V.str))) ps tss
theorem none_but {H H' : Hp} {p r : Addr} {n : Nat} (sb : SameBut p H H') (hp : PuAt H' p n) (hne : r ≠ p) (h : H' r = none) : H r = none := by
  cases e : H r with
  | none => rfl
  | some o =>
    have := sb r o hne e
    rw [h] at this
    cases this
theorem Paired.mapRL {α β γ : Type} {F : α → γ → Prop} {g : β → γ} : ∀ {l₁ : List α} {l₂ : List β}, Paired (fun a b => F a (g b)) l₁ l₂ → Paired F l₁ (l₂.map g)
  | _, _, .nil => .nil
  | _, _, .cons h t => .cons h (Paired.mapRL t)
def FlP (H : Hp) (p la ls : Addr) (n i : Nat) (H' : Hp) : Prop := ∃ (a0 : At) (rest : Row) (ps : List Addr), AtOk a0 ∧ RowOk 0 rest ∧ rest.length = i ∧ SameBut p H H' ∧ PuAt H' p (n + 20 + 12 * i) ∧ H' la = some (.lst (ps.map V.ref)) ∧ H' ls = some (.lst ((rest.map (·.1)).map V.str)) ∧
  Paired (fun q (a : At) => H' q = some (.lst ((atT a).map V.str)) ∧ q ≠ la ∧ q ≠ ls ∧ q ≠ p) ps (a0 :: rest.map (·.2)) ∧ la ≠ ls ∧ la ≠ p ∧ ls ≠ p
section
variable {P : Program} {w : World} {K : PySem.W.Frag} {mg : Str → Option Value} {base : Heap}
def spFlat (K : PySem.W.Frag) : Sp := fun vs H Q _ => ∃ (p : Addr) (n : Nat), vs = [.ref p] ∧ PuAt H p n ∧ n + 100 < 2 ^ 30 ∧ ∀ (t la ls : Addr) (a0 : At) (rest : Row) (H' : Hp), AtOk a0 → RowOk 0 rest → rest.length ≤ 6 → SameBut p H H' → PuAt H' p (n + 100) → H' t = some (.tup [.ref la, .ref ls]) →
  TxsAt H' la ((a0 :: rest.map (·.2)).map atT) → H' ls = some (.lst ((rest.map (·.1)).map V.str)) → Q (.ref t) H'
theorem sc_law_flat : FnScope ["_law_purse_here", "_law_atoms", "_law_signs_here", "_law_k", "_law_some"] ["_law_purse_here"] (defScope s_law_flat) := ⟨rfl, rfl, rfl, by decide +kernel, rfl, by decide +kernel, by decide +kernel⟩
theorem ok_flat (T : Top w K mg) : GOk P w K mg base CX0 3 "_law_flat" ["_law_purse_here"] (spFlat K) := by
  obtain ⟨fd, F⟩ := T.f_law_flat
  refine ⟨_, fd, T.g_law_flat, F.kp, F.bindsN fun _ _ _ _ _ _ us hl => match us, hl with | [_], _ => rfl, ok0 F sc_law_flat (fun vs H Q E h => ?_) (fun cdv A outer s H vs Q E hr h => ?_)⟩
  · obtain ⟨p, n, rfl, _⟩ := h
    rfl
  · obtain ⟨p, n, rfl, hp, hn, q⟩ := h
    have g_law_take := ok_take (P := P) (base := base) T
    have g_law_signs := ok_signs (P := P) (base := base) T
    have g_law_atom := ok_atom (P := P) (base := base) T
    refine ⟨_, (pss_cons (ps_par (i := 1) (j := 2) (by rfl) sc_law_flat.nd rfl rfl (by decide) rfl rfl (pa_cons (pe_lst (pa_cons (pe_g g_law_atom hr (by decide) pass0 (pa_cons (pv 0) pa_nil)) pa_nil)) (pa_cons (pe_lst pa_nil) pa_nil)) (by rfl))
      (pss_cons (ps_for PassesOwn.never rfl (pi_range1 rfl T.b_range (pa_cons (pe_g g_law_take hr (by decide) pass0 (pa_cons (pv 0) (pa_cons pe_int pa_nil))) pa_nil)) (pg_name (i := 3) sc_law_flat.nd rfl (Or.inl rfl))
        (pss_cons (ps_set (i := 4) sc_law_flat.nd rfl (Or.inl rfl) (pe_g g_law_signs hr (by decide) pass0 (pa_cons (pe_g g_law_take hr (by decide) pass0 (pa_cons (pv 0) (pa_cons pe_int pa_nil))) pa_nil)))
      (pss_cons (ps_expr (pe_bm PySem.F.plainAttrs_list PySem.F.slot_list_append PySem.F.type_list_append mt_append (pv 2) (pa_cons (pe_ix ix_list (pv 4) (pe_g g_law_take hr (by decide) pass0 (pa_cons (pv 0) (pa_cons (pe_callB call_len_seq (by rfl) T.b_len PySem.boot_len (pa_cons (pv 4) pa_nil)) pa_nil))) (fun _ _ => rfl)) pa_nil)))
      (pss_one (ps_expr (pe_bm PySem.F.plainAttrs_list PySem.F.slot_list_append PySem.F.type_list_append mt_append (pv 1) (pa_cons (pe_g g_law_atom hr (by decide) pass0 (pa_cons (pv 0) pa_nil)) pa_nil)))))))
      (pss_one (ps_ret (pe_tup (pa_cons (pv 1) (pa_cons (pv 2) pa_nil))))))), ?_⟩
    refine ⟨_, rfl, p, n, rfl, hp, by omega, fun a0 l0 H1 ha0 hl0 sb1 hl1 hp1 => ?_⟩
    refine ⟨(by show 1 ≤ sizeLine; decide), fun la hla => ?_⟩
    have hlaH : H la = none := none_but sb1 hp1 (hp1.ne hla) hla
    have s2 := same_upd hla (.lst [.ref l0])
    have k2 : (upd H1 la (.lst [.ref l0])) la = some (.lst [.ref l0]) := upd_same
    have n0 : l0 ≠ la := ne_of_none hl1 hla
    have n1 := hp1.ne hla
    have n00 := hp.ne hl0
    generalize upd H1 la (.lst [.ref l0]) = H2 at s2 k2 ⊢
    have hp2 := hp1.same s2
    refine ⟨Nat.zero_le _, fun ls hls => ?_⟩
    have hlsH : H ls = none := none_but sb1 hp1 (hp2.ne hls) (none_of s2 hls)
    have s3 := same_upd hls (.lst [])
    have k3 : (upd H2 ls (.lst [])) ls = some (.lst []) := upd_same
    have n2 := hp2.ne hls
    have n3 : la ≠ ls := ne_of_none k2 hls
    have n4 : l0 ≠ ls := ne_of_none (s2 _ _ hl1) hls
    generalize upd H2 ls (.lst []) = H3 at s3 k3 ⊢
    have hp3 := hp2.same s3
    refine ⟨_, _, rfl, ?_⟩
    refine ⟨_, rfl, p, n + 10, 7, rfl, hp3, by omega, by decide, by decide, fun m H4 hm sb4 hp4 => ?_⟩
    have h0 : FlP H p la ls n 0 H4 := ⟨a0, [], [l0], ha0, (fun _ h => nomatch h), rfl, fun b o hb q => sb4 _ _ hb (s3 _ _ (s2 _ _ (sb1 _ _ hb q))), hp4.mono (by omega), sb4 _ _ n1 (s3 _ _ k2), sb4 _ _ n2 k3, .cons ⟨sb4 _ _ n00 (s3 _ _ (s2 _ _ hl1)), n0, n4, n00⟩ .nil, n3, n1, n2⟩
    refine ⟨(m : Int), rfl, by omega, by omega, for_range (lo := 0) (n := m) (fun i σ H' => FlP H p la ls n i H' ∧ ∃ o1 o2 : Option V, σ = [some (.ref p), some (.ref la), some (.ref ls), o1, o2]) ⟨h0, _, _, rfl⟩ ?_ ?_⟩
    · rintro i σ H' hi ⟨⟨b0, rest, ps, f1, f2, f3, f4, f5, f6, f7, f8, _, _, _⟩, o1, o2, rfl⟩
      refine ⟨_, rfl, p, _, 5, rfl, f5, by omega, by decide, by decide, fun L H5 hL sb5 hp5 => ?_⟩
      refine ⟨L, rfl, hL, fun rs H6 hrs s6 k6 => ?_⟩
      have hp6 := hp5.same s6
      have g7 := s6 _ _ (sb5 _ _ n2 f7)
      have g6 := s6 _ _ (sb5 _ _ n1 f6)
      have n5 : la ≠ rs := ne_of_none (sb5 _ _ n1 f6) hrs
      have n6 : ls ≠ rs := ne_of_none (sb5 _ _ n2 f7) hrs
      have n7 := hp5.ne hrs
      have hll : 1 ≤ ((lev L).map V.str).length ∧ ((lev L).map V.str).length ≤ 6 := by
        match L, hL with
        | 0, _ => decide
        | 1, _ => decide
        | 2, _ => decide
        | 3, _ => decide
        | 4, _ => decide
      refine ⟨_, rfl, .inl ⟨rfl, _, SqL.of g7⟩, _, rfl, _, rfl, _, rfl, rs, _, rfl, .inl (SqL.of k6), p, _, ((lev L).map V.str).length, rfl, hp6, by omega, hll.1, Nat.lt_of_le_of_lt hll.2 (by decide), fun x H7 hx sb7 hp7 => ?_⟩
      obtain ⟨sg, hsg, hmem⟩ : ∃ sg, ((lev L).map V.str)[x]? = some (.str sg) ∧ sg ∈ lev L := by
        rw [List.length_map] at hx
        exact ⟨(lev L)[x], by rw [List.getElem?_map, List.getElem?_eq_getElem hx]; rfl, List.getElem_mem hx⟩
      have g7' := sb7 _ _ n2 g7
      refine ⟨rs, _, (x : Int), _, rfl, rfl, SqL.of (sb7 _ _ n7 k6), atI_nat hsg, ls, _, _, rfl, rfl, g7', ?_, ?_⟩
      · rw [List.length_map, List.length_map, f3, sizeLine_eq]
        omega
      have sb8 := but_upd (H := H7) ls (.lst ((rest.map (·.1)).map V.str ++ [.str sg]))
      have k8 : (upd H7 ls (.lst ((rest.map (·.1)).map V.str ++ [.str sg]))) ls = some (.lst ((rest.map (·.1)).map V.str ++ [.str sg])) := upd_same
      have hp8 : PuAt (upd H7 ls (.lst ((rest.map (·.1)).map V.str ++ [.str sg]))) p (n + 20 + 12 * i + 1 + 1) := by
        obtain ⟨y1, y2, y3, y4, y5⟩ := hp7
        exact ⟨y1, y2, y3, sb8 _ _ n2.symm y4, y5⟩
      generalize upd H7 ls (.lst ((rest.map (·.1)).map V.str ++ [.str sg])) = H8 at sb8 k8 hp8 ⊢
      have g6' := sb8 _ _ n3 (sb7 _ _ n1 g6)
      refine ⟨_, rfl, .inl ⟨rfl, _, SqL.of g6'⟩, _, rfl, p, _, rfl, hp8, by omega, fun a l H9 ha hl sb9 hl9 hp9 => ?_⟩
      have g6'' := sb9 _ _ n1 g6'
      refine ⟨la, _, _, rfl, rfl, g6'', ?_, ?_⟩
      · have := Paired.length f8
        rw [List.length_map, this, List.length_cons, List.length_map, f3, sizeLine_eq]
        omega
      have sb10 := but_upd (H := H9) la (.lst (ps.map V.ref ++ [.ref l]))
      have n8 : l ≠ la := (ne_of_none g6' hl).symm
      have n9 : l ≠ ls := (ne_of_none k8 hl).symm
      have n10 := hp8.ne hl
      refine ⟨⟨b0, rest ++ [(sg, a)], ps ++ [l], f1, fun y hy => ?_, by rw [List.length_append, f3]; rfl, fun b o hb q => ?_, ?_, ?_, ?_, ?_, n3, n1, n2⟩, _, _, rfl⟩
      · rcases List.mem_append.mp hy with hy | hy
        · exact f2 y hy
        · rw [List.mem_singleton.mp hy]
          exact ⟨ha, L, Nat.zero_le _, hmem⟩
      · have y1 := f4 b o hb q
        exact sb10 _ _ (ne_of_none q hlaH) (sb9 _ _ hb (sb8 _ _ (ne_of_none q hlsH) (sb7 _ _ hb (s6 _ _ (sb5 _ _ hb y1)))))
      · obtain ⟨y1, y2, y3, y4, y5, y6⟩ := hp9
        exact ⟨y1, y2, y3, sb10 _ _ n1.symm y4, y5, by omega⟩
      · rw [upd_same, List.map_append]
        rfl
      · refine sb10 _ _ n3.symm (sb9 _ _ n2 ?_)
        rw [k8, List.map_append, List.map_append]
        rfl
      · rw [List.map_append]
        have z1 := Paired.mapP (G := fun q (a : At) => (upd H9 la (.lst (ps.map V.ref ++ [.ref l]))) q = some (.lst ((atT a).map V.str)) ∧ q ≠ la ∧ q ≠ ls ∧ q ≠ p) f8 fun q a z => ⟨sb10 _ _ z.2.1 (sb9 _ _ z.2.2.2 (sb8 _ _ z.2.2.1 (sb7 _ _ z.2.2.2 (s6 _ _ (sb5 _ _ z.2.2.2 z.1))))), z.2⟩
        exact Paired.snoc z1 ⟨sb10 _ _ n8 hl9, n8, n9, n10⟩
    · rintro σ H' ⟨⟨b0, rest, ps, f1, f2, f3, f4, f5, f6, f7, f8, _, _, _⟩, o1, o2, rfl⟩
      refine ⟨_, rfl, _, rfl, (by show 2 ≤ sizeLine; decide), fun t ht => ?_⟩
      have s9 := same_upd ht (.tup [.ref la, .ref ls])
      refine q t la ls b0 rest _ f1 f2 (by omega) (fun b o hb y => s9 _ _ (f4 b o hb y)) ((f5.same s9).mono (by omega)) upd_same ⟨ps, s9 _ _ f6, ?_⟩ (s9 _ _ f7)
      exact Paired.mapRL (Paired.mapP f8 fun q a z => s9 _ _ z.1)
end
end Bp

/-! text: L4 -/
set_option Elab.async false
set_option linter.all false
set_option maxRecDepth 100000
set_option maxHeartbeats 4000000
/-! the law's own defs: strung -/
namespace Bp
open PySem PySem.Spec PyProof.Rows L2
theorem cutV_drop (xs : List V) (k : Nat) : cutV xs (some (k : Int)) none = xs.drop k := by
  have z : cutV xs (some (k : Int)) none = (xs.drop (HT.sIx xs.length 0 (some (k : Int)))).take (HT.sIx xs.length xs.length none - HT.sIx xs.length 0 (some (k : Int))) := rfl
  rw [z, HT.sIx_nat]
  show (xs.drop (min k xs.length)).take (xs.length - min k xs.length) = _
  rw [List.take_of_length_le (by rw [List.length_drop]; exact Nat.le_refl _)]
  rcases Nat.le_total k xs.length with h | h
  · rw [Nat.min_eq_left h]
  · rw [Nat.min_eq_right h, List.drop_of_length_le (Nat.le_refl _), List.drop_of_length_le h]
theorem cutV_tail (x : V) (xs : List V) : cutV (x :: xs) (some 1) none = xs := cutV_drop (x :: xs) 1
/-- texts strung, signs between -/
def strung (t0 : List Str) (zs : List (Str × List Str)) : List Str := zs.foldl (fun f z => f ++ [z.1] ++ z.2) t0
theorem strung_snoc (t0 : List Str) (zs : List (Str × List Str)) (z : Str × List Str) : strung t0 (zs ++ [z]) = strung t0 zs ++ [z.1] ++ z.2 := by
  unfold strung
  rw [List.foldl_append]
  rfl
theorem strung_row (tt : At → List Str) : ∀ (r : Row) (t0 : List Str), strung t0 ((r.map (·.1)).zip ((r.map (·.2)).map tt)) = t0 ++ restT tt r
  | [], t0 => (List.append_nil t0).symm
  | (s, a) :: r, t0 => by
    show strung (t0 ++ [s] ++ tt a) ((r.map (·.1)).zip ((r.map (·.2)).map tt)) = t0 ++ (s :: (tt a ++ restT tt r))
    rw [strung_row tt r]
    simp
section
variable {P : Program} {w : World} {K : PySem.W.Frag} {mg : Str → Option Value} {base : Heap}
def spStrung (K : PySem.W.Frag) : Sp := fun vs H Q _ => ∃ (la ls : Addr) (t0 : List Str) (tss : List (List Str)) (ss : List Str), vs = [.ref la, .ref ls] ∧ TxsAt H la (t0 :: tss) ∧ H ls = some (.lst (ss.map V.str)) ∧ ss.length = tss.length ∧ tss.length ≤ 10 ∧ t0.length ≤ 10 ∧ (∀ t ∈ tss, t.length ≤ 10) ∧
  ∀ (l : Addr) (H' : Hp), H l = none → Same H H' → H' l = some (.lst ((strung t0 (ss.zip tss)).map V.str)) → Q (.ref l) H'
theorem sc_law_strung : FnScope ["_law_atoms", "_law_signs_here", "_law_found", "_law_sign", "_law_atom_here"] ["_law_atoms", "_law_signs_here"] (defScope s_law_strung) := ⟨rfl, rfl, rfl, by decide +kernel, rfl, by decide +kernel, by decide +kernel⟩
theorem ok_strung (T : Top w K mg) : GOk P w K mg base CX0 1 "_law_strung" ["_law_atoms", "_law_signs_here"] (spStrung K) := by
  obtain ⟨fd, F⟩ := T.f_law_strung
  refine ⟨_, fd, T.g_law_strung, F.kp, F.bindsN fun _ _ _ _ _ _ us hl => match us, hl with | [_, _], _ => rfl, ok0 F sc_law_strung (fun vs H Q E h => ?_) (fun cdv A outer s H vs Q E hr h => ?_)⟩
  · obtain ⟨la, ls, t0, tss, ss, rfl, _⟩ := h
    rfl
  · obtain ⟨la, ls, t0, tss, ss, rfl, ⟨pps, h1, h2⟩, h3, h4, h5, h6, h7, q⟩ := h
    cases h2 with
    | cons h2 h8 =>
    rename_i p0 ps
    refine ⟨_, (pss_cons (ps_set (i := 2) sc_law_strung.nd rfl (Or.inl rfl) (pe_callTy call_list_of (by rfl) T.b_list (by decide +kernel) (pa_cons (pe_ix ix_list (pv 0) pe_int (fun _ _ => rfl)) pa_nil)))
      (pss_cons (ps_for PassesOwn.never rfl (RZ.pi_zipA (by rfl) T.b_zip (pa_cons (pv 1) (pa_cons (pe_slice sl_list (pv 0) (po_some pe_int) po_none) pa_nil))) (pg_tup rfl (pgs_cons (pg_name (i := 3) sc_law_strung.nd rfl (Or.inl rfl)) (pgs_cons (pg_name (i := 4) sc_law_strung.nd rfl (Or.inl rfl)) pgs_nil)))
        (pss_one (ps_set (i := 2) sc_law_strung.nd rfl (Or.inl rfl) (pe_op op_cat (pe_op op_cat (pv 2) (pe_lst (pa_cons (pv 3) pa_nil))) (pv 4)))))
      (pss_one (ps_ret (pv 2))))), ?_⟩
    refine ⟨_, rfl, la, _, 0, _, rfl, rfl, SqL.of h1, atI_nat (j := 0) rfl, p0, _, rfl, .inl (SqL.of h2), fun lf hlf => ?_⟩
    have s1 := same_upd hlf (.lst (t0.map V.str))
    have k1 : (upd H lf (.lst (t0.map V.str))) lf = some (.lst (t0.map V.str)) := upd_same
    generalize upd H lf (.lst (t0.map V.str)) = H1 at s1 k1 ⊢
    refine ⟨_, rfl, _, rfl, _, rfl, la, _, rfl, SqL.of (s1 _ _ h1), fun lsl hsl => ?_⟩
    have ecut : cutV ((p0 :: ps).map V.ref) (some 1) none = ps.map V.ref := cutV_tail _ _
    rw [ecut]
    have s2 := same_upd hsl (.lst (ps.map V.ref))
    have k2 : (upd H1 lsl (.lst (ps.map V.ref))) lsl = some (.lst (ps.map V.ref)) := upd_same
    have k1' := s2 _ _ k1
    generalize upd H1 lsl (.lst (ps.map V.ref)) = H2 at s2 k2 k1' ⊢
    have s02 := s1.trans s2
    have hlen := Paired.length h8
    have hlz : (ss.map V.str).length = (ps.map V.ref).length := by simp only [List.length_map]; omega
    refine ⟨ls, lsl, ss.map V.str, ps.map V.ref, rfl, .inl ⟨SqL.of (s02 _ _ h3), SqL.of k2, RZ.for_zipL hlz (fun i σ H' => Same H2 H' ∧ ∃ (lf' : Addr) (o1 o2 : Option V), σ = [some (.ref la), some (.ref ls), some (.ref lf'), o1, o2] ∧ H lf' = none ∧ H' lf' = some (.lst ((strung t0 ((ss.zip tss).take i)).map V.str)) ∧ (strung t0 ((ss.zip tss).take i)).length ≤ 10 + 20 * i) ⟨fun _ _ y => y, lf, _, _, rfl, hlf, k1', by show t0.length ≤ 10 + 20 * 0; omega⟩ ?_ ?_ ?_⟩⟩
    · rintro i σ H' ⟨s3, _⟩
      exact ⟨SqL.of (s3 _ _ (s02 _ _ h3)), SqL.of (s3 _ _ k2)⟩
    · rintro i x y T σ H' hx hy ⟨s3, lf', o1, o2, rfl, f1, f2, f3⟩ hT
      rw [List.getElem?_map] at hx hy
      obtain ⟨sg, hsg, rfl⟩ : ∃ sg, ss[i]? = some sg ∧ x = V.str sg := by
        cases e : ss[i]? with
        | none =>
          rw [e] at hx
          cases hx
        | some y =>
          rw [e] at hx
          exact ⟨y, rfl, (Option.some.inj hx).symm⟩
      obtain ⟨pa, hpa, rfl⟩ : ∃ pa, ps[i]? = some pa ∧ y = V.ref pa := by
        cases e : ps[i]? with
        | none =>
          rw [e] at hy
          cases hy
        | some y =>
          rw [e] at hy
          exact ⟨y, rfl, (Option.some.inj hy).symm⟩
      obtain ⟨ts, hts, hpt⟩ := Paired.at1 h8 hpa
      have htl := h7 ts (List.mem_of_getElem? hts)
      have s4 := same_upd hT (.tup [.str sg, .ref pa])
      refine ⟨T, _, rfl, SqT.of upd_same, rfl, _, _, rfl, _, _, rfl, rfl, ?_⟩
      generalize upd H' T (.tup [.str sg, .ref pa]) = H4 at s4 ⊢
      have s04 : Same H H4 := s02.trans (s3.trans s4)
      refine ⟨_, rfl, _, rfl, (by show 1 ≤ sizeLine; decide), fun r hr => ?_⟩
      have s5 := same_upd hr (.lst [.str sg])
      have k5 : (upd H4 r (.lst [.str sg])) r = some (.lst [.str sg]) := upd_same
      show rCat _ _ (upd H4 r (.lst [.str sg])) _
      generalize upd H4 r (.lst [.str sg]) = H5 at s5 k5 ⊢
      refine ⟨lf', r, _, _, rfl, rfl, s5 _ _ (s4 _ _ f2), k5, ?_, fun r2 hr2 => ?_⟩
      · have hi : i < ss.length := (List.getElem?_eq_some_iff.mp hsg).1
        rw [List.length_map, sizeLine_eq]
        show _ + 1 ≤ _
        omega
      have s6 := same_upd hr2 (.lst ((strung t0 ((ss.zip tss).take i)).map V.str ++ [.str sg]))
      have k6 : (upd H5 r2 (.lst ((strung t0 ((ss.zip tss).take i)).map V.str ++ [.str sg]))) r2 = some (.lst ((strung t0 ((ss.zip tss).take i)).map V.str ++ [.str sg])) := upd_same
      generalize upd H5 r2 (.lst ((strung t0 ((ss.zip tss).take i)).map V.str ++ [.str sg])) = H6 at s6 k6 ⊢
      have s06 : Same H H6 := s04.trans (s5.trans s6)
      have hi : i < ss.length := (List.getElem?_eq_some_iff.mp hsg).1
      refine ⟨_, rfl, r2, pa, _, _, rfl, rfl, k6, s06 _ _ hpt, ?_, fun r3 hr3 => ?_⟩
      · rw [List.length_append, List.length_map, List.length_map, sizeLine_eq]
        show _ + 1 + _ ≤ _
        omega
      have s7 := same_upd hr3 (.lst (((strung t0 ((ss.zip tss).take i)).map V.str ++ [.str sg]) ++ ts.map V.str))
      have e7 : strung t0 ((ss.zip tss).take (i + 1)) = strung t0 ((ss.zip tss).take i) ++ [sg] ++ ts := by
        have ez : (ss.zip tss)[i]? = some (sg, ts) := by
          rw [List.getElem?_zip_eq_some]
          exact ⟨hsg, hts⟩
        rw [List.take_succ, ez]
        exact strung_snoc _ _ _
      refine ⟨s3.trans (s4.trans (s5.trans (s6.trans s7))), r3, _, _, rfl, none_of s06 hr3, ?_, ?_⟩
      · rw [upd_same, e7, List.map_append, List.map_append]
        rfl
      · rw [e7, List.length_append, List.length_append]
        show _ + 1 + _ ≤ _
        omega
    · rintro σ H' ⟨s3, lf', o1, o2, rfl, f1, f2, f3⟩
      rw [List.length_map, List.take_of_length_le (by rw [List.length_zip]; omega)] at f2
      exact ⟨_, rfl, q lf' H' f1 (s02.trans s3) f2⟩
end
end Bp

/-! text: D35 -/
set_option Elab.async false
set_option linter.all false
set_option maxRecDepth 100000
set_option maxHeartbeats 4000000
/-! macro_of -/
namespace Bp
open PySem PySem.Spec PyProof.Rows L2 NdefX LamX
section
variable {P : Program} {w : World} {K : PySem.W.Frag} {mg : Str → Option Value} {base : Heap}
def spMacroOf (K : PySem.W.Frag) : Sp := fun vs H Q _ => ∃ (l : Addr) (ev : V) (nm bt : Str) (pp : Option Str), vs = [.ref l, ev] ∧ bt ≠ "$" ∧ bt ≠ "~" ∧
  ((pp = none ∧ ∃ (a0 a1 a2 : Addr) (c0 c1 c2 : Int), H l = some (.lst [.ref a0, .ref a1, .ref a2]) ∧ PcAt K H a0 nm c0 [] ∧ PcAt K H a1 "=" c1 [] ∧ PcAt K H a2 bt c2 [] ∧ headLetter nm = true ∧ nm ≠ "has" ∧ nm.length ≠ 0 ∧ nm.length ≤ sizeLine) ∨
   (pp = some "x" ∧ nm = "q" ∧ bt = "x" ∧ ∃ (a0 a1 a2 a3 a4 a5 : Addr) (c0 c1 c2 c3 c4 c5 : Int), H l = some (.lst [.ref a0, .ref a1, .ref a2, .ref a3, .ref a4, .ref a5]) ∧ PcAt K H a0 "q" c0 [] ∧ PcAt K H a1 "(" c1 [] ∧ PcAt K H a2 "x" c2 [] ∧ PcAt K H a3 ")" c3 [] ∧ PcAt K H a4 "=" c4 [] ∧ PcAt K H a5 "x" c5 [])) ∧
  ∀ (m : Addr) (H' : Hp), H m = none → Same H H' → MacAt K H' m nm pp bt → Q (.ref m) H'
theorem sc_macro_of : FnScope ["pieces", "end", "name", "params", "at", "first", "body"] ["pieces", "end"] (defScope s_macro_of) := ⟨rfl, rfl, rfl, by decide +kernel, rfl, by decide +kernel, by decide +kernel⟩
theorem ok_macro_of (T : Top w K mg) : GOk P w K mg base CX0 4 "macro_of" ["pieces", "end"] (spMacroOf K) := by
  obtain ⟨fd, F⟩ := T.f_macro_of
  refine ⟨_, fd, T.g_macro_of, F.kp, F.bindsN fun _ _ _ _ _ _ us hl => match us, hl with | [_, _], _ => rfl, ok0 F sc_macro_of (fun vs H Q E h => ?_) (fun cdv A outer s H vs Q E hr h => ?_)⟩
  · obtain ⟨l, ev, nm, bt, pp, rfl, _⟩ := h
    rfl
  · obtain ⟨l, ev, nm, bt, pp, rfl, n1, n2, h, q⟩ := h
    have g_need_name := ok_need_name (P := P) (base := base) T
    have g_need_sign := ok_need_sign (P := P) (base := base) T
    have g_params_of := ok_params_of (P := P) (base := base) T
    have g_vet_body := ok_vet_body (P := P) (base := base) T
    have c_Macro := ok_Macro (P := P) (base := base) T
    have dS : ∀ {a b : Str}, a = b → decide (V.str a = V.str b) = true := fun z => decide_eq_true (congrArg V.str z)
    have dN : ∀ {a b : Str}, ¬ a = b → decide (V.str a = V.str b) = false := fun z => decide_eq_false fun y => z (V.str.inj y)
    refine ⟨_, (pss_cons (ps_set (i := 2) sc_macro_of.nd rfl (Or.inl rfl) (pe_g g_need_name hr (by decide) pass0 (pa_cons (pv 0) (pa_cons pe_int (pa_cons (pv 1) (pa_cons (pe_tup pa_nil) pa_nil))))))
      (pss_cons (ps_set (i := 3) sc_macro_of.nd rfl (Or.inl rfl) pe_non)
      (pss_cons (ps_set (i := 4) sc_macro_of.nd rfl (Or.inl rfl) pe_int)
      (pss_cons (ps_if (PW.pt (pw_and (pt_cmpR op_gt (pe_callB call_len_seq (by rfl) T.b_len PySem.boot_len (pa_cons (pv 0) pa_nil)) pe_int (nomark _)) (pw_and1 (pt_cmpR op_eq (pe_fld (pe_ix ix_list (pv 0) pe_int (fun _ _ => rfl)) rfl) pe_str (nomark _)))))
        (pss_one (ps_asg (pe_g g_params_of hr (by decide) pass0 (pa_cons (pv 0) (pa_cons (pv 1) pa_nil))) (pg_tup rfl (pgs_cons (pg_name (i := 3) sc_macro_of.nd rfl (Or.inl rfl)) (pgs_cons (pg_name (i := 4) sc_macro_of.nd rfl (Or.inl rfl)) pgs_nil)))))
        pss_nil)
      (pss_cons (ps_expr (pe_g g_need_sign hr (by decide) pass0 (pa_cons (pv 0) (pa_cons (pv 4) (pa_cons (pv 1) (pa_cons (pe_tup (pa_cons pe_str pa_nil)) pa_nil))))))
      (pss_cons (ps_asg (pe_slice sl_list (pv 0) (po_some (pv 4)) po_none) (pg_star (k := 1) rfl (pgs_cons (pg_name (i := 5) sc_macro_of.nd rfl (Or.inl rfl)) (pgs_star (pg_name (i := 6) sc_macro_of.nd rfl (Or.inl rfl)) pgs_nil))))
      (pss_cons (ps_expr (pe_g g_vet_body hr (by decide) pass0 (pa_cons (pv 6) (pa_cons (pe_orT (pv 3) (pe_one (pe_tup pa_nil))) pa_nil))))
      (pss_one (ps_ret (pe_c c_Macro hr (by decide) pass0 (pa_cons (pv 2) (pa_cons (pv 3) (pa_cons (pe_callTy call_tuple_of (by rfl) T.b_tuple (by decide +kernel) (pa_cons (pv 6) pa_nil)) pa_nil))))))))))))), ?_⟩
    refine ⟨_, rfl, _, rfl, Nat.zero_le _, fun e0 he0 => ?_⟩
    have s1 := same_upd he0 (.tup [])
    have k1 : (upd H e0 (.tup [])) e0 = some (.tup []) := upd_same
    generalize upd H e0 (.tup []) = H1 at s1 k1 ⊢
    rcases h with ⟨rfl, a0, a1, a2, c0, c1, c2, h1, p0, p1, p2, m1, m2, m3, m4⟩ | ⟨rfl, rfl, rfl, a0, a1, a2, a3, a4, a5, c0, c1, c2, c3, c4, c5, h1, p0, p1, p2, p3, p4, p5⟩
    · have hrow : RowAt K H l [(nm, c0), ("=", c1), (bt, c2)] := ⟨[a0, a1, a2], h1, .cons p0.pd (.cons p1.pd (.cons p2.pd .nil)), (by show 3 ≤ 3000; decide)⟩
      refine ⟨l, e0, 0, ev, _, (nm, c0), rfl, Same.row s1 hrow, rfl, SqT.of k1, m1, m2, m3, m4, ?_⟩
      refine ⟨_, rfl, l, _, rfl, .inl (SqL.of (s1 _ _ h1)), _, _, rfl, rfl, _, rfl, iteT ?_⟩
      obtain ⟨dx, sa, pa, sgs, g1, _⟩ := Same.pc s1 p1
      refine ⟨_, rfl, l, _, 1, _, rfl, rfl, SqL.of (s1 _ _ h1), rfl, a1, _, dx, _, _, rfl, g1, T.c_Piece, T.n_Piece_text, pFs_text _ _ _, rfl, _, rfl, ?_⟩
      rw [dN (show ¬ ("=" : Str) = Str.ofString "(" by decide +kernel)]
      refine iteF ?_
      --«A 6
      refine ⟨_, rfl, _, rfl, _, rfl, (by show 1 ≤ sizeLine; decide), fun nt hnt => ?_⟩
      have s3 := same_upd hnt (.tup [.str "="])
      have s03 := s1.trans s3
      have fz3 := True.intro
      refine ⟨l, nt, 1, ev, _, ((("=" : Str), c1) : Str × Int), ["="], rfl, Same.row s03 hrow, rfl, SqT.of upd_same, (by show ("=" : Str) ∈ (["="] : List Str); decide +kernel), ?_⟩
      generalize upd H1 nt (.tup [.str "="]) = H3 at s3 s03 fz3 ⊢
      refine ⟨_, rfl, _, rfl, _, rfl, l, _, rfl, SqL.of (s03 _ _ h1), fun sp hsp => ?_⟩
      have ecut : cutV [.ref a0, .ref a1, .ref a2] (some 1) none = [.ref a1, .ref a2] := cutV_drop [.ref a0, .ref a1, .ref a2] 1
      rw [ecut]
      have s4 := same_upd hsp (.lst [.ref a1, .ref a2])
      have k4 : (upd H3 sp (.lst [.ref a1, .ref a2])) sp = some (.lst [.ref a1, .ref a2]) := upd_same
      have fz4 := True.intro
      have s04 := s03.trans s4
      generalize upd H3 sp (.lst [.ref a1, .ref a2]) = H4 at s4 s04 k4 fz4 ⊢
      refine ⟨sp, _, rfl, .inl (SqL.of k4), (by show 1 ≤ 2; decide), (by show 2 ≤ 16384; decide), fun D hD => ⟨_, _, rfl, _, _, rfl, rfl, ?_⟩⟩
      have s5 := same_upd hD (.lst (List.drop 1 [V.ref a1, V.ref a2]))
      have k5 : (upd H4 D (.lst (List.drop 1 [V.ref a1, V.ref a2]))) D = some (.lst [.ref a2]) := upd_same
      have fz5 := True.intro
      have s05 := s04.trans s5
      generalize upd H4 D (.lst (List.drop 1 [V.ref a1, V.ref a2])) = H5 at s5 s05 k5 fz5 ⊢
      refine ⟨_, rfl, _, rfl, false, rfl, iteF ⟨Nat.zero_le _, fun e1 he1 => ?_⟩⟩
      have s6 := same_upd he1 (.tup [])
      have s06 := s05.trans s6
      have k6 := s6 _ _ k5
      generalize upd H5 e1 (.tup []) = H6 at s6 s06 k6 ⊢
      refine ⟨D, a2, _, bt, c2, rfl, k6, (Same.pc s06 p2).pd, n1, n2, fun H7 s67 => ?_⟩
      have s07 := s06.trans s67
      have k7 := s67 _ _ k6
      have fz7 := True.intro
      refine ⟨_, rfl, _, rfl, _, rfl, D, _, rfl, .inl ⟨SqL.of k7, fun tb htb => ?_⟩⟩
      intro x dx hx hdx hne
      have s8 := same_upd htb (.tup [.ref a2])
      have s9 := same_made (o := .ins (He.ga K "Macro") dx (mFs nm .non tb)) hx hdx
      refine ⟨x, dx, tb, nm, .non, rfl, upd_same, rfl, ?_⟩
      rw [upd_upd]
      have s09 := s07.trans (s8.trans s9)
      have s89 := s8.trans s9
      refine q x _ (none_of (s07.trans s8) hx) s09 ⟨dx, tb, a2, .non, c2, upd_same, SqT.of (s9 _ _ upd_same), Same.pc s09 p2, rfl⟩
      --A»
    · have hrow : RowAt K H l (qRow c0 c1 c2 c3 c4 c5) := ⟨[a0, a1, a2, a3, a4, a5], h1, .cons p0.pd (.cons p1.pd (.cons p2.pd (.cons p3.pd (.cons p4.pd (.cons p5.pd .nil))))), (by show 6 ≤ 3000; decide)⟩
      refine ⟨l, e0, 0, ev, _, ((("q" : Str), c0) : Str × Int), rfl, Same.row s1 hrow, rfl, SqT.of k1, (by show headLetter "q" = true; decide +kernel), (by show ¬ (("q" : Str) = "has"); decide +kernel), (by show ¬ (("q" : Str).length = 0); decide +kernel), (by show ("q" : Str).length ≤ sizeLine; decide +kernel), ?_⟩
      refine ⟨_, rfl, l, _, rfl, .inl (SqL.of (s1 _ _ h1)), _, _, rfl, rfl, _, rfl, iteT ?_⟩
      obtain ⟨dx, sa, pa, sgs, g1, _⟩ := Same.pc s1 p1
      refine ⟨_, rfl, l, _, 1, _, rfl, rfl, SqL.of (s1 _ _ h1), rfl, a1, _, dx, _, _, rfl, g1, T.c_Piece, T.n_Piece_text, pFs_text _ _ _, rfl, _, rfl, ?_⟩
      rw [dS (show ("(" : Str) = Str.ofString "(" from rfl)]
      refine iteT ⟨_, rfl, _, rfl, l, ev, c0, c1, c2, c3, c4, c5, rfl, Same.row s1 hrow, fun t pr H2 s12 ht fz => ?_⟩
      have s02 := s1.trans s12
      refine ⟨t, _, rfl, SqT.of ht, rfl, _, _, rfl, _, _, rfl, rfl, ?_⟩
      --«B 6
      refine ⟨_, rfl, _, rfl, _, rfl, (by show 1 ≤ sizeLine; decide), fun nt hnt => ?_⟩
      have s3 := same_upd hnt (.tup [.str "="])
      have s03 := s02.trans s3
      have fz3 := Same.fz s3 fz
      refine ⟨l, nt, 4, ev, _, ((("=" : Str), c4) : Str × Int), ["="], rfl, Same.row s03 hrow, rfl, SqT.of upd_same, (by show ("=" : Str) ∈ (["="] : List Str); decide +kernel), ?_⟩
      generalize upd H2 nt (.tup [.str "="]) = H3 at s3 s03 fz3 ⊢
      refine ⟨_, rfl, _, rfl, _, rfl, l, _, rfl, SqL.of (s03 _ _ h1), fun sp hsp => ?_⟩
      have ecut : cutV [.ref a0, .ref a1, .ref a2, .ref a3, .ref a4, .ref a5] (some 4) none = [.ref a4, .ref a5] := cutV_drop [.ref a0, .ref a1, .ref a2, .ref a3, .ref a4, .ref a5] 4
      rw [ecut]
      have s4 := same_upd hsp (.lst [.ref a4, .ref a5])
      have k4 : (upd H3 sp (.lst [.ref a4, .ref a5])) sp = some (.lst [.ref a4, .ref a5]) := upd_same
      have fz4 := Same.fz s4 fz3
      have s04 := s03.trans s4
      generalize upd H3 sp (.lst [.ref a4, .ref a5]) = H4 at s4 s04 k4 fz4 ⊢
      refine ⟨sp, _, rfl, .inl (SqL.of k4), (by show 1 ≤ 2; decide), (by show 2 ≤ 16384; decide), fun D hD => ⟨_, _, rfl, _, _, rfl, rfl, ?_⟩⟩
      have s5 := same_upd hD (.lst (List.drop 1 [V.ref a4, V.ref a5]))
      have k5 : (upd H4 D (.lst (List.drop 1 [V.ref a4, V.ref a5]))) D = some (.lst [.ref a5]) := upd_same
      have fz5 := Same.fz s5 fz4
      have s05 := s04.trans s5
      generalize upd H4 D (.lst (List.drop 1 [V.ref a4, V.ref a5])) = H5 at s5 s05 k5 fz5 ⊢
      refine ⟨_, rfl, _, rfl, true, .inr (.inl ⟨_, fz5.sq, rfl⟩), iteT ?_⟩

      refine ⟨D, a5, _, "x", c5, rfl, k5, (Same.pc s05 p5).pd, n1, n2, fun H7 s67 => ?_⟩
      have s07 := s05.trans s67
      have k7 := s67 _ _ k5
      have fz7 := Same.fz s67 fz5
      refine ⟨_, rfl, _, rfl, _, rfl, D, _, rfl, .inl ⟨SqL.of k7, fun tb htb => ?_⟩⟩
      intro x dx hx hdx hne
      have s8 := same_upd htb (.tup [.ref a5])
      have s9 := same_made (o := .ins (He.ga K "Macro") dx (mFs "q" (.ref pr) tb)) hx hdx
      refine ⟨x, dx, tb, "q", (.ref pr), rfl, upd_same, rfl, ?_⟩
      rw [upd_upd]
      have s09 := s07.trans (s8.trans s9)
      have s89 := s8.trans s9
      refine q x _ (none_of (s07.trans s8) hx) s09 ⟨dx, tb, a5, (.ref pr), c5, upd_same, SqT.of (s9 _ _ upd_same), Same.pc s09 p5, ⟨pr, rfl, Same.fz s89 fz7⟩⟩
      --B»
end
end Bp

/-! text: R8 -/
set_option Elab.async false
set_option linter.all false
set_option maxRecDepth 100000
set_option maxHeartbeats 4000000
/-! o.m(e, .., k = v) -/
namespace Bp
open PySem PySem.Spec PyProof.Rows L2
def tMethN (C : Addr) (m : Str) (n nk : Nat) (sp : Sp) (gV : List V → List V → List V) (E : XK) (ta : TE) (t tk : TA) : TE := fun σ H Q => ta σ H fun x H1 => ∃ (a dx : Addr) (fs : List (Str × V)), x = .ref a ∧ H1 a = some (.ins C dx fs) ∧ fs.lookup m = none ∧
  t σ H1 fun vs H2 => tk σ H2 fun zs H3 => vs.length + 1 = n ∧ zs.length = nk ∧ sp (gV (.ref a :: vs) zs) H3 Q E
section
variable {X : Cx} {CX : CXT} {k n : Nat} {C f : Addr} {fd : FuncData} {m : Str} {ps : List Str} {sp : Sp} {ks : List Str} {g : List Value → List Value → List Value} {gV : List V → List V → List V} {E : XK} {o e : Expr} {es : List Expr} {kws : List Keyword} {ta : TE} {t tk : TA} {apos pos : Pos}
theorem pe_methN {pl : Sem Bool} (he : PE X o ta) (c : Cls X.K C) (hm : Meth X.K C m f) (F : FnOk X.prog X.w X.K X.mg X.base CX k f fd ps sp) (hr : Room k X.A) (hb : KBn X.K fd ps n ks g gV) (hx : Passes CX X E) (ha : PA X (e :: es) t) (hkw : PK X kws tk)
    (hall : (backToKw pos (keywordEach kws X.env)).all (·.1.isSome) = true := by rfl) (hks : (backToKw pos (keywordEach kws X.env)).filterMap (·.1) = ks := by rfl)
    (hst : starEach (e :: es) X.env = (false, eval e X.env) :: starEach es X.env := by rfl) (hpl : ((backTo pos (starEach (e :: es) X.env)).any (·.1) || (backToKw pos (keywordEach kws X.env)).any (·.1.isNone)) = false := by rfl)
    (ht : eval (.Call (.Attribute o m apos) (e :: es) kws pos) X.env = (do
      let ov ← eval o X.env
      standAt apos.atName
      let (f, first) ← holding [ov] (getMethod ov m pl)
      callWith pos f first (backTo pos (starEach (e :: es) X.env)) (backToKw pos (keywordEach kws X.env))) := by rfl) :
    PE X (.Call (.Attribute o m apos) (e :: es) kws pos) (tMethN C m n ks.length sp gV E ta t tk) := by
  refine ⟨fun pins s σ H Q I h => ?_⟩
  refine PySem.W.methodCall_KW (pl := pl) (thn (he.run pins s σ H _ I h) fun u s1 ⟨x, H1, I1, rx, a, dx, fs, ex, ea, l, q⟩ => ?_) ht
  subst ex
  obtain rfl : u = Value.ref a := rx
  refine getmeth_ok I1 ea c hm l ?_
  refine PySem.W.callWith_KW (first := [.ref a]) (h₀ := X.base) I.ok.mod.kin hm.kp hall (thn (ha.run pos pins s1 σ H1 _ I1 q) fun us s2 ⟨vs, H2, I2, r, q⟩ => ?_) hpl hst
  refine thn (hkw.run pos pins s2 σ H2 _ I2 q) fun ws s3 ⟨zs, H3, I3, rz, l1, l2, q2⟩ => ⟨I3.kIn, ?_⟩
  rw [hks]
  exact run_fnN (us := .ref a :: us) (vs := .ref a :: vs) F hr hb hx I3 (.cons rfl r) rz l1 l2 q2
end
end Bp

/-! text: D36 -/
set_option Elab.async false
set_option linter.all false
set_option maxRecDepth 100000
set_option maxHeartbeats 4000000
/-! the book is made -/
namespace Bp
open PySem PySem.Spec PyProof.Rows L2 NdefX LamX
/-- all but dicts stays -/
def Kd (H H' : Hp) : Prop := ∀ b o, H b = some o → (∀ xs, o ≠ .dK xs) → H' b = some o
theorem Kd.of_but {H H' : Hp} {p : Addr} {kvs : List (Key × V)} (e : SameBut p H H') (hp : H p = some (.dK kvs)) : Kd H H' := fun b o h n => e b o (fun z => by
  rw [z, hp] at h
  exact n _ (Option.some.inj h).symm) h
theorem kd_sqt {K : PySem.W.Frag} {H H' : Hp} {a : Addr} {xs : List V} (e : Kd H H') (h : SqT K H a xs) : SqT K H' a xs := by
  rcases h with (h | ⟨o, h⟩) | h
  · exact .inl (.inl (e _ _ h fun _ z => nomatch z))
  · exact .inl (.inr ⟨o, e _ _ h fun _ z => nomatch z⟩)
  · exact .inr h
theorem kd_sg {K : PySem.W.Frag} {H H' : Hp} {v : V} {c : Int} (e : Kd H H') (h : SgAt K H v c) : SgAt K H' v c := by
  obtain ⟨a, w, pg, rw, ws, h1, h2, h3, h4⟩ := h
  exact ⟨a, w, pg, rw, ws, h1, kd_sqt e h2, kd_sqt e h3, h4⟩
theorem kd_pc {K : PySem.W.Frag} {H H' : Hp} {a : Addr} {t : Str} {c : Int} {pn : List Str} (e : Kd H H') (h : PcAt K H a t c pn) : PcAt K H' a t c pn := by
  obtain ⟨dx, sa, pa, sgs, h1, h2, h3, h4, h5, h6, h7⟩ := h
  exact ⟨dx, sa, pa, sgs, e _ _ h1 (fun _ z => nomatch z), kd_sqt e h2, h3, h4, fun v hv => let ⟨c, z⟩ := h5 v hv; ⟨c, kd_sg e z⟩, fun v hv => kd_sg e (h6 v hv), kd_sqt e h7⟩
theorem kd_mac {K : PySem.W.Frag} {H H' : Hp} {m : Addr} {nm bt : Str} {pp : Option Str} (e : Kd H H') (h : MacAt K H m nm pp bt) : MacAt K H' m nm pp bt := by
  obtain ⟨dx, b, pc, pv, bc, h1, h2, h3, h4⟩ := h
  refine ⟨dx, b, pc, pv, bc, e _ _ h1 (fun _ z => nomatch z), kd_sqt e h2, kd_pc e h3, ?_⟩
  cases pp with
  | none => exact h4
  | some x =>
    obtain ⟨pr, k1, ob, k2, k3⟩ := h4
    exact ⟨pr, k1, ob, e _ _ k2 (fun _ z => nomatch z), k3⟩
section
variable {P : Program} {w : World} {K : PySem.W.Frag} {mg : Str → Option Value} {base : Heap}
def spBookLen (K : PySem.W.Frag) : Sp := fun vs H Q _ => ∃ bk : Addr, vs = [.ref bk] ∧ BookAt K H bk ∧ Q (.int 4) H
theorem sc_Book_len : FnScope ["self"] ["self"] (defScope s_Book_len) := ⟨rfl, rfl, rfl, by decide +kernel, rfl, by decide +kernel, by decide +kernel⟩
theorem ok_Book_len (T : Top w K mg) : ∃ fd, Meth K (He.ga K "Book") "__len__" (He.ma K (He.ga K "Book") "__len__") ∧ Binds K fd ["self"] [] ∧ FnOk P w K mg base CX0 1 (He.ma K (He.ga K "Book") "__len__") fd ["self"] (spBookLen K) := by
  obtain ⟨fd, F⟩ := T.f_Book_len
  refine ⟨fd, T.m_Book_len, F.bindsN fun _ _ _ _ _ _ us hl => match us, hl with | [_], _ => rfl, ok0 F sc_Book_len (fun vs H Q E h => ?_) (fun cdv A outer s H vs Q E hr h => ?_)⟩
  · obtain ⟨bk, rfl, _⟩ := h
    rfl
  · obtain ⟨bk, rfl, ⟨dx, kd, m0, m1, m2, m3, h1, h2, _⟩, q⟩ := h
    refine ⟨_, (pss_one (ps_ret (pe_callB call_lenD (by rfl) T.b_len PySem.boot_len (pa_cons (pe_fld (pv 0) rfl) pa_nil)))), ?_⟩
    exact ⟨_, rfl, bk, _, dx, _, _, rfl, h1, T.c_Book, T.n_Book_kept, rfl, kd, _, rfl, h2, q⟩
def spPut (K : PySem.W.Frag) : Sp := fun vs H Q _ => ∃ (bk dx kd m : Addr) (kvs : List (Key × V)) (nm bt : Str) (pp : Option Str), vs = [.ref bk, .ref m] ∧ H bk = some (.ins (He.ga K "Book") dx [("kept", .ref kd)]) ∧ H kd = some (.dK kvs) ∧ valV kvs (Sum.inr nm) = none ∧ kvs.length < 10 ∧ MacAt K H m nm pp bt ∧
  Q .non (upd H kd (.dK (putK kvs (Sum.inr nm) (.ref m))))
theorem sc_Book_put : FnScope ["self", "macro", "name"] ["self", "macro"] (defScope s_Book_put) := ⟨rfl, rfl, rfl, by decide +kernel, rfl, by decide +kernel, by decide +kernel⟩
theorem ok_put (T : Top w K mg) : MOk P w K mg base CX0 1 "Book" "put" ["self", "macro"] (spPut K) := by
  obtain ⟨fd, F⟩ := T.f_Book_put
  refine ⟨_, fd, T.c_Book, T.m_Book_put, F.bindsN fun _ _ _ _ _ _ us hl => match us, hl with | [_, _], _ => rfl, ok0 F sc_Book_put (fun vs H Q E h => ?_) (fun cdv A outer s H vs Q E hr h => ?_)⟩
  · obtain ⟨bk, dx, kd, m, kvs, nm, bt, pp, rfl, _⟩ := h
    rfl
  · obtain ⟨bk, dx, kd, m, kvs, nm, bt, pp, rfl, h1, h2, h3, h4, ⟨mdx, b, pc, prv, bc, k1, _⟩, q⟩ := h
    obtain ⟨t_MM, h_MOST_MACROS⟩ := T.i_MOST_MACROS
    refine ⟨_, (pss_cons (ps_set (i := 2) sc_Book_put.nd rfl (Or.inl rfl) (pe_fld (pv 1) rfl))
      (pss_one (ps_if (pt_cmp (pc_din (hu_of hr) (pv 2) (pe_fld (pv 0) rfl)))
        (pss_one (ps_if pt_never
        (pss_one ps_never)
        pss_nil))
        (pss_one (ps_if (pt_cmpR op_eq (pe_callB call_lenD (by rfl) T.b_len PySem.boot_len (pa_cons (pe_fld (pv 0) rfl) pa_nil)) (pe_glob (v := .int 40) rfl h_MOST_MACROS ⟨_, rfl⟩) (nomark _))
        (pss_one ps_never)
        (pss_one (ps_dput (hu_of hr) (pe_fld (pv 0) rfl) (pv 2) (pv 1) (by rfl)))))))), ?_⟩
    refine ⟨_, rfl, m, _, mdx, _, _, rfl, k1, T.c_Macro, T.n_Macro_name, mFs_name _ _ _, ?_⟩
    refine ⟨_, rfl, _, rfl, bk, _, dx, _, _, rfl, h1, T.c_Book, T.n_Book_kept, rfl, kd, _, rfl, DGet.k (k := Sum.inr nm) h2, ?_⟩
    rw [h3]
    refine ⟨_, rfl, iteF ?_⟩
    refine ⟨_, rfl, bk, _, dx, _, _, rfl, h1, T.c_Book, T.n_Book_kept, rfl, kd, _, rfl, h2, rfl, _, rfl, ?_⟩
    rw [show decide (V.int ((kvs.length : Nat) : Int) = V.int 40) = false from decide_eq_false fun z => by
      have := V.int.inj z
      omega]
    refine iteF ?_
    refine ⟨_, rfl, _, rfl, bk, _, dx, _, _, rfl, h1, T.c_Book, T.n_Book_kept, rfl, _, rfl, kd, _, rfl, DPut.k (k := Sum.inr nm) h2 (by rw [sizeLine_eq]; omega), q⟩
end
end Bp

/-! text: D37 -/
set_option Elab.async false
set_option linter.all false
set_option maxRecDepth 100000
set_option maxHeartbeats 4000000
/-! Book: tell, init -/
namespace Bp
open PySem PySem.Spec PyProof.Rows L2 NdefX LamX
/-- a row that tells a macro of nm -/
def EntOk (row nm bt : Str) (pp : Option Str) : Prop := row.length ≤ 2000 ∧ (∀ c ∈ row.cps.toList, c ≠ 34) ∧ bt ≠ "$" ∧ bt ≠ "~" ∧
  ((pp = none ∧ lexS row = [(nm, 0), ("=", 3), (bt, 5)] ∧ headLetter nm = true ∧ nm ≠ "has" ∧ nm.length ≠ 0 ∧ nm.length ≤ sizeLine) ∨
   (pp = some "x" ∧ nm = "q" ∧ bt = "x" ∧ lexS row = ([("q", 0), ("(", 1), ("x", 2), (")", 3), ("=", 5), ("x", 7)] : List (Str × Nat))))
theorem ent0 : EntOk "p0 = 0" "p0" "0" none := ⟨by decide +kernel, by decide +kernel, by decide +kernel, by decide +kernel, .inl ⟨rfl, by decide +kernel, by decide +kernel, by decide +kernel, by decide +kernel, by decide +kernel⟩⟩
theorem ent1 : EntOk "p1 = 1" "p1" "1" none := ⟨by decide +kernel, by decide +kernel, by decide +kernel, by decide +kernel, .inl ⟨rfl, by decide +kernel, by decide +kernel, by decide +kernel, by decide +kernel, by decide +kernel⟩⟩
theorem ent2 : EntOk "p2 = 2" "p2" "2" none := ⟨by decide +kernel, by decide +kernel, by decide +kernel, by decide +kernel, .inl ⟨rfl, by decide +kernel, by decide +kernel, by decide +kernel, by decide +kernel, by decide +kernel⟩⟩
theorem ent3 : EntOk "q(x) = x" "q" "x" (some "x") := ⟨by decide +kernel, by decide +kernel, by decide +kernel, by decide +kernel, .inr ⟨rfl, rfl, rfl, by decide +kernel⟩⟩
theorem keyN {a b : Str} (h : a ≠ b) : ¬ (Sum.inr a : Key) = Sum.inr b := fun z => h (Sum.inr.inj z)
section
variable {P : Program} {w : World} {K : PySem.W.Frag} {mg : Str → Option Value} {base : Heap}
theorem kb_pieces_of {fd : FuncData} (F : FunD K "pieces_of" "pieces_of" (defArgs s_pieces_of) (defBody s_pieces_of) (defScope s_pieces_of) [] [("page", .str ""), ("number", .int 0)] (He.ga K "pieces_of") fd) :
    KBn K fd ["row", "page", "number"] 1 ["page", "number"] (fun us ws => us ++ ws) (fun vs zs => vs ++ zs) := by
  obtain ⟨oc, od, dV, kV, doc, pm, an, cdv, ct, osl, rfl, lk, hcd, hd, hk⟩ := F.ex
  rcases hd with ⟨_, rfl⟩ | ⟨z, _⟩
  rotate_left
  · exact absurd rfl z
  rcases hk with e | ⟨D, rfl, hq⟩
  · cases e
  refine ⟨fun s us ws X h1 h2 => ?_, fun r rz => r.append rz⟩
  match us, ws, h1, h2 with
  | [a], [b, c], _, _ => exact BindsTo.of_eq (by first | rfl | with_unfolding_all rfl)
def spTell (K : PySem.W.Frag) : Sp := fun vs H Q _ => ∃ (bk dx kd : Addr) (kvs : List (Key × V)) (row nm bt : Str) (pp : Option Str) (nv : V), vs = [.ref bk, .str row, .str "", nv] ∧ H bk = some (.ins (He.ga K "Book") dx [("kept", .ref kd)]) ∧ H kd = some (.dK kvs) ∧ valV kvs (Sum.inr nm) = none ∧ kvs.length < 10 ∧ EntOk row nm bt pp ∧
  ∀ (m : Addr) (H' : Hp), SameBut kd H H' → H m = none → H' kd = some (.dK (putK kvs (Sum.inr nm) (.ref m))) → MacAt K H' m nm pp bt → Q (.ref m) H'
theorem sc_Book_tell : FnScope ["self", "row", "page", "number", "macro"] ["self", "row", "page", "number"] (defScope s_Book_tell) := ⟨rfl, rfl, rfl, by decide +kernel, rfl, by decide +kernel, by decide +kernel⟩
theorem fn_tell (T : Top w K mg) {fd : FuncData} (F : FunD K "tell" "Book.tell" (defArgs s_Book_tell) (defBody s_Book_tell) (defScope s_Book_tell) [] [("page", .str ""), ("number", .int 0)] (He.ma K (He.ga K "Book") "tell") fd) :
    FnOk P w K mg base CX0 5 (He.ma K (He.ga K "Book") "tell") fd ["self", "row", "page", "number"] (spTell K) := by
  obtain ⟨fp, Fp⟩ := T.f_pieces_of
  refine ok0 F sc_Book_tell (fun vs H Q E h => ?_) (fun cdv A outer s H vs Q E hr h => ?_)
  · obtain ⟨bk, dx, kd, kvs, row, nm, bt, pp, nv, rfl, _⟩ := h
    rfl
  · obtain ⟨bk, dx, kd, kvs, row, nm, bt, pp, nv, rfl, h1, h2, h3, h4, ⟨e1, e2, e3, e4, e5⟩, q⟩ := h
    have hF := fn_pieces_of (P := P) (mg := mg) (base := base) T Fp
    have hFk := Fp.kp
    have hFb := kb_pieces_of Fp
    have hr2 := hr.mono (show 3 ≤ 4 by decide)
    have g_macro_of := ok_macro_of (P := P) (base := base) T
    have m_Book_put := ok_put (P := P) (base := base) T
    refine ⟨_, (pss_cons (ps_set (i := 4) sc_Book_tell.nd rfl (Or.inl rfl) (pe_g g_macro_of hr (by decide) pass0 (pa_cons (pe_callN hF hr2 rfl T.g_pieces_of hFk hFb pass0 (pa_cons (pv 1) pa_nil) (pk_cons (pv 2) (pk_cons (pv 3) pk_nil))) (pa_cons (pe_tup (pa_cons (pv 2) (pa_cons (pv 3) (pa_cons (pe_callB call_len_str (by rfl) T.b_len PySem.boot_len (pa_cons (pv 1) pa_nil)) pa_nil)))) pa_nil))))
      (pss_cons (ps_expr (pe_m m_Book_put hr (by decide) pass0 (pv 0) (pa_cons (pv 4) pa_nil)))
      (pss_one (ps_ret (pe_dget (hu_of hr) (pe_fld (pv 0) rfl) (pe_fld (pv 4) rfl) (fun _ _ => rfl)))))), ?_⟩
    refine ⟨_, rfl, _, rfl, _, rfl, rfl, rfl, row, _, _, rfl, e1, e2, fun p H1 ps hp s1 hp1 hpcs => ?_⟩
    refine ⟨_, rfl, _, rfl, _, rfl, row, rfl, by rw [sizeLine_eq]; omega, (by show 3 ≤ sizeLine; decide), fun te hte => ?_⟩
    have s2 := same_upd hte (.tup [.str "", nv, .int ((row.length : Nat) : Int)])
    have hp2 := s2 _ _ hp1
    have hpcs2 := Same.pcs s2 hpcs
    generalize upd H1 te (.tup [.str "", nv, .int ((row.length : Nat) : Int)]) = H2 at s2 hp2 hpcs2 ⊢
    have s02 := s1.trans s2
    have cont : ∀ (m : Addr) (H3 : Hp), H2 m = none → Same H2 H3 → MacAt K H3 m nm pp bt → Same H H3 ∧ H m = none := fun m H3 y1 y2 _ => ⟨s02.trans y2, none_of s02 y1⟩
    refine ⟨p, _, nm, bt, pp, rfl, e3, e4, ?_, fun m H3 hm s23 hmac => ?_⟩
    · rcases e5 with ⟨x1, x2, x3, x4, x5, x6⟩ | ⟨x1, x2, x3, x4⟩
      · rw [x2] at hpcs2
        obtain ⟨a0, ps, rfl, y1, y2⟩ := pcs_cons hpcs2
        obtain ⟨a1, ps, rfl, y3, y4⟩ := pcs_cons y2
        obtain ⟨a2, ps, rfl, y5, y6⟩ := pcs_cons y4
        unfold Pcs at y6
        cases y6
        exact .inl ⟨x1, a0, a1, a2, _, _, _, hp2, y1, y3, y5, x3, x4, x5, x6⟩
      · rw [x4] at hpcs2
        obtain ⟨a0, ps, rfl, y1, y2⟩ := pcs_cons hpcs2
        obtain ⟨a1, ps, rfl, y3, y4⟩ := pcs_cons y2
        obtain ⟨a2, ps, rfl, y5, y6⟩ := pcs_cons y4
        obtain ⟨a3, ps, rfl, y7, y8⟩ := pcs_cons y6
        obtain ⟨a4, ps, rfl, y9, y10⟩ := pcs_cons y8
        obtain ⟨a5, ps, rfl, y11, y12⟩ := pcs_cons y10
        unfold Pcs at y12
        cases y12
        exact .inr ⟨x1, x2, x3, a0, a1, a2, a3, a4, a5, _, _, _, _, _, _, hp2, y1, y3, y5, y7, y9, y11⟩
    have s03 := s02.trans s23
    refine ⟨_, rfl, bk, dx, _, rfl, s03 _ _ h1, rfl, _, rfl, bk, dx, kd, m, kvs, nm, bt, pp, rfl, s03 _ _ h1, s03 _ _ h2, h3, h4, hmac, ?_⟩
    have sb := but_upd (H := H3) kd (.dK (putK kvs (Sum.inr nm) (.ref m)))
    have k4 : (upd H3 kd (.dK (putK kvs (Sum.inr nm) (.ref m)))) kd = some (.dK (putK kvs (Sum.inr nm) (.ref m))) := upd_same
    have nbk : bk ≠ kd := fun z => by
      rw [z, h2] at h1
      cases h1
    have hmac4 := kd_mac (Kd.of_but sb (s03 _ _ h2)) hmac
    generalize upd H3 kd (.dK (putK kvs (Sum.inr nm) (.ref m))) = H4 at sb k4 hmac4 ⊢
    obtain ⟨mdx, b, pc, prv, bc, j1, _⟩ := id hmac4
    refine ⟨_, rfl, bk, _, dx, _, _, rfl, sb _ _ nbk (s03 _ _ h1), T.c_Book, T.n_Book_kept, rfl, _, rfl, m, _, mdx, _, _, rfl, j1, T.c_Macro, T.n_Macro_name, mFs_name _ _ _, kd, _, rfl, ?_, q m H4 (fun b o hb y => sb _ _ hb (s03 _ _ y)) (none_of s02 hm) k4 hmac4⟩
    have z := DGet.k (k := Sum.inr nm) k4
    rw [valV_put, if_pos rfl] at z
    exact z
theorem ok_tell (T : Top w K mg) : ∃ (fd : FuncData) (mv : List Value), FnOk P w K mg base CX0 5 (He.ma K (He.ga K "Book") "tell") fd ["self", "row", "page", "number"] (spTell K) ∧ KBn K fd ["self", "row", "page", "number"] 2 ["number"] (fun us ws => us ++ mv ++ ws) (fun vs zs => vs ++ [V.str ""] ++ zs) := by
  obtain ⟨fd, F⟩ := T.f_Book_tell
  obtain ⟨mv, hb⟩ := F.kbinds0 (ps := ["self", "row", "page", "number"]) 2 ["number"] [("page", .str "")] (fun us mz ws => us ++ mz ++ ws) (by simp) (fun q hq => by
    rw [List.mem_singleton.mp hq]
    exact List.mem_cons_self ..) (fun r1 r2 r3 => (r1.append r2).append r3) (fun D doc pm an cdv ct us mv ws h1 h2 h3 => match us, mv, ws, h1, h2, h3 with
    | [a, b], [c], [d], _, _, _ => ⟨_, _, _, _, _, _, rfl, rfl, rfl⟩)
  exact ⟨fd, mv, fn_tell T F, hb⟩
def spBookI (K : PySem.W.Frag) : Sp := fun vs H Q _ => ∃ (bk dx rl : Addr), vs = [.ref bk, .ref rl] ∧ H bk = some (.ins (He.ga K "Book") dx []) ∧ H rl = some (.lst [.str "p0 = 0", .str "p1 = 1", .str "p2 = 2", .str "q(x) = x"]) ∧ ∀ H', SameBut bk H H' → BookAt K H' bk → Q .non H'
theorem sc_Book_init : FnScope ["self", "rows", "number", "row"] ["self", "rows"] (defScope s_Book_init) := ⟨rfl, rfl, rfl, by decide +kernel, rfl, by decide +kernel, by decide +kernel⟩
theorem ok_Book (T : Top w K mg) : COk P w K mg base CX0 6 "Book" ["self", "rows"] [] (spBookI K) := by
  obtain ⟨fd, F⟩ := T.f_Book_init
  obtain ⟨ds, hv, hb0⟩ := F.binds1 (ps := ["self", "rows"]) 2 1 (by simp) rfl fun _ _ _ _ _ _ _ us its hl hi => match us, hl, its, hi with | [_, _], _, [_], _ => ⟨_, rfl, rfl⟩
  refine ⟨_, fd, ds, T.g_Book, T.k_Book, hv, hb0, ok0 F sc_Book_init (fun vs H Q E h => ?_) (fun cdv A outer s H vs Q E hr h => ?_)⟩
  · obtain ⟨bk, dx, rl, rfl, _⟩ := h
    rfl
  · obtain ⟨bk, dx, rl, rfl, h1, h2, q⟩ := h
    obtain ⟨fdt, mv, hF, hb⟩ := ok_tell (P := P) (base := base) T
    refine ⟨_, (pss_cons (ps_fld (pv 0) pe_dnewK rfl)
      (pss_one (ps_for PassesOwn.never rfl (pi_enum (by rfl) T.b_enumerate (pa_cons (pv 1) pa_nil)) (pg_tup rfl (pgs_cons (pg_name (i := 2) sc_Book_init.nd rfl (Or.inl rfl)) (pgs_cons (pg_name (i := 3) sc_Book_init.nd rfl (Or.inl rfl)) pgs_nil)))
        (pss_one (ps_expr (pe_methN (pv 0) T.c_Book T.m_Book_tell hF hr hb pass0 (pa_cons (pv 3) pa_nil) (pk_cons (pv 2) pk_nil))))))), ?_⟩
    intro kd hkd
    have s0 := same_upd hkd (.dK [])
    have k0 : (upd H kd (.dK [])) kd = some (.dK []) := upd_same
    have nbk : bk ≠ kd := ne_of_none h1 hkd
    generalize upd H kd (.dK []) = H0 at s0 k0 ⊢
    refine ⟨_, rfl, bk, _, dx, [], rfl, s0 _ _ h1, T.c_Book, T.n_Book_kept, (by decide), ?_⟩
    have sb1 := but_upd (H := H0) bk (.ins (He.ga K "Book") dx [("kept", .ref kd)])
    have k1 : (upd H0 bk (.ins (He.ga K "Book") dx [("kept", .ref kd)])) bk = some (.ins (He.ga K "Book") dx [("kept", .ref kd)]) := upd_same
    have k01 := sb1 _ _ nbk.symm k0
    have nrl : rl ≠ bk := fun z => by
      rw [z, h1] at h2
      cases h2
    have nkd : ∀ b o, H b = some o → b ≠ bk → b ≠ kd := fun b o y _ => ne_of_none y hkd
    have sH1 : SameBut bk H (upd H0 bk (.ins (He.ga K "Book") dx [("kept", .ref kd)])) := fun b o hb y => sb1 _ _ hb (s0 _ _ y)
    have e1 : upd H0 bk (.ins (He.ga K "Book") dx (putF "kept" (V.ref kd) [])) = upd H0 bk (.ins (He.ga K "Book") dx [("kept", .ref kd)]) := rfl
    rw [e1]
    generalize upd H0 bk (.ins (He.ga K "Book") dx [("kept", .ref kd)]) = H1 at sH1 k1 k01 ⊢
    refine ⟨_, rfl, rl, _, rfl, SqL.of (sH1 _ _ nrl h2), for_it (walk_enum (K := K) (a := rl) (xs := [.str "p0 = 0", .str "p1 = 1", .str "p2 = 2", .str "q(x) = x"])) (fun i σ H' => SameBut bk H H' ∧ H' bk = some (.ins (He.ga K "Book") dx [("kept", .ref kd)]) ∧ ∃ m0 m1 m2 m3 : Addr, H' kd = some (.dK ((bkKvs m0 m1 m2 m3).take i)) ∧ (0 < i → MacAt K H' m0 "p0" none "0") ∧ (1 < i → MacAt K H' m1 "p1" none "1") ∧ (2 < i → MacAt K H' m2 "p2" none "2") ∧ (3 < i → MacAt K H' m3 "q" (some "x") "x") ∧ ∃ o2 o3 : Option V, σ = [some (.ref bk), some (.ref rl), o2, o3]) ⟨sH1, k1, bk, bk, bk, bk, k01, fun z => absurd z (by decide), fun z => absurd z (by decide), fun z => absurd z (by decide), fun z => absurd z (by decide), _, _, rfl⟩ (fun i σ H' hi y => SqL.of (y.1 _ _ nrl h2)) ?_ ?_⟩
    · rintro i x σ H' H'' hi ⟨f1, f2, m0, m1, m2, m3, f3, g0, g1, g2, g3, o2, o3, rfl⟩ ⟨TT, x', y', rfl, hTT, rfl, e1, e2⟩
      have hi4 : i < 4 := hi
      have e1 := (Option.some.inj e1).symm
      subst e1
      match i, hi4 with
      --«R
      | 0, _ =>
        have e2 : y' = .str "p0 = 0" := (Option.some.inj e2).symm
        subst e2
        have s1 := same_upd hTT (.tup [.int ((0 : Nat) : Int), .str "p0 = 0"])
        refine ⟨TT, _, rfl, SqT.of upd_same, rfl, _, _, rfl, _, _, rfl, rfl, ?_⟩
        generalize upd H' TT (.tup [.int ((0 : Nat) : Int), .str "p0 = 0"]) = H1 at s1 ⊢
        have hnone : valV ((bkKvs m0 m1 m2 m3).take 0) (Sum.inr "p0") = none := valV_nil
        refine ⟨_, rfl, bk, dx, _, rfl, s1 _ _ f2, rfl, _, rfl, _, rfl, rfl, rfl, bk, dx, kd, ((bkKvs m0 m1 m2 m3).take 0), "p0 = 0", "p0", "0", none, _, rfl, s1 _ _ f2, s1 _ _ f3, hnone, by show 0 < 10; decide, ent0, fun m H2 sb2 hm2 k2 hmac2 => ?_⟩
        have kd2 : Kd H1 H2 := Kd.of_but sb2 (s1 _ _ f3)
        refine ⟨fun b o hb y => sb2 _ _ (nkd b o y hb) (s1 _ _ (f1 b o hb y)), sb2 _ _ nbk (s1 _ _ f2), m, m1, m2, m3, ?_, ?_, ?_, ?_, ?_, _, _, rfl⟩
        · rw [k2, putK_new _ hnone]
          rfl
        · exact fun _ => hmac2
        · exact fun z => absurd z (by decide)
        · exact fun z => absurd z (by decide)
        · exact fun z => absurd z (by decide)
      | 1, _ =>
        have e2 : y' = .str "p1 = 1" := (Option.some.inj e2).symm
        subst e2
        have s1 := same_upd hTT (.tup [.int ((1 : Nat) : Int), .str "p1 = 1"])
        refine ⟨TT, _, rfl, SqT.of upd_same, rfl, _, _, rfl, _, _, rfl, rfl, ?_⟩
        generalize upd H' TT (.tup [.int ((1 : Nat) : Int), .str "p1 = 1"]) = H1 at s1 ⊢
        have hnone : valV ((bkKvs m0 m1 m2 m3).take 1) (Sum.inr "p1") = none := by show valV [((Sum.inr "p0" : Key), V.ref m0)] (Sum.inr "p1" : Key) = none; rw [valV_neg (p := ((Sum.inr "p0" : Key), V.ref m0)) (keyN (show ("p0" : Str) ≠ "p1" by decide +kernel))]; rfl
        refine ⟨_, rfl, bk, dx, _, rfl, s1 _ _ f2, rfl, _, rfl, _, rfl, rfl, rfl, bk, dx, kd, ((bkKvs m0 m1 m2 m3).take 1), "p1 = 1", "p1", "1", none, _, rfl, s1 _ _ f2, s1 _ _ f3, hnone, by show 1 < 10; decide, ent1, fun m H2 sb2 hm2 k2 hmac2 => ?_⟩
        have kd2 : Kd H1 H2 := Kd.of_but sb2 (s1 _ _ f3)
        refine ⟨fun b o hb y => sb2 _ _ (nkd b o y hb) (s1 _ _ (f1 b o hb y)), sb2 _ _ nbk (s1 _ _ f2), m0, m, m2, m3, ?_, ?_, ?_, ?_, ?_, _, _, rfl⟩
        · rw [k2, putK_new _ hnone]
          rfl
        · exact fun _ => kd_mac kd2 (Same.mac s1 (g0 (by decide)))
        · exact fun _ => hmac2
        · exact fun z => absurd z (by decide)
        · exact fun z => absurd z (by decide)
      | 2, _ =>
        have e2 : y' = .str "p2 = 2" := (Option.some.inj e2).symm
        subst e2
        have s1 := same_upd hTT (.tup [.int ((2 : Nat) : Int), .str "p2 = 2"])
        refine ⟨TT, _, rfl, SqT.of upd_same, rfl, _, _, rfl, _, _, rfl, rfl, ?_⟩
        generalize upd H' TT (.tup [.int ((2 : Nat) : Int), .str "p2 = 2"]) = H1 at s1 ⊢
        have hnone : valV ((bkKvs m0 m1 m2 m3).take 2) (Sum.inr "p2") = none := by show valV [((Sum.inr "p0" : Key), V.ref m0), ((Sum.inr "p1" : Key), V.ref m1)] (Sum.inr "p2" : Key) = none; rw [valV_neg (p := ((Sum.inr "p0" : Key), V.ref m0)) (keyN (show ("p0" : Str) ≠ "p2" by decide +kernel))]; rw [valV_neg (p := ((Sum.inr "p1" : Key), V.ref m1)) (keyN (show ("p1" : Str) ≠ "p2" by decide +kernel))]; rfl
        refine ⟨_, rfl, bk, dx, _, rfl, s1 _ _ f2, rfl, _, rfl, _, rfl, rfl, rfl, bk, dx, kd, ((bkKvs m0 m1 m2 m3).take 2), "p2 = 2", "p2", "2", none, _, rfl, s1 _ _ f2, s1 _ _ f3, hnone, by show 2 < 10; decide, ent2, fun m H2 sb2 hm2 k2 hmac2 => ?_⟩
        have kd2 : Kd H1 H2 := Kd.of_but sb2 (s1 _ _ f3)
        refine ⟨fun b o hb y => sb2 _ _ (nkd b o y hb) (s1 _ _ (f1 b o hb y)), sb2 _ _ nbk (s1 _ _ f2), m0, m1, m, m3, ?_, ?_, ?_, ?_, ?_, _, _, rfl⟩
        · rw [k2, putK_new _ hnone]
          rfl
        · exact fun _ => kd_mac kd2 (Same.mac s1 (g0 (by decide)))
        · exact fun _ => kd_mac kd2 (Same.mac s1 (g1 (by decide)))
        · exact fun _ => hmac2
        · exact fun z => absurd z (by decide)
      | 3, _ =>
        have e2 : y' = .str "q(x) = x" := (Option.some.inj e2).symm
        subst e2
        have s1 := same_upd hTT (.tup [.int ((3 : Nat) : Int), .str "q(x) = x"])
        refine ⟨TT, _, rfl, SqT.of upd_same, rfl, _, _, rfl, _, _, rfl, rfl, ?_⟩
        generalize upd H' TT (.tup [.int ((3 : Nat) : Int), .str "q(x) = x"]) = H1 at s1 ⊢
        have hnone : valV ((bkKvs m0 m1 m2 m3).take 3) (Sum.inr "q") = none := by show valV [((Sum.inr "p0" : Key), V.ref m0), ((Sum.inr "p1" : Key), V.ref m1), ((Sum.inr "p2" : Key), V.ref m2)] (Sum.inr "q" : Key) = none; rw [valV_neg (p := ((Sum.inr "p0" : Key), V.ref m0)) (keyN (show ("p0" : Str) ≠ "q" by decide +kernel))]; rw [valV_neg (p := ((Sum.inr "p1" : Key), V.ref m1)) (keyN (show ("p1" : Str) ≠ "q" by decide +kernel))]; rw [valV_neg (p := ((Sum.inr "p2" : Key), V.ref m2)) (keyN (show ("p2" : Str) ≠ "q" by decide +kernel))]; rfl
        refine ⟨_, rfl, bk, dx, _, rfl, s1 _ _ f2, rfl, _, rfl, _, rfl, rfl, rfl, bk, dx, kd, ((bkKvs m0 m1 m2 m3).take 3), "q(x) = x", "q", "x", (some "x"), _, rfl, s1 _ _ f2, s1 _ _ f3, hnone, by show 3 < 10; decide, ent3, fun m H2 sb2 hm2 k2 hmac2 => ?_⟩
        have kd2 : Kd H1 H2 := Kd.of_but sb2 (s1 _ _ f3)
        refine ⟨fun b o hb y => sb2 _ _ (nkd b o y hb) (s1 _ _ (f1 b o hb y)), sb2 _ _ nbk (s1 _ _ f2), m0, m1, m2, m, ?_, ?_, ?_, ?_, ?_, _, _, rfl⟩
        · rw [k2, putK_new _ hnone]
          rfl
        · exact fun _ => kd_mac kd2 (Same.mac s1 (g0 (by decide)))
        · exact fun _ => kd_mac kd2 (Same.mac s1 (g1 (by decide)))
        · exact fun _ => kd_mac kd2 (Same.mac s1 (g2 (by decide)))
        · exact fun _ => hmac2
      --R»
    · rintro σ H' ⟨f1, f2, m0, m1, m2, m3, f3, g0, g1, g2, g3, o2, o3, rfl⟩
      exact q H' f1 ⟨dx, kd, m0, m1, m2, m3, f2, f3, g0 (by show 0 < 4; decide), g1 (by show 1 < 4; decide), g2 (by show 2 < 4; decide), g3 (by show 3 < 4; decide)⟩
end
end Bp

/-! text: D31 -/
set_option Elab.async false
set_option linter.all false
set_option maxRecDepth 100000
set_option maxHeartbeats 4000000
/-! the law's told -/
namespace Bp
open PySem PySem.Spec PyProof.Rows L2 NdefX LamX
theorem count_list (c : Nat) : ∀ l : List Nat, countIn (.str ⟨#[c]⟩) (l.map fun n => PyData.str ⟨#[n]⟩) = ((l.count c : Nat) : Int)
  | [] => rfl
  | d :: l => by
    rw [List.map_cons, List.count_cons]
    show (if PySem.Spec.same (.str ⟨#[d]⟩) (.str ⟨#[c]⟩) = true then 1 else 0) + countIn _ _ = _
    rw [count_list c l]
    have e : PySem.Spec.same (.str ⟨#[d]⟩) (.str ⟨#[c]⟩) = (d == c) := by
      show ((⟨#[d]⟩ : Str) == ⟨#[c]⟩) = (d == c)
      by_cases h : d = c
      · rw [h]
        simp
      · rw [beq_eq_false_iff_ne.mpr h, beq_eq_false_iff_ne]
        intro z
        have z2 : (#[d] : Array Nat) = #[c] := congrArg Str.cps z
        simp at z2
        exact h z2
    rw [e]
    cases (d == c)
    · simp
    · simp
      omega
theorem count_slash (z : Str) : Txt.count z "/" = ((z.cps.toList.count 47 : Nat) : Int) := by
  rw [show ("/" : Str) = ⟨#[47]⟩ from by decide +kernel, PyProof.Rows.count_is, count_list]
/-- slashes ahead of a place of the row -/
def fRow (z : Str) (c : Int) : Nat := (cutS z none (some c)).cps.toList.count 47
theorem ColF.congr {f g : Int → Nat} (h : ∀ c : Nat, f (c : Int) = g (c : Int)) : ∀ (us : List Str) (t c : Nat), ColF f t c us → ColF g t c us
  | [], _, _, _ => trivial
  | u :: us, t, c, q => ⟨(h c).symm.trans q.1, ColF.congr h us _ _ q.2⟩
theorem fRow_nat (z : Str) (c : Nat) : fOf z.cps.toList (c : Int) = fRow z (c : Int) := by
  unfold fOf fRow cnt
  rw [cut_front, Int.toNat_natCast]
  rfl
theorem fRow_le (z : Str) (c : Int) : fRow z c ≤ z.length := by
  unfold fRow
  refine Nat.le_trans (List.count_le_length) ?_
  unfold cutS
  show ((z.cps.toList.drop _).take _).length ≤ z.length
  rw [List.length_take, List.length_drop, len_codes]
  omega
theorem rowL_le : ∀ us : List Str, (rowL us).length ≤ (us.map Str.length).sum + us.length
  | [] => Nat.zero_le _
  | [a] => by
    rw [rowL_one, ← len_codes]
    show a.length ≤ a.length + 0 + 1
    omega
  | a :: b :: us => by
    have z := rowL_le (b :: us)
    have e1 : (rowL (a :: b :: us)).length = a.length + ((rowL (b :: us)).length + 1) := by
      rw [rowL_two, List.length_append, List.length_cons, ← len_codes]
    have e2 : ((a :: b :: us).map Str.length).sum = a.length + ((b :: us).map Str.length).sum := by
      rw [List.map_cons, List.sum_cons]
    have e3 : (a :: b :: us).length = (b :: us).length + 1 := rfl
    rw [e1, e2, e3]
    omega
theorem WE.of_same {K : PySem.W.Frag} {H H1 H2 : Hp} (h : WE K H1 H2) (s : Same H H1) : WE K H H2 := ⟨fun b o y1 y2 => h.1 b o (s _ _ y1) y2, fun b y => Dom.same s b (h.2.1 b y), h.2.2⟩
theorem WE.to_same {K : PySem.W.Frag} {H H1 H2 : Hp} (h : WE K H H1) (s : Same H1 H2) : WE K H H2 := ⟨fun b o y1 y2 => s _ _ (h.1 b o y1 y2), fun b y => h.2.1 b (Dom.same s b y), h.2.2.ext s⟩
/-- what is told of texts worth r -/
def toldV (us : List Str) (r : Res) : V := if 400 < (rowL us).length then .non else match r with
  | .ok i => .int i
  | .error k => .str (Txt.mul "/" k)
section
variable {P : Program} {w : World} {K : PySem.W.Frag} {mg : Str → Option Value} {base : Heap}
def spTold (K : PySem.W.Frag) : Sp := fun vs H Q _ => ∃ (tl bk : Addr) (us : List Str) (r : Res), vs = [.ref tl, .ref bk] ∧ H tl = some (.lst (us.map V.str)) ∧ BookAt K H bk ∧ TabsN (tabT K qnM) H ∧ GoodW us r ∧ (us.map Str.length).sum + us.length ≤ 1000000 ∧ ∀ H', WE K H H' → Q (toldV us r) H'
def tsTold (K : PySem.W.Frag) (a : Addr) (cls : Value) (d : Option Addr) : TS := tRet (tOp (fun x y H Q => ∃ (z : Str) (n : Nat), x = .str z ∧ y = .int (n : Int) ∧ z.length = 1 ∧ n ≤ 10000 ∧ Q (.str (Txt.mul z n)) H) (tC (.str "/"))
  (tBM K "str" (fun x xs H Q => ∃ a b, x = .str a ∧ xs = [.str b] ∧ Q (.int (Txt.count a b)) H) (tSl rSlS (tVar 2) tNoPart (tPart (tOp (rIxT K) (tByZ (bnC K) a cls d (tVar 3)) (tC (.int 2))))) (tCons (tC (.str "/")) tNil)))
theorem sc_law_told : FnScope ["_law_texts", "_law_book", "_law_row", "e"] ["_law_texts", "_law_book"] (defScope s_law_told) := ⟨rfl, rfl, rfl, by decide +kernel, rfl, by decide +kernel, by decide +kernel⟩
theorem ok_told (T : Top w K mg) (TB : TabB base mg (tabC K) (tabP K)) : GOk P w K mg base CX0 171 "_law_told" ["_law_texts", "_law_book"] (spTold K) := by
  obtain ⟨fd, F⟩ := T.f_law_told
  refine ⟨_, fd, T.g_law_told, F.kp, F.bindsN fun _ _ _ _ _ _ us hl => match us, hl with | [_, _], _ => rfl, ok0 F sc_law_told (fun vs H Q E h => ?_) (fun cdv A outer s H vs Q E hr h => ?_)⟩
  · obtain ⟨tl, bk, us, r, rfl, _⟩ := h
    rfl
  · obtain ⟨tl, bk, us, r, rfl, h1, hb, hT, ⟨ks, b, h2, h3, h4⟩, h5, q⟩ := h
    obtain ⟨fw, Fw⟩ := T.f_worth_of
    obtain ⟨ds, vW, bW⟩ := Fw.binds0 (ps := ["pieces", "book", "end"]) 2 (by simp) rfl fun D doc pm an cdv ct us ks h1 h2 => match us, ks, h1, h2 with | [a, b], [e], _, _ => ⟨_, _, _, _, _, _, rfl, rfl, rfl⟩
    have FWk := Fw.kp
    obtain ⟨z, hz⟩ : ∃ z : Str, Txt.join " " us = z := ⟨_, rfl⟩
    have FW := fn_worth_of (P := P) T TB (fRow z) Fw
    have g_pieces_of := ok_pieces_of (P := P) (base := base) T
    have hr170 := hr
    refine ⟨_, (pss_cons (ps_set (i := 2) sc_law_told.nd rfl (Or.inl rfl) (pe_bm PySem.F.plainAttrs_str PySem.F.slot_str_join PySem.F.type_str_join mt_join pe_str (pa_cons (pv 0) pa_nil)))
      (pss_cons (ps_if (pt_cmpR op_gt (pe_callB call_len_str (by rfl) T.b_len PySem.boot_len (pa_cons (pv 2) pa_nil)) pe_int (nomark _))
        (pss_one (ps_ret pe_non))
        pss_nil)
      (pss_one (ps_try_as (i := 3) (ts := tsTold K) (Wout := fun _ _ _ _ => False) rfl rfl sc_law_told.nd rfl rfl ⟨rfl, by decide, Or.inl T.g_ByNought⟩ L2.takes0 (fun W pn xe tk _ => pss_one (ps_ret (by exact (pe_callSD FW hr170 rfl T.g_worth_of FWk bW vW (fun σ => passAt tk σ) (pa_cons (by exact (pe_gd g_pieces_of hr (by decide) pass0 (pa_cons (pv 2) pa_nil))) (by exact (pa_cons (pv 1) pa_nil))))))) ?suite)))), ?main⟩
    case suite =>
      intro a oe cls d pn hz hf
      refine pss_one (ps_ret (pe_op op_mulS pe_str ?_))
      refine pe_bm PySem.F.plainAttrs_str PySem.F.slot_str_count PySem.F.type_str_count mt_count ?_ (pa_cons pe_str pa_nil)
      refine pe_slice sl_str (pv 2) po_none (po_some ?_)
      refine pe_ix ix_tup ?_ pe_int (fun _ _ => rfl)
      exact pe_byZ (bn_ok T) hz hf (pv 3)
    case main =>
      have hcz : z.cps.toList = rowL us := by
        rw [← hz, TL.join_eq]
        exact TL.tl_join " " us
      have htk := h2.toks
      have hle := rowL_le us
      have hzl : z.length = (rowL us).length := by rw [len_codes, hcz]
      refine ⟨rfl, _, rfl, " ", tl, us, rfl, rfl, .inl (SqL.of h1), ?_, ?_⟩
      · show (us.map fun x => x.length).sum + us.length * 1 ≤ 16777216
        have e : (us.map fun x => x.length) = us.map Str.length := rfl
        rw [e]
        omega
      rw [hz]
      refine ⟨_, rfl, z, rfl, by rw [sizeLine_eq]; omega, _, _, rfl, rfl, _, rfl, ?_⟩
      rw [hzl]
      by_cases hc : ((400 : Int)) < (((rowL us).length : Nat) : Int)
      · rw [decide_eq_true hc]
        refine iteT ?_
        have e : toldV us r = .non := if_pos (by omega)
        have q' := q H ⟨fun b o y _ => y, fun _ y => y, hT⟩
        rw [e] at q'
        exact q'
      · rw [decide_eq_false hc]
        refine iteF ?_
        have hc2 : ¬ 400 < (rowL us).length := by omega
        obtain ⟨hlex, hcol⟩ := lex_row htk hcz
        obtain ⟨n1, n2⟩ := rowL_len us htk
        refine ⟨_, rfl, z, _, _, rfl, by omega, ?_, fun p H1 ps hp s1 hp1 hpcs => ?_⟩
        · rw [hcz]
          exact fun y hy => (rowL_mem us htk y hy).1
        rw [hlex] at hpcs
        refine ⟨_, rfl, p, bk, _, ps, us, ks, b, r, rfl, Same.book s1 hb, hT.ext s1, hp1, hpcs, ColF.congr (fRow_nat z) us 0 0 hcol, h2, h3, h4, by omega, by omega, fun H2 hw => ?_⟩
        have hw2 := hw.of_same s1
        cases r with
        | ok i =>
          have e : toldV us (.ok i) = .int i := if_neg hc2
          have q' := q H2 hw2
          rw [e] at q'
          exact q'
        | error k =>
          have e : toldV us (.error k) = .str (Txt.mul "/" k) := if_neg hc2
          intro pl pg rw' c hfc hpl d H3 hd s3 hd3
          have q' := q H3 (hw2.to_same s3)
          rw [e] at q'
          refine ⟨true, (bn_ok T).te, fun _ a0 ha0 => ?_, fun q => Bool.noConfusion q⟩
          have hk : k ≤ 10000 := by
            rw [← hfc]
            have z1 := fRow_le z c
            omega
          refine ⟨_, rfl, _, rfl, rfl, rfl, d, _, rfl, hd3, pl, _, 2, _, rfl, rfl, SqT.of (s3 _ _ hpl), rfl, ?_⟩
          refine ⟨_, rfl, z, rfl, by rw [sizeLine_eq]; omega, rfl, _, _, rfl, rfl, "/", k, rfl, ?_, by decide +kernel, hk, q'⟩
          rw [← hfc]
          exact congrArg V.int (count_slash _)
end
end Bp

/-! text: L5 -/
set_option Elab.async false
set_option linter.all false
set_option maxRecDepth 100000
set_option maxHeartbeats 4000000
/-! the law's own defs: held -/
namespace Bp
open PySem PySem.Spec PyProof.Rows L2
theorem brT_len (F : List Str) (s : Str) (p : List Str) : (brT F s p).length = F.length + p.length + 3 := by
  show ((F ++ s :: p) ++ [rp]).length + 1 = _
  rw [List.length_append, List.length_append, List.length_cons]
  show F.length + (p.length + 1) + 1 + 1 = _
  omega
theorem hd2_len {p : At → Row → List Str} {S : List Str} (hp : ∀ (a : At) (r : Row), AtOk a → (∀ y ∈ r, AtOk y.2) → (p a r).length ≤ 8 * (r.length + 1) - 3) : ∀ (r : Row) (F : List Str) (s : Str) (ca : At) (cr : Row) (q : Nat), AtOk ca → (∀ y ∈ cr, AtOk y.2) → (∀ y ∈ r, AtOk y.2) → F.length + 3 ≤ 8 * q → (hd2 p S F s ca cr r).length ≤ 8 * (q + 1 + cr.length + r.length) - 3
  | [], F, s, ca, cr, q, ha, hc, _, hF => by
    have := hp ca cr ha hc
    show (brT F s (p ca cr)).length ≤ _
    rw [brT_len, List.length_nil]
    omega
  | (s', a) :: r, F, s, ca, cr, q, ha, hc, hr, hF => by
    have h1 := hr (s', a) (List.mem_cons_self ..)
    have h2 : ∀ y ∈ r, AtOk y.2 := fun y hy => hr y (List.mem_cons_of_mem _ hy)
    have h3 := hp ca cr ha hc
    have hc2 : ∀ y ∈ cr ++ [(s', a)], AtOk y.2 := fun y hy => by
      rcases List.mem_append.mp hy with hy | hy
      · exact hc y hy
      · rw [List.mem_singleton.mp hy]
        exact h1
    show (if s' ∈ S then hd2 p S (brT F s (p ca cr)) s' a [] r else hd2 p S F s ca (cr ++ [(s', a)]) r).length ≤ _
    split
    · have z := hd2_len (S := S) hp r (brT F s (p ca cr)) s' a [] (q + 1 + cr.length) h1 (fun _ h => nomatch h) h2 (by rw [brT_len]; omega)
      rw [List.length_nil] at z
      rw [List.length_cons]
      omega
    · have z := hd2_len (S := S) hp r F s ca (cr ++ [(s', a)]) q ha hc2 h2 hF
      rw [List.length_append, List.length_cons, List.length_nil] at z
      rw [List.length_cons]
      omega
theorem hd1_len {p : At → Row → List Str} {S : List Str} (hp : ∀ (a : At) (r : Row), AtOk a → (∀ y ∈ r, AtOk y.2) → (p a r).length ≤ 8 * (r.length + 1) - 3) : ∀ (r : Row) (ca : At) (cr : Row), AtOk ca → (∀ y ∈ cr, AtOk y.2) → (∀ y ∈ r, AtOk y.2) → (hd1 p S ca cr r).length ≤ 8 * (1 + cr.length + r.length) - 3
  | [], ca, cr, ha, hc, _ => by
    have := hp ca cr ha hc
    show (p ca cr).length ≤ _
    rw [List.length_nil]
    omega
  | (s', a) :: r, ca, cr, ha, hc, hr => by
    have h1 := hr (s', a) (List.mem_cons_self ..)
    have h2 : ∀ y ∈ r, AtOk y.2 := fun y hy => hr y (List.mem_cons_of_mem _ hy)
    have h3 := hp ca cr ha hc
    have hc2 : ∀ y ∈ cr ++ [(s', a)], AtOk y.2 := fun y hy => by
      rcases List.mem_append.mp hy with hy | hy
      · exact hc y hy
      · rw [List.mem_singleton.mp hy]
        exact h1
    show (if s' ∈ S then hd2 p S (p ca cr) s' a [] r else hd1 p S ca (cr ++ [(s', a)]) r).length ≤ _
    split
    · have z := hd2_len (S := S) hp r (p ca cr) s' a [] (1 + cr.length) h1 (fun _ h => nomatch h) h2 (by omega)
      rw [List.length_nil] at z
      rw [List.length_cons]
      omega
    · have z := hd1_len (S := S) hp r ca (cr ++ [(s', a)]) ha hc2 h2
      rw [List.length_append, List.length_cons, List.length_nil] at z
      rw [List.length_cons]
      omega
theorem atT_len {a : At} (h : AtOk a) : (atT a).length ≤ 3 := by
  show (a.1.map unS ++ [dec a.2]).length ≤ 3
  rw [List.length_append, List.length_map]
  have := h.1
  show a.1.length + 1 ≤ 3
  omega
theorem hd_len : ∀ (n : Nat) (a : At) (r : Row), AtOk a → (∀ y ∈ r, AtOk y.2) → (hd n a r).length ≤ 8 * (r.length + 1) - 3
  | 0, a, r, ha, _ => by
    have := atT_len ha
    show ((atT a ++ [rp]).length + 1) ≤ _
    rw [List.length_append]
    show (atT a).length + 1 + 1 ≤ _
    omega
  | n + 1, a, r, ha, hr => by
    have ih : ∀ (a : At) (r : Row), AtOk a → (∀ y ∈ r, AtOk y.2) → (hd n a r).length ≤ 8 * (r.length + 1) - 3 := fun a r h1 h2 => hd_len n a r h1 h2
    have z := hd1_len (S := lev (4 - n)) (p := hd n) ih r a [] ha (fun _ h => nomatch h) hr
    rw [List.length_nil] at z
    show (hd1 (hd n) (lev (4 - n)) a [] r).length ≤ _
    omega
theorem Paired.dropP {α β : Type} {F : α → β → Prop} : ∀ {l : List α} {r : List β}, Paired F l r → ∀ n, Paired F (l.drop n) (r.drop n)
  | _, _, h, 0 => h
  | _, _, .nil, n + 1 => .nil
  | _, _, .cons _ t, n + 1 => Paired.dropP t n
theorem Paired.takeP {α β : Type} {F : α → β → Prop} : ∀ {l : List α} {r : List β}, Paired F l r → ∀ n, Paired F (l.take n) (r.take n)
  | _, _, _, 0 => .nil
  | _, _, .nil, n + 1 => .nil
  | _, _, .cons h t, n + 1 => .cons h (Paired.takeP t n)
def HeldSt (H' : Hp) (n : Nat) (a0 : At) (rest : Row) (i g : Nat) (lf : Addr) : Prop := ∃ (ca : At) (cr : Row), (a0 :: rest.map (·.2)).drop g = ca :: ((cr ++ rest.drop i).map (·.2)) ∧ rest.drop g = cr ++ rest.drop i ∧ cr.length + g = i ∧ i ≤ rest.length ∧
  ((g = 0 ∧ H' lf = some (.lst []) ∧ hd (n + 1) a0 rest = hd1 (hd n) (lev (4 - n)) ca cr (rest.drop i)) ∨ (0 < g ∧ ∃ (F : List Str) (s : Str), H' lf = some (.lst ((F ++ [s]).map V.str)) ∧ F.length ≤ 8 * g ∧ hd (n + 1) a0 rest = hd2 (hd n) (lev (4 - n)) F s ca cr (rest.drop i)))
theorem cutV_mid (xs : List V) (a b : Nat) (h : a ≤ xs.length) : cutV xs (some (a : Int)) (some (b : Int)) = (xs.drop a).take (b - a) := by
  have z : cutV xs (some (a : Int)) (some (b : Int)) = (xs.drop (HT.sIx xs.length 0 (some (a : Int)))).take (HT.sIx xs.length xs.length (some (b : Int)) - HT.sIx xs.length 0 (some (a : Int))) := rfl
  rw [z, HT.sIx_nat, HT.sIx_nat, Nat.min_eq_left h, List.take_eq_take_iff, List.length_drop]
  omega
section
variable {P : Program} {w : World} {K : PySem.W.Frag} {mg : Str → Option Value} {base : Heap}
def spHeld (K : PySem.W.Frag) (n : Nat) : Sp := fun vs H Q _ => ∃ (la ls : Addr) (a0 : At) (rest : Row), vs = [.ref la, .ref ls, .int ((5 - n : Nat) : Int)] ∧ n ≤ 5 ∧ TxsAt H la ((a0 :: rest.map (·.2)).map atT) ∧ H ls = some (.lst ((rest.map (·.1)).map V.str)) ∧ AtOk a0 ∧ (∀ y ∈ rest, AtOk y.2) ∧ rest.length ≤ 10 ∧
  ∀ (l : Addr) (H' : Hp), H l = none → Same H H' → H' l = some (.lst ((hd n a0 rest).map V.str)) → Q (.ref l) H'
theorem sc_law_held : FnScope ["_law_atoms", "_law_signs_here", "_law_level", "_law_found", "_law_begin", "_law_at", "_law_part"] ["_law_atoms", "_law_signs_here", "_law_level"] (defScope s_law_held) := ⟨rfl, rfl, rfl, by decide +kernel, rfl, by decide +kernel, by decide +kernel⟩
theorem ok_held0 (T : Top w K mg) (n : Nat) (g_law_held : ∀ m, n = m + 1 → GOk P w K mg base CX0 (2 + m) "_law_held" ["_law_atoms", "_law_signs_here", "_law_level"] (spHeld K m)) : GOk P w K mg base CX0 (2 + n) "_law_held" ["_law_atoms", "_law_signs_here", "_law_level"] (spHeld K n) := by
  obtain ⟨fd, F⟩ := T.f_law_held
  cases n with
  | zero =>
    refine ⟨_, fd, T.g_law_held, F.kp, F.bindsN fun _ _ _ _ _ _ us hl => match us, hl with | [_, _, _], _ => rfl, ok0 (k := 1) F sc_law_held (fun vs H Q E h => ?_) (fun cdv A outer s H vs Q E hr h => ?_)⟩
    · obtain ⟨la, ls, a0, rest, rfl, _⟩ := h
      rfl
    · obtain ⟨la, ls, a0, rest, rfl, hn, ⟨ps, h1, h2⟩, h3, h4, h5, h6, q⟩ := h
      have g_law_signs := ok_signs (P := P) (base := base) T
      have hal := atT_len h4
      cases h2 with
      | cons h2 h8 =>
      rename_i p0 ps
      refine ⟨_, (pss_cons (ps_if (pt_cmpR op_eq (pv 2) pe_int (nomark _))
        (pss_one (ps_ret (pe_op op_cat (pe_op op_cat (pe_lst (pa_cons pe_str pa_nil)) (pe_ix ix_list (pv 0) pe_int (fun _ _ => rfl))) (pe_lst (pa_cons pe_str pa_nil)))))
        pss_nil)
      (pss_cons (ps_par (i := 3) (j := 4) (by rfl) sc_law_held.nd rfl rfl (by decide) rfl rfl (pa_cons (pe_lst pa_nil) (pa_cons pe_int pa_nil)) (by rfl))
      (pss_cons (ps_for PassesOwn.never rfl (pi_range1 rfl T.b_range (pa_cons (pe_op op_add (pe_callB call_len_seq (by rfl) T.b_len PySem.boot_len (pa_cons (pv 1) pa_nil)) pe_int) pa_nil)) (pg_name (i := 5) sc_law_held.nd rfl (Or.inl rfl))
        (pss_one (ps_if (PW.pt (pw_or (pt_cmpR op_eq (pv 5) (pe_callB call_len_seq (by rfl) T.b_len PySem.boot_len (pa_cons (pv 1) pa_nil)) (nomark _)) (pw_or1 (pt_cmpR op_in_seq (pe_ix ix_list (pv 1) (pv 5) (fun _ _ => rfl)) (pe_g g_law_signs hr (by omega) pass0 (pa_cons (pv 2) pa_nil)) (by rfl)))))
        (pss_cons ps_never
      (pss_cons (ps_set (i := 3) sc_law_held.nd rfl (Or.inl rfl) (pe_ifExp (pt_cmpR op_gt (pv 4) pe_int (nomark _)) (pe_op op_cat (pe_op op_cat (pe_op op_cat (pe_lst (pa_cons pe_str pa_nil)) (pv 3)) (pv 6)) (pe_lst (pa_cons pe_str pa_nil))) (pv 6)))
      (pss_cons (ps_set (i := 3) sc_law_held.nd rfl (Or.inl rfl) (pe_op op_cat (pv 3) (pe_slice sl_list (pv 1) (po_some (pv 5)) (po_some (pe_op op_add (pv 5) pe_int)))))
      (pss_one (ps_set (i := 4) sc_law_held.nd rfl (Or.inl rfl) (pe_op op_add (pv 5) pe_int))))))
        pss_nil)))
      (pss_one (ps_ret (pv 3)))))), ?_⟩
      refine ⟨_, rfl, rfl, _, rfl, ?_⟩
      rw [show decide (V.int ((5 - 0 : Nat) : Int) = V.int 5) = true by decide]
      refine iteT ⟨(by show 1 ≤ sizeLine; decide), fun q1 hq1 => ?_⟩
      have u1 := same_upd hq1 (.lst [.str "("])
      have v1 : (upd H q1 (.lst [.str "("])) q1 = some (.lst [.str "("]) := upd_same
      show tOp _ _ _ _ (upd H q1 (.lst [.str "("])) _
      generalize upd H q1 (.lst [.str "("]) = G1 at u1 v1 ⊢
      refine ⟨_, rfl, la, _, 0, _, rfl, rfl, SqL.of (u1 _ _ h1), atI_nat (j := 0) rfl, q1, p0, _, _, rfl, rfl, v1, u1 _ _ h2, ?_, fun q2 hq2 => ?_⟩
      · rw [List.length_map, sizeLine_eq]
        show 1 + (atT a0).length ≤ _
        omega
      have u2 := same_upd hq2 (.lst ([.str "("] ++ (atT a0).map V.str))
      have v2 : (upd G1 q2 (.lst ([.str "("] ++ (atT a0).map V.str))) q2 = some (.lst ([.str "("] ++ (atT a0).map V.str)) := upd_same
      generalize upd G1 q2 (.lst ([.str "("] ++ (atT a0).map V.str)) = G2 at u2 v2 ⊢
      refine ⟨(by show 1 ≤ sizeLine; decide), fun q3 hq3 => ?_⟩
      have u3 := same_upd hq3 (.lst [.str ")"])
      have v3 : (upd G2 q3 (.lst [.str ")"])) q3 = some (.lst [.str ")"]) := upd_same
      have v2' := u3 _ _ v2
      show rCat _ _ (upd G2 q3 (.lst [.str ")"])) _
      generalize upd G2 q3 (.lst [.str ")"]) = G3 at u3 v3 v2' ⊢
      refine ⟨q2, q3, _, _, rfl, rfl, v2', v3, ?_, fun q4 hq4 => ?_⟩
      · rw [List.length_append, List.length_map, sizeLine_eq]
        show 1 + (atT a0).length + 1 ≤ _
        omega
      have u4 := same_upd hq4 (.lst (([.str "("] ++ (atT a0).map V.str) ++ [.str ")"]))
      refine q q4 _ (none_of (u1.trans (u2.trans u3)) hq4) (u1.trans (u2.trans (u3.trans u4))) ?_
      rw [upd_same]
      show _ = some (HO.lst ((brT1 a0).map V.str))
      simp [brT1]
  | succ n =>
    have g_law_held := g_law_held n rfl
    refine ⟨_, fd, T.g_law_held, F.kp, F.bindsN fun _ _ _ _ _ _ us hl => match us, hl with | [_, _, _], _ => rfl, ok0 (k := 2 + n) F sc_law_held (fun vs H Q E h => ?_) (fun cdv A outer s H vs Q E hr h => ?_)⟩
    · obtain ⟨la, ls, a0, rest, rfl, _⟩ := h
      rfl
    · obtain ⟨la, ls, a0, rest, rfl, hn, ⟨ps, h1, h2⟩, h3, h4, h5, h6, q⟩ := h
      have g_law_signs := ok_signs (P := P) (base := base) T
      refine ⟨_, (pss_cons (ps_if (pt_cmpR op_eq (pv 2) pe_int (nomark _))
        (pss_one (ps_ret (pe_op op_cat (pe_op op_cat (pe_lst (pa_cons pe_str pa_nil)) (pe_ix ix_list (pv 0) pe_int (fun _ _ => rfl))) (pe_lst (pa_cons pe_str pa_nil)))))
        pss_nil)
      (pss_cons (ps_par (i := 3) (j := 4) (by rfl) sc_law_held.nd rfl rfl (by decide) rfl rfl (pa_cons (pe_lst pa_nil) (pa_cons pe_int pa_nil)) (by rfl))
      (pss_cons (ps_for PassesOwn.never rfl (pi_range1 rfl T.b_range (pa_cons (pe_op op_add (pe_callB call_len_seq (by rfl) T.b_len PySem.boot_len (pa_cons (pv 1) pa_nil)) pe_int) pa_nil)) (pg_name (i := 5) sc_law_held.nd rfl (Or.inl rfl))
        (pss_one (ps_if (PW.pt (pw_or (pt_cmpR op_eq (pv 5) (pe_callB call_len_seq (by rfl) T.b_len PySem.boot_len (pa_cons (pv 1) pa_nil)) (nomark _)) (pw_or1 (pt_cmpR op_in_seq (pe_ix ix_list (pv 1) (pv 5) (fun _ _ => rfl)) (pe_g g_law_signs hr (by omega) pass0 (pa_cons (pv 2) pa_nil)) (by rfl)))))
        (pss_cons (ps_set (i := 6) sc_law_held.nd rfl (Or.inl rfl) (pe_g g_law_held hr (by omega) pass0 (pa_cons (pe_slice sl_list (pv 0) (po_some (pv 4)) (po_some (pe_op op_add (pv 5) pe_int))) (pa_cons (pe_slice sl_list (pv 1) (po_some (pv 4)) (po_some (pv 5))) (pa_cons (pe_op op_add (pv 2) pe_int) pa_nil)))))
      (pss_cons (ps_set (i := 3) sc_law_held.nd rfl (Or.inl rfl) (pe_ifExp (pt_cmpR op_gt (pv 4) pe_int (nomark _)) (pe_op op_cat (pe_op op_cat (pe_op op_cat (pe_lst (pa_cons pe_str pa_nil)) (pv 3)) (pv 6)) (pe_lst (pa_cons pe_str pa_nil))) (pv 6)))
      (pss_cons (ps_set (i := 3) sc_law_held.nd rfl (Or.inl rfl) (pe_op op_cat (pv 3) (pe_slice sl_list (pv 1) (po_some (pv 5)) (po_some (pe_op op_add (pv 5) pe_int)))))
      (pss_one (ps_set (i := 4) sc_law_held.nd rfl (Or.inl rfl) (pe_op op_add (pv 5) pe_int))))))
        pss_nil)))
      (pss_one (ps_ret (pv 3)))))), ?_⟩
      refine ⟨_, rfl, rfl, _, rfl, ?_⟩
      rw [decide_eq_false (fun z => by
        have z2 := V.int.inj z
        omega)]
      refine iteF ?_
      refine ⟨Nat.zero_le _, fun lf0 hlf0 => ?_⟩
      have s1 := same_upd hlf0 (.lst [])
      have k1 : (upd H lf0 (.lst [])) lf0 = some (.lst []) := upd_same
      generalize upd H lf0 (.lst []) = H1 at s1 k1 ⊢
      refine ⟨_, _, rfl, ?_⟩
      refine ⟨_, rfl, ls, _, rfl, .inl (SqL.of (s1 _ _ h3)), _, _, rfl, rfl, ?_⟩
      have elen : ((rest.map (·.1)).map V.str).length = rest.length := by rw [List.length_map, List.length_map]
      rw [elen]
      refine ⟨_, rfl, by omega, by omega, for_range (lo := 0) (n := (((rest.length : Nat) : Int) + 1).toNat) (fun i σ H' => Same H H' ∧ ∃ (lf : Addr) (g : Nat) (o5 o6 : Option V), σ = [some (.ref la), some (.ref ls), some (.int ((5 - (n + 1) : Nat) : Int)), some (.ref lf), some (.int ((g : Nat) : Int)), o5, o6] ∧ H lf = none ∧ (HeldSt H' n a0 rest i g lf ∨ (i = rest.length + 1 ∧ H' lf = some (.lst ((hd (n + 1) a0 rest).map V.str))))) ?_ ?_ ?_⟩
      · exact ⟨s1, lf0, 0, _, _, rfl, hlf0, .inl ⟨a0, [], rfl, rfl, rfl, Nat.zero_le _, .inl ⟨rfl, k1, rfl⟩⟩⟩
      · rintro i σ H2 hi ⟨s2, lf, g, o5, o6, rfl, hlf, hst⟩
        have hi2 : i < rest.length + 1 := by omega
        rcases hst with hst | ⟨hst, _⟩
        rotate_left
        · omega
        obtain ⟨ca, cr, d1, d2, d3, d4, hst⟩ := hst
        have hpl := Paired.length h2
        rw [List.length_map, List.length_cons, List.length_map] at hpl
        have hca : AtOk ca := by
          have m : ca ∈ (a0 :: rest.map (·.2)) := List.mem_of_mem_drop (by rw [d1]; exact List.mem_cons_self ..)
          rcases List.mem_cons.mp m with e | m
          · rw [e]
            exact h4
          · obtain ⟨y, hy, e⟩ := List.mem_map.mp m
            rw [← e]
            exact h5 y hy
        have hcr : ∀ y ∈ cr, AtOk y.2 := fun y hy => h5 y (List.mem_of_mem_drop (i := g) (by rw [d2]; exact List.mem_append_left _ hy))
        have hdl := hd_len n ca cr hca hcr
        have pcut : Paired (fun p (ts : List Str) => H p = some (.lst (ts.map V.str))) ((ps.drop g).take (i + 1 - g)) ((ca :: cr.map (·.2)).map atT) := by
          have z := Paired.takeP (Paired.dropP h2 g) (i + 1 - g)
          rw [← List.map_drop, d1, ← List.map_take, show i + 1 - g = cr.length + 1 by omega, List.take_succ_cons, List.map_append, List.take_left' (by rw [List.length_map])] at z
          rw [show i + 1 - g = cr.length + 1 by omega]
          exact z
        have cutAt : cutV (ps.map V.ref) (some ((g : Nat) : Int)) (some (((i : Nat) : Int) + 1)) = ((ps.drop g).take (i + 1 - g)).map V.ref := by
          rw [show (((i : Nat) : Int) + 1) = ((i + 1 : Nat) : Int) from rfl, cutV_mid _ _ _ (by rw [List.length_map]; omega), List.map_take, List.map_drop]
        have cutCr : cutV ((rest.map (·.1)).map V.str) (some ((g : Nat) : Int)) (some ((i : Nat) : Int)) = (cr.map (·.1)).map V.str := by
          rw [cutV_mid _ _ _ (by rw [elen]; omega), ← List.map_drop, ← List.map_drop, d2, List.map_append, List.map_append, show i - g = cr.length by omega, List.take_left' (by rw [List.length_map, List.length_map])]
        have cutSg0 : cutV ((rest.map (·.1)).map V.str) (some ((i : Nat) : Int)) (some (((i : Nat) : Int) + 1)) = (((rest.drop i).take 1).map (·.1)).map V.str := by
          rw [show (((i : Nat) : Int) + 1) = ((i + 1 : Nat) : Int) from rfl, cutV_mid _ _ _ (by rw [elen]; omega), show i + 1 - i = 1 by omega, List.map_take, List.map_take, List.map_drop, List.map_drop]
        rw [Int.zero_add]
        refine ⟨_, rfl, _, rfl, ls, _, rfl, .inl (SqL.of (s2 _ _ h3)), rfl, _, rfl, ?_⟩
        rw [elen]
        rcases Nat.lt_or_ge i rest.length with hil | hil
        rotate_left
        · have hie : i = rest.length := by omega
          have hdr : rest.drop i = [] := List.drop_of_length_le (by omega)
          have cutSg : cutV ((rest.map (·.1)).map V.str) (some ((i : Nat) : Int)) (some (((i : Nat) : Int) + 1)) = (([] : List Str)).map V.str := by
            rw [cutSg0, hdr]
            rfl
          rw [decide_eq_true (show V.int ((i : Nat) : Int) = V.int ((rest.length : Nat) : Int) by rw [hie])]
          refine iteT (iteT ?_)
          have s3 := s2
          have sl : Same H2 H2 := fun _ _ y => y
          --«STEP 10
          refine ⟨_, rfl, _, rfl, _, rfl, _, rfl, _, _, rfl, rfl, _, rfl, la, _, rfl, SqL.of (s3 _ _ h1), fun la2 hla2 => ?_⟩
          rw [cutAt]
          have s4 := same_upd hla2 (.lst ((ps.drop g).take (i + 1 - g) |>.map V.ref))
          have k4 : (upd H2 la2 (.lst ((ps.drop g).take (i + 1 - g) |>.map V.ref))) la2 = some (.lst ((ps.drop g).take (i + 1 - g) |>.map V.ref)) := upd_same
          generalize upd H2 la2 (.lst ((ps.drop g).take (i + 1 - g) |>.map V.ref)) = H4 at s4 k4 ⊢
          refine ⟨_, rfl, _, rfl, _, rfl, _, rfl, _, rfl, ls, _, rfl, SqL.of (s4 _ _ (s3 _ _ h3)), fun ls2 hls2 => ?_⟩
          rw [cutCr]
          have s5 := same_upd hls2 (.lst ((cr.map (·.1)).map V.str))
          have k5 : (upd H4 ls2 (.lst ((cr.map (·.1)).map V.str))) ls2 = some (.lst ((cr.map (·.1)).map V.str)) := upd_same
          have k4' := s5 _ _ k4
          generalize upd H4 ls2 (.lst ((cr.map (·.1)).map V.str)) = H5 at s5 k5 k4' ⊢
          have s35 := s3.trans (s4.trans s5)
          refine ⟨_, rfl, _, _, rfl, rfl, la2, ls2, ca, cr, ?_, by omega, ⟨_, k4', Paired.mapP pcut fun _ _ z => s35 _ _ z⟩, k5, hca, hcr, by omega, fun lp H6 hlp s56 k6 => ?_⟩
          · show [V.ref la2, V.ref ls2, V.int (((5 - (n + 1) : Nat) : Int) + 1)] = _
            rw [show (((5 - (n + 1) : Nat) : Int) + 1) = ((5 - n : Nat) : Int) by omega]
          have s6 := s35.trans s56
          refine ⟨_, rfl, _, _, rfl, rfl, _, rfl, ?_⟩
          rcases hst with ⟨hg, hF1, OUT⟩ | ⟨hg, F, sg, hF1, hF2, OUT⟩
          · rw [show decide ((0 : Int) < ((g : Nat) : Int)) = false from decide_eq_false (by omega)]
            refine iteF ⟨_, rfl, ?_⟩
            refine ⟨_, rfl, _, rfl, _, rfl, _, rfl, _, rfl, _, _, rfl, rfl, _, rfl, ls, _, rfl, SqL.of (s6 _ _ h3), fun lz hlz => ?_⟩
            rw [cutSg]
            have s7 := same_upd hlz (.lst (([] : List Str).map V.str))
            have k7 : (upd H6 lz (.lst (([] : List Str).map V.str))) lz = some (.lst (([] : List Str).map V.str)) := upd_same
            have k6' := s7 _ _ k6
            generalize upd H6 lz (.lst (([] : List Str).map V.str)) = H7 at s7 k7 k6' ⊢
            refine ⟨lp, lz, _, _, rfl, rfl, k6', k7, ?_, fun lw hlw => ?_⟩
            · rw [List.length_map, List.length_map, sizeLine_eq]
              show (hd n ca cr).length + 0 ≤ _
              omega
            have s8 := same_upd hlw (.lst ((hd n ca cr).map V.str ++ ([] : List Str).map V.str))
            have k8 : (upd H7 lw (.lst ((hd n ca cr).map V.str ++ ([] : List Str).map V.str))) lw = some (.lst (((hd n ca cr) ++ ([] : List Str)).map V.str)) := by
              rw [upd_same, List.map_append]
            generalize upd H7 lw (.lst ((hd n ca cr).map V.str ++ ([] : List Str).map V.str)) = H8 at s8 k8 ⊢
            refine ⟨_, rfl, _, _, rfl, rfl, ?_⟩
            have s78 := s7.trans s8
            refine ⟨s6.trans s78, lw, i + 1, _, _, rfl, none_of (s6.trans s7) hlw, ?_⟩
            refine .inr ⟨by omega, ?_⟩
            rw [k8, List.append_nil, OUT, hdr]
            rfl
          · rw [show decide ((0 : Int) < ((g : Nat) : Int)) = true from decide_eq_true (by omega)]
            refine iteT ⟨(by show 1 ≤ sizeLine; decide), fun q1 hq1 => ?_⟩
            have u1 := same_upd hq1 (.lst [.str "("])
            have v1 : (upd H6 q1 (.lst [.str "("])) q1 = some (.lst [.str "("]) := upd_same
            show tVar _ _ (upd H6 q1 (.lst [.str "("])) _
            generalize upd H6 q1 (.lst [.str "("]) = G1 at u1 v1 ⊢
            refine ⟨_, rfl, q1, lf, _, _, rfl, rfl, v1, u1 _ _ (s56 _ _ (s5 _ _ (s4 _ _ (sl _ _ hF1)))), ?_, fun q2 hq2 => ?_⟩
            · rw [List.length_map, List.length_append, sizeLine_eq]
              show 1 + (F.length + 1) ≤ _
              omega
            have u2 := same_upd hq2 (.lst ([.str "("] ++ (F ++ [sg]).map V.str))
            have v2 : (upd G1 q2 (.lst ([.str "("] ++ (F ++ [sg]).map V.str))) q2 = some (.lst ([.str "("] ++ (F ++ [sg]).map V.str)) := upd_same
            generalize upd G1 q2 (.lst ([.str "("] ++ (F ++ [sg]).map V.str)) = G2 at u2 v2 ⊢
            refine ⟨_, rfl, q2, lp, _, _, rfl, rfl, v2, u2 _ _ (u1 _ _ k6), ?_, fun q3 hq3 => ?_⟩
            · rw [List.length_append, List.length_map, List.length_map, List.length_append, sizeLine_eq]
              show 1 + (F.length + 1) + (hd n ca cr).length ≤ _
              omega
            have u3 := same_upd hq3 (.lst (([.str "("] ++ (F ++ [sg]).map V.str) ++ (hd n ca cr).map V.str))
            have v3 : (upd G2 q3 (.lst (([.str "("] ++ (F ++ [sg]).map V.str) ++ (hd n ca cr).map V.str))) q3 = some (.lst (([.str "("] ++ (F ++ [sg]).map V.str) ++ (hd n ca cr).map V.str)) := upd_same
            generalize upd G2 q3 (.lst (([.str "("] ++ (F ++ [sg]).map V.str) ++ (hd n ca cr).map V.str)) = G3 at u3 v3 ⊢
            refine ⟨(by show 1 ≤ sizeLine; decide), fun q4 hq4 => ?_⟩
            have u4 := same_upd hq4 (.lst [.str ")"])
            have v4 : (upd G3 q4 (.lst [.str ")"])) q4 = some (.lst [.str ")"]) := upd_same
            have v3' := u4 _ _ v3
            show rCat _ _ (upd G3 q4 (.lst [.str ")"])) _
            generalize upd G3 q4 (.lst [.str ")"]) = G4 at u4 v4 v3' ⊢
            refine ⟨q3, q4, _, _, rfl, rfl, v3', v4, ?_, fun q5 hq5 => ?_⟩
            · rw [List.length_append, List.length_append, List.length_map, List.length_map, List.length_append, sizeLine_eq]
              show 1 + (F.length + 1) + (hd n ca cr).length + 1 ≤ _
              omega
            have u5 := same_upd hq5 (.lst ((([.str "("] ++ (F ++ [sg]).map V.str) ++ (hd n ca cr).map V.str) ++ [.str ")"]))
            have v5 : (upd G4 q5 (.lst ((([.str "("] ++ (F ++ [sg]).map V.str) ++ (hd n ca cr).map V.str) ++ [.str ")"]))) q5 = some (.lst ((brT F sg (hd n ca cr)).map V.str)) := by
              rw [upd_same]
              simp [brT]
            have s6 := s6.trans (u1.trans (u2.trans (u3.trans (u4.trans u5))))
            have k6 := v5
            have hbl := brT_len F sg (hd n ca cr)
            generalize upd G4 q5 (.lst ((([.str "("] ++ (F ++ [sg]).map V.str) ++ (hd n ca cr).map V.str) ++ [.str ")"])) = H6 at s6 k6 ⊢
            refine ⟨_, rfl, _, rfl, _, rfl, _, rfl, _, rfl, _, _, rfl, rfl, _, rfl, ls, _, rfl, SqL.of (s6 _ _ h3), fun lz hlz => ?_⟩
            rw [cutSg]
            have s7 := same_upd hlz (.lst (([] : List Str).map V.str))
            have k7 : (upd H6 lz (.lst (([] : List Str).map V.str))) lz = some (.lst (([] : List Str).map V.str)) := upd_same
            have k6' := s7 _ _ k6
            generalize upd H6 lz (.lst (([] : List Str).map V.str)) = H7 at s7 k7 k6' ⊢
            refine ⟨q5, lz, _, _, rfl, rfl, k6', k7, ?_, fun lw hlw => ?_⟩
            · rw [List.length_map, List.length_map, sizeLine_eq]
              show (brT F sg (hd n ca cr)).length + 0 ≤ _
              omega
            have s8 := same_upd hlw (.lst ((brT F sg (hd n ca cr)).map V.str ++ ([] : List Str).map V.str))
            have k8 : (upd H7 lw (.lst ((brT F sg (hd n ca cr)).map V.str ++ ([] : List Str).map V.str))) lw = some (.lst (((brT F sg (hd n ca cr)) ++ ([] : List Str)).map V.str)) := by
              rw [upd_same, List.map_append]
            generalize upd H7 lw (.lst ((brT F sg (hd n ca cr)).map V.str ++ ([] : List Str).map V.str)) = H8 at s8 k8 ⊢
            refine ⟨_, rfl, _, _, rfl, rfl, ?_⟩
            have s78 := s7.trans s8
            refine ⟨s6.trans s78, lw, i + 1, _, _, rfl, none_of (s6.trans s7) hlw, ?_⟩
            refine .inr ⟨by omega, ?_⟩
            rw [k8, List.append_nil, OUT, hdr]
            rfl
--STEP»
        · obtain ⟨⟨s', a'⟩, hri⟩ : ∃ y, rest[i]? = some y := ⟨_, List.getElem?_eq_getElem hil⟩
          have hdr : rest.drop i = (s', a') :: rest.drop (i + 1) := by
            obtain ⟨z1, z2⟩ := List.getElem?_eq_some_iff.mp hri
            rw [List.drop_eq_getElem_cons z1, z2]
          have hdr2 : rest.drop (i + 1) = rest.drop (i + 1) := rfl
          have cutSg : cutV ((rest.map (·.1)).map V.str) (some ((i : Nat) : Int)) (some (((i : Nat) : Int) + 1)) = ([s']).map V.str := by
            rw [cutSg0, hdr]
            rfl
          rw [decide_eq_false (show ¬ V.int ((i : Nat) : Int) = V.int ((rest.length : Nat) : Int) from fun z => by
            have := V.int.inj z
            omega)]
          refine iteF ?_
          refine ⟨_, rfl, _, rfl, ls, _, _, _, rfl, rfl, SqL.of (s2 _ _ h3), atI_nat (j := i) (show ((rest.map (·.1)).map V.str)[i]? = some (.str s') by rw [List.getElem?_map, List.getElem?_map, hri]; rfl), _, rfl, 5 - (n + 1), rfl, by omega, fun rs H3 hrs sl k3 => ?_⟩
          have s3 := s2.trans sl
          rw [show 5 - (n + 1) = 4 - n by omega] at k3
          refine ⟨rs, _, rfl, .inl (SqL.of k3), rfl, List.all_eq_true.mpr fun x hx => by
            obtain ⟨y, _, rfl⟩ := List.mem_map.mp hx
            rfl, _, rfl, ?_⟩
          show if (inV (V.str s') ((lev (4 - n)).map V.str)) = true then _ else _
          rw [inV_str]
          by_cases hmem : s' ∈ lev (4 - n)
          · rw [decide_eq_true hmem]
            refine iteT ?_
            --«SGN 12
            refine ⟨_, rfl, _, rfl, _, rfl, _, rfl, _, _, rfl, rfl, _, rfl, la, _, rfl, SqL.of (s3 _ _ h1), fun la2 hla2 => ?_⟩
            rw [cutAt]
            have s4 := same_upd hla2 (.lst ((ps.drop g).take (i + 1 - g) |>.map V.ref))
            have k4 : (upd H3 la2 (.lst ((ps.drop g).take (i + 1 - g) |>.map V.ref))) la2 = some (.lst ((ps.drop g).take (i + 1 - g) |>.map V.ref)) := upd_same
            generalize upd H3 la2 (.lst ((ps.drop g).take (i + 1 - g) |>.map V.ref)) = H4 at s4 k4 ⊢
            refine ⟨_, rfl, _, rfl, _, rfl, _, rfl, _, rfl, ls, _, rfl, SqL.of (s4 _ _ (s3 _ _ h3)), fun ls2 hls2 => ?_⟩
            rw [cutCr]
            have s5 := same_upd hls2 (.lst ((cr.map (·.1)).map V.str))
            have k5 : (upd H4 ls2 (.lst ((cr.map (·.1)).map V.str))) ls2 = some (.lst ((cr.map (·.1)).map V.str)) := upd_same
            have k4' := s5 _ _ k4
            generalize upd H4 ls2 (.lst ((cr.map (·.1)).map V.str)) = H5 at s5 k5 k4' ⊢
            have s35 := s3.trans (s4.trans s5)
            refine ⟨_, rfl, _, _, rfl, rfl, la2, ls2, ca, cr, ?_, by omega, ⟨_, k4', Paired.mapP pcut fun _ _ z => s35 _ _ z⟩, k5, hca, hcr, by omega, fun lp H6 hlp s56 k6 => ?_⟩
            · show [V.ref la2, V.ref ls2, V.int (((5 - (n + 1) : Nat) : Int) + 1)] = _
              rw [show (((5 - (n + 1) : Nat) : Int) + 1) = ((5 - n : Nat) : Int) by omega]
            have s6 := s35.trans s56
            refine ⟨_, rfl, _, _, rfl, rfl, _, rfl, ?_⟩
            rcases hst with ⟨hg, hF1, OUT⟩ | ⟨hg, F, sg, hF1, hF2, OUT⟩
            · rw [show decide ((0 : Int) < ((g : Nat) : Int)) = false from decide_eq_false (by omega)]
              refine iteF ⟨_, rfl, ?_⟩
              refine ⟨_, rfl, _, rfl, _, rfl, _, rfl, _, rfl, _, _, rfl, rfl, _, rfl, ls, _, rfl, SqL.of (s6 _ _ h3), fun lz hlz => ?_⟩
              rw [cutSg]
              have s7 := same_upd hlz (.lst ([s'].map V.str))
              have k7 : (upd H6 lz (.lst ([s'].map V.str))) lz = some (.lst ([s'].map V.str)) := upd_same
              have k6' := s7 _ _ k6
              generalize upd H6 lz (.lst ([s'].map V.str)) = H7 at s7 k7 k6' ⊢
              refine ⟨lp, lz, _, _, rfl, rfl, k6', k7, ?_, fun lw hlw => ?_⟩
              · rw [List.length_map, List.length_map, sizeLine_eq]
                show (hd n ca cr).length + 1 ≤ _
                omega
              have s8 := same_upd hlw (.lst ((hd n ca cr).map V.str ++ [s'].map V.str))
              have k8 : (upd H7 lw (.lst ((hd n ca cr).map V.str ++ [s'].map V.str))) lw = some (.lst (((hd n ca cr) ++ [s']).map V.str)) := by
                rw [upd_same, List.map_append]
              generalize upd H7 lw (.lst ((hd n ca cr).map V.str ++ [s'].map V.str)) = H8 at s8 k8 ⊢
              refine ⟨_, rfl, _, _, rfl, rfl, ?_⟩
              have s78 := s7.trans s8
              refine ⟨s6.trans s78, lw, i + 1, _, _, rfl, none_of (s6.trans s7) hlw, ?_⟩
              refine .inl ⟨a', [], ?_, rfl, by show 0 + (i + 1) = i + 1; omega, by omega, .inr ⟨by omega, (hd n ca cr), s', k8, by omega, ?_⟩⟩
              · show (rest.map (·.2)).drop i = _
                rw [← List.map_drop, hdr, hdr2]
                rfl
              rw [OUT, hdr, hdr2]
              exact if_pos hmem
            · rw [show decide ((0 : Int) < ((g : Nat) : Int)) = true from decide_eq_true (by omega)]
              refine iteT ⟨(by show 1 ≤ sizeLine; decide), fun q1 hq1 => ?_⟩
              have u1 := same_upd hq1 (.lst [.str "("])
              have v1 : (upd H6 q1 (.lst [.str "("])) q1 = some (.lst [.str "("]) := upd_same
              show tVar _ _ (upd H6 q1 (.lst [.str "("])) _
              generalize upd H6 q1 (.lst [.str "("]) = G1 at u1 v1 ⊢
              refine ⟨_, rfl, q1, lf, _, _, rfl, rfl, v1, u1 _ _ (s56 _ _ (s5 _ _ (s4 _ _ (sl _ _ hF1)))), ?_, fun q2 hq2 => ?_⟩
              · rw [List.length_map, List.length_append, sizeLine_eq]
                show 1 + (F.length + 1) ≤ _
                omega
              have u2 := same_upd hq2 (.lst ([.str "("] ++ (F ++ [sg]).map V.str))
              have v2 : (upd G1 q2 (.lst ([.str "("] ++ (F ++ [sg]).map V.str))) q2 = some (.lst ([.str "("] ++ (F ++ [sg]).map V.str)) := upd_same
              generalize upd G1 q2 (.lst ([.str "("] ++ (F ++ [sg]).map V.str)) = G2 at u2 v2 ⊢
              refine ⟨_, rfl, q2, lp, _, _, rfl, rfl, v2, u2 _ _ (u1 _ _ k6), ?_, fun q3 hq3 => ?_⟩
              · rw [List.length_append, List.length_map, List.length_map, List.length_append, sizeLine_eq]
                show 1 + (F.length + 1) + (hd n ca cr).length ≤ _
                omega
              have u3 := same_upd hq3 (.lst (([.str "("] ++ (F ++ [sg]).map V.str) ++ (hd n ca cr).map V.str))
              have v3 : (upd G2 q3 (.lst (([.str "("] ++ (F ++ [sg]).map V.str) ++ (hd n ca cr).map V.str))) q3 = some (.lst (([.str "("] ++ (F ++ [sg]).map V.str) ++ (hd n ca cr).map V.str)) := upd_same
              generalize upd G2 q3 (.lst (([.str "("] ++ (F ++ [sg]).map V.str) ++ (hd n ca cr).map V.str)) = G3 at u3 v3 ⊢
              refine ⟨(by show 1 ≤ sizeLine; decide), fun q4 hq4 => ?_⟩
              have u4 := same_upd hq4 (.lst [.str ")"])
              have v4 : (upd G3 q4 (.lst [.str ")"])) q4 = some (.lst [.str ")"]) := upd_same
              have v3' := u4 _ _ v3
              show rCat _ _ (upd G3 q4 (.lst [.str ")"])) _
              generalize upd G3 q4 (.lst [.str ")"]) = G4 at u4 v4 v3' ⊢
              refine ⟨q3, q4, _, _, rfl, rfl, v3', v4, ?_, fun q5 hq5 => ?_⟩
              · rw [List.length_append, List.length_append, List.length_map, List.length_map, List.length_append, sizeLine_eq]
                show 1 + (F.length + 1) + (hd n ca cr).length + 1 ≤ _
                omega
              have u5 := same_upd hq5 (.lst ((([.str "("] ++ (F ++ [sg]).map V.str) ++ (hd n ca cr).map V.str) ++ [.str ")"]))
              have v5 : (upd G4 q5 (.lst ((([.str "("] ++ (F ++ [sg]).map V.str) ++ (hd n ca cr).map V.str) ++ [.str ")"]))) q5 = some (.lst ((brT F sg (hd n ca cr)).map V.str)) := by
                rw [upd_same]
                simp [brT]
              have s6 := s6.trans (u1.trans (u2.trans (u3.trans (u4.trans u5))))
              have k6 := v5
              have hbl := brT_len F sg (hd n ca cr)
              generalize upd G4 q5 (.lst ((([.str "("] ++ (F ++ [sg]).map V.str) ++ (hd n ca cr).map V.str) ++ [.str ")"])) = H6 at s6 k6 ⊢
              refine ⟨_, rfl, _, rfl, _, rfl, _, rfl, _, rfl, _, _, rfl, rfl, _, rfl, ls, _, rfl, SqL.of (s6 _ _ h3), fun lz hlz => ?_⟩
              rw [cutSg]
              have s7 := same_upd hlz (.lst ([s'].map V.str))
              have k7 : (upd H6 lz (.lst ([s'].map V.str))) lz = some (.lst ([s'].map V.str)) := upd_same
              have k6' := s7 _ _ k6
              generalize upd H6 lz (.lst ([s'].map V.str)) = H7 at s7 k7 k6' ⊢
              refine ⟨q5, lz, _, _, rfl, rfl, k6', k7, ?_, fun lw hlw => ?_⟩
              · rw [List.length_map, List.length_map, sizeLine_eq]
                show (brT F sg (hd n ca cr)).length + 1 ≤ _
                omega
              have s8 := same_upd hlw (.lst ((brT F sg (hd n ca cr)).map V.str ++ [s'].map V.str))
              have k8 : (upd H7 lw (.lst ((brT F sg (hd n ca cr)).map V.str ++ [s'].map V.str))) lw = some (.lst (((brT F sg (hd n ca cr)) ++ [s']).map V.str)) := by
                rw [upd_same, List.map_append]
              generalize upd H7 lw (.lst ((brT F sg (hd n ca cr)).map V.str ++ [s'].map V.str)) = H8 at s8 k8 ⊢
              refine ⟨_, rfl, _, _, rfl, rfl, ?_⟩
              have s78 := s7.trans s8
              refine ⟨s6.trans s78, lw, i + 1, _, _, rfl, none_of (s6.trans s7) hlw, ?_⟩
              refine .inl ⟨a', [], ?_, rfl, by show 0 + (i + 1) = i + 1; omega, by omega, .inr ⟨by omega, (brT F sg (hd n ca cr)), s', k8, by omega, ?_⟩⟩
              · show (rest.map (·.2)).drop i = _
                rw [← List.map_drop, hdr, hdr2]
                rfl
              rw [OUT, hdr, hdr2]
              exact if_pos hmem
--SGN»
          · rw [decide_eq_false hmem]
            refine iteF ⟨s3, lf, g, _, _, rfl, hlf, .inl ⟨ca, cr ++ [(s', a')], ?_, ?_, ?_, by omega, ?_⟩⟩
            · rw [d1, hdr, List.append_assoc]
              rfl
            · rw [d2, hdr, List.append_assoc]
              rfl
            · rw [List.length_append]
              show cr.length + 1 + g = i + 1
              omega
            · rcases hst with ⟨x1, x2, x3⟩ | ⟨x1, F, sg, x2, x3, x4⟩
              · refine .inl ⟨x1, sl _ _ x2, ?_⟩
                rw [x3, hdr]
                exact if_neg hmem
              · refine .inr ⟨x1, F, sg, sl _ _ x2, x3, ?_⟩
                rw [x4, hdr]
                exact if_neg hmem
      · rintro σ H2 ⟨s2, lf, g, o5, o6, rfl, hlf, hst⟩
        rcases hst with ⟨ca, cr, d1, d2, d3, d4, hst⟩ | ⟨hst, h8⟩
        · omega
        · exact ⟨_, rfl, q lf H2 hlf s2 h8⟩
theorem ok_held (T : Top w K mg) : ∀ n, GOk P w K mg base CX0 (2 + n) "_law_held" ["_law_atoms", "_law_signs_here", "_law_level"] (spHeld K n)
  | 0 => ok_held0 T 0 fun m h => nomatch h
  | n + 1 => ok_held0 T (n + 1) fun m h => by
    cases h
    exact ok_held T n
end
end Bp

/-! text: L6 -/
set_option Elab.async false
set_option linter.all false
set_option maxRecDepth 100000
set_option maxHeartbeats 4000000
/-! the law's own defs: sixteen -/
namespace Bp
open PySem PySem.Spec PyProof.Rows L2
theorem hex_fold : ∀ (l : List Nat) (a : Nat), l.foldl (fun a c => a * 16 + Hx.hv c) a = a * 16 ^ l.length + l.foldl (fun a c => a * 16 + Hx.hv c) 0
  | [], a => by simp
  | c :: l, a => by
    rw [List.foldl_cons, List.foldl_cons, hex_fold l (a * 16 + Hx.hv c), hex_fold l (0 * 16 + Hx.hv c), List.length_cons, Nat.pow_succ]
    rw [Nat.add_mul, Nat.zero_mul, Nat.zero_add, Nat.mul_assoc, Nat.mul_comm (16 ^ l.length) 16, Nat.add_assoc]
theorem hex_cons (c : Nat) (l : List Nat) : Hx.hexNum (c :: l) = Hx.hv c * 16 ^ l.length + Hx.hexNum l := by
  show l.foldl (fun a c => a * 16 + Hx.hv c) (0 * 16 + Hx.hv c) = _
  rw [hex_fold, Nat.zero_mul, Nat.zero_add]
  rfl
def hexC : List Nat := [48, 49, 50, 51, 52, 53, 54, 55, 56, 57, 97, 98, 99, 100, 101, 102]
theorem hex_at (j : Nat) (h : j < 16) : ∃ c, hexC[j]? = some c ∧ ((48 ≤ c ∧ c ≤ 57) ∨ (97 ≤ c ∧ c ≤ 102)) ∧ Hx.hv c = j := by
  have all : ((List.range 16).all fun j => match hexC[j]? with
    | some c => decide (((48 ≤ c ∧ c ≤ 57) ∨ (97 ≤ c ∧ c ≤ 102)) ∧ Hx.hv c = j)
    | none => false) = true := by decide +kernel
  have z := List.all_eq_true.mp all j (List.mem_range.mpr h)
  cases e : hexC[j]? with
  | none =>
    rw [e] at z
    cases z
  | some c =>
    rw [e] at z
    exact ⟨c, rfl, of_decide_eq_true z⟩
theorem strN_cons (c : Nat) (l : List Nat) : (⟨#[c]⟩ : Str) ++ strN l = strN (c :: l) := TL.ext_tl (by
  rw [TL.tl_append]
  rfl)
theorem hex_step {v x : Nat} {l : List Nat} {c : Nat} (h : x * 16 ^ l.length + Hx.hexNum l = v) (hc : Hx.hv c = x % 16) : x / 16 * 16 ^ (c :: l).length + Hx.hexNum (c :: l) = v := by
  rw [hex_cons, hc, List.length_cons, Nat.pow_succ, ← h, Nat.mul_comm (16 ^ l.length) 16, ← Nat.mul_assoc, ← Nat.add_assoc, ← Nat.add_mul, Nat.mul_comm (x / 16) 16, Nat.div_add_mod]
theorem hex_lt {x k : Nat} (h : x < 16 ^ (15 - k)) (hk : k < 15) : x / 16 < 16 ^ (15 - (k + 1)) := by
  rw [Nat.div_lt_iff_lt_mul (by decide), ← Nat.pow_succ, show (15 - (k + 1)).succ = 15 - k by omega]
  exact h
section
variable {P : Program} {w : World} {K : PySem.W.Frag} {mg : Str → Option Value} {base : Heap}
def spSixteen : Sp := fun vs H Q _ => ∃ v : Nat, vs = [.int (v : Int)] ∧ v < 10 ^ 18 ∧ ∀ l : List Nat, l ≠ [] → l.length ≤ 20 → (∀ c ∈ l, (48 ≤ c ∧ c ≤ 57) ∨ (97 ≤ c ∧ c ≤ 102)) → Hx.hexNum l = v → Q (.str (strN l)) H
def SxW (v : Nat) (H : Hp) (m : Nat) (σ : L2.St) (H' : Hp) : Prop := ∃ (l : List Nat) (x : Nat), σ = [some (.int (x : Int)), some (.str (strN l))] ∧ H' = H ∧ m = 15 - l.length ∧ l.length ≤ 15 ∧ x * 16 ^ l.length + Hx.hexNum l = v ∧ x < 16 ^ (15 - l.length) ∧ ∀ c ∈ l, (48 ≤ c ∧ c ≤ 57) ∨ (97 ≤ c ∧ c ≤ 102)
theorem sc_law_sixteen : FnScope ["_law_line", "_law_found"] ["_law_line"] (defScope s_law_sixteen) := ⟨rfl, rfl, rfl, by decide +kernel, rfl, by decide +kernel, by decide +kernel⟩
theorem ok_sixteen (T : Top w K mg) : GOk P w K mg base CX0 1 "_law_sixteen" ["_law_line"] spSixteen := by
  obtain ⟨fd, F⟩ := T.f_law_sixteen
  refine ⟨_, fd, T.g_law_sixteen, F.kp, F.bindsN fun _ _ _ _ _ _ us hl => match us, hl with | [_], _ => rfl, ok0 F sc_law_sixteen (fun vs H Q E h => ?_) (fun cdv A outer s H vs Q E hr h => ?_)⟩
  · obtain ⟨v, rfl, _⟩ := h
    rfl
  · obtain ⟨v, rfl, hv, q⟩ := h
    refine ⟨_, (pss_cons (ps_set (i := 1) sc_law_sixteen.nd rfl (Or.inl rfl) pe_str)
      (pss_cons (ps_while PassesOwn.never (PW.pt (pw_or (pt_cmpR op_gt (pv 0) pe_int (nomark _)) (pw_or1 (pt_cmpR op_eq (pv 1) pe_str (nomark _)))))
        (pss_cons (ps_set (i := 1) sc_law_sixteen.nd rfl (Or.inl rfl) (pe_op op_add_str (pe_ix ix_str pe_str (pe_op op_mod (pv 0) pe_int) (fun _ _ => rfl)) (pv 1)))
      (pss_one (ps_set (i := 0) sc_law_sixteen.nd rfl (Or.inl rfl) (pe_op op_fdivW (pv 0) pe_int)))))
      (pss_one (ps_ret (pv 1))))), ?_⟩
    refine ⟨SxW v H, ⟨_, [], v, rfl, rfl, rfl, Nat.zero_le _, by show v * 16 ^ 0 + 0 = v; omega, Nat.lt_trans hv (by decide), fun _ h => nomatch h⟩, ?_⟩
    rintro m σ H' ⟨l, x, rfl, rfl, rfl, hl, hx, hxl, hc⟩
    have dS : ∀ {a b : Str}, a = b → decide (V.str a = V.str b) = true := fun z => decide_eq_true (congrArg V.str z)
    have dN : ∀ {a b : Str}, ¬ a = b → decide (V.str a = V.str b) = false := fun z => decide_eq_false fun y => z (V.str.inj y)
    refine ⟨_, rfl, _, _, rfl, rfl, _, rfl, ?_⟩
    by_cases hx0 : (0 : Int) < (x : Int)
    · rw [decide_eq_true hx0]
      have hlt : l.length < 15 := by
        rcases Nat.lt_or_ge l.length 15 with z | z
        · exact z
        · rw [show 15 - l.length = 0 by omega] at hxl
          have : x < 1 := hxl
          omega
      refine iteT (iteT ⟨fun σ' H'' => ∃ m', m' < 15 - l.length ∧ SxW v H' m' σ' H'', fun _ _ h => h, ?_⟩)
      obtain ⟨c, c1, c2, c3⟩ := hex_at (x % 16) (Nat.mod_lt _ (by decide))
      refine ⟨_, rfl, _, _, rfl, rfl, (by show (0 : Int) < 16; decide), _, _, c, rfl, rfl, by decide +kernel, atI_nat (j := x % 16) (by rw [show ("0123456789abcdef" : Str).cps.toList = hexC by decide +kernel]; exact c1), ?_⟩
      refine ⟨_, rfl, _, _, rfl, rfl, ?_, ?_⟩
      · rw [len_codes (strN l), sizeLine_eq]
        show 1 + l.length ≤ _
        omega
      rw [strN_cons]
      refine ⟨_, rfl, _, _, rfl, rfl, ⟨by decide, by decide⟩, ?_⟩
      exact ⟨15 - (l.length + 1), by omega, c :: l, x / 16, rfl, rfl, rfl, by show l.length + 1 ≤ 15; omega, hex_step hx c3, hex_lt hxl hlt, fun d hd => by
        rcases List.mem_cons.mp hd with rfl | hd
        · exact c2
        · exact hc d hd⟩
    · rw [decide_eq_false hx0]
      refine iteF ⟨_, rfl, rfl, _, rfl, ?_⟩
      have hxz : x = 0 := by omega
      cases l with
      | nil =>
        rw [dS (show strN [] = Str.ofString "" by decide +kernel)]
        have hlt : ([] : List Nat).length < 15 := by decide
        generalize hl0 : ([] : List Nat) = l at *
        refine iteT ⟨fun σ' H'' => ∃ m', m' < 15 - l.length ∧ SxW v H' m' σ' H'', fun _ _ h => h, ?_⟩
        obtain ⟨c, c1, c2, c3⟩ := hex_at (x % 16) (Nat.mod_lt _ (by decide))
        refine ⟨_, rfl, _, _, rfl, rfl, (by show (0 : Int) < 16; decide), _, _, c, rfl, rfl, by decide +kernel, atI_nat (j := x % 16) (by rw [show ("0123456789abcdef" : Str).cps.toList = hexC by decide +kernel]; exact c1), ?_⟩
        refine ⟨_, rfl, _, _, rfl, rfl, ?_, ?_⟩
        · rw [len_codes (strN l), sizeLine_eq]
          show 1 + l.length ≤ _
          omega
        rw [strN_cons]
        refine ⟨_, rfl, _, _, rfl, rfl, ⟨by decide, by decide⟩, ?_⟩
        exact ⟨15 - (l.length + 1), by omega, c :: l, x / 16, rfl, rfl, rfl, by show l.length + 1 ≤ 15; omega, hex_step hx c3, hex_lt hxl hlt, fun d hd => by
          rcases List.mem_cons.mp hd with rfl | hd
          · exact c2
          · exact hc d hd⟩
      | cons c l =>
        rw [dN (show ¬ strN (c :: l) = Str.ofString "" from fun z => by
          have := congrArg Str.length z
          rw [len_codes] at this
          exact absurd this (by show ¬ (l.length + 1 = 0); omega))]
        refine iteF ⟨_, rfl, q (c :: l) (by simp) (by omega) hc ?_⟩
        rw [hxz] at hx
        rw [← hx, Nat.zero_mul, Nat.zero_add]
end
end Bp

/-! text: L7 -/
set_option Elab.async false
set_option linter.all false
set_option maxRecDepth 100000
set_option maxHeartbeats 4000000
/-! the law's own defs: other -/
namespace Bp
open PySem PySem.Spec PyProof.Rows L2
theorem nodigit_sgs {s : Str} (h : s ∈ sgs) : Txt.isdigit s = false := by
  have all : (sgs.all fun s => !Txt.isdigit s) = true := by decide +kernel
  have z := List.all_eq_true.mp all s h
  simpa using z
theorem digit_dec (v : Nat) : Txt.isdigit (dec v) = true := by
  have all : ((List.range 10).all fun d => Unicode.isDigit (48 + d)) = true := by decide +kernel
  have h1 : ∀ c ∈ (dec v).cps.toList, Unicode.isDigit c = true := fun c hc => by
    rw [dec_cps] at hc
    have z := TL.numL_digits v c hc
    have y := List.all_eq_true.mp all (c - 48) (List.mem_range.mpr (by omega))
    rw [show 48 + (c - 48) = c by omega] at y
    exact y
  have h2 : (dec v).length > 0 := by
    rw [len_codes, dec_cps]
    exact List.length_pos_iff.mpr (TL.numL_ne v)
  show (decide ((dec v).length > 0) && (dec v).cps.all Unicode.isDigit) = true
  rw [decide_eq_true h2, Bool.true_and, ← Array.all_toList, List.all_eq_true]
  exact h1
theorem num_00 {v : Nat} (h : v < 10 ^ 18) : NumT ("00" ++ dec v) v := by
  have e : ("00" ++ dec v).cps.toList = 48 :: 48 :: TL.numL v := by
    show TL.tl (_ ++ _) = _
    rw [TL.tl_append, show TL.tl (dec v) = TL.numL v from dec_cps v, show TL.tl ("00" : Str) = [48, 48] by decide +kernel]
    rfl
  have hl := TL.numL_len (k := 18) (by decide) h
  refine .inl ⟨by rw [e]; simp, ?_, ?_, ?_, ?_⟩
  · rw [e]
    intro c hc
    rcases List.mem_cons.mp hc with rfl | hc
    · omega
    rcases List.mem_cons.mp hc with rfl | hc
    · omega
    · exact TL.numL_digits v c hc
  · rw [len_codes, e]
    show (TL.numL v).length + 1 + 1 ≤ 30
    omega
  · rw [e]
    exact TL.numL_val v
  · rw [e]
    intro z
    exact absurd (show ([48, 48] : List Nat) = [48, 120] from z) (by decide)
theorem num_0x {v : Nat} {l : List Nat} (h1 : l ≠ []) (h2 : l.length ≤ 20) (h3 : ∀ c ∈ l, (48 ≤ c ∧ c ≤ 57) ∨ (97 ≤ c ∧ c ≤ 102)) (h4 : Hx.hexNum l = v) : NumT ("0x" ++ strN l) v := by
  refine .inr ⟨l, ?_, h1, h2, h3, h4⟩
  show TL.tl (_ ++ _) = _
  rw [TL.tl_append, show TL.tl ("0x" : Str) = [48, 120] by decide +kernel]
  rfl
theorem pm_of {v : Nat} (h : v < 3) : "p" ++ dec v = "p0" ∧ v = 0 ∨ "p" ++ dec v = "p1" ∧ v = 1 ∨ "p" ++ dec v = "p2" ∧ v = 2 := by
  match v, h with
  | 0, _ => exact .inl ⟨by decide +kernel, rfl⟩
  | 1, _ => exact .inr (.inl ⟨by decide +kernel, rfl⟩)
  | 2, _ => exact .inr (.inr ⟨by decide +kernel, rfl⟩)
theorem oth_fin {H H2 : Hp} {p lf : Addr} {m : Nat} {ws : List Str} (sb : SameBut p H H2) (hp : PuAt H2 p m) (nf : lf ≠ p) (hlf : H lf = none) (f1 : H2 lf = some (.lst (ws.map V.str))) (xs : List Str) :
    SameBut p H (upd H2 lf (.lst (ws.map V.str ++ xs.map V.str))) ∧ PuAt (upd H2 lf (.lst (ws.map V.str ++ xs.map V.str))) p m ∧ (upd H2 lf (.lst (ws.map V.str ++ xs.map V.str))) lf = some (.lst ((ws ++ xs).map V.str)) := by
  have s := but_upd (H := H2) lf (.lst (ws.map V.str ++ xs.map V.str))
  refine ⟨fun b o hb q => s _ _ (ne_of_none q hlf) (sb b o hb q), ?_, by rw [upd_same, List.map_append]⟩
  obtain ⟨y1, y2, y3, y4, y5⟩ := hp
  exact ⟨y1, y2, y3, s _ _ nf.symm y4, y5⟩
section
variable {P : Program} {w : World} {K : PySem.W.Frag} {mg : Str → Option Value} {base : Heap}
def spOther (K : PySem.W.Frag) : Sp := fun vs H Q _ => ∃ (p l : Addr) (n : Nat) (us : List Str), vs = [.ref p, .ref l] ∧ PuAt H p n ∧ n + us.length < 2 ^ 30 ∧ H l = some (.lst (us.map V.str)) ∧ l ≠ p ∧ Sm us ∧ us.length ≤ 1000 ∧
  ∀ (r : Addr) (ws : List Str) (H' : Hp), H r = none → SameBut p H H' → PuAt H' p (n + us.length) → H' r = some (.lst (ws.map V.str)) → OthR us ws → Q (.ref r) H'
theorem sc_law_other : FnScope ["_law_purse_here", "_law_texts", "_law_found", "_law_text", "_law_way"] ["_law_purse_here", "_law_texts"] (defScope s_law_other) := ⟨rfl, rfl, rfl, by decide +kernel, rfl, by decide +kernel, by decide +kernel⟩
theorem ok_other (T : Top w K mg) : GOk P w K mg base CX0 2 "_law_other" ["_law_purse_here", "_law_texts"] (spOther K) := by
  obtain ⟨fd, F⟩ := T.f_law_other
  refine ⟨_, fd, T.g_law_other, F.kp, F.bindsN fun _ _ _ _ _ _ us hl => match us, hl with | [_, _], _ => rfl, ok0 F sc_law_other (fun vs H Q E h => ?_) (fun cdv A outer s H vs Q E hr h => ?_)⟩
  · obtain ⟨p, l, n, us, rfl, _⟩ := h
    rfl
  · obtain ⟨p, l, n, us, rfl, hp, hn, h1, hlp, hsm, hul, q⟩ := h
    have g_law_take := ok_take (P := P) (base := base) T
    have g_law_sixteen := ok_sixteen (P := P) (base := base) T
    refine ⟨_, (pss_cons (ps_set (i := 2) sc_law_other.nd rfl (Or.inl rfl) (pe_lst pa_nil))
      (pss_cons (ps_for PassesOwn.never rfl (pi_list (pv 1)) (pg_name (i := 3) sc_law_other.nd rfl (Or.inl rfl))
        (pss_cons (ps_set (i := 4) sc_law_other.nd rfl (Or.inl rfl) (pe_g g_law_take hr (by decide) pass0 (pa_cons (pv 0) (pa_cons pe_int pa_nil))))
      (pss_one (ps_if (pt_not (pt_val (pe_bm0 PySem.F.plainAttrs_str PySem.F.slot_str_isdigit PySem.F.type_str_isdigit mt_isdigit (pv 3))))
        (pss_one (ps_expr (pe_bm PySem.F.plainAttrs_list PySem.F.slot_list_append PySem.F.type_list_append mt_append (pv 2) (pa_cons (pv 3) pa_nil))))
        (pss_one (ps_if (pt_cmpR op_eq (pv 4) pe_int (nomark _))
        (pss_one (ps_expr (pe_bm PySem.F.plainAttrs_list PySem.F.slot_list_append PySem.F.type_list_append mt_append (pv 2) (pa_cons (pe_op op_add_str pe_str (pv 3)) pa_nil))))
        (pss_one (ps_if (pt_cmpR op_eq (pv 4) pe_int (nomark _))
        (pss_one (ps_expr (pe_bm PySem.F.plainAttrs_list PySem.F.slot_list_append PySem.F.type_list_append mt_append (pv 2) (pa_cons (pe_op op_add_str pe_str (pe_g g_law_sixteen hr (by decide) pass0 (pa_cons (pe_callTy call_int_str (by rfl) T.b_int (by decide +kernel) (pa_cons (pv 3) pa_nil)) pa_nil))) pa_nil))))
        (pss_one (ps_if (PW.pt (pw_and (pt_cmpR op_eq (pv 4) pe_int (nomark _)) (pw_and1 (pt_cmpR op_lt (pe_callTy call_int_str (by rfl) T.b_int (by decide +kernel) (pa_cons (pv 3) pa_nil)) pe_int (nomark _)))))
        (pss_one (ps_expr (pe_bm PySem.F.plainAttrs_list PySem.F.slot_list_append PySem.F.type_list_append mt_append (pv 2) (pa_cons (pe_op op_add_str pe_str (pv 3)) pa_nil))))
        (pss_one (ps_if (pt_cmpR op_eq (pv 4) pe_int (nomark _))
        (pss_one (ps_expr (pe_bm PySem.F.plainAttrs_list PySem.F.slot_list_extend PySem.F.type_list_extend mt_extend (pv 2) (pa_cons (pe_lst (pa_cons pe_str (pa_cons pe_str (pa_cons (pv 3) (pa_cons pe_str pa_nil))))) pa_nil))))
        (pss_one (ps_if (PW.pt (pw_and (pt_cmpR op_eq (pv 4) pe_int (nomark _)) (pw_and1 (pt_cmpR op_lt (pe_callTy call_int_str (by rfl) T.b_int (by decide +kernel) (pa_cons (pv 3) pa_nil)) pe_int (nomark _)))))
        (pss_one (ps_expr (pe_bm PySem.F.plainAttrs_list PySem.F.slot_list_extend PySem.F.type_list_extend mt_extend (pv 2) (pa_cons (pe_lst (pa_cons pe_str (pa_cons (pe_ix ix_list (pe_lst (pa_cons pe_str (pa_cons pe_str pa_nil))) (pe_callTy call_int_str (by rfl) T.b_int (by decide +kernel) (pa_cons (pv 3) pa_nil)) (fun _ _ => rfl)) pa_nil))) pa_nil))))
        (pss_one (ps_expr (pe_bm PySem.F.plainAttrs_list PySem.F.slot_list_append PySem.F.type_list_append mt_append (pv 2) (pa_cons (pv 3) pa_nil))))))))))))))))))
      (pss_one (ps_ret (pv 2))))), ?_⟩
    refine ⟨Nat.zero_le _, fun lf hlf => ?_⟩
    have s1 := same_upd hlf (.lst [])
    have k1 : (upd H lf (.lst [])) lf = some (.lst []) := upd_same
    have nf := hp.ne hlf
    generalize upd H lf (.lst []) = H1 at s1 k1 ⊢
    refine ⟨_, rfl, l, rfl, ⟨_, SqL.of (s1 _ _ h1)⟩, for_list (xs := us.map V.str) (fun i σ H' => SameBut p H H' ∧ PuAt H' p (n + i) ∧ ∃ (ws : List Str) (o3 o4 : Option V), σ = [some (.ref p), some (.ref l), some (.ref lf), o3, o4] ∧ H' lf = some (.lst (ws.map V.str)) ∧ ws.length ≤ 4 * i ∧ OthR (us.take i) ws) ⟨fun b o _ y => s1 _ _ y, hp.same s1, [], _, _, rfl, k1, Nat.zero_le _, .nil⟩ ?_ ?_ ?_⟩
    · rintro i σ H' hi ⟨sb, _⟩
      exact SqL.of (sb _ _ hlp h1)
    · rintro i y σ H' hy ⟨sb, hp', ws, o3, o4, rfl, f1, f2, f3⟩
      rw [List.getElem?_map] at hy
      obtain ⟨u, hu, rfl⟩ : ∃ u, us[i]? = some u ∧ y = V.str u := by
        cases e : us[i]? with
        | none =>
          rw [e] at hy
          cases hy
        | some z =>
          rw [e] at hy
          exact ⟨z, rfl, (Option.some.inj hy).symm⟩
      have hi : i < us.length := (List.getElem?_eq_some_iff.mp hu).1
      have etk : us.take (i + 1) = us.take i ++ [u] := by
        rw [List.take_succ, hu]
        rfl
      refine ⟨_, rfl, p, n + i, 6, rfl, hp', by omega, by decide, by decide, fun r H2 hr6 sb2 hp2 => ?_⟩
      have f1' := sb2 _ _ nf f1
      have sb02 : SameBut p H H2 := fun b o hb y => sb2 _ _ hb (sb b o hb y)
      refine ⟨_, rfl, rfl, u, rfl, rfl, trivial, ?_⟩
      rcases hsm u (List.mem_of_getElem? hu) with hs | ⟨v, hv, rfl⟩
      · rw [nodigit_sgs hs]
        refine ⟨_, rfl, iteT ?_⟩
        refine ⟨_, rfl, .inl ⟨rfl, _, SqL.of f1'⟩, _, rfl, lf, _, _, rfl, rfl, f1', ?_, ?_⟩
        · rw [List.length_map, sizeLine_eq]
          omega
        obtain ⟨z1, z2, z3⟩ := oth_fin sb02 hp2 nf hlf f1' [u]
        exact ⟨z1, z2, ws ++ [u], _, _, rfl, z3, by rw [List.length_append]; show ws.length + 1 ≤ 4 * (i + 1); omega, by rw [etk]; exact f3.snoc (.keep hs .nil)⟩
      · rw [digit_dec]
        refine ⟨_, rfl, iteF ?_⟩
        have hint : intText? (dec v) = some ((v : Nat) : Int) := TL.int_num (by have := TL.numL_len (k := 18) (by decide) hv; omega)
        have hdl : (dec v).length ≤ 18 := by
          rw [len_codes, dec_cps]
          exact TL.numL_len (by decide) hv
        match r, hr6 with
        --«WAYS 8
        | 0, _ =>
          refine ⟨_, rfl, rfl, _, rfl, ?_⟩
          rw [decide_eq_true (show V.int ((0 : Nat) : Int) = V.int 0 from rfl)]
          refine iteT ?_
          refine ⟨_, rfl, .inl ⟨rfl, _, SqL.of f1'⟩, _, rfl, _, _, rfl, rfl, ?_, lf, _, _, rfl, rfl, f1', ?_, ?_⟩
          · rw [sizeLine_eq]
            show 2 + (dec v).length ≤ _
            omega
          · rw [List.length_map, sizeLine_eq]
            omega
          obtain ⟨z1, z2, z3⟩ := oth_fin sb02 hp2 nf hlf f1' ["00" ++ dec v]
          exact ⟨z1, z2, ws ++ ["00" ++ dec v], _, _, rfl, z3, by rw [List.length_append]; show ws.length + 1 ≤ 4 * (i + 1); omega, by rw [etk]; exact f3.snoc (.num hv (num_00 hv) .nil)⟩
        | 1, _ =>
          refine ⟨_, rfl, rfl, _, rfl, ?_⟩
          rw [decide_eq_false (show ¬ V.int ((1 : Nat) : Int) = V.int 0 from fun z => absurd (V.int.inj z) (by decide))]
          refine iteF ?_
          refine ⟨_, rfl, rfl, _, rfl, ?_⟩
          rw [decide_eq_true (show V.int ((1 : Nat) : Int) = V.int 1 from rfl)]
          refine iteT ?_
          refine ⟨_, rfl, .inl ⟨rfl, _, SqL.of f1'⟩, _, rfl, _, _, rfl, hint, by omega, v, rfl, hv, fun hl hl1 hl2 hl3 hl4 => ?_⟩
          refine ⟨_, _, rfl, rfl, ?_, lf, _, _, rfl, rfl, f1', ?_, ?_⟩
          · rw [sizeLine_eq, len_codes (strN hl)]
            show 2 + hl.length ≤ _
            omega
          · rw [List.length_map, sizeLine_eq]
            omega
          obtain ⟨z1, z2, z3⟩ := oth_fin sb02 hp2 nf hlf f1' ["0x" ++ strN hl]
          exact ⟨z1, z2, ws ++ ["0x" ++ strN hl], _, _, rfl, z3, by rw [List.length_append]; show ws.length + 1 ≤ 4 * (i + 1); omega, by rw [etk]; exact f3.snoc (.num hv (num_0x hl1 hl2 hl3 hl4) .nil)⟩
        | 2, _ =>
          refine ⟨_, rfl, rfl, _, rfl, ?_⟩
          rw [decide_eq_false (show ¬ V.int ((2 : Nat) : Int) = V.int 0 from fun z => absurd (V.int.inj z) (by decide))]
          refine iteF ?_
          refine ⟨_, rfl, rfl, _, rfl, ?_⟩
          rw [decide_eq_false (show ¬ V.int ((2 : Nat) : Int) = V.int 1 from fun z => absurd (V.int.inj z) (by decide))]
          refine iteF ?_
          refine ⟨_, rfl, rfl, _, rfl, ?_⟩
          rw [decide_eq_true (show V.int ((2 : Nat) : Int) = V.int 2 from rfl)]
          refine iteT ?_
          refine ⟨_, rfl, _, _, rfl, hint, by omega, _, _, rfl, rfl, _, rfl, ?_⟩
          by_cases h3 : ((v : Nat) : Int) < 3
          · rw [decide_eq_true h3]
            refine iteT ?_
            refine ⟨_, rfl, .inl ⟨rfl, _, SqL.of f1'⟩, _, rfl, _, _, rfl, rfl, ?_, lf, _, _, rfl, rfl, f1', ?_, ?_⟩
            · rw [sizeLine_eq]
              show 1 + (dec v).length ≤ _
              omega
            · rw [List.length_map, sizeLine_eq]
              omega
            obtain ⟨z1, z2, z3⟩ := oth_fin sb02 hp2 nf hlf f1' ["p" ++ dec v]
            exact ⟨z1, z2, ws ++ ["p" ++ dec v], _, _, rfl, z3, by rw [List.length_append]; show ws.length + 1 ≤ 4 * (i + 1); omega, by rw [etk]; exact f3.snoc (.pm hv (pm_of (by omega)) .nil)⟩
          · rw [decide_eq_false h3]
            refine iteF ?_
            refine ⟨_, rfl, rfl, _, rfl, ?_⟩
            rw [decide_eq_false (show ¬ V.int ((2 : Nat) : Int) = V.int 3 from fun z => absurd (V.int.inj z) (by decide))]
            refine iteF ?_
            refine ⟨_, rfl, rfl, _, rfl, ?_⟩
            rw [decide_eq_false (show ¬ V.int ((2 : Nat) : Int) = V.int 4 from fun z => absurd (V.int.inj z) (by decide))]
            refine iteF (iteF ?_)
            refine ⟨_, rfl, .inl ⟨rfl, _, SqL.of f1'⟩, _, rfl, lf, _, _, rfl, rfl, f1', ?_, ?_⟩
            · rw [List.length_map, sizeLine_eq]
              omega
            obtain ⟨z1, z2, z3⟩ := oth_fin sb02 hp2 nf hlf f1' [dec v]
            exact ⟨z1, z2, ws ++ [dec v], _, _, rfl, z3, by rw [List.length_append]; show ws.length + 1 ≤ 4 * (i + 1); omega, by rw [etk]; exact f3.snoc (.num hv (dec_numT hv) .nil)⟩
        | 3, _ =>
          refine ⟨_, rfl, rfl, _, rfl, ?_⟩
          rw [decide_eq_false (show ¬ V.int ((3 : Nat) : Int) = V.int 0 from fun z => absurd (V.int.inj z) (by decide))]
          refine iteF ?_
          refine ⟨_, rfl, rfl, _, rfl, ?_⟩
          rw [decide_eq_false (show ¬ V.int ((3 : Nat) : Int) = V.int 1 from fun z => absurd (V.int.inj z) (by decide))]
          refine iteF ?_
          refine ⟨_, rfl, rfl, _, rfl, ?_⟩
          rw [decide_eq_false (show ¬ V.int ((3 : Nat) : Int) = V.int 2 from fun z => absurd (V.int.inj z) (by decide))]
          refine iteF (iteF ?_)
          refine ⟨_, rfl, rfl, _, rfl, ?_⟩
          rw [decide_eq_true (show V.int ((3 : Nat) : Int) = V.int 3 from rfl)]
          refine iteT ?_
          refine ⟨_, rfl, .inl ⟨rfl, _, SqL.of f1'⟩, _, rfl, (by show 4 ≤ sizeLine; decide), fun r4 hr4 => ?_⟩
          have s4 := same_upd hr4 (.lst [.str "q", .str "(", .str (dec v), .str ")"])
          have k4 : (upd H2 r4 (.lst [.str "q", .str "(", .str (dec v), .str ")"])) r4 = some (.lst [.str "q", .str "(", .str (dec v), .str ")"]) := upd_same
          generalize upd H2 r4 (.lst [.str "q", .str "(", .str (dec v), .str ")"]) = H4 at s4 k4 ⊢
          refine ⟨lf, r4, _, _, rfl, rfl, s4 _ _ f1', k4, ?_, ?_⟩
          · rw [List.length_map, sizeLine_eq]
            show ws.length + 4 ≤ _
            omega
          obtain ⟨z1, z2, z3⟩ := oth_fin (fun b o hb y => s4 _ _ (sb02 b o hb y)) (hp2.same s4) nf hlf (s4 _ _ f1') (["q", "(", dec v, ")"] : List Str)
          exact ⟨z1, z2, ws ++ (["q", "(", dec v, ")"] : List Str), _, _, rfl, z3, by rw [List.length_append]; show ws.length + 4 ≤ 4 * (i + 1); omega, by rw [etk]; exact f3.snoc (.q hv .nil)⟩
        | 4, _ =>
          refine ⟨_, rfl, rfl, _, rfl, ?_⟩
          rw [decide_eq_false (show ¬ V.int ((4 : Nat) : Int) = V.int 0 from fun z => absurd (V.int.inj z) (by decide))]
          refine iteF ?_
          refine ⟨_, rfl, rfl, _, rfl, ?_⟩
          rw [decide_eq_false (show ¬ V.int ((4 : Nat) : Int) = V.int 1 from fun z => absurd (V.int.inj z) (by decide))]
          refine iteF ?_
          refine ⟨_, rfl, rfl, _, rfl, ?_⟩
          rw [decide_eq_false (show ¬ V.int ((4 : Nat) : Int) = V.int 2 from fun z => absurd (V.int.inj z) (by decide))]
          refine iteF (iteF ?_)
          refine ⟨_, rfl, rfl, _, rfl, ?_⟩
          rw [decide_eq_false (show ¬ V.int ((4 : Nat) : Int) = V.int 3 from fun z => absurd (V.int.inj z) (by decide))]
          refine iteF ?_
          refine ⟨_, rfl, rfl, _, rfl, ?_⟩
          rw [decide_eq_true (show V.int ((4 : Nat) : Int) = V.int 4 from rfl)]
          refine iteT ?_
          refine ⟨_, rfl, _, _, rfl, hint, by omega, _, _, rfl, rfl, _, rfl, ?_⟩
          by_cases h2 : ((v : Nat) : Int) < 2
          · rw [decide_eq_true h2]
            refine iteT ?_
            obtain ⟨xu, e1, e2⟩ : ∃ xu : Str, ([.str "no", .str "p1"] : List V)[v]? = some (.str xu) ∧ (xu = "no" ∧ v = 0 ∨ xu = "p1" ∧ v = 1) := by
              have hv2 : v < 2 := by omega
              match v, hv2 with
              | 0, _ => exact ⟨_, rfl, .inl ⟨rfl, rfl⟩⟩
              | 1, _ => exact ⟨_, rfl, .inr ⟨rfl, rfl⟩⟩
            refine ⟨_, rfl, .inl ⟨rfl, _, SqL.of f1'⟩, (by show 2 ≤ sizeLine; decide), fun r3 hr3 => ?_⟩
            have s3 := same_upd hr3 (.lst [.str "no", .str "p1"])
            have k3 : (upd H2 r3 (.lst [.str "no", .str "p1"])) r3 = some (.lst [.str "no", .str "p1"]) := upd_same
            generalize upd H2 r3 (.lst [.str "no", .str "p1"]) = H3 at s3 k3 ⊢
            refine ⟨_, rfl, _, _, rfl, hint, by omega, r3, _, _, _, rfl, rfl, SqL.of k3, atI_nat (j := v) e1, (by show 2 ≤ sizeLine; decide), fun r4 hr4 => ?_⟩
            have s4 := same_upd hr4 (.lst [.str "has", .str xu])
            have k4 : (upd H3 r4 (.lst [.str "has", .str xu])) r4 = some (.lst [.str "has", .str xu]) := upd_same
            generalize upd H3 r4 (.lst [.str "has", .str xu]) = H4 at s4 k4 ⊢
            refine ⟨lf, r4, _, _, rfl, rfl, s4 _ _ (s3 _ _ f1'), k4, ?_, ?_⟩
            · rw [List.length_map, sizeLine_eq]
              show ws.length + 2 ≤ _
              omega
            obtain ⟨z1, z2, z3⟩ := oth_fin (fun b o hb y => s4 _ _ (s3 _ _ (sb02 b o hb y))) ((hp2.same s3).same s4) nf hlf (s4 _ _ (s3 _ _ f1')) (["has", xu] : List Str)
            exact ⟨z1, z2, ws ++ (["has", xu] : List Str), _, _, rfl, z3, by rw [List.length_append]; show ws.length + 2 ≤ 4 * (i + 1); omega, by rw [etk]; exact f3.snoc (.has hv e2 .nil)⟩
          · rw [decide_eq_false h2]
            refine iteF ?_
            refine ⟨_, rfl, .inl ⟨rfl, _, SqL.of f1'⟩, _, rfl, lf, _, _, rfl, rfl, f1', ?_, ?_⟩
            · rw [List.length_map, sizeLine_eq]
              omega
            obtain ⟨z1, z2, z3⟩ := oth_fin sb02 hp2 nf hlf f1' [dec v]
            exact ⟨z1, z2, ws ++ [dec v], _, _, rfl, z3, by rw [List.length_append]; show ws.length + 1 ≤ 4 * (i + 1); omega, by rw [etk]; exact f3.snoc (.num hv (dec_numT hv) .nil)⟩
        | 5, _ =>
          refine ⟨_, rfl, rfl, _, rfl, ?_⟩
          rw [decide_eq_false (show ¬ V.int ((5 : Nat) : Int) = V.int 0 from fun z => absurd (V.int.inj z) (by decide))]
          refine iteF ?_
          refine ⟨_, rfl, rfl, _, rfl, ?_⟩
          rw [decide_eq_false (show ¬ V.int ((5 : Nat) : Int) = V.int 1 from fun z => absurd (V.int.inj z) (by decide))]
          refine iteF ?_
          refine ⟨_, rfl, rfl, _, rfl, ?_⟩
          rw [decide_eq_false (show ¬ V.int ((5 : Nat) : Int) = V.int 2 from fun z => absurd (V.int.inj z) (by decide))]
          refine iteF (iteF ?_)
          refine ⟨_, rfl, rfl, _, rfl, ?_⟩
          rw [decide_eq_false (show ¬ V.int ((5 : Nat) : Int) = V.int 3 from fun z => absurd (V.int.inj z) (by decide))]
          refine iteF ?_
          refine ⟨_, rfl, rfl, _, rfl, ?_⟩
          rw [decide_eq_false (show ¬ V.int ((5 : Nat) : Int) = V.int 4 from fun z => absurd (V.int.inj z) (by decide))]
          refine iteF (iteF ?_)
          refine ⟨_, rfl, .inl ⟨rfl, _, SqL.of f1'⟩, _, rfl, lf, _, _, rfl, rfl, f1', ?_, ?_⟩
          · rw [List.length_map, sizeLine_eq]
            omega
          obtain ⟨z1, z2, z3⟩ := oth_fin sb02 hp2 nf hlf f1' [dec v]
          exact ⟨z1, z2, ws ++ [dec v], _, _, rfl, z3, by rw [List.length_append]; show ws.length + 1 ≤ 4 * (i + 1); omega, by rw [etk]; exact f3.snoc (.num hv (dec_numT hv) .nil)⟩
        --WAYS»
    · rintro σ H' ⟨sb, hp', ws, o3, o4, rfl, f1, f2, f3⟩
      rw [List.length_map] at hp' f3
      rw [List.take_length] at f3
      exact ⟨_, rfl, q lf ws H' hlf sb hp' f1 f3⟩
end
end Bp

/-! text: P6 -/
set_option Elab.async false
set_option linter.all false
set_option maxRecDepth 100000
set_option maxHeartbeats 4000000
/-! lengths, what is told: plain -/
namespace Bp
open PySem PySem.Spec PyProof.Rows L2 NdefX LamX
def tot (us : List Str) : Nat := (us.map Str.length).sum + us.length
theorem tot_cons (u : Str) (us : List Str) : tot (u :: us) = u.length + 1 + tot us := by
  unfold tot
  rw [List.map_cons, List.sum_cons, List.length_cons]
  omega
theorem tot_app (a b : List Str) : tot (a ++ b) = tot a + tot b := by
  unfold tot
  rw [List.map_append, List.sum_append, List.length_append]
  omega
theorem dec_len {v : Nat} (h : v < 10 ^ 18) : (dec v).length ≤ 18 := by
  rw [len_codes, dec_cps]
  exact TL.numL_len (by decide) h
theorem sgs_len {s : Str} (h : s ∈ sgs) : s.length ≤ 2 := by
  have all : (sgs.all fun s => decide (s.length ≤ 2)) = true := by decide +kernel
  exact of_decide_eq_true (List.all_eq_true.mp all s h)
theorem un_len (b : Bool) : (unS b).length = 1 := by cases b <;> decide +kernel
theorem atT_tot {a : At} (h : AtOk a) : tot (atT a) ≤ 23 := by
  obtain ⟨ns, v⟩ := a
  have hv := dec_len h.2
  have hn : ns.length ≤ 2 := h.1
  have z : ∀ ns : List Bool, tot (ns.map unS) = 2 * ns.length := by
    intro ns
    induction ns with
    | nil => rfl
    | cons b r ih =>
      rw [List.map_cons, tot_cons, ih, un_len, List.length_cons]
      omega
  show tot (ns.map unS ++ [dec v]) ≤ 23
  rw [tot_app, z, tot_cons]
  show 2 * ns.length + ((dec v).length + 1 + 0) ≤ 23
  have hv : (dec v).length ≤ 18 := hv
  omega
theorem restT_tot : ∀ (r : Row), RowOk 0 r → tot (restT atT r) ≤ 26 * r.length
  | [], _ => Nat.le_refl _
  | (s, a) :: r, h => by
    obtain ⟨ha, j, _, hj⟩ := h (s, a) (List.mem_cons_self ..)
    have h1 : s.length ≤ 2 := sgs_len (lev_sgs hj)
    have h2 : tot (atT a) ≤ 23 := atT_tot ha
    have h3 := restT_tot r fun y hy => h y (List.mem_cons_of_mem _ hy)
    show tot (s :: (atT a ++ restT atT r)) ≤ 26 * (r.length + 1)
    rw [tot_cons, tot_app]
    omega
theorem bare_tot {a : At} {r : Row} (ha : AtOk a) (hr : RowOk 0 r) (hl : r.length ≤ 6) : tot (bareT a r) ≤ 400 := by
  have h1 := atT_tot ha
  have h2 := restT_tot r hr
  unfold bareT
  rw [tot_app]
  omega
theorem bare_row {a : At} {r : Row} (ha : AtOk a) (hr : RowOk 0 r) (hl : r.length ≤ 6) : (rowL (bareT a r)).length ≤ 400 := by
  have h1 := bare_tot ha hr hl
  have h2 := rowL_le (bareT a r)
  unfold tot at h1
  omega
theorem sm_tot : ∀ {us : List Str}, Sm us → tot us ≤ 20 * us.length
  | [], _ => Nat.le_refl _
  | u :: us, h => by
    have h1 := sm_tot (us := us) fun y hy => h y (List.mem_cons_of_mem _ hy)
    rw [tot_cons, List.length_cons]
    rcases h u (List.mem_cons_self ..) with q | ⟨v, q, rfl⟩
    · have := sgs_len q
      omega
    · have := dec_len q
      omega
theorem oth_tot : ∀ {us ws : List Str}, OthR us ws → tot ws ≤ 40 * us.length
  | _, _, .nil => Nat.le_refl _
  | _, _, .keep hs o => by
    have h1 := oth_tot o
    have h2 := sgs_len hs
    rw [tot_cons, List.length_cons]
    omega
  | _, _, .num hv hn o => by
    have h1 := oth_tot o
    have h2 := hn.len
    rw [tot_cons, List.length_cons]
    omega
  | _, _, .pm (u := u) hv hn o => by
    have h1 := oth_tot o
    have h2 : u.length ≤ 2 := by rcases hn with ⟨z, _⟩ | ⟨z, _⟩ | ⟨z, _⟩ <;> rw [z] <;> decide +kernel
    rw [tot_cons, List.length_cons]
    omega
  | _, _, .q hv o => by
    have h1 := oth_tot o
    have h2 := dec_len hv
    have l1 : ("q" : Str).length = 1 := by decide +kernel
    have l2 : ("(" : Str).length = 1 := by decide +kernel
    have l3 : (")" : Str).length = 1 := by decide +kernel
    rw [tot_cons, tot_cons, tot_cons, tot_cons, List.length_cons, l1, l2, l3]
    omega
  | _, _, .has (u := u) hv hn o => by
    have h1 := oth_tot o
    have h2 : u.length ≤ 2 := by rcases hn with ⟨z, _⟩ | ⟨z, _⟩ <;> rw [z] <;> decide +kernel
    have l1 : ("has" : Str).length = 3 := by decide +kernel
    rw [tot_cons, tot_cons, List.length_cons, l1]
    omega
theorem atT_l {a : At} (h : AtOk a) : (atT a).length ≤ 3 := atT_len h
theorem restT_len {tt : At → List Str} {k : Nat} (h : ∀ a, AtOk a → (tt a).length ≤ k) : ∀ (r : Row), (∀ y ∈ r, AtOk y.2) → (restT tt r).length ≤ (k + 1) * r.length
  | [], _ => Nat.le_refl _
  | (s, a) :: r, hr => by
    have h1 : (tt a).length ≤ k := h a (hr (s, a) (List.mem_cons_self ..))
    have h2 := restT_len h r fun y hy => hr y (List.mem_cons_of_mem _ hy)
    show ((tt a ++ restT tt r).length + 1) ≤ (k + 1) * (r.length + 1)
    rw [List.length_append, Nat.mul_succ]
    omega
theorem bare_len {a : At} {r : Row} (ha : AtOk a) (hr : ∀ y ∈ r, AtOk y.2) (hl : r.length ≤ 6) : (bareT a r).length ≤ 27 := by
  have h1 := atT_len ha
  have h2 := restT_len (tt := atT) (k := 3) (fun a h => atT_len h) r hr
  unfold bareT
  rw [List.length_append]
  omega
theorem brT1_len {a : At} (h : AtOk a) : (brT1 a).length ≤ 5 := by
  have := atT_len h
  show ((atT a ++ [rp]).length + 1) ≤ 5
  rw [List.length_append]
  show (atT a).length + 1 + 1 ≤ 5
  omega
theorem apart_len {a : At} {r : Row} (ha : AtOk a) (hr : ∀ y ∈ r, AtOk y.2) (hl : r.length ≤ 6) : (apartT a r).length ≤ 41 := by
  have h1 := brT1_len ha
  have h2 := restT_len (tt := brT1) (k := 5) (fun a h => brT1_len h) r hr
  unfold apartT
  rw [List.length_append]
  omega
/-! ### what is told -/
theorem eqV_int (i : Int) : eqV (.int i) (.int i) = true := by
  show (i == i) = true
  simp
theorem eqV_str (s : Str) : eqV (.str s) (.str s) = true := by
  show (s == s) = true
  simp
theorem told_in {us bs : List Str} {r : Res} (h : (rowL bs).length ≤ 400) : inV (toldV us r) [toldV bs r, .non] = true := by
  have e2 : ¬ 400 < (rowL bs).length := by omega
  unfold inV
  rw [List.any_cons, List.any_cons]
  by_cases c : 400 < (rowL us).length
  · have e : toldV us r = .non := if_pos c
    rw [e]
    show (_ || (true || _)) = true
    simp
  · have e : toldV us r = toldV bs r := by
      unfold toldV
      rw [if_neg c, if_neg e2]
    rw [e]
    cases r with
    | ok i =>
      have e3 : toldV bs (.ok i) = .int i := if_neg e2
      rw [e3, eqV_int]
      rfl
    | error k =>
      have e3 : toldV bs (.error k) = .str (Txt.mul "/" k) := if_neg e2
      rw [e3, eqV_str]
      rfl
theorem told_flat (us : List Str) (r : Res) : flatV (toldV us r) = true := by
  by_cases c : 400 < (rowL us).length
  · have e : toldV us r = .non := if_pos c
    rw [e]
    rfl
  · cases r with
    | ok i =>
      have e3 : toldV us (.ok i) = .int i := if_neg c
      rw [e3]
      rfl
    | error k =>
      have e3 : toldV us (.error k) = .str (Txt.mul "/" k) := if_neg c
      rw [e3]
      rfl
end Bp

/-! text: D38 -/
set_option Elab.async false
set_option linter.all false
set_option maxRecDepth 100000
set_option maxHeartbeats 4000000
/-! the law -/
namespace Bp
open PySem PySem.Spec PyProof.Rows L2 NdefX LamX
theorem sql_ext {K : PySem.W.Frag} {H H' : Hp} {a : Addr} {xs : List V} (e : ExtN H H') (h : SqL K H a xs) : SqL K H' a xs := by
  rcases h with (h | ⟨o, h⟩) | h
  · exact .inl (.inl (e _ _ h (fun _ z => nomatch z)))
  · exact .inl (.inr ⟨o, e _ _ h (fun _ z => nomatch z)⟩)
  · exact .inr h
theorem sql_but {K : PySem.W.Frag} {H H' : Hp} {a p : Addr} {xs : List V} (e : SameBut p H H') (hne : a ≠ p) (h : SqL K H a xs) : SqL K H' a xs := by
  rcases h with (h | ⟨o, h⟩) | h
  · exact .inl (.inl (e _ _ hne h))
  · exact .inl (.inr ⟨o, e _ _ hne h⟩)
  · exact .inr h
theorem tabs_but {T : List NTab} {H H' : Hp} {p : Addr} {xs : List V} (t : TabsN T H) (hp : H p = some (.lst xs)) (e : SameBut p H H') : TabsN T H' := by
  intro pq hpq
  obtain ⟨ps, y1, y2, y3⟩ := t pq hpq
  have np : ∀ {b : Addr} {o : HO}, H b = some o → (∀ l, o ≠ .lst l) → H' b = some o := fun {b o} y ny => e _ _ (fun z => by
    rw [z, hp] at y
    exact ny _ (Option.some.inj y).symm) y
  refine ⟨ps, np y1 (fun l z => nomatch z), y2, fun pos cv hc => ?_⟩
  obtain ⟨cc2, y4, y5⟩ := y3 pos cv hc
  exact ⟨cc2, y4, np y5 (fun l z => by unfold CodeO at z; cases z)⟩
/-- what stands all along -/
structure Ctx (K : PySem.W.Frag) (H : Hp) (a bk p : Addr) (ns : List Int) (n : Nat) : Prop where
  sc : SqL K H a (ns.map V.int)
  tb : TabsN (tabT K qnM) H
  bk : BookAt K H bk
  pu : PuAt H p n
  ne : a ≠ p ∨ ∀ H', SqL K H' a (ns.map V.int)
theorem Ctx.we {K : PySem.W.Frag} {H H' : Hp} {a bk p : Addr} {ns : List Int} {n : Nat} (c : Ctx K H a bk p ns n) (e : WE K H H') : Ctx K H' a bk p ns n := by
  obtain ⟨y1, y2, y3, y4, y5⟩ := c.pu
  exact ⟨sql_ext e.1 c.sc, e.2.2, exn_book e.1 c.bk, ⟨y1, y2, y3, e.1 _ _ y4 (fun _ z => nomatch z), y5⟩, c.ne⟩
theorem Ctx.same {K : PySem.W.Frag} {H H' : Hp} {a bk p : Addr} {ns : List Int} {n : Nat} (c : Ctx K H a bk p ns n) (e : Same H H') : Ctx K H' a bk p ns n := by
  obtain ⟨y1, y2, y3, y4, y5⟩ := c.pu
  exact ⟨sql_ext (ExtN.of_same e) c.sc, c.tb.ext e, Same.book e c.bk, ⟨y1, y2, y3, e _ _ y4, y5⟩, c.ne⟩
theorem Ctx.but {K : PySem.W.Frag} {H H' : Hp} {a bk p : Addr} {ns : List Int} {n n' : Nat} (c : Ctx K H a bk p ns n) (e : SameBut p H H') (hp : PuAt H' p n') : Ctx K H' a bk p ns n' := by
  obtain ⟨xs, hx⟩ := c.pu.some
  exact ⟨c.ne.elim (fun n => sql_but e n c.sc) (fun n => n _), tabs_but c.tb hx e, book_but e hx c.bk, hp, c.ne⟩
/-- a list of texts is no purse -/
theorem str_ne {H : Hp} {l p : Addr} {us : List Str} {n : Nat} (h : H l = some (.lst (us.map V.str))) (hp : PuAt H p n) : l ≠ p := by
  obtain ⟨y1, y2, y3, y4, y5⟩ := hp
  intro z
  rw [z, y4] at h
  cases us with
  | nil => cases h
  | cons u us => cases h
def TxsP (H : Hp) (p la : Addr) (tss : List (List Str)) : Prop := ∃ ps : List Addr, H la = some (.lst (ps.map V.ref)) ∧ la ≠ p ∧ Paired (fun q (ts : List Str) => H q = some (.lst (ts.map V.str)) ∧ q ≠ p) ps tss
theorem TxsAt.p {H : Hp} {p la : Addr} {t : List Str} {tss : List (List Str)} {n : Nat} (h : TxsAt H la (t :: tss)) (hp : PuAt H p n) : TxsP H p la (t :: tss) := by
  obtain ⟨ps, h1, h2⟩ := h
  refine ⟨ps, h1, ?_, Paired.mapP h2 fun q ts z => ⟨z, str_ne z hp⟩⟩
  obtain ⟨y1, y2, y3, y4, y5⟩ := hp
  intro z
  rw [z, y4] at h1
  cases h2 with
  | cons _ _ => cases h1
theorem TxsP.at {H : Hp} {p la : Addr} {tss : List (List Str)} (h : TxsP H p la tss) : TxsAt H la tss := by
  obtain ⟨ps, h1, _, h2⟩ := h
  exact ⟨ps, h1, Paired.mapP h2 fun q ts z => z.1⟩
theorem TxsP.but {H H' : Hp} {p la : Addr} {tss : List (List Str)} (h : TxsP H p la tss) (e : SameBut p H H') : TxsP H' p la tss := by
  obtain ⟨ps, h1, h3, h2⟩ := h
  exact ⟨ps, e _ _ h3 h1, h3, Paired.mapP h2 fun q ts z => ⟨e _ _ z.2 z.1, z.2⟩⟩
theorem TxsP.ext {H H' : Hp} {p la : Addr} {tss : List (List Str)} (h : TxsP H p la tss) (e : ExtN H H') : TxsP H' p la tss := by
  obtain ⟨ps, h1, h3, h2⟩ := h
  exact ⟨ps, e _ _ h1 (fun _ z => nomatch z), h3, Paired.mapP h2 fun q ts z => ⟨e _ _ z.1 (fun _ z => nomatch z), z.2⟩⟩
theorem str_ext {H H' : Hp} {l : Addr} {us : List Str} (h : H l = some (.lst (us.map V.str))) (e : ExtN H H') : H' l = some (.lst (us.map V.str)) := e _ _ h (fun _ z => nomatch z)
section
variable {P : Program} {w : World} {K : PySem.W.Frag} {mg : Str → Option Value} {base : Heap}
def spLaw (K : PySem.W.Frag) : Sp := fun vs H Q _ => ∃ (a : Addr) (ns : List Int), vs = [.ref a] ∧ SqL K H a (ns.map V.int) ∧ ns.length ≤ 63 ∧ TabsN (tabT K qnM) H ∧ ∀ H', Q (.bl true) H'
theorem sc_law : FnScope ["_law_script", "_law_k", "_law_purse_here", "_law_book", "_law_turn", "_law_atoms", "_law_signs_here", "_law_bare", "_law_due", "_law_apart", "_law_atom_here", "_law_texts"] ["_law_script"] (defScope s_law) := ⟨rfl, rfl, rfl, by decide +kernel, rfl, by decide +kernel, by decide +kernel⟩
theorem fn_law (T : Top w K mg) (TB : TabB base mg (tabC K) (tabP K)) {fd : FuncData} (F : FunD K "law" "law" (defArgs s_law) (defBody s_law) (defScope s_law) [] [] (He.ga K "law") fd) : FnOk P w K mg base CX0 180 (He.ga K "law") fd ["_law_script"] (spLaw K) := by
  refine ok0 F sc_law (fun vs H Q E h => ?_) (fun cdv A outer s H vs Q E hr h => ?_)
  · obtain ⟨a, ns, rfl, _⟩ := h
    rfl
  · obtain ⟨a, ns, rfl, h1, h2, hT, q⟩ := h
    have g_law_purse := ok_purse (P := P) (base := base) T
    have g_law_flat := ok_flat (P := P) (base := base) T
    have g_law_strung := ok_strung (P := P) (base := base) T
    have g_law_told := ok_told (P := P) (base := base) T TB
    have g_law_held := ok_held (P := P) (base := base) T 5
    have g_law_other := ok_other (P := P) (base := base) T
    have c_Book := ok_Book (P := P) (base := base) T
    obtain ⟨fdL, hLM, hLB, hLF⟩ := ok_Book_len (P := P) (w := w) (mg := mg) (base := base) T
    refine ⟨_, (pss_cons (ps_for PassesOwn.never rfl (pi_range1 rfl T.b_range (pa_cons (pe_callB (call_max2 rfl) (by rfl) T.b_max (by decide +kernel) (pa_cons pe_int (pa_cons (pe_callB (call_min2 rfl) (by rfl) T.b_min (by decide +kernel) (pa_cons pe_int (pa_cons (pe_callB call_len_seq (by rfl) T.b_len PySem.boot_len (pa_cons (pv 0) pa_nil)) pa_nil))) pa_nil))) pa_nil)) (pg_name (i := 1) sc_law.nd rfl (Or.inl rfl))
        (pss_cons (ps_set (i := 2) sc_law.nd rfl (Or.inl rfl) (pe_g g_law_purse hr (by decide) pass0 (pa_cons (pv 0) (pa_cons (pv 1) pa_nil))))
      (pss_cons (ps_set (i := 3) sc_law.nd rfl (Or.inl rfl) (pe_c c_Book hr (by decide) pass0 (pa_cons (pe_lst (pa_cons pe_str (pa_cons pe_str (pa_cons pe_str (pa_cons pe_str pa_nil))))) pa_nil)))
      (pss_cons (ps_for PassesOwn.never rfl (pi_range1 rfl T.b_range (pa_cons pe_int pa_nil)) (pg_name (i := 4) sc_law.nd rfl (Or.inl rfl))
        (pss_cons (ps_asg (pe_g g_law_flat hr (by decide) pass0 (pa_cons (pv 2) pa_nil)) (pg_tup rfl (pgs_cons (pg_name (i := 5) sc_law.nd rfl (Or.inl rfl)) (pgs_cons (pg_name (i := 6) sc_law.nd rfl (Or.inl rfl)) pgs_nil))))
      (pss_cons (ps_set (i := 7) sc_law.nd rfl (Or.inl rfl) (pe_g g_law_strung hr (by decide) pass0 (pa_cons (pv 5) (pa_cons (pv 6) pa_nil))))
      (pss_cons (ps_set (i := 8) sc_law.nd rfl (Or.inl rfl) (pe_g g_law_told hr (by decide) pass0 (pa_cons (pv 7) (pa_cons (pv 3) pa_nil))))
      (pss_cons (ps_set (i := 9) sc_law.nd rfl (Or.inl rfl) (pe_g g_law_strung hr (by decide) pass0 (pa_cons (pe_lc (own := [("_law_atom_here", 10)]) (tt := tYes) (by rfl) sc_law.nd (pi_list (pv 5)) (blkOk_by (own := [("_law_atom_here", 10)]) (N := ["_law_script", "_law_k", "_law_purse_here", "_law_book", "_law_turn", "_law_atoms", "_law_signs_here", "_law_bare", "_law_due", "_law_apart", "_law_atom_here", "_law_texts"]) (sc := defScope s_law) (by decide +kernel)) (fun _ _ _ _ _ => (pg_name (i := 10) sc_law.nd rfl (Or.inl rfl))) (fun _ _ _ _ _ => pts_nil) (fun _ _ _ _ _ => (pe_op op_cat (pe_op op_cat (pe_lst (pa_cons pe_str pa_nil)) (pv 10)) (pe_lst (pa_cons pe_str pa_nil))))) (pa_cons (pv 6) pa_nil))))
      (pss_cons (ps_for PassesOwn.never rfl (pi_list (pe_lst (pa_cons (pe_g g_law_held hr (by decide) pass0 (pa_cons (pv 5) (pa_cons (pv 6) (pa_cons pe_int pa_nil)))) (pa_cons (pv 9) (pa_cons (pe_op op_cat (pe_op op_cat (pe_lst (pa_cons pe_str pa_nil)) (pv 7)) (pe_lst (pa_cons pe_str pa_nil))) (pa_cons (pe_g g_law_other hr (by decide) pass0 (pa_cons (pv 2) (pa_cons (pv 7) pa_nil))) pa_nil)))))) (pg_name (i := 11) sc_law.nd rfl (Or.inl rfl))
        (pss_one (ps_if (pt_cmpR op_notIn_seq (pe_g g_law_told hr (by decide) pass0 (pa_cons (pv 11) (pa_cons (pv 3) pa_nil))) (pe_tup (pa_cons (pv 8) (pa_cons pe_non pa_nil))) (by rfl))
        (pss_one (ps_ret pe_bl))
        pss_nil)))
      (pss_one (ps_if (pt_cmpR op_notIn_seq (pe_g g_law_told hr (by decide) pass0 (pa_cons (pe_g g_law_other hr (by decide) pass0 (pa_cons (pv 2) (pa_cons (pe_g g_law_held hr (by decide) pass0 (pa_cons (pv 5) (pa_cons (pv 6) (pa_cons pe_int pa_nil)))) pa_nil))) (pa_cons (pv 3) pa_nil))) (pe_tup (pa_cons (pv 8) (pa_cons pe_non pa_nil))) (by rfl))
        (pss_one (ps_ret pe_bl))
        pss_nil))))))))
      (pss_one (ps_if (pt_cmpR op_ne (pe_callB (call_lenO hLF (hr.mono (by decide)) hLM hLB pass0) (by rfl) T.b_len PySem.boot_len (pa_cons (pv 3) pa_nil)) pe_int (nomark _))
        (pss_one (ps_ret pe_bl))
        pss_nil))))))
      (pss_one (ps_ret pe_bl))), ?_⟩
    refine ⟨_, rfl, a, _, rfl, .inl h1, _, _, rfl, _, _, rfl, ?_⟩
    obtain ⟨m, hm, hm4⟩ : ∃ m : Nat, (if (if (((ns.map V.int).length : Nat) : Int) < 4 then (((ns.map V.int).length : Nat) : Int) else 4) > 1 then (if (((ns.map V.int).length : Nat) : Int) < 4 then (((ns.map V.int).length : Nat) : Int) else 4) else (1 : Int)) = (m : Int) ∧ m ≤ 4 := by
      generalize (ns.map V.int).length = L
      by_cases c : ((L : Nat) : Int) < 4
      · rw [if_pos c]
        by_cases c2 : ((L : Nat) : Int) > 1
        · exact ⟨L, if_pos c2, by omega⟩
        · exact ⟨1, if_neg c2, by decide⟩
      · rw [if_neg c]
        exact ⟨4, rfl, by decide⟩
    rw [hm]
    refine ⟨_, rfl, by omega, by omega, for_range (lo := 0) (n := ((m : Nat) : Int).toNat) (fun k σ H' => SqL K H' a (ns.map V.int) ∧ TabsN (tabT K qnM) H' ∧ ∃ o1 o2 o3 o4 o5 o6 o7 o8 o9 o10 o11 : Option V, σ = [some (.ref a), o1, o2, o3, o4, o5, o6, o7, o8, o9, o10, o11]) ⟨h1, hT, _, _, _, _, _, _, _, _, _, _, _, rfl⟩ ?_ ?_⟩
    rotate_left
    · rintro σ H' ⟨_, _, o1, o2, o3, o4, o5, o6, o7, o8, o9, o10, o11, rfl⟩
      exact q H'
    rintro k σ H0 hk ⟨hsc, hT0, o1, o2, o3, o4, o5, o6, o7, o8, o9, o10, o11, rfl⟩
    rw [Int.zero_add]
    have hk4 : k < 4 := by
      rw [Int.toNat_natCast] at hk
      omega
    refine ⟨_, rfl, _, rfl, a, ns, k, rfl, hsc, h2, by omega, fun p H1 hp s1 pu1 => ?_⟩
    have hsc1 := sql_ext (ExtN.of_same s1) hsc
    have nap : a ≠ p ∨ ∀ H', SqL K H' a (ns.map V.int) := by
      rcases hsc with (h | ⟨o, h⟩) | h
      · exact .inl (ne_of_none h hp)
      · exact .inl (ne_of_none h hp)
      · exact .inr fun _ => .inr h
    refine ⟨(by show 4 ≤ sizeLine; decide), fun rl hrl => ?_⟩
    have s2 := same_upd hrl (.lst [.str "p0 = 0", .str "p1 = 1", .str "p2 = 2", .str "q(x) = x"])
    have k2 : (upd H1 rl (.lst [.str "p0 = 0", .str "p1 = 1", .str "p2 = 2", .str "q(x) = x"])) rl = some (.lst [.str "p0 = 0", .str "p1 = 1", .str "p2 = 2", .str "q(x) = x"]) := upd_same
    generalize upd H1 rl (.lst [.str "p0 = 0", .str "p1 = 1", .str "p2 = 2", .str "q(x) = x"]) = H2 at s2 k2 ⊢
    intro bk dx hbk hdx hne
    have s23 := same_made (o := .ins (He.ga K "Book") dx []) hbk hdx
    refine ⟨bk, dx, rl, rfl, upd_same, s23 _ _ k2, fun H3 sb3 hbook => ⟨rfl, ?_⟩⟩
    have s3 : Same H2 H3 := fun b o y => sb3 _ _ (ne_of_none y hbk) (s23 _ _ y)
    have s03 : Same H0 H3 := s1.trans (s2.trans s3)
    have C3 : Ctx K H3 a bk p ns 0 := ⟨sql_ext (ExtN.of_same s03) hsc, hT0.ext s03, hbook, pu1.same (s2.trans s3), nap⟩
    refine ⟨_, rfl, by decide, by decide, for_range (lo := 0) (n := (4 : Int).toNat) (fun j σ H' => Ctx K H' a bk p ns (3000 * j) ∧ ∃ o4 o5 o6 o7 o8 o9 o10 o11 : Option V, σ = [some (.ref a), some (.int ((k : Nat) : Int)), some (.ref p), some (.ref bk), o4, o5, o6, o7, o8, o9, o10, o11]) ⟨C3, _, _, _, _, _, _, _, _, rfl⟩ ?_ ?_⟩
    rotate_left
    · rintro σ H' ⟨C, o4, o5, o6, o7, o8, o9, o10, o11, rfl⟩
      obtain ⟨dxb, kd, m0, m1, m2, m3, hbk', _⟩ := id C.bk
      refine ⟨_, rfl, bk, dxb, _, rfl, hbk', bk, rfl, C.bk, 4, rfl, by decide, by decide, rfl, _, rfl, iteF ?_⟩
      exact ⟨C.sc, C.tb, _, _, _, _, _, _, _, _, _, _, _, rfl⟩
    rintro j σ H' hj ⟨C, o4, o5, o6, o7, o8, o9, o10, o11, rfl⟩
    have hj4 : j < 4 := hj
    refine ⟨_, rfl, p, 3000 * j, rfl, C.pu, by omega, fun t la ls a0 rest H4 ha0 hrr hlen sb4 pu4 ht htx hls => ?_⟩
    have C4 := C.but sb4 pu4
    have X4 := htx.p pu4
    refine ⟨t, _, rfl, SqT.of ht, rfl, _, _, rfl, _, _, rfl, rfl, ?_⟩
    have hok : ∀ y ∈ rest, AtOk y.2 := fun y hy => (hrr y hy).1
    obtain ⟨r, gb, gh, ga, gw⟩ := good_all a0 rest ha0 hrr hlen
    have hbl := bare_len ha0 hok hlen
    refine ⟨_, rfl, _, rfl, la, ls, atT a0, (rest.map fun y : Str × At => y.2).map atT, (rest.map fun y : Str × At => y.1), rfl, htx, hls, by rw [List.length_map, List.length_map, List.length_map], by rw [List.length_map, List.length_map]; omega, by have := atT_len ha0; omega, fun tt htt => ?_, fun lb H5 hlb s45 klb => ?_⟩
    · obtain ⟨x, hx, rfl⟩ := List.mem_map.mp htt
      obtain ⟨y, hy, rfl⟩ := List.mem_map.mp hx
      have := atT_len (hok y hy)
      omega
    rw [strung_row] at klb
    have klb : H5 lb = some (.lst ((bareT a0 rest).map V.str)) := klb
    have C5 := C4.same s45
    have X5 := X4.ext (ExtN.of_same s45)
    have hls5 := s45 _ _ hls
    have hbt := bare_tot ha0 hrr hlen
    have hbr := bare_row ha0 hrr hlen
    refine ⟨_, rfl, _, rfl, lb, bk, bareT a0 rest, r, rfl, klb, C5.bk, C5.tb, gb.wide, by unfold tot at hbt; omega, fun H6 w56 => ?_⟩
    have C6 := C5.we w56
    have X6 := X5.ext w56.1
    have hls6 := str_ext hls5 w56.1
    have klb6 := str_ext klb w56.1
    obtain ⟨ps, hps, hnp, hpp⟩ := id X6
    have hpp : Paired (fun q (ts : List Str) => H6 q = some (.lst (ts.map V.str)) ∧ q ≠ p) ps ((a0 :: rest.map fun y : Str × At => y.2).map atT) := hpp
    refine ⟨_, rfl, la, rfl, ⟨_, SqL.of hps⟩, fun D hD => lc_list (xs := ps.map V.ref) (fun i H' => SameBut D H6 H' ∧ ∃ qs : List Addr, H' D = some (.lst (qs.map V.ref)) ∧ Paired (fun q (a : At) => H' q = some (.lst ((brT1 a).map V.str)) ∧ q ≠ D) qs ((a0 :: rest.map (·.2)).take i)) ⟨but_upd D _, [], upd_same, .nil⟩ ?_ ?_ ?_⟩
    · rintro i H' hi ⟨sb, _⟩
      exact SqL.of (sb _ _ (ne_of_none hps hD) hps)
    · rintro i x H' hx ⟨sb, qs, hq1, hq2⟩
      rw [List.getElem?_map] at hx
      obtain ⟨pa, hpa, rfl⟩ : ∃ pa, ps[i]? = some pa ∧ x = V.ref pa := by
        cases e : ps[i]? with
        | none =>
          rw [e] at hx
          cases hx
        | some y =>
          rw [e] at hx
          exact ⟨y, rfl, (Option.some.inj hx).symm⟩
      obtain ⟨ts, hts, hpt, _⟩ := Paired.at1 hpp hpa
      rw [List.getElem?_map] at hts
      obtain ⟨ai, hai, rfl⟩ : ∃ ai, (a0 :: rest.map fun y : Str × At => y.2)[i]? = some ai ∧ ts = atT ai := by
        cases e : (a0 :: rest.map fun y : Str × At => y.2)[i]? with
        | none =>
          rw [e] at hts
          cases hts
        | some y =>
          rw [e] at hts
          exact ⟨y, rfl, (Option.some.inj hts).symm⟩
      have hoai : AtOk ai := by
        rcases List.mem_cons.mp (List.mem_of_getElem? hai) with e | m
        · rw [e]
          exact ha0
        · obtain ⟨y, hy, e⟩ := List.mem_map.mp m
          rw [← e]
          exact hok y hy
      have hil : i < (a0 :: rest.map fun y : Str × At => y.2).length := (List.getElem?_eq_some_iff.mp hai).1
      have hql := Paired.length hq2
      rw [List.length_take, List.length_cons, List.length_map] at hql
      rw [List.length_cons, List.length_map] at hil
      have hpD : pa ≠ D := ne_of_none hpt hD
      have hpt' := sb _ _ hpD hpt
      have hal := atT_len hoai
      refine ⟨rfl, ?_⟩
      rw [tYes, if_pos rfl]
      refine ⟨(by show 1 ≤ sizeLine; decide), fun r1 hr1 => ?_⟩
      have u1 := same_upd hr1 (.lst [.str "("])
      have v1 : (upd H' r1 (.lst [.str "("])) r1 = some (.lst [.str "("]) := upd_same
      generalize upd H' r1 (.lst [.str "("]) = G1 at u1 v1 ⊢
      refine ⟨_, rfl, r1, pa, _, _, rfl, rfl, v1, u1 _ _ hpt', ?_, fun r2 hr2 => ?_⟩
      · rw [List.length_map, sizeLine_eq]
        show 1 + (atT ai).length ≤ _
        omega
      have u2 := same_upd hr2 (.lst ([.str "("] ++ (atT ai).map V.str))
      have v2 : (upd G1 r2 (.lst ([.str "("] ++ (atT ai).map V.str))) r2 = some (.lst ([.str "("] ++ (atT ai).map V.str)) := upd_same
      generalize upd G1 r2 (.lst ([.str "("] ++ (atT ai).map V.str)) = G2 at u2 v2 ⊢
      refine ⟨(by show 1 ≤ sizeLine; decide), fun r3 hr3 => ?_⟩
      have u3 := same_upd hr3 (.lst [.str ")"])
      have v3 : (upd G2 r3 (.lst [.str ")"])) r3 = some (.lst [.str ")"]) := upd_same
      have v2' := u3 _ _ v2
      generalize upd G2 r3 (.lst [.str ")"]) = G3 at u3 v3 v2' ⊢
      refine ⟨r2, r3, _, _, rfl, rfl, v2', v3, ?_, fun r4 hr4 => ?_⟩
      · rw [List.length_append, List.length_map, sizeLine_eq]
        show 1 + (atT ai).length + 1 ≤ _
        omega
      have u4 := same_upd hr4 (.lst (([.str "("] ++ (atT ai).map V.str) ++ [.str ")"]))
      have v4 : (upd G3 r4 (.lst (([.str "("] ++ (atT ai).map V.str) ++ [.str ")"]))) r4 = some (.lst ((brT1 ai).map V.str)) := by
        rw [upd_same]
        simp [brT1]
      generalize upd G3 r4 (.lst (([.str "("] ++ (atT ai).map V.str) ++ [.str ")"])) = G4 at u4 v4 ⊢
      have u04 : Same H' G4 := u1.trans (u2.trans (u3.trans u4))
      have n4 : r4 ≠ D := (ne_of_none ((u1.trans (u2.trans u3)) _ _ hq1) hr4).symm
      have sbG := but_upd (H := G4) D (.lst (qs.map V.ref ++ [V.ref r4]))
      refine ⟨_, u04 _ _ hq1, ?_, fun b o hb y => sbG _ _ hb (u04 _ _ (sb _ _ hb y)), qs ++ [r4], ?_, ?_⟩
      · rw [List.length_map, sizeLine_eq]
        omega
      · rw [upd_same, List.map_append]
        rfl
      · rw [List.take_succ, hai]
        have z1 := Paired.mapP (G := fun q (a : At) => (upd G4 D (.lst (qs.map V.ref ++ [V.ref r4]))) q = some (.lst ((brT1 a).map V.str)) ∧ q ≠ D) hq2 fun q a z => ⟨sbG _ _ z.2 (u04 _ _ z.1), z.2⟩
        exact Paired.snoc z1 ⟨sbG _ _ n4 v4, n4⟩
    · rintro H7 ⟨sb, qs, hq1, hq2⟩
      have hpl := Paired.length hpp
      rw [List.length_map, List.take_of_length_le (by rw [hpl, List.length_map]; exact Nat.le_refl _)] at hq2
      have zz : Paired (fun q (ts : List Str) => H7 q = some (.lst (ts.map V.str))) qs ((a0 :: rest.map fun y : Str × At => y.2).map brT1) := Paired.mapRL (g := brT1) (Paired.mapP hq2 fun q a z => z.1)
      have s67 : Same H6 H7 := fun b o y => sb _ _ (ne_of_none y hD) y
      have C7 := C6.same s67
      have hls7 := s67 _ _ hls6
      have klb7 := s67 _ _ klb6
      have X7 := X6.ext (ExtN.of_same s67)
      refine ⟨_, rfl, D, ls, brT1 a0, (rest.map fun y : Str × At => y.2).map brT1, (rest.map fun y : Str × At => y.1), rfl, ⟨qs, hq1, zz⟩, hls7, by rw [List.length_map, List.length_map, List.length_map], by rw [List.length_map, List.length_map]; omega, by have := brT1_len ha0; omega, fun tt htt => ?_, fun lp H8 hlp s78 klp => ?_⟩
      · obtain ⟨x, hx, rfl⟩ := List.mem_map.mp htt
        obtain ⟨y, hy, rfl⟩ := List.mem_map.mp hx
        have := brT1_len (hok y hy)
        omega
      rw [strung_row] at klp
      have klp : H8 lp = some (.lst ((apartT a0 rest).map V.str)) := klp
      have C8 := C7.same s78
      have hls8 := s78 _ _ hls7
      have klb8 := s78 _ _ klb7
      have X8 := X7.ext (ExtN.of_same s78)
      have klp8 := klp
      refine ⟨_, rfl, _, rfl, la, ls, a0, rest, rfl, Nat.le_refl _, X8.at, hls8, ha0, hok, by omega, fun lh H9 hlh s89 klh => ?_⟩
      refine ⟨_, rfl, ?_⟩
      refine ⟨(by show 1 ≤ sizeLine; decide), fun r1 hr1 => ?_⟩
      have u1 := same_upd hr1 (.lst [.str "("])
      have v1 : (upd H9 r1 (.lst [.str "("])) r1 = some (.lst [.str "("]) := upd_same
      generalize upd H9 r1 (.lst [.str "("]) = G1 at u1 v1 ⊢
      refine ⟨_, rfl, r1, lb, _, _, rfl, rfl, v1, u1 _ _ (s89 _ _ klb8), ?_, fun r2 hr2 => ?_⟩
      · rw [List.length_map, sizeLine_eq]
        show 1 + (bareT a0 rest).length ≤ _
        omega
      have u2 := same_upd hr2 (.lst ([.str "("] ++ (bareT a0 rest).map V.str))
      have v2 : (upd G1 r2 (.lst ([.str "("] ++ (bareT a0 rest).map V.str))) r2 = some (.lst ([.str "("] ++ (bareT a0 rest).map V.str)) := upd_same
      generalize upd G1 r2 (.lst ([.str "("] ++ (bareT a0 rest).map V.str)) = G2 at u2 v2 ⊢
      refine ⟨(by show 1 ≤ sizeLine; decide), fun r3 hr3 => ?_⟩
      have u3 := same_upd hr3 (.lst [.str ")"])
      have v3 : (upd G2 r3 (.lst [.str ")"])) r3 = some (.lst [.str ")"]) := upd_same
      have v2' := u3 _ _ v2
      generalize upd G2 r3 (.lst [.str ")"]) = G3 at u3 v3 v2' ⊢
      refine ⟨r2, r3, _, _, rfl, rfl, v2', v3, ?_, fun lw hlw => ?_⟩
      · rw [List.length_append, List.length_map, sizeLine_eq]
        show 1 + (bareT a0 rest).length + 1 ≤ _
        omega
      have u4 := same_upd hlw (.lst (([.str "("] ++ (bareT a0 rest).map V.str) ++ [.str ")"]))
      have klw : (upd G3 lw (.lst (([.str "("] ++ (bareT a0 rest).map V.str) ++ [.str ")"]))) lw = some (.lst ((("(" : Str) :: (bareT a0 rest ++ [rp])).map V.str)) := by
        rw [upd_same]
        simp
      generalize upd G3 lw (.lst (([.str "("] ++ (bareT a0 rest).map V.str) ++ [.str ")"])) = H10 at u4 klw ⊢
      have s8x : Same H8 H10 := s89.trans (u1.trans (u2.trans (u3.trans u4)))
      have s9x : Same H9 H10 := u1.trans (u2.trans (u3.trans u4))
      have C10 := C8.same s8x
      have klb10 := s8x _ _ klb8
      have klp10 := s8x _ _ klp8
      have klh10 := s9x _ _ klh
      refine ⟨_, rfl, _, rfl, p, lb, _, bareT a0 rest, rfl, C10.pu, by omega, klb10, str_ne klb10 C10.pu, gb.sm, by omega, fun lo ws H11 hlo sb11 pu11 klo hoth => ?_⟩
      have C11 := C10.but sb11 pu11
      have klb11 := sb11 _ _ (str_ne klb10 C10.pu) klb10
      have klp11 := sb11 _ _ (str_ne klp10 C10.pu) klp10
      have klh11 := sb11 _ _ (str_ne klh10 C10.pu) klh10
      have klw11 := sb11 _ _ (str_ne klw C10.pu) klw
      have X11 := (X8.ext (ExtN.of_same s8x)).but sb11
      have hls11 := sb11 _ _ (str_ne (s8x _ _ hls8) C10.pu) (s8x _ _ hls8)
      refine ⟨(by show 4 ≤ sizeLine; decide), fun rl2 hrl2 => ?_⟩
      have s12 := same_upd hrl2 (.lst [.ref lh, .ref lp, .ref lw, .ref lo])
      have k12 : (upd H11 rl2 (.lst [.ref lh, .ref lp, .ref lw, .ref lo])) rl2 = some (.lst [.ref lh, .ref lp, .ref lw, .ref lo]) := upd_same
      generalize upd H11 rl2 (.lst [.ref lh, .ref lp, .ref lw, .ref lo]) = H12 at s12 k12 ⊢
      have C12 := C11.same s12
      have X12 := X11.ext (ExtN.of_same s12)
      have hls12 := s12 _ _ hls11
      have hdl := hd_len 5 a0 rest ha0 hok
      have hal := apart_len ha0 hok hlen
      have four : ∀ (i : Nat) (x : V), ([.ref lh, .ref lp, .ref lw, .ref lo] : List V)[i]? = some x → ∃ (lt : Addr) (us : List Str), x = .ref lt ∧ H12 lt = some (.lst (us.map V.str)) ∧ GoodW us r ∧ tot us ≤ 1000000 := by
        intro i x hx
        match i, hx with
        | 0, hx =>
          have z := sm_tot gh.sm
          exact ⟨lh, _, (Option.some.inj hx).symm, s12 _ _ klh11, gh.wide, by omega⟩
        | 1, hx =>
          have z := sm_tot ga.sm
          exact ⟨lp, _, (Option.some.inj hx).symm, s12 _ _ klp11, ga.wide, by omega⟩
        | 2, hx =>
          have z := sm_tot gw.sm
          have z2 : (("(" : Str) :: (bareT a0 rest ++ [rp])).length = (bareT a0 rest).length + 1 + 1 := by
            rw [List.length_cons, List.length_append]
            rfl
          exact ⟨lw, _, (Option.some.inj hx).symm, s12 _ _ klw11, gw.wide, by omega⟩
        | 3, hx =>
          have z := oth_tot hoth
          exact ⟨lo, _, (Option.some.inj hx).symm, s12 _ _ klo, gb.oth hoth, by omega⟩
      refine ⟨rl2, rfl, ⟨_, SqL.of k12⟩, for_list (xs := [.ref lh, .ref lp, .ref lw, .ref lo]) (fun i σ H' => Ctx K H' a bk p ns (3000 * j + 100 + (bareT a0 rest).length) ∧ ExtN H12 H' ∧ ∃ o10 o11 : Option V, σ = [some (.ref a), some (.int ((k : Nat) : Int)), some (.ref p), some (.ref bk), some (.int (0 + ((j : Nat) : Int))), some (.ref la), some (.ref ls), some (.ref lb), some (toldV (bareT a0 rest) r), some (.ref lp), o10, o11]) ⟨C12, fun _ _ y _ => y, _, _, rfl⟩ ?_ ?_ ?_⟩
      · rintro i σ H' hi ⟨_, ex, _⟩
        exact SqL.of (ex _ _ k12 (fun _ z => nomatch z))
      · rintro i x σ H' hx ⟨CC, ex, o10, o11, rfl⟩
        obtain ⟨lt, us, rfl, f1, f2, f3⟩ := four i x hx
        refine ⟨_, rfl, _, rfl, lt, bk, us, r, rfl, str_ext f1 ex, CC.bk, CC.tb, f2, f3, fun H'' we => ?_⟩
        refine ⟨_, rfl, (by show 2 ≤ sizeLine; decide), fun tt htt => ?_⟩
        have st := same_upd htt (.tup [toldV (bareT a0 rest) r, .non])
        refine ⟨tt, _, rfl, .inr (SqT.of upd_same), told_flat _ _, ?_, _, rfl, ?_⟩
        · show (flatV (toldV (bareT a0 rest) r) && (flatV V.non && true)) = true
          rw [told_flat]
          rfl
        show if (!inV (toldV us r) [toldV (bareT a0 rest) r, .non]) = true then _ else _
        rw [told_in hbr]
        refine iteF ?_
        exact ⟨(CC.we we).same st, fun b o y1 y2 => st _ _ (we.1 b o (ex b o y1 y2) y2), _, _, rfl⟩
      · rintro σ H' ⟨CC, ex, o10, o11, rfl⟩
        have XX := X12.ext ex
        have hlsx := str_ext hls12 ex
        refine ⟨_, rfl, _, rfl, _, rfl, la, ls, a0, rest, rfl, Nat.le_refl _, XX.at, hlsx, ha0, hok, by omega, fun lh2 H13 hlh2 s13 klh2 => ?_⟩
        have C13 := CC.same s13
        refine ⟨p, lh2, _, hd 5 a0 rest, rfl, C13.pu, by omega, klh2, str_ne klh2 C13.pu, gh.sm, by omega, fun lo2 ws2 H14 hlo2 sb14 pu14 klo2 hoth2 => ?_⟩
        have C14 := C13.but sb14 pu14
        have z2 := oth_tot hoth2
        refine ⟨_, rfl, lo2, bk, ws2, r, rfl, klo2, C14.bk, C14.tb, gh.oth hoth2, by show tot ws2 ≤ _; omega, fun H15 we => ?_⟩
        refine ⟨_, rfl, (by show 2 ≤ sizeLine; decide), fun tt htt => ?_⟩
        have st := same_upd htt (.tup [toldV (bareT a0 rest) r, .non])
        refine ⟨tt, _, rfl, .inr (SqT.of upd_same), told_flat _ _, ?_, _, rfl, ?_⟩
        · show (flatV (toldV (bareT a0 rest) r) && (flatV V.non && true)) = true
          rw [told_flat]
          rfl
        show if (!inV (toldV ws2 r) [toldV (bareT a0 rest) r, .non]) = true then _ else _
        rw [told_in hbr]
        refine iteF ?_
        have Cz := (C14.we we).same st
        exact ⟨⟨Cz.sc, Cz.tb, Cz.bk, Cz.pu.mono (by omega), Cz.ne⟩, _, _, _, _, _, _, _, _, rfl⟩
end
end Bp

/-! text: Fin -/
set_option Elab.async false
set_option linter.all false
set_option maxRecDepth 100000
set_option maxHeartbeats 0
namespace Bp
open PySem PySem.Spec PyProof.Rows L2 NdefX
theorem law_at {w : World} {h : Heap} {mg : Str → Option Value} {fa : Addr} (Y : hk.says w h) (G : h.Ns mainGlobals mg) (hmg : mg ("law" : Str) = some (.ref fa)) :
    ∃ K : PySem.W.Frag, K.In h ∧ LamX.LawAtS PySem.Challenge.rw_bluepaint_k51_whole_brackets_and_numbers w K CX0 180 63 "_law_script" mg fa h := by
  obtain ⟨K, X, c⟩ := Y
  have T : Top w K mg := ⟨⟨h, X, G⟩, c.t, c.ex⟩
  obtain ⟨fd, F⟩ := T.f_law
  have e := hmg.symm.trans T.g_law
  have e2 : fa = He.ga K "law" := Value.ref.inj (Option.some.inj e)
  subst e2
  have m : (("becomes", none) : He.Defn) ∈ tf := List.mem_cons_self ..
  have b := FunD.bindsA (ps := ["_law_script"]) F fun _ _ _ _ _ _ us hl => match us, hl with | [_], _ => rfl
  refine ⟨K, X, fd, [He.cT K ("becomes", none)], spLaw K, fun p hp => ?_, fun p hp => ?_, fun p hp => ?_, fun s v => b s [v] rfl, fun H a ns hl _ hT hS => ?_, fun base _ _ hTB => ?_⟩
  · rw [List.mem_singleton.mp hp]
    exact c.bare _ m
  · rw [List.mem_singleton.mp hp]
    exact c.out _ m
  · rw [List.mem_singleton.mp hp]
    exact PySem.W.codeHd_of_K X (c.hd _ m)
  · refine ⟨a, ns, rfl, hS, hl, fun p hp => ?_, fun _ => rfl⟩
    have e3 := List.mem_singleton.mp (show p ∈ ([(tabP K, fun _ _ => qnM)] : List NTab) from hp)
    rw [e3]
    exact TabN.nil (hT _ (List.mem_singleton.mpr rfl))
  · exact fn_law T (hTB _ (List.mem_singleton.mpr rfl)) F
end Bp
open PySem PySem.W PySem.Calls PyProof.Rows
theorem PySem.Challenge.cw_bluepaint_k51_whole_brackets_and_numbers_holds : PySem.Challenge.rw_bluepaint_k51_whole_brackets_and_numbers.Holds := by
  w_on; o_law
  refine HandSHeadRun.head_any (r := OpenLaw.row PySem.Challenge.rw_bluepaint_k51_whole_brackets_and_numbers) (q := view (OpenLaw.row PySem.Challenge.rw_bluepaint_k51_whole_brackets_and_numbers).prog [100]) (H := Bp.hk) (ob := Bp.ob) (M := 9000) (loose := Bp.loose) (d := HandSHeadRun.topDef (OpenLaw.row PySem.Challenge.rw_bluepaint_k51_whole_brackets_and_numbers).prog 100) (kwd := []) Bp.ob_eq
    (by kernel_rfl) (fun s => by kernel_rfl) Bp.run (by kernel_rfl) (by kernel_rfl) (by kernel_rfl) (by rfl) (by first | assumption | decide +kernel) (by decide +kernel) ⟨rfl, rfl, rfl, rfl, rfl, by decide +kernel⟩ ?hw ?hc
  case hw => w_witness2
  case hc =>
    refine LamX.walk_ofTsE (l := PySem.Challenge.rw_bluepaint_k51_whole_brackets_and_numbers) (n := 63) (k := 180) (x := "_law_script") (CX := fun _ => L2.CX0) rfl (by decide) (by kernel_rfl) ⟨rfl, by decide, by decide⟩ ?F (fun _ _ _ _ _ z => z)
    intro w mg fa h Y G hmg0
    have hmg : mg ("law" : PySem.Str) = some (.ref fa) := by
      have e : (HandSHeadRun.topDef (OpenLaw.row PySem.Challenge.rw_bluepaint_k51_whole_brackets_and_numbers).prog 100).name = ("law" : PySem.Str) := by kernel_rfl
      rw [← e]
      exact hmg0
    exact Bp.law_at Y G hmg
