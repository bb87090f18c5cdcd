import PyProof.Rows.All
import Wide.All
import OpenK.AllK
import Wide.FinOn
import KE.KStateDown
import Lean
import HandS.ForMost
import HandS.Exc
import HandS.Defaults
import HandS.Codes
import HandS.Head0
import HandS.Head1
import HandS.Head2
import HandS.HeadEnd
import HandS.HeadHook1
import HandS.HeadHook2
import HandS.HeadHook3
import HandS.HeadNt
import HandS.ClsMeth
import HandS.IsInst
import PySem.Challenge.RW_undoamid_k91_whole_papers_put_together
import HandS.Evl
import KE.SortData
import KE.DatumOrd
import HandS.SortKw
import HandS.Star
import HandS.Style
import HandS.NoneIn
import KE.GoesEnum
import HandS.Zip
import HandS.Iter
import HandS.Flow
import HandS.DictComp
import KE.IntTextText
import KE.IntTextLaws
import HandS.OwnEq
import KE.KFmtOwn
import PyProof.InstEq
import HandS.TupSets
import HandS.Strs
import HandS.FStr
import HandS.SlotsOwn
import PyProof.Rows.MatchSeqLen
import HandS.TryOnly
import HandS.SetBool
import HandS.SetTxt0
import HandS.CallLocal
import HandS.Conv
import HandS.SetFor
import HandS.TupAny
set_option Elab.async false
set_option linter.all false
set_option maxRecDepth 100000
set_option maxHeartbeats 4000000
/-! K1a -/
/-! the text by places, the facts that the top leaves (printed by wip/gen/mkfacts.py) -/
namespace K91
open PySem PySem.Spec PyProof.Rows L2
def top (i : Nat) : Stmt := PySem.Challenge.pw_undoamid_k91_whole_papers_put_together.main.body.getD i (.Pass ⟨0, 0, 0, 0⟩)
abbrev st_melting_at : Stmt := top 2
abbrev st_depths : Stmt := top 3
abbrev st_layers_of : Stmt := top 4
abbrev st_formed : Stmt := top 5
abbrev st_shortened : Stmt := top 6
abbrev st_appended : Stmt := top 7
abbrev st_pressed : Stmt := top 8
abbrev st_firsts : Stmt := top 11
abbrev st_lasts : Stmt := top 12
abbrev st_is_integer : Stmt := top 32
abbrev st_is_name : Stmt := top 33
abbrev st_integer_of : Stmt := top 34
abbrev st_check_kinds : Stmt := top 37
abbrev st_in_pair : Stmt := top 38
abbrev st_check_known : Stmt := top 39
abbrev st_Table_Dinit : Stmt := inClass (top 42) 0
abbrev st_Table_links : Stmt := inClass (top 42) 3
abbrev st_Table_Dcontains : Stmt := inClass (top 42) 13
abbrev st_Table_Deq : Stmt := inClass (top 42) 15
abbrev st_syllable_of : Stmt := top 45
abbrev st_word_of : Stmt := top 46
abbrev st_Row_Dinit : Stmt := inClass (top 47) 0
abbrev st_Row_read : Stmt := inClass (top 47) 1
abbrev st_Row_Dlen : Stmt := inClass (top 47) 6
abbrev st_Row_Dadd : Stmt := inClass (top 47) 10
abbrev st_Row_Dinvert : Stmt := inClass (top 47) 11
abbrev st_Row_Deq : Stmt := inClass (top 47) 12
abbrev st_Row_Dstr : Stmt := inClass (top 47) 13
abbrev st_limited : Stmt := top 50
abbrev st_check_tables : Stmt := top 51
abbrev st_Version_Dinit : Stmt := inClass (top 52) 0
abbrev st_Version_of : Stmt := inClass (top 52) 1
abbrev st_Version_Deq : Stmt := inClass (top 52) 17
abbrev st_exchange : Stmt := top 54
abbrev st_melt : Stmt := top 55
abbrev st_drop : Stmt := top 56
abbrev st_split : Stmt := top 57
abbrev st_put : Stmt := top 58
abbrev st_done : Stmt := top 61
abbrev st_all_done : Stmt := top 62
abbrev st_Way_Dinit : Stmt := inClass (top 63) 0
abbrev st_Way_exchanged : Stmt := inClass (top 63) 1
abbrev st_Way_moved_down : Stmt := inClass (top 63) 2
abbrev st_Way_dropped : Stmt := inClass (top 63) 3
abbrev st_Way_melting_place : Stmt := inClass (top 63) 4
abbrev st_Way_pressed_in : Stmt := inClass (top 63) 5
abbrev st_Way_brought : Stmt := inClass (top 63) 6
abbrev st_paper : Stmt := top 65
abbrev st_walked : Stmt := top 66
abbrev st_paper_holds : Stmt := top 67
abbrev st_law_deal : Stmt := top 69
abbrev st_law_draw : Stmt := top 70
abbrev st_law_mixed : Stmt := top 71
abbrev st_law_names : Stmt := top 72
abbrev st_law_pairs : Stmt := top 73
abbrev st_law_is_free : Stmt := top 74
abbrev st_law_count : Stmt := top 75
abbrev st_law_row : Stmt := top 76
abbrev st_law_melting : Stmt := top 77
abbrev st_law_short : Stmt := top 78
abbrev st_law_layers : Stmt := top 79
abbrev st_law_form : Stmt := top 80
abbrev st_law_hang : Stmt := top 81
abbrev st_law_blocks : Stmt := top 82
abbrev st_law_moves : Stmt := top 83
abbrev st_law_placed : Stmt := top 84
abbrev st_law_led : Stmt := top 85
abbrev st_law_bent : Stmt := top 86
abbrev st_law_some_order : Stmt := top 87
abbrev st_law_some_moves : Stmt := top 88
abbrev st_law_way_right : Stmt := top 89
abbrev st_law_further : Stmt := top 90
abbrev st_law : Stmt := top 91
/-- the first default of the def at f, if it is an object -/
def dfA (f : PySem.W.Frag → Addr) (K : PySem.W.Frag) : Addr := match K.lookup (f K) with
  | some ⟨_, _, .func fd, _⟩ => (match fd.defaults with
    | .ref T => (match K.lookup T with
      | some ⟨_, _, .seq its _, _⟩ => (match its.toList with
        | .ref a :: _ => a
        | _ => 0)
      | _ => 0)
    | _ => 0)
  | _ => 0
/-! ### the defs -/
def d_melting_at : He5.DefA := { at_ := fun K => He.ga K "melting_at", name := "melting_at", qual := "melting_at", params := defArgs st_melting_at, body := defBody st_melting_at, scope := defScope st_melting_at }
def d_depths : He5.DefA := { at_ := fun K => He.ga K "depths", name := "depths", qual := "depths", params := defArgs st_depths, body := defBody st_depths, scope := defScope st_depths }
def d_layers_of : He5.DefA := { at_ := fun K => He.ga K "layers_of", name := "layers_of", qual := "layers_of", params := defArgs st_layers_of, body := defBody st_layers_of, scope := defScope st_layers_of }
def d_formed : He5.DefA := { at_ := fun K => He.ga K "formed", name := "formed", qual := "formed", params := defArgs st_formed, body := defBody st_formed, scope := defScope st_formed }
def d_shortened : He5.DefA := { at_ := fun K => He.ga K "shortened", name := "shortened", qual := "shortened", params := defArgs st_shortened, body := defBody st_shortened, scope := defScope st_shortened }
def d_appended : He5.DefA := { at_ := fun K => He.ga K "appended", name := "appended", qual := "appended", params := defArgs st_appended, body := defBody st_appended, scope := defScope st_appended }
def d_pressed : He5.DefA := { at_ := fun K => He.ga K "pressed", name := "pressed", qual := "pressed", params := defArgs st_pressed, body := defBody st_pressed, scope := defScope st_pressed }
def d_firsts : He5.DefA := { at_ := fun K => He.ga K "firsts", name := "firsts", qual := "firsts", params := defArgs st_firsts, body := defBody st_firsts, scope := defScope st_firsts }
def d_lasts : He5.DefA := { at_ := fun K => He.ga K "lasts", name := "lasts", qual := "lasts", params := defArgs st_lasts, body := defBody st_lasts, scope := defScope st_lasts }
def d_is_integer : He5.DefA := { at_ := fun K => He.ga K "is_integer", name := "is_integer", qual := "is_integer", params := defArgs st_is_integer, body := defBody st_is_integer, scope := defScope st_is_integer }
def d_is_name : He5.DefA := { at_ := fun K => He.ga K "is_name", name := "is_name", qual := "is_name", params := defArgs st_is_name, body := defBody st_is_name, scope := defScope st_is_name }
def d_integer_of : He5.DefA := { at_ := fun K => He.ga K "integer_of", name := "integer_of", qual := "integer_of", params := defArgs st_integer_of, body := defBody st_integer_of, scope := defScope st_integer_of }
def d_check_kinds : He5.DefA := { at_ := fun K => He.ga K "check_kinds", name := "check_kinds", qual := "check_kinds", params := defArgs st_check_kinds, body := defBody st_check_kinds, scope := defScope st_check_kinds }
def d_in_pair : He5.DefA := { at_ := fun K => He.ga K "in_pair", name := "in_pair", qual := "in_pair", params := defArgs st_in_pair, body := defBody st_in_pair, scope := defScope st_in_pair }
def d_check_known : He5.DefA := { at_ := fun K => He.ga K "check_known", name := "check_known", qual := "check_known", params := defArgs st_check_known, body := defBody st_check_known, scope := defScope st_check_known }
def d_Table_Dinit : He5.DefA := { at_ := fun K => He.ma K (He.ga K "Table") "__init__", name := "__init__", qual := "Table.__init__", params := defArgs st_Table_Dinit, body := defBody st_Table_Dinit, scope := defScope st_Table_Dinit, dfl := [.adr (dfA (fun K => He.ma K (He.ga K "Table") "__init__"))] }
def d_Table_links : He5.DefA := { at_ := fun K => He.ma K (He.ga K "Table") "links", name := "links", qual := "Table.links", params := defArgs st_Table_links, body := defBody st_Table_links, scope := defScope st_Table_links }
def d_Table_Dcontains : He5.DefA := { at_ := fun K => He.ma K (He.ga K "Table") "__contains__", name := "__contains__", qual := "Table.__contains__", params := defArgs st_Table_Dcontains, body := defBody st_Table_Dcontains, scope := defScope st_Table_Dcontains }
def d_Table_Deq : He5.DefA := { at_ := fun K => He.ma K (He.ga K "Table") "__eq__", name := "__eq__", qual := "Table.__eq__", params := defArgs st_Table_Deq, body := defBody st_Table_Deq, scope := defScope st_Table_Deq }
def d_syllable_of : He5.DefA := { at_ := fun K => He.ga K "syllable_of", name := "syllable_of", qual := "syllable_of", params := defArgs st_syllable_of, body := defBody st_syllable_of, scope := defScope st_syllable_of }
def d_word_of : He5.DefA := { at_ := fun K => He.ga K "word_of", name := "word_of", qual := "word_of", params := defArgs st_word_of, body := defBody st_word_of, scope := defScope st_word_of }
def d_Row_Dinit : He5.DefA := { at_ := fun K => He.ma K (He.ga K "Row") "__init__", name := "__init__", qual := "Row.__init__", params := defArgs st_Row_Dinit, body := defBody st_Row_Dinit, scope := defScope st_Row_Dinit, dfl := [.adr (dfA (fun K => He.ma K (He.ga K "Row") "__init__"))] }
def d_Row_read : He5.DefA := { at_ := fun K => He5.wf K (He.ga K "Row") "classmethod" "read", name := "read", qual := "Row.read", params := defArgs st_Row_read, body := defBody st_Row_read, scope := defScope st_Row_read }
def d_Row_Dlen : He5.DefA := { at_ := fun K => He.ma K (He.ga K "Row") "__len__", name := "__len__", qual := "Row.__len__", params := defArgs st_Row_Dlen, body := defBody st_Row_Dlen, scope := defScope st_Row_Dlen }
def d_Row_Dadd : He5.DefA := { at_ := fun K => He.ma K (He.ga K "Row") "__add__", name := "__add__", qual := "Row.__add__", params := defArgs st_Row_Dadd, body := defBody st_Row_Dadd, scope := defScope st_Row_Dadd }
def d_Row_Dinvert : He5.DefA := { at_ := fun K => He.ma K (He.ga K "Row") "__invert__", name := "__invert__", qual := "Row.__invert__", params := defArgs st_Row_Dinvert, body := defBody st_Row_Dinvert, scope := defScope st_Row_Dinvert }
def d_Row_Deq : He5.DefA := { at_ := fun K => He.ma K (He.ga K "Row") "__eq__", name := "__eq__", qual := "Row.__eq__", params := defArgs st_Row_Deq, body := defBody st_Row_Deq, scope := defScope st_Row_Deq }
def d_Row_Dstr : He5.DefA := { at_ := fun K => He.ma K (He.ga K "Row") "__str__", name := "__str__", qual := "Row.__str__", params := defArgs st_Row_Dstr, body := defBody st_Row_Dstr, scope := defScope st_Row_Dstr }
def d_limited : He5.DefA := { at_ := fun K => He.ga K "limited", name := "limited", qual := "limited", params := defArgs st_limited, body := defBody st_limited, scope := defScope st_limited }
def d_check_tables : He5.DefA := { at_ := fun K => He.ga K "check_tables", name := "check_tables", qual := "check_tables", params := defArgs st_check_tables, body := defBody st_check_tables, scope := defScope st_check_tables }
def d_Version_Dinit : He5.DefA := { at_ := fun K => He.ma K (He.ga K "Version") "__init__", name := "__init__", qual := "Version.__init__", params := defArgs st_Version_Dinit, body := defBody st_Version_Dinit, scope := defScope st_Version_Dinit, dfl := [.adr (dfA (fun K => He.ma K (He.ga K "Version") "__init__"))] }
def d_Version_of : He5.DefA := { at_ := fun K => He5.wf K (He.ga K "Version") "classmethod" "of", name := "of", qual := "Version.of", params := defArgs st_Version_of, body := defBody st_Version_of, scope := defScope st_Version_of }
def d_Version_Deq : He5.DefA := { at_ := fun K => He.ma K (He.ga K "Version") "__eq__", name := "__eq__", qual := "Version.__eq__", params := defArgs st_Version_Deq, body := defBody st_Version_Deq, scope := defScope st_Version_Deq }
def d_exchange : He5.DefA := { at_ := fun K => He.ga K "exchange", name := "exchange", qual := "exchange", params := defArgs st_exchange, body := defBody st_exchange, scope := defScope st_exchange }
def d_melt : He5.DefA := { at_ := fun K => He.ga K "melt", name := "melt", qual := "melt", params := defArgs st_melt, body := defBody st_melt, scope := defScope st_melt }
def d_drop : He5.DefA := { at_ := fun K => He.ga K "drop", name := "drop", qual := "drop", params := defArgs st_drop, body := defBody st_drop, scope := defScope st_drop }
def d_split : He5.DefA := { at_ := fun K => He.ga K "split", name := "split", qual := "split", params := defArgs st_split, body := defBody st_split, scope := defScope st_split }
def d_put : He5.DefA := { at_ := fun K => He.ga K "put", name := "put", qual := "put", params := defArgs st_put, body := defBody st_put, scope := defScope st_put }
def d_done : He5.DefA := { at_ := fun K => He.ga K "done", name := "done", qual := "done", params := defArgs st_done, body := defBody st_done, scope := defScope st_done }
def d_all_done : He5.DefA := { at_ := fun K => He.ga K "all_done", name := "all_done", qual := "all_done", params := defArgs st_all_done, body := defBody st_all_done, scope := defScope st_all_done }
def d_Way_Dinit : He5.DefA := { at_ := fun K => He.ma K (He.ga K "Way") "__init__", name := "__init__", qual := "Way.__init__", params := defArgs st_Way_Dinit, body := defBody st_Way_Dinit, scope := defScope st_Way_Dinit }
def d_Way_exchanged : He5.DefA := { at_ := fun K => He.ma K (He.ga K "Way") "exchanged", name := "exchanged", qual := "Way.exchanged", params := defArgs st_Way_exchanged, body := defBody st_Way_exchanged, scope := defScope st_Way_exchanged }
def d_Way_moved_down : He5.DefA := { at_ := fun K => He.ma K (He.ga K "Way") "moved_down", name := "moved_down", qual := "Way.moved_down", params := defArgs st_Way_moved_down, body := defBody st_Way_moved_down, scope := defScope st_Way_moved_down }
def d_Way_dropped : He5.DefA := { at_ := fun K => He.ma K (He.ga K "Way") "dropped", name := "dropped", qual := "Way.dropped", params := defArgs st_Way_dropped, body := defBody st_Way_dropped, scope := defScope st_Way_dropped }
def d_Way_melting_place : He5.DefA := { at_ := fun K => He.ma K (He.ga K "Way") "melting_place", name := "melting_place", qual := "Way.melting_place", params := defArgs st_Way_melting_place, body := defBody st_Way_melting_place, scope := defScope st_Way_melting_place }
def d_Way_pressed_in : He5.DefA := { at_ := fun K => He.ma K (He.ga K "Way") "pressed_in", name := "pressed_in", qual := "Way.pressed_in", params := defArgs st_Way_pressed_in, body := defBody st_Way_pressed_in, scope := defScope st_Way_pressed_in }
def d_Way_brought : He5.DefA := { at_ := fun K => He.ma K (He.ga K "Way") "brought", name := "brought", qual := "Way.brought", params := defArgs st_Way_brought, body := defBody st_Way_brought, scope := defScope st_Way_brought }
def d_paper : He5.DefA := { at_ := fun K => He.ga K "paper", name := "paper", qual := "paper", params := defArgs st_paper, body := defBody st_paper, scope := defScope st_paper }
def d_walked : He5.DefA := { at_ := fun K => He.ga K "walked", name := "walked", qual := "walked", params := defArgs st_walked, body := defBody st_walked, scope := defScope st_walked }
def d_paper_holds : He5.DefA := { at_ := fun K => He.ga K "paper_holds", name := "paper_holds", qual := "paper_holds", params := defArgs st_paper_holds, body := defBody st_paper_holds, scope := defScope st_paper_holds }
def d_law_deal : He5.DefA := { at_ := fun K => He.ga K "_law_deal", name := "_law_deal", qual := "_law_deal", params := defArgs st_law_deal, body := defBody st_law_deal, scope := defScope st_law_deal }
def d_law_draw : He5.DefA := { at_ := fun K => He.ga K "_law_draw", name := "_law_draw", qual := "_law_draw", params := defArgs st_law_draw, body := defBody st_law_draw, scope := defScope st_law_draw }
def d_law_mixed : He5.DefA := { at_ := fun K => He.ga K "_law_mixed", name := "_law_mixed", qual := "_law_mixed", params := defArgs st_law_mixed, body := defBody st_law_mixed, scope := defScope st_law_mixed }
def d_law_names : He5.DefA := { at_ := fun K => He.ga K "_law_names", name := "_law_names", qual := "_law_names", params := defArgs st_law_names, body := defBody st_law_names, scope := defScope st_law_names }
def d_law_pairs : He5.DefA := { at_ := fun K => He.ga K "_law_pairs", name := "_law_pairs", qual := "_law_pairs", params := defArgs st_law_pairs, body := defBody st_law_pairs, scope := defScope st_law_pairs }
def d_law_is_free : He5.DefA := { at_ := fun K => He.ga K "_law_is_free", name := "_law_is_free", qual := "_law_is_free", params := defArgs st_law_is_free, body := defBody st_law_is_free, scope := defScope st_law_is_free }
def d_law_count : He5.DefA := { at_ := fun K => He.ga K "_law_count", name := "_law_count", qual := "_law_count", params := defArgs st_law_count, body := defBody st_law_count, scope := defScope st_law_count }
def d_law_row : He5.DefA := { at_ := fun K => He.ga K "_law_row", name := "_law_row", qual := "_law_row", params := defArgs st_law_row, body := defBody st_law_row, scope := defScope st_law_row }
def d_law_melting : He5.DefA := { at_ := fun K => He.ga K "_law_melting", name := "_law_melting", qual := "_law_melting", params := defArgs st_law_melting, body := defBody st_law_melting, scope := defScope st_law_melting }
def d_law_short : He5.DefA := { at_ := fun K => He.ga K "_law_short", name := "_law_short", qual := "_law_short", params := defArgs st_law_short, body := defBody st_law_short, scope := defScope st_law_short }
def d_law_layers : He5.DefA := { at_ := fun K => He.ga K "_law_layers", name := "_law_layers", qual := "_law_layers", params := defArgs st_law_layers, body := defBody st_law_layers, scope := defScope st_law_layers }
def d_law_form : He5.DefA := { at_ := fun K => He.ga K "_law_form", name := "_law_form", qual := "_law_form", params := defArgs st_law_form, body := defBody st_law_form, scope := defScope st_law_form }
def d_law_hang : He5.DefA := { at_ := fun K => He.ga K "_law_hang", name := "_law_hang", qual := "_law_hang", params := defArgs st_law_hang, body := defBody st_law_hang, scope := defScope st_law_hang }
def d_law_blocks : He5.DefA := { at_ := fun K => He.ga K "_law_blocks", name := "_law_blocks", qual := "_law_blocks", params := defArgs st_law_blocks, body := defBody st_law_blocks, scope := defScope st_law_blocks }
def d_law_moves : He5.DefA := { at_ := fun K => He.ga K "_law_moves", name := "_law_moves", qual := "_law_moves", params := defArgs st_law_moves, body := defBody st_law_moves, scope := defScope st_law_moves }
def d_law_placed : He5.DefA := { at_ := fun K => He.ga K "_law_placed", name := "_law_placed", qual := "_law_placed", params := defArgs st_law_placed, body := defBody st_law_placed, scope := defScope st_law_placed }
def d_law_led : He5.DefA := { at_ := fun K => He.ga K "_law_led", name := "_law_led", qual := "_law_led", params := defArgs st_law_led, body := defBody st_law_led, scope := defScope st_law_led }
def d_law_bent : He5.DefA := { at_ := fun K => He.ga K "_law_bent", name := "_law_bent", qual := "_law_bent", params := defArgs st_law_bent, body := defBody st_law_bent, scope := defScope st_law_bent }
def d_law_some_order : He5.DefA := { at_ := fun K => He.ga K "_law_some_order", name := "_law_some_order", qual := "_law_some_order", params := defArgs st_law_some_order, body := defBody st_law_some_order, scope := defScope st_law_some_order }
def d_law_some_moves : He5.DefA := { at_ := fun K => He.ga K "_law_some_moves", name := "_law_some_moves", qual := "_law_some_moves", params := defArgs st_law_some_moves, body := defBody st_law_some_moves, scope := defScope st_law_some_moves }
def d_law_way_right : He5.DefA := { at_ := fun K => He.ga K "_law_way_right", name := "_law_way_right", qual := "_law_way_right", params := defArgs st_law_way_right, body := defBody st_law_way_right, scope := defScope st_law_way_right }
def d_law_further : He5.DefA := { at_ := fun K => He.ga K "_law_further", name := "_law_further", qual := "_law_further", params := defArgs st_law_further, body := defBody st_law_further, scope := defScope st_law_further }
def d_law : He5.DefA := { at_ := fun K => He.ga K "law", name := "law", qual := "law", params := defArgs st_law, body := defBody st_law, scope := defScope st_law }
def fn0 : List He5.DefA := [d_melting_at, d_depths, d_layers_of, d_formed, d_shortened, d_appended, d_pressed, d_firsts, d_lasts, d_is_integer]
def fn1 : List He5.DefA := [d_is_name, d_integer_of, d_check_kinds, d_in_pair, d_check_known, d_Table_Dinit, d_Table_links, d_Table_Dcontains, d_Table_Deq, d_syllable_of]
def fn2 : List He5.DefA := [d_word_of, d_Row_Dinit, d_Row_read, d_Row_Dlen, d_Row_Dadd, d_Row_Dinvert, d_Row_Deq, d_Row_Dstr, d_limited, d_check_tables]
def fn3 : List He5.DefA := [d_Version_Dinit, d_Version_of, d_Version_Deq, d_exchange, d_melt, d_drop, d_split, d_put, d_done, d_all_done]
def fn4 : List He5.DefA := [d_Way_Dinit, d_Way_exchanged, d_Way_moved_down, d_Way_dropped, d_Way_melting_place, d_Way_pressed_in, d_Way_brought, d_paper, d_walked, d_paper_holds]
def fn5 : List He5.DefA := [d_law_deal, d_law_draw, d_law_mixed, d_law_names, d_law_pairs, d_law_is_free, d_law_count, d_law_row, d_law_melting, d_law_short]
def fn6 : List He5.DefA := [d_law_layers, d_law_form, d_law_hang, d_law_blocks, d_law_moves, d_law_placed, d_law_led, d_law_bent, d_law_some_order, d_law_some_moves]
def fn7 : List He5.DefA := [d_law_way_right, d_law_further, d_law]
def fn : List He5.DefA := fn0 ++ (fn1 ++ (fn2 ++ (fn3 ++ (fn4 ++ (fn5 ++ (fn6 ++ (fn7)))))))
/-! ### the facts -/
def fa0 : List He.Fa := [.glo "depths", .glo "layers_of", .glo "melting_at", .glo "formed", .glo "shortened", .glo "appended", .glo "firsts", .int "LONGEST" 6, .str "LETTERS" "abcdefghijklmnopqrstuvwxyz", .int "MOST_DIGITS" 21]
def fa1 : List He.Fa := [.str "DIGITS" "0123456789", .int "MOST_KINDS" 12, .glo "is_name", .glo "check_kinds", .glo "in_pair", .glo "Table", .glo "integer_of", .glo "check_known", .glo "syllable_of", .glo "Row"]
def fa2 : List He.Fa := [.glo "word_of", .int "LIMIT" 1000, .glo "limited", .glo "pressed", .glo "lasts", .glo "Version", .glo "is_integer", .glo "SHORT_STEPS", .glo "LONG_STEPS", .glo "done"]
def fa3 : List He.Fa := [.glo "exchange", .glo "drop", .glo "melt", .glo "check_tables", .glo "Way", .glo "all_done", .glo "walked", .glo "_law_draw", .glo "_law_mixed", .glo "_law_count"]
def fa4 : List He.Fa := [.glo "_law_is_free", .glo "_law_melting", .glo "_law_short", .glo "_law_layers", .glo "_law_placed", .glo "_law_hang", .glo "_law_moves", .glo "_law_blocks", .glo "_law_led", .glo "_law_deal"]
def fa5 : List He.Fa := [.glo "_law_names", .glo "_law_pairs", .glo "_law_some_moves", .glo "_law_row", .glo "_law_bent", .glo "paper", .glo "paper_holds", .glo "_law_way_right", .glo "_law_further", .glo "_law_some_order"]
def fa6 : List He.Fa := [.glo "_law_form", .free "range", .free "len", .free "max", .free "zip", .free "tuple", .free "sorted", .free "list", .free "enumerate", .free "isinstance"]
def fa7 : List He.Fa := [.free "int", .free "bool", .free "str", .free "all", .free "set", .free "dict", .free "min", .cls "Table", .mkr "Table", .noat "Table" "kinds"]
def fa8 : List He.Fa := [.noat "Table" "pairs", .noat "Table" "linked", .cls "Row", .mkr "Row", .noat "Row" "table", .noat "Row" "syllables", .cls "Version", .mkr "Version", .noat "Version" "table", .noat "Version" "syllables"]
def fa9 : List He.Fa := [.noat "Version" "row", .noat "Version" "kinds", .noat "Version" "layers", .noat "Version" "last", .cls "Way", .mkr "Way", .noat "Way" "table", .noat "Way" "row", .noat "Way" "steps", .noat "Way" "back"]
def fa10 : List He.Fa := [.meth "Table" "links", .meth "Table" "__contains__", .meth "Table" "__eq__", .meth "Row" "__len__", .meth "Row" "__add__", .meth "Row" "__invert__", .meth "Row" "__eq__", .meth "Row" "__str__", .meth "Version" "__eq__", .meth "Way" "exchanged"]
def fa11 : List He.Fa := [.meth "Way" "moved_down", .meth "Way" "dropped", .meth "Way" "melting_place", .meth "Way" "pressed_in", .meth "Way" "brought"]
def fa : List He.Fa := fa0 ++ (fa1 ++ (fa2 ++ (fa3 ++ (fa4 ++ (fa5 ++ (fa6 ++ (fa7 ++ (fa8 ++ (fa9 ++ (fa10 ++ (fa11)))))))))))
/-! ### more facts, as one Bool -/
def insB (K : PySem.W.Frag) (C : Addr) : Bool := He.eqO (PySem.W.findIn K (.ref C) "__class__") (some (some (.builtin "object.__class__"))) && (He.eqO (PySem.W.specialIn K (.builtin "object.__class__") "__get__") (some (some (.builtin "getset_descriptor.__get__"))) &&
  (decide (PySem.W.takesIn K (.builtin "object.__class__") = some true) && (decide (PySem.W.mroIn K C (.type "object") = some true) && decide (PySem.W.kitOne K (.ref C) (.ref C) = some true))))
def neB (K : PySem.W.Frag) (C : Addr) : Bool := He.eqO (PySem.W.findIn K (.ref C) "__ne__") (some (some (.builtin "object.__ne__")))
def cmB (K : PySem.W.Frag) (C : Addr) (m : Str) : Bool := He5.wrapB K C "classmethod" "classmethod.__get__" m && (PySem.W.fnIn K (He5.wf K C "classmethod" m) && (PySem.W.readsIn K C (.type "type") && He.eqO (PySem.W.specialIn K (.ref C) "__getattribute__") (some (some (.builtin "type.__getattribute__")))))
def exB (K : PySem.W.Frag) : Bool := insB K (He.ga K "Table") && (insB K (He.ga K "Row") && (insB K (He.ga K "Version") && (neB K (He.ga K "Table") && (neB K (He.ga K "Row") && (neB K (He.ga K "Version") && (PySem.W.selfFirst K (He.ga K "Row") &&
  (cmB K (He.ga K "Row") "read" && (cmB K (He.ga K "Version") "of" && (He.valsB K (He.ga K "SHORT_STEPS") [("exchange", .glo "exchange"), ("melt", .glo "melt"), ("drop", .glo "drop")] && He.valsB K (He.ga K "LONG_STEPS") [("split", .glo "split"), ("put", .glo "put")])))))))))
def tabs : List He.Tab := [(fun K => He.ga K "SHORT_STEPS", ["exchange", "melt", "drop"]), (fun K => He.ga K "LONG_STEPS", ["split", "put"])]
/-! ### the Hook -/
abbrev AlK : Type := He.AlD × (List (Option (List (Option (Str × Int)))) × Bool)
def obsK (K : PySem.W.Frag) : AlK := (He5.obsA fa fn K, (tabs.map fun t => He.dicW K (t.1 K), exB K))
def valK (w : World) : AlK := (He5.valA fn, (tabs.map fun t => some (He.keysIn w.params t.2), true))
/-- what is looked at, by places -/
def adr0 : List Addr := [456, 455, 583, 582, 749, 748, 863, 862, 28, 27, 33, 32, 38, 37, 43, 42, 50, 49, 57, 56, 64, 63, 81, 80, 86, 85, 273, 272, 278, 277]
def adr1 : List Addr := [283, 282, 290, 289, 297, 296, 304, 303, 330, 329, 325, 357, 356, 427, 426, 441, 440, 472, 471, 479, 478, 493, 492, 488, 502, 500, 499, 535, 534, 563]
def adr2 : List Addr := [562, 568, 567, 575, 574, 580, 579, 594, 593, 601, 600, 615, 614, 610, 624, 622, 621, 739, 738, 760, 759, 767, 766, 774, 773, 781, 780, 788, 787, 797]
def adr3 : List Addr := [796, 804, 803, 818, 817, 825, 824, 832, 831, 839, 838, 846, 845, 853, 852, 860, 859, 874, 873, 881, 880, 888, 887, 893, 892, 900, 899, 907, 906, 912]
def adr4 : List Addr := [911, 919, 918, 926, 925, 933, 932, 940, 939, 947, 946, 952, 951, 957, 956, 962, 961, 967, 966, 972, 971, 977, 976, 984, 983, 991, 990, 998, 997, 1003]
def adr5 : List Addr := [1002, 1008, 1007, 1013, 1012, 1018, 1017, 1023, 1022, 789, 790]
def adrs : List Addr := mainGlobals :: cStatics :: (adr0 ++ (adr1 ++ (adr2 ++ (adr3 ++ (adr4 ++ (adr5))))))
def frK (g : Addr → Option Obj) : PySem.W.Frag := He.frG g adrs
def hookK : PySem.W.Hook where
  α := AlK
  obs := fun s => obsK (frK s.heap.get?)
  val := fun w => valK w
  says := fun w h => ∃ K : PySem.W.Frag, K.In h ∧ obsK K = valK w
  of := fun _ _ e => ⟨_, He.frG_in, e⟩
  keeps := fun _ _ _ ⟨K, hK, c⟩ k => ⟨K, PySem.W.Frag.In.keeps hK k, c⟩
abbrev RR : PySem.W.OpenRow := PySem.W.OpenLaw.row PySem.Challenge.rw_undoamid_k91_whole_papers_put_together
def obK (s : PySem.W.SharedT) : AlK := obsK (frK (HandSHeadRun.getT s))
theorem obK_eq (s : PySem.W.SharedT) : obK s = hookK.obs s.abs := by
  have e : HandSHeadRun.getT s = s.abs.heap.get? := funext (HandSHeadRun.getT_eq s)
  show obsK (frK (HandSHeadRun.getT s)) = obsK (frK s.abs.heap.get?)
  rw [e]
def names0 : List PySem.Str := ["_wall", "melting_at", "depths", "layers_of", "formed", "shortened", "appended", "pressed", "undone", "turns_of", "firsts", "lasts"]
def names1 : List PySem.Str := ["lesser", "less_counts", "common_front", "shared", "first_clash", "UndoError", "InvalidTable", "InvalidText", "OtherTable", "NoDeed", "TooMany", "Barred"]
def names2 : List PySem.Str := ["UnknownKind", "LETTERS", "DIGITS", "LONGEST", "MOST_DIGITS", "is_integer", "is_name", "integer_of", "MOST_KINDS", "check_kinds", "in_pair", "check_known"]
def names3 : List PySem.Str := ["kinds_of_line", "pair_of_line", "Table", "check_index", "syllable_of", "word_of", "Row", "LIMIT", "limited", "check_tables", "Version", "exchange"]
def names4 : List PySem.Str := ["melt", "drop", "split", "put", "SHORT_STEPS", "LONG_STEPS", "done", "all_done", "Way", "paper", "walked", "paper_holds"]
def names5 : List PySem.Str := ["_law_deal", "_law_draw", "_law_mixed", "_law_names", "_law_pairs", "_law_is_free", "_law_count", "_law_row", "_law_melting", "_law_short", "_law_layers", "_law_form"]
def names6 : List PySem.Str := ["_law_hang", "_law_blocks", "_law_moves", "_law_placed", "_law_led", "_law_bent", "_law_some_order", "_law_some_moves", "_law_way_right", "_law_further"]
def names : List PySem.Str := names0 ++ (names1 ++ (names2 ++ (names3 ++ (names4 ++ (names5 ++ (names6))))))
end K91
/-! K1b -/
namespace K91
open PySem PySem.Spec PyProof.Rows L2
theorem runF (w : World) : HandSHeadRun.RunEq RR (PySem.W.view RR.prog [91]) hookK obK 7600 names (w.withFollow "special-get-raises" false) := by
  intro os
  kernel_rfl
theorem runT (w : World) : HandSHeadRun.RunEq RR (PySem.W.view RR.prog [91]) hookK obK 7600 names (w.withFollow "special-get-raises" true) := by
  intro os
  kernel_rfl
theorem run (w : World) : HandSHeadRun.RunEq RR (PySem.W.view RR.prog [91]) hookK obK 7600 names w :=
  PySem.W.byRow2 "special-get-raises" (P := fun w => HandSHeadRun.RunEq RR (PySem.W.view RR.prog [91]) hookK obK 7600 names w) runF runT w
end K91
/-! K2 -/
/-! what the facts give: each def where it stands, how it binds, its names (printed by wip/gen/mkk2.py) -/
namespace K91
open PySem PySem.Spec PyProof.Rows L2
abbrev P0 : Program := PySem.Challenge.pw_undoamid_k91_whole_papers_put_together
/-- the facts at hand: over the heap at the law's entry -/
structure Fx (w : World) (K : PySem.W.Frag) (mg : Str → Option Value) (base : Heap) : Prop where
  x : K.In base
  g : base.Ns mainGlobals mg
  s : obsK K = valK w
def fdA (K : PySem.W.Frag) (a : Addr) : FuncData := match K.lookup a with
  | some ⟨_, _, .func fd, _⟩ => fd
  | _ => default
theorem funD_fd {K : PySem.W.Frag} {x qual : Str} {params : Arguments} {body : List Stmt} {scope : Scope} {dvs : List V} {kws : List (Str × V)} {f : Addr} {fd : FuncData} (F : FunD K x qual params body scope dvs kws f fd) : fd = fdA K f := by
  obtain ⟨oc, od, dV, kV, doc, pm, an, cdv, ct, osl, e, l, _⟩ := F.ex
  unfold fdA
  rw [l]
section
variable {w : World} {K : PySem.W.Frag} {mg : Str → Option Value} {base : Heap}
theorem Fx.a (C : Fx w K mg base) : He5.SaysA fa fn K := congrArg (fun z : AlK => z.1) C.s
theorem Fx.e (C : Fx w K mg base) : exB K = true := congrArg (fun z : AlK => z.2.2) C.s
theorem Fx.tab (C : Fx w K mg base) (i : Nat) {t : He.Tab} (h : tabs[i]? = some t := by rfl) : ∃ es n, KDict K w (t.1 K) es n := by
  have e : tabs.map (fun t => He.dicW K (t.1 K)) = tabs.map fun t => some (He.keysIn w.params t.2) := congrArg (fun z : AlK => z.2.1) C.s
  have e2 : (tabs.map fun t => He.dicW K (t.1 K))[i]? = (tabs.map fun t => some (He.keysIn w.params t.2))[i]? := by rw [e]
  rw [List.getElem?_map, List.getElem?_map, h] at e2
  exact He.dicW_ok (Option.some.inj e2)
theorem Fx.gl (C : Fx w K mg base) (i : Nat) {x : Str} (h : fa[i]? = some (.glo x) := by rfl) : mg x = some (.ref (He.ga K x)) := He.glo_ok C.x C.g (C.a.fact i h)
theorem Fx.no (C : Fx w K mg base) (i : Nat) {x : Str} (h : fa[i]? = some (.free x) := by rfl) : mg x = none := He.free_ok C.x C.g (C.a.fact i h)
theorem Fx.int (C : Fx w K mg base) (i : Nat) {x : Str} {z : Int} (h : fa[i]? = some (.int x z) := by rfl) : ∃ t, mg x = some (.int z t) := He.int_ok C.x C.g (C.a.fact i h)
theorem Fx.str (C : Fx w K mg base) (i : Nat) {x z : Str} (h : fa[i]? = some (.str x z) := by rfl) : ∃ t, mg x = some (.str z t) := He.str_ok C.x C.g (C.a.fact i h)
theorem Fx.cls (C : Fx w K mg base) (i : Nat) {x : Str} (h : fa[i]? = some (.cls x) := by rfl) : Cls K (He.ga K x) := He.cls_ok (C.a.fact i h)
theorem Fx.mkr (C : Fx w K mg base) (i : Nat) {x : Str} (h : fa[i]? = some (.mkr x) := by rfl) : Mk K (He.ga K x) (He.ma K (He.ga K x) "__init__") := He.mkr_ok (C.a.fact i h)
theorem Fx.noat (C : Fx w K mg base) (i : Nat) {x f : Str} (h : fa[i]? = some (.noat x f) := by rfl) : NoAttr K (He.ga K x) f := He.noat_ok (C.a.fact i h)
theorem Fx.meth (C : Fx w K mg base) (i : Nat) {x f : Str} (h : fa[i]? = some (.meth x f) := by rfl) : Meth K (He.ga K x) f (He.ma K (He.ga K x) f) := He.meth_ok (C.a.fact i h)
theorem Fx.fd (C : Fx w K mg base) (i : Nat) {d : He5.DefA} (h : fn[i]? = some d := by rfl) : FunD K d.name d.qual d.params d.body d.scope (d.dvs K) (d.kws K) (d.at_ K) (fdA K (d.at_ K)) := by
  obtain ⟨fd, F⟩ := C.a.def_ i h
  have e := funD_fd F
  subst e
  exact F
abbrev a_melting_at (K : PySem.W.Frag) : Addr := (d_melting_at).at_ K
theorem S_melting_at : FnScope ["table", "short", "kind", "links", "at"] ["table", "short", "kind"] (defScope st_melting_at) := ⟨rfl, rfl, rfl, by decide +kernel, rfl, by decide +kernel, by decide +kernel⟩
theorem F_melting_at (C : Fx w K mg base) : Fun K "melting_at" "melting_at" st_melting_at (a_melting_at K) (fdA K (a_melting_at K)) := He5.fun_of (C.fd 0)
theorem B_melting_at (C : Fx w K mg base) : Binds K (fdA K (a_melting_at K)) ["table", "short", "kind"] [] := (F_melting_at C).binds fun _ _ _ _ _ _ us hl => match us, hl with | [_, _, _], _ => rfl
abbrev a_depths (K : PySem.W.Frag) : Addr := (d_depths).at_ K
theorem S_depths : FnScope ["table", "syllables", "latest", "found", "kind", "count", "depth", "other"] ["table", "syllables"] (defScope st_depths) := ⟨rfl, rfl, rfl, by decide +kernel, rfl, by decide +kernel, by decide +kernel⟩
theorem F_depths (C : Fx w K mg base) : Fun K "depths" "depths" st_depths (a_depths K) (fdA K (a_depths K)) := He5.fun_of (C.fd 1)
theorem B_depths (C : Fx w K mg base) : Binds K (fdA K (a_depths K)) ["table", "syllables"] [] := (F_depths C).binds fun _ _ _ _ _ _ us hl => match us, hl with | [_, _], _ => rfl
abbrev a_layers_of (K : PySem.W.Frag) : Addr := (d_layers_of).at_ K
theorem S_layers_of : FnScope ["table", "syllables", "found", "depth", "syllable"] ["table", "syllables"] (defScope st_layers_of) := ⟨rfl, rfl, rfl, by decide +kernel, rfl, by decide +kernel, by decide +kernel⟩
theorem F_layers_of (C : Fx w K mg base) : Fun K "layers_of" "layers_of" st_layers_of (a_layers_of K) (fdA K (a_layers_of K)) := He5.fun_of (C.fd 2)
theorem B_layers_of (C : Fx w K mg base) : Binds K (fdA K (a_layers_of K)) ["table", "syllables"] [] := (F_layers_of C).binds fun _ _ _ _ _ _ us hl => match us, hl with | [_, _], _ => rfl
abbrev a_formed (K : PySem.W.Frag) : Addr := (d_formed).at_ K
theorem S_formed : FnScope ["table", "short", "layer", "syllable"] ["table", "short"] (defScope st_formed) := ⟨rfl, rfl, rfl, by decide +kernel, rfl, by decide +kernel, by decide +kernel⟩
theorem F_formed (C : Fx w K mg base) : Fun K "formed" "formed" st_formed (a_formed K) (fdA K (a_formed K)) := He5.fun_of (C.fd 3)
theorem B_formed (C : Fx w K mg base) : Binds K (fdA K (a_formed K)) ["table", "short"] [] := (F_formed C).binds fun _ _ _ _ _ _ us hl => match us, hl with | [_, _], _ => rfl
abbrev a_shortened (K : PySem.W.Frag) : Addr := (d_shortened).at_ K
theorem S_shortened : FnScope ["table", "short", "syllables", "found", "kind", "count", "at"] ["table", "short", "syllables"] (defScope st_shortened) := ⟨rfl, rfl, rfl, by decide +kernel, rfl, by decide +kernel, by decide +kernel⟩
theorem F_shortened (C : Fx w K mg base) : Fun K "shortened" "shortened" st_shortened (a_shortened K) (fdA K (a_shortened K)) := He5.fun_of (C.fd 4)
theorem B_shortened (C : Fx w K mg base) : Binds K (fdA K (a_shortened K)) ["table", "short", "syllables"] [] := (F_shortened C).binds fun _ _ _ _ _ _ us hl => match us, hl with | [_, _, _], _ => rfl
abbrev a_appended (K : PySem.W.Frag) : Addr := (d_appended).at_ K
theorem S_appended : FnScope ["table", "form", "syllables"] ["table", "form", "syllables"] (defScope st_appended) := ⟨rfl, rfl, rfl, by decide +kernel, rfl, by decide +kernel, by decide +kernel⟩
theorem F_appended (C : Fx w K mg base) : Fun K "appended" "appended" st_appended (a_appended K) (fdA K (a_appended K)) := He5.fun_of (C.fd 5)
theorem B_appended (C : Fx w K mg base) : Binds K (fdA K (a_appended K)) ["table", "form", "syllables"] [] := (F_appended C).binds fun _ _ _ _ _ _ us hl => match us, hl with | [_, _, _], _ => rfl
abbrev a_pressed (K : PySem.W.Frag) : Addr := (d_pressed).at_ K
theorem S_pressed : FnScope ["table", "syllables"] ["table", "syllables"] (defScope st_pressed) := ⟨rfl, rfl, rfl, by decide +kernel, rfl, by decide +kernel, by decide +kernel⟩
theorem F_pressed (C : Fx w K mg base) : Fun K "pressed" "pressed" st_pressed (a_pressed K) (fdA K (a_pressed K)) := He5.fun_of (C.fd 6)
theorem B_pressed (C : Fx w K mg base) : Binds K (fdA K (a_pressed K)) ["table", "syllables"] [] := (F_pressed C).binds fun _ _ _ _ _ _ us hl => match us, hl with | [_, _], _ => rfl
abbrev a_firsts (K : PySem.W.Frag) : Addr := (d_firsts).at_ K
theorem S_firsts : FnScope ["table", "syllables", "found", "barred", "at", "kind", "count", "other"] ["table", "syllables"] (defScope st_firsts) := ⟨rfl, rfl, rfl, by decide +kernel, rfl, by decide +kernel, by decide +kernel⟩
theorem F_firsts (C : Fx w K mg base) : Fun K "firsts" "firsts" st_firsts (a_firsts K) (fdA K (a_firsts K)) := He5.fun_of (C.fd 7)
theorem B_firsts (C : Fx w K mg base) : Binds K (fdA K (a_firsts K)) ["table", "syllables"] [] := (F_firsts C).binds fun _ _ _ _ _ _ us hl => match us, hl with | [_, _], _ => rfl
abbrev a_lasts (K : PySem.W.Frag) : Addr := (d_lasts).at_ K
theorem S_lasts : FnScope ["table", "syllables", "turned", "kind", "at"] ["table", "syllables"] (defScope st_lasts) := ⟨rfl, rfl, rfl, by decide +kernel, rfl, by decide +kernel, by decide +kernel⟩
theorem F_lasts (C : Fx w K mg base) : Fun K "lasts" "lasts" st_lasts (a_lasts K) (fdA K (a_lasts K)) := He5.fun_of (C.fd 8)
theorem B_lasts (C : Fx w K mg base) : Binds K (fdA K (a_lasts K)) ["table", "syllables"] [] := (F_lasts C).binds fun _ _ _ _ _ _ us hl => match us, hl with | [_, _], _ => rfl
abbrev a_is_integer (K : PySem.W.Frag) : Addr := (d_is_integer).at_ K
theorem S_is_integer : FnScope ["value"] ["value"] (defScope st_is_integer) := ⟨rfl, rfl, rfl, by decide +kernel, rfl, by decide +kernel, by decide +kernel⟩
theorem F_is_integer (C : Fx w K mg base) : Fun K "is_integer" "is_integer" st_is_integer (a_is_integer K) (fdA K (a_is_integer K)) := He5.fun_of (C.fd 9)
theorem B_is_integer (C : Fx w K mg base) : Binds K (fdA K (a_is_integer K)) ["value"] [] := (F_is_integer C).binds fun _ _ _ _ _ _ us hl => match us, hl with | [_], _ => rfl
abbrev a_is_name (K : PySem.W.Frag) : Addr := (d_is_name).at_ K
theorem S_is_name : FnScope ["value", "letter"] ["value"] (defScope st_is_name) := ⟨rfl, rfl, rfl, by decide +kernel, rfl, by decide +kernel, by decide +kernel⟩
theorem F_is_name (C : Fx w K mg base) : Fun K "is_name" "is_name" st_is_name (a_is_name K) (fdA K (a_is_name K)) := He5.fun_of (C.fd 10)
theorem B_is_name (C : Fx w K mg base) : Binds K (fdA K (a_is_name K)) ["value"] [] := (F_is_name C).binds fun _ _ _ _ _ _ us hl => match us, hl with | [_], _ => rfl
abbrev a_integer_of (K : PySem.W.Frag) : Addr := (d_integer_of).at_ K
theorem S_integer_of : FnScope ["word", "digits", "digit"] ["word"] (defScope st_integer_of) := ⟨rfl, rfl, rfl, by decide +kernel, rfl, by decide +kernel, by decide +kernel⟩
theorem F_integer_of (C : Fx w K mg base) : Fun K "integer_of" "integer_of" st_integer_of (a_integer_of K) (fdA K (a_integer_of K)) := He5.fun_of (C.fd 11)
theorem B_integer_of (C : Fx w K mg base) : Binds K (fdA K (a_integer_of K)) ["word"] [] := (F_integer_of C).binds fun _ _ _ _ _ _ us hl => match us, hl with | [_], _ => rfl
abbrev a_check_kinds (K : PySem.W.Frag) : Addr := (d_check_kinds).at_ K
theorem S_check_kinds : FnScope ["kinds", "at", "kind"] ["kinds"] (defScope st_check_kinds) := ⟨rfl, rfl, rfl, by decide +kernel, rfl, by decide +kernel, by decide +kernel⟩
theorem F_check_kinds (C : Fx w K mg base) : Fun K "check_kinds" "check_kinds" st_check_kinds (a_check_kinds K) (fdA K (a_check_kinds K)) := He5.fun_of (C.fd 12)
theorem B_check_kinds (C : Fx w K mg base) : Binds K (fdA K (a_check_kinds K)) ["kinds"] [] := (F_check_kinds C).binds fun _ _ _ _ _ _ us hl => match us, hl with | [_], _ => rfl
abbrev a_in_pair (K : PySem.W.Frag) : Addr := (d_in_pair).at_ K
theorem S_in_pair : FnScope ["one", "other"] ["one", "other"] (defScope st_in_pair) := ⟨rfl, rfl, rfl, by decide +kernel, rfl, by decide +kernel, by decide +kernel⟩
theorem F_in_pair (C : Fx w K mg base) : Fun K "in_pair" "in_pair" st_in_pair (a_in_pair K) (fdA K (a_in_pair K)) := He5.fun_of (C.fd 13)
theorem B_in_pair (C : Fx w K mg base) : Binds K (fdA K (a_in_pair K)) ["one", "other"] [] := (F_in_pair C).binds fun _ _ _ _ _ _ us hl => match us, hl with | [_, _], _ => rfl
abbrev a_check_known (K : PySem.W.Frag) : Addr := (d_check_known).at_ K
theorem S_check_known : FnScope ["kinds", "names", "name"] ["kinds", "names"] (defScope st_check_known) := ⟨rfl, rfl, rfl, by decide +kernel, rfl, by decide +kernel, by decide +kernel⟩
theorem F_check_known (C : Fx w K mg base) : Fun K "check_known" "check_known" st_check_known (a_check_known K) (fdA K (a_check_known K)) := He5.fun_of (C.fd 14)
theorem B_check_known (C : Fx w K mg base) : Binds K (fdA K (a_check_known K)) ["kinds", "names"] [] := (F_check_known C).binds fun _ _ _ _ _ _ us hl => match us, hl with | [_, _], _ => rfl
abbrev a_Table_Dinit (K : PySem.W.Frag) : Addr := (d_Table_Dinit).at_ K
theorem S_Table_Dinit : FnScope ["self", "kinds", "pairs", "found", "at", "pair", "one", "other", "kind"] ["self", "kinds", "pairs"] (defScope st_Table_Dinit) := ⟨rfl, rfl, rfl, by decide +kernel, rfl, by decide +kernel, by decide +kernel⟩
theorem F_Table_Dinit (C : Fx w K mg base) : FunD K "__init__" "Table.__init__" (defArgs st_Table_Dinit) (defBody st_Table_Dinit) (defScope st_Table_Dinit) ((d_Table_Dinit).dvs K) [] (a_Table_Dinit K) (fdA K (a_Table_Dinit K)) := C.fd 15
abbrev a_Table_links (K : PySem.W.Frag) : Addr := (d_Table_links).at_ K
theorem S_Table_links : FnScope ["self", "kind"] ["self", "kind"] (defScope st_Table_links) := ⟨rfl, rfl, rfl, by decide +kernel, rfl, by decide +kernel, by decide +kernel⟩
theorem F_Table_links (C : Fx w K mg base) : Fun K "links" "Table.links" st_Table_links (a_Table_links K) (fdA K (a_Table_links K)) := He5.fun_of (C.fd 16)
theorem B_Table_links (C : Fx w K mg base) : Binds K (fdA K (a_Table_links K)) ["self", "kind"] [] := (F_Table_links C).binds fun _ _ _ _ _ _ us hl => match us, hl with | [_, _], _ => rfl
abbrev a_Table_Dcontains (K : PySem.W.Frag) : Addr := (d_Table_Dcontains).at_ K
theorem S_Table_Dcontains : FnScope ["self", "name"] ["self", "name"] (defScope st_Table_Dcontains) := ⟨rfl, rfl, rfl, by decide +kernel, rfl, by decide +kernel, by decide +kernel⟩
theorem F_Table_Dcontains (C : Fx w K mg base) : Fun K "__contains__" "Table.__contains__" st_Table_Dcontains (a_Table_Dcontains K) (fdA K (a_Table_Dcontains K)) := He5.fun_of (C.fd 17)
theorem B_Table_Dcontains (C : Fx w K mg base) : Binds K (fdA K (a_Table_Dcontains K)) ["self", "name"] [] := (F_Table_Dcontains C).binds fun _ _ _ _ _ _ us hl => match us, hl with | [_, _], _ => rfl
abbrev a_Table_Deq (K : PySem.W.Frag) : Addr := (d_Table_Deq).at_ K
theorem S_Table_Deq : FnScope ["self", "other"] ["self", "other"] (defScope st_Table_Deq) := ⟨rfl, rfl, rfl, by decide +kernel, rfl, by decide +kernel, by decide +kernel⟩
theorem F_Table_Deq (C : Fx w K mg base) : Fun K "__eq__" "Table.__eq__" st_Table_Deq (a_Table_Deq K) (fdA K (a_Table_Deq K)) := He5.fun_of (C.fd 18)
theorem B_Table_Deq (C : Fx w K mg base) : Binds K (fdA K (a_Table_Deq K)) ["self", "other"] [] := (F_Table_Deq C).binds fun _ _ _ _ _ _ us hl => match us, hl with | [_, _], _ => rfl
abbrev a_syllable_of (K : PySem.W.Frag) : Addr := (d_syllable_of).at_ K
theorem S_syllable_of : FnScope ["word", "table", "kind", "digits", "count"] ["word", "table"] (defScope st_syllable_of) := ⟨rfl, rfl, rfl, by decide +kernel, rfl, by decide +kernel, by decide +kernel⟩
theorem F_syllable_of (C : Fx w K mg base) : Fun K "syllable_of" "syllable_of" st_syllable_of (a_syllable_of K) (fdA K (a_syllable_of K)) := He5.fun_of (C.fd 19)
theorem B_syllable_of (C : Fx w K mg base) : Binds K (fdA K (a_syllable_of K)) ["word", "table"] [] := (F_syllable_of C).binds fun _ _ _ _ _ _ us hl => match us, hl with | [_, _], _ => rfl
abbrev a_word_of (K : PySem.W.Frag) : Addr := (d_word_of).at_ K
theorem S_word_of : FnScope ["syllable", "kind", "count"] ["syllable"] (defScope st_word_of) := ⟨rfl, rfl, rfl, by decide +kernel, rfl, by decide +kernel, by decide +kernel⟩
theorem F_word_of (C : Fx w K mg base) : Fun K "word_of" "word_of" st_word_of (a_word_of K) (fdA K (a_word_of K)) := He5.fun_of (C.fd 20)
theorem B_word_of (C : Fx w K mg base) : Binds K (fdA K (a_word_of K)) ["syllable"] [] := (F_word_of C).binds fun _ _ _ _ _ _ us hl => match us, hl with | [_], _ => rfl
abbrev a_Row_Dinit (K : PySem.W.Frag) : Addr := (d_Row_Dinit).at_ K
theorem S_Row_Dinit : FnScope ["self", "table", "syllables", "kind", "count"] ["self", "table", "syllables"] (defScope st_Row_Dinit) := ⟨rfl, rfl, rfl, by decide +kernel, rfl, by decide +kernel, by decide +kernel⟩
theorem F_Row_Dinit (C : Fx w K mg base) : FunD K "__init__" "Row.__init__" (defArgs st_Row_Dinit) (defBody st_Row_Dinit) (defScope st_Row_Dinit) ((d_Row_Dinit).dvs K) [] (a_Row_Dinit K) (fdA K (a_Row_Dinit K)) := C.fd 21
abbrev a_Row_read (K : PySem.W.Frag) : Addr := (d_Row_read).at_ K
theorem S_Row_read : FnScope ["cls", "table", "text", "found", "at", "word", "syllable"] ["cls", "table", "text"] (defScope st_Row_read) := ⟨rfl, rfl, rfl, by decide +kernel, rfl, by decide +kernel, by decide +kernel⟩
theorem F_Row_read (C : Fx w K mg base) : Fun K "read" "Row.read" st_Row_read (a_Row_read K) (fdA K (a_Row_read K)) := He5.fun_of (C.fd 22)
theorem B_Row_read (C : Fx w K mg base) : Binds K (fdA K (a_Row_read K)) ["cls", "table", "text"] [] := (F_Row_read C).binds fun _ _ _ _ _ _ us hl => match us, hl with | [_, _, _], _ => rfl
abbrev a_Row_Dlen (K : PySem.W.Frag) : Addr := (d_Row_Dlen).at_ K
theorem S_Row_Dlen : FnScope ["self"] ["self"] (defScope st_Row_Dlen) := ⟨rfl, rfl, rfl, by decide +kernel, rfl, by decide +kernel, by decide +kernel⟩
theorem F_Row_Dlen (C : Fx w K mg base) : Fun K "__len__" "Row.__len__" st_Row_Dlen (a_Row_Dlen K) (fdA K (a_Row_Dlen K)) := He5.fun_of (C.fd 23)
theorem B_Row_Dlen (C : Fx w K mg base) : Binds K (fdA K (a_Row_Dlen K)) ["self"] [] := (F_Row_Dlen C).binds fun _ _ _ _ _ _ us hl => match us, hl with | [_], _ => rfl
abbrev a_Row_Dadd (K : PySem.W.Frag) : Addr := (d_Row_Dadd).at_ K
theorem S_Row_Dadd : FnScope ["self", "other"] ["self", "other"] (defScope st_Row_Dadd) := ⟨rfl, rfl, rfl, by decide +kernel, rfl, by decide +kernel, by decide +kernel⟩
theorem F_Row_Dadd (C : Fx w K mg base) : Fun K "__add__" "Row.__add__" st_Row_Dadd (a_Row_Dadd K) (fdA K (a_Row_Dadd K)) := He5.fun_of (C.fd 24)
theorem B_Row_Dadd (C : Fx w K mg base) : Binds K (fdA K (a_Row_Dadd K)) ["self", "other"] [] := (F_Row_Dadd C).binds fun _ _ _ _ _ _ us hl => match us, hl with | [_, _], _ => rfl
abbrev a_Row_Dinvert (K : PySem.W.Frag) : Addr := (d_Row_Dinvert).at_ K
theorem S_Row_Dinvert : FnScope ["self", "kind", "count"] ["self"] (defScope st_Row_Dinvert) := ⟨rfl, rfl, rfl, by decide +kernel, rfl, by decide +kernel, by decide +kernel⟩
theorem F_Row_Dinvert (C : Fx w K mg base) : Fun K "__invert__" "Row.__invert__" st_Row_Dinvert (a_Row_Dinvert K) (fdA K (a_Row_Dinvert K)) := He5.fun_of (C.fd 25)
theorem B_Row_Dinvert (C : Fx w K mg base) : Binds K (fdA K (a_Row_Dinvert K)) ["self"] [] := (F_Row_Dinvert C).binds fun _ _ _ _ _ _ us hl => match us, hl with | [_], _ => rfl
abbrev a_Row_Deq (K : PySem.W.Frag) : Addr := (d_Row_Deq).at_ K
theorem S_Row_Deq : FnScope ["self", "other"] ["self", "other"] (defScope st_Row_Deq) := ⟨rfl, rfl, rfl, by decide +kernel, rfl, by decide +kernel, by decide +kernel⟩
theorem F_Row_Deq (C : Fx w K mg base) : Fun K "__eq__" "Row.__eq__" st_Row_Deq (a_Row_Deq K) (fdA K (a_Row_Deq K)) := He5.fun_of (C.fd 26)
theorem B_Row_Deq (C : Fx w K mg base) : Binds K (fdA K (a_Row_Deq K)) ["self", "other"] [] := (F_Row_Deq C).binds fun _ _ _ _ _ _ us hl => match us, hl with | [_, _], _ => rfl
abbrev a_Row_Dstr (K : PySem.W.Frag) : Addr := (d_Row_Dstr).at_ K
theorem S_Row_Dstr : FnScope ["self", "syllable"] ["self"] (defScope st_Row_Dstr) := ⟨rfl, rfl, rfl, by decide +kernel, rfl, by decide +kernel, by decide +kernel⟩
theorem F_Row_Dstr (C : Fx w K mg base) : Fun K "__str__" "Row.__str__" st_Row_Dstr (a_Row_Dstr K) (fdA K (a_Row_Dstr K)) := He5.fun_of (C.fd 27)
theorem B_Row_Dstr (C : Fx w K mg base) : Binds K (fdA K (a_Row_Dstr K)) ["self"] [] := (F_Row_Dstr C).binds fun _ _ _ _ _ _ us hl => match us, hl with | [_], _ => rfl
abbrev a_limited (K : PySem.W.Frag) : Addr := (d_limited).at_ K
theorem S_limited : FnScope ["form"] ["form"] (defScope st_limited) := ⟨rfl, rfl, rfl, by decide +kernel, rfl, by decide +kernel, by decide +kernel⟩
theorem F_limited (C : Fx w K mg base) : Fun K "limited" "limited" st_limited (a_limited K) (fdA K (a_limited K)) := He5.fun_of (C.fd 28)
theorem B_limited (C : Fx w K mg base) : Binds K (fdA K (a_limited K)) ["form"] [] := (F_limited C).binds fun _ _ _ _ _ _ us hl => match us, hl with | [_], _ => rfl
abbrev a_check_tables (K : PySem.W.Frag) : Addr := (d_check_tables).at_ K
theorem S_check_tables : FnScope ["one", "more", "other"] ["one", "more"] (defScope st_check_tables) := ⟨rfl, rfl, rfl, by decide +kernel, rfl, by decide +kernel, by decide +kernel⟩
theorem F_check_tables (C : Fx w K mg base) : FunD K "check_tables" "check_tables" (defArgs st_check_tables) (defBody st_check_tables) (defScope st_check_tables) ((d_check_tables).dvs K) [] (a_check_tables K) (fdA K (a_check_tables K)) := C.fd 29
abbrev a_Version_Dinit (K : PySem.W.Frag) : Addr := (d_Version_Dinit).at_ K
theorem S_Version_Dinit : FnScope ["self", "table", "syllables", "form", "kind", "count", "at"] ["self", "table", "syllables"] (defScope st_Version_Dinit) := ⟨rfl, rfl, rfl, by decide +kernel, rfl, by decide +kernel, by decide +kernel⟩
theorem F_Version_Dinit (C : Fx w K mg base) : FunD K "__init__" "Version.__init__" (defArgs st_Version_Dinit) (defBody st_Version_Dinit) (defScope st_Version_Dinit) ((d_Version_Dinit).dvs K) [] (a_Version_Dinit K) (fdA K (a_Version_Dinit K)) := C.fd 30
abbrev a_Version_of (K : PySem.W.Frag) : Addr := (d_Version_of).at_ K
theorem S_Version_of : FnScope ["cls", "row"] ["cls", "row"] (defScope st_Version_of) := ⟨rfl, rfl, rfl, by decide +kernel, rfl, by decide +kernel, by decide +kernel⟩
theorem F_Version_of (C : Fx w K mg base) : Fun K "of" "Version.of" st_Version_of (a_Version_of K) (fdA K (a_Version_of K)) := He5.fun_of (C.fd 31)
theorem B_Version_of (C : Fx w K mg base) : Binds K (fdA K (a_Version_of K)) ["cls", "row"] [] := (F_Version_of C).binds fun _ _ _ _ _ _ us hl => match us, hl with | [_, _], _ => rfl
abbrev a_Version_Deq (K : PySem.W.Frag) : Addr := (d_Version_Deq).at_ K
theorem S_Version_Deq : FnScope ["self", "other"] ["self", "other"] (defScope st_Version_Deq) := ⟨rfl, rfl, rfl, by decide +kernel, rfl, by decide +kernel, by decide +kernel⟩
theorem F_Version_Deq (C : Fx w K mg base) : Fun K "__eq__" "Version.__eq__" st_Version_Deq (a_Version_Deq K) (fdA K (a_Version_Deq K)) := He5.fun_of (C.fd 32)
theorem B_Version_Deq (C : Fx w K mg base) : Binds K (fdA K (a_Version_Deq K)) ["self", "other"] [] := (F_Version_Deq C).binds fun _ _ _ _ _ _ us hl => match us, hl with | [_, _], _ => rfl
abbrev a_exchange (K : PySem.W.Frag) : Addr := (d_exchange).at_ K
theorem S_exchange : FnScope ["table", "row", "at"] ["table", "row", "at"] (defScope st_exchange) := ⟨rfl, rfl, rfl, by decide +kernel, rfl, by decide +kernel, by decide +kernel⟩
theorem F_exchange (C : Fx w K mg base) : Fun K "exchange" "exchange" st_exchange (a_exchange K) (fdA K (a_exchange K)) := He5.fun_of (C.fd 33)
theorem B_exchange (C : Fx w K mg base) : Binds K (fdA K (a_exchange K)) ["table", "row", "at"] [] := (F_exchange C).binds fun _ _ _ _ _ _ us hl => match us, hl with | [_, _, _], _ => rfl
abbrev a_melt (K : PySem.W.Frag) : Addr := (d_melt).at_ K
theorem S_melt : FnScope ["table", "row", "at"] ["table", "row", "at"] (defScope st_melt) := ⟨rfl, rfl, rfl, by decide +kernel, rfl, by decide +kernel, by decide +kernel⟩
theorem F_melt (C : Fx w K mg base) : Fun K "melt" "melt" st_melt (a_melt K) (fdA K (a_melt K)) := He5.fun_of (C.fd 34)
theorem B_melt (C : Fx w K mg base) : Binds K (fdA K (a_melt K)) ["table", "row", "at"] [] := (F_melt C).binds fun _ _ _ _ _ _ us hl => match us, hl with | [_, _, _], _ => rfl
abbrev a_drop (K : PySem.W.Frag) : Addr := (d_drop).at_ K
theorem S_drop : FnScope ["table", "row", "at"] ["table", "row", "at"] (defScope st_drop) := ⟨rfl, rfl, rfl, by decide +kernel, rfl, by decide +kernel, by decide +kernel⟩
theorem F_drop (C : Fx w K mg base) : Fun K "drop" "drop" st_drop (a_drop K) (fdA K (a_drop K)) := He5.fun_of (C.fd 35)
theorem B_drop (C : Fx w K mg base) : Binds K (fdA K (a_drop K)) ["table", "row", "at"] [] := (F_drop C).binds fun _ _ _ _ _ _ us hl => match us, hl with | [_, _, _], _ => rfl
abbrev a_split (K : PySem.W.Frag) : Addr := (d_split).at_ K
theorem S_split : FnScope ["table", "row", "at", "count", "kind", "total"] ["table", "row", "at", "count"] (defScope st_split) := ⟨rfl, rfl, rfl, by decide +kernel, rfl, by decide +kernel, by decide +kernel⟩
theorem F_split (C : Fx w K mg base) : Fun K "split" "split" st_split (a_split K) (fdA K (a_split K)) := He5.fun_of (C.fd 36)
theorem B_split (C : Fx w K mg base) : Binds K (fdA K (a_split K)) ["table", "row", "at", "count"] [] := (F_split C).binds fun _ _ _ _ _ _ us hl => match us, hl with | [_, _, _, _], _ => rfl
abbrev a_put (K : PySem.W.Frag) : Addr := (d_put).at_ K
theorem S_put : FnScope ["table", "row", "at", "kind"] ["table", "row", "at", "kind"] (defScope st_put) := ⟨rfl, rfl, rfl, by decide +kernel, rfl, by decide +kernel, by decide +kernel⟩
theorem F_put (C : Fx w K mg base) : Fun K "put" "put" st_put (a_put K) (fdA K (a_put K)) := He5.fun_of (C.fd 37)
theorem B_put (C : Fx w K mg base) : Binds K (fdA K (a_put K)) ["table", "row", "at", "kind"] [] := (F_put C).binds fun _ _ _ _ _ _ us hl => match us, hl with | [_, _, _, _], _ => rfl
abbrev a_done (K : PySem.W.Frag) : Addr := (d_done).at_ K
theorem S_done : FnScope ["table", "row", "step", "word", "at", "more", "action", "longer"] ["table", "row", "step"] (defScope st_done) := ⟨rfl, rfl, rfl, by decide +kernel, rfl, by decide +kernel, by decide +kernel⟩
theorem F_done (C : Fx w K mg base) : Fun K "done" "done" st_done (a_done K) (fdA K (a_done K)) := He5.fun_of (C.fd 38)
theorem B_done (C : Fx w K mg base) : Binds K (fdA K (a_done K)) ["table", "row", "step"] [] := (F_done C).binds fun _ _ _ _ _ _ us hl => match us, hl with | [_, _, _], _ => rfl
abbrev a_all_done (K : PySem.W.Frag) : Addr := (d_all_done).at_ K
theorem S_all_done : FnScope ["table", "syllables", "steps", "row", "step"] ["table", "syllables", "steps"] (defScope st_all_done) := ⟨rfl, rfl, rfl, by decide +kernel, rfl, by decide +kernel, by decide +kernel⟩
theorem F_all_done (C : Fx w K mg base) : Fun K "all_done" "all_done" st_all_done (a_all_done K) (fdA K (a_all_done K)) := He5.fun_of (C.fd 39)
theorem B_all_done (C : Fx w K mg base) : Binds K (fdA K (a_all_done K)) ["table", "syllables", "steps"] [] := (F_all_done C).binds fun _ _ _ _ _ _ us hl => match us, hl with | [_, _, _], _ => rfl
abbrev a_Way_Dinit (K : PySem.W.Frag) : Addr := (d_Way_Dinit).at_ K
theorem S_Way_Dinit : FnScope ["self", "table", "syllables", "short"] ["self", "table", "syllables"] (defScope st_Way_Dinit) := ⟨rfl, rfl, rfl, by decide +kernel, rfl, by decide +kernel, by decide +kernel⟩
theorem F_Way_Dinit (C : Fx w K mg base) : Fun K "__init__" "Way.__init__" st_Way_Dinit (a_Way_Dinit K) (fdA K (a_Way_Dinit K)) := He5.fun_of (C.fd 40)
theorem B_Way_Dinit (C : Fx w K mg base) : Binds K (fdA K (a_Way_Dinit K)) ["self", "table", "syllables"] [] := (F_Way_Dinit C).binds fun _ _ _ _ _ _ us hl => match us, hl with | [_, _, _], _ => rfl
abbrev a_Way_exchanged (K : PySem.W.Frag) : Addr := (d_Way_exchanged).at_ K
theorem S_Way_exchanged : FnScope ["self", "at"] ["self", "at"] (defScope st_Way_exchanged) := ⟨rfl, rfl, rfl, by decide +kernel, rfl, by decide +kernel, by decide +kernel⟩
theorem F_Way_exchanged (C : Fx w K mg base) : Fun K "exchanged" "Way.exchanged" st_Way_exchanged (a_Way_exchanged K) (fdA K (a_Way_exchanged K)) := He5.fun_of (C.fd 41)
theorem B_Way_exchanged (C : Fx w K mg base) : Binds K (fdA K (a_Way_exchanged K)) ["self", "at"] [] := (F_Way_exchanged C).binds fun _ _ _ _ _ _ us hl => match us, hl with | [_, _], _ => rfl
abbrev a_Way_moved_down (K : PySem.W.Frag) : Addr := (d_Way_moved_down).at_ K
theorem S_Way_moved_down : FnScope ["self", "at", "to", "place"] ["self", "at", "to"] (defScope st_Way_moved_down) := ⟨rfl, rfl, rfl, by decide +kernel, rfl, by decide +kernel, by decide +kernel⟩
theorem F_Way_moved_down (C : Fx w K mg base) : Fun K "moved_down" "Way.moved_down" st_Way_moved_down (a_Way_moved_down K) (fdA K (a_Way_moved_down K)) := He5.fun_of (C.fd 42)
theorem B_Way_moved_down (C : Fx w K mg base) : Binds K (fdA K (a_Way_moved_down K)) ["self", "at", "to"] [] := (F_Way_moved_down C).binds fun _ _ _ _ _ _ us hl => match us, hl with | [_, _, _], _ => rfl
abbrev a_Way_dropped (K : PySem.W.Frag) : Addr := (d_Way_dropped).at_ K
theorem S_Way_dropped : FnScope ["self", "at"] ["self", "at"] (defScope st_Way_dropped) := ⟨rfl, rfl, rfl, by decide +kernel, rfl, by decide +kernel, by decide +kernel⟩
theorem F_Way_dropped (C : Fx w K mg base) : Fun K "dropped" "Way.dropped" st_Way_dropped (a_Way_dropped K) (fdA K (a_Way_dropped K)) := He5.fun_of (C.fd 43)
theorem B_Way_dropped (C : Fx w K mg base) : Binds K (fdA K (a_Way_dropped K)) ["self", "at"] [] := (F_Way_dropped C).binds fun _ _ _ _ _ _ us hl => match us, hl with | [_, _], _ => rfl
abbrev a_Way_melting_place (K : PySem.W.Frag) : Addr := (d_Way_melting_place).at_ K
theorem S_Way_melting_place : FnScope ["self", "short", "kind", "count", "at"] ["self", "short"] (defScope st_Way_melting_place) := ⟨rfl, rfl, rfl, by decide +kernel, rfl, by decide +kernel, by decide +kernel⟩
theorem F_Way_melting_place (C : Fx w K mg base) : Fun K "melting_place" "Way.melting_place" st_Way_melting_place (a_Way_melting_place K) (fdA K (a_Way_melting_place K)) := He5.fun_of (C.fd 44)
theorem B_Way_melting_place (C : Fx w K mg base) : Binds K (fdA K (a_Way_melting_place K)) ["self", "short"] [] := (F_Way_melting_place C).binds fun _ _ _ _ _ _ us hl => match us, hl with | [_, _], _ => rfl
abbrev a_Way_pressed_in (K : PySem.W.Frag) : Addr := (d_Way_pressed_in).at_ K
theorem S_Way_pressed_in : FnScope ["self", "short", "at"] ["self", "short"] (defScope st_Way_pressed_in) := ⟨rfl, rfl, rfl, by decide +kernel, rfl, by decide +kernel, by decide +kernel⟩
theorem F_Way_pressed_in (C : Fx w K mg base) : Fun K "pressed_in" "Way.pressed_in" st_Way_pressed_in (a_Way_pressed_in K) (fdA K (a_Way_pressed_in K)) := He5.fun_of (C.fd 45)
theorem B_Way_pressed_in (C : Fx w K mg base) : Binds K (fdA K (a_Way_pressed_in K)) ["self", "short"] [] := (F_Way_pressed_in C).binds fun _ _ _ _ _ _ us hl => match us, hl with | [_, _], _ => rfl
abbrev a_Way_brought (K : PySem.W.Frag) : Addr := (d_Way_brought).at_ K
theorem S_Way_brought : FnScope ["self", "form", "place", "syllable", "at"] ["self", "form"] (defScope st_Way_brought) := ⟨rfl, rfl, rfl, by decide +kernel, rfl, by decide +kernel, by decide +kernel⟩
theorem F_Way_brought (C : Fx w K mg base) : Fun K "brought" "Way.brought" st_Way_brought (a_Way_brought K) (fdA K (a_Way_brought K)) := He5.fun_of (C.fd 46)
theorem B_Way_brought (C : Fx w K mg base) : Binds K (fdA K (a_Way_brought K)) ["self", "form"] [] := (F_Way_brought C).binds fun _ _ _ _ _ _ us hl => match us, hl with | [_, _], _ => rfl
abbrev a_paper (K : PySem.W.Frag) : Addr := (d_paper).at_ K
theorem S_paper : FnScope ["one", "other", "mine", "its"] ["one", "other"] (defScope st_paper) := ⟨rfl, rfl, rfl, by decide +kernel, rfl, by decide +kernel, by decide +kernel⟩
theorem F_paper (C : Fx w K mg base) : Fun K "paper" "paper" st_paper (a_paper K) (fdA K (a_paper K)) := He5.fun_of (C.fd 47)
theorem B_paper (C : Fx w K mg base) : Binds K (fdA K (a_paper K)) ["one", "other"] [] := (F_paper C).binds fun _ _ _ _ _ _ us hl => match us, hl with | [_, _], _ => rfl
abbrev a_walked (K : PySem.W.Frag) : Addr := (d_walked).at_ K
theorem S_walked : FnScope ["row", "value", "found"] ["row", "value"] (defScope st_walked) := ⟨rfl, rfl, rfl, by decide +kernel, rfl, by decide +kernel, by decide +kernel⟩
theorem F_walked (C : Fx w K mg base) : Fun K "walked" "walked" st_walked (a_walked K) (fdA K (a_walked K)) := He5.fun_of (C.fd 48)
theorem B_walked (C : Fx w K mg base) : Binds K (fdA K (a_walked K)) ["row", "value"] [] := (F_walked C).binds fun _ _ _ _ _ _ us hl => match us, hl with | [_, _], _ => rfl
abbrev a_paper_holds (K : PySem.W.Frag) : Addr := (d_paper_holds).at_ K
theorem S_paper_holds : FnScope ["one", "other", "value"] ["one", "other", "value"] (defScope st_paper_holds) := ⟨rfl, rfl, rfl, by decide +kernel, rfl, by decide +kernel, by decide +kernel⟩
theorem F_paper_holds (C : Fx w K mg base) : Fun K "paper_holds" "paper_holds" st_paper_holds (a_paper_holds K) (fdA K (a_paper_holds K)) := He5.fun_of (C.fd 49)
theorem B_paper_holds (C : Fx w K mg base) : Binds K (fdA K (a_paper_holds K)) ["one", "other", "value"] [] := (F_paper_holds C).binds fun _ _ _ _ _ _ us hl => match us, hl with | [_, _, _], _ => rfl
abbrev a_law_deal (K : PySem.W.Frag) : Addr := (d_law_deal).at_ K
theorem S_law_deal : FnScope ["_law_script", "_law_base", "_law_cells", "_law_mixed_here", "_law_cell"] ["_law_script", "_law_base"] (defScope st_law_deal) := ⟨rfl, rfl, rfl, by decide +kernel, rfl, by decide +kernel, by decide +kernel⟩
theorem F_law_deal (C : Fx w K mg base) : Fun K "_law_deal" "_law_deal" st_law_deal (a_law_deal K) (fdA K (a_law_deal K)) := He5.fun_of (C.fd 50)
theorem B_law_deal (C : Fx w K mg base) : Binds K (fdA K (a_law_deal K)) ["_law_script", "_law_base"] [] := (F_law_deal C).binds fun _ _ _ _ _ _ us hl => match us, hl with | [_, _], _ => rfl
abbrev a_law_draw (K : PySem.W.Frag) : Addr := (d_law_draw).at_ K
theorem S_law_draw : FnScope ["_law_deal_here", "_law_many", "_law_left", "_law_digit"] ["_law_deal_here", "_law_many"] (defScope st_law_draw) := ⟨rfl, rfl, rfl, by decide +kernel, rfl, by decide +kernel, by decide +kernel⟩
theorem F_law_draw (C : Fx w K mg base) : Fun K "_law_draw" "_law_draw" st_law_draw (a_law_draw K) (fdA K (a_law_draw K)) := He5.fun_of (C.fd 51)
theorem B_law_draw (C : Fx w K mg base) : Binds K (fdA K (a_law_draw K)) ["_law_deal_here", "_law_many"] [] := (F_law_draw C).binds fun _ _ _ _ _ _ us hl => match us, hl with | [_, _], _ => rfl
abbrev a_law_mixed (K : PySem.W.Frag) : Addr := (d_law_mixed).at_ K
theorem S_law_mixed : FnScope ["_law_deal_here", "_law_items", "_law_left", "_law_found"] ["_law_deal_here", "_law_items"] (defScope st_law_mixed) := ⟨rfl, rfl, rfl, by decide +kernel, rfl, by decide +kernel, by decide +kernel⟩
theorem F_law_mixed (C : Fx w K mg base) : Fun K "_law_mixed" "_law_mixed" st_law_mixed (a_law_mixed K) (fdA K (a_law_mixed K)) := He5.fun_of (C.fd 52)
theorem B_law_mixed (C : Fx w K mg base) : Binds K (fdA K (a_law_mixed K)) ["_law_deal_here", "_law_items"] [] := (F_law_mixed C).binds fun _ _ _ _ _ _ us hl => match us, hl with | [_, _], _ => rfl
abbrev a_law_names (K : PySem.W.Frag) : Addr := (d_law_names).at_ K
theorem S_law_names : FnScope ["_law_deal_here", "_law_many", "_law_letters", "_law_form_here", "_law_turn", "_law_found", "_law_spot", "_law_stem", "_law_words", "_law_k", "_law_letter"] ["_law_deal_here", "_law_many"] (defScope st_law_names) := ⟨rfl, rfl, rfl, by decide +kernel, rfl, by decide +kernel, by decide +kernel⟩
theorem F_law_names (C : Fx w K mg base) : Fun K "_law_names" "_law_names" st_law_names (a_law_names K) (fdA K (a_law_names K)) := He5.fun_of (C.fd 53)
theorem B_law_names (C : Fx w K mg base) : Binds K (fdA K (a_law_names K)) ["_law_deal_here", "_law_many"] [] := (F_law_names C).binds fun _ _ _ _ _ _ us hl => match us, hl with | [_, _], _ => rfl
abbrev a_law_pairs (K : PySem.W.Frag) : Addr := (d_law_pairs).at_ K
theorem S_law_pairs : FnScope ["_law_deal_here", "_law_kinds", "_law_form_here", "_law_found", "_law_at", "_law_kind", "_law_to", "_law_other", "_law_chance"] ["_law_deal_here", "_law_kinds"] (defScope st_law_pairs) := ⟨rfl, rfl, rfl, by decide +kernel, rfl, by decide +kernel, by decide +kernel⟩
theorem F_law_pairs (C : Fx w K mg base) : Fun K "_law_pairs" "_law_pairs" st_law_pairs (a_law_pairs K) (fdA K (a_law_pairs K)) := He5.fun_of (C.fd 54)
theorem B_law_pairs (C : Fx w K mg base) : Binds K (fdA K (a_law_pairs K)) ["_law_deal_here", "_law_kinds"] [] := (F_law_pairs C).binds fun _ _ _ _ _ _ us hl => match us, hl with | [_, _], _ => rfl
abbrev a_law_is_free (K : PySem.W.Frag) : Addr := (d_law_is_free).at_ K
theorem S_law_is_free : FnScope ["_law_pairs_here", "_law_one", "_law_other"] ["_law_pairs_here", "_law_one", "_law_other"] (defScope st_law_is_free) := ⟨rfl, rfl, rfl, by decide +kernel, rfl, by decide +kernel, by decide +kernel⟩
theorem F_law_is_free (C : Fx w K mg base) : Fun K "_law_is_free" "_law_is_free" st_law_is_free (a_law_is_free K) (fdA K (a_law_is_free K)) := He5.fun_of (C.fd 55)
theorem B_law_is_free (C : Fx w K mg base) : Binds K (fdA K (a_law_is_free K)) ["_law_pairs_here", "_law_one", "_law_other"] [] := (F_law_is_free C).binds fun _ _ _ _ _ _ us hl => match us, hl with | [_, _, _], _ => rfl
abbrev a_law_count (K : PySem.W.Frag) : Addr := (d_law_count).at_ K
theorem S_law_count : FnScope ["_law_deal_here", "_law_form_here"] ["_law_deal_here"] (defScope st_law_count) := ⟨rfl, rfl, rfl, by decide +kernel, rfl, by decide +kernel, by decide +kernel⟩
theorem F_law_count (C : Fx w K mg base) : Fun K "_law_count" "_law_count" st_law_count (a_law_count K) (fdA K (a_law_count K)) := He5.fun_of (C.fd 56)
theorem B_law_count (C : Fx w K mg base) : Binds K (fdA K (a_law_count K)) ["_law_deal_here"] [] := (F_law_count C).binds fun _ _ _ _ _ _ us hl => match us, hl with | [_], _ => rfl
abbrev a_law_row (K : PySem.W.Frag) : Addr := (d_law_row).at_ K
theorem S_law_row : FnScope ["_law_deal_here", "_law_kinds", "_law_many", "_law_found", "_law_turn", "_law_kind", "_law_count_here"] ["_law_deal_here", "_law_kinds", "_law_many"] (defScope st_law_row) := ⟨rfl, rfl, rfl, by decide +kernel, rfl, by decide +kernel, by decide +kernel⟩
theorem F_law_row (C : Fx w K mg base) : Fun K "_law_row" "_law_row" st_law_row (a_law_row K) (fdA K (a_law_row K)) := He5.fun_of (C.fd 57)
theorem B_law_row (C : Fx w K mg base) : Binds K (fdA K (a_law_row K)) ["_law_deal_here", "_law_kinds", "_law_many"] [] := (F_law_row C).binds fun _ _ _ _ _ _ us hl => match us, hl with | [_, _, _], _ => rfl
abbrev a_law_melting (K : PySem.W.Frag) : Addr := (d_law_melting).at_ K
theorem S_law_melting : FnScope ["_law_pairs_here", "_law_row_here", "_law_at", "_law_kind", "_law_count_here", "_law_to"] ["_law_pairs_here", "_law_row_here"] (defScope st_law_melting) := ⟨rfl, rfl, rfl, by decide +kernel, rfl, by decide +kernel, by decide +kernel⟩
theorem F_law_melting (C : Fx w K mg base) : Fun K "_law_melting" "_law_melting" st_law_melting (a_law_melting K) (fdA K (a_law_melting K)) := He5.fun_of (C.fd 58)
theorem B_law_melting (C : Fx w K mg base) : Binds K (fdA K (a_law_melting K)) ["_law_pairs_here", "_law_row_here"] [] := (F_law_melting C).binds fun _ _ _ _ _ _ us hl => match us, hl with | [_, _], _ => rfl
abbrev a_law_short (K : PySem.W.Frag) : Addr := (d_law_short).at_ K
theorem S_law_short : FnScope ["_law_pairs_here", "_law_some", "_law_pair", "_law_at", "_law_to", "_law_rest", "_law_place", "_law_one"] ["_law_pairs_here", "_law_some"] (defScope st_law_short) := ⟨rfl, rfl, rfl, by decide +kernel, rfl, by decide +kernel, by decide +kernel⟩
theorem F_law_short (C : Fx w K mg base) : Fun K "_law_short" "_law_short" st_law_short (a_law_short K) (fdA K (a_law_short K)) := He5.fun_of (C.fd 59)
theorem B_law_short (C : Fx w K mg base) : Binds K (fdA K (a_law_short K)) ["_law_pairs_here", "_law_some"] [] := (F_law_short C).binds fun _ _ _ _ _ _ us hl => match us, hl with | [_, _], _ => rfl
abbrev a_law_layers (K : PySem.W.Frag) : Addr := (d_law_layers).at_ K
theorem S_law_layers : FnScope ["_law_pairs_here", "_law_row_here", "_law_found", "_law_at", "_law_kind", "_law_count_here", "_law_under", "_law_to"] ["_law_pairs_here", "_law_row_here"] (defScope st_law_layers) := ⟨rfl, rfl, rfl, by decide +kernel, rfl, by decide +kernel, by decide +kernel⟩
theorem F_law_layers (C : Fx w K mg base) : Fun K "_law_layers" "_law_layers" st_law_layers (a_law_layers K) (fdA K (a_law_layers K)) := He5.fun_of (C.fd 60)
theorem B_law_layers (C : Fx w K mg base) : Binds K (fdA K (a_law_layers K)) ["_law_pairs_here", "_law_row_here"] [] := (F_law_layers C).binds fun _ _ _ _ _ _ us hl => match us, hl with | [_, _], _ => rfl
abbrev a_law_form (K : PySem.W.Frag) : Addr := (d_law_form).at_ K
theorem S_law_form : FnScope ["_law_pairs_here", "_law_row_here", "_law_keys", "_law_layer", "_law_one"] ["_law_pairs_here", "_law_row_here"] (defScope st_law_form) := ⟨rfl, rfl, rfl, by decide +kernel, rfl, by decide +kernel, by decide +kernel⟩
theorem F_law_form (C : Fx w K mg base) : Fun K "_law_form" "_law_form" st_law_form (a_law_form K) (fdA K (a_law_form K)) := He5.fun_of (C.fd 61)
theorem B_law_form (C : Fx w K mg base) : Binds K (fdA K (a_law_form K)) ["_law_pairs_here", "_law_row_here"] [] := (F_law_form C).binds fun _ _ _ _ _ _ us hl => match us, hl with | [_, _], _ => rfl
abbrev a_law_hang (K : PySem.W.Frag) : Addr := (d_law_hang).at_ K
theorem S_law_hang : FnScope ["_law_pairs_here", "_law_form_here", "_law_found", "_law_at", "_law_kind", "_law_count_here", "_law_under", "_law_to", "_law_spot"] ["_law_pairs_here", "_law_form_here"] (defScope st_law_hang) := ⟨rfl, rfl, rfl, by decide +kernel, rfl, by decide +kernel, by decide +kernel⟩
theorem F_law_hang (C : Fx w K mg base) : Fun K "_law_hang" "_law_hang" st_law_hang (a_law_hang K) (fdA K (a_law_hang K)) := He5.fun_of (C.fd 62)
theorem B_law_hang (C : Fx w K mg base) : Binds K (fdA K (a_law_hang K)) ["_law_pairs_here", "_law_form_here"] [] := (F_law_hang C).binds fun _ _ _ _ _ _ us hl => match us, hl with | [_, _], _ => rfl
abbrev a_law_blocks (K : PySem.W.Frag) : Addr := (d_law_blocks).at_ K
theorem S_law_blocks : FnScope ["_law_deal_here", "_law_kinds", "_law_pairs_here", "_law_found", "_law_turn", "_law_some", "_law_size", "_law_kind", "_law_one"] ["_law_deal_here", "_law_kinds", "_law_pairs_here"] (defScope st_law_blocks) := ⟨rfl, rfl, rfl, by decide +kernel, rfl, by decide +kernel, by decide +kernel⟩
theorem F_law_blocks (C : Fx w K mg base) : Fun K "_law_blocks" "_law_blocks" st_law_blocks (a_law_blocks K) (fdA K (a_law_blocks K)) := He5.fun_of (C.fd 63)
theorem B_law_blocks (C : Fx w K mg base) : Binds K (fdA K (a_law_blocks K)) ["_law_deal_here", "_law_kinds", "_law_pairs_here"] [] := (F_law_blocks C).binds fun _ _ _ _ _ _ us hl => match us, hl with | [_, _, _], _ => rfl
abbrev a_law_moves (K : PySem.W.Frag) : Addr := (d_law_moves).at_ K
theorem S_law_moves : FnScope ["_law_blocks_here", "_law_kinds", "_law_size", "_law_many", "_law_moves_here", "_law_found", "_law_kind", "_law_standing"] ["_law_blocks_here", "_law_kinds"] (defScope st_law_moves) := ⟨rfl, rfl, rfl, by decide +kernel, rfl, by decide +kernel, by decide +kernel⟩
theorem F_law_moves (C : Fx w K mg base) : Fun K "_law_moves" "_law_moves" st_law_moves (a_law_moves K) (fdA K (a_law_moves K)) := He5.fun_of (C.fd 64)
theorem B_law_moves (C : Fx w K mg base) : Binds K (fdA K (a_law_moves K)) ["_law_blocks_here", "_law_kinds"] [] := (F_law_moves C).binds fun _ _ _ _ _ _ us hl => match us, hl with | [_, _], _ => rfl
abbrev a_law_placed (K : PySem.W.Frag) : Addr := (d_law_placed).at_ K
theorem S_law_placed : FnScope ["_law_blocks_here", "_law_kind", "_law_standing", "_law_spot", "_law_base", "_law_many", "_law_moves_here", "_law_place"] ["_law_blocks_here", "_law_kind", "_law_standing"] (defScope st_law_placed) := ⟨rfl, rfl, rfl, by decide +kernel, rfl, by decide +kernel, by decide +kernel⟩
theorem F_law_placed (C : Fx w K mg base) : Fun K "_law_placed" "_law_placed" st_law_placed (a_law_placed K) (fdA K (a_law_placed K)) := He5.fun_of (C.fd 65)
theorem B_law_placed (C : Fx w K mg base) : Binds K (fdA K (a_law_placed K)) ["_law_blocks_here", "_law_kind", "_law_standing"] [] := (F_law_placed C).binds fun _ _ _ _ _ _ us hl => match us, hl with | [_, _, _], _ => rfl
abbrev a_law_led (K : PySem.W.Frag) : Addr := (d_law_led).at_ K
theorem S_law_led : FnScope ["_law_moves_here", "_law_row_here", "_law_standing", "_law_kind", "_law_count_here", "_law_ring", "_law_here"] ["_law_moves_here", "_law_row_here", "_law_standing"] (defScope st_law_led) := ⟨rfl, rfl, rfl, by decide +kernel, rfl, by decide +kernel, by decide +kernel⟩
theorem F_law_led (C : Fx w K mg base) : Fun K "_law_led" "_law_led" st_law_led (a_law_led K) (fdA K (a_law_led K)) := He5.fun_of (C.fd 66)
theorem B_law_led (C : Fx w K mg base) : Binds K (fdA K (a_law_led K)) ["_law_moves_here", "_law_row_here", "_law_standing"] [] := (F_law_led C).binds fun _ _ _ _ _ _ us hl => match us, hl with | [_, _, _], _ => rfl
abbrev a_law_bent (K : PySem.W.Frag) : Addr := (d_law_bent).at_ K
theorem S_law_bent : FnScope ["_law_deal_here", "_law_kinds", "_law_pairs_here", "_law_row_here", "_law_many", "_law_turn", "_law_form_here", "_law_at", "_law_kind", "_law_count_here"] ["_law_deal_here", "_law_kinds", "_law_pairs_here", "_law_row_here", "_law_many"] (defScope st_law_bent) := ⟨rfl, rfl, rfl, by decide +kernel, rfl, by decide +kernel, by decide +kernel⟩
theorem F_law_bent (C : Fx w K mg base) : Fun K "_law_bent" "_law_bent" st_law_bent (a_law_bent K) (fdA K (a_law_bent K)) := He5.fun_of (C.fd 67)
theorem B_law_bent (C : Fx w K mg base) : Binds K (fdA K (a_law_bent K)) ["_law_deal_here", "_law_kinds", "_law_pairs_here", "_law_row_here", "_law_many"] [] := (F_law_bent C).binds fun _ _ _ _ _ _ us hl => match us, hl with | [_, _, _, _, _], _ => rfl
abbrev a_law_some_order (K : PySem.W.Frag) : Addr := (d_law_some_order).at_ K
theorem S_law_some_order : FnScope ["_law_deal_here", "_law_pairs_here", "_law_form_here", "_law_found", "_law_left", "_law_hang_here", "_law_ready", "_law_at", "_law_to"] ["_law_deal_here", "_law_pairs_here", "_law_form_here"] (defScope st_law_some_order) := ⟨rfl, rfl, rfl, by decide +kernel, rfl, by decide +kernel, by decide +kernel⟩
theorem F_law_some_order (C : Fx w K mg base) : Fun K "_law_some_order" "_law_some_order" st_law_some_order (a_law_some_order K) (fdA K (a_law_some_order K)) := He5.fun_of (C.fd 68)
theorem B_law_some_order (C : Fx w K mg base) : Binds K (fdA K (a_law_some_order K)) ["_law_deal_here", "_law_pairs_here", "_law_form_here"] [] := (F_law_some_order C).binds fun _ _ _ _ _ _ us hl => match us, hl with | [_, _, _], _ => rfl
abbrev a_law_some_moves (K : PySem.W.Frag) : Addr := (d_law_some_moves).at_ K
theorem S_law_some_moves : FnScope ["_law_deal_here", "_law_kinds", "_law_pairs_here", "_law_size", "_law_found", "_law_kind", "_law_places", "_law_standing"] ["_law_deal_here", "_law_kinds", "_law_pairs_here"] (defScope st_law_some_moves) := ⟨rfl, rfl, rfl, by decide +kernel, rfl, by decide +kernel, by decide +kernel⟩
theorem F_law_some_moves (C : Fx w K mg base) : Fun K "_law_some_moves" "_law_some_moves" st_law_some_moves (a_law_some_moves K) (fdA K (a_law_some_moves K)) := He5.fun_of (C.fd 69)
theorem B_law_some_moves (C : Fx w K mg base) : Binds K (fdA K (a_law_some_moves K)) ["_law_deal_here", "_law_kinds", "_law_pairs_here"] [] := (F_law_some_moves C).binds fun _ _ _ _ _ _ us hl => match us, hl with | [_, _, _], _ => rfl
abbrev a_law_way_right (K : PySem.W.Frag) : Addr := (d_law_way_right).at_ K
theorem S_law_way_right : FnScope ["_law_row_here", "_law_steps", "_law_version", "_law_rings", "_law_ends", "_law_apart", "_law_at", "_law_step", "_law_great", "_law_kind", "_law_count_here", "_law_standing"] ["_law_row_here", "_law_steps", "_law_version", "_law_rings", "_law_ends"] (defScope st_law_way_right) := ⟨rfl, rfl, rfl, by decide +kernel, rfl, by decide +kernel, by decide +kernel⟩
theorem F_law_way_right (C : Fx w K mg base) : Fun K "_law_way_right" "_law_way_right" st_law_way_right (a_law_way_right K) (fdA K (a_law_way_right K)) := He5.fun_of (C.fd 70)
theorem B_law_way_right (C : Fx w K mg base) : Binds K (fdA K (a_law_way_right K)) ["_law_row_here", "_law_steps", "_law_version", "_law_rings", "_law_ends"] [] := (F_law_way_right C).binds fun _ _ _ _ _ _ us hl => match us, hl with | [_, _, _, _, _], _ => rfl
abbrev a_law_further (K : PySem.W.Frag) : Addr := (d_law_further).at_ K
theorem S_law_further : FnScope ["_law_steps", "_law_by", "_law_step"] ["_law_steps", "_law_by"] (defScope st_law_further) := ⟨rfl, rfl, rfl, by decide +kernel, rfl, by decide +kernel, by decide +kernel⟩
theorem F_law_further (C : Fx w K mg base) : Fun K "_law_further" "_law_further" st_law_further (a_law_further K) (fdA K (a_law_further K)) := He5.fun_of (C.fd 71)
theorem B_law_further (C : Fx w K mg base) : Binds K (fdA K (a_law_further K)) ["_law_steps", "_law_by"] [] := (F_law_further C).binds fun _ _ _ _ _ _ us hl => match us, hl with | [_, _], _ => rfl
abbrev a_law (K : PySem.W.Frag) : Addr := (d_law).at_ K
theorem S_law : FnScope ["_law_script", "_law_deal_here", "_law_turn", "_law_kinds", "_law_free", "_law_size", "_law_rings", "_law_table", "_law_told", "_law_some", "_law_one", "_law_two", "_law_three", "_law_ends", "_law_first", "_law_second", "_law_more", "_law_turned", "_law_order", "_law_item", "_law_standing", "_law_k"] ["_law_script"] (defScope st_law) := ⟨rfl, rfl, rfl, by decide +kernel, rfl, by decide +kernel, by decide +kernel⟩
theorem F_law (C : Fx w K mg base) : Fun K "law" "law" st_law (a_law K) (fdA K (a_law K)) := He5.fun_of (C.fd 72)
theorem B_law (C : Fx w K mg base) : Binds K (fdA K (a_law K)) ["_law_script"] [] := (F_law C).binds fun _ _ _ _ _ _ us hl => match us, hl with | [_], _ => rfl
end
end K91
/-! K2b -/
/-! the facts by names (printed by wip/gen/mkk2b.py) -/
namespace K91
open PySem PySem.Spec PyProof.Rows L2
section
variable {w : World} {K : PySem.W.Frag} {mg : Str → Option Value} {base : Heap}
theorem Fx.g_depths (C : Fx w K mg base) : mg "depths" = some (.ref (He.ga K "depths")) := C.gl 0
theorem Fx.g_layers_of (C : Fx w K mg base) : mg "layers_of" = some (.ref (He.ga K "layers_of")) := C.gl 1
theorem Fx.g_melting_at (C : Fx w K mg base) : mg "melting_at" = some (.ref (He.ga K "melting_at")) := C.gl 2
theorem Fx.g_formed (C : Fx w K mg base) : mg "formed" = some (.ref (He.ga K "formed")) := C.gl 3
theorem Fx.g_shortened (C : Fx w K mg base) : mg "shortened" = some (.ref (He.ga K "shortened")) := C.gl 4
theorem Fx.g_appended (C : Fx w K mg base) : mg "appended" = some (.ref (He.ga K "appended")) := C.gl 5
theorem Fx.g_firsts (C : Fx w K mg base) : mg "firsts" = some (.ref (He.ga K "firsts")) := C.gl 6
theorem Fx.i_LONGEST (C : Fx w K mg base) : ∃ t, mg "LONGEST" = some (.int 6 t) := C.int 7
theorem Fx.s_LETTERS (C : Fx w K mg base) : ∃ t, mg "LETTERS" = some (.str "abcdefghijklmnopqrstuvwxyz" t) := C.str 8
theorem Fx.i_MOST_DIGITS (C : Fx w K mg base) : ∃ t, mg "MOST_DIGITS" = some (.int 21 t) := C.int 9
theorem Fx.s_DIGITS (C : Fx w K mg base) : ∃ t, mg "DIGITS" = some (.str "0123456789" t) := C.str 10
theorem Fx.i_MOST_KINDS (C : Fx w K mg base) : ∃ t, mg "MOST_KINDS" = some (.int 12 t) := C.int 11
theorem Fx.g_is_name (C : Fx w K mg base) : mg "is_name" = some (.ref (He.ga K "is_name")) := C.gl 12
theorem Fx.g_check_kinds (C : Fx w K mg base) : mg "check_kinds" = some (.ref (He.ga K "check_kinds")) := C.gl 13
theorem Fx.g_in_pair (C : Fx w K mg base) : mg "in_pair" = some (.ref (He.ga K "in_pair")) := C.gl 14
theorem Fx.g_Table (C : Fx w K mg base) : mg "Table" = some (.ref (He.ga K "Table")) := C.gl 15
theorem Fx.g_integer_of (C : Fx w K mg base) : mg "integer_of" = some (.ref (He.ga K "integer_of")) := C.gl 16
theorem Fx.g_check_known (C : Fx w K mg base) : mg "check_known" = some (.ref (He.ga K "check_known")) := C.gl 17
theorem Fx.g_syllable_of (C : Fx w K mg base) : mg "syllable_of" = some (.ref (He.ga K "syllable_of")) := C.gl 18
theorem Fx.g_Row (C : Fx w K mg base) : mg "Row" = some (.ref (He.ga K "Row")) := C.gl 19
theorem Fx.g_word_of (C : Fx w K mg base) : mg "word_of" = some (.ref (He.ga K "word_of")) := C.gl 20
theorem Fx.i_LIMIT (C : Fx w K mg base) : ∃ t, mg "LIMIT" = some (.int 1000 t) := C.int 21
theorem Fx.g_limited (C : Fx w K mg base) : mg "limited" = some (.ref (He.ga K "limited")) := C.gl 22
theorem Fx.g_pressed (C : Fx w K mg base) : mg "pressed" = some (.ref (He.ga K "pressed")) := C.gl 23
theorem Fx.g_lasts (C : Fx w K mg base) : mg "lasts" = some (.ref (He.ga K "lasts")) := C.gl 24
theorem Fx.g_Version (C : Fx w K mg base) : mg "Version" = some (.ref (He.ga K "Version")) := C.gl 25
theorem Fx.g_is_integer (C : Fx w K mg base) : mg "is_integer" = some (.ref (He.ga K "is_integer")) := C.gl 26
theorem Fx.g_SHORT_STEPS (C : Fx w K mg base) : mg "SHORT_STEPS" = some (.ref (He.ga K "SHORT_STEPS")) := C.gl 27
theorem Fx.g_LONG_STEPS (C : Fx w K mg base) : mg "LONG_STEPS" = some (.ref (He.ga K "LONG_STEPS")) := C.gl 28
theorem Fx.g_done (C : Fx w K mg base) : mg "done" = some (.ref (He.ga K "done")) := C.gl 29
theorem Fx.g_exchange (C : Fx w K mg base) : mg "exchange" = some (.ref (He.ga K "exchange")) := C.gl 30
theorem Fx.g_drop (C : Fx w K mg base) : mg "drop" = some (.ref (He.ga K "drop")) := C.gl 31
theorem Fx.g_melt (C : Fx w K mg base) : mg "melt" = some (.ref (He.ga K "melt")) := C.gl 32
theorem Fx.g_check_tables (C : Fx w K mg base) : mg "check_tables" = some (.ref (He.ga K "check_tables")) := C.gl 33
theorem Fx.g_Way (C : Fx w K mg base) : mg "Way" = some (.ref (He.ga K "Way")) := C.gl 34
theorem Fx.g_all_done (C : Fx w K mg base) : mg "all_done" = some (.ref (He.ga K "all_done")) := C.gl 35
theorem Fx.g_walked (C : Fx w K mg base) : mg "walked" = some (.ref (He.ga K "walked")) := C.gl 36
theorem Fx.g_law_draw (C : Fx w K mg base) : mg "_law_draw" = some (.ref (He.ga K "_law_draw")) := C.gl 37
theorem Fx.g_law_mixed (C : Fx w K mg base) : mg "_law_mixed" = some (.ref (He.ga K "_law_mixed")) := C.gl 38
theorem Fx.g_law_count (C : Fx w K mg base) : mg "_law_count" = some (.ref (He.ga K "_law_count")) := C.gl 39
theorem Fx.g_law_is_free (C : Fx w K mg base) : mg "_law_is_free" = some (.ref (He.ga K "_law_is_free")) := C.gl 40
theorem Fx.g_law_melting (C : Fx w K mg base) : mg "_law_melting" = some (.ref (He.ga K "_law_melting")) := C.gl 41
theorem Fx.g_law_short (C : Fx w K mg base) : mg "_law_short" = some (.ref (He.ga K "_law_short")) := C.gl 42
theorem Fx.g_law_layers (C : Fx w K mg base) : mg "_law_layers" = some (.ref (He.ga K "_law_layers")) := C.gl 43
theorem Fx.g_law_placed (C : Fx w K mg base) : mg "_law_placed" = some (.ref (He.ga K "_law_placed")) := C.gl 44
theorem Fx.g_law_hang (C : Fx w K mg base) : mg "_law_hang" = some (.ref (He.ga K "_law_hang")) := C.gl 45
theorem Fx.g_law_moves (C : Fx w K mg base) : mg "_law_moves" = some (.ref (He.ga K "_law_moves")) := C.gl 46
theorem Fx.g_law_blocks (C : Fx w K mg base) : mg "_law_blocks" = some (.ref (He.ga K "_law_blocks")) := C.gl 47
theorem Fx.g_law_led (C : Fx w K mg base) : mg "_law_led" = some (.ref (He.ga K "_law_led")) := C.gl 48
theorem Fx.g_law_deal (C : Fx w K mg base) : mg "_law_deal" = some (.ref (He.ga K "_law_deal")) := C.gl 49
theorem Fx.g_law_names (C : Fx w K mg base) : mg "_law_names" = some (.ref (He.ga K "_law_names")) := C.gl 50
theorem Fx.g_law_pairs (C : Fx w K mg base) : mg "_law_pairs" = some (.ref (He.ga K "_law_pairs")) := C.gl 51
theorem Fx.g_law_some_moves (C : Fx w K mg base) : mg "_law_some_moves" = some (.ref (He.ga K "_law_some_moves")) := C.gl 52
theorem Fx.g_law_row (C : Fx w K mg base) : mg "_law_row" = some (.ref (He.ga K "_law_row")) := C.gl 53
theorem Fx.g_law_bent (C : Fx w K mg base) : mg "_law_bent" = some (.ref (He.ga K "_law_bent")) := C.gl 54
theorem Fx.g_paper (C : Fx w K mg base) : mg "paper" = some (.ref (He.ga K "paper")) := C.gl 55
theorem Fx.g_paper_holds (C : Fx w K mg base) : mg "paper_holds" = some (.ref (He.ga K "paper_holds")) := C.gl 56
theorem Fx.g_law_way_right (C : Fx w K mg base) : mg "_law_way_right" = some (.ref (He.ga K "_law_way_right")) := C.gl 57
theorem Fx.g_law_further (C : Fx w K mg base) : mg "_law_further" = some (.ref (He.ga K "_law_further")) := C.gl 58
theorem Fx.g_law_some_order (C : Fx w K mg base) : mg "_law_some_order" = some (.ref (He.ga K "_law_some_order")) := C.gl 59
theorem Fx.g_law_form (C : Fx w K mg base) : mg "_law_form" = some (.ref (He.ga K "_law_form")) := C.gl 60
theorem Fx.z_range (C : Fx w K mg base) : mg "range" = none := C.no 61
theorem Fx.z_len (C : Fx w K mg base) : mg "len" = none := C.no 62
theorem Fx.z_max (C : Fx w K mg base) : mg "max" = none := C.no 63
theorem Fx.z_zip (C : Fx w K mg base) : mg "zip" = none := C.no 64
theorem Fx.z_tuple (C : Fx w K mg base) : mg "tuple" = none := C.no 65
theorem Fx.z_sorted (C : Fx w K mg base) : mg "sorted" = none := C.no 66
theorem Fx.z_list (C : Fx w K mg base) : mg "list" = none := C.no 67
theorem Fx.z_enumerate (C : Fx w K mg base) : mg "enumerate" = none := C.no 68
theorem Fx.z_isinstance (C : Fx w K mg base) : mg "isinstance" = none := C.no 69
theorem Fx.z_int (C : Fx w K mg base) : mg "int" = none := C.no 70
theorem Fx.z_bool (C : Fx w K mg base) : mg "bool" = none := C.no 71
theorem Fx.z_str (C : Fx w K mg base) : mg "str" = none := C.no 72
theorem Fx.z_all (C : Fx w K mg base) : mg "all" = none := C.no 73
theorem Fx.z_set (C : Fx w K mg base) : mg "set" = none := C.no 74
theorem Fx.z_dict (C : Fx w K mg base) : mg "dict" = none := C.no 75
theorem Fx.z_min (C : Fx w K mg base) : mg "min" = none := C.no 76
theorem Fx.c_Table (C : Fx w K mg base) : Cls K (He.ga K "Table") := C.cls 77
theorem Fx.k_Table (C : Fx w K mg base) : Mk K (He.ga K "Table") (a_Table_Dinit K) := C.mkr 78
theorem Fx.n_Table_kinds (C : Fx w K mg base) : NoAttr K (He.ga K "Table") "kinds" := C.noat 79
theorem Fx.n_Table_pairs (C : Fx w K mg base) : NoAttr K (He.ga K "Table") "pairs" := C.noat 80
theorem Fx.n_Table_linked (C : Fx w K mg base) : NoAttr K (He.ga K "Table") "linked" := C.noat 81
theorem Fx.c_Row (C : Fx w K mg base) : Cls K (He.ga K "Row") := C.cls 82
theorem Fx.k_Row (C : Fx w K mg base) : Mk K (He.ga K "Row") (a_Row_Dinit K) := C.mkr 83
theorem Fx.n_Row_table (C : Fx w K mg base) : NoAttr K (He.ga K "Row") "table" := C.noat 84
theorem Fx.n_Row_syllables (C : Fx w K mg base) : NoAttr K (He.ga K "Row") "syllables" := C.noat 85
theorem Fx.c_Version (C : Fx w K mg base) : Cls K (He.ga K "Version") := C.cls 86
theorem Fx.k_Version (C : Fx w K mg base) : Mk K (He.ga K "Version") (a_Version_Dinit K) := C.mkr 87
theorem Fx.n_Version_table (C : Fx w K mg base) : NoAttr K (He.ga K "Version") "table" := C.noat 88
theorem Fx.n_Version_syllables (C : Fx w K mg base) : NoAttr K (He.ga K "Version") "syllables" := C.noat 89
theorem Fx.n_Version_row (C : Fx w K mg base) : NoAttr K (He.ga K "Version") "row" := C.noat 90
theorem Fx.n_Version_kinds (C : Fx w K mg base) : NoAttr K (He.ga K "Version") "kinds" := C.noat 91
theorem Fx.n_Version_layers (C : Fx w K mg base) : NoAttr K (He.ga K "Version") "layers" := C.noat 92
theorem Fx.n_Version_last (C : Fx w K mg base) : NoAttr K (He.ga K "Version") "last" := C.noat 93
theorem Fx.c_Way (C : Fx w K mg base) : Cls K (He.ga K "Way") := C.cls 94
theorem Fx.k_Way (C : Fx w K mg base) : Mk K (He.ga K "Way") (a_Way_Dinit K) := C.mkr 95
theorem Fx.n_Way_table (C : Fx w K mg base) : NoAttr K (He.ga K "Way") "table" := C.noat 96
theorem Fx.n_Way_row (C : Fx w K mg base) : NoAttr K (He.ga K "Way") "row" := C.noat 97
theorem Fx.n_Way_steps (C : Fx w K mg base) : NoAttr K (He.ga K "Way") "steps" := C.noat 98
theorem Fx.n_Way_back (C : Fx w K mg base) : NoAttr K (He.ga K "Way") "back" := C.noat 99
theorem Fx.m_Table_links (C : Fx w K mg base) : Meth K (He.ga K "Table") "links" (a_Table_links K) := C.meth 100
theorem Fx.m_Table_Dcontains (C : Fx w K mg base) : Meth K (He.ga K "Table") "__contains__" (a_Table_Dcontains K) := C.meth 101
theorem Fx.m_Table_Deq (C : Fx w K mg base) : Meth K (He.ga K "Table") "__eq__" (a_Table_Deq K) := C.meth 102
theorem Fx.m_Row_Dlen (C : Fx w K mg base) : Meth K (He.ga K "Row") "__len__" (a_Row_Dlen K) := C.meth 103
theorem Fx.m_Row_Dadd (C : Fx w K mg base) : Meth K (He.ga K "Row") "__add__" (a_Row_Dadd K) := C.meth 104
theorem Fx.m_Row_Dinvert (C : Fx w K mg base) : Meth K (He.ga K "Row") "__invert__" (a_Row_Dinvert K) := C.meth 105
theorem Fx.m_Row_Deq (C : Fx w K mg base) : Meth K (He.ga K "Row") "__eq__" (a_Row_Deq K) := C.meth 106
theorem Fx.m_Row_Dstr (C : Fx w K mg base) : Meth K (He.ga K "Row") "__str__" (a_Row_Dstr K) := C.meth 107
theorem Fx.m_Version_Deq (C : Fx w K mg base) : Meth K (He.ga K "Version") "__eq__" (a_Version_Deq K) := C.meth 108
theorem Fx.m_Way_exchanged (C : Fx w K mg base) : Meth K (He.ga K "Way") "exchanged" (a_Way_exchanged K) := C.meth 109
theorem Fx.m_Way_moved_down (C : Fx w K mg base) : Meth K (He.ga K "Way") "moved_down" (a_Way_moved_down K) := C.meth 110
theorem Fx.m_Way_dropped (C : Fx w K mg base) : Meth K (He.ga K "Way") "dropped" (a_Way_dropped K) := C.meth 111
theorem Fx.m_Way_melting_place (C : Fx w K mg base) : Meth K (He.ga K "Way") "melting_place" (a_Way_melting_place K) := C.meth 112
theorem Fx.m_Way_pressed_in (C : Fx w K mg base) : Meth K (He.ga K "Way") "pressed_in" (a_Way_pressed_in K) := C.meth 113
theorem Fx.m_Way_brought (C : Fx w K mg base) : Meth K (He.ga K "Way") "brought" (a_Way_brought K) := C.meth 114
theorem B_Table_Dinit (C : Fx w K mg base) : Binds K (fdA K (a_Table_Dinit K)) ["self", "kinds", "pairs"] [] := by
  obtain ⟨ds, h1, h2⟩ := (F_Table_Dinit C).binds1 (ps := ["self", "kinds", "pairs"]) 3 1 (by intro z; cases z) rfl fun T kV doc pm an cdv ct us its h1 h2 => by
    match us, h1, its, h2 with
    | [_, _, _], _, [_], _ => exact ⟨_, rfl, rfl⟩
  have e : ds = [] := by
    cases ds with
    | nil => rfl
    | cons _ _ => cases h1
  rw [← e]
  exact h2
theorem B_Row_Dinit (C : Fx w K mg base) : Binds K (fdA K (a_Row_Dinit K)) ["self", "table", "syllables"] [] := by
  obtain ⟨ds, h1, h2⟩ := (F_Row_Dinit C).binds1 (ps := ["self", "table", "syllables"]) 3 1 (by intro z; cases z) rfl fun T kV doc pm an cdv ct us its h1 h2 => by
    match us, h1, its, h2 with
    | [_, _, _], _, [_], _ => exact ⟨_, rfl, rfl⟩
  have e : ds = [] := by
    cases ds with
    | nil => rfl
    | cons _ _ => cases h1
  rw [← e]
  exact h2
theorem B_Version_Dinit (C : Fx w K mg base) : Binds K (fdA K (a_Version_Dinit K)) ["self", "table", "syllables"] [] := by
  obtain ⟨ds, h1, h2⟩ := (F_Version_Dinit C).binds1 (ps := ["self", "table", "syllables"]) 3 1 (by intro z; cases z) rfl fun T kV doc pm an cdv ct us its h1 h2 => by
    match us, h1, its, h2 with
    | [_, _, _], _, [_], _ => exact ⟨_, rfl, rfl⟩
  have e : ds = [] := by
    cases ds with
    | nil => rfl
    | cons _ _ => cases h1
  rw [← e]
  exact h2
end
/-! ### packages for calls -/
/-- a def that keeps its promise, by its global name -/
structure Dn (P : Program) (w : World) (K : PySem.W.Frag) (mg : Str → Option Value) (base : Heap) (k : Nat) (f : Addr) (fd : FuncData) (ps : List Str) (sp : Sp) (x : Str) : Prop where
  ok : FnOk P w K mg base CX0 k f fd ps sp
  m : mg x = some (.ref f)
  kp : PySem.W.keepIn K (.ref f) = true
  b : Binds K fd ps []
structure Dm (P : Program) (w : World) (K : PySem.W.Frag) (mg : Str → Option Value) (base : Heap) (k : Nat) (C f : Addr) (fd : FuncData) (ps : List Str) (sp : Sp) (x : Str) : Prop where
  ok : FnOk P w K mg base CX0 k f fd ps sp
  c : Cls K C
  m : Meth K C x f
  b : Binds K fd ps []
structure Dk (P : Program) (w : World) (K : PySem.W.Frag) (mg : Str → Option Value) (base : Heap) (k : Nat) (C f : Addr) (fd : FuncData) (ps : List Str) (sp : Sp) (x : Str) : Prop where
  ok : FnOk P w K mg base CX0 k f fd ps sp
  k : Mk K C f
  m : mg x = some (.ref C)
  b : Binds K fd ps []
section
variable {X : Cx} {k : Nat} {f C : Addr} {fd : FuncData} {ps : List Str} {sp : Sp} {x : Str} {e o : Expr} {es : List Expr} {t : TA} {ta : TE} {p pos apos : Pos}
theorem pe_cd (D : Dn X.prog X.w X.K X.mg X.base k f fd ps sp x) (hr : Room k X.A) (ha : PA X (e :: es) t) (hg : Gl X x := by rfl) (hdb : (x == ("__debug__" : Str)) = false := by decide)
    (he : starEach (e :: es) X.env = (false, eval e X.env) :: starEach es X.env := by rfl) (hpl : (backTo pos (starEach es X.env)).any (·.1) = false := by rfl) :
    PE X (.Call (.Name x p) (e :: es) [] pos) (tCall sp [] E0 t) := pe_call D.ok hr hg D.m D.kp D.b .nil pass0 ha hdb he hpl
theorem pe_md {pl : Sem Bool} (D : Dm X.prog X.w X.K X.mg X.base k C f fd ps sp x) (hr : Room k X.A) (he : PE X o ta) (ha : PA X (e :: es) t)
    (hst : starEach (e :: es) X.env = (false, eval e X.env) :: starEach es X.env := by rfl) (hpl : (backTo pos (starEach es X.env)).any (·.1) = false := by rfl)
    (ht : eval (.Call (.Attribute o x apos) (e :: es) [] pos) X.env = (do
      let ov ← eval o X.env
      standAt apos.atName
      let (f, first) ← holding [ov] (getMethod ov x pl)
      callWith pos f first (backTo pos (starEach (e :: es) X.env)) (backToKw pos (keywordEach [] X.env))) := by rfl) :
    PE X (.Call (.Attribute o x apos) (e :: es) [] pos) (tMeth C x sp [] E0 ta t) := pe_meth he D.c D.m D.ok hr D.b .nil pass0 ha hst hpl ht
theorem pe_mk (D : Dk X.prog X.w X.K X.mg X.base k C f fd ps sp x) (hr : Room (k + 1) X.A) (ha : PA X (e :: es) t) (hg : Gl X x := by rfl) (hdb : (x == ("__debug__" : Str)) = false := by decide)
    (he : starEach (e :: es) X.env = (false, eval e X.env) :: starEach es X.env := by rfl) (hpl : (backTo pos (starEach es X.env)).any (·.1) = false := by rfl) :
    PE X (.Call (.Name x p) (e :: es) [] pos) (tMake C sp [] E0 t) := pe_make D.k D.ok hr hg D.m D.b .nil pass0 ha hdb he hpl
end
end K91
/-! K3 -/
/-! heaps that grow, data on the heap -/
namespace K91
open PySem PySem.Spec PyProof.Rows L2
/-! ### lists in pairs -/
section
variable {α β : Type} {R R' : α → β → Prop}
theorem pr_get : ∀ {xs : List α} {ys : List β}, Paired R xs ys → ∀ {i : Nat} {y : β}, ys[i]? = some y → ∃ x, xs[i]? = some x ∧ R x y
  | _, _, .nil, _, _, e => by simp at e
  | _, _, .cons r t, 0, y, e => by
    simp only [List.getElem?_cons_zero, Option.some.injEq] at e
    subst e
    exact ⟨_, rfl, r⟩
  | _, _, .cons r t, i + 1, y, e => by
    simp only [List.getElem?_cons_succ] at e ⊢
    exact pr_get t e
theorem pr_get' : ∀ {xs : List α} {ys : List β}, Paired R xs ys → ∀ {i : Nat} {x : α}, xs[i]? = some x → ∃ y, ys[i]? = some y ∧ R x y
  | _, _, .nil, _, _, e => by simp at e
  | _, _, .cons r t, 0, y, e => by
    simp only [List.getElem?_cons_zero, Option.some.injEq] at e
    subst e
    exact ⟨_, rfl, r⟩
  | _, _, .cons r t, i + 1, y, e => by
    simp only [List.getElem?_cons_succ] at e ⊢
    exact pr_get' t e
theorem pr_app : ∀ {xs : List α} {ys : List β} {xs' : List α} {ys' : List β}, Paired R xs ys → Paired R xs' ys' → Paired R (xs ++ xs') (ys ++ ys')
  | _, _, _, _, .nil, s => s
  | _, _, _, _, .cons r t, s => .cons r (pr_app t s)
theorem pr_take : ∀ (n : Nat) {xs : List α} {ys : List β}, Paired R xs ys → Paired R (xs.take n) (ys.take n)
  | 0, _, _, _ => .nil
  | _ + 1, _, _, .nil => .nil
  | n + 1, _, _, .cons r t => .cons r (pr_take n t)
theorem pr_drop : ∀ (n : Nat) {xs : List α} {ys : List β}, Paired R xs ys → Paired R (xs.drop n) (ys.drop n)
  | 0, _, _, r => r
  | _ + 1, _, _, .nil => .nil
  | n + 1, _, _, .cons _ t => pr_drop n t
theorem pr_rev : ∀ {xs : List α} {ys : List β}, Paired R xs ys → Paired R xs.reverse ys.reverse
  | _, _, .nil => .nil
  | _, _, .cons r t => by
    rw [List.reverse_cons, List.reverse_cons]
    exact pr_app (pr_rev t) (.cons r .nil)
theorem pr_set {x : α} {y : β} (h : R x y) : ∀ (i : Nat) {xs : List α} {ys : List β}, Paired R xs ys → Paired R (xs.set i x) (ys.set i y)
  | _, _, _, .nil => .nil
  | 0, _, _, .cons _ t => .cons h t
  | i + 1, _, _, .cons r t => .cons r (pr_set h i t)
theorem pr_erase : ∀ (i : Nat) {xs : List α} {ys : List β}, Paired R xs ys → Paired R (xs.eraseIdx i) (ys.eraseIdx i)
  | _, _, _, .nil => .nil
  | 0, _, _, .cons _ t => t
  | i + 1, _, _, .cons r t => .cons r (pr_erase i t)
theorem pr_map {γ : Type} {f : γ → α} {g : γ → β} : ∀ (l : List γ), (∀ z ∈ l, R (f z) (g z)) → Paired R (l.map f) (l.map g)
  | [], _ => .nil
  | z :: l, h => .cons (h z List.mem_cons_self) (pr_map l fun y hy => h y (List.mem_cons_of_mem _ hy))
theorem pr_mono (h : ∀ x y, R x y → R' x y) {xs : List α} {ys : List β} (p : Paired R xs ys) : Paired R' xs ys := Paired.mapP p h
theorem pr_len {xs : List α} {ys : List β} (p : Paired R xs ys) : xs.length = ys.length := Paired.length p
theorem pr_nil_iff {xs : List α} {ys : List β} (p : Paired R xs ys) : xs = [] ↔ ys = [] := by
  cases p with
  | nil => simp
  | cons _ _ => simp
end
/-! ### heaps -/
abbrev Ex := @Evl.Ex
/-- all but the places X are as they were -/
def Kx (X : Addr → Prop) (H H' : Hp) : Prop := ∀ a o, ¬ X a → H a = some o → H' a = some o
/-- all that is no list is as it was -/
def Nx (H H' : Hp) : Prop := ∀ a o, H a = some o → (∀ xs, o ≠ .lst xs) → H' a = some o
section
variable {X Y : Addr → Prop} {H H1 H2 H' : Hp} {p a : Addr} {o : HO}
theorem Kx.refl (H : Hp) : Kx X H H := fun _ _ _ h => h
theorem Kx.trans (e : Kx X H H1) (f : Kx X H1 H2) : Kx X H H2 := fun a o n h => f a o n (e a o n h)
theorem Kx.mono (e : Kx X H H1) (h : ∀ a, X a → Y a) : Kx Y H H1 := fun a o n q => e a o (fun z => n (h a z)) q
theorem Kx.ofEx (e : Evl.Ex H H1) : Kx X H H1 := fun a o _ h => e a o h
theorem Kx.ex (e : Kx (fun _ => False) H H1) : Evl.Ex H H1 := fun a o h => e a o (fun z => z) h
theorem Kx.exOf (e : Kx X H H1) (h : ∀ a, X a → H a = none) : Evl.Ex H H1 := fun a o q => e a o (fun z => by rw [h a z] at q; cases q) q
theorem Kx.new (h : H p = none) : Kx X H (upd H p o) := Kx.ofEx (Evl.Ex.new h)
theorem Kx.to (e : Kx X H H1) (h : X p ∨ H p = none) : Kx X H (upd H1 p o) := fun a u n q => by
  by_cases z : a = p
  · subst z
    rcases h with h | h
    · exact absurd h n
    · rw [h] at q; cases q
  · rw [upd_ne z]; exact e a u n q
theorem Nx.refl (H : Hp) : Nx H H := fun _ _ h _ => h
theorem Nx.trans (e : Nx H H1) (f : Nx H1 H2) : Nx H H2 := fun a o h n => f a o (e a o h n) n
theorem Nx.ofEx (e : Evl.Ex H H1) : Nx H H1 := fun a o h _ => e a o h
theorem Kx.nx (e : Kx X H H1) (h : ∀ a, X a → ∀ o, H a = some o → ∃ xs, o = .lst xs) : Nx H H1 := fun a o q n => e a o (fun z => by
  obtain ⟨xs, e⟩ := h a z o q
  exact n xs e) q
theorem Nx.upd (e : Nx H H1) (h : H p = none ∨ ∃ xs, H p = some (.lst xs)) : Nx H (upd H1 p o) := fun a u q n => by
  by_cases z : a = p
  · subst z
    rcases h with h | ⟨xs, h⟩
    · rw [h] at q; cases q
    · rw [h] at q
      cases q
      exact absurd rfl (n xs)
  · rw [upd_ne z]; exact e a u q n
theorem Evl.Ex.upd (e : Evl.Ex H H1) (h : H p = none) : Evl.Ex H (upd H1 p o) := Evl.Ex.mut e h
theorem ex_new (h : H p = none) : Evl.Ex H (L2.upd H p o) := Evl.Ex.new h
theorem ex_free (e : Evl.Ex H H1) (h : H1 p = none) : H p = none := Evl.fresh_back e h
theorem Kx.free (e : Kx X H H1) (h : ¬ X p) (h1 : H1 p = none) : H p = none := by
  cases q : H p with
  | none => rfl
  | some o =>
    rw [e p o h q] at h1
    cases h1
theorem Nx.free (e : Nx H H1) (h : ∀ xs, H p ≠ some (.lst xs)) (h1 : H1 p = none) : H p = none := by
  cases q : H p with
  | none => rfl
  | some o =>
    rw [e p o q (fun xs z => h xs (by rw [q, z]))] at h1
    cases h1
end
section
variable {K : PySem.W.Frag} {H H' : Hp} {a : Addr} {xs : List V}
theorem nx_t (e : Nx H H') (h : SqT K H a xs) : SqT K H' a xs := by
  rcases h with (h | ⟨o, h⟩) | h
  · exact .inl (.inl (e _ _ h fun _ z => by cases z))
  · exact .inl (.inr ⟨o, e _ _ h fun _ z => by cases z⟩)
  · exact .inr h
theorem t_of (h : H a = some (.tup xs)) : SqT K H a xs := .inl (.inl h)
theorem l_of (h : H a = some (.lst xs)) : SqL K H a xs := .inl (.inl h)
end
/-! ### syllables and rows -/
abbrev Syl := Str × Int
/-- v is the syllable y -/
def Sy (K : PySem.W.Frag) (H : Hp) (v : V) (y : Syl) : Prop := ∃ p, v = .ref p ∧ SqT K H p [.str y.1, .int y.2]
abbrev Sys (K : PySem.W.Frag) (H : Hp) : List V → List Syl → Prop := Paired (Sy K H)
theorem Sy.nx {K : PySem.W.Frag} {H H' : Hp} (e : Nx H H') {v : V} {y : Syl} (h : Sy K H v y) : Sy K H' v y := let ⟨p, a, b⟩ := h; ⟨p, a, nx_t e b⟩
theorem sys_nx {K : PySem.W.Frag} {H H' : Hp} (e : Nx H H') {vs : List V} {r : List Syl} (h : Sys K H vs r) : Sys K H' vs r := pr_mono (fun _ _ z => z.nx e) h
/-- v is a tuple of the syllables r; the tracked list at l is -/
def RowT (K : PySem.W.Frag) (H : Hp) (v : V) (r : List Syl) : Prop := ∃ p vs, v = .ref p ∧ SqT K H p vs ∧ Sys K H vs r
def RowL (K : PySem.W.Frag) (H : Hp) (l : Addr) (r : List Syl) : Prop := ∃ vs, H l = some (.lst vs) ∧ Sys K H vs r
theorem RowT.nx {K : PySem.W.Frag} {H H' : Hp} (e : Nx H H') {v : V} {r : List Syl} (h : RowT K H v r) : RowT K H' v r := let ⟨p, vs, a, b, c⟩ := h; ⟨p, vs, a, nx_t e b, sys_nx e c⟩
/-- any list or tuple of the syllables r, as it stands -/
def RowA (K : PySem.W.Frag) (H : Hp) (v : V) (r : List Syl) : Prop := ∃ p vs, v = .ref p ∧ (SqL K H p vs ∨ SqT K H p vs) ∧ Sys K H vs r
theorem RowT.a {K : PySem.W.Frag} {H : Hp} {v : V} {r : List Syl} (h : RowT K H v r) : RowA K H v r := let ⟨p, vs, a, b, c⟩ := h; ⟨p, vs, a, .inr b, c⟩
theorem RowL.a {K : PySem.W.Frag} {H : Hp} {l : Addr} {r : List Syl} (h : RowL K H l r) : RowA K H (.ref l) r := let ⟨vs, a, c⟩ := h; ⟨l, vs, rfl, .inl (l_of a), c⟩
/-! ### tables -/
structure Tb where
  kinds : List Str
  prs : List (Str × Str)
  fr : Str → Str → Bool
  nd : kinds.Nodup
  sym : ∀ a b, fr a b = fr b a
  irr : ∀ a, fr a a = false
  few : kinds.length ≤ 12
def Tb.links (T : Tb) (k : Str) : List Str := T.kinds.filter fun o => !T.fr k o
def PrT (K : PySem.W.Frag) (H : Hp) (v : V) (y : Str × Str) : Prop := ∃ p, v = .ref p ∧ SqT K H p [.str y.1, .str y.2]
theorem PrT.nx {K : PySem.W.Frag} {H H' : Hp} (e : Nx H H') {v : V} {y : Str × Str} (h : PrT K H v y) : PrT K H' v y := let ⟨p, a, b⟩ := h; ⟨p, a, nx_t e b⟩
/-- v is a table object that says T -/
def TabV (K : PySem.W.Frag) (H : Hp) (v : V) (T : Tb) : Prop := ∃ a dx pk pp pl vs, ∃ lk : Str → Addr, v = .ref a ∧ H a = some (.ins (He.ga K "Table") dx [("kinds", .ref pk), ("pairs", .ref pp), ("linked", .ref pl)]) ∧
  SqT K H pk (T.kinds.map V.str) ∧ SqT K H pp vs ∧ Paired (PrT K H) vs T.prs ∧ H pl = some (.dK (T.kinds.map fun k => (Sum.inr k, V.ref (lk k)))) ∧ ∀ k ∈ T.kinds, SqT K H (lk k) ((T.links k).map V.str)
theorem TabV.nx {K : PySem.W.Frag} {H H' : Hp} (e : Nx H H') {v : V} {T : Tb} (h : TabV K H v T) : TabV K H' v T := by
  obtain ⟨a, dx, pk, pp, pl, vs, lk, h1, h2, h3, h4, h5, h6, h7⟩ := h
  exact ⟨a, dx, pk, pp, pl, vs, lk, h1, e _ _ h2 (fun _ z => by cases z), nx_t e h3, nx_t e h4, pr_mono (fun _ _ z => z.nx e) h5, e _ _ h6 (fun _ z => by cases z), fun k hk => nx_t e (h7 k hk)⟩
/-- all kinds of a row are the table's -/
def Kin (T : Tb) (r : List Syl) : Prop := ∀ y ∈ r, y.1 ∈ T.kinds
/-- v is a row object -/
def RowV (K : PySem.W.Frag) (H : Hp) (v : V) (T : Tb) (r : List Syl) : Prop := ∃ a dx t p, v = .ref a ∧ H a = some (.ins (He.ga K "Row") dx [("table", t), ("syllables", p)]) ∧ TabV K H t T ∧ RowT K H p r
theorem RowV.nx {K : PySem.W.Frag} {H H' : Hp} (e : Nx H H') {v : V} {T : Tb} {r : List Syl} (h : RowV K H v T r) : RowV K H' v T r := by
  obtain ⟨a, dx, t, p, h1, h2, h3, h4⟩ := h
  exact ⟨a, dx, t, p, h1, e _ _ h2 (fun _ z => by cases z), h3.nx e, h4.nx e⟩
end K91
/-! MathA -/
/-! rows of syllables, alike rows, pressing: plain Lean -/
namespace K91
abbrev Rw (K : Type) := List (K × Int)
section
variable {K : Type} [DecidableEq K]
/-- exchanges of free neighbours, one after the other -/
inductive Sw (fr : K → K → Bool) : Rw K → Rw K → Prop where
  | refl (s : Rw K) : Sw fr s s
  | swap (u : Rw K) (a b : K × Int) (v : Rw K) {t : Rw K} : fr a.1 b.1 = true → Sw fr (u ++ b :: a :: v) t → Sw fr (u ++ a :: b :: v) t
/-- alike rows: exchange, melt, drop, and back -/
inductive Al (fr : K → K → Bool) : Rw K → Rw K → Prop where
  | refl (s : Rw K) : Al fr s s
  | swap (u : Rw K) (a b : K × Int) (v : Rw K) : fr a.1 b.1 = true → Al fr (u ++ a :: b :: v) (u ++ b :: a :: v)
  | melt (u : Rw K) (k : K) (n m : Int) (v : Rw K) : Al fr (u ++ (k, n) :: (k, m) :: v) (u ++ (k, n + m) :: v)
  | drop (u : Rw K) (k : K) (v : Rw K) : Al fr (u ++ (k, 0) :: v) (u ++ v)
  | symm {s t : Rw K} : Al fr s t → Al fr t s
  | trans {s t r : Rw K} : Al fr s t → Al fr t r → Al fr s r
variable {fr : K → K → Bool}
theorem Sw.trans {s t r : Rw K} (h : Sw fr s t) (g : Sw fr t r) : Sw fr s r := by
  induction h with
  | refl _ => exact g
  | swap u a b v e _ ih => exact .swap u a b v e (ih g)
theorem Sw.one (u : Rw K) (a b : K × Int) (v : Rw K) (e : fr a.1 b.1 = true) : Sw fr (u ++ a :: b :: v) (u ++ b :: a :: v) := .swap u a b v e (.refl _)
theorem Sw.symm (hs : ∀ a b, fr a b = fr b a) {s t : Rw K} (h : Sw fr s t) : Sw fr t s := by
  induction h with
  | refl _ => exact .refl _
  | swap u a b v e _ ih => exact ih.trans (.one u b a v (by rw [hs]; exact e))
theorem Sw.pre (w : Rw K) {s t : Rw K} (h : Sw fr s t) : Sw fr (w ++ s) (w ++ t) := by
  induction h with
  | refl _ => exact .refl _
  | swap u a b v e _ ih =>
    rw [← List.append_assoc] at ih ⊢
    exact .swap (w ++ u) a b v e ih
theorem Sw.cons (x : K × Int) {s t : Rw K} (h : Sw fr s t) : Sw fr (x :: s) (x :: t) := h.pre [x]
theorem Sw.post (w : Rw K) {s t : Rw K} (h : Sw fr s t) : Sw fr (s ++ w) (t ++ w) := by
  induction h with
  | refl _ => exact .refl _
  | swap u a b v e _ ih =>
    have q : u ++ a :: b :: v ++ w = u ++ a :: b :: (v ++ w) := by simp
    have q2 : u ++ b :: a :: v ++ w = u ++ b :: a :: (v ++ w) := by simp
    rw [q2] at ih
    rw [q]
    exact .swap u a b (v ++ w) e ih
theorem Sw.perm {s t : Rw K} (h : Sw fr s t) : s.Perm t := by
  induction h with
  | refl _ => exact .refl _
  | swap u a b v e _ ih => exact (List.Perm.append_left u (.swap b a v)).trans ih
theorem Sw.len {s t : Rw K} (h : Sw fr s t) : s.length = t.length := h.perm.length_eq
theorem Sw.rev (hs : ∀ a b, fr a b = fr b a) {s t : Rw K} (h : Sw fr s t) : Sw fr s.reverse t.reverse := by
  induction h with
  | refl _ => exact .refl _
  | swap u a b v e _ ih =>
    have q : (u ++ a :: b :: v).reverse = v.reverse ++ b :: a :: u.reverse := by simp
    have q2 : (u ++ b :: a :: v).reverse = v.reverse ++ a :: b :: u.reverse := by simp
    rw [q]
    rw [q2] at ih
    exact .swap _ b a _ (by rw [hs]; exact e) ih
/-- to the front, past free ones -/
theorem Sw.front (hs : ∀ a b, fr a b = fr b a) (x : K × Int) (v : Rw K) : ∀ u : Rw K, (∀ y ∈ u, fr x.1 y.1 = true) → Sw fr (u ++ x :: v) (x :: (u ++ v))
  | [], _ => .refl _
  | y :: u, h => by
    have ih := Sw.front hs x v u (fun z hz => h z (List.mem_cons_of_mem _ hz))
    have e : fr y.1 x.1 = true := by rw [hs]; exact h y List.mem_cons_self
    exact (ih.cons y).trans (.one [] y x (u ++ v) e)
theorem Sw.al {s t : Rw K} (h : Sw fr s t) : Al fr s t := by
  induction h with
  | refl _ => exact .refl _
  | swap u a b v e _ ih => exact .trans (.swap u a b v e) ih
/-- if t can be brought to x :: f, then x stands in t behind free ones alone -/
theorem Sw.find (hs : ∀ a b, fr a b = fr b a) {s t : Rw K} (h : Sw fr s t) : ∀ {x : K × Int} {f : Rw K}, t = x :: f → ∃ u v, s = u ++ x :: v ∧ (∀ y ∈ u, fr x.1 y.1 = true) ∧ Sw fr (u ++ v) f := by
  induction h with
  | refl s =>
    intro x f e
    exact ⟨[], f, by rw [e]; rfl, fun y hy => by simp at hy, .refl _⟩
  | swap u a b v e h' ih =>
    intro x f et
    obtain ⟨p, q, e1, e2, e3⟩ := ih et
    -- u ++ b :: a :: v = p ++ x :: q
    rcases List.append_eq_append_iff.mp e1 with ⟨w, e4, e5⟩ | ⟨w, e4, e5⟩
    · -- p = u ++ w, b :: a :: v = w ++ x :: q
      subst e4
      cases w with
      | nil =>
        simp only [List.nil_append, List.cons.injEq] at e5
        obtain ⟨rfl, rfl⟩ := e5
        refine ⟨u ++ [a], v, by simp, fun y hy => ?_, ?_⟩
        · rcases List.mem_append.mp hy with z | z
          · exact e2 y (by simpa using z)
          · have : y = a := by simpa using z
            subst this
            rw [hs]; exact e
        · have q3 : u ++ [a] ++ v = u ++ [] ++ a :: v := by simp
          rw [q3]; exact e3
      | cons w0 w =>
        simp only [List.cons_append, List.cons.injEq] at e5
        obtain ⟨rfl, e5⟩ := e5
        cases w with
        | nil =>
          simp only [List.nil_append, List.cons.injEq] at e5
          obtain ⟨rfl, rfl⟩ := e5
          refine ⟨u, b :: v, rfl, fun y hy => e2 y (by simp [hy]), ?_⟩
          have q3 : u ++ b :: v = u ++ [b] ++ v := by simp
          rw [q3]; exact e3
        | cons w1 w =>
          simp only [List.cons_append, List.cons.injEq] at e5
          obtain ⟨rfl, rfl⟩ := e5
          refine ⟨u ++ a :: b :: w, q, by simp, fun y hy => e2 y ?_, ?_⟩
          · simp only [List.mem_append, List.mem_cons] at hy ⊢
            rcases hy with z | z | z | z
            · exact .inl z
            · exact .inr (.inr (.inl z))
            · exact .inr (.inl z)
            · exact .inr (.inr (.inr z))
          · have q3 : u ++ b :: a :: w ++ q = u ++ b :: a :: (w ++ q) := by simp
            have q4 : u ++ a :: b :: w ++ q = u ++ a :: b :: (w ++ q) := by simp
            rw [q3] at e3
            rw [q4]
            exact .swap u a b _ e e3
    · -- u = p ++ w, x :: q = w ++ b :: a :: v
      subst e4
      cases w with
      | nil =>
        simp only [List.nil_append, List.cons.injEq] at e5
        obtain ⟨rfl, rfl⟩ := e5
        refine ⟨p ++ [a], v, by simp, fun y hy => ?_, ?_⟩
        · rcases List.mem_append.mp hy with z | z
          · exact e2 y z
          · have : y = a := by simpa using z
            subst this
            rw [hs]; exact e
        · have q3 : p ++ [a] ++ v = p ++ a :: v := by simp
          rw [q3]; exact e3
      | cons w0 w =>
        simp only [List.cons_append, List.cons.injEq] at e5
        obtain ⟨rfl, rfl⟩ := e5
        refine ⟨p, w ++ a :: b :: v, by simp, e2, ?_⟩
        rw [← List.append_assoc] at e3 ⊢
        exact .swap (p ++ w) a b v e e3
/-! ### pressing, on stacks (the last syllable first) -/
variable (fr)
def ins (k : K) (n : Int) : Rw K → Option (Rw K)
  | [] => none
  | (x, c) :: r => if x = k then some (if c + n = 0 then r else (x, c + n) :: r) else if fr k x = true then (ins k n r).map ((x, c) :: ·) else none
def push (s : Rw K) (y : K × Int) : Rw K := match ins fr y.1 y.2 s with
  | some t => t
  | none => if y.2 = 0 then s else y :: s
def press (s : Rw K) : Rw K := s.foldl (push fr) []
def has (k : K) : Rw K → Bool
  | [] => false
  | (x, _) :: r => if x = k then true else if fr k x = true then has k r else false
def rst (k : K) : Rw K → Rw K
  | [] => []
  | (x, c) :: r => if x = k then r else if fr k x = true then (x, c) :: rst k r else (x, c) :: r
def vl (k : K) : Rw K → Int
  | [] => 0
  | (x, c) :: r => if x = k then c else if fr k x = true then vl k r else 0
def putk (r : Rw K) (k : K) (c : Int) : Rw K := if c = 0 then r else (k, c) :: r
def Red : Rw K → Prop
  | [] => True
  | (x, c) :: r => c ≠ 0 ∧ has fr x r = false ∧ Red r
variable {fr}
theorem rst_no {k : K} : ∀ {s : Rw K}, has fr k s = false → rst fr k s = s ∧ vl fr k s = 0 ∧ ∀ n, ins fr k n s = none
  | [], _ => ⟨rfl, rfl, fun _ => rfl⟩
  | (x, c) :: r, h => by
    unfold has at h
    unfold rst vl ins
    by_cases e : x = k
    · rw [if_pos e] at h; cases h
    · rw [if_neg e] at h
      rw [if_neg e, if_neg e]
      by_cases f : fr k x = true
      · rw [if_pos f] at h
        obtain ⟨a, b, d⟩ := rst_no h
        rw [if_pos f, if_pos f, a, b]
        exact ⟨rfl, rfl, fun n => by rw [if_neg e, if_pos f, d n]; rfl⟩
      · rw [if_neg f, if_neg f]
        exact ⟨rfl, rfl, fun n => by rw [if_neg e, if_neg f]⟩
theorem ins_yes (hs : ∀ a b, fr a b = fr b a) {k : K} : ∀ {s : Rw K}, has fr k s = true → Sw fr s ((k, vl fr k s) :: rst fr k s) ∧ ∀ n, ∃ t, ins fr k n s = some t ∧ Sw fr t (putk (rst fr k s) k (vl fr k s + n))
  | [], h => by cases h
  | (x, c) :: r, h => by
    unfold has at h
    unfold rst vl ins
    by_cases e : x = k
    · subst e
      simp only [if_pos]
      refine ⟨.refl _, fun n => ⟨_, rfl, ?_⟩⟩
      unfold putk
      by_cases z : c + n = 0
      · rw [if_pos z]; exact .refl _
      · rw [if_neg z]; exact .refl _
    · rw [if_neg e] at h
      rw [if_neg e, if_neg e]
      by_cases f : fr k x = true
      · rw [if_pos f] at h
        obtain ⟨a, b⟩ := ins_yes hs h
        rw [if_pos f, if_pos f]
        refine ⟨(a.cons (x, c)).trans (.one [] (x, c) _ _ (by rw [hs]; exact f)), fun n => ?_⟩
        obtain ⟨t, e1, e2⟩ := b n
        refine ⟨(x, c) :: t, by rw [if_neg e, if_pos f, e1]; rfl, ?_⟩
        refine (e2.cons (x, c)).trans ?_
        unfold putk
        by_cases z : vl fr k r + n = 0
        · rw [if_pos z, if_pos z]; exact .refl _
        · rw [if_neg z, if_neg z]; exact .one [] (x, c) _ _ (by rw [hs]; exact f)
      · rw [if_neg f] at h; cases h
theorem push_sw (hs : ∀ a b, fr a b = fr b a) (s : Rw K) (k : K) (n : Int) : Sw fr (push fr s (k, n)) (putk (rst fr k s) k (vl fr k s + n)) := by
  cases h : has fr k s with
  | true =>
    obtain ⟨t, e, f⟩ := (ins_yes hs h).2 n
    unfold push
    rw [e]
    exact f
  | false =>
    obtain ⟨a, b, d⟩ := rst_no h
    unfold push putk
    rw [d n, a, b, Int.zero_add]
    exact .refl _
theorem vl_ne {k : K} : ∀ {s : Rw K}, Red fr s → has fr k s = true → vl fr k s ≠ 0
  | [], _, h => by cases h
  | (x, c) :: r, g, h => by
    obtain ⟨g1, g2, g3⟩ := g
    unfold has at h
    unfold vl
    by_cases e : x = k
    · rw [if_pos e]; exact g1
    · rw [if_neg e] at h ⊢
      by_cases f : fr k x = true
      · rw [if_pos f] at h ⊢; exact vl_ne g3 h
      · rw [if_neg f] at h; cases h
theorem sw_putk (hs : ∀ a b, fr a b = fr b a) {s : Rw K} (g : Red fr s) (k : K) : Sw fr s (putk (rst fr k s) k (vl fr k s)) := by
  cases h : has fr k s with
  | true =>
    unfold putk
    rw [if_neg (vl_ne g h)]
    exact (ins_yes hs h).1
  | false =>
    obtain ⟨a, b, _⟩ := rst_no h
    unfold putk
    rw [b, if_pos rfl, a]
    exact .refl _
theorem has_rst {k : K} : ∀ {s : Rw K}, Red fr s → has fr k (rst fr k s) = false
  | [], _ => rfl
  | (x, c) :: r, g => by
    obtain ⟨g1, g2, g3⟩ := g
    unfold rst
    by_cases e : x = k
    · rw [if_pos e]; subst e; exact g2
    · rw [if_neg e]
      by_cases f : fr k x = true
      · rw [if_pos f]
        unfold has
        rw [if_neg e, if_pos f]
        exact has_rst g3
      · rw [if_neg f]
        unfold has
        rw [if_neg e, if_neg f]
theorem has_ins (hs : ∀ a b, fr a b = fr b a) (hi : ∀ a, fr a a = false) {j k : K} (hjk : fr j k = true) {n : Int} : ∀ {s t : Rw K}, ins fr k n s = some t → has fr j t = has fr j s
  | [], _, h => by cases h
  | (x, c) :: r, t, h => by
    have jk : k ≠ j := fun e => by rw [e, hi] at hjk; cases hjk
    unfold ins at h
    by_cases e : x = k
    · rw [if_pos e] at h
      have h' := Option.some.inj h
      subst e
      by_cases z : c + n = 0
      · rw [if_pos z] at h'
        subst h'
        show has fr j r = if x = j then true else if fr j x = true then has fr j r else false
        rw [if_neg jk, if_pos hjk]
      · rw [if_neg z] at h'
        subst h'
        rfl
    · rw [if_neg e] at h
      by_cases f : fr k x = true
      · rw [if_pos f] at h
        cases q : ins fr k n r with
        | none => rw [q] at h; cases h
        | some t' =>
          rw [q] at h
          have h' : (x, c) :: t' = t := Option.some.inj h
          subst h'
          show (if x = j then true else if fr j x = true then has fr j t' else false) = if x = j then true else if fr j x = true then has fr j r else false
          rw [has_ins hs hi hjk q]
      · rw [if_neg f] at h; cases h
theorem has_push (hs : ∀ a b, fr a b = fr b a) (hi : ∀ a, fr a a = false) {j k : K} (hjk : fr j k = true) {n : Int} (s : Rw K) : has fr j (push fr s (k, n)) = has fr j s := by
  unfold push
  cases q : ins fr k n s with
  | some t => exact has_ins hs hi hjk q
  | none =>
    have jk : k ≠ j := fun e => by rw [e, hi] at hjk; cases hjk
    show has fr j (if n = 0 then s else (k, n) :: s) = _
    by_cases z : n = 0
    · rw [if_pos z]
    · rw [if_neg z]
      show (if k = j then true else if fr j k = true then has fr j s else false) = _
      rw [if_neg jk, if_pos hjk]
theorem red_ins (hs : ∀ a b, fr a b = fr b a) (hi : ∀ a, fr a a = false) {k : K} {n : Int} : ∀ {s t : Rw K}, Red fr s → ins fr k n s = some t → Red fr t
  | [], _, _, h => by cases h
  | (x, c) :: r, t, ⟨g1, g2, g3⟩, h => by
    unfold ins at h
    by_cases e : x = k
    · rw [if_pos e] at h
      have h' := Option.some.inj h
      by_cases z : c + n = 0
      · rw [if_pos z] at h'; subst h'; exact g3
      · rw [if_neg z] at h'; subst h'; exact ⟨z, g2, g3⟩
    · rw [if_neg e] at h
      by_cases f : fr k x = true
      · rw [if_pos f] at h
        cases q : ins fr k n r with
        | none => rw [q] at h; cases h
        | some t' =>
          rw [q] at h
          have h' : (x, c) :: t' = t := Option.some.inj h
          subst h'
          exact ⟨g1, by rw [has_ins hs hi (j := x) (by rw [hs]; exact f) q]; exact g2, red_ins hs hi g3 q⟩
      · rw [if_neg f] at h; cases h
theorem has_of_none {k : K} {n : Int} : ∀ {s : Rw K}, ins fr k n s = none → has fr k s = false
  | [], _ => rfl
  | (x, c) :: r, h => by
    unfold ins at h
    unfold has
    by_cases e : x = k
    · rw [if_pos e] at h; cases h
    · rw [if_neg e] at h ⊢
      by_cases f : fr k x = true
      · rw [if_pos f] at h ⊢
        cases q : ins fr k n r with
        | none => exact has_of_none q
        | some t => rw [q] at h; cases h
      · rw [if_neg f]
theorem red_push (hs : ∀ a b, fr a b = fr b a) (hi : ∀ a, fr a a = false) {s : Rw K} (g : Red fr s) (y : K × Int) : Red fr (push fr s y) := by
  obtain ⟨k, n⟩ := y
  unfold push
  cases q : ins fr k n s with
  | some t => exact red_ins hs hi g q
  | none =>
    show Red fr (if n = 0 then s else (k, n) :: s)
    by_cases z : n = 0
    · rw [if_pos z]; exact g
    · rw [if_neg z]; exact ⟨z, has_of_none q, g⟩
theorem red_fold (hs : ∀ a b, fr a b = fr b a) (hi : ∀ a, fr a a = false) : ∀ (r : Rw K) {s : Rw K}, Red fr s → Red fr (r.foldl (push fr) s)
  | [], _, g => g
  | y :: r, _, g => red_fold hs hi r (red_push hs hi g y)
theorem red_press (hs : ∀ a b, fr a b = fr b a) (hi : ∀ a, fr a a = false) (r : Rw K) : Red fr (press fr r) := red_fold hs hi r trivial
/-- what is asked of a stack at k is the same of stacks that exchanges join -/
theorem sw_look (hs : ∀ a b, fr a b = fr b a) (hi : ∀ a, fr a a = false) (k : K) {a b : K × Int} (v : Rw K) (hab : fr a.1 b.1 = true) : ∀ u : Rw K,
    has fr k (u ++ a :: b :: v) = has fr k (u ++ b :: a :: v) ∧ vl fr k (u ++ a :: b :: v) = vl fr k (u ++ b :: a :: v) ∧ Sw fr (rst fr k (u ++ a :: b :: v)) (rst fr k (u ++ b :: a :: v))
  | [] => by
    obtain ⟨x, c⟩ := a
    obtain ⟨y, d⟩ := b
    have hxy : fr x y = true := hab
    have ne : x ≠ y := fun e => by rw [e, hi] at hxy; cases hxy
    simp only [List.nil_append, has, vl, rst]
    by_cases e1 : x = k
    · subst e1
      have e2 : ¬ y = x := fun e => ne e.symm
      simp only [if_neg e2, if_pos, hxy]
      exact ⟨trivial, trivial, .refl _⟩
    · by_cases e2 : y = k
      · subst e2
        have f : fr y x = true := by rw [hs]; exact hxy
        simp only [if_neg e1, if_pos, f]
        exact ⟨trivial, trivial, .refl _⟩
      · simp only [if_neg e1, if_neg e2]
        by_cases f1 : fr k x = true
        · by_cases f2 : fr k y = true
          · simp only [if_pos f1, if_pos f2]
            exact ⟨trivial, trivial, .one [] _ _ _ hxy⟩
          · simp only [if_pos f1, if_neg f2]
            exact ⟨trivial, trivial, .one [] _ _ _ hxy⟩
        · by_cases f2 : fr k y = true
          · simp only [if_neg f1, if_pos f2]
            exact ⟨trivial, trivial, .one [] _ _ _ hxy⟩
          · simp only [if_neg f1, if_neg f2]
            exact ⟨trivial, trivial, .one [] _ _ _ hxy⟩
  | (x, c) :: u => by
    obtain ⟨i1, i2, i3⟩ := sw_look hs hi k v hab u
    simp only [List.cons_append, has, vl, rst]
    by_cases e1 : x = k
    · simp only [if_pos e1]
      exact ⟨trivial, trivial, .one u a b v hab⟩
    · simp only [if_neg e1]
      by_cases f1 : fr k x = true
      · simp only [if_pos f1]
        exact ⟨i1, i2, i3.cons _⟩
      · simp only [if_neg f1]
        exact ⟨trivial, trivial, (Sw.one u a b v hab).cons _⟩
theorem putk_sw {r r' : Rw K} (h : Sw fr r r') (k : K) (c : Int) : Sw fr (putk r k c) (putk r' k c) := by
  unfold putk
  by_cases z : c = 0
  · rw [if_pos z, if_pos z]; exact h
  · rw [if_neg z, if_neg z]; exact h.cons _
theorem push_congr (hs : ∀ a b, fr a b = fr b a) (hi : ∀ a, fr a a = false) (y : K × Int) {s t : Rw K} (h : Sw fr s t) : Sw fr (push fr s y) (push fr t y) := by
  induction h with
  | refl _ => exact .refl _
  | swap u a b v e _ ih =>
    obtain ⟨k, n⟩ := y
    refine Sw.trans ?_ ih
    obtain ⟨_, i2, i3⟩ := sw_look hs hi k v e u
    refine (push_sw hs _ k n).trans (Sw.trans ?_ (Sw.symm hs (push_sw hs _ k n)))
    rw [i2]
    exact putk_sw i3 k _
theorem fold_congr (hs : ∀ a b, fr a b = fr b a) (hi : ∀ a, fr a a = false) : ∀ (v : Rw K) {s t : Rw K}, Sw fr s t → Sw fr (v.foldl (push fr) s) (v.foldl (push fr) t)
  | [], _, _, h => h
  | y :: v, _, _, h => fold_congr hs hi v (push_congr hs hi y h)
/-- a syllable on its own kind's place -/
theorem push_putk {r : Rw K} {k : K} (h : has fr k r = false) (c n : Int) : push fr (putk r k c) (k, n) = putk r k (c + n) := by
  obtain ⟨_, _, d⟩ := rst_no h
  unfold putk
  by_cases z : c = 0
  · subst z
    rw [if_pos rfl, Int.zero_add]
    unfold push
    rw [d n]
  · rw [if_neg z]
    unfold push
    show (match ins fr k n ((k, c) :: r) with
      | some t => t
      | none => _) = _
    unfold ins
    rw [if_pos rfl]
theorem push_past {a b : K} (hab : fr b a = true) (hba : fr a b = true) (ne : a ≠ b) (r : Rw K) (c m : Int) : Sw fr (push fr (putk r a c) (b, m)) (putk (push fr r (b, m)) a c) := by
  unfold putk
  by_cases z : c = 0
  · rw [if_pos z, if_pos z]; exact .refl _
  · rw [if_neg z, if_neg z]
    unfold push
    show Sw fr (match ins fr b m ((a, c) :: r) with
      | some t => t
      | none => if m = 0 then (a, c) :: r else (b, m) :: (a, c) :: r) ((a, c) :: (match ins fr b m r with
      | some t => t
      | none => if m = 0 then r else (b, m) :: r))
    have e : ins fr b m ((a, c) :: r) = (ins fr b m r).map ((a, c) :: ·) := by
      show (if a = b then _ else if fr b a = true then (ins fr b m r).map ((a, c) :: ·) else none) = _
      rw [if_neg ne, if_pos hab]
    rw [e]
    cases ins fr b m r with
    | some t => exact .refl _
    | none =>
      show Sw fr (if m = 0 then (a, c) :: r else (b, m) :: (a, c) :: r) ((a, c) :: (if m = 0 then r else (b, m) :: r))
      by_cases y : m = 0
      · rw [if_pos y, if_pos y]; exact .refl _
      · rw [if_neg y, if_neg y]; exact .one [] _ _ _ hab
theorem push_swap (hs : ∀ a b, fr a b = fr b a) (hi : ∀ a, fr a a = false) {s : Rw K} (g : Red fr s) {a b : K × Int} (hab : fr a.1 b.1 = true) : Sw fr (push fr (push fr s a) b) (push fr (push fr s b) a) := by
  obtain ⟨a, n⟩ := a
  obtain ⟨b, m⟩ := b
  have hab : fr a b = true := hab
  have hba : fr b a = true := by rw [hs]; exact hab
  have ne : a ≠ b := fun e => by rw [e, hi] at hab; cases hab
  have h0 := has_rst (k := a) g
  have h1 : has fr a (push fr (rst fr a s) (b, m)) = false := by rw [has_push hs hi hab]; exact h0
  have l1 : Sw fr (push fr (push fr s (a, n)) (b, m)) (putk (push fr (rst fr a s) (b, m)) a (vl fr a s + n)) :=
    (push_congr hs hi (b, m) (push_sw hs s a n)).trans (push_past hba hab ne _ _ _)
  have l2 : Sw fr (push fr s (b, m)) (putk (push fr (rst fr a s) (b, m)) a (vl fr a s)) :=
    (push_congr hs hi (b, m) (sw_putk hs g a)).trans (push_past hba hab ne _ _ _)
  have l3 := push_congr hs hi (a, n) l2
  rw [push_putk h1] at l3
  exact l1.trans (l3.symm hs)
theorem push_melt (hs : ∀ a b, fr a b = fr b a) (hi : ∀ a, fr a a = false) {s : Rw K} (g : Red fr s) (k : K) (n m : Int) : Sw fr (push fr (push fr s (k, n)) (k, m)) (push fr s (k, n + m)) := by
  have h0 := has_rst (k := k) g
  have l1 := push_congr hs hi (k, m) (push_sw hs s k n)
  rw [push_putk h0] at l1
  have l2 := push_sw hs s k (n + m)
  rw [← Int.add_assoc] at l2
  exact l1.trans (l2.symm hs)
theorem push_zero (hs : ∀ a b, fr a b = fr b a) {s : Rw K} (g : Red fr s) (k : K) : Sw fr (push fr s (k, 0)) s := by
  have l := push_sw hs s k 0
  rw [Int.add_zero] at l
  exact l.trans ((sw_putk hs g k).symm hs)
/-- THE FORM: alike rows are pressed to stacks that exchanges join -/
theorem press_al (hs : ∀ a b, fr a b = fr b a) (hi : ∀ a, fr a a = false) {r r' : Rw K} (h : Al fr r r') : Sw fr (press fr r) (press fr r') := by
  induction h with
  | refl _ => exact .refl _
  | swap u a b v e =>
    unfold press
    rw [List.foldl_append, List.foldl_append]
    exact fold_congr hs hi v (push_swap hs hi (red_fold hs hi u (s := []) True.intro) e)
  | melt u k n m v =>
    unfold press
    rw [List.foldl_append, List.foldl_append]
    exact fold_congr hs hi v (push_melt hs hi (red_fold hs hi u (s := []) True.intro) k n m)
  | drop u k v =>
    unfold press
    rw [List.foldl_append, List.foldl_append]
    exact fold_congr hs hi v (push_zero hs (red_fold hs hi u (s := []) True.intro) k)
  | symm _ ih => exact ih.symm hs
  | trans _ _ ih ih' => exact ih.trans ih'
end
end K91
/-! P1 -/
namespace K91
open PySem PySem.Spec PyProof.Rows L2
/-! ### where a kind melts -/
/-- over a row from its end -/
def scan (fr : Str → Str → Bool) (k : Str) : List Syl → Option Nat
  | [] => none
  | (x, _) :: r => if x = k then some r.length else if fr k x = true then scan fr k r else none
def meltIx (fr : Str → Str → Bool) (k : Str) (r : List Syl) : Option Nat := scan fr k r.reverse
def ixV : Option Nat → V
  | none => .non
  | some i => .int (i : Int)
theorem inV_strs {x : Str} {l : List Str} : inV (.str x) (l.map V.str) = decide (x ∈ l) := by
  unfold inV
  rw [Bool.eq_iff_iff]
  simp [eqV]
theorem all_strs {l : List Str} : (l.map V.str).all flatV = true := by
  rw [List.all_eq_true]
  intro v hv
  obtain ⟨y, _, rfl⟩ := List.mem_map.mp hv
  rfl
theorem mem_links {T : Tb} {k x : Str} (hx : x ∈ T.kinds) : decide (x ∈ T.links k) = !T.fr k x := by
  unfold Tb.links
  rw [Bool.eq_iff_iff]
  simp [hx]
section
variable {P : Program} {w : World} {K : PySem.W.Frag} {mg : Str → Option Value} {base : Heap}
/-! ### Table.links -/
def spLinks (K : PySem.W.Frag) : Sp := fun vs H Q _ => ∃ t k T, vs = [t, .str k] ∧ TabV K H t T ∧ k ∈ T.kinds ∧ ∀ p, SqT K H p ((T.links k).map V.str) → Q (.ref p) H
theorem tab_get {T : Tb} {lk : Str → Addr} {k : Str} (h : k ∈ T.kinds) : valV (T.kinds.map fun k => ((Sum.inr k : Key), V.ref (lk k))) (Sum.inr k) = some (.ref (lk k)) := by
  generalize T.kinds = l at h
  induction l with
  | nil => simp at h
  | cons x l ih =>
    by_cases e : x = k
    · subst e
      simp [valV]
    · have h' : k ∈ l := by
        rcases List.mem_cons.mp h with z | z
        · exact absurd z.symm e
        · exact z
      have := ih h'
      simp only [valV, List.map_cons] at this ⊢
      rw [List.find?_cons_of_neg (by simpa using fun z => e z)]
      exact this
theorem ok_links (C : Fx w K mg base) : FnOk P w K mg base CX0 1 (a_Table_links K) (fdA K (a_Table_links K)) ["self", "kind"] (spLinks K) := by
  refine (F_Table_links C).ok S_Table_links (fun vs H Q E h => ?_) (fun cdv A outer s H vs Q E hr h => ?_)
  · obtain ⟨t, k, T, rfl, _⟩ := h
    rfl
  · obtain ⟨t, k, T, rfl, hT, hk, q⟩ := h
    obtain ⟨a, dx, pk, pp, pl, ps, lk, rfl, h2, h3, h4, h5, h6, h7⟩ := hT
    refine ⟨_, pss_one (ps_ret (pe_dget (hu_of hr) (pe_fld (pv 0) rfl) (pv 1) (fun _ _ => rfl))), ?_⟩
    have hg := DGet.k (k := Sum.inr k) h6
    rw [tab_get hk] at hg
    exact ⟨_, rfl, a, _, dx, _, _, rfl, h2, C.c_Table, C.n_Table_linked, rfl, _, rfl, pl, _, rfl, hg, q _ (h7 k hk)⟩
theorem D_links (C : Fx w K mg base) : Dm P w K mg base 1 (He.ga K "Table") (a_Table_links K) (fdA K (a_Table_links K)) ["self", "kind"] (spLinks K) "links" := ⟨ok_links C, C.c_Table, C.m_Table_links, B_Table_links C⟩
/-! ### melting_at -/
def spMeltAt (K : PySem.W.Frag) : Sp := fun vs H Q _ => ∃ t l k T r, vs = [t, .ref l, .str k] ∧ TabV K H t T ∧ RowL K H l r ∧ Kin T r ∧ k ∈ T.kinds ∧ r.length < 100000 ∧ Q (ixV (meltIx T.fr k r)) H
theorem take_rev {r : List Syl} {j : Nat} {y : Syl} (h : r[j]? = some y) : (r.take (j + 1)).reverse = y :: (r.take j).reverse := by
  rw [List.take_add_one, h]
  simp
theorem ok_melting_at (C : Fx w K mg base) : FnOk P w K mg base CX0 2 (a_melting_at K) (fdA K (a_melting_at K)) ["table", "short", "kind"] (spMeltAt K) := by
  refine (F_melting_at C).ok S_melting_at (fun vs H Q E h => ?_) (fun cdv A outer s H vs Q E hr h => ?_)
  · obtain ⟨t, l, k, T, r, rfl, _⟩ := h
    rfl
  · obtain ⟨t, l, k, T, r, rfl, hT, ⟨ys, hl, hs⟩, hk, hkT, hz, q⟩ := h
    refine ⟨_, (pss_cons (ps_set (i := 3) S_melting_at.nd rfl (Or.inl rfl) (pe_md (D_links C) hr (pv 0) (pa_cons (pv 2) pa_nil)))
      (pss_cons (ps_for PassesOwn.never rfl (pi_range3 (by rfl) C.z_range (pa_cons (pe_op op_sub (pe_callB call_len_seq (by rfl) C.z_len (by decide +kernel) (pa_cons (pv 1) pa_nil)) pe_int) (pa_cons (pe_un un_neg pe_int) (pa_cons (pe_un un_neg pe_int) pa_nil)))) (pg_name (i := 4) S_melting_at.nd rfl (Or.inl rfl))
        (pss_cons (ps_if (pt_cmpR op_eq (pe_ix ix_tup (pe_ix ix_list (pv 1) (pv 4) (fun _ _ => rfl)) pe_int (fun _ _ => rfl)) (pv 2) (nomark _))
          (pss_one (ps_ret (pv 4)))
          pss_nil)
        (pss_one (ps_if (pt_cmpR op_in_seq (pe_ix ix_tup (pe_ix ix_list (pv 1) (pv 4) (fun _ _ => rfl)) pe_int (fun _ _ => rfl)) (pv 3) (by rfl))
          (pss_one (ps_ret pe_non))
          pss_nil))))
      (pss_one (ps_ret pe_non)))), ?_⟩
    obtain ⟨a, rfl⟩ : ∃ a, t = .ref a := let ⟨a, _, _, _, _, _, _, e, _⟩ := hT; ⟨a, e⟩
    obtain ⟨dx, fs, hi⟩ : ∃ dx fs, H a = some (.ins (He.ga K "Table") dx fs) ∧ fs.lookup ("links" : Str) = none := by
      obtain ⟨a', dx, pk, pp, pl, ps, lk, e, h2, _⟩ := hT
      cases e
      exact ⟨dx, _, h2, rfl⟩
    refine ⟨_, rfl, a, dx, fs, rfl, hi.1, hi.2, _, rfl, _, k, T, rfl, hT, hkT, fun p hp => ?_⟩
    have hlen : ys.length = r.length := pr_len hs
    have hz' : r.length < 2 ^ 62 - 1 := Nat.lt_of_lt_of_le hz (by decide)
    refine ⟨_, rfl, l, ys, rfl, .inl (l_of hl), (ys.length : Int), 1, rfl, rfl, 1, rfl, 1, rfl, (ys.length : Int) - 1, -1, -1, _, rfl, RgC.neg (by omega) (by omega) (by omega) (by omega), ?_⟩
    have en : ((ys.length : Int) - 1 - -1).toNat = r.length := by omega
    rw [en]
    refine for_rangeC (fun i σ H' => ∃ v, σ = [some (.ref a), some (.ref l), some (.str k), some (.ref p), v] ∧ H' = H ∧ i ≤ r.length ∧ scan T.fr k (r.take (r.length - i)).reverse = meltIx T.fr k r)
      ⟨none, rfl, rfl, Nat.zero_le _, by rw [Nat.sub_zero, List.take_length]; rfl⟩ ?_ ?_
    · rintro i σ H' hi' ⟨v, rfl, rfl, _, hsc⟩
      obtain ⟨j, hj⟩ : ∃ j, r.length - i = j + 1 := ⟨r.length - i - 1, by omega⟩
      have hjl : j < r.length := by omega
      have ej : (ys.length : Int) - 1 + (i : Nat) * -1 = (j : Int) := by omega
      rw [ej]
      obtain ⟨y, hy⟩ : ∃ y, r[j]? = some y := ⟨r[j], List.getElem?_eq_getElem hjl⟩
      obtain ⟨v, hv, p', rfl, ht⟩ := pr_get hs hy
      rw [hj, take_rev hy] at hsc
      refine ⟨_, rfl, _, rfl, l, ys, (j : Int), .ref p', rfl, rfl, l_of hl, atI_nat hv, p', _, (0 : Int), _, rfl, rfl, ht, atI_nat (j := 0) rfl, _, rfl, rfl, _, rfl, ite2 (fun e => ?_) (fun e => ?_)⟩
      · -- the kind
        have e1 : y.1 = k := V.str.inj (of_decide_eq_true e)
        have e2 : scan T.fr k (y :: (r.take j).reverse) = some j := by
          show (if y.1 = k then some (r.take j).reverse.length else _) = _
          rw [if_pos e1, List.length_reverse, List.length_take]
          congr 1
          omega
        rw [e2] at hsc
        rw [← hsc] at q
        exact ⟨_, rfl, q⟩
      · have e1 : ¬ y.1 = k := fun z => e (decide_eq_true (congrArg V.str z))
        have e2 : scan T.fr k (y :: (r.take j).reverse) = if T.fr k y.1 = true then scan T.fr k (r.take j).reverse else none := by
          show (if y.1 = k then some (r.take j).reverse.length else _) = _
          rw [if_neg e1]
        rw [e2] at hsc
        have hky : y.1 ∈ T.kinds := hk y (List.mem_of_getElem? hy)
        refine ⟨_, rfl, _, rfl, l, ys, (j : Int), .ref p', rfl, rfl, l_of hl, atI_nat hv, p', _, (0 : Int), _, rfl, rfl, ht, atI_nat (j := 0) rfl, _, rfl, p, _, rfl, .inr hp, rfl, all_strs, _, rfl, ?_⟩
        rw [if_neg Bool.false_ne_true, inV_strs, mem_links hky]
        cases hf : T.fr k y.1 with
        | true =>
          rw [if_pos hf] at hsc
          refine iteF ⟨_, rfl, rfl, by omega, ?_⟩
          have ej2 : r.length - (i + 1) = j := by omega
          rw [ej2]
          exact hsc
        | false =>
          rw [hf] at hsc
          rw [← hsc] at q
          exact iteT q
    · rintro σ H' ⟨v, rfl, rfl, _, hsc⟩
      rw [Nat.sub_self, List.take_zero] at hsc
      rw [← hsc] at q
      exact q
theorem D_melting_at (C : Fx w K mg base) : Dn P w K mg base 2 (a_melting_at K) (fdA K (a_melting_at K)) ["table", "short", "kind"] (spMeltAt K) "melting_at" := ⟨ok_melting_at C, C.g_melting_at, (F_melting_at C).kp, B_melting_at C⟩
end
end K91
/-! R1 -/
/-! rules of our own: sorted of data -/
namespace K91
open PySem PySem.Spec PyProof.Rows L2 PySem.W
section
variable {prog : Program} {w : World} {A : Around} {E : Value → Shared → Prop} {s : Shared} {β : Type} {vs : List Value} {bs : List β} {enc : β → PyData} {R : Value → β → Prop}
/-- sorted of a list or tuple whose items are data -/
theorem sorted_seq {l : Addr} {T : String} {o : Obj} {n : Nat} {Q : Value → Shared → Prop} (hT : T = "list" ∨ T = "tuple") (ho : s.heap.get? l = some o) (hc : o.cls = .type T) (hd : o.data = .seq vs.toArray n)
    (hL : vs.length ≤ sizeLine) (e : EachIs R vs bs) (er : EachIs (fun v b => ∃ as, Reads s.heap v (enc b) as) vs bs) (hal : AllAlike (bs.map enc)) (hk : Sortable (bs.map enc)) (hu : ∀ b, b ∈ bs → A.units + 2 + (enc b).depth < cLine)
    (h : ∀ (h1 h' : Heap) (d : Addr) (out : List Value), (∀ b o', s.heap.get? b = some o' → h1.get? b = some o') → (∀ b o', h1.get? b = some o' → h'.get? b = some o') → h1.objs.size ≤ d → (∃ n, h'.get? d = some (seqObj "list" out.toArray n)) → EachIs R out (bs.mergeSort (dataLe false enc)) → Q (.ref d) { s with heap := h' }) :
    wpAny (model prog w) A (call (.builtin "sorted") [.ref l]) Q E s := by
  refine call_function_entry_kw kind_sorted plain_sorted entry_sorted (args_sorted1 _) ?_
  unfold Builtin.«sorted»
  refine wpAny_bind (m := checkCount "sorted" 1 1 _) (wpAny_pure ?_)
  refine wpAny_bind (wpAny_collect_seq l hT ho hc hd (fun h1 k1 => ?_) (by rw [List.size_toArray]; exact hL))
  rw [show vs.toArray.toList = vs from by simp]
  refine wpAny_bind (wpAny_newList ?_ hL)
  have hoL : (h1.push (seqObj "list" vs.toArray 0)).get? h1.objs.size = some (seqObj "list" vs.toArray 0) := Heap.get?_push_size _ rfl
  have kp : ∀ b u, h1.get? b = some u → b ≠ h1.objs.size ∧ (h1.push (seqObj "list" vs.toArray 0)).get? b = some u := fun b u q => ⟨Nat.ne_of_lt (Heap.lt_size q), Heap.get?_push_of_some _ q⟩
  show wpAny _ _ _ _ _ { s with heap := h1.push (seqObj "list" vs.toArray 0) }
  refine wpAny_bind (wpAny_holding (wpAny_call_entry_kw slot_list_sort ⟨_, hoL, rfl⟩ entry_list_sort ?_ (args_list_sort _)))
  have er' : EachIs (fun v b => ∃ as, Reads (sortingHeap (h1.push (seqObj "list" vs.toArray 0)) h1.objs.size vs) v (enc b) as) vs bs := er.mono fun _ _ ⟨as, r⟩ => ⟨as, PyProof.Rows.Reads.keeps (fun b u q => sortingHeap_old (kp b u (k1 b u q)).1 (kp b u (k1 b u q)).2) r⟩
  refine list_sort_vals (s := { s with heap := h1.push (seqObj "list" vs.toArray 0) }) hoL (SortsAt.data (s := { s with heap := sortingHeap (h1.push (seqObj "list" vs.toArray 0)) h1.objs.size vs }) (each_map (R := fun v d => ∃ as, Reads (sortingHeap (h1.push (seqObj "list" vs.toArray 0)) h1.objs.size vs) v d as) enc er') hal hk (bound_map hu)) hL ⟨_, rfl, ?_⟩
  obtain ⟨e2, he2⟩ := sortedHeap_at (out := (sortVals (dataKind (sortingHeap (h1.push (seqObj "list" vs.toArray 0)) h1.objs.size vs) (bs.map enc)) false vs vs).toArray) hoL
  exact wpAny_pure ⟨_, rfl, h h1 _ _ _ k1 (fun b u q => (sortedHeap_old (kp b u q).1 (Heap.lt_size (kp b u q).2)).trans (kp b u q).2) (Nat.le_refl _) ⟨e2, he2⟩ (sortVals_data false e er' hal)⟩
end
/-! ### as a rule -/
/-- the items vs, told as bs, in their order -/
def leD (β : Type) [DecidableEq β] [DatumOrd β] (a b : β) : Bool := !DatumOrd.lt b a
theorem leD_eq {β : Type} [DecidableEq β] [DatumOrd β] : dataLe false (fun b : β => Datum.toD b) = leD β := by
  funext a b
  show (!dataLt (Datum.toD b) (Datum.toD a)) = _
  rw [DatumOrd.lt_eq]
  rfl
/-- sorted(xs), xs a list or tuple of data told as bs, and R of each item -/
def rSortD (K : PySem.W.Frag) (β : Type) [DecidableEq β] [DatumOrd β] : List V → Hp → VK → Prop := fun xs H Q => ∃ (a : Addr) (ys : List V) (bs : List β) (R : V → β → Prop), xs = [V.ref a] ∧ (SqL K H a ys ∨ SqT K H a ys) ∧
  Paired R ys bs ∧ (∀ v b, R v b → Dp K H v (Datum.toD b)) ∧ ∀ zs p, H p = none → Paired R zs (bs.mergeSort (leD β)) → Q (.ref p) (upd H p (.lst zs))
section
variable {X : Cx} {β : Type} [DecidableEq β] [DatumOrd β]
theorem sortable_d (bs : List β) (h : (∀ b : β, ∃ x r, Datum.toD b = .tuple (x :: r)) ∨ ∀ b : β, Datum.toD b ≠ .none ∧ ∀ xs, Datum.toD b ≠ .tuple xs) : Sortable (bs.map fun b => Datum.toD b) := by
  rcases h with h | h
  · exact Sortable.tuples h
  · exact Sortable.others h
theorem each_of {R : V → β → Prop} : ∀ {ys : List V} {bs : List β} {us : List Value}, Paired R ys bs → Vals ys us → EachIs (fun u b => ∃ v, RelV v u ∧ R v b) us bs
  | _, _, _, .nil, .nil => .nil
  | _, _, _, .cons r t, .cons q s => .cons ⟨_, q, r⟩ (each_of t s)
theorem of_each {R : V → β → Prop} : ∀ {us : List Value} {bs : List β}, EachIs (fun u b => ∃ v, RelV v u ∧ R v b) us bs → ∃ zs, Vals zs us ∧ Paired R zs bs
  | _, _, .nil => ⟨[], .nil, .nil⟩
  | _, _, .cons ⟨v, q, r⟩ t => let ⟨zs, h1, h2⟩ := of_each t; ⟨v :: zs, .cons q h1, .cons r h2⟩
theorem cr_sortD {K : PySem.W.Frag} (hd : Datum.depth β ≤ 60) (hk : (∀ b : β, ∃ x r, Datum.toD b = .tuple (x :: r)) ∨ ∀ b : β, Datum.toD b ≠ .none ∧ ∀ xs, Datum.toD b ≠ .tuple xs) (hu : X.A.units + 64 < cLine) (hK : X.K = K := by rfl) : CallR X (.builtin "sorted") (rSortD K β) := by
  subst hK
  intro pins s σ H xs us Q I r h
  obtain ⟨a, ys, bs, R, rfl, hs, hp, hR, q⟩ := h
  obtain ⟨u, rfl, ru⟩ := vals1 r
  obtain rfl : u = Value.ref a := ru
  obtain ⟨its, rv, T, o, n, hT, ho, hc, hdt, hz⟩ : ∃ its : List Value, Vals ys its ∧ ∃ T o n, (T = "list" ∨ T = "tuple") ∧ s.heap.get? a = some o ∧ o.cls = .type T ∧ o.data = .seq its.toArray n ∧ ys.length ≤ sizeLine := by
    rcases hs with hs | hs
    · obtain ⟨its, rv, pl, hz⟩ := I.list hs
      obtain ⟨o, ho, hc, n, hdt⟩ := pl.isList
      exact ⟨its, rv, "list", o, n, .inl rfl, ho, hc, hdt, hz⟩
    · obtain ⟨its, rv, pl, hz⟩ := I.tuple hs
      obtain ⟨o, ho, hc, n, hdt⟩ := pl
      exact ⟨its, rv, "tuple", o, n, .inr rfl, ho, hc, hdt, hz⟩
  have e := each_of hp rv
  have hl := rv.length
  refine sorted_seq hT ho hc hdt (by omega) e (enc := fun b => Datum.toD b) (e.mono fun u b ⟨v, q1, q2⟩ => Dp.reads I _ v u (hR v b q2) q1) (AllAlike.of fun b b' => DatumOrd.alike b b') (sortable_d bs hk) (fun b _ => ?_) fun h1 h' d out k1 kp hd' ⟨n', hn'⟩ hout => ?_
  · have := Datum.depth_le b
    omega
  · rw [leD_eq] at hout
    obtain ⟨zs, v1, v2⟩ := of_each hout
    have el : zs.length = ys.length := by
      have l1 : zs.length = (bs.mergeSort (leD β)).length := pr_len v2
      have l2 : ys.length = bs.length := pr_len hp
      rw [List.length_mergeSort] at l1
      omega
    have I1 : Inv X pins σ H { s with heap := h1 } := I.kept (t' := s.toks) k1
    exact ⟨.ref d, upd H d (.lst zs), I1.laid (t' := s.toks) kp hd' ⟨by omega, out, n', v1, hn'⟩, rfl, q _ d (I1.hok.fresh hd') v2⟩
def rTupK (K : PySem.W.Frag) : List V → Hp → VK → Prop := fun xs H Q => ∃ p ys, xs = [.ref p] ∧ ((SqL K H p ys ∧ ∀ l, H l = none → Q (.ref l) (upd H l (.tup ys))) ∨ (SqT K H p ys ∧ Q (.ref p) H))
theorem call_tupK {K : PySem.W.Frag} (hK : X.K = K := by rfl) : CallR X (.type "tuple") (rTupK K) := by
  subst hK
  exact call_tuple_of
theorem sorts_str : (∀ b : Str, ∃ x r, Datum.toD b = .tuple (x :: r)) ∨ ∀ b : Str, Datum.toD b ≠ .none ∧ ∀ xs, Datum.toD b ≠ .tuple xs := .inr fun b => ⟨fun z => (nomatch z), fun xs z => (nomatch z)⟩
theorem sorts_int : (∀ b : Int, ∃ x r, Datum.toD b = .tuple (x :: r)) ∨ ∀ b : Int, Datum.toD b ≠ .none ∧ ∀ xs, Datum.toD b ≠ .tuple xs := .inr fun b => ⟨fun z => (nomatch z), fun xs z => (nomatch z)⟩
theorem sorts_pair {α γ : Type} [DecidableEq α] [DatumOrd α] [DecidableEq γ] [DatumOrd γ] : (∀ b : α × γ, ∃ x r, Datum.toD b = .tuple (x :: r)) ∨ ∀ b : α × γ, Datum.toD b ≠ .none ∧ ∀ xs, Datum.toD b ≠ .tuple xs := .inl fun b => ⟨_, _, rfl⟩
end
/-! ### max(xs, default=d), xs a list of whole numbers -/
def maxI (d : Int) : List Int → Int
  | [] => d
  | x :: xs => maxOf x xs
def rMaxD (K : PySem.W.Frag) : List V → List V → Hp → VK → Prop := fun vs zs H Q => ∃ (a : Addr) (ns : List Int) (d : Int), vs = [V.ref a] ∧ zs = [V.int d] ∧ SqL K H a (ns.map V.int) ∧ Q (.int (maxI d ns)) H
theorem holdAll_ints {h : Heap} : ∀ {ns : List Int} {us : List Value}, Vals (ns.map V.int) us → HoldAll h us ns
  | [], _, r => by
    cases r
    exact ⟨[], .nil⟩
  | n :: ns, _, r => by
    cases r with
    | cons p q =>
      obtain ⟨t, rfl⟩ := p
      obtain ⟨as, h2⟩ := holdAll_ints q
      exact ⟨_, .cons (.int n t) h2⟩
section
variable {X : Cx}
theorem cr_maxD (hc : X.calm = true) (hu : X.A.units + 64 < cLine) : CallRK X (.builtin "max") [Str.ofString "default"] (rMaxD X.K) := by
  intro pins s σ H xs zs us ws Q I r rz h
  obtain ⟨a, ns, d, rfl, rfl, hs, q⟩ := h
  obtain ⟨u, rfl, ru⟩ := vals1 r
  obtain rfl : u = Value.ref a := ru
  obtain ⟨w, rfl, rw'⟩ := vals1 rz
  obtain ⟨t, rfl⟩ : ∃ t, w = Value.int d t := rw'
  obtain ⟨its, rv, pl, hz⟩ := I.list hs
  refine max_list_datum_default (α := Int) (xs := ns) (I.ok.hd hc) pl.isList (by simpa using holdAll_ints rv) (by show X.A.units + 1 + 0 < cLine; omega) (fun e h' tk k => ?_) fun y ys i v h' tk e hi hv k => ?_
  · subst e
    exact ⟨.int d, H, I.kept k, ⟨t, rfl⟩, q⟩
  · subst e
    obtain ⟨as, hr⟩ := hv
    have hr' : Reads h' v (.int (maxOf y ys)) as := hr
    cases hr' with
    | int i t => exact ⟨.int (maxOf y ys), H, I.kept k, ⟨t, rfl⟩, q⟩
end
/-! ### a, b, *c = t -/
def gStar (K : PySem.W.Frag) (n : Nat) (t : TGs) : TG := fun v σ H Q => ∃ a xs, v = .ref a ∧ SqT K H a xs ∧ n ≤ xs.length ∧ ∀ D, H D = none → t (xs.take n ++ [.ref D]) σ (upd H D (.lst (xs.drop n))) Q
section
variable {X : Cx} {pos : Pos}
theorem pgs_star {e : Expr} {p : Pos} {t : TG} (h1 : PG X e t) (hs : (assignEach [.Starred e p] X.env).map (·.2) = [assign e X.env] := by rfl) : PGs X [.Starred e p] (gCons t gNil) := by
  refine ⟨fun pins s σ H vs us Q I r h => ?_⟩
  obtain ⟨v, vr, e1, h⟩ := h
  subst e1
  cases r with
  | cons r rr =>
    rw [hs]
    refine assignInOrder_cons (thn (h1.run pins s σ H _ _ _ I r h) fun _ s1 ⟨σ1, H1, I1, q1⟩ => ?_)
    obtain ⟨e2, q2⟩ := q1
    subst e2
    cases rr
    exact assignInOrder_nil ⟨σ1, H1, I1, q2⟩
theorem pg_star {es : List Expr} {k : Nat} {t : TGs} {n : Nat} (hc : X.calm = true) (h : PGs X es t) (hn : (assignEach es X.env).length = n + 1 := by rfl) (hst : (assignEach es X.env).findIdx? (·.1) = some n := by rfl) : PG X (.Tuple es k pos) (gStar X.K n t) := by
  refine ⟨fun pins s σ H v u Q I r hw => ?_⟩
  obtain ⟨a, xs, e1, hq, hl, hw⟩ := hw
  subst e1
  cases r
  obtain ⟨its, rv, ht, hz⟩ := I.tuple hq
  have hh := I.ok.hd hc
  have hlt : a ≠ s.heap.objs.size := Nat.ne_of_lt ht.lt
  have hil : its.length = xs.length := rv.length.symm
  have hsz := sizeLine_eq
  rw [PyProof.Rows.assign_Tuple]
  refine wpAny_bind (wpAny_standAt ?_)
  unfold unpack
  rw [hn, hst]
  refine wpAny_bind (wpAny_holding ?_)
  unfold unpackItems
  refine wpAny_bind ?_
  unfold notIterableAtAll
  refine wpAny_bind (wpAny_specialOf ht.typeIs PySem.F.slot_tuple_iter.lookup ?_)
  refine wpAny_pure ?_
  simp only [Bool.false_eq_true, if_false]
  refine wpAny_bind (wpAny_holding (iter_tuple ht ?_))
  refine wpAny_bind (wpAny_holding (draw_tuple hlt n 0 _ _ ⟨_, Heap.get?_push_size _ rfl, rfl, rfl⟩ (ht.push _) (by simp; omega) fun h₁ hit₁ hs₁ => ?_))
  have hl₁ : IsTup h₁ a its.toArray := (ht.push _).extBut hs₁.extBut hlt
  rw [Nat.zero_add] at hit₁
  have hit₁' := hit₁
  obtain ⟨oi, hoi, _⟩ := hit₁'
  rw [List.drop_zero]
  have hfl : (its.toArray.toList.take n).length = n := by rw [List.length_take]; simp; omega
  rw [if_neg (show ¬ ((its.toArray.toList.take n).length < n) by rw [hfl]; omega)]
  refine wpAny_bind (wpAny_holding (kun_collect (s := { s with heap := h₁ }) (T := "tuple_iterator") (.inr (.inr (.inr rfl))) (Walks.tuple (A := X.A.in1) hh s.heap.objs.size a hlt its.toArray) (fun j u st => st.1.typeIs) (k := n) (by simp; omega) ⟨hit₁, hl₁⟩ (Heap.lt_size hoi) hl₁.lt (fun h₂ tk hk => ?_) (by simp; omega)))
  have hlit : its.toArray.toList = its := by simp
  rw [hlit]
  have hrl : (its.drop n).length = its.length - n := List.length_drop
  show wpAny _ _ (if (its.drop n).length < n + 1 - 1 - n then _ else _) _ _ _
  rw [if_neg (by omega)]
  show wpAny _ _ (newList ((its.drop n).take ((its.drop n).length - (n + 1 - 1 - n))) >>= fun d => pure (its.take n ++ [d] ++ (its.drop n).drop ((its.drop n).length - (n + 1 - 1 - n)))) _ _ _
  have e0 : n + 1 - 1 - n = 0 := by omega
  rw [e0, Nat.sub_zero, List.take_length, List.drop_length]
  simp only [List.append_nil]
  have kp : ∀ b o, s.heap.get? b = some o → h₂.get? b = some o := fun b o e => hk b o (Nat.ne_of_lt (Heap.lt_size e)) (hs₁.extBut b o (Nat.ne_of_lt (Heap.lt_size e)) (Heap.get?_push_of_some _ e))
  have I2 : Inv X pins σ H { s with heap := h₂, toks := tk } := I.kept kp
  refine wpAny_bind (wpAny_newList (wpAny_pure ?_) (by rw [hrl]; omega))
  have hf : H h₂.objs.size = none := I2.hok.fresh (Nat.le_refl _)
  have I3 : Inv X pins σ (upd H h₂.objs.size (.lst (xs.drop n))) { s with heap := h₂.push { cls := .type "list", data := .seq (its.drop n).toArray }, toks := tk } :=
    I2.laid (t' := tk) (fun b u e => Heap.get?_push_of_some _ e) (Nat.le_refl _) ⟨by rw [List.length_drop]; omega, its.drop n, 0, rv.drop n, Heap.get?_push_size _ rfl⟩
  exact h.run pins _ σ _ (xs.take n ++ [.ref h₂.objs.size]) _ Q I3 ((rv.take n).append (.cons (show RelV (.ref h₂.objs.size) (.ref h₂.objs.size) from rfl) .nil)) (hw _ hf)
end
end K91
/-! R2 -/
/-! walks over lists or tuples, as they come -/
namespace K91
open PySem PySem.Spec PyProof.Rows L2
/-- at a: a list (true), a tuple (false) of the items xs -/
def SqA (K : PySem.W.Frag) (H : Hp) (b : Bool) (a : Addr) (xs : List V) : Prop := match b with
  | true => SqL K H a xs
  | false => SqT K H a xs
def Src (h : Heap) (b : Bool) (a : Addr) (us : List Value) : Prop := match b with
  | true => h.IsList a us.toArray
  | false => h.IsTuple a us.toArray
def SrcIt (h : Heap) (b : Bool) (it a : Addr) (i : Nat) : Prop := match b with
  | true => h.IsListIter it a i
  | false => h.IsTupleIter it a i
def itO (b : Bool) (a : Addr) : Obj := match b with
  | true => { cls := .type "list_iterator", data := .fields #[.ref a, .int 0 0] }
  | false => { cls := .type "tuple_iterator", data := .fields #[.ref a, .int 0 0] }
theorem begins_src (b : Bool) (a : Addr) (us : List Value) : Begins (.ref a) (itO b a) fun h => Src h b a us := match b with
  | true => begins_list a us.toArray
  | false => begins_tuple a us.toArray
theorem draws_src {P : Program} {w : World} {A : Around} (hh : A.handled = none) (b : Bool) (it a : Addr) (hne : a ≠ it) (us : List Value) :
    Draws P w A it [it, a] us.length (fun i v => us[i]? = some v) (fun i h => SrcIt h b it a i ∧ Src h b a us) := by
  have e1 : us.toArray.size = us.length := by simp
  cases b with
  | true =>
    have D := Draws.list (prog := P) (w := w) hh it a hne us.toArray
    rw [e1] at D
    simp only [List.getElem?_toArray] at D
    exact D
  | false =>
    have D := Draws.tuple (prog := P) (w := w) hh it a hne us.toArray
    rw [e1] at D
    simp only [List.getElem?_toArray] at D
    exact D
theorem srcIt_at {h h' : Heap} {b : Bool} {it a : Addr} {i : Nat} (x : SrcIt h b it a i) (k : ∀ o, h.get? it = some o → h'.get? it = some o) : SrcIt h' b it a i := match b, x with
  | true, x => x.at k
  | false, x => x.at k
theorem srcIt_obj {h : Heap} {b : Bool} {it a : Addr} {i : Nat} (x : SrcIt h b it a i) : ∃ o, h.get? it = some o ∧ ∀ v, o.data ≠ .cell v := match b, x with
  | true, ⟨o, e, _, d⟩ => ⟨o, e, fun v z => by rw [d] at z; cases z⟩
  | false, ⟨o, e, _, d⟩ => ⟨o, e, fun v z => by rw [d] at z; cases z⟩
theorem srcIt_new {h : Heap} {b : Bool} {it a : Addr} (e : h.get? it = some (itO b a)) : SrcIt h b it a 0 := match b, e with
  | true, e => ⟨_, e, rfl, rfl⟩
  | false, e => ⟨_, e, rfl, rfl⟩
section
variable {X : Cx} {pins : List (Addr × Obj)} {σ : L2.St} {H : Hp} {s : Shared} {a : Addr} {b : Bool} {xs ys : List V}
theorem inv_src (I : Inv X pins σ H s) (h : SqA X.K H b a xs) : ∃ us : List Value, Vals xs us ∧ Src s.heap b a us ∧ xs.length ≤ sizeLine ∧ a < s.heap.objs.size := by
  cases b with
  | true =>
    obtain ⟨us, r, p, z⟩ := I.list h
    exact ⟨us, r, p.isList, z, p.lt⟩
  | false =>
    obtain ⟨us, r, p, z⟩ := I.tuple h
    exact ⟨us, r, p, z, p.lt⟩
theorem src_inj (I : Inv X pins σ H s) (h : SqA X.K H b a xs) (g : SqA X.K H b a ys) : xs = ys := by
  cases b with
  | true => exact I.list_inj h g
  | false => exact I.tuple_inj h g
end
def Ita (K : PySem.W.Frag) (b : Bool) (a : Addr) : It := match b with
  | true => Itl K a
  | false => Itt K a
/-- for x in l, l a list or a tuple -/
def iAny (K : PySem.W.Frag) (tl : TE) : TI := fun σ H R => tl σ H fun x H1 => ∃ b a xs, x = .ref a ∧ SqA K H1 b a xs ∧ R (Ita K b a) H1
section
variable {X : Cx} {tg : Expr}
theorem pi_any {l : Expr} {tl : TE} (hl : PE X l tl) : PI X tg l (iAny X.K tl) := by
  constructor
  intro pins s σ H R I h
  refine thn (hl.run pins s σ H _ I h) fun v s1 ⟨x, H1, I1, r1, b, a, xs, e, hq, q⟩ => ?_
  subst e
  cases r1
  obtain ⟨us, rv, p, hz, _⟩ := inv_src I1 hq
  refine (begins_src b a us).iter _ _ _ _ _ _ p ?_
  have T : Turn X.prog X.w X.K tg (Ita X.K b a) [s1.heap.objs.size] s1.heap.objs.size (fun i h => SrcIt h b s1.heap.objs.size a i) := match b with
    | true => turn_list a _
    | false => turn_tuple a _
  refine ⟨_, [s1.heap.objs.size], _, _, H1, rfl, I1.kept (t' := s1.toks) fun _ _ z => Heap.get?_push_of_some _ z, T, srcIt_new (Heap.get?_push_size _ (begins_src b a us).free), fun c hc => ?_, q⟩
  have e : c = s1.heap.objs.size := by simpa using hc
  rw [e]
  exact I1.fpOk (Nat.le_refl _) (I1.hok.fresh (Nat.le_refl _))
end
theorem pi_anyK {X : Cx} {tg l : Expr} {tl : TE} {K : PySem.W.Frag} (hl : PE X l tl) (hK : X.K = K := by rfl) : PI X tg l (iAny K tl) := by
  subst hK
  exact pi_any hl
theorem for_any {K : PySem.W.Frag} {b : Bool} {a : Addr} {xs : List V} {g : TG} {tb : TS} {D : Ends} {σ : L2.St} {H : Hp} (Pv : Nat → L2.St → Hp → Prop) (h0 : Pv 0 σ H) (hl : ∀ i σ H, i ≤ xs.length → Pv i σ H → SqA K H b a xs)
    (hs : ∀ i x σ H, xs[i]? = some x → Pv i σ H → g x σ H fun σ2 H2 => tb { D with nx := Pv (i + 1), ct := Pv (i + 1), bk := D.nx } σ2 H2) (hd : ∀ σ H, Pv xs.length σ H → D.nx σ H) :
    ∃ W : Nat → Nat → L2.St → Hp → Prop, (∃ m, W 0 m σ H) ∧ ∀ i m σ H, W i m σ H → ((Ita K b a).stop i H ∧ D.nx σ H) ∨
      ((Ita K b a).go i H ∧ ∃ N : L2.St → Hp → Prop, (∀ σ' H', N σ' H' → ∃ m', m' < m ∧ W (i + 1) m' σ' H') ∧ ∀ x H', (Ita K b a).yld i H x H' → g x σ H' fun σ2 H2 => tb { D with nx := N, ct := N, bk := D.nx } σ2 H2) := match b, hl with
  | true, hl => for_list Pv h0 hl hs hd
  | false, hl => for_tup Pv h0 hl hs hd
theorem lc_any {K : PySem.W.Frag} {b : Bool} {a : Addr} {xs : List V} {g : TG} {tt : TT} {te : TE} {vs : List Nat} {σ : L2.St} {H1 : Hp} {D : Addr} {Qd : Hp → Prop} (Pv : Nat → Hp → Prop) (h0 : Pv 0 (upd H1 D (.lst []))) (hl : ∀ i H, i ≤ xs.length → Pv i H → SqA K H b a xs)
    (hs : ∀ i x H, xs[i]? = some x → Pv i H → g x (wipe σ vs) H fun σ2 H2 => wipe σ2 vs = wipe σ vs ∧ tt σ2 H2 fun c H3 =>
      if c = true then te σ2 H3 fun y H4 => ∃ acc, H4 D = some (.lst acc) ∧ acc.length < sizeLine ∧ Pv (i + 1) (upd H4 D (.lst (acc ++ [y]))) else Pv (i + 1) H3) (hd : ∀ H, Pv xs.length H → Qd H) :
    ∃ W : Nat → Nat → Hp → Prop, (∃ m, W 0 m (upd H1 D (.lst []))) ∧ ∀ i m H, W i m H → ((Ita K b a).stop i H ∧ Qd H) ∨
      ((Ita K b a).go i H ∧ ∃ Nx : Hp → Prop, (∀ H', Nx H' → ∃ m', m' < m ∧ W (i + 1) m' H') ∧ ∀ x H', (Ita K b a).yld i H x H' → g x (wipe σ vs) H' fun σ2 H2 => wipe σ2 vs = wipe σ vs ∧ tt σ2 H2 fun c H3 =>
        if c = true then te σ2 H3 fun y H4 => ∃ acc, H4 D = some (.lst acc) ∧ acc.length < sizeLine ∧ Nx (upd H4 D (.lst (acc ++ [y]))) else Nx H3) := match b, hl with
  | true, hl => lc_list Pv h0 hl hs hd
  | false, hl => lc_tup Pv h0 hl hs hd
/-! ### walks of a told number of turns -/
/-- a loop of n turns; Pv tells how it stands ahead of each -/
theorem for_n {it : It} {n : Nat} {g : TG} {tb : TS} {D : Ends} {σ : L2.St} {H : Hp} (Pv : Nat → L2.St → Hp → Prop) (h0 : Pv 0 σ H)
    (turn : ∀ i σ H, i < n → Pv i σ H → it.go i H ∧ ∀ x H', it.yld i H x H' → g x σ H' fun σ2 H2 => tb { D with nx := Pv (i + 1), ct := Pv (i + 1), bk := D.nx } σ2 H2) (done : ∀ σ H, Pv n σ H → it.stop n H ∧ D.nx σ H) :
    ∃ W : Nat → Nat → L2.St → Hp → Prop, (∃ m, W 0 m σ H) ∧ ∀ i m σ H, W i m σ H → (it.stop i H ∧ D.nx σ H) ∨
      (it.go i H ∧ ∃ N : L2.St → Hp → Prop, (∀ σ' H', N σ' H' → ∃ m', m' < m ∧ W (i + 1) m' σ' H') ∧ ∀ x H', it.yld i H x H' → g x σ H' fun σ2 H2 => tb { D with nx := N, ct := N, bk := D.nx } σ2 H2) := by
  refine ⟨fun i left σ H => i + left = n ∧ Pv i σ H, ⟨n, Nat.zero_add n, h0⟩, fun i left σ H now => ?_⟩
  obtain ⟨sum, p⟩ := now
  cases left with
  | zero =>
    obtain rfl : i = n := sum
    exact .inl (done σ H p)
  | succ left =>
    obtain ⟨more, each⟩ := turn i σ H (by omega) p
    exact .inr ⟨more, Pv (i + 1), fun _ _ p' => ⟨left, Nat.lt_succ_self left, by omega, p'⟩, each⟩
/-- a comprehension of n turns, one turn told by F -/
theorem lc_n {it : It} {n : Nat} {g : TG} {F : (Hp → Prop) → L2.St → Hp → Prop} {τ : L2.St} {H0 : Hp} {Qd : Hp → Prop} (Pv : Nat → Hp → Prop) (h0 : Pv 0 H0)
    (turn : ∀ i H, i < n → Pv i H → it.go i H ∧ ∀ x H', it.yld i H x H' → g x τ H' fun σ2 H2 => F (Pv (i + 1)) σ2 H2) (done : ∀ H, Pv n H → it.stop n H ∧ Qd H) :
    ∃ W : Nat → Nat → Hp → Prop, (∃ m, W 0 m H0) ∧ ∀ i m H, W i m H → (it.stop i H ∧ Qd H) ∨
      (it.go i H ∧ ∃ Nx : Hp → Prop, (∀ H', Nx H' → ∃ m', m' < m ∧ W (i + 1) m' H') ∧ ∀ x H', it.yld i H x H' → g x τ H' fun σ2 H2 => F Nx σ2 H2) := by
  refine ⟨fun i left H => i + left = n ∧ Pv i H, ⟨n, Nat.zero_add n, h0⟩, fun i left H now => ?_⟩
  obtain ⟨sum, p⟩ := now
  cases left with
  | zero =>
    obtain rfl : i = n := sum
    exact .inl (done H p)
  | succ left =>
    obtain ⟨more, each⟩ := turn i H (by omega) p
    exact .inr ⟨more, Pv (i + 1), fun _ p' => ⟨left, Nat.lt_succ_self left, by omega, p'⟩, each⟩
section
variable {X : Cx} {pins : List (Addr × Obj)} {σ : L2.St} {H : Hp} {s : Shared}
/-- a new pair stands at the heap's end; besides it only what is watched has changed -/
theorem pair_new (I : Inv X pins σ H s) {x y : V} {u v : Value} (rx : RelV x u) (ry : RelV y v) {watch : List Addr} (own : ∀ b ∈ watch, FpOk X pins H b) {h : Heap} (n : Nat) (at_ : h.get? s.heap.objs.size = some { cls := .type "tuple", data := .seq #[u, v] })
    (rest : ∀ b o, b ∉ watch → s.heap.get? b = some o → h.get? b = some o) : Inv X pins σ (upd H s.heap.objs.size (.tup [x, y])) { s with heap := h, toks := n } :=
  I.turnedNew rest own (Nat.le_refl _) ⟨(by decide : 2 ≤ sizeLine), [u, v], .cons rx (.cons ry .nil), ⟨_, at_, rfl, _, rfl⟩⟩
/-- what is watched is not the new pair -/
theorem watch_free {watch : List Addr} (own : ∀ b ∈ watch, FpOk X pins H b) (stands : ∀ b ∈ watch, ∃ o, s.heap.get? b = some o ∧ ∀ v, o.data ≠ .cell v) (ob : HO) : ∀ b ∈ watch, upd H s.heap.objs.size ob b = none := fun b hb => by
  obtain ⟨_, at_, _⟩ := stands b hb
  rw [upd_ne (Nat.ne_of_lt (Heap.lt_size at_))]
  exact (own b hb).1
end
theorem each2 {p : Addr → Prop} {a b : Addr} (h1 : p a) (h2 : p b) : ∀ c ∈ [a, b], p c := List.forall_mem_cons.2 ⟨h1, List.forall_mem_cons.2 ⟨h2, fun _ h => nomatch h⟩⟩
theorem each5 {p : Addr → Prop} {a b c d e : Addr} (h1 : p a) (h2 : p b) (h3 : p c) (h4 : p d) (h5 : p e) : ∀ x ∈ [a, b, c, d, e], p x := List.forall_mem_cons.2 ⟨h1, List.forall_mem_cons.2 ⟨h2, List.forall_mem_cons.2 ⟨h3, each2 h4 h5⟩⟩⟩
theorem none_of2 {a b c : Addr} (h : c ∉ [a, b]) : c ≠ a ∧ c ≠ b := ⟨fun e => h (e ▸ List.mem_cons_self), fun e => h (e ▸ List.mem_cons_of_mem _ List.mem_cons_self)⟩
/-! ### enumerate -/
theorem src_neIt {h : Heap} {b : Bool} {a it : Addr} {i : Nat} {us : List Value} (p : Src h b a us) (q : SrcIt h b it a i) : a ≠ it := fun z => by
  cases b with
  | true =>
    obtain ⟨o1, e1, _, d1⟩ := q
    obtain ⟨o2, e2, _, n2, d2⟩ := p
    rw [z, e1] at e2
    cases e2
    rw [d1] at d2
    cases d2
  | false =>
    obtain ⟨o1, e1, _, d1⟩ := q
    obtain ⟨o2, e2, _, n2, d2⟩ := p
    rw [z, e1] at e2
    cases e2
    rw [d1] at d2
    cases d2
theorem src_neF {h : Heap} {b : Bool} {a e : Addr} {c : String} {dt : Option Addr} {fs sl : _} {us : List Value} (p : Src h b a us) (q : h.get? e = some { cls := .type c, dict := dt, data := .fields fs, slots := sl }) : a ≠ e := fun z => by
  cases b with
  | true =>
    obtain ⟨o2, e2, _, n2, d2⟩ := p
    rw [z, q] at e2
    cases e2
    cases d2
  | false =>
    obtain ⟨o2, e2, _, n2, d2⟩ := p
    rw [z, q] at e2
    cases e2
    cases d2
theorem src_neE {h : Heap} {b : Bool} {a e it : Addr} {i : Int} {old : Value} {us : List Value} (p : Src h b a us) (q : IsEnum h e it i old) : a ≠ e := src_neF p q
theorem enum_new {v : Value} {o : Obj} {Hy : Heap → Prop} (B : Begins v o Hy) :
    Meets (Builtin.«enumerate.__new__» ⟨[.type "enumerate", v], []⟩) (fun _ R s => Hy s.heap ∧ R (.ok (.ret (.ref (s.heap.push o).objs.size)))
      { s with heap := (s.heap.push o).push { cls := .type "enumerate", data := .fields #[.none, .bool false, .ref s.heap.objs.size, rawInt 0, .none, .none] } }) :=
  .of_wp fun prog w A R s h => by
    obtain ⟨hp, g, d, tk, os⟩ := s
    obtain ⟨hy, h⟩ := h
    have hsub := sub_enumerate
    have q1 : ∀ (A' : Around) (E' : Value → Shared → Prop) (Q' : Value → Shared → Prop), Q' (.ref hp.objs.size) ⟨hp.push o, g, d, tk, os⟩ → wpAny (model prog w) A' (pyIter v) Q' E' ⟨hp, g, d, tk, os⟩ := fun A' E' Q' hq => B.iter prog w A' E' ⟨hp, g, d, tk, os⟩ Q' hy hq
    wp_walk
    refine wpAny_stack_any fun st => wpAny_pure ?_
    split
    · rename_i c _ _ _ _ _
      cases (c == Value.type "enumerate")
      · wp_walk using q1
        exact ⟨_, rfl, h⟩
      · wp_walk using q1
        exact ⟨_, rfl, h⟩
    · wp_walk using q1
      exact ⟨_, rfl, h⟩
theorem enum_call {prog : Program} {w : World} {A : Around} {E : Value → Shared → Prop} {s : Shared} {v : Value} {o : Obj} {Hy : Heap → Prop} {Q : Value → Shared → Prop} (B : Begins v o Hy) (h1 : Hy s.heap)
    (h : ∀ h', IsEnum h' (s.heap.objs.size + 1) s.heap.objs.size 0 .none → h'.get? s.heap.objs.size = some o → (∀ b ob, s.heap.get? b = some ob → h'.get? b = some ob) → Q (.ref (s.heap.objs.size + 1)) { s with heap := h' }) :
    wpAny (model prog w) A (call (.type "enumerate") [v]) Q E s := by
  refine callType_new F.called_enumerate (by decide) (F.typeCall_enumerate_1 _) (F.newCall_enumerate_1 _) (fun obj => F.args_object_init_2 obj _) F.entry_enumerate_new (enum_new B) ⟨h1, ?_⟩
  have hz : (s.heap.push o).objs.size = s.heap.objs.size + 1 := Heap.size_push ..
  show _ ∧ _
  rw [hz]
  have he : IsEnum ((s.heap.push o).push { cls := .type "enumerate", data := .fields #[.none, .bool false, .ref s.heap.objs.size, rawInt 0, .none, .none] }) (s.heap.objs.size + 1) s.heap.objs.size 0 .none := by
    have q := Heap.get?_push_size (s.heap.push o) (o := { cls := .type "enumerate", data := .fields #[.none, .bool false, .ref s.heap.objs.size, rawInt 0, .none, .none] }) rfl
    rw [hz] at q
    exact q
  exact ⟨⟨_, he, rfl⟩, h _ he (Heap.get?_push_of_some _ (Heap.get?_push_size _ B.free)) fun b ob x => Heap.get?_push_of_some _ (Heap.get?_push_of_some _ x)⟩
def ItEA (K : PySem.W.Frag) (b : Bool) (a : Addr) : It :=
  ⟨fun i H => ∃ (xs : List V) (x : V), SqA K H b a xs ∧ xs[i]? = some x, fun i H v H' => ∃ T x, v = .ref T ∧ H T = none ∧ H' = upd H T (.tup [.int (i : Nat), x]) ∧ ∀ xs, SqA K H b a xs → xs[i]? = some x, fun i H => ∃ xs : List V, SqA K H b a xs ∧ xs.length = i⟩
theorem enumA_stands {h : Heap} {b : Bool} {a e it : Addr} {i : Nat} {n : Int} {old : Value} (at_ : IsEnum h e it n old) (src : SrcIt h b it a i) : ∀ c ∈ [e, it], ∃ o, h.get? c = some o ∧ ∀ v, o.data ≠ .cell v := each2 ⟨_, at_, fun _ z => nomatch z⟩ (srcIt_obj src)
theorem turn_enumA {P : Program} {w : World} {K : PySem.W.Frag} {elts : List Expr} {kk : Nat} {tpos : Pos} (b : Bool) (a e it : Addr) (ne : e ≠ it) :
    Turn P w K (.Tuple elts kk tpos) (ItEA K b a) [e, it] e (fun i h => (∃ old, IsEnum h e it ((i : Nat) : Int) old) ∧ SrcIt h b it a i) where
  mem := List.mem_cons_self
  obj _ _ st := let ⟨⟨_, at_⟩, src⟩ := st; enumA_stands at_ src
  keep _ _ _ st k := let ⟨⟨old, at_⟩, src⟩ := st; ⟨⟨old, k e List.mem_cons_self _ at_⟩, srcIt_at src (k it (List.mem_cons_of_mem _ List.mem_cons_self))⟩
  item := by
    rintro X rfl rfl rfl calm i pins s σ H E I own ⟨⟨old, at_⟩, src⟩ ⟨xs, x, sq, hx⟩
    obtain ⟨us, vals, stand, _, _⟩ := inv_src I sq
    obtain ⟨u, hu, rx⟩ := vals.get hx
    have apart : a ∉ [e, it] := fun z => (List.mem_cons.mp z).elim (src_neE stand at_) fun z => src_neIt stand src (List.mem_singleton.mp z)
    refine wpAny_pyNext_enum_itemC (draws_src (A := X.A.in1) (I.ok.hd calm) b it a (src_neIt stand src) us) at_ ⟨src, stand⟩ (List.getElem?_eq_some_iff.mp hu).1 ne (by simp [ne, Ne.symm (src_neE stand at_)]) fun y h1 tk hy en src1 pair _ k1 => ?_
    obtain rfl : u = y := Option.some.inj (hu.symm.trans hy)
    refine ⟨_, rfl, wpAny_letOwnedTupleGo_enum (s := { s with heap := h1, toks := tk + 1 }) en fun h2 en2 k2 => ?_⟩
    have pair2 := (k2.2 s.heap.objs.size (Nat.ne_of_gt (Heap.lt_size at_))).trans pair
    have J := pair_new I (x := .int (i : Nat)) ⟨_, rfl⟩ rx own (tk + 1) pair2 fun c o nc z => let ⟨n1, n2⟩ := none_of2 nc; (k2.2 c n1).trans (k1 c o n1 (by simp [n1, n2]) z)
    exact ⟨.ref s.heap.objs.size, _, J, rfl, ⟨_, x, rfl, I.hok.fresh (Nat.le_refl _), rfl, fun ys hy => src_inj I sq hy ▸ hx⟩, ⟨⟨u, Int.natCast_succ i ▸ en2⟩, srcIt_at src1.1 fun o z => (k2.2 it (Ne.symm ne)).trans z⟩, watch_free own (enumA_stands at_ src) _⟩
  done := by
    rintro X rfl rfl rfl calm i pins s σ H E I own ⟨⟨old, at_⟩, src⟩ ⟨xs, sq, rfl⟩
    obtain ⟨us, vals, stand, _, _⟩ := inv_src I sq
    rw [vals.length] at src
    obtain ⟨g0, g1, _, g3, g4, g5⟩ := own it (List.mem_cons_of_mem _ List.mem_cons_self)
    rw [vals.length] at at_
    exact wpAny_pyNext_enum_endD (draws_src (A := X.A.in1) (I.ok.hd calm) b it a (src_neIt stand src) us) at_ ⟨src, stand⟩ fun _ k => ⟨rfl, I.turned (t' := s.toks) k g0 g1 g3 g4 g5⟩
  self _ _ _ _ _ st h := let ⟨⟨_, at_⟩, _⟩ := st; wpAny_pyIter_enum at_ h
/-- for i, x in enumerate(l), l a list or a tuple -/
def iEnumA (K : PySem.W.Frag) (ta : TA) : TI := fun σ H R => ta σ H fun vs H1 => ∃ b a xs, vs = [.ref a] ∧ SqA K H1 b a xs ∧ R (ItEA K b a) H1
theorem pi_enumA {X : Cx} {e : Expr} {ta : TA} {p pos tpos : Pos} {elts : List Expr} {kk : Nat} (hg : Gl X "enumerate") (hm : X.mg "enumerate" = none) (ha : PA X [e] ta) (hs : starEach [e] X.env = [(false, eval e X.env)] := by rfl) :
    PI X (.Tuple elts kk tpos) (.Call (.Name "enumerate" p) [e] [] pos) (iEnumA X.K ta) := by
  constructor
  intro pins s σ H R I h
  refine Call_ (ld_blt I hg hm boot_enumerate (PyProof.Rows.callWith_type1 (thn (ha.run pos pins s σ H _ I h) fun us s1 ⟨vs, H1, I1, r1, b, a, xs, ex, hq, q⟩ => ?_) hs rfl))
  subst ex
  cases r1 with
  | cons r rr =>
    cases rr
    cases r
    obtain ⟨us, rv, pl, hz, hlt⟩ := inv_src I1 hq
    refine enum_call (begins_src b a us) pl fun h' he hit hk => wpAny_pyIter_enum he ?_
    have I2 : Inv X pins σ H1 { s1 with heap := h' } := I1.kept (t' := s1.toks) hk
    refine ⟨_, _, _, _, H1, rfl, I2, turn_enumA b a (s1.heap.objs.size + 1) s1.heap.objs.size (Nat.succ_ne_self _), ⟨⟨.none, he⟩, srcIt_new hit⟩, fun c hcm => ?_, q⟩
    have hle : s1.heap.objs.size ≤ c := by
      rcases List.mem_cons.mp hcm with z | z
      · rw [z]; exact Nat.le_succ _
      · rw [List.mem_singleton.mp z]; exact Nat.le_refl _
    exact I1.fpOk hle (I1.hok.fresh hle)
theorem for_enumA {K : PySem.W.Frag} {b : Bool} {a : Addr} {xs : List V} {g : TG} {tb : TS} {D : Ends} {σ : L2.St} {H : Hp} (Pv : Nat → L2.St → Hp → Prop) (h0 : Pv 0 σ H) (hl : ∀ i σ H, i ≤ xs.length → Pv i σ H → SqA K H b a xs)
    (hs : ∀ i x T σ H, xs[i]? = some x → Pv i σ H → H T = none → g (.ref T) σ (upd H T (.tup [.int (i : Nat), x])) fun σ2 H2 => tb { D with nx := Pv (i + 1), ct := Pv (i + 1), bk := D.nx } σ2 H2) (hd : ∀ σ H, Pv xs.length σ H → D.nx σ H) :
    ∃ W : Nat → Nat → L2.St → Hp → Prop, (∃ m, W 0 m σ H) ∧ ∀ i m σ H, W i m σ H → ((ItEA K b a).stop i H ∧ D.nx σ H) ∨
      ((ItEA K b a).go i H ∧ ∃ N : L2.St → Hp → Prop, (∀ σ' H', N σ' H' → ∃ m', m' < m ∧ W (i + 1) m' σ' H') ∧ ∀ x H', (ItEA K b a).yld i H x H' → g x σ H' fun σ2 H2 => tb { D with nx := N, ct := N, bk := D.nx } σ2 H2) :=
  for_n Pv h0 (fun i σ H lt p => have q := hl i σ H (Nat.le_of_lt lt) p; ⟨⟨xs, _, q, List.getElem?_eq_getElem lt⟩, fun _ _ ⟨T, x, ev, free, eH, told⟩ => by subst ev eH; exact hs i x T σ H (told xs q) p free⟩) fun σ H p => ⟨⟨xs, hl _ σ H (Nat.le_refl _) p, rfl⟩, hd σ H p⟩
/-! ### zip -/
def ItZA (K : PySem.W.Frag) (b c : Bool) (a d : Addr) : It :=
  ⟨fun i H => ∃ (xs ys : List V) (x y : V), SqA K H b a xs ∧ SqA K H c d ys ∧ xs[i]? = some x ∧ ys[i]? = some y, fun i H v H' => ∃ T x y, v = .ref T ∧ H T = none ∧ H' = upd H T (.tup [x, y]) ∧ (∀ xs, SqA K H b a xs → xs[i]? = some x) ∧ ∀ ys, SqA K H c d ys → ys[i]? = some y,
    fun i H => ∃ xs ys : List V, SqA K H b a xs ∧ SqA K H c d ys ∧ xs.length = i ∧ ys.length = i⟩
theorem zipA_stands {h : Heap} {b c : Bool} {a d z TI TO i1 i2 : Addr} {i : Nat} {u v x y : Value} (at_ : IsZip h z TI TO .none) (ins : IsTupOf2 h TI u v) (out : IsTupOf2 h TO x y) (s1 : SrcIt h b i1 a i) (s2 : SrcIt h c i2 d i) :
    ∀ f ∈ [z, TI, TO, i1, i2], ∃ o, h.get? f = some o ∧ ∀ v, o.data ≠ .cell v := each5 ⟨_, at_, fun _ z => nomatch z⟩ ⟨_, ins, fun _ z => nomatch z⟩ ⟨_, out, fun _ z => nomatch z⟩ (srcIt_obj s1) (srcIt_obj s2)
theorem turn_zipA {P : Program} {w : World} {K : PySem.W.Frag} {elts : List Expr} {kk : Nat} {tpos : Pos} (b c : Bool) (a d : Addr) {z TI TO i1 i2 : Addr} (D : ZipSep2 z TI TO i1 i2 [i1, a] [i2, d]) :
    Turn P w K (.Tuple elts kk tpos) (ItZA K b c a d) [z, TI, TO, i1, i2] z (fun i h => IsZip h z TI TO .none ∧ IsTupOf2 h TI (.ref i1) (.ref i2) ∧ (∃ x y, IsTupOf2 h TO x y) ∧ SrcIt h b i1 a i ∧ SrcIt h c i2 d i) where
  mem := List.mem_cons_self
  obj _ _ st := let ⟨at_, ins, ⟨_, _, out⟩, s1, s2⟩ := st; zipA_stands at_ ins out s1 s2
  keep i h h' st k := by
    obtain ⟨at_, ins, ⟨x, y, out⟩, s1, s2⟩ := st
    simp only [List.forall_mem_cons] at k
    obtain ⟨kz, kI, kO, k1, k2, _⟩ := k
    exact ⟨kz _ at_, kI _ ins, ⟨x, y, kO _ out⟩, srcIt_at s1 k1, srcIt_at s2 k2⟩
  item := by
    rintro X rfl rfl rfl calm i pins s σ H E I own ⟨at_, ins, ⟨x0, y0, out⟩, s1, s2⟩ ⟨xs, ys, x, y, sqx, sqy, hx, hy⟩
    obtain ⟨us, valx, px, _, _⟩ := inv_src I sqx
    obtain ⟨vs, valy, py, _, _⟩ := inv_src I sqy
    obtain ⟨u, hu, rx⟩ := valx.get hx
    obtain ⟨v, hv, ry⟩ := valy.get hy
    refine wpAny_pyNext_zipD2_item D (draws_src (A := X.A.in1) (I.ok.hd calm) b i1 a (src_neIt px s1) us) (draws_src (A := X.A.in1) (I.ok.hd calm) c i2 d (src_neIt py s2) vs) at_ ins out ⟨s1, px⟩ ⟨s2, py⟩ (List.getElem?_eq_some_iff.mp hu).1 (List.getElem?_eq_some_iff.mp hv).1 fun u' v' h1 tk eu ev zip1 out1 st1 st2 pair _ k1 => ?_
    obtain rfl : u = u' := Option.some.inj (hu.symm.trans eu)
    obtain rfl : v = v' := Option.some.inj (hv.symm.trans ev)
    refine ⟨_, rfl, wpAny_letOwnedTupleGo_zip (s := { s with heap := h1, toks := tk }) zip1 fun h2 zip2 k2 => ?_⟩
    have pair2 := (k2.2 s.heap.objs.size (Nat.ne_of_gt (Heap.lt_size at_))).trans pair
    have J := pair_new I rx ry own tk pair2 fun f o nf q => by
      simp only [List.mem_cons, List.not_mem_nil, or_false, not_or] at nf
      obtain ⟨n0, nI, nO, n1, n2⟩ := nf
      exact (k2.2 f n0).trans (k1 f o n0 nO n1 n2 q)
    exact ⟨.ref s.heap.objs.size, _, J, rfl, ⟨_, x, y, rfl, I.hok.fresh (Nat.le_refl _), rfl, fun l hl => src_inj I sqx hl ▸ hx, fun l hl => src_inj I sqy hl ▸ hy⟩,
      ⟨zip2, (k2.2 _ D.TIz).trans (k1 _ _ D.TIz D.TITO D.TIi1 D.TIi2 ins), ⟨u, v, (k2.2 _ D.TOz).trans out1⟩, srcIt_at st1.1 fun o q => (k2.2 _ (Ne.symm D.zi1)).trans q, srcIt_at st2.1 fun o q => (k2.2 _ (Ne.symm D.zi2)).trans q⟩, watch_free own (zipA_stands at_ ins out s1 s2) _⟩
  done := by
    rintro X rfl rfl rfl calm i pins s σ H E I own ⟨at_, ins, ⟨x0, y0, out⟩, s1, s2⟩ ⟨xs, ys, sqx, sqy, rfl, ey⟩
    obtain ⟨us, valx, px, _, _⟩ := inv_src I sqx
    obtain ⟨vs, valy, py, _, _⟩ := inv_src I sqy
    have n1 := valx.length
    have n2 := valy.length
    refine wpAny_pyNext_zipD2_end D (draws_src (A := X.A.in1) (I.ok.hd calm) b i1 a (src_neIt px s1) us) (draws_src (A := X.A.in1) (I.ok.hd calm) c i2 d (src_neIt py s2) vs) at_ ins out ⟨s1, px⟩ ⟨s2, py⟩ (by omega) (by omega) (.inl (by omega)) fun h1 tk k1 => ⟨rfl, I.turnedL (t' := tk) (fun f o nf q => ?_) own⟩
    simp only [List.mem_cons, List.not_mem_nil, or_false, not_or] at nf
    obtain ⟨n0, nI, nO, n1, n2⟩ := nf
    exact k1 f o n0 nO n1 n2 q
  self _ _ _ _ _ st h := wpAny_pyIter_zip st.1 h
def iZipA (K : PySem.W.Frag) (ta : TA) : TI := fun σ H R => ta σ H fun vs H1 => ∃ b c a d xs ys, vs = [.ref a, .ref d] ∧ SqA K H1 b a xs ∧ SqA K H1 c d ys ∧ R (ItZA K b c a d) H1
theorem sep_new {N a d : Addr} (la : a < N) (ld : d < N) : ZipSep2 (N + 4) (N + 2) (N + 3) N (N + 1) [N, a] [N + 1, d] := zip_sep2 (fp1 := [a]) (fp2 := [d]) (fun b hb => by rw [List.mem_singleton.mp hb]; exact la) fun b hb => by rw [List.mem_singleton.mp hb]; exact ld
theorem pi_zipA {X : Cx} {e e2 : Expr} {ta : TA} {p pos tpos : Pos} {elts : List Expr} {kk : Nat} (hg : Gl X "zip") (hm : X.mg "zip" = none) (ha : PA X [e, e2] ta)
    (hs : starEach [e, e2] X.env = (false, eval e X.env) :: starEach [e2] X.env := by rfl) (hpl : (backTo pos (starEach [e2] X.env)).any (·.1) = false := by rfl) :
    PI X (.Tuple elts kk tpos) (.Call (.Name "zip" p) [e, e2] [] pos) (iZipA X.K ta) := by
  constructor
  intro pins s σ H R I h
  refine Call_ (ld_blt I hg hm PyProof.Rows.boot_zip (PyProof.Rows.callWith_type1 (thn (ha.run pos pins s σ H _ I h) fun us s1 ⟨vs, H1, I1, r1, b, c, a, d, xs, ys, ex, hqx, hqy, q⟩ => ?_) hs hpl))
  subst ex
  cases r1 with
  | cons r rr =>
    cases rr with
    | cons r' rr =>
      cases rr
      cases r
      cases r'
      obtain ⟨us, rv, p1, _, la⟩ := inv_src I1 hqx
      obtain ⟨us2, rv2, p2, _, ld⟩ := inv_src I1 hqy
      refine zip_begins2 (begins_src b a us) (begins_src c d us2) p1 p2 fun h' hz hTI hTO h1 h2 hsz hk => wpAny_pyIter_zip hz ?_
      have I2 : Inv X pins σ H1 { s1 with heap := h' } := I1.kept (t' := s1.toks) hk
      refine ⟨_, _, _, _, H1, rfl, I2, turn_zipA b c a d (sep_new la ld), ⟨hz, hTI, ⟨_, _, hTO⟩, srcIt_new h1, srcIt_new h2⟩, fun f hcm => ?_, q⟩
      have hle : s1.heap.objs.size ≤ f := by
        simp only [List.mem_cons, List.not_mem_nil, or_false] at hcm
        rcases hcm with z | z | z | z | z
        · rw [z]; exact Nat.le_add_right _ _
        · rw [z]; exact Nat.le_add_right _ _
        · rw [z]; exact Nat.le_add_right _ _
        · rw [z]; exact Nat.le_refl _
        · rw [z]; exact Nat.le_add_right _ _
      exact I1.fpOk hle (I1.hok.fresh hle)
theorem for_zipA {K : PySem.W.Frag} {b c : Bool} {a d : Addr} {xs ys : List V} {g : TG} {tb : TS} {D : Ends} {σ : L2.St} {H : Hp} (hlen : xs.length = ys.length) (Pv : Nat → L2.St → Hp → Prop) (h0 : Pv 0 σ H) (hl : ∀ i σ H, Pv i σ H → SqA K H b a xs ∧ SqA K H c d ys)
    (hs : ∀ i x y T σ H, xs[i]? = some x → ys[i]? = some y → Pv i σ H → H T = none → g (.ref T) σ (upd H T (.tup [x, y])) fun σ2 H2 => tb { D with nx := Pv (i + 1), ct := Pv (i + 1), bk := D.nx } σ2 H2) (hd : ∀ σ H, Pv xs.length σ H → D.nx σ H) :
    ∃ W : Nat → Nat → L2.St → Hp → Prop, (∃ m, W 0 m σ H) ∧ ∀ i m σ H, W i m σ H → ((ItZA K b c a d).stop i H ∧ D.nx σ H) ∨
      ((ItZA K b c a d).go i H ∧ ∃ N : L2.St → Hp → Prop, (∀ σ' H', N σ' H' → ∃ m', m' < m ∧ W (i + 1) m' σ' H') ∧ ∀ x H', (ItZA K b c a d).yld i H x H' → g x σ H' fun σ2 H2 => tb { D with nx := N, ct := N, bk := D.nx } σ2 H2) :=
  for_n Pv h0 (fun i σ H lt p => have ⟨qx, qy⟩ := hl i σ H p; ⟨⟨xs, ys, _, _, qx, qy, List.getElem?_eq_getElem lt, List.getElem?_eq_getElem (hlen ▸ lt)⟩, fun _ _ ⟨T, x, y, ev, free, eH, tx, ty⟩ => by subst ev eH; exact hs i x y T σ H (tx xs qx) (ty ys qy) p free⟩)
    fun σ H p => have ⟨qx, qy⟩ := hl _ σ H p; ⟨⟨xs, ys, qx, qy, rfl, hlen.symm⟩, hd σ H p⟩
/-! ### comprehensions: one turn told by F -/
theorem lcG {K : PySem.W.Frag} {b : Bool} {a : Addr} {xs : List V} {g : TG} {F : (Hp → Prop) → L2.St → Hp → Prop} {τ : L2.St} {H0 : Hp} {Qd : Hp → Prop} (Pv : Nat → Hp → Prop) (h0 : Pv 0 H0) (hl : ∀ i H, i ≤ xs.length → Pv i H → SqA K H b a xs)
    (hs : ∀ i x H, xs[i]? = some x → Pv i H → g x τ H fun σ2 H2 => F (Pv (i + 1)) σ2 H2) (hd : ∀ H, Pv xs.length H → Qd H) :
    ∃ W : Nat → Nat → Hp → Prop, (∃ m, W 0 m H0) ∧ ∀ i m H, W i m H → ((Ita K b a).stop i H ∧ Qd H) ∨
      ((Ita K b a).go i H ∧ ∃ Nx : Hp → Prop, (∀ H', Nx H' → ∃ m', m' < m ∧ W (i + 1) m' H') ∧ ∀ x H', (Ita K b a).yld i H x H' → g x τ H' fun σ2 H2 => F Nx σ2 H2) :=
  lc_n Pv h0 (fun i H lt p => have q := hl i H (Nat.le_of_lt lt) p; have e := List.getElem?_eq_getElem lt; match b, q with
    | true, q => ⟨⟨xs, _, q, e⟩, fun _ _ ⟨eH, told⟩ => by subst eH; exact hs i _ _ (told xs q) p⟩
    | false, q => ⟨⟨xs, _, q, e⟩, fun _ _ ⟨eH, told⟩ => by subst eH; exact hs i _ _ (told xs q) p⟩)
    fun H p => ⟨match b, hl _ H (Nat.le_refl _) p with
    | true, q => ⟨xs, q, Nat.le_refl _⟩
    | false, q => ⟨xs, q, Nat.le_refl _⟩, hd H p⟩
theorem lcG_range {lo : Int} {n : Nat} {g : TG} {F : (Hp → Prop) → L2.St → Hp → Prop} {τ : L2.St} {H0 : Hp} {Qd : Hp → Prop} (Pv : Nat → Hp → Prop) (h0 : Pv 0 H0)
    (hs : ∀ i H, i < n → Pv i H → g (.int (lo + i)) τ H fun σ2 H2 => F (Pv (i + 1)) σ2 H2) (hd : ∀ H, Pv n H → Qd H) :
    ∃ W : Nat → Nat → Hp → Prop, (∃ m, W 0 m H0) ∧ ∀ i m H, W i m H → ((Itr lo n).stop i H ∧ Qd H) ∨
      ((Itr lo n).go i H ∧ ∃ Nx : Hp → Prop, (∀ H', Nx H' → ∃ m', m' < m ∧ W (i + 1) m' H') ∧ ∀ x H', (Itr lo n).yld i H x H' → g x τ H' fun σ2 H2 => F Nx σ2 H2) :=
  lc_n Pv h0 (fun i H lt p => ⟨lt, fun _ _ ⟨ev, eH⟩ => by subst ev eH; exact hs i _ lt p⟩) fun H p => ⟨Nat.le_refl _, hd H p⟩
theorem lcG_enum {K : PySem.W.Frag} {b : Bool} {a : Addr} {xs : List V} {g : TG} {F : (Hp → Prop) → L2.St → Hp → Prop} {τ : L2.St} {H0 : Hp} {Qd : Hp → Prop} (Pv : Nat → Hp → Prop) (h0 : Pv 0 H0) (hl : ∀ i H, i ≤ xs.length → Pv i H → SqA K H b a xs)
    (hs : ∀ i x T H, xs[i]? = some x → Pv i H → H T = none → g (.ref T) τ (upd H T (.tup [.int (i : Nat), x])) fun σ2 H2 => F (Pv (i + 1)) σ2 H2) (hd : ∀ H, Pv xs.length H → Qd H) :
    ∃ W : Nat → Nat → Hp → Prop, (∃ m, W 0 m H0) ∧ ∀ i m H, W i m H → ((ItEA K b a).stop i H ∧ Qd H) ∨
      ((ItEA K b a).go i H ∧ ∃ Nx : Hp → Prop, (∀ H', Nx H' → ∃ m', m' < m ∧ W (i + 1) m' H') ∧ ∀ x H', (ItEA K b a).yld i H x H' → g x τ H' fun σ2 H2 => F Nx σ2 H2) :=
  lc_n Pv h0 (fun i H lt p => have q := hl i H (Nat.le_of_lt lt) p; ⟨⟨xs, _, q, List.getElem?_eq_getElem lt⟩, fun _ _ ⟨T, x, ev, free, eH, told⟩ => by subst ev eH; exact hs i x T H (told xs q) p free⟩) fun H p => ⟨⟨xs, hl _ H (Nat.le_refl _) p, rfl⟩, hd H p⟩
theorem lcG_zip {K : PySem.W.Frag} {b c : Bool} {a d : Addr} {xs ys : List V} {g : TG} {F : (Hp → Prop) → L2.St → Hp → Prop} {τ : L2.St} {H0 : Hp} {Qd : Hp → Prop} (hlen : xs.length = ys.length) (Pv : Nat → Hp → Prop) (h0 : Pv 0 H0) (hl : ∀ i H, Pv i H → SqA K H b a xs ∧ SqA K H c d ys)
    (hs : ∀ i x y T H, xs[i]? = some x → ys[i]? = some y → Pv i H → H T = none → g (.ref T) τ (upd H T (.tup [x, y])) fun σ2 H2 => F (Pv (i + 1)) σ2 H2) (hd : ∀ H, Pv xs.length H → Qd H) :
    ∃ W : Nat → Nat → Hp → Prop, (∃ m, W 0 m H0) ∧ ∀ i m H, W i m H → ((ItZA K b c a d).stop i H ∧ Qd H) ∨
      ((ItZA K b c a d).go i H ∧ ∃ Nx : Hp → Prop, (∀ H', Nx H' → ∃ m', m' < m ∧ W (i + 1) m' H') ∧ ∀ x H', (ItZA K b c a d).yld i H x H' → g x τ H' fun σ2 H2 => F Nx σ2 H2) :=
  lc_n Pv h0 (fun i H lt p => have ⟨qx, qy⟩ := hl i H p; ⟨⟨xs, ys, _, _, qx, qy, List.getElem?_eq_getElem lt, List.getElem?_eq_getElem (hlen ▸ lt)⟩, fun _ _ ⟨T, x, y, ev, free, eH, tx, ty⟩ => by subst ev eH; exact hs i x y T H (tx xs qx) (ty ys qy) p free⟩)
    fun H p => have ⟨qx, qy⟩ := hl _ H p; ⟨⟨xs, ys, qx, qy, rfl, hlen.symm⟩, hd H p⟩
end K91
/-! MB -/
/-! layers and forms: plain Lean -/
namespace K91
section
variable {K : Type} [DecidableEq K]
/-- the layer of a syllable of kind k behind those told with their layers -/
def dep (fr : K → K → Bool) (k : K) : List ((K × Int) × Nat) → Nat
  | [] => 0
  | (y, d) :: r => if fr k y.1 = true then dep fr k r else max (d + 1) (dep fr k r)
/-- a row (its end first) with the layers -/
def annR (fr : K → K → Bool) : Rw K → List ((K × Int) × Nat)
  | [] => []
  | y :: r => (y, dep fr y.1 (annR fr r)) :: annR fr r
def ann (fr : K → K → Bool) (r : Rw K) : List ((K × Int) × Nat) := (annR fr r.reverse).reverse
variable {fr : K → K → Bool}
theorem annR_map (fr : K → K → Bool) : ∀ r : Rw K, (annR fr r).map (·.1) = r
  | [] => rfl
  | y :: r => by simp [annR, annR_map fr r]
theorem ann_map (fr : K → K → Bool) (r : Rw K) : (ann fr r).map (·.1) = r := by
  unfold ann
  rw [List.map_reverse, annR_map, List.reverse_reverse]
theorem annR_len (fr : K → K → Bool) (r : Rw K) : (annR fr r).length = r.length := by
  have := congrArg List.length (annR_map fr r)
  simpa using this
theorem ann_len (fr : K → K → Bool) (r : Rw K) : (ann fr r).length = r.length := by
  unfold ann
  rw [List.length_reverse, annR_len, List.length_reverse]
theorem ann_snoc (fr : K → K → Bool) (r : Rw K) (y : K × Int) : ann fr (r ++ [y]) = ann fr r ++ [(y, dep fr y.1 (annR fr r.reverse))] := by
  unfold ann
  rw [List.reverse_append]
  simp [annR]
theorem ann_get (fr : K → K → Bool) {i : Nat} {y : K × Int} : ∀ {r : Rw K}, r[i]? = some y → (ann fr r)[i]? = some (y, dep fr y.1 (annR fr (r.take i).reverse)) := by
  have key : ∀ rr : Rw K, rr.reverse[i]? = some y → (ann fr rr.reverse)[i]? = some (y, dep fr y.1 (annR fr (rr.reverse.take i).reverse)) := by
    intro rr
    induction rr with
    | nil => intro h; simp at h
    | cons z rr ih =>
      intro h
      rw [List.reverse_cons] at h ⊢
      rw [ann_snoc]
      by_cases hi : i < rr.reverse.length
      · rw [List.getElem?_append_left hi] at h
        rw [List.getElem?_append_left (by rw [ann_len]; exact hi), List.take_append_of_le_length (by omega)]
        exact ih h
      · have hl : rr.reverse.length ≤ i := by omega
        rw [List.getElem?_append_right hl] at h
        have e0 : i - rr.reverse.length = 0 := by
          cases hq : i - rr.reverse.length with
          | zero => rfl
          | succ n => rw [hq] at h; simp at h
        have ei : i = rr.reverse.length := by omega
        rw [e0] at h
        have hz : z = y := by simpa using h
        subst hz
        rw [List.getElem?_append_right (by rw [ann_len]; exact hl), ann_len, e0]
        have et : (rr.reverse ++ [z]).take i = rr.reverse := by
          rw [ei, List.take_append_of_le_length (Nat.le_refl _), List.take_length]
        rw [et]
        rfl
  intro r h
  have := key r.reverse (by rwa [List.reverse_reverse])
  rwa [List.reverse_reverse] at this
theorem dep_ge {k : K} : ∀ {l : List ((K × Int) × Nat)} {y : K × Int} {d : Nat}, (y, d) ∈ l → fr k y.1 = false → d + 1 ≤ dep fr k l
  | (x, e) :: l, y, d, h, hf => by
    rcases List.mem_cons.mp h with z | z
    · cases z
      show e + 1 ≤ (if fr k x.1 = true then _ else _)
      rw [hf, if_neg (by simp)]
      exact Nat.le_max_left _ _
    · have ih := dep_ge z hf
      show d + 1 ≤ (if fr k x.1 = true then _ else _)
      split
      · exact ih
      · exact Nat.le_trans ih (Nat.le_max_right _ _)
theorem dep_at {k : K} : ∀ (l : List ((K × Int) × Nat)), dep fr k l = 0 ∨ ∃ y d, (y, d) ∈ l ∧ fr k y.1 = false ∧ dep fr k l = d + 1
  | [] => .inl rfl
  | (x, e) :: l => by
    have ih := dep_at (k := k) l
    by_cases h : fr k x.1 = true
    · have q : dep fr k ((x, e) :: l) = dep fr k l := by
        show (if fr k x.1 = true then _ else _) = _
        rw [if_pos h]
      rw [q]
      rcases ih with ih | ⟨y, d, h1, h2, h3⟩
      · exact .inl ih
      · exact .inr ⟨y, d, List.mem_cons_of_mem _ h1, h2, h3⟩
    · have q : dep fr k ((x, e) :: l) = max (e + 1) (dep fr k l) := by
        show (if fr k x.1 = true then _ else _) = _
        rw [if_neg h]
      have hx : fr k x.1 = false := by simpa using h
      right
      by_cases hm : dep fr k l ≤ e + 1
      · exact ⟨x, e, List.mem_cons_self, hx, by rw [q]; omega⟩
      · rcases ih with ih | ⟨y, d, h1, h2, h3⟩
        · omega
        · exact ⟨y, d, List.mem_cons_of_mem _ h1, h2, by rw [q]; omega⟩
/-- the layer of the last syllable of a kind -/
def lat (k : K) (l : List ((K × Int) × Nat)) : Option Nat := (l.find? fun p => decide (p.1.1 = k)).map (·.2)
theorem lat_cons (k : K) (y : K × Int) (d : Nat) (l : List ((K × Int) × Nat)) : lat k ((y, d) :: l) = if k = y.1 then some d else lat k l := by
  unfold lat
  by_cases h : y.1 = k
  · rw [List.find?_cons_of_pos (by simpa using h), if_pos h.symm]
    rfl
  · rw [List.find?_cons_of_neg (by simpa using h), if_neg (fun z => h z.symm)]
theorem lat_mem {k : K} {d : Nat} : ∀ {l : List ((K × Int) × Nat)}, lat k l = some d → ∃ y : K × Int, y.1 = k ∧ (y, d) ∈ l
  | [], h => by simp [lat] at h
  | (x, e) :: l, h => by
    rw [lat_cons] at h
    split at h
    · rename_i hk
      cases h
      exact ⟨x, hk.symm, List.mem_cons_self⟩
    · obtain ⟨y, h1, h2⟩ := lat_mem h
      exact ⟨y, h1, List.mem_cons_of_mem _ h2⟩
theorem lat_some {k : K} : ∀ {l : List ((K × Int) × Nat)} {y : K × Int} {d : Nat}, (y, d) ∈ l → y.1 = k → ∃ e, lat k l = some e
  | (x, e) :: l, y, d, h, hk => by
    rw [lat_cons]
    by_cases hx : k = x.1
    · exact ⟨e, by rw [if_pos hx]⟩
    · rw [if_neg hx]
      rcases List.mem_cons.mp h with z | z
      · cases z
        exact absurd hk.symm hx
      · exact lat_some z hk
theorem lat_ge (hi : ∀ a, fr a a = false) : ∀ (r : Rw K) {y : K × Int} {d e : Nat}, (y, d) ∈ annR fr r → lat y.1 (annR fr r) = some e → d ≤ e
  | x :: r, y, d, e, h, he => by
    rw [annR, lat_cons] at he
    by_cases hx : y.1 = x.1
    · rw [if_pos hx] at he
      cases he
      rcases List.mem_cons.mp h with z | z
      · cases z
        exact Nat.le_refl _
      · have := dep_ge (fr := fr) (k := x.1) z (by rw [hx]; exact hi _)
        omega
    · rw [if_neg hx] at he
      rcases List.mem_cons.mp h with z | z
      · cases z
        exact absurd rfl hx
      · exact lat_ge hi r z he
/-- a number that is the greatest of the latest layers of the kinds that bar k, raised by one -/
theorem dep_max (hi : ∀ a, fr a a = false) (k : K) (r : Rw K) (m : Int) (ks : List K) (hk : ∀ y ∈ r, fr k y.1 = false → y.1 ∈ ks) (hn : ∀ o ∈ ks, fr k o = false)
    (h1 : ∀ o ∈ ks, ∀ d, lat o (annR fr r) = some d → (d : Int) ≤ m) (h2 : m = -1 ∨ ∃ o ∈ ks, ∃ d, lat o (annR fr r) = some d ∧ m = (d : Int)) : 1 + m = ((dep fr k (annR fr r) : Nat) : Int) := by
  have hm : ∀ p ∈ annR fr r, p.1 ∈ r := fun p hp => by
    have := List.mem_map_of_mem (f := (·.1)) hp
    rwa [annR_map] at this
  have le : ∀ d : Nat, dep fr k (annR fr r) = d + 1 → (d : Int) ≤ m ∨ dep fr k (annR fr r) = 0 := by
    intro d hd
    rcases dep_at (fr := fr) (k := k) (annR fr r) with z | ⟨y, d', z1, z2, z3⟩
    · exact .inr z
    · left
      have hy := hk y (hm _ z1) z2
      obtain ⟨e, he⟩ := lat_some z1 rfl
      have := lat_ge hi r z1 he
      have := h1 _ hy _ he
      omega
  rcases h2 with rfl | ⟨o, ho, d, hd, rfl⟩
  · cases hq : dep fr k (annR fr r) with
    | zero => rfl
    | succ d =>
      rcases le d hq with z | z
      · omega
      · omega
  · obtain ⟨y, hy, hmem⟩ := lat_mem hd
    have g := dep_ge (fr := fr) (k := k) hmem (by rw [hy]; exact hn o ho)
    cases hq : dep fr k (annR fr r) with
    | zero => omega
    | succ d' =>
      rcases le d' hq with z | z
      · omega
      · omega
/-- layers have no gaps -/
theorem dep_gap (r : Rw K) : ∀ {y : K × Int} {d : Nat}, (y, d) ∈ annR fr r → ∀ e, e ≤ d → ∃ x, (x, e) ∈ annR fr r := by
  induction r with
  | nil => intro y d h; cases h
  | cons z r ih =>
    intro y d h e he
    rcases List.mem_cons.mp h with q | q
    · cases q
      by_cases h2 : e = dep fr z.1 (annR fr r)
      · exact ⟨z, by rw [h2]; exact List.mem_cons_self⟩
      · rcases dep_at (fr := fr) (k := z.1) (annR fr r) with w | ⟨x, d', w1, w2, w3⟩
        · omega
        · obtain ⟨x', hx⟩ := ih w1 e (by omega)
          exact ⟨x', List.mem_cons_of_mem _ hx⟩
    · obtain ⟨x, hx⟩ := ih q e he
      exact ⟨x, List.mem_cons_of_mem _ hx⟩
/-- how many layers -/
def tops : List ((K × Int) × Nat) → Nat
  | [] => 0
  | (_, d) :: r => max (d + 1) (tops r)
theorem tops_lt : ∀ {l : List ((K × Int) × Nat)} {y : K × Int} {d : Nat}, (y, d) ∈ l → d < tops l
  | (x, e) :: l, y, d, h => by
    show d < max (e + 1) (tops l)
    rcases List.mem_cons.mp h with z | z
    · cases z
      omega
    · have := tops_lt z
      omega
theorem tops_at : ∀ (l : List ((K × Int) × Nat)) {n : Nat}, tops l = n + 1 → ∃ y, (y, n) ∈ l
  | [], n, h => by cases h
  | (x, e) :: l, n, h => by
    have h' : max (e + 1) (tops l) = n + 1 := h
    by_cases z : e = n
    · exact ⟨x, by rw [z]; exact List.mem_cons_self⟩
    · obtain ⟨y, hy⟩ := tops_at l (n := n) (by omega)
      exact ⟨y, List.mem_cons_of_mem _ hy⟩
/-- the next layer is one of those there or the next to the last -/
theorem dep_le_tops (k : K) (l : List ((K × Int) × Nat)) : dep fr k l ≤ tops l := by
  rcases dep_at (fr := fr) (k := k) l with z | ⟨y, d, z1, z2, z3⟩
  · omega
  · have := tops_lt z1
    omega
theorem tops_len : ∀ r : Rw K, tops (annR fr r) ≤ r.length
  | [] => Nat.le_refl _
  | y :: r => by
    have ih := tops_len r
    have := dep_le_tops (fr := fr) y.1 (annR fr r)
    show max (dep fr y.1 (annR fr r) + 1) (tops (annR fr r)) ≤ r.length + 1
    omega
/-- the syllables of a layer, in the row's order -/
def lyr (d : Nat) (l : List ((K × Int) × Nat)) : Rw K := (l.filter fun p => decide (p.2 = d)).map (·.1)
theorem lyr_snoc (d : Nat) (l : List ((K × Int) × Nat)) (y : K × Int) (e : Nat) : lyr d (l ++ [(y, e)]) = if d = e then lyr d l ++ [y] else lyr d l := by
  unfold lyr
  rw [List.filter_append, List.map_append]
  by_cases h : d = e
  · subst h
    simp
  · rw [if_neg h, List.filter_cons_of_neg (by simpa using fun z => h z.symm)]
    simp
/-- the form of a short row, by an order of syllables -/
def formF (fr : K → K → Bool) (le : K × Int → K × Int → Bool) (r : Rw K) : Rw K := ((List.range (tops (annR fr r.reverse))).map fun d => (lyr d (ann fr r)).mergeSort le).flatten
end
end K91
/-! MC -/
/-! the form of a row: reached by exchanges, the same for rows joined by exchanges; plain Lean -/
namespace K91
section
variable {K : Type} [DecidableEq K] {fr : K → K → Bool}
/-! ### arrangements -/
/-- ahead of one another only if free or in lower layers -/
def Fits (fr : K → K → Bool) (l : List ((K × Int) × Nat)) : Prop := l.Pairwise fun a b => fr a.1.1 b.1.1 = true ∨ a.2 < b.2
theorem split_first {α : Type} [DecidableEq α] (x : α) : ∀ {l : List α}, x ∈ l → ∃ u v, l = u ++ x :: v ∧ x ∉ u
  | y :: l, h => by
    by_cases e : x = y
    · subst e
      exact ⟨[], l, rfl, by simp⟩
    · have h' : x ∈ l := by
        rcases List.mem_cons.mp h with z | z
        · exact absurd z e
        · exact z
      obtain ⟨u, v, h1, h2⟩ := split_first x h'
      refine ⟨y :: u, v, by rw [h1]; rfl, ?_⟩
      simp [e, h2]
theorem fits_sw (hs : ∀ a b, fr a b = fr b a) : ∀ {l l' : List ((K × Int) × Nat)}, l.Perm l' → Fits fr l → Fits fr l' → Sw fr (l.map (·.1)) (l'.map (·.1))
  | [], l', p, _, _ => by
    have : l' = [] := List.Perm.eq_nil p.symm
    subst this
    exact .refl _
  | x :: t, l', p, h, h' => by
    obtain ⟨u, v, rfl, hx⟩ := split_first x (p.mem_iff.mp List.mem_cons_self)
    have p2 : t.Perm (u ++ v) := by
      have := p.trans (List.perm_middle)
      exact this.cons_inv
    have ht : Fits fr t := (List.pairwise_cons.mp h).2
    have huv : Fits fr (u ++ v) := by
      refine List.Pairwise.sublist ?_ h'
      exact List.Sublist.append_left (List.sublist_cons_self _ _) u
    have ih := fits_sw hs p2 ht huv
    have hfree : ∀ y ∈ u, fr x.1.1 y.1.1 = true := by
      intro y hy
      have hyt : y ∈ t := by
        have : y ∈ x :: t := p.mem_iff.mpr (List.mem_append_left _ hy)
        rcases List.mem_cons.mp this with z | z
        · subst z
          exact absurd hy hx
        · exact z
      rcases (List.pairwise_cons.mp h).1 y hyt with q | q
      · exact q
      · rcases (List.pairwise_append.mp h').2.2 y hy x List.mem_cons_self with q' | q'
        · rw [hs]; exact q'
        · omega
    have fr2 := Sw.front hs x.1 (v.map (·.1)) (u.map (·.1)) (fun y hy => by
      obtain ⟨z, hz, rfl⟩ := List.mem_map.mp hy
      exact hfree z hz)
    rw [List.map_append, List.map_cons, List.map_cons]
    rw [List.map_append] at ih
    exact (ih.cons x.1).trans (fr2.symm hs)
theorem annR_fits (hs : ∀ a b, fr a b = fr b a) : ∀ r : Rw K, (annR fr r).Pairwise fun b a => fr a.1.1 b.1.1 = true ∨ a.2 < b.2
  | [] => .nil
  | y :: r => by
    refine List.pairwise_cons.mpr ⟨fun a ha => ?_, annR_fits hs r⟩
    obtain ⟨x, d⟩ := a
    cases hf : fr y.1 x.1 with
    | true => left; rw [hs]; exact hf
    | false =>
      right
      have := dep_ge ha hf
      show d < dep fr y.1 (annR fr r)
      omega
theorem ann_fits (hs : ∀ a b, fr a b = fr b a) (r : Rw K) : Fits fr (ann fr r) := by
  unfold Fits ann
  rw [List.pairwise_reverse]
  exact annR_fits hs _
/-! ### the form with its layers -/
def formA (fr : K → K → Bool) (le : K × Int → K × Int → Bool) (r : Rw K) : List ((K × Int) × Nat) :=
  ((List.range (tops (annR fr r.reverse))).map fun d => ((ann fr r).filter fun p => decide (p.2 = d)).mergeSort fun p q => le p.1 q.1).flatten
theorem lyr_sort (le : K × Int → K × Int → Bool) (d : Nat) (l : List ((K × Int) × Nat)) : ((l.filter fun p => decide (p.2 = d)).mergeSort fun p q => le p.1 q.1).map (·.1) = (lyr d l).mergeSort le := by
  unfold lyr
  exact List.map_mergeSort fun a _ b _ => rfl
theorem formA_map (le : K × Int → K × Int → Bool) (r : Rw K) : (formA fr le r).map (·.1) = formF fr le r := by
  unfold formA formF
  rw [List.map_flatten, List.map_map]
  congr 1
  refine List.map_congr_left fun d _ => ?_
  exact lyr_sort le d _
theorem perm_flat {α β : Type} (f g : β → List α) : ∀ l : List β, (∀ x ∈ l, (f x).Perm (g x)) → ((l.map f).flatten).Perm ((l.map g).flatten)
  | [], _ => .refl _
  | x :: l, h => by
    simp only [List.map_cons, List.flatten_cons]
    exact (h x List.mem_cons_self).append (perm_flat f g l fun y hy => h y (List.mem_cons_of_mem _ hy))
theorem perm_put {α : Type} (x : α) (e : Nat) (g : Nat → List α) : ∀ m : Nat, (((List.range m).map fun d => if d = e then x :: g d else g d).flatten).Perm (if e < m then x :: ((List.range m).map g).flatten else ((List.range m).map g).flatten)
  | 0 => by simp
  | m + 1 => by
    have ih := perm_put x e g m
    rw [List.range_succ, List.map_append, List.map_append, List.flatten_append, List.flatten_append]
    simp only [List.map_cons, List.map_nil, List.flatten_cons, List.flatten_nil, List.append_nil]
    by_cases h1 : e < m
    · rw [if_pos h1] at ih
      rw [if_pos (show e < m + 1 by omega), if_neg (show ¬ m = e by omega)]
      exact ih.append_right _
    · rw [if_neg h1] at ih
      by_cases h2 : m = e
      · rw [if_pos h2, if_pos (show e < m + 1 by omega)]
        exact (ih.append_right _).trans List.perm_middle
      · rw [if_neg h2, if_neg (show ¬ e < m + 1 by omega)]
        exact ih.append_right _
theorem layers_perm : ∀ (l : List ((K × Int) × Nat)) (m : Nat), (∀ p ∈ l, p.2 < m) → (((List.range m).map fun d => l.filter fun p => decide (p.2 = d)).flatten).Perm l
  | [], m, _ => by
    have : ((List.range m).map fun d => ([] : List ((K × Int) × Nat)).filter fun p => decide (p.2 = d)).flatten = [] := by simp
    rw [this]
  | x :: l, m, h => by
    have ih := layers_perm l m fun p hp => h p (List.mem_cons_of_mem _ hp)
    have e : ((List.range m).map fun d => (x :: l).filter fun p => decide (p.2 = d)) = (List.range m).map fun d => if d = x.2 then x :: (l.filter fun p => decide (p.2 = d)) else l.filter fun p => decide (p.2 = d) := by
      refine List.map_congr_left fun d _ => ?_
      by_cases hd : d = x.2
      · subst hd
        simp
      · have : ¬ x.2 = d := fun z => hd z.symm
        simp [hd, this]
    rw [e]
    have := perm_put x x.2 (fun d => l.filter fun p => decide (p.2 = d)) m
    rw [if_pos (h x List.mem_cons_self)] at this
    exact this.trans (ih.cons x)
theorem ann_lt (r : Rw K) : ∀ p ∈ ann fr r, p.2 < tops (annR fr r.reverse) := fun p hp => by
  obtain ⟨y, d⟩ := p
  unfold ann at hp
  exact tops_lt (List.mem_reverse.mp hp)
theorem formA_perm (le : K × Int → K × Int → Bool) (r : Rw K) : (formA fr le r).Perm (ann fr r) :=
  (perm_flat _ _ _ fun d _ => List.mergeSort_perm _ _).trans (layers_perm _ _ (ann_lt r))
theorem formF_perm (le : K × Int → K × Int → Bool) (r : Rw K) : (formF fr le r).Perm r := by
  have := (formA_perm (fr := fr) le r).map (·.1)
  rwa [formA_map, ann_map] at this
theorem formF_len (le : K × Int → K × Int → Bool) (r : Rw K) : (formF fr le r).length = r.length := (formF_perm le r).length_eq
theorem fits_flat (hs : ∀ a b, fr a b = fr b a) (f : Nat → List ((K × Int) × Nat)) : ∀ m : Nat, (∀ d, d < m → (∀ p ∈ f d, p.2 = d) ∧ (f d).Pairwise fun a b => fr a.1.1 b.1.1 = true) → Fits fr ((List.range m).map f).flatten
  | 0, _ => .nil
  | m + 1, h => by
    rw [List.range_succ, List.map_append, List.flatten_append]
    simp only [List.map_cons, List.map_nil, List.flatten_cons, List.flatten_nil, List.append_nil]
    refine List.pairwise_append.mpr ⟨fits_flat hs f m fun d hd => h d (by omega), ((h m (by omega)).2).imp fun q => .inl q, fun a ha b hb => ?_⟩
    right
    obtain ⟨l, hl, hal⟩ := List.mem_flatten.mp ha
    obtain ⟨d, hd, rfl⟩ := List.mem_map.mp hl
    have hd' := List.mem_range.mp hd
    rw [(h d (by omega)).1 a hal, (h m (by omega)).1 b hb]
    exact hd'
theorem formA_fits (hs : ∀ a b, fr a b = fr b a) (le : K × Int → K × Int → Bool) (r : Rw K) : Fits fr (formA fr le r) := by
  refine fits_flat hs _ _ fun d _ => ⟨fun p hp => ?_, ?_⟩
  · have := (List.mergeSort_perm _ _).mem_iff.mp hp
    simpa using (List.mem_filter.mp this).2
  · have h1 : ((ann fr r).filter fun p => decide (p.2 = d)).Pairwise fun a b => fr a.1.1 b.1.1 = true := by
      have h2 := (ann_fits hs r).filter fun p => decide (p.2 = d)
      refine List.Pairwise.imp_of_mem ?_ h2
      intro a b ha hb q
      rcases q with q | q
      · exact q
      · have e1 : a.2 = d := by simpa using (List.mem_filter.mp ha).2
        have e2 : b.2 = d := by simpa using (List.mem_filter.mp hb).2
        omega
    exact ((List.mergeSort_perm _ _).pairwise_iff (fun {a b} q => by rw [hs]; exact q)).mpr h1
/-- a row is brought to its form by exchanges -/
theorem form_sw (hs : ∀ a b, fr a b = fr b a) (le : K × Int → K × Int → Bool) (r : Rw K) : Sw fr r (formF fr le r) := by
  have := fits_sw hs (formA_perm (fr := fr) le r).symm (ann_fits hs r) (formA_fits hs le r)
  rwa [ann_map, formA_map] at this
/-! ### rows joined by exchanges have one form -/
theorem dep_perm (k : K) {l l' : List ((K × Int) × Nat)} (p : l.Perm l') : dep fr k l = dep fr k l' := by
  induction p with
  | nil => rfl
  | cons x _ ih =>
    obtain ⟨y, d⟩ := x
    show (if fr k y.1 = true then _ else _) = (if fr k y.1 = true then _ else _)
    rw [ih]
  | swap x y l =>
    obtain ⟨x, d⟩ := x
    obtain ⟨y, e⟩ := y
    show (if fr k y.1 = true then (if fr k x.1 = true then _ else _) else max (e + 1) (if fr k x.1 = true then _ else _)) = (if fr k x.1 = true then (if fr k y.1 = true then _ else _) else max (d + 1) (if fr k y.1 = true then _ else _))
    by_cases h1 : fr k x.1 = true
    · by_cases h2 : fr k y.1 = true
      · simp [h1, h2]
      · simp [h1, h2]
    · by_cases h2 : fr k y.1 = true
      · simp [h1, h2]
      · simp only [h1, h2, if_false, Bool.false_eq_true]
        omega
  | trans _ _ i1 i2 => exact i1.trans i2
theorem annR_congr (w : Rw K) : ∀ {r r' : Rw K}, (annR fr r).Perm (annR fr r') → (annR fr (w ++ r)).Perm (annR fr (w ++ r')) := by
  induction w with
  | nil => intro r r' h; exact h
  | cons y w ih =>
    intro r r' h
    have h2 := ih h
    show ((y, dep fr y.1 (annR fr (w ++ r))) :: annR fr (w ++ r)).Perm ((y, dep fr y.1 (annR fr (w ++ r'))) :: annR fr (w ++ r'))
    rw [dep_perm y.1 h2]
    exact h2.cons _
theorem annR_swap (hs : ∀ a b, fr a b = fr b a) (a b : K × Int) (v : Rw K) (h : fr a.1 b.1 = true) : (annR fr (a :: b :: v)).Perm (annR fr (b :: a :: v)) := by
  have h' : fr b.1 a.1 = true := by rw [hs]; exact h
  have e1 : dep fr a.1 ((b, dep fr b.1 (annR fr v)) :: annR fr v) = dep fr a.1 (annR fr v) := by
    show (if fr a.1 b.1 = true then _ else _) = _
    rw [if_pos h]
  have e2 : dep fr b.1 ((a, dep fr a.1 (annR fr v)) :: annR fr v) = dep fr b.1 (annR fr v) := by
    show (if fr b.1 a.1 = true then _ else _) = _
    rw [if_pos h']
  show ((a, dep fr a.1 ((b, dep fr b.1 (annR fr v)) :: annR fr v)) :: (b, dep fr b.1 (annR fr v)) :: annR fr v).Perm ((b, dep fr b.1 ((a, dep fr a.1 (annR fr v)) :: annR fr v)) :: (a, dep fr a.1 (annR fr v)) :: annR fr v)
  rw [e1, e2]
  exact .swap _ _ _
theorem annR_sw (hs : ∀ a b, fr a b = fr b a) {r r' : Rw K} (h : Sw fr r r') : (annR fr r).Perm (annR fr r') := by
  induction h with
  | refl _ => exact .refl _
  | swap u a b v e _ ih => exact (annR_congr u (annR_swap hs a b v e)).trans ih
theorem tops_perm {l l' : List ((K × Int) × Nat)} (p : l.Perm l') : tops l = tops l' := by
  induction p with
  | nil => rfl
  | cons x _ ih =>
    obtain ⟨y, d⟩ := x
    show max (d + 1) _ = max (d + 1) _
    rw [ih]
  | swap x y l =>
    obtain ⟨x, d⟩ := x
    obtain ⟨y, e⟩ := y
    show max (e + 1) (max (d + 1) _) = max (d + 1) (max (e + 1) _)
    omega
  | trans _ _ i1 i2 => exact i1.trans i2
structure Lin {α : Type} (le : α → α → Bool) : Prop where
  total : ∀ a b, (le a b || le b a) = true
  trans : ∀ a b c, le a b = true → le b c = true → le a c = true
  anti : ∀ a b, le a b = true → le b a = true → a = b
theorem sort_perm {α : Type} {le : α → α → Bool} (L : Lin le) {l l' : List α} (p : l.Perm l') : l.mergeSort le = l'.mergeSort le := by
  have p2 : (l.mergeSort le).Perm (l'.mergeSort le) := (List.mergeSort_perm _ _).trans (p.trans (List.mergeSort_perm _ _).symm)
  exact List.Perm.eq_of_pairwise (le := fun a b => le a b = true) (fun a b _ _ h1 h2 => L.anti a b h1 h2) (List.pairwise_mergeSort L.trans L.total l) (List.pairwise_mergeSort L.trans L.total l') p2
theorem form_eq (hs : ∀ a b, fr a b = fr b a) {le : K × Int → K × Int → Bool} (L : Lin le) {r r' : Rw K} (h : Sw fr r r') : formF fr le r = formF fr le r' := by
  have p := annR_sw hs (h.rev hs)
  unfold formF
  rw [tops_perm p]
  congr 1
  refine List.map_congr_left fun d _ => ?_
  refine sort_perm L ?_
  unfold lyr ann
  exact (((List.reverse_perm _).trans (p.trans (List.reverse_perm _).symm)).filter _).map _
end
end K91
/-! P2 -/
namespace K91
open PySem PySem.Spec PyProof.Rows L2
theorem sqA_ex {K : PySem.W.Frag} {H H' : Hp} {b : Bool} {a : Addr} {xs : List V} (e : Evl.Ex H H') (h : SqA K H b a xs) : SqA K H' b a xs := match b, h with
  | true, h => Evl.ex_l e h
  | false, h => Evl.ex_t e h
theorem sqA_len {K : PySem.W.Frag} {H : Hp} {b : Bool} {a : Addr} {xs : List V} (h : SqA K H b a xs) : SqL K H a xs ∨ SqT K H a xs := match b, h with
  | true, h => .inl h
  | false, h => .inr h
theorem tab_ref {K : PySem.W.Frag} {H : Hp} {t : V} {T : Tb} (h : TabV K H t T) : ∃ a, t = .ref a := let ⟨a, _, _, _, _, _, _, e, _⟩ := h; ⟨a, e⟩
theorem tab_links {K : PySem.W.Frag} {H : Hp} {a : Addr} {T : Tb} (h : TabV K H (.ref a) T) : ∃ dx fs, H a = some (.ins (He.ga K "Table") dx fs) ∧ fs.lookup ("links" : Str) = none := by
  obtain ⟨a', dx, pk, pp, pl, ps, lk, e, h2, _⟩ := h
  cases e
  exact ⟨dx, _, h2, rfl⟩
theorem maxI_spec (d : Int) : ∀ ns : List Int, (∀ x ∈ ns, x ≤ maxI d ns) ∧ (ns = [] ∧ maxI d ns = d ∨ maxI d ns ∈ ns)
  | [] => ⟨fun x h => (nomatch h), .inl ⟨rfl, rfl⟩⟩
  | n :: ns => by
    have key : ∀ (l : List Int) (m : Int), (∀ x ∈ m :: l, x ≤ PySem.W.maxOf m l) ∧ PySem.W.maxOf m l ∈ m :: l := by
      intro l
      induction l with
      | nil => intro m; exact ⟨fun x h => by rw [List.mem_singleton.mp h]; exact Int.le_refl _, List.mem_singleton.mpr rfl⟩
      | cons y l ih =>
        intro m
        have e : PySem.W.maxOf m (y :: l) = PySem.W.maxOf (if decide (m < y) = true then y else m) l := rfl
        obtain ⟨i1, i2⟩ := ih (if decide (m < y) = true then y else m)
        rw [e]
        by_cases h : m < y
        · rw [decide_eq_true h, if_pos rfl] at i1 i2 ⊢
          refine ⟨fun x hx => ?_, List.mem_cons_of_mem _ i2⟩
          rcases List.mem_cons.mp hx with z | z
          · rw [z]
            exact Int.le_trans (Int.le_of_lt h) (i1 y List.mem_cons_self)
          · exact i1 x z
        · rw [decide_eq_false h, if_neg Bool.false_ne_true] at i1 i2 ⊢
          refine ⟨fun x hx => ?_, ?_⟩
          · rcases List.mem_cons.mp hx with z | z
            · rw [z]; exact i1 m List.mem_cons_self
            · rcases List.mem_cons.mp z with z | z
              · rw [z]
                exact Int.le_trans (Int.not_lt.mp h) (i1 m List.mem_cons_self)
              · exact i1 x (List.mem_cons_of_mem _ z)
          · rcases List.mem_cons.mp i2 with z | z
            · exact List.mem_cons.mpr (.inl z)
            · exact List.mem_cons_of_mem _ (List.mem_cons_of_mem _ z)
    obtain ⟨k1, k2⟩ := key ns n
    exact ⟨k1, .inr k2⟩
section
variable {P : Program} {w : World} {K : PySem.W.Frag} {mg : Str → Option Value} {base : Heap}
/-! ### depths -/
def dps (T : Tb) (r : List Syl) : List Int := (ann T.fr r).map fun p => ((p.2 : Nat) : Int)
def spDepths (K : PySem.W.Frag) : Sp := fun vs H Q _ => ∃ t T r b a ys, vs = [t, .ref a] ∧ TabV K H t T ∧ SqA K H b a ys ∧ Sys K H ys r ∧ Kin T r ∧ r.length < 100000 ∧ ∀ p H', Evl.Ex H H' → H p = none → H' p = some (.lst ((dps T r).map V.int)) → Q (.ref p) H'
theorem ok_depths (C : Fx w K mg base) : FnOk P w K mg base CX0 2 (a_depths K) (fdA K (a_depths K)) ["table", "syllables"] (spDepths K) := by
  refine (F_depths C).ok S_depths (fun vs H Q E h => ?_) (fun cdv A outer s H vs Q E hr h => ?_)
  · obtain ⟨t, T, r, b, a, ys, rfl, _⟩ := h
    rfl
  · obtain ⟨t, T, r, b, a, ys, rfl, hT, hq, hs, hk, hz, q⟩ := h
    refine ⟨_, (pss_cons (ps_set (i := 2) S_depths.nd rfl (Or.inr rfl) pe_dnewK)
      (pss_cons (ps_set (i := 3) S_depths.nd rfl (Or.inl rfl) (pe_lst pa_nil))
      (pss_cons (ps_for PassesOwn.never rfl (pi_any (pv 1)) (pg_tup rfl (pgs_cons (pg_name (i := 4) S_depths.nd rfl (Or.inl rfl)) (pgs_cons (pg_name (i := 5) S_depths.nd rfl (Or.inl rfl)) pgs_nil)))
        (pss_cons (ps_set (i := 6) S_depths.nd rfl (Or.inl rfl) (pe_op op_add pe_int (pe_callBK (cr_maxD rfl hr.units) rfl C.z_max (by decide +kernel) (pa_cons (pe_lc (own := [("other", 7)]) (g := gName 7) (tt := _) rfl S_depths.nd (pi_any (pe_md (D_links C) (hr.mono (by decide)) (pv 0) (pa_cons (pv 4) pa_nil))) (blkOk_by (own := [("other", 7)]) (N := ["table", "syllables", "latest", "found", "kind", "count", "depth", "other"]) (sc := defScope st_depths) (by decide +kernel)) (fun _ _ _ _ _ => (pg_name (i := 7) S_depths.nd rfl (Or.inl rfl))) (fun _ _ _ _ _ => (pts_one (pt_cmp (pc_din (hu_of hr) (pv 7) (pv 2))))) (fun _ _ _ _ _ => (pe_dget (hu_of hr) (pv 2) (pv 7) (fun _ _ => rfl)))) pa_nil) (pk_cons (pe_un un_neg pe_int) pk_nil))))
        (pss_cons (ps_dput (hu_of hr) (pv 2) (pv 4) (pv 6) rfl)
        (pss_one (ps_expr (pe_bm PySem.F.plainAttrs_list PySem.F.slot_list_append PySem.F.type_list_append mt_append (pv 3) (pa_cons (pv 6) pa_nil)))))))
      (pss_one (ps_ret (pv 3)))))), ?_⟩
    obtain ⟨ta, rfl⟩ := tab_ref hT
    intro d hd
    refine ⟨by show 0 ≤ sizeLine; decide, fun f hf => ?_⟩
    have hfd : f ≠ d := fun z => by rw [z, upd_same] at hf; cases hf
    have hf0 : H f = none := by rwa [upd_ne hfd] at hf
    refine ⟨_, rfl, b, a, ys, rfl, sqA_ex (Evl.Ex.upd (ex_new hd) hf0) hq, ?_⟩
    refine for_any (xs := ys) (fun i σ H' => ∃ v4 v5 v6 v7 es, σ = [some (.ref ta), some (.ref a), some (.ref d), some (.ref f), v4, v5, v6, v7] ∧ Evl.Ex H H' ∧ H' d = some (.dK es) ∧ es.length ≤ i ∧
      (∀ k, valV es (Sum.inr k) = (lat k (annR T.fr (r.take i).reverse)).map fun n => V.int (n : Nat)) ∧ H' f = some (.lst ((dps T (r.take i)).map V.int)))
      ⟨none, none, none, none, [], rfl, Evl.Ex.upd (ex_new hd) hf0, by rw [upd_ne hfd.symm, upd_same], Nat.le_refl _, fun k => rfl, by rw [upd_same]; rfl⟩
      (fun i σ H' _ ⟨_, _, _, _, _, _, e, _⟩ => sqA_ex e hq) ?_ ?_
    · rintro i x σ H' hx ⟨v4, v5, v6, v7, es, rfl, e, hd', hes, hlat, hf'⟩
      obtain ⟨y, hy, p, rfl, hp⟩ := pr_get' hs hx
      have hil : i < r.length := (List.getElem?_eq_some_iff.mp hy).1
      have etk : r.take (i + 1) = r.take i ++ [y] := by rw [List.take_add_one, hy]; rfl
      have hyT : y.1 ∈ T.kinds := hk y (List.mem_of_getElem? hy)
      have hT' := hT.nx (Nx.ofEx e)
      refine ⟨p, _, rfl, Evl.ex_t e hp, rfl, _, _, rfl, _, _, rfl, rfl, ?_⟩
      obtain ⟨dx, fs, hi1, hi2⟩ := tab_links hT'
      refine ⟨_, rfl, ta, dx, fs, rfl, hi1, hi2, _, rfl, _, y.1, T, rfl, hT', hyT, fun lp hlp => ?_⟩
      refine ⟨false, lp, _, rfl, hlp, fun D hD => ?_⟩
      refine lc_any (xs := (T.links y.1).map V.str) (b := false) (fun j H2 => H2 = upd H' D (.lst ((((T.links y.1).take j).filterMap fun o => (lat o (annR T.fr (r.take i).reverse)).map fun n => ((n : Nat) : Int)).map V.int))) rfl (fun j H2 _ h2 => by rw [h2]; exact Evl.ex_t (ex_new hD) hlp) ?_ ?_
      · rintro j x H2 hx2 rfl
        obtain ⟨o, ho, rfl⟩ : ∃ o, (T.links y.1)[j]? = some o ∧ x = .str o := by
          rw [List.getElem?_map] at hx2
          cases ho : (T.links y.1)[j]? with
          | none => rw [ho] at hx2; cases hx2
          | some o => rw [ho] at hx2; cases hx2; exact ⟨o, rfl, rfl⟩
        have hDd : d ≠ D := fun z => by rw [← z, hd'] at hD; cases hD
        have hg : DGet (upd H' D (.lst ((((T.links y.1).take j).filterMap fun o => (lat o (annR T.fr (r.take i).reverse)).map fun n => ((n : Nat) : Int)).map V.int))) d (.str o) (valV es (Sum.inr o)) := DGet.k (k := Sum.inr o) (by rw [upd_ne hDd]; exact hd')
        have ej : ((T.links y.1).take (j + 1)).filterMap (fun o => (lat o (annR T.fr (r.take i).reverse)).map fun n => ((n : Nat) : Int)) = ((T.links y.1).take j).filterMap (fun o => (lat o (annR T.fr (r.take i).reverse)).map fun n => ((n : Nat) : Int)) ++ ((lat o (annR T.fr (r.take i).reverse)).map fun n => ((n : Nat) : Int)).toList := by
          rw [List.take_add_one, ho, List.filterMap_append]
          congr 1
        rw [hlat o] at hg
        refine ⟨rfl, _, rfl, _, rfl, d, _, rfl, hg, _, rfl, ?_⟩
        rw [ej]
        cases hl : lat o (annR T.fr (r.take i).reverse) with
        | none => simp
        | some n =>
          rw [hl] at hg
          refine iteT ⟨_, rfl, _, rfl, d, _, rfl, hg, _, by rw [upd_same], ?_, ?_⟩
          · rw [List.length_map]
            refine Nat.lt_of_le_of_lt (List.length_filterMap_le _ _) (Nat.lt_of_le_of_lt (List.length_take_le' _ _) (Nat.lt_of_le_of_lt (List.length_filter_le _ _) (Nat.lt_of_le_of_lt T.few (by decide))))
          · simp [upd_upd]
      · rintro H2 rfl
        have hDd : d ≠ D := fun z => by rw [← z, hd'] at hD; cases hD
        have hDf : f ≠ D := fun z => by rw [← z, hf'] at hD; cases hD
        rw [List.length_map, List.take_length]
        generalize hns : (T.links y.1).filterMap (fun o => (lat o (annR T.fr (r.take i).reverse)).map fun n => ((n : Nat) : Int)) = ns
        obtain ⟨m1, m2⟩ := maxI_spec (-1) ns
        have hdep : 1 + maxI (-1) ns = ((dep T.fr y.1 (annR T.fr (r.take i).reverse) : Nat) : Int) := by
          refine dep_max T.irr y.1 (r.take i).reverse _ (T.links y.1) (fun z hz hf => ?_) (fun o ho => ?_) (fun o ho n hn => ?_) ?_
          · exact List.mem_filter.mpr ⟨hk z (List.mem_of_mem_take (List.mem_reverse.mp hz)), by rw [hf]; rfl⟩
          · have := (List.mem_filter.mp ho).2
            simpa using this
          · refine m1 _ ?_
            rw [← hns]
            exact List.mem_filterMap.mpr ⟨o, ho, by rw [hn]; rfl⟩
          · rcases m2 with ⟨_, z⟩ | z
            · exact .inl z
            · right
              rw [← hns] at z
              obtain ⟨o, ho, h2⟩ := List.mem_filterMap.mp z
              obtain ⟨n, hn, h3⟩ := Option.map_eq_some_iff.mp h2
              exact ⟨o, ho, n, hn, by rw [← hns]; exact h3.symm⟩
        refine ⟨1, rfl, D, ns, -1, rfl, rfl, l_of (upd_same ..), 1, maxI (-1) ns, rfl, rfl, ?_⟩
        show gName 6 (.int (1 + maxI (-1) ns)) _ _ _
        rw [hdep]
        have hsz : es.length < sizeLine := Nat.lt_of_le_of_lt hes (Nat.lt_trans hil (Nat.lt_of_lt_of_le hz (by decide)))
        refine ⟨_, rfl, _, rfl, _, rfl, d, _, rfl, DPut.k (k := Sum.inr y.1) (by rw [upd_ne hDd]; exact hd') hsz, ?_⟩
        refine ⟨_, rfl, .inl ⟨rfl, _, l_of (by rw [upd_ne hfd, upd_ne hDf]; exact hf')⟩, _, rfl, f, _, _, rfl, rfl, by rw [upd_ne hfd, upd_ne hDf]; exact hf', ?_, ?_⟩
        · rw [List.length_map]
          unfold dps
          rw [List.length_map, ann_len]
          exact Nat.lt_of_le_of_lt (List.length_take_le' _ _) (Nat.lt_of_lt_of_le hz (by decide))
        · have hD0 : H D = none := ex_free e hD
          refine ⟨_, _, _, _, _, rfl, Evl.Ex.upd (Evl.Ex.upd (Evl.Ex.upd e hD0) hd) hf0, by rw [upd_ne hfd.symm, upd_same], Nat.le_trans (length_putK _ _ _) (by omega), fun k => ?_, ?_⟩
          · rw [valV_put, hlat k, etk, List.reverse_append]
            show _ = (lat k ((y, dep T.fr y.1 (annR T.fr (r.take i).reverse)) :: annR T.fr (r.take i).reverse)).map _
            rw [lat_cons]
            by_cases hkk : k = y.1
            · subst hkk
              rw [if_pos rfl, if_pos rfl]
              rfl
            · rw [if_neg hkk, if_neg (fun z => hkk (Sum.inr.inj z))]
          · rw [upd_same, etk]
            unfold dps
            rw [ann_snoc, List.map_append, List.map_append]
            rfl
    · rintro σ H' ⟨v4, v5, v6, v7, es, rfl, e, hd', hes, hlat, hf'⟩
      have hlen : ys.length = r.length := pr_len hs
      rw [hlen, List.take_length] at hf'
      exact ⟨_, rfl, q f H' e hf0 hf'⟩
end
end K91
/-! P3 -/
namespace K91
open PySem PySem.Spec PyProof.Rows L2
/-! ### a dict by 0, 1, .. -/
def rgD (pl : Nat → Addr) (m : Nat) : List (Key × V) := (List.range m).map fun n => (Sum.inl ((n : Nat) : Int), V.ref (pl n))
theorem rgD_len (pl : Nat → Addr) (m : Nat) : (rgD pl m).length = m := by simp [rgD]
theorem rgD_succ (pl : Nat → Addr) (m : Nat) : rgD pl (m + 1) = rgD pl m ++ [(Sum.inl ((m : Nat) : Int), V.ref (pl m))] := by
  unfold rgD
  rw [List.range_succ, List.map_append]
  rfl
theorem rgD_val (pl : Nat → Addr) (n : Nat) : ∀ m : Nat, valV (rgD pl m) (Sum.inl ((n : Nat) : Int)) = if n < m then some (.ref (pl n)) else none
  | 0 => rfl
  | m + 1 => by
    rw [rgD_succ]
    have ih := rgD_val pl n m
    by_cases h : n < m
    · rw [if_pos h] at ih
      rw [if_pos (by omega)]
      unfold valV at ih ⊢
      rw [List.find?_append]
      cases hq : (rgD pl m).find? (fun kv => decide (kv.1 = Sum.inl ((n : Nat) : Int))) with
      | none => rw [hq] at ih; cases ih
      | some z => rw [hq] at ih; exact ih
    · rw [if_neg h] at ih
      unfold valV at ih ⊢
      rw [List.find?_append]
      have hq : (rgD pl m).find? (fun kv => decide (kv.1 = Sum.inl ((n : Nat) : Int))) = none := by
        cases hq : (rgD pl m).find? (fun kv => decide (kv.1 = Sum.inl ((n : Nat) : Int))) with
        | none => rfl
        | some z => rw [hq] at ih; cases ih
      rw [hq]
      by_cases h2 : n = m
      · subst h2
        rw [if_pos (by omega)]
        simp
      · rw [if_neg (by omega)]
        have : ¬ ((m : Nat) : Int) = ((n : Nat) : Int) := by omega
        simp [this]
theorem rgD_put (pl : Nat → Addr) (m n : Nat) (q : Addr) (h : n ≤ m) : putK (rgD pl m) (Sum.inl ((n : Nat) : Int)) (.ref q) = rgD (fun j => if j = n then q else pl j) (max m (n + 1)) := by
  by_cases h1 : n < m
  · have e : max m (n + 1) = m := by omega
    rw [e]
    have ha : (rgD pl m).any (fun kv => decide (kv.1 = Sum.inl ((n : Nat) : Int))) = true := by
      rw [valV_any, rgD_val, if_pos h1]
      rfl
    unfold putK
    rw [if_pos ha]
    unfold rgD
    rw [List.map_map]
    refine List.map_congr_left fun j _ => ?_
    show (if (Sum.inl ((j : Nat) : Int) : Key) = Sum.inl ((n : Nat) : Int) then _ else _) = _
    by_cases hj : j = n
    · subst hj
      simp
    · have : ¬ ((j : Nat) : Int) = ((n : Nat) : Int) := by omega
      simp [hj, this]
  · have e : n = m := by omega
    subst e
    have e2 : max n (n + 1) = n + 1 := by omega
    rw [putK_new _ (by rw [rgD_val, if_neg (by omega)]), e2, rgD_succ]
    congr 1
    · unfold rgD
      refine List.map_congr_left fun j hj => ?_
      have : j ≠ n := by have := List.mem_range.mp hj; omega
      simp [this]
    · simp
theorem tops_snoc {K : Type} (l : List ((K × Int) × Nat)) (y : K × Int) (d : Nat) : tops ((y, d) :: l) = max (tops l) (d + 1) := by
  show max (d + 1) (tops l) = _
  omega
theorem sy_dp {K : PySem.W.Frag} {H : Hp} {v : V} {y : Syl} (h : Sy K H v y) : Dp K H v (PySem.W.Datum.toD y) := by
  obtain ⟨p, rfl, hp⟩ := h
  exact .tup hp (.cons (.str _) (.cons (.int _) .nil))
theorem rowT_ex {K : PySem.W.Frag} {H H' : Hp} {v : V} {r : List Syl} (e : Evl.Ex H H') (h : RowT K H v r) : RowT K H' v r := h.nx (Nx.ofEx e)
theorem sys_ex {K : PySem.W.Frag} {H H' : Hp} {vs : List V} {r : List Syl} (e : Evl.Ex H H') (h : Sys K H vs r) : Sys K H' vs r := sys_nx (Nx.ofEx e) h
/-- kept but a dict, a new object or a list: tuples stay -/
theorem Kx.nxD {X : Addr → Prop} {H H' : Hp} (e : Kx X H H') (h : ∀ a, X a → (∃ xs, H a = some (.lst xs)) ∨ H a = none) : Nx H H' := Kx.nx e fun a ha o ho => by
  rcases h a ha with ⟨xs, z⟩ | z
  · rw [z] at ho; cases ho; exact ⟨xs, rfl⟩
  · rw [z] at ho; cases ho
theorem kx_t {K : PySem.W.Frag} {d : Addr} {kvs : List (Key × V)} {H H' : Hp} (e : Kx (· = d) H H') (hd : H d = some (.dK kvs)) {a : Addr} {xs : List V} (h : SqT K H a xs) : SqT K H' a xs := by
  rcases h with (h | ⟨o, h⟩) | h
  · exact .inl (.inl (e _ _ (fun z => by rw [z, hd] at h; cases h) h))
  · exact .inl (.inr ⟨o, e _ _ (fun z => by rw [z, hd] at h; cases h) h⟩)
  · exact .inr h
theorem kx_l {K : PySem.W.Frag} {d : Addr} {kvs : List (Key × V)} {H H' : Hp} (e : Kx (· = d) H H') (hd : H d = some (.dK kvs)) {a : Addr} {xs : List V} (h : SqL K H a xs) : SqL K H' a xs := by
  rcases h with (h | ⟨o, h⟩) | h
  · exact .inl (.inl (e _ _ (fun z => by rw [z, hd] at h; cases h) h))
  · exact .inl (.inr ⟨o, e _ _ (fun z => by rw [z, hd] at h; cases h) h⟩)
  · exact .inr h
theorem kx_a {K : PySem.W.Frag} {d : Addr} {kvs : List (Key × V)} {H H' : Hp} (e : Kx (· = d) H H') (hd : H d = some (.dK kvs)) {b : Bool} {a : Addr} {xs : List V} (h : SqA K H b a xs) : SqA K H' b a xs := match b, h with
  | true, h => kx_l e hd h
  | false, h => kx_t e hd h
theorem kx_sys {K : PySem.W.Frag} {d : Addr} {kvs : List (Key × V)} {H H' : Hp} (e : Kx (· = d) H H') (hd : H d = some (.dK kvs)) {vs : List V} {r : List Syl} (h : Sys K H vs r) : Sys K H' vs r := pr_mono (fun _ _ ⟨p, a, b⟩ => ⟨p, a, kx_t e hd b⟩) h
section
variable {P : Program} {w : World} {K : PySem.W.Frag} {mg : Str → Option Value} {base : Heap}
theorem D_depths (C : Fx w K mg base) : Dn P w K mg base 2 (a_depths K) (fdA K (a_depths K)) ["table", "syllables"] (spDepths K) "depths" := ⟨ok_depths C, C.g_depths, (F_depths C).kp, B_depths C⟩
/-! ### layers_of -/
abbrev leS : Syl → Syl → Bool := leD Syl
def lysF (T : Tb) (r : List Syl) : List (List Syl) := (List.range (tops (annR T.fr r.reverse))).map fun d => (lyr d (ann T.fr r)).mergeSort leS
def spLayers (K : PySem.W.Frag) : Sp := fun vs H Q _ => ∃ t T r b a ys, vs = [t, .ref a] ∧ TabV K H t T ∧ SqA K H b a ys ∧ Sys K H ys r ∧ Kin T r ∧ r.length < 100000 ∧
  ∀ p ls H', Evl.Ex H H' → H p = none → H' p = some (.tup ls) → Paired (RowT K H') ls (lysF T r) → Q (.ref p) H'
theorem ok_layers_of (C : Fx w K mg base) : FnOk P w K mg base CX0 3 (a_layers_of K) (fdA K (a_layers_of K)) ["table", "syllables"] (spLayers K) := by
  refine (F_layers_of C).ok S_layers_of (fun vs H Q E h => ?_) (fun cdv A outer s H vs Q E hr h => ?_)
  · obtain ⟨t, T, r, b, a, ys, rfl, _⟩ := h
    rfl
  · obtain ⟨t, T, r, b, a, ys, rfl, hT, hq, hs, hk, hz, q⟩ := h
    refine ⟨_, (pss_cons (ps_set (i := 2) S_layers_of.nd rfl (Or.inr rfl) pe_dnewK)
      (pss_cons (ps_for PassesOwn.never rfl (pi_zipA (by rfl) C.z_zip (pa_cons (pe_cd (D_depths C) (hr.mono (by decide)) (pa_cons (pv 0) (pa_cons (pv 1) pa_nil))) (pa_cons (pv 1) pa_nil))) (pg_tup rfl (pgs_cons (pg_name (i := 3) S_layers_of.nd rfl (Or.inl rfl)) (pgs_cons (pg_name (i := 4) S_layers_of.nd rfl (Or.inl rfl)) pgs_nil)))
        (pss_one (ps_dput (hu_of hr) (pv 2) (pv 3) (pe_tup (StX.pa_star (pe_dget2 (hu_of hr) (pv 2) (pv 3) (pe_tup pa_nil) ⟨by rfl, by rfl, by rfl, by rfl⟩) (pa_cons (pv 4) pa_nil))) rfl)))
      (pss_one (ps_ret (pe_callTy call_tuple_of (by rfl) C.z_tuple (by decide +kernel) (pa_cons (pe_lc (own := [("depth", 3)]) (g := gName 3) (tt := tYes) rfl S_layers_of.nd (pi_range1 (by rfl) C.z_range (pa_cons (pe_callB call_lenD (by rfl) C.z_len (by decide +kernel) (pa_cons (pv 2) pa_nil)) pa_nil)) (blkOk_by (own := [("depth", 3)]) (N := ["table", "syllables", "found", "depth", "syllable"]) (sc := defScope st_layers_of) (by decide +kernel)) (fun _ _ _ _ _ => (pg_name (i := 3) S_layers_of.nd rfl (Or.inl rfl))) (fun _ _ _ _ _ => pts_nil) (fun _ _ _ _ _ => (pe_callTy (call_tupK (K := K)) (by rfl) C.z_tuple (by decide +kernel) (pa_cons (pe_callB (cr_sortD (K := K) (β := Syl) (by decide) sorts_pair (by exact hr.units)) (by rfl) C.z_sorted (by decide +kernel) (pa_cons (pe_dget (hu_of hr) (pv 2) (pv 3) (fun _ _ => rfl)) pa_nil)) pa_nil)))) pa_nil)))))), ?_⟩
    intro d hd
    obtain ⟨ta, rfl⟩ := tab_ref hT
    have e0 := ex_new (o := .dK []) hd
    refine ⟨_, rfl, _, rfl, _, T, r, b, a, ys, rfl, hT.nx (Nx.ofEx e0), sqA_ex e0 hq, sys_ex e0 hs, hk, hz, fun dl H1 e1 hdl0 hdl => ?_⟩
    have hd1 : H1 d = some (.dK []) := e1 _ _ (upd_same ..)
    have hdl : H1 dl = some (.lst ((dps T r).map V.int)) := hdl
    have hq1 : SqA K H1 b a ys := sqA_ex e1 (sqA_ex e0 hq)
    have hs1 : Sys K H1 ys r := sys_ex e1 (sys_ex e0 hs)
    have hlen : ys.length = r.length := pr_len hs
    refine ⟨_, rfl, true, b, dl, a, _, ys, rfl, l_of hdl, hq1, ?_⟩
    refine for_zipA (by rw [List.length_map]; unfold dps; rw [List.length_map, ann_len, hlen]) (fun i σ H' => ∃ v3 v4 m pl, σ = [some (.ref ta), some (.ref a), some (.ref d), v3, v4] ∧ Kx (· = d) H1 H' ∧ H' d = some (.dK (rgD pl m)) ∧
        m = tops (annR T.fr (r.take i).reverse) ∧ ∀ n, n < m → ∃ us, SqT K H' (pl n) us ∧ Sys K H' us (lyr n (ann T.fr (r.take i))))
      ⟨none, none, 0, fun _ => 0, rfl, Kx.refl _, hd1, rfl, fun n hn => by omega⟩ (fun i σ H' ⟨_, _, _, _, _, k, _⟩ => ⟨kx_l k hd1 (l_of hdl), kx_a k hd1 hq1⟩) ?_ ?_
    · rintro i x y W σ H' hx hy ⟨v3, v4, m, pl, rfl, k, hd', rfl, hpl⟩ hW
      obtain ⟨sy, hsy, hSy⟩ := pr_get' hs1 hy
      have hil : i < r.length := (List.getElem?_eq_some_iff.mp hsy).1
      have etk : r.take (i + 1) = r.take i ++ [sy] := by rw [List.take_add_one, hsy]; rfl
      generalize hn : dep T.fr sy.1 (annR T.fr (r.take i).reverse) = n
      have ex : x = .int (n : Nat) := by
        unfold dps at hx
        rw [List.map_map, List.getElem?_map, ann_get T.fr hsy] at hx
        rw [← Option.some.inj hx, ← hn]
        rfl
      subst ex
      have hnm : n ≤ tops (annR T.fr (r.take i).reverse) := by rw [← hn]; exact dep_le_tops _ _
      have hWd : d ≠ W := fun z => by rw [← z, hd'] at hW; cases hW
      have kW : Evl.Ex H' (upd H' W (.tup [.int (n : Nat), y])) := ex_new hW
      refine ⟨W, _, rfl, t_of (upd_same ..), rfl, _, _, rfl, _, _, rfl, rfl, ?_⟩
      -- found[depth] = (*found.get(depth, ()), syllable)
      refine ⟨_, rfl, d, rfl, .inl ⟨_, .inl (kW _ _ hd')⟩, _, rfl, by show 0 ≤ sizeLine; decide, fun z hz0 => ?_⟩
      have kz : Evl.Ex H' (upd (upd H' W (.tup [.int (n : Nat), y])) z (.tup [])) := Evl.Ex.trans kW (ex_new hz0)
      have hg := DGet.k (k := Sum.inl ((n : Nat) : Int)) (kz _ _ hd')
      obtain ⟨us, tt, eus, hus, hsy2⟩ : ∃ us tt, (valV (rgD pl (tops (annR T.fr (r.take i).reverse))) (Sum.inl ((n : Nat) : Int))).getD (.ref z) = .ref tt ∧ SqT K (upd (upd H' W (.tup [.int (n : Nat), y])) z (.tup [])) tt us ∧ Sys K (upd (upd H' W (.tup [.int (n : Nat), y])) z (.tup [])) us (lyr n (ann T.fr (r.take i))) := by
        rw [rgD_val]
        by_cases h1 : n < tops (annR T.fr (r.take i).reverse)
        · obtain ⟨us, a1, a2⟩ := hpl n h1
          rw [if_pos h1]
          exact ⟨us, pl n, rfl, Evl.ex_t kz a1, sys_ex kz a2⟩
        · rw [if_neg h1]
          refine ⟨[], z, rfl, t_of (upd_same ..), ?_⟩
          have e1 : lyr n (ann T.fr (r.take i)) = [] := by
            unfold lyr
            rw [List.map_eq_nil_iff, List.filter_eq_nil_iff]
            rintro ⟨x, e⟩ hm hq
            have e2 : e = n := by simpa using hq
            subst e2
            have hm2 : (x, e) ∈ annR T.fr (r.take i).reverse := by
              unfold ann at hm
              exact List.mem_reverse.mp hm
            exact h1 (tops_lt hm2)
          rw [e1]
          exact .nil
      refine ⟨_, hg, tt, us, eus, .inl hus, _, rfl, ?_, fun q2 hq2 => ?_⟩
      · rw [List.length_append]
        have := pr_len hsy2
        have l1 : (lyr n (ann T.fr (r.take i))).length ≤ (ann T.fr (r.take i)).length := by
          unfold lyr
          rw [List.length_map]
          exact List.length_filter_le _ _
        rw [ann_len] at l1
        have l2 : (r.take i).length ≤ i := List.length_take_le _ _
        have : sizeLine = 16777216 := sizeLine_eq
        show us.length + 1 ≤ sizeLine
        omega
      have kq : Evl.Ex H' (upd (upd (upd H' W (.tup [.int (n : Nat), y])) z (.tup [])) q2 (.tup (us ++ [y]))) := Evl.Ex.trans kz (ex_new hq2)
      have hz2 : tops (annR T.fr (r.take i).reverse) ≤ r.length := Nat.le_trans (tops_len _) (by rw [List.length_reverse]; exact List.length_take_le' _ _)
      refine ⟨_, rfl, _, rfl, d, _, rfl, DPut.k (k := Sum.inl ((n : Nat) : Int)) (kq _ _ hd') (by rw [rgD_len]; exact Nat.lt_of_le_of_lt hz2 (Nat.lt_of_lt_of_le hz (by decide))), ?_⟩
      have hd0 : upd (upd (upd H' W (.tup [.int (n : Nat), y])) z (.tup [])) q2 (.tup (us ++ [y])) d = some (.dK (rgD pl (tops (annR T.fr (r.take i).reverse)))) := kq _ _ hd'
      refine ⟨_, _, _, fun j => if j = n then q2 else pl j, rfl, Kx.to (Kx.trans k (Kx.ofEx kq)) (.inl rfl), ?_, rfl, fun j hj => ?_⟩
      · rw [upd_same, rgD_put _ _ _ _ hnm, etk, List.reverse_append]
        show some (HO.dK (rgD _ (max _ (n + 1)))) = some (HO.dK (rgD _ (tops ((sy, dep T.fr sy.1 (annR T.fr (r.take i).reverse)) :: annR T.fr (r.take i).reverse))))
        rw [tops_snoc, hn]
      · have etop : tops (annR T.fr (r.take (i + 1)).reverse) = max (tops (annR T.fr (r.take i).reverse)) (n + 1) := by
          rw [etk, List.reverse_append]
          show tops ((sy, dep T.fr sy.1 (annR T.fr (r.take i).reverse)) :: annR T.fr (r.take i).reverse) = _
          rw [tops_snoc, hn]
        have kd : Kx (· = d) H' (upd (upd (upd (upd H' W (.tup [.int (n : Nat), y])) z (.tup [])) q2 (.tup (us ++ [y]))) d (.dK (putK (rgD pl (tops (annR T.fr (r.take i).reverse))) (Sum.inl ((n : Nat) : Int)) (.ref q2)))) := Kx.to (Kx.ofEx kq) (.inl rfl)
        rw [etk, ann_snoc, lyr_snoc, hn]
        by_cases hjn : j = n
        · subst hjn
          rw [if_pos rfl]
          show ∃ us_1, SqT K _ (if j = j then q2 else pl j) us_1 ∧ _
          rw [if_pos rfl]
          have hqd : q2 ≠ d := fun z => by rw [z, kz _ _ hd'] at hq2; cases hq2
          refine ⟨us ++ [y], t_of (by rw [upd_ne hqd, upd_same]), pr_app ?_ (.cons ?_ .nil)⟩
          · exact kx_sys (Kx.to (Kx.ofEx (ex_new hq2)) (.inl rfl)) (kz _ _ hd') hsy2
          · obtain ⟨p1, a1, a2⟩ := hSy
            exact ⟨p1, a1, kx_t (Kx.trans k kd) hd1 a2⟩
        · rw [if_neg hjn]
          show ∃ us_1, SqT K _ (if j = n then q2 else pl j) us_1 ∧ _
          rw [if_neg hjn]
          rw [etop] at hj
          obtain ⟨us', a1, a2⟩ := hpl j (by omega)
          exact ⟨us', kx_t kd hd' a1, kx_sys kd hd' a2⟩
    · rintro σ H' ⟨v3, v4, m, pl, rfl, k, hd', rfl, hpl⟩
      rw [List.length_map] at hpl hd'
      have ed : (dps T r).length = r.length := by unfold dps; rw [List.length_map, ann_len]
      rw [ed, List.take_length] at hpl hd'
      generalize hm : tops (annR T.fr r.reverse) = m at hpl hd'
      have hmr : m ≤ r.length := by rw [← hm]; exact Nat.le_trans (tops_len _) (by rw [List.length_reverse]; exact Nat.le_refl _)
      have eH : Evl.Ex H H' := Kx.exOf (X := (· = d)) (Kx.trans (Kx.ofEx (Evl.Ex.trans e0 e1)) k) (fun a ha => by rw [ha]; exact hd)
      refine ⟨_, rfl, d, _, rfl, hd', ?_⟩
      rw [rgD_len]
      refine ⟨_, rfl, by omega, by omega, fun D hD => ?_⟩
      have en : ((m : Int)).toNat = m := Int.toNat_natCast m
      have hDd : d ≠ D := fun z => by rw [← z, hd'] at hD; cases hD
      refine lcG_range (lo := 0) (n := _) (fun j H2 => ∃ ls, Evl.Ex H' H2 ∧ H2 D = some (.lst ls) ∧ Paired (RowT K H2) ls ((List.range j).map fun n => (lyr n (ann T.fr r)).mergeSort leS)) ⟨[], ex_new hD, upd_same .., .nil⟩ ?_ ?_
      · rintro j H2 hj ⟨ls, k2, hD2, hp2⟩
        have hjm : j < m := by rw [← en]; simpa using hj
        obtain ⟨us, hu1, hu2⟩ := hpl j hjm
        have hg := DGet.k (k := Sum.inl ((0 : Int) + (j : Nat))) (k2 _ _ hd')
        have ej : (0 : Int) + (j : Nat) = ((j : Nat) : Int) := by omega
        rw [ej] at hg ⊢
        rw [rgD_val, if_pos hjm] at hg
        refine ⟨rfl, _, rfl, _, rfl, d, _, rfl, hg, pl j, us, lyr j (ann T.fr r), Sy K H2, rfl, .inr (Evl.ex_t k2 hu1), sys_ex k2 hu2, fun v b hb => sy_dp hb, fun zs p hp hzs => ?_⟩
        refine ⟨p, zs, rfl, .inl ⟨l_of (upd_same ..), fun l hl => ?_⟩⟩
        have k3 : Evl.Ex H2 (upd (upd H2 p (.lst zs)) l (.tup zs)) := Evl.Ex.trans (ex_new hp) (ex_new hl)
        have hls := pr_len hp2
        rw [List.length_map, List.length_range] at hls
        have hDl : D ≠ l := fun z => by rw [← z, ex_new hp _ _ hD2] at hl; cases hl
        refine ⟨ls, k3 _ _ hD2, ?_, ls ++ [.ref l], Evl.Ex.upd (Evl.Ex.trans k2 k3) hD, upd_same .., ?_⟩
        · rw [hls]
          exact Nat.lt_of_lt_of_le hjm (Nat.le_trans hmr (Nat.le_of_lt (Nat.lt_of_lt_of_le hz (by decide))))
        · rw [List.range_succ, List.map_append]
          have nD : ∀ {v r}, RowT K H2 v r → RowT K (upd (upd (upd H2 p (.lst zs)) l (.tup zs)) D (.lst (ls ++ [.ref l]))) v r := fun h => h.nx (Nx.upd (Nx.ofEx k3) (.inr ⟨_, hD2⟩))
          refine pr_app (pr_mono (fun _ _ h => nD h) hp2) (.cons ⟨l, zs, rfl, t_of ?_, ?_⟩ .nil)
          · rw [upd_ne (fun z => hDl z.symm), upd_same]
          · exact pr_mono (fun _ _ z => Sy.nx (Nx.upd (Nx.ofEx k3) (.inr ⟨_, hD2⟩)) z) hzs
      · rintro H2 ⟨ls, k2, hD2, hp2⟩
        refine ⟨D, ls, rfl, .inl ⟨l_of hD2, fun l hl => ?_⟩⟩
        have k3 := ex_new (o := .tup ls) hl
        refine q l ls _ (Evl.Ex.trans (Evl.Ex.trans eH k2) k3) (ex_free eH (ex_free k2 hl)) (upd_same ..) ?_
        unfold lysF
        rw [hm]
        rw [en] at hp2
        exact pr_mono (fun _ _ h => rowT_ex k3 h) hp2
theorem D_layers_of (C : Fx w K mg base) : Dn P w K mg base 3 (a_layers_of K) (fdA K (a_layers_of K)) ["table", "syllables"] (spLayers K) "layers_of" := ⟨ok_layers_of C, C.g_layers_of, (F_layers_of C).kp, B_layers_of C⟩
/-! ### formed -/
theorem fl_len : ∀ {ls : List (List Syl)} {n : Nat}, ls.flatten.length ≤ n → ∀ j, (ls.take j).flatten.length ≤ n := fun {ls n} h j => by
  have e : ls.flatten.length = (ls.take j).flatten.length + (ls.drop j).flatten.length := by
    rw [← List.length_append, ← List.flatten_append, List.take_append_drop]
  omega
def spFormed (K : PySem.W.Frag) : Sp := fun vs H Q _ => ∃ t T r b a ys, vs = [t, .ref a] ∧ TabV K H t T ∧ SqA K H b a ys ∧ Sys K H ys r ∧ Kin T r ∧ r.length < 100000 ∧
  ∀ p H', Evl.Ex H H' → H p = none → RowT K H' (.ref p) (formF T.fr leS r) → Q (.ref p) H'
theorem ok_formed (C : Fx w K mg base) : FnOk P w K mg base CX0 4 (a_formed K) (fdA K (a_formed K)) ["table", "short"] (spFormed K) := by
  refine (F_formed C).ok S_formed (fun vs H Q E h => ?_) (fun cdv A outer s H vs Q E hr h => ?_)
  · obtain ⟨t, T, r, b, a, ys, rfl, _⟩ := h
    rfl
  · obtain ⟨t, T, r, b, a, ys, rfl, hT, hq, hs, hk, hz, q⟩ := h
    refine ⟨_, (pss_one (ps_ret (pe_callTy call_tuple_of (by rfl) C.z_tuple (by decide +kernel) (pa_cons (pe_lc2 (own := [("layer", 2), ("syllable", 3)]) (vs1 := [3]) (g := gName 2) (tt := tYes) (g1 := gName 3) (tt1 := tYes) rfl S_formed.nd (pi_any (pe_cd (D_layers_of C) (hr.mono (by decide)) (pa_cons (pv 0) (pa_cons (pv 1) pa_nil)))) (blkOk_by (own := [("layer", 2), ("syllable", 3)]) (N := ["table", "short", "layer", "syllable"]) (sc := defScope st_formed) (by decide +kernel)) (by decide)
      (fun _ _ _ _ _ => (pg_name (i := 2) S_formed.nd rfl (Or.inl rfl))) (fun _ _ _ _ _ => pts_nil) (fun _ _ _ _ _ => pi_anyK (K := K) (pv 2)) (fun _ _ _ _ _ => (pg_name (i := 3) S_formed.nd rfl (Or.inl rfl))) (fun _ _ _ _ _ => pts_nil) (fun _ _ _ _ _ => (pv 3))) pa_nil)))), ?_⟩
    refine ⟨_, rfl, _, rfl, t, T, r, b, a, ys, rfl, hT, hq, hs, hk, hz, fun p ls H1 e1 hp0 hp hls => ?_⟩
    refine ⟨false, p, ls, rfl, t_of hp, fun D hD => ?_⟩
    have hpD : p ≠ D := fun z => by rw [← z, hp] at hD; cases hD
    have hfl : formF T.fr leS r = (lysF T r).flatten := rfl
    have hfz : (lysF T r).flatten.length ≤ 100000 := by
      rw [← hfl, formF_len]
      omega
    have hll := pr_len hls
    refine lcG (xs := ls) (b := false) (fun j H2 => ∃ us, H2 = upd H1 D (.lst us) ∧ Sys K H1 us ((lysF T r).take j).flatten) ⟨[], rfl, .nil⟩ (fun j H2 _ ⟨us, h2, _⟩ => by rw [h2]; exact Evl.ex_t (ex_new hD) (t_of hp)) ?_ ?_
    · rintro j x H2 hx ⟨us, rfl, hus⟩
      obtain ⟨l, hl, q1, vs, rfl, hvs, hsy⟩ := pr_get' hls hx
      have etk : (lysF T r).take (j + 1) = (lysF T r).take j ++ [l] := by rw [List.take_add_one, hl]; rfl
      refine ⟨rfl, _, rfl, false, q1, vs, rfl, Evl.ex_t (ex_new hD) hvs, ?_⟩
      refine lcG (xs := vs) (b := false) (fun i H2 => ∃ us', H2 = upd H1 D (.lst us') ∧ Sys K H1 us' (((lysF T r).take j).flatten ++ l.take i)) ⟨us, rfl, by simpa using hus⟩ (fun i H2 _ ⟨us', h2, _⟩ => by rw [h2]; exact Evl.ex_t (ex_new hD) hvs) ?_ ?_
      · rintro i y H2 hy ⟨us', rfl, hus'⟩
        obtain ⟨sy, h1, h2⟩ := pr_get' hsy hy
        have etk2 : l.take (i + 1) = l.take i ++ [sy] := by rw [List.take_add_one, h1]; rfl
        have hlen := pr_len hus'
        refine ⟨rfl, _, rfl, us', upd_same .., ?_, us' ++ [y], by rw [upd_upd], ?_⟩
        · have h3 : (((lysF T r).take j).flatten ++ l.take i).length ≤ 100000 := by
            have h4 := fl_len hfz (j + 1)
            rw [etk, List.flatten_append, List.length_append] at h4
            rw [List.length_append]
            have : (l.take i).length ≤ l.length := List.length_take_le' _ _
            simp only [List.flatten_cons, List.flatten_nil, List.append_nil] at h4
            omega
          rw [hlen]
          exact Nat.lt_of_le_of_lt h3 (by decide)
        · rw [etk2, ← List.append_assoc]
          exact pr_app hus' (.cons h2 .nil)
      · rintro H2 ⟨us', rfl, hus'⟩
        refine ⟨us', rfl, ?_⟩
        rw [etk, List.flatten_append]
        rw [pr_len hsy, List.take_length] at hus'
        simpa using hus'
    · rintro H2 ⟨us, rfl, hus⟩
      rw [hll, List.take_length] at hus
      refine ⟨D, us, rfl, .inl ⟨l_of (upd_same ..), fun l hl => ?_⟩⟩
      have k2 := Evl.Ex.trans (ex_new (o := .lst us) hD) (ex_new (o := .tup us) hl)
      refine q l _ (Evl.Ex.trans e1 k2) (ex_free e1 (ex_free (ex_new hD) hl)) ⟨l, us, rfl, t_of (upd_same ..), ?_⟩
      rw [hfl]
      exact sys_ex k2 hus
theorem D_formed (C : Fx w K mg base) : Dn P w K mg base 4 (a_formed K) (fdA K (a_formed K)) ["table", "short"] (spFormed K) "formed" := ⟨ok_formed C, C.g_formed, (F_formed C).kp, B_formed C⟩
end
end K91
/-! P4 -/
namespace K91
open PySem PySem.Spec PyProof.Rows L2
/-! ### the list of a stack -/
theorem scan_ins {fr : Str → Str → Bool} {k : Str} (hs : ∀ a b, fr a b = fr b a) : ∀ {s : List Syl}, (scan fr k s = none → ∀ n, ins fr k n s = none) ∧
    ∀ i, scan fr k s = some i → ∃ u c v, s = u ++ (k, c) :: v ∧ v.length = i ∧ ∀ n, ins fr k n s = some (u ++ (if c + n = 0 then v else (k, c + n) :: v))
  | [] => ⟨fun _ _ => rfl, fun i h => by cases h⟩
  | (x, c) :: r => by
    by_cases e : x = k
    · subst e
      refine ⟨fun h => ?_, fun i h => ?_⟩
      · unfold scan at h
        rw [if_pos rfl] at h
        cases h
      · unfold scan at h
        rw [if_pos rfl] at h
        refine ⟨[], c, r, rfl, Option.some.inj h, fun n => ?_⟩
        unfold ins
        rw [if_pos rfl]
        rfl
    · obtain ⟨i1, i2⟩ := scan_ins (k := k) hs (s := r)
      by_cases f : fr k x = true
      · have es : scan fr k ((x, c) :: r) = scan fr k r := by
          show (if x = k then _ else _) = _
          rw [if_neg e, if_pos f]
        have ei : ∀ n, ins fr k n ((x, c) :: r) = (ins fr k n r).map ((x, c) :: ·) := fun n => by
          show (if x = k then _ else _) = _
          rw [if_neg e, if_pos f]
        rw [es]
        refine ⟨fun h n => by rw [ei, i1 h n]; rfl, fun i h => ?_⟩
        obtain ⟨u, d, v, h1, h2, h3⟩ := i2 i h
        exact ⟨(x, c) :: u, d, v, by rw [h1]; rfl, h2, fun n => by rw [ei, h3 n]; rfl⟩
      · have es : scan fr k ((x, c) :: r) = none := by
          show (if x = k then _ else _) = _
          rw [if_neg e, if_neg f]
        rw [es]
        refine ⟨fun _ n => ?_, fun i h => by cases h⟩
        show (if x = k then _ else _) = _
        rw [if_neg e, if_neg f]
theorem melt_none {fr : Str → Str → Bool} (hs : ∀ a b, fr a b = fr b a) {k : Str} {f : List Syl} (h : meltIx fr k f = none) (n : Int) : (push fr f.reverse (k, n)).reverse = if n = 0 then f else f ++ [(k, n)] := by
  have := (scan_ins hs).1 h n
  unfold push
  rw [show ins fr (k, n).1 (k, n).2 f.reverse = none from this]
  show (if n = 0 then f.reverse else (k, n) :: f.reverse).reverse = _
  split
  · exact List.reverse_reverse _
  · rw [List.reverse_cons, List.reverse_reverse]
theorem melt_some {fr : Str → Str → Bool} (hs : ∀ a b, fr a b = fr b a) {k : Str} {f : List Syl} {i : Nat} (h : meltIx fr k f = some i) : ∃ c, f[i]? = some (k, c) ∧ ∀ n, (push fr f.reverse (k, n)).reverse = if c + n = 0 then f.eraseIdx i else f.set i (k, c + n) := by
  obtain ⟨u, c, v, h1, h2, h3⟩ := (scan_ins hs).2 i h
  have ef : f = v.reverse ++ (k, c) :: u.reverse := by
    have := congrArg List.reverse h1
    rw [List.reverse_reverse] at this
    rw [this]
    simp
  have hvi : v.reverse.length = i := by rw [List.length_reverse]; exact h2
  refine ⟨c, ?_, fun n => ?_⟩
  · rw [ef, List.getElem?_append_right (by omega), hvi, Nat.sub_self]
    rfl
  · unfold push
    rw [show ins fr (k, n).1 (k, n).2 f.reverse = some (u ++ (if c + n = 0 then v else (k, c + n) :: v)) from h3 n]
    show (u ++ (if c + n = 0 then v else (k, c + n) :: v)).reverse = _
    rw [ef]
    split
    · rw [List.reverse_append, List.eraseIdx_append_of_length_le (by omega), hvi, Nat.sub_self]
      rfl
    · rw [List.reverse_append, List.set_append_right _ _ (by omega), hvi, Nat.sub_self]
      simp
theorem push_kin {T : Tb} {f : List Syl} {y : Syl} (h : Kin T f) (hy : y.1 ∈ T.kinds) : Kin T (push T.fr f.reverse y).reverse := by
  obtain ⟨k, n⟩ := y
  cases hm : meltIx T.fr k f with
  | none =>
    rw [melt_none T.sym hm]
    split
    · exact h
    · intro z hz
      rcases List.mem_append.mp hz with q | q
      · exact h z q
      · rw [List.mem_singleton.mp q]; exact hy
  | some i =>
    obtain ⟨c, _, h2⟩ := melt_some T.sym hm
    rw [h2]
    split
    · intro z hz
      exact h z (List.mem_of_mem_eraseIdx hz)
    · intro z hz
      rcases List.mem_or_eq_of_mem_set hz with q | q
      · exact h z q
      · rw [q]; exact hy
theorem push_len {T : Tb} (f : List Syl) (y : Syl) : (push T.fr f.reverse y).reverse.length ≤ f.length + 1 := by
  obtain ⟨k, n⟩ := y
  cases hm : meltIx T.fr k f with
  | none =>
    rw [melt_none T.sym hm]
    split
    · omega
    · rw [List.length_append]; exact Nat.le_refl _
  | some i =>
    obtain ⟨c, _, h2⟩ := melt_some T.sym hm
    rw [h2]
    split
    · have := List.length_eraseIdx_le f i
      omega
    · rw [List.length_set]; omega
/-- what shortened makes of a short row and further syllables -/
def shortF (T : Tb) (s r : List Syl) : List Syl := (r.foldl (push T.fr) s.reverse).reverse
theorem shortF_snoc (T : Tb) (s r : List Syl) (y : Syl) : shortF T s (r ++ [y]) = (push T.fr (shortF T s r).reverse y).reverse := by
  unfold shortF
  rw [List.foldl_append, List.reverse_reverse]
  rfl
theorem shortF_ok {T : Tb} {s : List Syl} (hs : Kin T s) : ∀ {rr : List Syl}, Kin T rr → Kin T (shortF T s rr.reverse) ∧ (shortF T s rr.reverse).length ≤ s.length + rr.length
  | [], _ => by
    have e : shortF T s [].reverse = s := by
      unfold shortF
      simp
    rw [e]
    exact ⟨hs, Nat.le_refl _⟩
  | y :: rr, h => by
    obtain ⟨h1, h2⟩ := shortF_ok hs (rr := rr) (fun z hz => h z (List.mem_cons_of_mem _ hz))
    rw [List.reverse_cons, shortF_snoc]
    refine ⟨push_kin h1 (h y List.mem_cons_self), Nat.le_trans (push_len _ _) ?_⟩
    rw [List.length_cons]
    omega
theorem shortF_kin {T : Tb} {s r : List Syl} (hs : Kin T s) (hr : Kin T r) : Kin T (shortF T s r) := by
  have := (shortF_ok hs (rr := r.reverse) (fun z hz => hr z (List.mem_reverse.mp hz))).1
  rwa [List.reverse_reverse] at this
theorem shortF_len {T : Tb} {s r : List Syl} (hs : Kin T s) (hr : Kin T r) : (shortF T s r).length ≤ s.length + r.length := by
  have := (shortF_ok hs (rr := r.reverse) (fun z hz => hr z (List.mem_reverse.mp hz))).2
  rwa [List.reverse_reverse, List.length_reverse] at this
theorem kin_take {T : Tb} {r : List Syl} (h : Kin T r) (i : Nat) : Kin T (r.take i) := fun y hy => h y (List.mem_of_mem_take hy)
theorem ixN_at {n j : Nat} (h : j < n) : ixN n ((j : Nat) : Int) = some j := by
  unfold ixN
  rw [if_pos (by omega), if_pos (by omega)]
  rfl
section
variable {P : Program} {w : World} {K : PySem.W.Frag} {mg : Str → Option Value} {base : Heap}
def spShort (K : PySem.W.Frag) : Sp := fun vs H Q _ => ∃ t T s r b a ys b2 a2 zs, vs = [t, .ref a, .ref a2] ∧ TabV K H t T ∧ SqA K H b a ys ∧ Sys K H ys s ∧ SqA K H b2 a2 zs ∧ Sys K H zs r ∧ Kin T s ∧ Kin T r ∧ s.length + r.length < 100000 ∧
  ∀ l H', Evl.Ex H H' → H l = none → RowL K H' l (shortF T s r) → Q (.ref l) H'
theorem ok_shortened (C : Fx w K mg base) : FnOk P w K mg base CX0 3 (a_shortened K) (fdA K (a_shortened K)) ["table", "short", "syllables"] (spShort K) := by
  refine (F_shortened C).ok S_shortened (fun vs H Q E h => ?_) (fun cdv A outer s H vs Q E hr h => ?_)
  · obtain ⟨t, T, s, r, b, a, ys, b2, a2, zs, rfl, _⟩ := h
    rfl
  · obtain ⟨t, T, s0, r, b, a, ys, b2, a2, zs, rfl, hT, hq, hs, hq2, hs2, hk, hk2, hz, q⟩ := h
    refine ⟨_, (pss_cons (ps_set (i := 3) S_shortened.nd rfl (Or.inl rfl) (pe_callTy call_list_of (by rfl) C.z_list (by decide +kernel) (pa_cons (pv 1) pa_nil)))
      (pss_cons (ps_for PassesOwn.never rfl (pi_any (pv 2)) (pg_tup rfl (pgs_cons (pg_name (i := 4) S_shortened.nd rfl (Or.inl rfl)) (pgs_cons (pg_name (i := 5) S_shortened.nd rfl (Or.inl rfl)) pgs_nil)))
        (pss_cons (ps_set (i := 6) S_shortened.nd rfl (Or.inl rfl) (pe_cd (D_melting_at C) (hr.mono (by decide)) (pa_cons (pv 0) (pa_cons (pv 3) (pa_cons (pv 4) pa_nil)))))
        (pss_cons (ps_if (pt_cmpR op_isN (pv 6) pe_non (nomark _))
          (pss_cons (ps_expr (pe_bm PySem.F.plainAttrs_list PySem.F.slot_list_append PySem.F.type_list_append mt_append (pv 3) (pa_cons (pe_tup (pa_cons (pv 4) (pa_cons (pv 5) pa_nil))) pa_nil)))
          (pss_one (ps_set (i := 6) S_shortened.nd rfl (Or.inl rfl) (pe_op op_sub (pe_callB call_len_seq (by rfl) C.z_len (by decide +kernel) (pa_cons (pv 3) pa_nil)) pe_int))))
          (pss_one (ps_asg (pe_tup (pa_cons (pv 4) (pa_cons (pe_op op_add (pe_ix ix_tup (pe_ix ix_list (pv 3) (pv 6) (fun _ _ => rfl)) pe_int (fun _ _ => rfl)) (pv 5)) pa_nil))) (pg_sub (pv 3) (pv 6) set_list))))
        (pss_one (ps_if (pt_cmpR op_eq (pe_ix ix_tup (pe_ix ix_list (pv 3) (pv 6) (fun _ _ => rfl)) pe_int (fun _ _ => rfl)) pe_int (nomark _))
          (pss_one (ps_delL (pv 3) (pv 6)))
          pss_nil)))))
      (pss_one (ps_ret (pv 3))))), ?_⟩
    obtain ⟨ta, rfl⟩ := tab_ref hT
    refine ⟨_, rfl, a, ys, rfl, sqA_len hq, fun f hf => ?_⟩
    have e0 := ex_new (o := .lst ys) hf
    have hlen := pr_len hs2
    have hzs := sizeLine_eq
    refine ⟨_, rfl, b2, a2, zs, rfl, sqA_ex e0 hq2, ?_⟩
    -- what stands behind the two ways: the list with the new syllable, where it may be dropped
    refine for_any (xs := zs) (fun i σ H' => ∃ v4 v5 v6, σ = [some (.ref ta), some (.ref a), some (.ref a2), some (.ref f), v4, v5, v6] ∧ Evl.Ex H H' ∧ RowL K H' f (shortF T s0 (r.take i)))
      ⟨none, none, none, rfl, e0, ys, upd_same .., by
        have : shortF T s0 (r.take 0) = s0 := by unfold shortF; simp
        rw [this]
        exact sys_ex e0 hs⟩
      (fun i σ H' _ ⟨_, _, _, _, e, _⟩ => sqA_ex e hq2) ?_ ?_
    · rintro i x σ H' hx ⟨v4, v5, v6, rfl, e, hrow⟩
      obtain ⟨y, hy, p, rfl, hp⟩ := pr_get' hs2 hx
      have hil : i < r.length := (List.getElem?_eq_some_iff.mp hy).1
      have etk : r.take (i + 1) = r.take i ++ [y] := by rw [List.take_add_one, hy]; rfl
      have hyT : y.1 ∈ T.kinds := hk2 y (List.mem_of_getElem? hy)
      have hT' := hT.nx (Nx.ofEx e)
      have hkf : Kin T (shortF T s0 (r.take i)) := shortF_kin hk (kin_take hk2 i)
      have hlf : (shortF T s0 (r.take i)).length ≤ s0.length + i := Nat.le_trans (shortF_len hk (kin_take hk2 i)) (by have := List.length_take_le i r; omega)
      refine ⟨p, _, rfl, Evl.ex_t e hp, rfl, _, _, rfl, _, _, rfl, rfl, ?_⟩
      refine ⟨_, rfl, _, rfl, _, rfl, _, f, y.1, T, _, rfl, hT', hrow, hkf, hyT, by omega, ?_⟩
      obtain ⟨k, n⟩ := y
      obtain ⟨us, hus, hsy⟩ := hrow
      have hul := pr_len hsy
      rw [etk, shortF_snoc]
      generalize hg : shortF T s0 (r.take i) = g at hsy hkf hlf hul
      cases hm : meltIx T.fr k g with
      | none =>
        rw [melt_none T.sym hm]
        refine ⟨_, rfl, rfl, _, rfl, iteT ?_⟩
        refine ⟨_, rfl, .inl ⟨rfl, _, l_of hus⟩, _, rfl, _, rfl, by show 2 ≤ sizeLine; decide, fun t1 ht1 => ?_⟩
        have hft : f ≠ t1 := fun z => by rw [← z, hus] at ht1; cases ht1
        have e1 := ex_new (o := .tup [.str k, .int n]) ht1
        refine ⟨f, _, _, rfl, rfl, e1 _ _ hus, by omega, ?_⟩
        refine ⟨_, rfl, f, _, rfl, .inl (l_of (upd_same ..)), _, 1, rfl, rfl, ?_⟩
        have hlen2 : ((us ++ [V.ref t1]).length : Int) - 1 = ((g.length : Nat) : Int) := by rw [List.length_append]; show ((us.length + 1 : Nat) : Int) - 1 = _; omega
        show gName 6 (.int (((us ++ [V.ref t1]).length : Int) - 1)) _ _ _
        rw [hlen2]
        have hat : atI (us ++ [V.ref t1]) ((g.length : Nat) : Int) = some (.ref t1) := atI_nat (by rw [List.getElem?_append_right (by omega), hul, Nat.sub_self]; rfl)
        have htt : SqT K (upd (upd H' t1 (.tup [.str k, .int n])) f (.lst (us ++ [.ref t1]))) t1 [.str k, .int n] := t_of (by rw [upd_ne (fun z => hft z.symm), upd_same])
        refine ⟨_, rfl, _, rfl, f, _, _, _, rfl, rfl, l_of (upd_same ..), hat, t1, _, (1 : Int), _, rfl, rfl, htt, atI_nat (j := 1) rfl, rfl, _, rfl, ?_⟩
        have hN : Nx H' (upd (upd H' t1 (.tup [.str k, .int n])) f (.lst (us ++ [.ref t1]))) := Nx.upd (Nx.ofEx e1) (.inr ⟨_, hus⟩)
        have hsyN : Sys K (upd (upd H' t1 (.tup [.str k, .int n])) f (.lst (us ++ [.ref t1]))) us g := sys_nx hN hsy
        have eN : Evl.Ex H (upd (upd H' t1 (.tup [.str k, .int n])) f (.lst (us ++ [.ref t1]))) := Evl.Ex.upd (Evl.Ex.trans e e1) hf
        refine ite2 (fun z => ?_) (fun z => ?_)
        · have z0 : n = 0 := V.int.inj (of_decide_eq_true z)
          rw [if_pos z0]
          refine ⟨_, rfl, _, rfl, f, us ++ [.ref t1], _, g.length, rfl, rfl, upd_same .., by omega, by omega, (ixN_seq (ixN_at (by rw [List.length_append]; show g.length < us.length + 1; omega))).1, ?_⟩
          refine ⟨_, _, _, rfl, Evl.Ex.upd eN hf, us, ?_, sys_nx (Nx.upd (Nx.refl _) (.inr ⟨_, upd_same ..⟩)) hsyN⟩
          rw [upd_same, ← hul, List.eraseIdx_append_of_length_le (Nat.le_refl _), Nat.sub_self]
          simp
        · have z0 : ¬ n = 0 := fun q => z (decide_eq_true (congrArg V.int q))
          rw [if_neg z0]
          exact ⟨_, _, _, rfl, eN, _, upd_same .., pr_app hsyN (.cons ⟨t1, rfl, htt⟩ .nil)⟩
      | some j =>
        obtain ⟨c, hc, hpu⟩ := melt_some T.sym hm
        rw [hpu]
        have hjl : j < g.length := (List.getElem?_eq_some_iff.mp hc).1
        obtain ⟨v0, hv0, p0, rfl, hp0⟩ := pr_get hsy hc
        refine ⟨_, rfl, rfl, _, rfl, iteF ?_⟩
        refine ⟨_, rfl, _, rfl, _, rfl, f, us, (j : Int), .ref p0, rfl, rfl, l_of hus, atI_nat hv0, p0, _, (1 : Int), .int c, rfl, rfl, hp0, atI_nat (j := 1) rfl, _, rfl, c, n, rfl, rfl, by show 2 ≤ sizeLine; decide, fun t1 ht1 => ?_⟩
        have hft : f ≠ t1 := fun z => by rw [← z, hus] at ht1; cases ht1
        have e1 := ex_new (o := .tup [.str k, .int (c + n)]) ht1
        refine ⟨_, rfl, _, rfl, f, us, (j : Int), j, rfl, rfl, e1 _ _ hus, ixN_at (by omega), ?_⟩
        have htt : SqT K (upd (upd H' t1 (.tup [.str k, .int (c + n)])) f (.lst (us.set j (.ref t1)))) t1 [.str k, .int (c + n)] := t_of (by rw [upd_ne (fun z => hft z.symm), upd_same])
        have hat : atI (us.set j (.ref t1)) ((j : Nat) : Int) = some (.ref t1) := atI_nat (by rw [List.getElem?_set_self (by omega)])
        have hN : Nx H' (upd (upd H' t1 (.tup [.str k, .int (c + n)])) f (.lst (us.set j (.ref t1)))) := Nx.upd (Nx.ofEx e1) (.inr ⟨_, hus⟩)
        have hsyN : Sys K (upd (upd H' t1 (.tup [.str k, .int (c + n)])) f (.lst (us.set j (.ref t1)))) (us.set j (.ref t1)) (g.set j (k, c + n)) := pr_set ⟨t1, rfl, htt⟩ j (sys_nx hN hsy)
        have eN : Evl.Ex H (upd (upd H' t1 (.tup [.str k, .int (c + n)])) f (.lst (us.set j (.ref t1)))) := Evl.Ex.upd (Evl.Ex.trans e e1) hf
        refine ⟨_, rfl, _, rfl, f, _, _, _, rfl, rfl, l_of (upd_same ..), hat, t1, _, (1 : Int), _, rfl, rfl, htt, atI_nat (j := 1) rfl, rfl, _, rfl, ?_⟩
        refine ite2 (fun z => ?_) (fun z => ?_)
        · have z0 : c + n = 0 := V.int.inj (of_decide_eq_true z)
          rw [if_pos z0]
          refine ⟨_, rfl, _, rfl, f, us.set j (.ref t1), _, j, rfl, rfl, upd_same .., by omega, by omega, (ixN_seq (ixN_at (by rw [List.length_set]; omega))).1, ?_⟩
          refine ⟨_, _, _, rfl, Evl.Ex.upd eN hf, _, upd_same .., ?_⟩
          have h5 := pr_erase j hsyN
          have h6 : (g.set j (k, c + n)).eraseIdx j = g.eraseIdx j := by
            apply List.ext_getElem?
            intro m
            rw [List.getElem?_eraseIdx, List.getElem?_eraseIdx]
            split
            · rw [List.getElem?_set_ne (by omega)]
            · rw [List.getElem?_set_ne (by omega)]
          rw [h6] at h5
          exact sys_nx (Nx.upd (Nx.refl _) (.inr ⟨_, upd_same ..⟩)) h5
        · have z0 : ¬ c + n = 0 := fun q => z (decide_eq_true (congrArg V.int q))
          rw [if_neg z0]
          exact ⟨_, _, _, rfl, eN, _, upd_same .., hsyN⟩
    · rintro σ H' ⟨v4, v5, v6, rfl, e, hrow⟩
      rw [hlen, List.take_length] at hrow
      exact ⟨_, rfl, q f H' e hf hrow⟩
theorem D_shortened (C : Fx w K mg base) : Dn P w K mg base 3 (a_shortened K) (fdA K (a_shortened K)) ["table", "short", "syllables"] (spShort K) "shortened" := ⟨ok_shortened C, C.g_shortened, (F_shortened C).kp, B_shortened C⟩
/-! ### appended, pressed -/
def spApp (K : PySem.W.Frag) : Sp := fun vs H Q _ => ∃ t T s r b a ys b2 a2 zs, vs = [t, .ref a, .ref a2] ∧ TabV K H t T ∧ SqA K H b a ys ∧ Sys K H ys s ∧ SqA K H b2 a2 zs ∧ Sys K H zs r ∧ Kin T s ∧ Kin T r ∧ s.length + r.length < 100000 ∧
  ∀ p H', Evl.Ex H H' → H p = none → RowT K H' (.ref p) (formF T.fr leS (shortF T s r)) → Q (.ref p) H'
theorem ok_appended (C : Fx w K mg base) : FnOk P w K mg base CX0 5 (a_appended K) (fdA K (a_appended K)) ["table", "form", "syllables"] (spApp K) := by
  refine (F_appended C).ok S_appended (fun vs H Q E h => ?_) (fun cdv A outer s H vs Q E hr h => ?_)
  · obtain ⟨t, T, s, r, b, a, ys, b2, a2, zs, rfl, _⟩ := h
    rfl
  · obtain ⟨t, T, s0, r, b, a, ys, b2, a2, zs, rfl, hT, hq, hs, hq2, hs2, hk, hk2, hz, q⟩ := h
    refine ⟨_, (pss_one (ps_ret (pe_cd (D_formed C) (hr.mono (by decide)) (pa_cons (pv 0) (pa_cons (pe_cd (D_shortened C) (hr.mono (by decide)) (pa_cons (pv 0) (pa_cons (pv 1) (pa_cons (pv 2) pa_nil)))) pa_nil))))), ?_⟩
    refine ⟨_, rfl, _, rfl, _, rfl, _, rfl, t, T, s0, r, b, a, ys, b2, a2, zs, rfl, hT, hq, hs, hq2, hs2, hk, hk2, hz, fun l H1 e1 hl0 ⟨us, hl, hus⟩ => ?_⟩
    have := shortF_len hk hk2
    refine ⟨t, T, _, true, l, us, rfl, hT.nx (Nx.ofEx e1), l_of hl, hus, shortF_kin hk hk2, by omega, fun p H2 e2 hp0 hp => ?_⟩
    exact q p H2 (Evl.Ex.trans e1 e2) (ex_free e1 hp0) hp
theorem D_appended (C : Fx w K mg base) : Dn P w K mg base 5 (a_appended K) (fdA K (a_appended K)) ["table", "form", "syllables"] (spApp K) "appended" := ⟨ok_appended C, C.g_appended, (F_appended C).kp, B_appended C⟩
/-- the form of a row's version -/
def verF (T : Tb) (r : List Syl) : List Syl := formF T.fr leS (press T.fr r).reverse
theorem shortF_nil (T : Tb) (r : List Syl) : shortF T [] r = (press T.fr r).reverse := rfl
def spPress (K : PySem.W.Frag) : Sp := fun vs H Q _ => ∃ t T r b2 a2 zs, vs = [t, .ref a2] ∧ TabV K H t T ∧ SqA K H b2 a2 zs ∧ Sys K H zs r ∧ Kin T r ∧ r.length < 100000 ∧
  ∀ p H', Evl.Ex H H' → H p = none → RowT K H' (.ref p) (verF T r) → Q (.ref p) H'
theorem ok_pressed (C : Fx w K mg base) : FnOk P w K mg base CX0 6 (a_pressed K) (fdA K (a_pressed K)) ["table", "syllables"] (spPress K) := by
  refine (F_pressed C).ok S_pressed (fun vs H Q E h => ?_) (fun cdv A outer s H vs Q E hr h => ?_)
  · obtain ⟨t, T, r, b2, a2, zs, rfl, _⟩ := h
    rfl
  · obtain ⟨t, T, r, b2, a2, zs, rfl, hT, hq2, hs2, hk2, hz, q⟩ := h
    refine ⟨_, (pss_one (ps_ret (pe_cd (D_appended C) (hr.mono (by decide)) (pa_cons (pv 0) (pa_cons (pe_tup pa_nil) (pa_cons (pv 1) pa_nil)))))), ?_⟩
    refine ⟨_, rfl, by show 0 ≤ sizeLine; decide, fun z hz0 => ?_⟩
    have e0 := ex_new (o := .tup []) hz0
    refine ⟨_, rfl, t, T, [], r, false, z, [], b2, a2, zs, rfl, hT.nx (Nx.ofEx e0), t_of (upd_same ..), .nil, sqA_ex e0 hq2, sys_ex e0 hs2, fun y hy => (nomatch hy), hk2, by simpa using hz, fun p H2 e2 hp0 hp => ?_⟩
    exact q p H2 (Evl.Ex.trans e0 e2) (ex_free e0 hp0) hp
theorem D_pressed (C : Fx w K mg base) : Dn P w K mg base 6 (a_pressed K) (fdA K (a_pressed K)) ["table", "syllables"] (spPress K) "pressed" := ⟨ok_pressed C, C.g_pressed, (F_pressed C).kp, B_pressed C⟩
end
end K91
/-! R3 -/
/-! tuples turned round -/
namespace K91
open PySem PySem.Spec PyProof.Rows L2 HT
section
variable {prog : Program} {w : World} {A : Around} {E : Value → Shared → Prop} {s : Shared}
theorem adj_rev (n : Nat) : Builtin.Slice.sliceAdjust none none (-1) (n : Int) = ((n : Int) - 1, -1) := rfl
theorem places_rev (n : Nat) : Builtin.Slice.slicePlaces ((n : Int) - 1) (-1) (-1) = n := by
  unfold Builtin.Slice.slicePlaces
  rw [if_neg (by decide)]
  by_cases h : (n : Int) - 1 > -1
  · rw [if_pos h, show (-(-1) : Int) = 1 by decide, Int.ediv_one]
    omega
  · rw [if_neg h]
    omega
theorem pick_rev (xs : Array Value) : (List.range xs.size).filterMap (fun (m : Nat) => xs[(((xs.size : Int) - 1) + (m : Int) * (-1)).toNat]?) = xs.toList.reverse := by
  have e : (List.range xs.size).filterMap (fun (m : Nat) => xs[(((xs.size : Int) - 1) + (m : Int) * (-1)).toNat]?) = ((List.range xs.size).map fun k => xs.size - 1 - k).filterMap (xs[·]?) := by
    rw [List.filterMap_map]
    congr 1
    funext m
    have : (((xs.size : Int) - 1) + (m : Int) * (-1)).toNat = xs.size - 1 - m := by omega
    rw [this]
    rfl
  rw [e, PySem.W.krv_range, List.filterMap_reverse, PySem.W.krv_all]
theorem getItem_tuple_rev {t sl : Addr} {items : Array Value} {u : Value} {Q : Value → Shared → Prop} (ht : IsTup s.heap t items) (hs : s.heap.IsSliceOf sl .none .none u) (ps : IsPart u (some (-1)))
    (h : Q (.ref s.heap.objs.size) { s with heap := s.heap.push { cls := .type "tuple", data := .seq items.toList.reverse.toArray } }) (hsz : items.size ≤ sizeLine) : wpAny (model prog w) A (getItem (.ref t) (.ref sl)) Q E s := by
  have hfit : sizeOk (.seq items.toList.reverse.toArray) := by
    show items.toList.reverse.toArray.size ≤ sizeLine
    rw [List.size_toArray, List.length_reverse, Array.length_toList]
    exact hsz
  obtain ⟨os, hos, hcs, hds⟩ := id hs
  have hTs : s.TypeIs (.ref sl) "slice" := ⟨os, hos, hcs⟩
  unfold getItem
  try with_reducible refine wpAny_holding ?_
  first | refine wpAny_bind (wpAny_pure ?_) | skip
  refine wpAny_bind (wpAny_sequenceKey ht.typeIs (by decide) ?_)
  refine wpAny_bind (wpAny_callSpecial?_slot (name := Str.ofString "__getitem__") ht.typeIs PyProof.Rows.slot_tuple_getitem
    (wpAny_call_entry PyProof.Rows.slot_tuple_getitem ht.typeIs entry_tuple_getitem ?_ (args_tuple_getitem _ _)))
  show wpAny _ _ (Builtin.Tuple.tupleItemsOf (.ref t) >>= _) _ _ s
  refine wpAny_bind (tupleItemsOf_ ht ?_)
  refine wpAny_bind (wpAny_typeOf hTs ?_)
  rw [if_pos (by decide)]
  have hap : ∀ (Q' : Int × Int × Nat → Shared → Prop) (E' : Value → Shared → Prop) (A' : Around), Q' ((items.size : Int) - 1, -1, items.size) s → wpAny (model prog w) A' (Builtin.Slice.sliceApplied (.ref sl) (pure ((items.size : Nat) : Int))) Q' E' s := by
    intro Q' E' A' hq
    unfold Builtin.Slice.sliceApplied Builtin.Slice.sliceFields
    refine wpAny_bind (wpAny_bind (wpAny_field hos hds (x := .none) rfl (wpAny_bind (wpAny_field hos hds (x := .none) rfl (wpAny_bind (wpAny_field hos hds (x := u) rfl (wpAny_pure ?_)))))))
    refine wpAny_bind (slicePart_ ps ?_)
    show wpAny _ _ (if ((-1 : Int) == 0) = true then _ else _) _ _ s
    rw [if_neg (by decide)]
    refine wpAny_bind (slicePart_none (wpAny_bind (slicePart_none (wpAny_bind (wpAny_pure ?_)))))
    show wpAny _ _ (match Builtin.Slice.sliceAdjust none none (-1) ((items.size : Nat) : Int) with | (lo, hi) => pure (lo, (-1 : Int), Builtin.Slice.slicePlaces lo hi (-1))) _ _ s
    rw [adj_rev]
    show wpAny _ _ (pure ((items.size : Int) - 1, (-1 : Int), Builtin.Slice.slicePlaces ((items.size : Int) - 1) (-1) (-1))) _ _ s
    rw [places_rev]
    exact wpAny_pure hq
  refine wpAny_bind (hap _ _ _ ?_)
  show wpAny _ _ (if (((items.size : Int) - 1 == 0) && ((-1 : Int) == 1) && (items.size == items.size)) = true then _ else _) _ _ s
  rw [if_neg (by rw [show ((-1 : Int) == 1) = false by decide, Bool.and_false, Bool.false_and]; exact Bool.false_ne_true), pick_rev]
  first
    | exact wpAny_bind (m := Builtin.Tuple.tupleExact _) (wpAny_newObj_type (wpAny_pure ⟨_, rfl, wpAny_pure h⟩) hfit)
    | exact wpAny_bind (m := Builtin.Tuple.tupleExact _) (wpAny_newObj_type (wpAny_bind (wpAny_pure (wpAny_pure ⟨_, rfl, wpAny_pure h⟩))) hfit)
    | exact wpAny_bind (wpAny_bind (m := Builtin.Tuple.tupleExact _) (wpAny_newObj_type (wpAny_pure (wpAny_pure ⟨_, rfl, wpAny_pure h⟩)) hfit))
    | exact wpAny_bind (wpAny_bind (m := Builtin.Tuple.tupleExact _) (wpAny_newObj_type (wpAny_pure ⟨_, rfl, wpAny_pure h⟩) hfit))
end
def tRevT (K : PySem.W.Frag) (te : TE) : TE := fun σ H Q => te σ H fun x H1 => ∃ a xs, x = .ref a ∧ SqT K H1 a xs ∧ ∀ p, H1 p = none → Q (.ref p) (upd H1 p (.tup xs.reverse))
/-- the slice [::-1] is made: three parts, then the object -/
theorem slice_rev {X : Cx} {k : Nat} {p1 p2 p3 : Pos} {pins : List (Addr × Obj)} {σ : L2.St} {H : Hp} {s : Shared} {R : Value → Shared → Prop} (I : Inv X pins σ H s)
    (r : ∀ (v : Value) (s' : Shared), IsPart v (some (-1)) → Inv X pins σ H { s' with heap := s'.heap.push { cls := .type "slice", data := .fields #[.none, .none, v] } } → R (.ref s'.heap.objs.size) { s' with heap := s'.heap.push { cls := .type "slice", data := .fields #[.none, .none, v] } }) :
    wpAny (model X.prog X.w) X.A (eval (.Slice none none (some (.UnaryOp .USub (.Constant (.int 1) k p1) p2)) p3) X.env) R X.xe s := by
  refine wpAny_Slice (thn (po_none.run pins s σ H (fun o K => (none, H) = (o, K)) I rfl) ?_)
  rintro a sa ⟨_, _, Ia, pa, ⟨⟩⟩
  obtain rfl : a = .none := by cases a <;> first | rfl | cases pa
  refine thn (po_none.run pins sa σ H (fun o K => (none, H) = (o, K)) Ia rfl) ?_
  rintro b sb ⟨_, _, Ib, pb, ⟨⟩⟩
  obtain rfl : b = .none := by cases b <;> first | rfl | cases pb
  have minus : PO X (some (.UnaryOp .USub (.Constant (.int 1) k p1) p2)) _ := po_some (pe_un un_neg pe_int)
  refine thn (minus.run pins sb σ H (fun o K => (some (-1), H) = (o, K)) Ib ⟨1, rfl, -1, rfl, rfl⟩) ?_
  rintro c sc ⟨_, _, Ic, pc, ⟨⟩⟩
  exact r c sc pc (Ic.kept (t' := sc.toks) fun _ _ z => Heap.get?_push_of_some _ z)
theorem pe_revT {X : Cx} {e : Expr} {te : TE} {k : Nat} {p1 p2 p3 pos : Pos} (he : PE X e te) : PE X (.Subscript e (.Slice none none (some (.UnaryOp .USub (.Constant (.int 1) k p1) p2)) p3) pos) (tRevT X.K te) := by
  refine ⟨fun pins s σ H Q I h => Subscript_ (thn (he.run pins s σ H _ I h) ?_)⟩
  rintro _ s1 ⟨_, H1, I1, r1, a, xs, rfl, stands, q⟩
  cases r1
  refine slice_rev I1 fun v s2 part I2 => ?_
  obtain ⟨us, vals, tup, small⟩ := I2.tuple stands
  refine tail_any (ops := [.ref a, .ref s2.heap.objs.size]) tup.typeIs PyProof.Rows.slot_tuple_getitem.lookup ?_ (by with_unfolding_all rfl)
  refine getItem_tuple_rev tup (Heap.IsSliceOf.new s2.heap .none .none v) part ?_ (by rw [List.size_toArray, ← vals.length]; exact small)
  rw [List.toList_toArray]
  exact ⟨.ref _, _, I2.laid (t' := s2.toks) (o := .tup xs.reverse) (fun _ _ z => Heap.get?_push_of_some _ z) (Nat.le_refl _) ⟨(List.length_reverse (as := xs)).symm ▸ small, us.reverse, vals.reverse, IsTup.new _ us.reverse.toArray⟩, rfl, q _ (I2.hok.fresh (Nat.le_refl _))⟩
/-! ### dicts just made, walked -/
/-- behind e its object is locked -/
def tLockA (te : TE) : TE := fun σ H Q => te σ H fun x H1 => ∃ d u, x = .ref d ∧ H1 d = some u ∧ Mut (some u) ∧ ∀ od, Q x (upd H1 d (.frz od u))
theorem pe_lockA {X : Cx} {e : Expr} {te : TE} (h : PE X e te) : PE X e (tLockA te) := by
  constructor
  intro pins s σ H Q I hw
  refine thn (h.run pins s σ H _ I hw) fun v s1 ⟨x, H1, I1, r, d, u, ex, hd, mu, q⟩ => ?_
  obtain ⟨od, I2⟩ := I1.lock hd mu
  exact ⟨x, _, I2, r, q od⟩
theorem lcG_vals {d : Addr} {o : Obj} {kvs : List (Key × V)} {g : TG} {F : (Hp → Prop) → L2.St → Hp → Prop} {τ : L2.St} {H0 : Hp} {Qd : Hp → Prop} (Pv : Nat → Hp → Prop) (h0 : Pv 0 H0) (hl : ∀ i H, i ≤ kvs.length → Pv i H → H d = some (.frz o (.dK kvs)))
    (hs : ∀ i k x H, kvs[i]? = some (k, x) → Pv i H → g x τ H fun σ2 H2 => F (Pv (i + 1)) σ2 H2) (hd : ∀ H, Pv kvs.length H → Qd H) :
    ∃ W : Nat → Nat → Hp → Prop, (∃ m, W 0 m H0) ∧ ∀ i m H, W i m H → ((Itd d o kvs).stop i H ∧ Qd H) ∨
      ((Itd d o kvs).go i H ∧ ∃ Nx : Hp → Prop, (∀ H', Nx H' → ∃ m', m' < m ∧ W (i + 1) m' H') ∧ ∀ x H', (Itd d o kvs).yld i H x H' → g x τ H' fun σ2 H2 => F Nx σ2 H2) := by
  refine ⟨fun i m H => m = kvs.length - i ∧ i ≤ kvs.length ∧ Pv i H, ⟨_, rfl, Nat.zero_le _, h0⟩, ?_⟩
  rintro i m H ⟨rfl, hi, p⟩
  have q := hl i H hi p
  by_cases hlt : i < kvs.length
  · refine .inr ⟨⟨q, hlt⟩, Pv (i + 1), fun H' p' => ⟨_, by omega, rfl, hlt, p'⟩, fun v H' y => ?_⟩
    obtain ⟨rfl, k, hk⟩ := y
    exact hs i k v H' hk p
  · have e : i = kvs.length := by omega
    subst e
    exact .inl ⟨⟨q, Nat.le_refl _⟩, hd H p⟩
theorem lcG_items {d : Addr} {o : Obj} {kvs : List (Key × V)} {g : TG} {F : (Hp → Prop) → L2.St → Hp → Prop} {τ : L2.St} {H0 : Hp} {Qd : Hp → Prop} (Pv : Nat → Hp → Prop) (h0 : Pv 0 H0) (hl : ∀ i H, i ≤ kvs.length → Pv i H → H d = some (.frz o (.dK kvs)))
    (hs : ∀ i k x T H, kvs[i]? = some (k, x) → Pv i H → H T = none → g (.ref T) τ (upd H T (.tup [kV k, x])) fun σ2 H2 => F (Pv (i + 1)) σ2 H2) (hd : ∀ H, Pv kvs.length H → Qd H) :
    ∃ W : Nat → Nat → Hp → Prop, (∃ m, W 0 m H0) ∧ ∀ i m H, W i m H → ((Iti d o kvs).stop i H ∧ Qd H) ∨
      ((Iti d o kvs).go i H ∧ ∃ Nx : Hp → Prop, (∀ H', Nx H' → ∃ m', m' < m ∧ W (i + 1) m' H') ∧ ∀ x H', (Iti d o kvs).yld i H x H' → g x τ H' fun σ2 H2 => F Nx σ2 H2) := by
  refine ⟨fun i m H => m = kvs.length - i ∧ i ≤ kvs.length ∧ Pv i H, ⟨_, rfl, Nat.zero_le _, h0⟩, ?_⟩
  rintro i m H ⟨rfl, hi, p⟩
  have q := hl i H hi p
  by_cases hlt : i < kvs.length
  · refine .inr ⟨⟨q, hlt⟩, Pv (i + 1), fun H' p' => ⟨_, by omega, rfl, hlt, p'⟩, fun v H' y => ?_⟩
    obtain ⟨T, k, x, hk, rfl, hT, rfl⟩ := y
    exact hs i k x T H hk p hT
  · have e : i = kvs.length := by omega
    subst e
    exact .inl ⟨⟨q, Nat.le_refl _⟩, hd H p⟩
/-! ### the same rules with the fragment named (for the blocks of comprehensions) -/
section
variable {X : Cx} {K : PySem.W.Frag} {pos : Pos}
theorem pg_tupK {es : List Expr} {k : Nat} {t : TGs} {n : Nat} (hc : X.calm = true) (h : PGs X es t) (hK : X.K = K := by rfl) (hn : (assignEach es X.env).length = n := by rfl) (hst : (assignEach es X.env).findIdx? (·.1) = none := by rfl) : PG X (.Tuple es k pos) (gTup K n t) := by
  subst hK
  exact pg_tup hc h hn hst
def rLenK (K : PySem.W.Frag) : List V → Hp → VK → Prop := fun xs H Q => ∃ p ys, xs = [.ref p] ∧ (SqL K H p ys ∨ SqT K H p ys) ∧ Q (.int ys.length) H
theorem call_lenK (hK : X.K = K := by rfl) : CallR X (.builtin "len") (rLenK K) := by
  subst hK
  exact call_len_seq
end
theorem lcG_str {x : Str} {g : TG} {F : (Hp → Prop) → L2.St → Hp → Prop} {τ : L2.St} {H0 : Hp} {Qd : Hp → Prop} (Pv : Nat → Hp → Prop) (h0 : Pv 0 H0)
    (hs : ∀ i c H, x.cps.toList[i]? = some c → Pv i H → g (.str ⟨#[c]⟩) τ H fun σ2 H2 => F (Pv (i + 1)) σ2 H2) (hd : ∀ H, Pv x.cps.toList.length H → Qd H) :
    ∃ W : Nat → Nat → Hp → Prop, (∃ m, W 0 m H0) ∧ ∀ i m H, W i m H → ((Its x).stop i H ∧ Qd H) ∨
      ((Its x).go i H ∧ ∃ Nx : Hp → Prop, (∀ H', Nx H' → ∃ m', m' < m ∧ W (i + 1) m' H') ∧ ∀ v H', (Its x).yld i H v H' → g v τ H' fun σ2 H2 => F Nx σ2 H2) := by
  have el : x.cps.toList.length = x.cps.size := Array.length_toList
  refine ⟨fun i m H => m = x.cps.size - i ∧ i ≤ x.cps.size ∧ Pv i H, ⟨_, rfl, Nat.zero_le _, h0⟩, ?_⟩
  rintro i m H ⟨rfl, hi, p⟩
  by_cases hlt : i < x.cps.size
  · refine .inr ⟨hlt, Pv (i + 1), fun H' p' => ⟨_, by omega, rfl, hlt, p'⟩, fun v H' y => ?_⟩
    obtain ⟨rfl, c, hc, rfl⟩ := y
    exact hs i c H' (by rw [Array.getElem?_toList]; exact hc) p
  · have e : i = x.cps.size := by omega
    subst e
    exact .inl ⟨Nat.le_refl _, hd H (by rw [el]; exact p)⟩
end K91
/-! P5 -/
namespace K91
open PySem PySem.Spec PyProof.Rows L2
/-- all values are indexes below n -/
def IdxD (n : Nat) (es : List (Key × V)) : Prop := ∀ kv ∈ es, ∃ j : Nat, kv.2 = .int (j : Nat) ∧ j < n
theorem IdxD.put {n : Nat} {es : List (Key × V)} (h : IdxD n es) (k : Key) {j : Nat} (hj : j < n) : IdxD n (putK es k (.int (j : Nat))) := by
  unfold putK
  split
  · intro kv hkv
    obtain ⟨x, hx, rfl⟩ := List.mem_map.mp hkv
    split
    · exact ⟨j, rfl, hj⟩
    · exact h x hx
  · intro kv hkv
    rcases List.mem_append.mp hkv with q | q
    · exact h kv q
    · rw [List.mem_singleton.mp q]
      exact ⟨j, rfl, hj⟩
theorem IdxD.mono {n m : Nat} {es : List (Key × V)} (h : IdxD n es) (hm : n ≤ m) : IdxD m es := fun kv hkv => let ⟨j, e, hj⟩ := h kv hkv; ⟨j, e, by omega⟩
section
variable {P : Program} {w : World} {K : PySem.W.Frag} {mg : Str → Option Value} {base : Heap}
theorem firsts_in {ta a d f : Addr} {v4 v6 v7 : Option V} {k : Str} {T : Tb} {H : Hp} {bs : List (Key × V)} {D : Ends} (hT : TabV K H (.ref ta) T) (hk : k ∈ T.kinds) (hf : H f = some (.dK bs)) (hb : bs.length + 12 < sizeLine)
    (q : ∀ v H' bs', Kx (· = f) H H' → H' f = some (.dK bs') → bs'.length ≤ bs.length + 12 → D.nx [some (.ref ta), some (.ref a), some (.ref d), some (.ref f), v4, some (.str k), v6, v] H') :
    tFor (iAny K (tMeth (He.ga K "Table") "links" (spLinks K) [] E0 (tVar 0) (tCons (tVar 5) tNil))) (gName 7) (sDPut (tVar 3) (tVar 7) (tC (.bl true))) D [some (.ref ta), some (.ref a), some (.ref d), some (.ref f), v4, some (.str k), v6, v7] H := by
  obtain ⟨dx, fs, hi1, hi2⟩ := tab_links hT
  refine ⟨_, rfl, ta, dx, fs, rfl, hi1, hi2, _, rfl, _, k, T, rfl, hT, hk, fun lp hlp => ?_⟩
  refine ⟨false, lp, _, rfl, hlp, ?_⟩
  have hfew : (T.links k).length ≤ 12 := Nat.le_trans (List.length_filter_le _ _) T.few
  refine for_any (b := false) (xs := (T.links k).map V.str) (fun i σ H' => ∃ v bs', σ = [some (.ref ta), some (.ref a), some (.ref d), some (.ref f), v4, some (.str k), v6, v] ∧ Kx (· = f) H H' ∧ H' f = some (.dK bs') ∧ bs'.length ≤ bs.length + i)
    ⟨v7, bs, rfl, Kx.refl _, hf, Nat.le_refl _⟩ (fun i σ H' _ ⟨_, _, _, e, _⟩ => kx_t e hf hlp) ?_ ?_
  · rintro i x σ H' hx ⟨v, bs', rfl, e, hf', hl⟩
    have hi : i < 12 := by
      have := (List.getElem?_eq_some_iff.mp hx).1
      rw [List.length_map] at this
      omega
    rw [List.getElem?_map] at hx
    obtain ⟨o, ho, rfl⟩ := Option.map_eq_some_iff.mp hx
    refine ⟨_, rfl, _, rfl, f, _, rfl, DPut.k (k := Sum.inr o) hf' (by omega), ?_⟩
    exact ⟨_, _, rfl, Kx.to e (.inl rfl), upd_same .., Nat.le_trans (length_putK _ _ _) (by omega)⟩
  · rintro σ H' ⟨v, bs', rfl, e, hf', hl⟩
    rw [List.length_map] at hl
    exact q v H' bs' e hf' (by omega)
def spFirsts (K : PySem.W.Frag) : Sp := fun vs H Q _ => ∃ t T r b a ys, vs = [t, .ref a] ∧ TabV K H t T ∧ SqA K H b a ys ∧ Sys K H ys r ∧ Kin T r ∧ r.length < 100000 ∧
  ∀ p H' es, Evl.Ex H H' → H p = none → H' p = some (.dK es) → IdxD r.length es → es.length ≤ r.length → Q (.ref p) H'
theorem ok_firsts (C : Fx w K mg base) : FnOk P w K mg base CX0 2 (a_firsts K) (fdA K (a_firsts K)) ["table", "syllables"] (spFirsts K) := by
  refine (F_firsts C).ok S_firsts (fun vs H Q E h => ?_) (fun cdv A outer s H vs Q E hr h => ?_)
  · obtain ⟨t, T, r, b, a, ys, rfl, _⟩ := h
    rfl
  · obtain ⟨t, T, r, b, a, ys, rfl, hT, hq, hs, hk, hz, q⟩ := h
    refine ⟨_, (pss_cons (ps_set (i := 2) S_firsts.nd rfl (Or.inl rfl) pe_dnewK)
      (pss_cons (ps_set (i := 3) S_firsts.nd rfl (Or.inl rfl) pe_dnewK)
      (pss_cons (ps_for PassesOwn.never rfl (pi_enumA (by rfl) C.z_enumerate (pa_cons (pv 1) pa_nil)) (pg_tup rfl (pgs_cons (pg_name (i := 4) S_firsts.nd rfl (Or.inl rfl)) (pgs_cons (pg_tup rfl (pgs_cons (pg_name (i := 5) S_firsts.nd rfl (Or.inl rfl)) (pgs_cons (pg_name (i := 6) S_firsts.nd rfl (Or.inl rfl)) pgs_nil))) pgs_nil)))
        (pss_cons (ps_if (pt_cmp (pc_dnotin (hu_of hr) (pv 5) (pv 3)))
          (pss_one (ps_dput (hu_of hr) (pv 2) (pv 5) (pv 4) rfl))
          pss_nil)
        (pss_one (ps_for PassesOwn.never rfl (pi_any (pe_md (D_links C) (hr.mono (by decide)) (pv 0) (pa_cons (pv 5) pa_nil))) (pg_name (i := 7) S_firsts.nd rfl (Or.inl rfl))
          (pss_one (ps_dput (hu_of hr) (pv 3) (pv 7) pe_bl rfl))))))
      (pss_one (ps_ret (pv 2)))))), ?_⟩
    obtain ⟨ta, rfl⟩ := tab_ref hT
    intro d hd
    intro f hf
    have hfd : f ≠ d := fun z => by rw [z, upd_same] at hf; cases hf
    have hf0 : H f = none := by rwa [upd_ne hfd] at hf
    have e0 : Evl.Ex H (upd (upd H d (.dK [])) f (.dK [])) := Evl.Ex.upd (ex_new hd) hf0
    have hzs := sizeLine_eq
    have hlen := pr_len hs
    refine ⟨_, rfl, b, a, ys, rfl, sqA_ex e0 hq, ?_⟩
    refine for_enumA (xs := ys) (fun i σ H' => ∃ v4 v5 v6 v7 es bs, σ = [some (.ref ta), some (.ref a), some (.ref d), some (.ref f), v4, v5, v6, v7] ∧ Evl.Ex H H' ∧ H' d = some (.dK es) ∧ H' f = some (.dK bs) ∧ IdxD r.length es ∧ es.length ≤ i ∧ bs.length ≤ 12 * i)
      ⟨_, _, _, _, [], [], rfl, e0, by rw [upd_ne hfd.symm, upd_same], upd_same .., fun kv h => (nomatch h), Nat.le_refl _, Nat.le_refl _⟩
      (fun i σ H' _ ⟨_, _, _, _, _, _, _, e, _⟩ => sqA_ex e hq) ?_ ?_
    · rintro i x W σ H' hx ⟨v4, v5, v6, v7, es, bs, rfl, e, hd', hf', hes, hel, hbl⟩ hW
      obtain ⟨y, hy, p, rfl, hp⟩ := pr_get' hs hx
      have hil : i < r.length := (List.getElem?_eq_some_iff.mp hy).1
      have hyT : y.1 ∈ T.kinds := hk y (List.mem_of_getElem? hy)
      have kW := ex_new (o := .tup [.int (i : Nat), .ref p]) hW
      have e2 : Evl.Ex H (upd H' W (.tup [.int (i : Nat), .ref p])) := Evl.Ex.trans e kW
      refine ⟨W, _, rfl, t_of (upd_same ..), rfl, _, _, rfl, _, _, rfl, ⟨p, _, rfl, Evl.ex_t e2 hp, rfl, _, _, rfl, _, _, rfl, rfl, rfl, ?_⟩⟩
      have hT' := hT.nx (Nx.ofEx e2)
      refine ⟨_, rfl, _, rfl, f, _, rfl, DGet.k (k := Sum.inr y.1) (kW _ _ hf'), _, rfl, ?_⟩
      have hW0 : H W = none := ex_free e hW
      refine ite2 (fun _ => ?_) (fun _ => ?_)
      · refine ⟨_, rfl, _, rfl, _, rfl, d, _, rfl, DPut.k (k := Sum.inr y.1) (kW _ _ hd') (by omega), ?_⟩
        have k2 : Kx (· = d) (upd H' W (.tup [.int (i : Nat), .ref p])) (upd (upd H' W (.tup [.int (i : Nat), .ref p])) d (.dK (putK es (Sum.inr y.1) (.int (i : Nat))))) := Kx.to (Kx.refl _) (.inl rfl)
        have e3 := Evl.Ex.upd (o := .dK (putK es (Sum.inr y.1) (.int (i : Nat)))) e2 hd
        refine firsts_in (hT.nx (Nx.ofEx e3)) hyT (by rw [upd_ne hfd]; exact kW _ _ hf') (by omega) fun v H3 bs' k3 hf3 hl3 => ?_
        refine ⟨_, _, _, _, _, _, rfl, Kx.exOf (X := (· = f)) (Kx.trans (Kx.ofEx e3) k3) (fun z hz => by rw [hz]; exact hf0), k3 _ _ (fun z => hfd z.symm) (upd_same ..), hf3, hes.put _ hil, Nat.le_trans (length_putK _ _ _) (by omega), by omega⟩
      · refine firsts_in hT' hyT (kW _ _ hf') (by omega) fun v H3 bs' k3 hf3 hl3 => ?_
        exact ⟨_, _, _, _, _, _, rfl, Kx.exOf (X := (· = f)) (Kx.trans (Kx.ofEx e2) k3) (fun z hz => by rw [hz]; exact hf0), k3 _ _ (fun z => hfd z.symm) (kW _ _ hd'), hf3, hes, by omega, by omega⟩
    · rintro σ H' ⟨v4, v5, v6, v7, es, bs, rfl, e, hd', hf', hes, hel, hbl⟩
      rw [hlen] at hel
      exact ⟨_, rfl, q d H' es e hd hd' hes hel⟩
theorem D_firsts (C : Fx w K mg base) : Dn P w K mg base 2 (a_firsts K) (fdA K (a_firsts K)) ["table", "syllables"] (spFirsts K) "firsts" := ⟨ok_firsts C, C.g_firsts, (F_firsts C).kp, B_firsts C⟩
/-! ### lasts -/
def spLasts (K : PySem.W.Frag) : Sp := fun vs H Q _ => ∃ t T r a ys, vs = [t, .ref a] ∧ TabV K H t T ∧ SqT K H a ys ∧ Sys K H ys r ∧ Kin T r ∧ r.length < 100000 ∧
  ∀ p H' es, Evl.Ex H H' → H p = none → H' p = some (.dK es) → IdxD r.length es → es.length ≤ r.length → Q (.ref p) H'
theorem ok_lasts (C : Fx w K mg base) : FnOk P w K mg base CX0 3 (a_lasts K) (fdA K (a_lasts K)) ["table", "syllables"] (spLasts K) := by
  refine (F_lasts C).ok S_lasts (fun vs H Q E h => ?_) (fun cdv A outer s H vs Q E hr h => ?_)
  · obtain ⟨t, T, r, a, ys, rfl, _⟩ := h
    rfl
  · obtain ⟨t, T, r, a, ys, rfl, hT, hq, hs, hk, hz, q⟩ := h
    refine ⟨_, (pss_cons (ps_set (i := 2) S_lasts.nd rfl (Or.inl rfl) (pe_cd (D_firsts C) (hr.mono (by decide)) (pa_cons (pv 0) (pa_cons (pe_callTy call_list_of (by rfl) C.z_list (by decide +kernel) (pa_cons (pe_revT (pv 1)) pa_nil)) pa_nil))))
      (pss_one (ps_ret (pe_dc (own := [("kind", 3), ("at", 4)]) (tt := tYes) rfl S_lasts.nd (pi_items (pe_lockA (pv 2))) (blkOk_by (own := [("kind", 3), ("at", 4)]) (N := ["table", "syllables", "turned", "kind", "at"]) (sc := defScope st_lasts) (by decide +kernel))
        (fun _ _ _ _ _ => pg_tupK (K := K) (n := 2) rfl (pgs_cons (pg_name (i := 3) S_lasts.nd rfl (Or.inl rfl)) (pgs_cons (pg_name (i := 4) S_lasts.nd rfl (Or.inl rfl)) pgs_nil))) (fun _ _ _ _ _ => pts_nil) (fun _ _ _ _ _ => pv 3)
        (fun _ _ _ _ _ => pe_op op_sub (pe_op op_sub (pe_callB (call_lenK (K := K)) (by rfl) C.z_len (by decide +kernel) (pa_cons (pv 1) pa_nil)) pe_int) (pv 4)))))), ?_⟩
    have hlen := pr_len hs
    have hzs := sizeLine_eq
    refine ⟨_, rfl, _, rfl, a, ys, rfl, hq, fun p hp => ?_⟩
    have e0 := ex_new (o := .tup ys.reverse) hp
    refine ⟨p, _, rfl, .inr (t_of (upd_same ..)), fun l hl => ?_⟩
    have e1 := Evl.Ex.trans e0 (ex_new (o := .lst ys.reverse) hl)
    refine ⟨t, T, r.reverse, true, l, ys.reverse, rfl, hT.nx (Nx.ofEx e1), l_of (upd_same ..), pr_rev (sys_ex e1 hs), fun y hy => hk y (List.mem_reverse.mp hy), by rw [List.length_reverse]; exact hz, fun d H2 es e2 hd0 hd hes hel => ?_⟩
    rw [List.length_reverse] at hes hel
    have e3 := Evl.Ex.trans e1 e2
    refine ⟨_, rfl, d, _, rfl, hd, True.intro, fun od => ⟨d, od, es, rfl, upd_same .., fun D hD => ?_⟩⟩
    have hDd : D ≠ d := fun z => by rw [z, upd_same] at hD; cases hD
    have hD2 : H2 D = none := by rwa [upd_ne hDd] at hD
    have hdH : H d = none := ex_free e1 hd0
    have hDH : H D = none := ex_free e3 hD2
    refine lcG_items (fun i H' => ∃ bs, Evl.Ex H H' ∧ H' d = some (.frz od (.dK es)) ∧ H' D = some (.dK bs) ∧ IdxD r.length bs ∧ bs.length ≤ i) ⟨[], Evl.Ex.upd (Evl.Ex.upd e3 hdH) hDH, by rw [upd_ne hDd.symm, upd_same], upd_same .., fun kv h => (nomatch h), Nat.le_refl _⟩
      (fun i H' _ ⟨_, _, h, _⟩ => h) ?_ ?_
    · rintro i k x W H' hx ⟨bs, e, hd', hD', hbs, hl'⟩ hW
      have hil : i < es.length := (List.getElem?_eq_some_iff.mp hx).1
      obtain ⟨j, hj, hjl⟩ := hes _ (List.mem_of_getElem? hx)
      have hj : x = .int (j : Nat) := hj
      subst hj
      have kW := ex_new (o := .tup [kV k, .int (j : Nat)]) hW
      refine ⟨W, _, rfl, t_of (upd_same ..), rfl, _, _, rfl, _, _, rfl, rfl, rfl, _, rfl, ?_⟩
      refine ⟨_, rfl, a, ys, rfl, .inr (Evl.ex_t (Evl.Ex.trans e kW) hq), _, 1, rfl, rfl, _, rfl, _, _, rfl, rfl, ?_⟩
      have ej : ((ys.length : Nat) : Int) - 1 - ((j : Nat) : Int) = ((r.length - 1 - j : Nat) : Int) := by omega
      refine ⟨bs, k, rfl, kW _ _ hD', by omega, ?_⟩
      have ev : (fun i j : Int => V.int (i - j)) (((ys.length : Nat) : Int) - 1) ((j : Nat) : Int) = V.int ((r.length - 1 - j : Nat) : Int) := congrArg V.int ej
      rw [ev]
      refine ⟨_, Evl.Ex.upd (Evl.Ex.trans e kW) hDH, by rw [upd_ne hDd.symm]; exact kW _ _ hd', upd_same .., hbs.put _ (by omega), Nat.le_trans (length_putK _ _ _) (by omega)⟩
    · rintro H' ⟨bs, e, hd', hD', hbs, hl'⟩
      exact q D H' bs e hDH hD' hbs (by omega)
theorem D_lasts (C : Fx w K mg base) : Dn P w K mg base 3 (a_lasts K) (fdA K (a_lasts K)) ["table", "syllables"] (spLasts K) "lasts" := ⟨ok_lasts C, C.g_lasts, (F_lasts C).kp, B_lasts C⟩
end
end K91
/-! MD -/
/-! whole numbers as texts -/
namespace K91
open PySem PySem.NumText
def digs : Nat → List Nat
  | n => if h : n < 10 then [48 + n] else digs (n / 10) ++ [48 + n % 10]
theorem digs_small {n : Nat} (h : n < 10) : digs n = [48 + n] := by
  rw [digs, dif_pos h]
theorem digs_big {n : Nat} (h : ¬ n < 10) : digs n = digs (n / 10) ++ [48 + n % 10] := by
  rw [digs, dif_neg h]
theorem digs_all (n : Nat) : AllDigits (digs n) := by
  induction n using Nat.strongRecOn with
  | ind n ih =>
    by_cases h : n < 10
    · rw [digs_small h]
      intro c hc
      rw [List.mem_singleton.mp hc]
      omega
    · rw [digs_big h]
      intro c hc
      rcases List.mem_append.mp hc with q | q
      · exact ih (n / 10) (by omega) c q
      · rw [List.mem_singleton.mp q]
        omega
theorem digs_ne (n : Nat) : digs n ≠ [] := by
  by_cases h : n < 10
  · rw [digs_small h]; simp
  · rw [digs_big h]; simp
theorem digs_val (n : Nat) : digitsVal (digs n) = n := by
  induction n using Nat.strongRecOn with
  | ind n ih =>
    by_cases h : n < 10
    · rw [digs_small h]
      show 0 * 10 + (48 + n - 48) = n
      omega
    · rw [digs_big h, digitsVal_snoc, ih (n / 10) (by omega)]
      omega
theorem digs_head {n : Nat} (h0 : n ≠ 0) : ∃ c r, digs n = c :: r ∧ 49 ≤ c := by
  induction n using Nat.strongRecOn with
  | ind n ih =>
    by_cases h : n < 10
    · exact ⟨48 + n, [], digs_small h, by omega⟩
    · obtain ⟨c, r, h1, h2⟩ := ih (n / 10) (by omega) (by omega)
      exact ⟨c, r ++ [48 + n % 10], by rw [digs_big h, h1]; rfl, h2⟩
theorem digs_len : ∀ (k : Nat) {n : Nat}, n < 10 ^ (k + 1) → (digs n).length ≤ k + 1
  | 0, n, h => by
    rw [digs_small (by omega)]
    exact Nat.le_refl _
  | k + 1, n, h => by
    by_cases h2 : n < 10
    · rw [digs_small h2]
      show 1 ≤ k + 1 + 1
      omega
    · rw [digs_big h2, List.length_append]
      have : n / 10 < 10 ^ (k + 1) := by
        have e : 10 ^ (k + 1 + 1) = 10 ^ (k + 1) * 10 := Nat.pow_succ ..
        omega
      have := digs_len k this
      show (digs (n / 10)).length + 1 ≤ _
      omega
theorem digs_chars (n : Nat) : Nat.toDigits 10 n = (digs n).map Char.ofNat := by
  have h := toDigits_digitsVal ((digs n).length - 1) (digs n) (by have := List.length_pos_iff.mpr (digs_ne n); omega) (digs_all n) (by
    by_cases h0 : n = 0
    · left
      rw [h0, digs_small (by omega)]
      rfl
    · exact .inr (digs_head h0))
  rwa [digs_val] at h
theorem digs_nat (n : Nat) : (Nat.toDigits 10 n).map Char.toNat = digs n := by
  rw [digs_chars, List.map_map]
  conv => rhs; rw [← List.map_id (digs n)]
  refine List.map_congr_left fun c hc => ?_
  have := digs_all n c hc
  have : ∀ c : Nat, c ≤ 57 → (Char.ofNat c).toNat = c := by decide
  exact this c (by omega)
/-- the text of a whole number -/
abbrev intTx (i : Int) : Str := Str.ofString (toString i)
theorem intTx_nat (n : Nat) : (intTx (n : Int)).cps.toList = digs n := by
  unfold intTx
  rw [Str.ofString_eq_toList]
  show ((toString ((n : Nat) : Int)).toList.map Char.toNat) = _
  have e : (toString ((n : Nat) : Int)).toList = Nat.toDigits 10 n := by
    show (String.ofList (Nat.toDigits 10 n)).toList = _
    exact String.toList_ofList
  rw [e, digs_nat]
theorem intTx_neg (n : Nat) (h : n ≠ 0) : (intTx (-(n : Int))).cps.toList = 45 :: digs n := by
  obtain ⟨m, rfl⟩ : ∃ m, n = m + 1 := ⟨n - 1, by omega⟩
  unfold intTx
  rw [Str.ofString_eq_toList]
  show ((toString (Int.negSucc m)).toList.map Char.toNat) = _
  have e : (toString (Int.negSucc m)).toList = '-' :: Nat.toDigits 10 (m + 1) := by
    show ("-" ++ String.ofList (Nat.toDigits 10 (m + 1))).toList = _
    rw [String.toList_append]
    show ['-'] ++ (String.ofList (Nat.toDigits 10 (m + 1))).toList = _
    rw [String.toList_ofList]
    rfl
  rw [e, List.map_cons, digs_nat]
  rfl
theorem intTx_cps (i : Int) : (intTx i).cps.toList = if i < 0 then 45 :: digs i.natAbs else digs i.natAbs := by
  by_cases h : i < 0
  · rw [if_pos h]
    have := intTx_neg i.natAbs (by omega)
    rwa [show -((i.natAbs : Nat) : Int) = i by omega] at this
  · rw [if_neg h]
    have := intTx_nat i.natAbs
    rwa [show ((i.natAbs : Nat) : Int) = i by omega] at this
theorem intTx_reads {i : Int} (h : i.natAbs < 10 ^ 21) : intText? (intTx i) = some i := by
  have hl := digs_len 20 h
  have hlen : (intTx i).length ≤ 22 := by
    show (intTx i).cps.size ≤ 22
    rw [← Array.length_toList, intTx_cps]
    split
    · rw [List.length_cons]; omega
    · omega
  by_cases hi : i < 0
  · rw [intText_neg (by rw [intTx_cps, if_pos hi]) (digs_all _) (digs_ne _) (by omega), digs_val]
    congr 1
    omega
  · have e := intTx_cps i
    rw [if_neg hi] at e
    rw [intText_digits (by rw [e]; exact digs_all _) (by rw [e]; exact digs_ne _) (by omega), e, digs_val]
    congr 1
    omega
end K91
/-! P6 -/
namespace K91
open PySem PySem.Spec PyProof.Rows L2
theorem ifE_same {te1 te2 : TE} {σ : L2.St} {H : Hp} {Q : VK} {x : V} {b : Bool} (h1 : b = true → ∀ Q' : VK, Q' x H → te1 σ H Q') (h2 : b = false → ∀ Q' : VK, Q' x H → te2 σ H Q') (q : Q x H) : if b = true then te1 σ H Q else te2 σ H Q := by
  cases b with
  | true => exact iteT (h1 rfl Q q)
  | false => exact iteF (h2 rfl Q q)
section
variable {P : Program} {w : World} {K : PySem.W.Frag} {mg : Str → Option Value} {base : Heap}
/-! ### is_integer -/
def spIsInt (K : PySem.W.Frag) : Sp := fun vs H Q _ => ∃ i, vs = [.int i] ∧ Q (.bl true) H
theorem ok_is_integer (C : Fx w K mg base) : FnOk P w K mg base CX0 1 (a_is_integer K) (fdA K (a_is_integer K)) ["value"] (spIsInt K) := by
  refine (F_is_integer C).ok S_is_integer (fun vs H Q E h => ?_) (fun cdv A outer s H vs Q E hr h => ?_)
  · obtain ⟨i, rfl, _⟩ := h
    rfl
  · obtain ⟨i, rfl, q⟩ := h
    refine ⟨_, (pss_one (ps_ret (pe_and (pe_callB call_isi (by rfl) C.z_isinstance (by decide +kernel) (pa_cons (pv 0) (pa_cons (pe_bltn (v := .ty "int") (by rfl) C.z_int (by decide +kernel) rfl) pa_nil)))
      (pe_one (pe_not (pe_callB call_isi (by rfl) C.z_isinstance (by decide +kernel) (pa_cons (pv 0) (pa_cons (pe_bltn (v := .ty "bool") (by rfl) C.z_bool (by decide +kernel) rfl) pa_nil)))))))), ?_⟩
    refine ⟨_, rfl, _, _, _, _, true, rfl, .ty _, .base (.int _), kit_ty (by decide +kernel), true, rfl, ?_⟩
    refine iteT ?_
    exact ⟨_, rfl, _, _, _, _, false, rfl, .ty _, .base (.int _), kit_ty (by decide +kernel), _, rfl, q⟩
theorem D_is_integer (C : Fx w K mg base) : Dn P w K mg base 1 (a_is_integer K) (fdA K (a_is_integer K)) ["value"] (spIsInt K) "is_integer" := ⟨ok_is_integer C, C.g_is_integer, (F_is_integer C).kp, B_is_integer C⟩
/-! ### is_name -/
def lettersS : Str := "abcdefghijklmnopqrstuvwxyz"
structure NameOk (k : Str) : Prop where
  pos : 0 < k.length
  le : k.length ≤ 6
  ab : ∀ c ∈ k.cps.toList, c ∈ lettersS.cps.toList
def spIsName (K : PySem.W.Frag) : Sp := fun vs H Q _ => ∃ k, vs = [.str k] ∧ NameOk k ∧ ∀ H', Evl.Ex H H' → Q (.bl true) H'
theorem ok_is_name (C : Fx w K mg base) : FnOk P w K mg base CX0 1 (a_is_name K) (fdA K (a_is_name K)) ["value"] (spIsName K) := by
  refine (F_is_name C).ok S_is_name (fun vs H Q E h => ?_) (fun cdv A outer s H vs Q E hr h => ?_)
  · obtain ⟨i, rfl, _⟩ := h
    rfl
  · obtain ⟨k, rfl, hk, q⟩ := h
    obtain ⟨tL, hL⟩ := C.i_LONGEST
    obtain ⟨tS, hS⟩ := C.s_LETTERS
    refine ⟨_, (pss_cons (ps_if (PW.pt (pw_or (pt_not (pt_val (pe_callB call_isi (by rfl) C.z_isinstance (by decide +kernel) (pa_cons (pv 0) (pa_cons (pe_bltn (v := .ty "str") (by rfl) C.z_str (by decide +kernel) rfl) pa_nil)))))
          (pw_or1 (pt_not (pt_chain op_lt op_le pe_int (pe_callB call_len_str (by rfl) C.z_len (by decide +kernel) (pa_cons (pv 0) pa_nil)) (pe_glob (v := .int 6) rfl hL ⟨_, rfl⟩))))))
        (pss_one (ps_ret pe_bl))
        pss_nil)
      (pss_one (ps_ret (pe_callB (cr_all rfl) (by rfl) C.z_all (by decide +kernel) (pa_cons (pe_lc (own := [("letter", 1)]) (g := gName 1) (tt := tYes) rfl S_is_name.nd (pi_str (pv 0)) (blkOk_by (own := [("letter", 1)]) (N := ["value", "letter"]) (sc := defScope st_is_name) (by decide +kernel)) (fun _ _ _ _ _ => (pg_name (i := 1) S_is_name.nd rfl (Or.inl rfl))) (fun _ _ _ _ _ => pts_nil) (fun _ _ _ _ _ => (pe_cmpR op_in_sign (pv 1) (pe_glob (v := .str lettersS) rfl hS ⟨_, rfl⟩) (by rfl)))) pa_nil))))), ?_⟩
    have hp := hk.pos
    have hle := hk.le
    have hz := sizeLine_eq
    refine ⟨_, rfl, _, _, _, _, true, rfl, .ty _, .base (.str _), kit_ty (by decide +kernel), true, rfl, ?_⟩
    refine iteF ?_
    refine ⟨_, rfl, k, rfl, by omega, (0 : Int), (k.length : Int), rfl, rfl, _, rfl, ?_⟩
    rw [show decide ((0 : Int) < (k.length : Int)) = true from decide_eq_true (by omega)]
    refine iteT ⟨_, _, rfl, rfl, _, rfl, ?_⟩
    rw [show decide ((k.length : Int) ≤ 6) = true from decide_eq_true (by omega)]
    refine iteF ?_
    refine ⟨_, rfl, k, rfl, fun D hD => ?_⟩
    refine lcG_str (fun i H' => H' = upd H D (.lst ((List.replicate i true).map V.bl))) rfl ?_ ?_
    · rintro i c H' hc rfl
      refine ⟨rfl, _, rfl, c, lettersS, rfl, rfl, _, upd_same .., ?_, ?_⟩
      · have hi := (List.getElem?_eq_some_iff.mp hc).1
        rw [List.length_map, List.length_replicate]
        have : k.cps.toList.length = k.length := Array.length_toList
        omega
      · rw [decide_eq_true (hk.ab c (List.mem_of_getElem? hc)), upd_upd, List.replicate_succ', List.map_append]
        rfl
    · rintro H' rfl
      refine ⟨D, _, rfl, l_of (upd_same ..), ?_⟩
      have e : (List.replicate k.cps.toList.length true).all id = true := by
        rw [List.all_eq_true]
        intro x hx
        rw [List.eq_of_mem_replicate hx]
        rfl
      rw [e]
      exact q _ (ex_new hD)
theorem D_is_name (C : Fx w K mg base) : Dn P w K mg base 1 (a_is_name K) (fdA K (a_is_name K)) ["value"] (spIsName K) "is_name" := ⟨ok_is_name C, C.g_is_name, (F_is_name C).kp, B_is_name C⟩
/-! ### integer_of -/
def digitsS : Str := "0123456789"
theorem digit_in {c : Nat} (h : 48 ≤ c ∧ c ≤ 57) : c ∈ digitsS.cps.toList := by
  have : digitsS.cps.toList = [48, 49, 50, 51, 52, 53, 54, 55, 56, 57] := by decide +kernel
  rw [this]
  obtain ⟨h1, h2⟩ := h
  have : c = 48 ∨ c = 49 ∨ c = 50 ∨ c = 51 ∨ c = 52 ∨ c = 53 ∨ c = 54 ∨ c = 55 ∨ c = 56 ∨ c = 57 := by omega
  simp [this]
def spIntOf (K : PySem.W.Frag) : Sp := fun vs H Q _ => ∃ i : Int, vs = [.str (intTx i)] ∧ i.natAbs < 10 ^ 21 ∧ ∀ H', Evl.Ex H H' → Q (.int i) H'
theorem ok_integer_of (C : Fx w K mg base) : FnOk P w K mg base CX0 1 (a_integer_of K) (fdA K (a_integer_of K)) ["word"] (spIntOf K) := by
  refine (F_integer_of C).ok S_integer_of (fun vs H Q E h => ?_) (fun cdv A outer s H vs Q E hr h => ?_)
  · obtain ⟨i, rfl, _⟩ := h
    rfl
  · obtain ⟨i, rfl, hi, q⟩ := h
    obtain ⟨tL, hL⟩ := C.i_MOST_DIGITS
    obtain ⟨tS, hS⟩ := C.s_DIGITS
    refine ⟨_, (pss_cons (ps_set (i := 1) S_integer_of.nd rfl (Or.inl rfl) (pe_ifExp (pt_cmpR op_eq (pe_slice sl_str (pv 0) po_none (po_some pe_int)) pe_str (nomark _)) (pe_slice sl_str (pv 0) (po_some pe_int) po_none) (pv 0)))
      (pss_cons (ps_if (PW.pt (pw_or (pt_not (pt_chain op_lt op_le pe_int (pe_callB call_len_str (by rfl) C.z_len (by decide +kernel) (pa_cons (pv 1) pa_nil)) (pe_glob (v := .int 21) rfl hL ⟨_, rfl⟩)))
          (pw_or1 (pt_not (pt_val (pe_callB (cr_all rfl) (by rfl) C.z_all (by decide +kernel) (pa_cons (pe_lc (own := [("digit", 2)]) (g := gName 2) (tt := tYes) rfl S_integer_of.nd (pi_str (pv 1)) (blkOk_by (own := [("digit", 2)]) (N := ["word", "digits", "digit"]) (sc := defScope st_integer_of) (by decide +kernel)) (fun _ _ _ _ _ => (pg_name (i := 2) S_integer_of.nd rfl (Or.inl rfl))) (fun _ _ _ _ _ => pts_nil) (fun _ _ _ _ _ => (pe_cmpR op_in_sign (pv 2) (pe_glob (v := .str digitsS) rfl hS ⟨_, rfl⟩) (by rfl)))) pa_nil)))))))
        (pss_one (ps_ret pe_non))
        pss_nil)
      (pss_cons (ps_if (PW.pt (pw_and (pt_cmpR op_eq (pe_ix ix_str (pv 1) pe_int (fun _ _ => rfl)) pe_str (nomark _)) (pw_and1 (pt_cmpR op_ne (pv 0) pe_str (nomark _)))))
        (pss_one (ps_ret pe_non))
        pss_nil)
      (pss_one (ps_ret (pe_callTy call_int_str (by rfl) C.z_int (by decide +kernel) (pa_cons (pv 0) pa_nil))))))), ?_⟩
    have hz := sizeLine_eq
    have hlen : (intTx i).cps.toList.length = (intTx i).length := Array.length_toList
    have hl21 := digs_len 20 hi
    have hl0 : 0 < (digs i.natAbs).length := List.length_pos_iff.mpr (digs_ne _)
    have hcps := intTx_cps i
    have hl22 : (intTx i).length ≤ 22 := by
      rw [← hlen, hcps]
      split
      · rw [List.length_cons]; omega
      · omega
    have hl1 : 1 ≤ (intTx i).length := by
      rw [← hlen, hcps]
      split
      · rw [List.length_cons]; omega
      · omega
    obtain ⟨z, hzd⟩ : ∃ z : Str, z = ⟨(digs i.natAbs).toArray⟩ := ⟨_, rfl⟩
    have hzl : z.cps.toList = digs i.natAbs := by rw [hzd]
    have hzn : z.cps.toList.length = z.length := Array.length_toList
    rw [hzl] at hzn
    have hsub1 : ((cutS (intTx i) none (some 1)) = ("-" : Str)) ↔ i < 0 := by
      have e1 : cutS (intTx i) none (some 1) = ⟨((intTx i).cps.toList.take 1).toArray⟩ := by
        unfold cutS
        rw [show HT.sIx (intTx i).length (intTx i).length (some 1) = min 1 (intTx i).length from HT.sIx_nat _ _ 1, HT.sIx_none, List.drop_zero, Nat.sub_zero, Nat.min_eq_left hl1]
      have e2 : ("-" : Str) = ⟨[45].toArray⟩ := by decide +kernel
      rw [e1, e2, hcps]
      constructor
      · intro h
        by_cases hn : i < 0
        · exact hn
        · exfalso
          rw [if_neg hn] at h
          have h2 : (digs i.natAbs).take 1 = [45] := by
            have := congrArg (fun s : Str => s.cps.toList) h
            simpa using this
          cases hd : digs i.natAbs with
          | nil => exact digs_ne _ hd
          | cons c r =>
            rw [hd] at h2
            have hc : c = 45 := by simpa using h2
            have := digs_all i.natAbs c (by rw [hd]; exact List.mem_cons_self)
            omega
      · intro hn
        rw [if_pos hn]
        rfl
    refine ⟨_, rfl, 1, rfl, intTx i, rfl, by omega, rfl, _, rfl, ?_⟩
    refine ifE_same (x := .str z) (fun c Q' q' => ⟨_, rfl, 1, rfl, intTx i, rfl, by omega, ?_⟩) (fun c Q' q' => ⟨_, rfl, ?_⟩) ?_
    · have hn : i < 0 := hsub1.mp (V.str.inj (of_decide_eq_true c))
      have e : cutS (intTx i) (some 1) none = z := by
        unfold cutS
        rw [show HT.sIx (intTx i).length 0 (some 1) = min 1 (intTx i).length from HT.sIx_nat _ _ 1, HT.sIx_none, Nat.min_eq_left hl1, hzd, hcps, if_pos hn]
        congr 1
        rw [List.drop_succ_cons, List.drop_zero, List.take_of_length_le]
        rw [← hlen, hcps, if_pos hn, List.length_cons]
        omega
      rw [e]
      exact q'
    · have hn : ¬ i < 0 := fun hn => of_decide_eq_false c (congrArg V.str (hsub1.mpr hn))
      have e : intTx i = z := by
        rw [hzd]
        have := hcps
        rw [if_neg hn] at this
        rw [← this]
      rw [← e] at q'
      exact q'
    refine ⟨_, rfl, z, rfl, by omega, (0 : Int), (z.length : Int), rfl, rfl, _, rfl, ?_⟩
    rw [show decide ((0 : Int) < (z.length : Int)) = true from decide_eq_true (by omega)]
    refine iteT ⟨_, _, rfl, rfl, _, rfl, ?_⟩
    rw [show decide ((z.length : Int) ≤ 21) = true from decide_eq_true (by omega)]
    refine iteF ?_
    refine ⟨_, rfl, z, rfl, fun D hD => ?_⟩
    refine lcG_str (fun j H' => H' = upd H D (.lst ((List.replicate j true).map V.bl))) rfl ?_ ?_
    · rintro j c H' hc rfl
      rw [hzl] at hc
      refine ⟨rfl, _, rfl, c, digitsS, rfl, rfl, _, upd_same .., ?_, ?_⟩
      · have hj := (List.getElem?_eq_some_iff.mp hc).1
        rw [List.length_map, List.length_replicate]
        omega
      · rw [decide_eq_true (digit_in (digs_all _ c (List.mem_of_getElem? hc))), upd_upd, List.replicate_succ', List.map_append]
        rfl
    · rintro H' rfl
      refine ⟨D, _, rfl, l_of (upd_same ..), ?_⟩
      have e : (List.replicate z.cps.toList.length true).all id = true := by
        rw [List.all_eq_true]
        intro x hx
        rw [List.eq_of_mem_replicate hx]
        rfl
      rw [e]
      refine ⟨true, rfl, iteF ?_⟩
      have hH : Evl.Ex H (upd H D (.lst ((List.replicate z.cps.toList.length true).map V.bl))) := ex_new hD
      obtain ⟨c0, r0, hd⟩ : ∃ c r, digs i.natAbs = c :: r := by
        cases hd : digs i.natAbs with
        | nil => exact absurd hd (digs_ne _)
        | cons c r => exact ⟨c, r, rfl⟩
      have hat : atI z.cps.toList (0 : Int) = some c0 := atI_nat (j := 0) (by rw [hzl, hd]; rfl)
      refine ⟨_, rfl, z, (0 : Int), c0, rfl, rfl, by omega, hat, rfl, _, rfl, ?_⟩
      have last : Q (.int i) (upd H D (.lst ((List.replicate z.cps.toList.length true).map V.bl))) := q _ hH
      refine ite2 (fun c => ?_) (fun c => ?_)
      · have e0 : ("0" : Str) = ⟨#[48]⟩ := by decide +kernel
        have h48 : c0 = 48 := by
          have h2 := V.str.inj (of_decide_eq_true c)
          rw [e0] at h2
          have := congrArg (fun s : Str => s.cps.toList) h2
          simpa using this
        have hi0 : i = 0 := by
          by_cases h0 : i.natAbs = 0
          · omega
          · obtain ⟨c1, r1, h3, h4⟩ := digs_head h0
            rw [hd] at h3
            cases h3
            omega
        refine ⟨_, rfl, rfl, _, rfl, ?_⟩
        have ew : intTx i = ("0" : Str) := by rw [hi0]; decide +kernel
        rw [show (!decide (V.str (intTx i) = V.str "0")) = false from by rw [ew]; rfl]
        exact iteF ⟨_, rfl, intTx i, i, rfl, intTx_reads hi, by omega, last⟩
      · exact ⟨_, rfl, intTx i, i, rfl, intTx_reads hi, by omega, last⟩
theorem D_integer_of (C : Fx w K mg base) : Dn P w K mg base 1 (a_integer_of K) (fdA K (a_integer_of K)) ["word"] (spIntOf K) "integer_of" := ⟨ok_integer_of C, C.g_integer_of, (F_integer_of C).kp, B_integer_of C⟩
end
end K91
/-! R4 -/
/-! != of own instances whose class has == alone -/
namespace K91
open PySem PySem.Spec PyProof.Rows L2 PySem.W
section
variable {prog : Program} {w : World} {A : Around} {E : Value → Shared → Prop} {s : Shared} {K : PySem.W.Frag} {x y C f : Addr} {ox oy : Obj} {od od' : Option Obj}
theorem ifBound_b {M : Model} {name : Str} {id : String} {args : List Value} {Q : Option Value → Shared → Prop} (X : K.In s.heap) (I : InstAt s.heap x ox C od) (hs : findIn K (.ref C) name = some (some (.builtin id)))
    (hb : ∀ self, bindSpecial (.builtin id) self = pure (.builtin id, [self])) (h : wpAny M A (call (.builtin id) (.ref x :: args)) (fun v => Q (some v)) E s) : wpAny M A (callSpecialIfBound? (.ref x) name args) Q E s := by
  simp only [callSpecialIfBound?, bindSpecialIfBound?]
  refine wpAny_holding (wpAny_bind (wpAny_bind (wpAny_bind (I.type.here ((looks_findIn X hs).here ?_)))))
  refine wpAny_bind (wpAny_askSetting (wpAny_ite ?_))
  have fin : wpAny M A (call (.builtin id) ([.ref x] ++ args) >>= fun v => pure (some v)) Q E s := wpAny_bind (wpAny_mono h (fun v s' h' => wpAny_pure h') fun _ _ h' => h')
  split
  · exact wpAny_bind ((Looks.of_pure (hb _)).here (wpAny_pure (by exact fin)))
  · exact wpAny_tryCatch (wpAny_bind ((Looks.of_pure (hb _)).here (wpAny_pure (by exact fin))))
theorem object_ne {Q : Value → Shared → Prop} (hu : A.in1.units < cLine) (X : K.In s.heap) (I : InstAt s.heap x ox C od) (hm : mroIn K C (.type "object") = some true) (hr : findIn K (.ref C) "__eq__" = some (some (.ref f))) (hf : isFn K (.ref f) = true)
    (h : wpAny (model prog w) A.in1 (call (.ref f) [.ref x, .ref y]) (fun v s' => v = .bool true ∧ Q (.bool false) s') E s) : wpAny (model prog w) A (call (.builtin "object.__ne__") [.ref x, .ref y]) Q E s := by
  refine wpAny_call (codeAny_call_builtin PySem.F.cmp_object.ne.plain PySem.F.cmpEntry_ne (check_slot (i := "object.__ne__") (owner := "object") (n := "__ne__") PySem.F.cmpKind_ne PySem.F.cmpSplit_ne (I.type.andThen (looks_mroIn X hm)) (PySem.F.cmpArgs_ne _ _) ?_))
  unfold Builtin.«object.__ne__»
  refine wpAny_bind (m := slotArgs "__ne__" 1 _) (wpAny_pure ?_)
  refine wpAny_bind (m := cRoomFor _ _) (wpAny_cRoomFor hu ?_)
  refine wpAny_bind (m := callSpecialIfBound? (.ref x) (Str.ofString "__eq__") _) (ifBound_K X I hr hf (wpAny_mono h (fun r s' hq => ?_) fun _ _ y => y))
  obtain ⟨rfl, q⟩ := hq
  refine wpAny_bind (m := truthy (.bool true)) (wpAny_truthy_bool ?_)
  exact wpAny_pure q
theorem ne_K {Q : Value → Shared → Prop} (hu : A.units < cLine) (hu1 : A.in1.units < cLine) (X : K.In s.heap) (I : InstAt s.heap x ox C od) (J : InstAt s.heap y oy C od') (hm : mroIn K C (.type "object") = some true)
    (hn : findIn K (.ref C) "__ne__" = some (some (.builtin "object.__ne__"))) (hr : findIn K (.ref C) "__eq__" = some (some (.ref f))) (hf : isFn K (.ref f) = true)
    (h : wpAny (model prog w) A.in1 (call (.ref f) [.ref x, .ref y]) (fun v s' => v = .bool true ∧ Q (.bool false) s') E s) : wpAny (model prog w) A (richCompare .NotEq (.ref x) (.ref y)) Q E s := by
  have one : wpAny (model prog w) A (tryCompare (.ref x) (cmpInfo .NotEq).2.1 (.ref y)) (fun r s' => ∃ v, r = some v ∧ Q v s') E s := by
    unfold tryCompare
    refine wpAny_bind (ifBound_b X I hn PySem.F.cmp_object.ne.bind (object_ne hu1 X I hm hr hf (wpAny_mono h (fun v s' hv => ?_) fun _ _ e => e)))
    exact ⟨hv.1, wpAny_pure ⟨_, rfl, hv.2⟩⟩
  unfold richCompare
  simp only [oneThing_ref]
  refine wpAny_holding (wpAny_bind (wpAny_cRoomFor hu ?_))
  refine wpAny_bind (I.type.here (wpAny_bind (J.type.here ?_)))
  rw [show (Value.ref C != Value.ref C) = false from by simp]
  simp only [Bool.false_eq_true, if_false]
  refine wpAny_bind (wpAny_pure ?_)
  simp only [Bool.false_eq_true, if_false]
  refine wpAny_bind (wpAny_mono one (fun r s' z => ?_) fun _ _ e => e)
  obtain ⟨v, rfl, hq⟩ := z
  exact wpAny_pure hq
end
/-! ### as a rule -/
section
variable {X : Cx} {n : Nat} {D : Eqv}
def rNeG (D : Eqv) : R2 := fun x y H Q => D x y H ∧ ∀ H', Ext H H' → Q (.bl false) H'
theorem op_neG {CX : CXT} {C f : Addr} {fd : FuncData} {ps : List Str} {R : Addr → Addr → Hp → Prop} {E : XK} (F : FnOk X.prog X.w X.K X.mg X.base CX n f fd ps (spEq R))
    (hs : PySem.W.findIn X.K (.ref C) "__eq__" = some (some (.ref f))) (hf : PySem.W.isFn X.K (.ref f) = true) (hb : Binds X.K fd ps []) (hx : Passes CX X E)
    (hm : mroIn X.K C (.type "object") = some true) (hn : findIn X.K (.ref C) "__ne__" = some (some (.builtin "object.__ne__"))) (hr : Room (n + 1) X.A) : OpR X (compareOp .NotEq) (rNeG (DIns C R)) := by
  intro pins s σ H x y u v Q I rx ry hq
  obtain ⟨⟨a, b, dx, dy, fs, gs, rfl, rfl, ha, hb', hR⟩, q⟩ := hq
  cases rx
  cases ry
  obtain ⟨mA, J, _⟩ := ins_get I.hok ha
  obtain ⟨mB, J', _⟩ := ins_get I.hok hb'
  obtain ⟨od, J, _⟩ := J.look
  obtain ⟨od', J', _⟩ := J'.look
  show wpAny (model X.prog X.w) X.A (richCompare .NotEq (.ref a) (.ref b)) (EP X pins σ Q) X.xe s
  refine ne_K hr.units0 hr.in1.units0 I.kIn J J' hm hn hs hf ?_
  have hsp : spEq R [.ref a, .ref b] H (fun v H' => v = .bl true ∧ Ext H H') E := ⟨a, b, rfl, hR, fun H' e => ⟨rfl, e⟩⟩
  have e0 : Env0 X.prog X.w X.K X.mg X.base X.A.in1 X.stack s H := by
    have e := I.env0
    exact ⟨e.frames, e.mod, e.bs, e.bsz, e.funs, e.frf, e.hok, e.bare⟩
  have hl := F.len _ _ _ _ hsp
  have r2 : Vals [V.ref a, V.ref b] [Value.ref a, Value.ref b] := .cons rfl (.cons rfl .nil)
  refine wpAny_call (codeAny_mono (F.run X.A.in1 X.stack s H ⟨[.ref a, .ref b], []⟩ [.ref a, .ref b] [.ref a, .ref b] _ E hr.in1 e0 (by
    have := hb s [.ref a, .ref b] I.kIn (by simpa using hl)
    simpa using this) r2 hsp) fun r s' hq => ?_)
  cases r with
  | error e => exact hx pins σ H s e s' I hq
  | ok fl =>
    cases fl with
    | ret w =>
      obtain ⟨z, H', I', rz, ez, ex⟩ := I.after hq
      subst ez
      cases rz
      exact ⟨rfl, .bl false, H', I', rfl, q H' ex⟩
    | next => exact False.elim hq
    | brk => exact False.elim hq
    | cont => exact False.elim hq
end
/-! ### == and != of data with a Lean type -/
def rEqT (K : PySem.W.Frag) (α : Type) [DecidableEq α] [Datum α] : R2 := fun x y H Q => ∃ a b : α, Dp K H x (Datum.toD a) ∧ Dp K H y (Datum.toD b) ∧ Q (.bl (decide (a = b))) H
def rNeT (K : PySem.W.Frag) (α : Type) [DecidableEq α] [Datum α] : R2 := fun x y H Q => ∃ a b : α, Dp K H x (Datum.toD a) ∧ Dp K H y (Datum.toD b) ∧ Q (.bl (!decide (a = b))) H
section
variable {X : Cx} {α : Type} [DecidableEq α] [Datum α] {K : PySem.W.Frag}
theorem op_eqT (hu : X.A.units + 64 < cLine) (hd : Datum.depth α ≤ 60) (hK : X.K = K := by rfl) : OpR X (compareOp .Eq) (rEqT K α) := by
  subst hK
  intro pins s σ H x y u v Q I rx ry h
  obtain ⟨a, b, ha, hb, q⟩ := h
  obtain ⟨as, r1⟩ := Dp.reads I _ x u ha rx
  obtain ⟨bs, r2⟩ := Dp.reads I _ y v hb ry
  exact eq_datum (x := a) (y := b) ⟨as, r1⟩ ⟨bs, r2⟩ (by omega) ⟨.bl _, H, I, rfl, q⟩
theorem op_neT (hu : X.A.units + 64 < cLine) (hd : Datum.depth α ≤ 60) (hK : X.K = K := by rfl) : OpR X (compareOp .NotEq) (rNeT K α) := by
  subst hK
  intro pins s σ H x y u v Q I rx ry h
  obtain ⟨a, b, ha, hb, q⟩ := h
  obtain ⟨as, r1⟩ := Dp.reads I _ x u ha rx
  obtain ⟨bs, r2⟩ := Dp.reads I _ y v hb ry
  rw [← decide_not] at q
  exact ne_datum (x := a) (y := b) ⟨as, r1⟩ ⟨bs, r2⟩ (by omega) ⟨.bl _, H, I, rfl, q⟩
def rInT (K : PySem.W.Frag) (α : Type) [DecidableEq α] [Datum α] : R2 := fun x y H Q => ∃ (b : Bool) (a : Addr) (zs : List V) (k : α) (xs : List α), y = .ref a ∧ Dp K H x (Datum.toD k) ∧ SqA K H b a zs ∧ Paired (fun v z => Dp K H v (Datum.toD z)) zs xs ∧ Q (.bl (decide (k ∈ xs))) H
theorem holdAll_of {h : Heap} {K : PySem.W.Frag} {H : Hp} {zs : List V} {xs : List α} (p : Paired (fun v z => Dp K H v (Datum.toD z)) zs xs) (hr : ∀ (v : V) (z : α) (u : Value), Dp K H v (Datum.toD z) → RelV v u → ∃ as, Reads h u (Datum.toD z) as) : ∀ {us : List Value}, Vals zs us → HoldAll h us xs := by
  induction p with
  | nil => intro us r; cases r; exact ⟨[], .nil⟩
  | cons h1 _ ih =>
    intro us r
    cases r with
    | cons r1 r2 =>
      obtain ⟨as, q1⟩ := hr _ _ _ h1 r1
      obtain ⟨bs, q2⟩ := ih r2
      exact ⟨_, .cons q1 q2⟩
theorem op_inT (hu : X.A.units + 64 < cLine) (hd : Datum.depth α ≤ 60) (hK : X.K = K := by rfl) : OpR X (compareOp .In) (rInT K α) := by
  subst hK
  intro pins s σ H x y u v Q I rx ry h
  obtain ⟨b, a, zs, k, xs, rfl, hk, hs, hp, q⟩ := h
  obtain ⟨as, r1⟩ := Dp.reads I _ x u hk rx
  cases ry
  obtain ⟨us, rv, hsrc, _, _⟩ := inv_src I hs
  have H2 : HoldAll s.heap us xs := holdAll_of hp (fun v z u h r => Dp.reads I _ v u h r) rv
  cases b with
  | true => exact in_list_datum (xs := xs) (x := k) hsrc (by simpa using H2) ⟨as, r1⟩ (by omega) ⟨.bl _, H, I, rfl, q⟩
  | false => exact in_tuple_datum (xs := xs) (x := k) hsrc (by simpa using H2) ⟨as, r1⟩ (by omega) ⟨.bl _, H, I, rfl, q⟩
end
end K91
/-! P7 -/
namespace K91
open PySem PySem.Spec PyProof.Rows L2
open C8 (InsC call_isC pss_cut)
theorem insB_ok {K : PySem.W.Frag} {C : Addr} (hc : Cls K C) (h : insB K C = true) : InsC K C := by
  unfold insB at h
  simp only [Bool.and_eq_true, decide_eq_true_eq] at h
  obtain ⟨h1, h2, h3, h4, h5⟩ := h
  exact ⟨hc, He.eqO_ok h1, He.eqO_ok h2, h3, h4, h5⟩
section
variable {w : World} {K : PySem.W.Frag} {mg : Str → Option Value} {base : Heap}
theorem ex_parts (C : Fx w K mg base) : insB K (He.ga K "Table") = true ∧ insB K (He.ga K "Row") = true ∧ insB K (He.ga K "Version") = true ∧ neB K (He.ga K "Table") = true ∧ neB K (He.ga K "Row") = true ∧ neB K (He.ga K "Version") = true ∧ PySem.W.selfFirst K (He.ga K "Row") = true ∧
    cmB K (He.ga K "Row") "read" = true ∧ cmB K (He.ga K "Version") "of" = true ∧ He.valsB K (He.ga K "SHORT_STEPS") [("exchange", .glo "exchange"), ("melt", .glo "melt"), ("drop", .glo "drop")] = true ∧ He.valsB K (He.ga K "LONG_STEPS") [("split", .glo "split"), ("put", .glo "put")] = true := by
  have h := C.e
  unfold exB at h
  simpa only [Bool.and_eq_true] using h
theorem Fx.ins_Table (C : Fx w K mg base) : InsC K (He.ga K "Table") := insB_ok C.c_Table (ex_parts C).1
theorem Fx.ins_Row (C : Fx w K mg base) : InsC K (He.ga K "Row") := insB_ok C.c_Row (ex_parts C).2.1
theorem Fx.ins_Version (C : Fx w K mg base) : InsC K (He.ga K "Version") := insB_ok C.c_Version (ex_parts C).2.2.1
theorem Fx.ne_Table (C : Fx w K mg base) : PySem.W.findIn K (.ref (He.ga K "Table")) "__ne__" = some (some (.builtin "object.__ne__")) := He.eqO_ok (ex_parts C).2.2.2.1
theorem Fx.ne_Row (C : Fx w K mg base) : PySem.W.findIn K (.ref (He.ga K "Row")) "__ne__" = some (some (.builtin "object.__ne__")) := He.eqO_ok (ex_parts C).2.2.2.2.1
theorem Fx.ne_Version (C : Fx w K mg base) : PySem.W.findIn K (.ref (He.ga K "Version")) "__ne__" = some (some (.builtin "object.__ne__")) := He.eqO_ok (ex_parts C).2.2.2.2.2.1
end
/-! ### in_pair -/
def ltS (a b : Str) : Bool := decide (a.cps.toList < b.cps.toList)
def pairF (a b : Str) : Str × Str := if ltS a b = true then (a, b) else (b, a)
section
variable {P : Program} {w : World} {K : PySem.W.Frag} {mg : Str → Option Value} {base : Heap}
def spInPair (K : PySem.W.Frag) : Sp := fun vs H Q _ => ∃ a b, vs = [.str a, .str b] ∧ ∀ p, H p = none → Q (.ref p) (upd H p (.tup [.str (pairF a b).1, .str (pairF a b).2]))
theorem ok_in_pair (C : Fx w K mg base) : FnOk P w K mg base CX0 1 (a_in_pair K) (fdA K (a_in_pair K)) ["one", "other"] (spInPair K) := by
  refine (F_in_pair C).ok S_in_pair (fun vs H Q E h => ?_) (fun cdv A outer s H vs Q E hr h => ?_)
  · obtain ⟨a, b, rfl, _⟩ := h
    rfl
  · obtain ⟨a, b, rfl, q⟩ := h
    refine ⟨_, (pss_one (ps_ret (pe_ifExp (pt_cmpR op_lt_str (pv 0) (pv 1) (nomark _)) (pe_tup (pa_cons (pv 0) (pa_cons (pv 1) pa_nil))) (pe_tup (pa_cons (pv 1) (pa_cons (pv 0) pa_nil)))))), ?_⟩
    refine ⟨_, rfl, _, rfl, _, _, rfl, rfl, _, rfl, ?_⟩
    unfold pairF ltS at q
    refine ite2 (fun c => ?_) (fun c => ?_)
    · refine ⟨_, rfl, _, rfl, by show 2 ≤ sizeLine; decide, fun p hp => ?_⟩
      rw [if_pos c] at q
      exact q p hp
    · refine ⟨_, rfl, _, rfl, by show 2 ≤ sizeLine; decide, fun p hp => ?_⟩
      rw [if_neg c] at q
      exact q p hp
theorem D_in_pair (C : Fx w K mg base) : Dn P w K mg base 1 (a_in_pair K) (fdA K (a_in_pair K)) ["one", "other"] (spInPair K) "in_pair" := ⟨ok_in_pair C, C.g_in_pair, (F_in_pair C).kp, B_in_pair C⟩
/-! ### check_known -/
def spKnown (K : PySem.W.Frag) : Sp := fun vs H Q _ => ∃ (p : Addr) (ks : List Str) (b : Bool) (a : Addr) (ns : List Str), vs = [.ref p, .ref a] ∧ SqT K H p (ks.map V.str) ∧ SqA K H b a (ns.map V.str) ∧ (∀ n ∈ ns, n ∈ ks) ∧ Q .non H
theorem ok_check_known (C : Fx w K mg base) : FnOk P w K mg base CX0 1 (a_check_known K) (fdA K (a_check_known K)) ["kinds", "names"] (spKnown K) := by
  refine (F_check_known C).ok S_check_known (fun vs H Q E h => ?_) (fun cdv A outer s H vs Q E hr h => ?_)
  · obtain ⟨p, ks, b, a, ns, rfl, _⟩ := h
    rfl
  · obtain ⟨p, ks, b, a, ns, rfl, hp, ha, hk, q⟩ := h
    refine ⟨_, (pss_one (ps_for PassesOwn.never rfl (pi_any (pv 1)) (pg_name (i := 2) S_check_known.nd rfl (Or.inl rfl))
        (pss_one (ps_if (pt_cmpR op_notIn_seq (pv 2) (pv 0) (by rfl))
          (pss_one ps_never)
          pss_nil)))), ?_⟩
    refine ⟨_, rfl, b, a, _, rfl, ha, ?_⟩
    refine for_any (fun i σ H' => ∃ v, σ = [some (.ref p), some (.ref a), v] ∧ H' = H) ⟨none, rfl, rfl⟩ (fun i σ H' _ ⟨_, _, e⟩ => by rw [e]; exact ha) ?_ ?_
    · rintro i x σ H' hx ⟨v, rfl, rfl⟩
      rw [List.getElem?_map] at hx
      obtain ⟨n, hn, rfl⟩ := Option.map_eq_some_iff.mp hx
      have hin : inV (.str n) (ks.map V.str) = true := by
        rw [inV_strs]
        exact decide_eq_true (hk n (List.mem_of_getElem? hn))
      refine ⟨_, rfl, _, rfl, p, _, rfl, .inr hp, rfl, all_strs, _, rfl, ?_⟩
      rw [hin]
      exact iteF ⟨_, rfl, rfl⟩
    · rintro σ H' ⟨v, rfl, rfl⟩
      exact q
theorem D_check_known (C : Fx w K mg base) : Dn P w K mg base 1 (a_check_known K) (fdA K (a_check_known K)) ["kinds", "names"] (spKnown K) "check_known" := ⟨ok_check_known C, C.g_check_known, (F_check_known C).kp, B_check_known C⟩
theorem nodup_ne {α : Type} : ∀ {l : List α}, l.Nodup → ∀ {i j : Nat} {x : α}, j < i → l[j]? = some x → l[i]? = some x → False
  | y :: l, h, i, 0, x, hij, h1, h2 => by
    obtain ⟨i, rfl⟩ : ∃ k, i = k + 1 := ⟨i - 1, by omega⟩
    have e1 : y = x := by simpa using h1
    have e2 : x ∈ l := List.mem_of_getElem? (by simpa using h2)
    rw [← e1] at e2
    exact (List.nodup_cons.mp h).1 e2
  | y :: l, h, i, j + 1, x, hij, h1, h2 => by
    obtain ⟨i, rfl⟩ : ∃ k, i = k + 1 := ⟨i - 1, by omega⟩
    have h1' : l[j]? = some x := h1
    have h2' : l[i]? = some x := h2
    exact nodup_ne (List.nodup_cons.mp h).2 (by omega) h1' h2'
/-! ### check_kinds -/
def spKinds (K : PySem.W.Frag) : Sp := fun vs H Q _ => ∃ (a : Addr) (ks : List Str), vs = [.ref a] ∧ SqL K H a (ks.map V.str) ∧ 0 < ks.length ∧ ks.length ≤ 12 ∧ (∀ k ∈ ks, NameOk k) ∧ ks.Nodup ∧ ∀ H', Evl.Ex H H' → Q .non H'
theorem ok_check_kinds (C : Fx w K mg base) : FnOk P w K mg base CX0 2 (a_check_kinds K) (fdA K (a_check_kinds K)) ["kinds"] (spKinds K) := by
  refine (F_check_kinds C).ok S_check_kinds (fun vs H Q E h => ?_) (fun cdv A outer s H vs Q E hr h => ?_)
  · obtain ⟨a, ks, rfl, _⟩ := h
    rfl
  · obtain ⟨a, ks, rfl, ha, h1, h2, hok, hnd, q⟩ := h
    obtain ⟨tL, hL⟩ := C.i_MOST_KINDS
    refine ⟨_, (pss_cons (ps_if (pt_not (pt_chain op_lt op_le pe_int (pe_callB call_len_seq (by rfl) C.z_len (by decide +kernel) (pa_cons (pv 0) pa_nil)) (pe_glob (v := .int 12) rfl hL ⟨_, rfl⟩)))
        (pss_one ps_never)
        pss_nil)
      (pss_one (ps_for PassesOwn.never rfl (pi_enumA (by rfl) C.z_enumerate (pa_cons (pv 0) pa_nil)) (pg_tup rfl (pgs_cons (pg_name (i := 1) S_check_kinds.nd rfl (Or.inl rfl)) (pgs_cons (pg_name (i := 2) S_check_kinds.nd rfl (Or.inl rfl)) pgs_nil)))
        (pss_one (ps_if (PW.pt (pw_or (pt_not (pt_val (pe_cd (D_is_name C) (hr.mono (by decide)) (pa_cons (pv 2) pa_nil)))) (pw_or1 (pt_cmpR op_in_seq (pv 2) (pe_slice sl_list (pv 0) po_none (po_some (pv 1))) (by rfl)))))
          (pss_one ps_never)
          pss_nil))))), ?_⟩
    have hlen : (ks.map V.str).length = ks.length := List.length_map ..
    refine ⟨_, rfl, a, _, rfl, .inl ha, (0 : Int), ((ks.map V.str).length : Int), rfl, rfl, _, rfl, ?_⟩
    rw [hlen, show decide ((0 : Int) < (ks.length : Int)) = true from decide_eq_true (by omega)]
    refine iteT ⟨_, _, rfl, rfl, _, rfl, ?_⟩
    rw [show decide ((ks.length : Int) ≤ 12) = true from decide_eq_true (by omega)]
    refine iteF ?_
    refine ⟨_, rfl, true, a, _, rfl, ha, ?_⟩
    refine for_enumA (fun i σ H' => ∃ v1 v2, σ = [some (.ref a), v1, v2] ∧ Evl.Ex H H') ⟨none, none, rfl, Evl.Ex.refl _⟩ (fun i σ H' _ ⟨_, _, _, e⟩ => Evl.ex_l e ha) ?_ ?_
    · rintro i x W σ H' hx ⟨v1, v2, rfl, e⟩ hW
      rw [List.getElem?_map] at hx
      obtain ⟨n, hn, rfl⟩ := Option.map_eq_some_iff.mp hx
      have kW := ex_new (o := .tup [.int (i : Nat), .str n]) hW
      have hil : i < ks.length := (List.getElem?_eq_some_iff.mp hn).1
      refine ⟨W, _, rfl, t_of (upd_same ..), rfl, _, _, rfl, _, _, rfl, rfl, ?_⟩
      refine ⟨_, rfl, n, rfl, hok n (List.mem_of_getElem? hn), fun H2 e2 => ⟨true, rfl, ?_⟩⟩
      refine iteF ?_
      have e3 := Evl.Ex.trans (Evl.Ex.trans e kW) e2
      refine ⟨_, rfl, _, rfl, _, rfl, (i : Int), rfl, a, _, rfl, Evl.ex_l e3 ha, fun p hp => ?_⟩
      have hcut : cutV (ks.map V.str) none (some (i : Int)) = (ks.take i).map V.str := by
        unfold cutV
        rw [HT.sIx_none, show HT.sIx (ks.map V.str).length (ks.map V.str).length (some ((i : Nat) : Int)) = min i (ks.map V.str).length from HT.sIx_nat _ _ i, List.drop_zero, Nat.sub_zero, hlen, Nat.min_eq_left (by omega), List.map_take]
      have hin : inV (.str n) (cutV (ks.map V.str) none (some (i : Int))) = false := by
        rw [hcut, inV_strs]
        refine decide_eq_false fun hm => ?_
        obtain ⟨j, hj⟩ := List.getElem?_of_mem hm
        rw [List.getElem?_take] at hj
        split at hj
        · rename_i hji
          exact nodup_ne hnd hji hj hn
        · cases hj
      refine ⟨p, _, rfl, .inl (l_of (upd_same ..)), rfl, by rw [hcut]; exact all_strs, _, rfl, ?_⟩
      rw [hin]
      exact iteF ⟨_, _, rfl, Evl.Ex.trans e3 (ex_new hp)⟩
    · rintro σ H' ⟨v1, v2, rfl, e⟩
      exact q H' e
theorem D_check_kinds (C : Fx w K mg base) : Dn P w K mg base 2 (a_check_kinds K) (fdA K (a_check_kinds K)) ["kinds"] (spKinds K) "check_kinds" := ⟨ok_check_kinds C, C.g_check_kinds, (F_check_kinds C).kp, B_check_kinds C⟩
/-! ### Table.__contains__ -/
def spTCont (K : PySem.W.Frag) : Sp := fun vs H Q _ => ∃ t T k, vs = [t, .str k] ∧ TabV K H t T ∧ Q (.bl (decide (k ∈ T.kinds))) H
theorem ok_Table_Dcontains (C : Fx w K mg base) : FnOk P w K mg base CX0 1 (a_Table_Dcontains K) (fdA K (a_Table_Dcontains K)) ["self", "name"] (spTCont K) := by
  refine (F_Table_Dcontains C).ok S_Table_Dcontains (fun vs H Q E h => ?_) (fun cdv A outer s H vs Q E hr h => ?_)
  · obtain ⟨t, T, k, rfl, _⟩ := h
    rfl
  · obtain ⟨t, T, k, rfl, hT, q⟩ := h
    obtain ⟨a, dx, pk, pp, pl, ps, lk, rfl, h2, h3, _⟩ := hT
    refine ⟨_, (pss_one (ps_ret (pe_cmpR op_in_seq (pv 1) (pe_fld (pv 0) rfl) (by rfl)))), ?_⟩
    refine ⟨_, rfl, _, rfl, a, _, dx, _, _, rfl, h2, C.c_Table, C.n_Table_kinds, rfl, pk, _, rfl, .inr h3, rfl, all_strs, ?_⟩
    rw [inV_strs]
    exact q
/-! ### Table.__eq__ -/
theorem kinds_dp {K : PySem.W.Frag} {H : Hp} : ∀ {ks : List Str}, DpAll K H (ks.map V.str) (ks.map PyData.str)
  | [] => .nil
  | k :: ks => .cons (.str k) kinds_dp
theorem pairs_dp {K : PySem.W.Frag} {H : Hp} : ∀ {vs : List V} {ps : List (Str × Str)}, Paired (PrT K H) vs ps → DpAll K H vs (ps.map fun y => PyData.tuple [.str y.1, .str y.2])
  | _, _, .nil => .nil
  | _, _, .cons ⟨p, e, h⟩ t => by
    subst e
    exact .cons (.tup h (.cons (.str _) (.cons (.str _) .nil))) (pairs_dp t)
/-- two table objects say the same -/
def TabE (K : PySem.W.Frag) (a b : Addr) (H : Hp) : Prop := ∃ T, TabV K H (.ref a) T ∧ TabV K H (.ref b) T
theorem ok_Table_Deq (C : Fx w K mg base) : FnOk P w K mg base CX0 1 (a_Table_Deq K) (fdA K (a_Table_Deq K)) ["self", "other"] (spEq (TabE K)) := by
  refine (F_Table_Deq C).ok S_Table_Deq (fun vs H Q E h => ?_) (fun cdv A outer s H vs Q E hr h => ?_)
  · obtain ⟨a, b, rfl, _⟩ := h
    rfl
  · obtain ⟨a, b, rfl, ⟨T, hT, hU⟩, q⟩ := h
    obtain ⟨a', dx, pk, pp, pl, ps, lk, e, h2, h3, h4, h5, h6, h7⟩ := hT
    cases e
    obtain ⟨b', dx', pk', pp', pl', ps', lk', e, g2, g3, g4, g5, g6, g7⟩ := hU
    cases e
    refine ⟨_, (pss_one (ps_ret (pe_and (pe_callB (call_isC C.ins_Table) (by rfl) C.z_isinstance (by decide +kernel) (pa_cons (pv 1) (pa_cons (pe_glob (v := .ref (He.ga K "Table")) rfl C.g_Table rfl) pa_nil)))
      (pe_and (pe_cmpR (op_eqT (α := PySem.W.Tup Str) hr.units (by decide)) (pe_fld (pv 0) rfl) (pe_fld (pv 1) rfl) (nomark _)) (pe_one (pe_cmpR (op_eqT (α := PySem.W.Tup (Str × Str)) hr.units (by decide)) (pe_fld (pv 0) rfl) (pe_fld (pv 1) rfl) (nomark _))))))), ?_⟩
    refine ⟨_, rfl, _, dx', _, rfl, g2, true, rfl, iteT ?_⟩
    refine ⟨_, rfl, a, _, dx, _, _, rfl, h2, C.c_Table, C.n_Table_kinds, rfl, _, rfl, b, _, dx', _, _, rfl, g2, C.c_Table, C.n_Table_kinds, rfl, ⟨T.kinds⟩, ⟨T.kinds⟩, .tup h3 kinds_dp, .tup g3 kinds_dp, true, congrArg V.bl (decide_eq_true rfl), iteT ?_⟩
    refine ⟨_, rfl, a, _, dx, _, _, rfl, h2, C.c_Table, C.n_Table_pairs, rfl, _, rfl, b, _, dx', _, _, rfl, g2, C.c_Table, C.n_Table_pairs, rfl, ⟨T.prs⟩, ⟨T.prs⟩, .tup h4 (pairs_dp h5), .tup g4 (pairs_dp g5), ?_⟩
    rw [decide_eq_true rfl]
    exact q H (fun _ _ z => z)
end
end K91
/-! ME -/
namespace K91
open PySem PySem.Spec PyProof.Rows L2 PySem.W
theorem str_ext {a b : Str} (h : a.cps.toList = b.cps.toList) : a = b := by
  obtain ⟨a⟩ := a
  obtain ⟨b⟩ := b
  exact congrArg Str.mk (Array.toList_inj.mp h)
theorem nl_irr (a : List Nat) : ¬ a < a := List.lt_irrefl a
theorem nl_tri (a b : List Nat) (h : ¬ a < b) (h' : ¬ b < a) : a = b := List.le_antisymm (List.not_lt.mp h') (List.not_lt.mp h)
theorem nl_asymm {a b : List Nat} (h : a < b) : ¬ b < a := List.lt_asymm h
theorem ltS_tri {a b : Str} (h : ltS a b = false) (h' : ltS b a = false) : a = b := str_ext (nl_tri _ _ (of_decide_eq_false h) (of_decide_eq_false h'))
theorem ltS_asymm {a b : Str} (h : ltS a b = true) : ltS b a = false := decide_eq_false (nl_asymm (of_decide_eq_true h))
theorem pairF_comm (a b : Str) : pairF a b = pairF b a := by
  unfold pairF
  cases h : ltS a b with
  | true => rw [ltS_asymm h]; rfl
  | false =>
    cases h' : ltS b a with
    | true => rfl
    | false => rw [ltS_tri h h']
theorem pairF_or (a b : Str) : pairF a b = (a, b) ∨ pairF a b = (b, a) := by
  unfold pairF
  split
  · exact .inl rfl
  · exact .inr rfl
/-- free by a list of pairs -/
def frL (prs : List (Str × Str)) (a b : Str) : Bool := decide ((a, b) ∈ prs ∨ (b, a) ∈ prs)
theorem frL_comm (prs : List (Str × Str)) (a b : Str) : frL prs a b = frL prs b a := decide_eq_decide.mpr Or.comm
/-- the ascending pair is among the ascending pairs -/
theorem frL_pair (prs : List (Str × Str)) (a b : Str) : (∃ p ∈ prs, [(pairF a b).1, (pairF a b).2] = [(pairF p.1 p.2).1, (pairF p.1 p.2).2]) ↔ frL prs a b = true := by
  rw [frL, decide_eq_true_eq]
  constructor
  · rintro ⟨⟨c, d⟩, hp, h⟩
    have h' : pairF a b = pairF c d := by
      simp only [List.cons.injEq, and_true] at h
      exact Prod.ext h.1 h.2
    rcases pairF_or a b with e | e <;> rcases pairF_or c d with e' | e' <;> rw [e, e'] at h' <;> cases h'
    · exact .inl hp
    · exact .inr hp
    · exact .inr hp
    · exact .inl hp
  · rintro (h | h)
    · exact ⟨_, h, rfl⟩
    · exact ⟨_, h, by rw [pairF_comm]⟩
theorem linStr : Lin (leD Str) where
  total a b := by
    show (!decide (b.cps.toList < a.cps.toList) || !decide (a.cps.toList < b.cps.toList)) = true
    by_cases h : b.cps.toList < a.cps.toList
    · rw [decide_eq_false (nl_asymm h)]; simp
    · rw [decide_eq_false h]; rfl
  trans a b c h1 h2 := by
    have h1' : ¬ b.cps.toList < a.cps.toList := of_decide_eq_false (by simpa [leD, DatumOrd.lt] using h1)
    have h2' : ¬ c.cps.toList < b.cps.toList := of_decide_eq_false (by simpa [leD, DatumOrd.lt] using h2)
    have : ¬ c.cps.toList < a.cps.toList := List.not_lt.mpr (List.le_trans (List.not_lt.mp h1') (List.not_lt.mp h2'))
    show (!decide (c.cps.toList < a.cps.toList)) = true
    rw [decide_eq_false this]
    rfl
  anti a b h1 h2 := by
    have h1' : ¬ b.cps.toList < a.cps.toList := of_decide_eq_false (by simpa [leD, DatumOrd.lt] using h1)
    have h2' : ¬ a.cps.toList < b.cps.toList := of_decide_eq_false (by simpa [leD, DatumOrd.lt] using h2)
    exact str_ext (nl_tri _ _ h2' h1')
theorem linInt : Lin (leD Int) where
  total a b := by
    show (!decide (b < a) || !decide (a < b)) = true
    by_cases h : b < a
    · rw [decide_eq_false (show ¬ a < b by omega)]; simp
    · rw [decide_eq_false h]; rfl
  trans a b c h1 h2 := by
    have h1' : ¬ b < a := of_decide_eq_false (by simpa [leD, DatumOrd.lt] using h1)
    have h2' : ¬ c < b := of_decide_eq_false (by simpa [leD, DatumOrd.lt] using h2)
    show (!decide (c < a)) = true
    rw [decide_eq_false (show ¬ c < a by omega)]
    rfl
  anti a b h1 h2 := by
    have h1' : ¬ b < a := of_decide_eq_false (by simpa [leD, DatumOrd.lt] using h1)
    have h2' : ¬ a < b := of_decide_eq_false (by simpa [leD, DatumOrd.lt] using h2)
    omega
theorem linPair {α β : Type} [DecidableEq α] [DatumOrd α] [DecidableEq β] [DatumOrd β] (LA : Lin (leD α)) (LB : Lin (leD β)) : Lin (leD (α × β)) := by
  have ea : ∀ x y : α, leD α x y = !DatumOrd.lt y x := fun _ _ => rfl
  have eb : ∀ x y : β, leD β x y = !DatumOrd.lt y x := fun _ _ => rfl
  have e : ∀ p q : α × β, leD (α × β) p q = if p.1 = q.1 then leD β p.2 q.2 else leD α p.1 q.1 := fun p q => by
    show (!(if q.1 = p.1 then DatumOrd.lt q.2 p.2 else DatumOrd.lt q.1 p.1)) = _
    by_cases h : p.1 = q.1
    · rw [if_pos h, if_pos h.symm]; rfl
    · rw [if_neg h, if_neg (fun z => h z.symm)]; rfl
  refine ⟨fun p q => ?_, fun p q r h1 h2 => ?_, fun p q h1 h2 => ?_⟩
  · rw [e, e]
    by_cases h : p.1 = q.1
    · rw [if_pos h, if_pos h.symm]; exact LB.total _ _
    · rw [if_neg h, if_neg (fun z => h z.symm)]; exact LA.total _ _
  · rw [e] at h1 h2 ⊢
    by_cases h : p.1 = q.1
    · rw [if_pos h] at h1
      by_cases h' : q.1 = r.1
      · rw [if_pos h'] at h2
        rw [if_pos (h.trans h')]
        exact LB.trans _ _ _ h1 h2
      · rw [if_neg h'] at h2
        rw [if_neg (fun z => h' (h.symm.trans z)), h]
        exact h2
    · rw [if_neg h] at h1
      by_cases h' : q.1 = r.1
      · rw [if_neg (fun z => h (z.trans h'.symm)), ← h']
        exact h1
      · rw [if_neg h'] at h2
        by_cases h3 : p.1 = r.1
        · rw [← h3] at h2
          exact absurd (LA.anti _ _ h1 h2) h
        · rw [if_neg h3]
          exact LA.trans _ _ _ h1 h2
  · rw [e] at h1 h2
    by_cases h : p.1 = q.1
    · rw [if_pos h] at h1
      rw [if_pos h.symm] at h2
      exact Prod.ext h (LB.anti _ _ h1 h2)
    · rw [if_neg h] at h1
      rw [if_neg (fun z => h z.symm)] at h2
      exact absurd (LA.anti _ _ h1 h2) h
theorem linSyl : Lin leS := linPair linStr linInt
end K91
/-! R5 -/
/-! sets of pairs of texts: what a search meets is told first, as a row of places; the walk then goes down that row -/
namespace K91
open PySem PySem.Spec PyProof.Rows L2
/-! ### plain: the places that a search meets -/
/-- from the probe p on the places `is` have the hash asked for, one behind the other; behind them stands the free slot z -/
inductive Meets (t : SetTable) (ha : Nat → Int) (h : Int) (z : Nat) : SetTable.Probe → List Nat → Prop where
  | free {p : SetTable.Probe} : t.probe ha h p = some (.empty z none) → Meets t ha h z p []
  | same {p p' : SetTable.Probe} {j i : Nat} {is : List Nat} : t.probe ha h p = some (.candidate j i p') → t.place.toList[i]? = some j → Meets t ha h z p' is → Meets t ha h z p (i :: is)
theorem adv_clear {m : Nat} : ∀ (n : Nat) (p : SetTable.Probe), p.dummy = none → (nth m p n).dummy = none
  | 0, _, h => h
  | n + 1, p, h => adv_clear n (adv m p) (by unfold adv; split <;> exact h)
theorem meets_from {t : SetTable} (ris : Ris t.place.toList) (dm : t.dummies = #[]) (ha : Nat → Int) (h : Int) {N : Nat} (small : N < 10 * SetTable.turns t.mask) (free : way t.mask h N ∉ t.place.toList) (full : ∀ c, c < N → way t.mask h c ∈ t.place.toList) (c : Nat) (le : c ≤ N) :
    ∃ is, Meets t ha h (way t.mask h N) (nth t.mask (t.probeStart h) c) is ∧ is.length ≤ N - c ∧ ∀ i b, c ≤ b → b < N → t.place.toList[i]? = some (way t.mask h b) → ha i = h → i ∈ is := by
  generalize hd : N - c = d
  induction d using Nat.strongRecOn generalizing c with
  | ind d ih =>
    have at_ : ∀ q, (nth t.mask (nth t.mask (t.probeStart h) c) q).j = way t.mask h (c + q) := fun q => by rw [← nth_add]; rfl
    have ans := go_spec t ris dm ha h (10 * SetTable.turns t.mask) d (nth t.mask (t.probeStart h) c) (adv_clear c _ rfl) (by omega) (fun q hq => (at_ q).symm ▸ full (c + q) (by omega))
      (by rw [at_, ← hd, Nat.add_sub_cancel' le]; exact free)
    -- what stands between c and b is none of those passed over
    have off_ : ∀ (u : Nat), (∀ q i, q < u → t.place.toList[i]? = some (nth t.mask (nth t.mask (t.probeStart h) c) q).j → ha i ≠ h) → ∀ i b, c ≤ b → b < c + u → t.place.toList[i]? = some (way t.mask h b) → ha i ≠ h :=
      fun u pass i b h1 h2 h3 => pass (b - c) i (by omega) (by rw [at_, Nat.add_sub_cancel' h1]; exact h3)
    obtain hit | ⟨pass, e⟩ := ans
    rotate_left
    · refine ⟨[], .free ?_, Nat.zero_le _, fun i b h1 h2 h3 h4 => absurd h4 (off_ d pass i b h1 (by omega) h3)⟩
      rw [at_, ← hd, Nat.add_sub_cancel' le] at e
      exact e
    · obtain ⟨q, i, lt, place, _, pass, e⟩ := hit
      obtain ⟨is, m, l, all⟩ := ih (d - (q + 1)) (by omega) (c + (q + 1)) (by omega) (by omega)
      rw [nth_add] at m
      refine ⟨i :: is, .same e place m, by rw [List.length_cons]; omega, fun i' b h1 h2 h3 h4 => ?_⟩
      rcases Nat.lt_trichotomy b (c + q) with z | z | z
      · exact absurd h4 (off_ q pass i' b h1 z h3)
      · -- the same slot holds one place
        rw [at_, ← z] at place
        have one := (slot_live ris place).symm.trans (slot_live ris h3)
        injection one with one
        rw [one]
        exact List.mem_cons_self
      · exact List.mem_cons_of_mem _ (all i' b (by omega) h2 h3 h4)
/-- the whole search -/
theorem meets_all {t : SetTable} {hs : List Int} (T : TabOk t hs) (room : hs.length ≤ t.mask) (ha : Nat → Int) (told : ∀ i n : _, hs[i]? = some n → ha i = n) (h : Int) :
    ∃ N is, way t.mask h N ∉ t.place.toList ∧ (∀ c, c < N → way t.mask h c ∈ t.place.toList) ∧ Meets t ha h (way t.mask h N) (t.probeStart h) is ∧ is.length < 100000 ∧ ∀ i, hs[i]? = some h → i ∈ is := by
  obtain ⟨N, small, free, full⟩ := T.first room h
  obtain ⟨is, m, l, all⟩ := meets_from T.ris T.dm ha h small free full 0 (Nat.zero_le _)
  have big : 10 * SetTable.turns t.mask < 100000 := by
    unfold SetTable.turns
    obtain e | e | e := T.mok <;> rw [e] <;> decide
  refine ⟨N, is, free, full, m, by omega, fun i hi => ?_⟩
  have lt : i < t.place.toList.length := by
    rw [Array.length_toList, T.sz]
    exact (List.getElem?_eq_some_iff.mp hi).1
  obtain ⟨b, hb, e⟩ := T.before free hi (List.getElem?_eq_getElem lt)
  exact all i b (Nat.zero_le _) hb ((List.getElem?_eq_getElem lt).trans (congrArg some e.symm)) (told i h hi)
/-- a table that is too full for one more: how large it grows -/
theorem grows {m n : Nat} (hm : MaskOk m) (was : n * 5 < m * 3) (full : m * 3 ≤ (n + 1) * 5) (few : n + 1 < 64) : ∃ M, SetTable.sizeAbove (SetTable.grown (n + 1)) = M + 1 ∧ MaskOk M ∧ M < 128 ∧ (n + 1) * 5 < M * 3 ∧ n + 1 ≤ m := by
  have at_ : n = 4 ∧ m = 7 ∨ n = 18 ∧ m = 31 := by
    obtain rfl | rfl | rfl := hm <;> omega
  obtain ⟨rfl, rfl⟩ | ⟨rfl, rfl⟩ := at_
  · exact ⟨31, size_20, .inr (.inl rfl), by decide, by decide, by decide⟩
  · exact ⟨127, size_76, .inr (.inr rfl), by decide, by decide, by decide⟩
/-- places picked from a list, and what hangs at them -/
theorem picked {α β : Type} (f : α → β) (d : β) (l : List α) : ∀ is : List Nat, (∀ i ∈ is, i < l.length) → (is.filterMap (l[·]?)).map f = is.map fun i => ((l.map f)[i]?).getD d
  | [], _ => rfl
  | i :: is, lt => by
    have h0 := lt i List.mem_cons_self
    have e : l[i]? = some l[i] := List.getElem?_eq_getElem h0
    rw [List.filterMap_cons_some e, List.map_cons, List.map_cons, picked f d l is fun j hj => lt j (List.mem_cons_of_mem _ hj), List.getElem?_map, e]
    rfl
section
variable {G : Program} {w : World} {A : Around} {E : Value → Shared → Prop} {s : Shared}
/-! ### questions that leave all as it was -/
/-- a loop of which each turn goes on and leaves all as it was -/
theorem loop_on {β : Type} {b : β} {p : Value → Prop} {f : Value → β → Sem (ForInStep β)} (turn : ∀ v, p v → ∀ R : ForInStep β → Shared → Prop, R (.yield b) s → wpAny (model G w) A (f v b) R E s) : ∀ vs : List Value, (∀ v ∈ vs, p v) → ∀ R : β → Shared → Prop, R b s → wpAny (model G w) A (forIn vs b f) R E s
  | [], _, _, r => wpAny_pure r
  | v :: vs, all, R, r => by
    rw [List.forIn_cons]
    exact wpAny_bind (turn v (all v List.mem_cons_self) _ (loop_on turn vs (fun u hu => all u (List.mem_cons_of_mem _ hu)) R r))
/-- a loop of which each turn leaves all as it was, and may end it -/
theorem loop_or {β : Type} {p : Value → Prop} {f : Value → β → Sem (ForInStep β)} (turn : ∀ v b, p v → ∀ R : ForInStep β → Shared → Prop, (∀ r, R r s) → wpAny (model G w) A (f v b) R E s) : ∀ (vs : List Value) (b : β), (∀ v ∈ vs, p v) → ∀ R : β → Shared → Prop, (∀ r, R r s) → wpAny (model G w) A (forIn vs b f) R E s
  | [], _, _, _, r => wpAny_pure (r _)
  | v :: vs, b, all, R, r => by
    rw [List.forIn_cons]
    refine wpAny_bind (turn v b (all v List.mem_cons_self) _ fun z => ?_)
    cases z with
    | done _ => exact wpAny_pure (r _)
    | yield b' => exact loop_or turn vs b' (fun u hu => all u (List.mem_cons_of_mem _ hu)) R r
abbrev pH (G : Program) (w : World) (k : List Str) : Int := tupleKeyHash (strKind G w) k
abbrev IsP (G : Program) (w : World) (h : Heap) (k : List Str) (b : Addr) : Prop := IsTupleKey (strKind G w) h k b
def AText (v : Value) : Prop := ∃ x u, v = Value.str x u
theorem all_texts : ∀ {k : List Str} {us : List Value}, ItemsAre (strKind G w) k us → ∀ u ∈ us, AText u
  | _, _, .nil, _, hu => nomatch hu
  | _, _, .cons h hs, u, hu => (List.mem_cons.mp hu).elim (fun e => let ⟨tk, z⟩ := Value.isStrOf_shape h; ⟨_, tk, e.trans z⟩) (all_texts hs u)
theorem noCls {k : List Str} {b : Addr} {R : Bool → Shared → Prop} (hk : IsP G w s.heap k b) (r : R false s) : wpAny (model G w) A (ofAClassStatement 8 (.ref b)) R E s := by
  have ty := hk.typeIs
  obtain ⟨o, us, _, at_, _, dat, are⟩ := hk
  unfold ofAClassStatement
  refine wpAny_bind (wpAny_typeOf ty ?_)
  have e : (("tuple" : String) == "tuple") = true := by decide
  simp only [e, if_true, Bool.not_true, Bool.false_eq_true, if_false]
  try refine wpAny_bind (wpAny_pure ?_)
  try simp only [Bool.not_true, Bool.false_eq_true, if_false]
  show wpAny _ _ (seqItems? (.ref b) >>= _) _ _ s
  refine wpAny_bind (wpAny_seqItems at_ dat (wpAny_bind ?_))
  show wpAny _ _ (forIn us _ _) _ _ s
  rw [← Array.forIn_toList]
  refine loop_on (p := AText) (fun v hv R' r' => ?_) _ (all_texts are) _ (wpAny_pure r)
  obtain ⟨x, u, rfl⟩ := hv
  show wpAny _ _ ((pure false : Sem Bool) >>= _) _ _ s
  exact wpAny_bind (wpAny_pure (wpAny_pure r'))
/-- whether its hash is by value: any answer will do -/
theorem byVal {k : List Str} {b : Addr} {R : Bool → Shared → Prop} (hk : IsP G w s.heap k b) (r : ∀ c, R c s) : wpAny (model G w) A (hashByValue 8 (.ref b)) R E s := by
  have ty := hk.typeIs
  obtain ⟨o, us, _, at_, _, dat, are⟩ := hk
  unfold hashByValue
  refine wpAny_bind (wpAny_specialOf ty F.slot_tuple_hash.lookup ?_)
  show wpAny _ _ (seqItems? (.ref b) >>= _) _ _ s
  refine wpAny_bind (wpAny_seqItems at_ dat (wpAny_bind ?_))
  show wpAny _ _ (forIn us _ _) _ _ s
  rw [← Array.forIn_toList]
  refine loop_or (p := AText) (fun v b' hv R' r' => ?_) _ _ (all_texts are) _ fun z => ?_
  · obtain ⟨x, u, rfl⟩ := hv
    show wpAny _ _ ((pure false : Sem Bool) >>= _) _ _ s
    exact wpAny_bind (wpAny_pure (wpAny_pure (r' _)))
  · obtain ⟨z, _⟩ := z
    cases z <;> exact wpAny_pure (r _)
/-- a tuple of texts stands there -/
def ATup (G : Program) (w : World) (h : Heap) (v : Value) : Prop := ∃ k c, v = Value.ref c ∧ IsP G w h k c
theorem unseen {b : Addr} {kb : List Str} {R : Bool → Shared → Prop} (hkb : IsP G w s.heap kb b) {vs : List Value} (hv : ∀ v ∈ vs, ATup G w s.heap v) (r : R false s) : wpAny (model G w) A (searchCouldBeSeen (.ref b) vs) R E s := by
  unfold searchCouldBeSeen
  refine wpAny_bind (loop_on (p := ATup G w s.heap) (fun v hv R' r' => ?_) vs hv _ (wpAny_pure r))
  obtain ⟨kc, c, rfl, hkc⟩ := hv
  dsimp only
  cases carried : (b == c || (carriedByValue (.ref b) && carriedByValue (.ref c))) with
  | true => exact wp_if_pos rfl (wpAny_pure r')
  | false =>
    refine wp_if_neg (by decide) ?_
    refine wpAny_bind (wpAny_eqIsQuiet_tuple hkb ?_)
    simp only [Bool.not_true, Bool.false_eq_true, if_false]
    refine wpAny_bind (wpAny_eqIsQuiet_tuple hkc ?_)
    simp only [Bool.not_true, Bool.false_eq_true, if_false]
    refine wpAny_bind (noCls hkb ?_)
    simp only [Bool.false_eq_true, if_false]
    refine wpAny_bind (noCls hkc ?_)
    simp only [Bool.false_eq_true, if_false]
    exact wpAny_pure r'
/-! ### the set -/
def rowsP (G : Program) (w : World) (L : List (Addr × List Str)) : List (Int × Value) := L.map fun p => (pH G w p.2, Value.ref p.1)
/-- the rows of a set, its tuples L not looked at -/
structure SetR (G : Program) (w : World) (h : Heap) (a : Addr) (L : List (Addr × List Str)) (es : Array (Int × Value)) (ep : Nat) (t : SetTable) : Prop where
  ob : ∃ o, h.get? a = some o ∧ o.ExactSet ∧ o.data = .set es ep t
  rows : es.toList = rowsP G w L
  tab : TabOk t (L.map fun p => pH G w p.2)
  nd : (L.map (·.2)).Nodup
  led : w.params.followText "set-order" = true ∨ t.led = true
  few : L.length < 64
/-- and the tuples stand -/
structure SetL (G : Program) (w : World) (h : Heap) (a : Addr) (L : List (Addr × List Str)) (es : Array (Int × Value)) (ep : Nat) (t : SetTable) : Prop extends SetR G w h a L es ep t where
  tup : ∀ p ∈ L, IsP G w h p.2 p.1
/-- and with room for a further one -/
structure SetP (G : Program) (w : World) (h : Heap) (a : Addr) (L : List (Addr × List Str)) (es : Array (Int × Value)) (ep : Nat) (t : SetTable) : Prop extends SetL G w h a L es ep t where
  room : L.length * 5 < t.mask * 3
variable {a : Addr} {L : List (Addr × List Str)} {es : Array (Int × Value)} {ep : Nat} {t : SetTable}
theorem SetL.size {h : Heap} (Z : SetL G w h a L es ep t) : es.size = L.length := by rw [← Array.length_toList, Z.rows, rowsP, List.length_map]
theorem SetL.places {h : Heap} (Z : SetL G w h a L es ep t) : t.place.size = L.length := Z.tab.sz.trans (List.length_map _)
theorem SetL.fits {h : Heap} (Z : SetL G w h a L es ep t) (le : L.length ≤ t.mask) : t.fits es.size = true := by
  have n1 := Z.size
  have n2 := Z.places
  show (t.place.size == es.size && decide (t.place.size + t.dummies.size ≤ t.mask)) = true
  rw [Z.tab.dm, n1, n2]
  simpa using le
theorem SetP.le {h : Heap} (Z : SetP G w h a L es ep t) : L.length ≤ t.mask := by
  have := Z.room
  omega
theorem SetL.row {h : Heap} (Z : SetL G w h a L es ep t) (i : Nat) : es[i]? = L[i]?.map fun p => (pH G w p.2, Value.ref p.1) := by rw [← Array.getElem?_toList, Z.rows, rowsP, List.getElem?_map]
/-- a tuple stands on when the set is written -/
theorem isP_but {h h' : Heap} {k : List Str} {a b : Addr} {o : Obj} {es : Array (Int × Value)} {ep : Nat} {t : SetTable} (hb : IsP G w h k b) (ho : h.get? a = some o) (hd : o.data = .set es ep t) (hs : Heap.SameBut a h h') : IsP G w h' k b := by
  obtain ⟨o2, us, n, g2, c2, d2, are⟩ := hb
  refine ⟨o2, us, n, ?_, c2, d2, are⟩
  rw [hs.2 b, g2]
  intro e
  have one : o2 = o := Option.some.inj (g2.symm.trans (e ▸ ho))
  rw [one, hd] at d2
  cases d2
/-- down the row of places -/
theorem srch (Z : SetP G w s.heap a L es ep t) {x : Addr} {k : List Str} (hx : IsP G w s.heap k x) (hu : A.units < cLine) (ad : Bool) {z : Nat} {R : SetFound → Shared → Prop}
    (yes : k ∈ L.map (·.2) → ∀ o : Option Nat, (ad = true → o = none) → (ad = false → o.isSome = true) → R (.there o) s) {p : SetTable.Probe} {is : List Nat} (m : Meets t (fun i => (es[i]?.map (·.1)).getD 0) (pH G w k) z p is) :
    ∀ (f : Nat) (stand : Option SetTable.Probe), stand.getD (t.probeStart (pH G w k)) = p → is.length < f → ((∀ i ∈ is, ∀ q, L[i]? = some q → q.2 ≠ k) → R (.free z false) s) → wpAny (model G w) A (setSearchFrom a (.ref x) (pH G w k) ad f stand) R E s := by
  have ⟨o, ho, _, hd⟩ := Z.ob
  have fits := Z.fits Z.le
  have gw : ¬ t.gaveWay = true := by rw [SetTable.gaveWay, mask_odd Z.tab.mok]; decide
  induction m with
  | free e =>
    intro f stand st lt no
    obtain ⟨f, rfl⟩ := Nat.exists_eq_succ_of_ne_zero (Nat.ne_of_gt (Nat.lt_of_le_of_lt (Nat.zero_le _) lt))
    rw [setSearchFrom_succ]
    refine wpAny_bind (wpAny_setState_of ho hd fits ?_)
    dsimp only
    refine wp_if_neg gw ?_
    try refine wpAny_bind (wpAny_pure ?_)
    rw [st, e]
    exact wpAny_pure (no fun _ hi => nomatch hi)
  | @same p p' j i is e place m ih =>
    intro f stand st lt no
    obtain ⟨f, rfl⟩ := Nat.exists_eq_succ_of_ne_zero (Nat.ne_of_gt (Nat.lt_of_le_of_lt (Nat.zero_le _) lt))
    have lt : is.length < f := by
      rw [List.length_cons] at lt
      omega
    rw [setSearchFrom_succ]
    refine wpAny_bind (wpAny_setState_of ho hd fits ?_)
    dsimp only
    refine wp_if_neg gw ?_
    try refine wpAny_bind (wpAny_pure ?_)
    rw [st, e]
    dsimp only
    -- the row at the place
    have il : i < L.length := by
      have := (List.getElem?_eq_some_iff.mp place).1
      rw [Array.length_toList, Z.places] at this
      exact this
    obtain ⟨q, hq⟩ : ∃ q, L[i]? = some q := ⟨_, List.getElem?_eq_getElem il⟩
    have qL : q ∈ L := List.mem_of_getElem? hq
    have row : es[i]? = some (pH G w q.2, Value.ref q.1) := by rw [Z.row, hq]; rfl
    have slot := slot_live Z.tab.ris place
    have body : wpAny (model G w) A (searchRest a (.ref x) (pH G w k) ad f es t j i p') R E s := by
      unfold searchRest
      rw [row]
      dsimp only
      refine wpAny_bind (wpAny_holding (wpAny_eqBool_tuple hu (Z.tup q qL) hx ?_))
      refine wpAny_bind (wpAny_setState_of ho hd fits ?_)
      dsimp only
      by_cases eq : q.2 = k
      · have isIn : k ∈ L.map (·.2) := eq ▸ List.mem_map_of_mem qL
        cases ad with
        | true => exact wp_if_pos (by simp [eq]) (wpAny_pure (yes isIn none (fun _ => rfl) fun h => nomatch h))
        | false =>
          refine wp_if_neg (by simp) ?_
          try refine wpAny_bind (wpAny_pure ?_)
          rw [sameMem]
          dsimp only
          simp only [if_true, slot, row]
          refine wpAny_bind (wpAny_isSame_ref_self (wpAny_bind (wpAny_pure ?_)))
          simp only [if_true]
          exact wp_if_pos (by simp [eq]) (wpAny_pure (yes isIn (some i) (fun h => nomatch h) fun _ => rfl))
      · refine wp_if_neg (by simp [eq]) ?_
        try refine wpAny_bind (wpAny_pure ?_)
        rw [sameMem]
        dsimp only
        simp only [if_true, slot, row]
        refine wpAny_bind (wpAny_isSame_ref_self (wpAny_bind (wpAny_pure ?_)))
        simp only [if_true]
        refine wp_if_neg (by simp [eq]) (ih f (some p') rfl lt fun none_ => no fun i' hi q' hq' => ?_)
        rcases List.mem_cons.mp hi with rfl | hi
        · rw [hq] at hq'
          exact Option.some.inj hq' ▸ eq
        · exact none_ i' hi q' hq'
    cases led : t.led with
    | true => exact wp_if_neg (by decide) (by first | exact body | exact wpAny_bind (wpAny_pure body))
    | false =>
      refine wp_if_pos (by decide) (wpAny_bind (unseen hx (fun v hv => ?_) (wp_if_neg (by decide) (by first | exact body | exact wpAny_bind (wpAny_pure body)))))
      have sub : v ∈ es.toList.map (·.2) := by
        obtain ⟨u, hu, rfl⟩ := List.mem_map.mp hv
        exact List.mem_map_of_mem (by simpa using (Array.mem_filter.mp (Array.mem_toList_iff.mp hu)).1)
      rw [Z.rows, rowsP, List.map_map] at sub
      obtain ⟨q, hq, rfl⟩ := List.mem_map.mp sub
      exact ⟨q.2, q.1, rfl, Z.tup q hq⟩
/-- the search, from the start -/
theorem srch_at (Z : SetP G w s.heap a L es ep t) {x : Addr} {k : List Str} (hx : IsP G w s.heap k x) (hu : A.units < cLine) (ad : Bool) {R : SetFound → Shared → Prop}
    (yes : k ∈ L.map (·.2) → ∀ o : Option Nat, (ad = true → o = none) → (ad = false → o.isSome = true) → R (.there o) s)
    (no : ∀ N, k ∉ L.map (·.2) → way t.mask (pH G w k) N ∉ t.place.toList → (∀ c, c < N → way t.mask (pH G w k) c ∈ t.place.toList) → R (.free (way t.mask (pH G w k) N) false) s) :
    wpAny (model G w) A (setSearch a (.ref x) (pH G w k) ad) R E s := by
  obtain ⟨N, is, free, full, m, lt, all⟩ := meets_all Z.tab (by rw [List.length_map]; exact Z.le) (fun i => (es[i]?.map (·.1)).getD 0) (fun i n hi => by
    rw [List.getElem?_map] at hi
    rw [Z.row]
    cases z : L[i]? with
    | none => rw [z] at hi; cases hi
    | some q => rw [z] at hi; exact Option.some.inj hi) (pH G w k)
  refine srch Z hx hu ad yes m 100000 none rfl lt fun none_ => no N (fun isIn => ?_) free full
  obtain ⟨q, hq, rfl⟩ := List.mem_map.mp isIn
  obtain ⟨i, hi⟩ := List.getElem?_of_mem hq
  exact none_ i (all i (by rw [List.getElem?_map, hi]; rfl)) q hi rfl
end
/-! ### laid anew, added to -/
section
variable {G : Program} {w : World} {A : Around} {E : Value → Shared → Prop} {s : Shared} {a : Addr} {L : List (Addr × List Str)} {es : Array (Int × Value)} {ep : Nat} {t : SetTable}
/-- the rows picked in another order -/
theorem rows_in {h : Heap} (Z : SetL G w h a L es ep t) {order : Array Nat} (pm : order.toList.Perm (List.range L.length)) :
    (order.filterMap (es[·]?)).toList = rowsP G w (order.toList.filterMap (L[·]?)) ∧ (order.toList.filterMap (L[·]?)).Perm L ∧ (order.toList.map fun i => (es.map (·.1)).getD i 0) = (order.toList.filterMap (L[·]?)).map fun p => pH G w p.2 := by
  refine ⟨?_, ?_, ?_⟩
  · rw [Array.toList_filterMap, funext Z.row, rowsP, List.map_filterMap]
  · have same := pm.filterMap (L[·]?)
    rwa [List.filterMap_getElem?_range_length] at same
  · rw [picked _ 0 L _ fun i hi => List.mem_range.mp (pm.mem_iff.mp hi)]
    refine List.map_congr_left fun i _ => ?_
    rw [Array.getD_eq_getD_getElem?, Array.getElem?_map, Z.row, Option.map_map, List.getElem?_map]
    rfl
theorem laidAnew (Z : SetL G w s.heap a L es ep t) (le : L.length ≤ t.mask) {n M : Nat} (size : SetTable.sizeAbove n = M + 1) (hM : MaskOk M) (fit : M < 128) (wide : L.length * 5 < M * 3) {R : Unit → Shared → Prop}
    (r : ∀ h2 L2 es2 ep2 t2, Heap.SameBut a s.heap h2 → SetP G w h2 a L2 es2 ep2 t2 → L2.Perm L → R () { s with heap := h2 }) : wpAny (model G w) A (setRelay a n) R E s := by
  have ⟨o, ho, hx, hd⟩ := Z.ob
  have hz := Z.size
  obtain ⟨t2, order, found, pm, tab, mask, led, _, _⟩ := relaid_ok t (hs := es.map (·.1)) (wanted := n) (by rw [size]; rfl) hM (by rw [Array.size_map, hz]; omega)
  rw [Array.size_map, hz] at pm
  obtain ⟨rows, same, hashes⟩ := rows_in Z pm
  rw [hashes] at tab
  have count : (order.filterMap (es[·]?)).size = es.size := by rw [← Array.length_toList, rows, rowsP, List.length_map, same.length_eq, hz]
  have sb : Heap.SameBut a s.heap (s.heap.update a (Obj.putSet (order.filterMap (es[·]?)) t2)) := Heap.SameBut.update ..
  have few := Z.few
  rw [setRelay_eq]
  refine wpAny_bind (wpAny_setState_of ho hd (Z.fits le) ?_)
  dsimp only
  refine wp_if_neg (by rw [sizeLine_eq, size]; omega) ?_
  try refine wpAny_bind (wpAny_pure ?_)
  rw [found]
  dsimp only
  refine wpAny_bind (wp_if_neg (by rw [count]; simp) ?_)
  try refine wpAny_bind (wpAny_pure ?_)
  refine wpAny_pure (wpAny_storeSet_of ho hd ?_ (by rw [count, hz, sizeLine_eq]; omega))
  exact r _ _ _ (ep + 1) t2 sb
    { ob := ⟨_, store_at ho hd, ⟨hx.1, hx.2.1, hx.2.2⟩, rfl⟩, rows := rows, tab := tab, nd := (same.map (·.2)).nodup_iff.mpr Z.nd, tup := fun p hp => isP_but (Z.tup p (same.mem_iff.mp hp)) ho hd sb,
      led := led ▸ Z.led, few := by rw [same.length_eq]; exact few, room := by rw [same.length_eq, mask]; exact wide } same
theorem tabOk_pl {t : SetTable} {hs : List Int} (T : TabOk t hs) (b : Bool) : TabOk { t with plain := b } hs := ⟨T.ris, T.dm, T.sz, T.mok, T.bd, T.reach⟩
/-- the rows with a further one are written, and laid anew if they have become too many -/
theorem added (Z : SetP G w s.heap a L es ep t) {x : Addr} {k : List Str} (hx : IsP G w s.heap k x) (hm : k ∉ L.map (·.2)) (hfew : L.length + 1 < 64) {es1 : Array (Int × Value)} {L1 : List (Addr × List Str)} {t1 : SetTable}
    (rows : es1.toList = rowsP G w L1) (same : L1.Perm ((x, k) :: L)) (tab : TabOk t1 (L1.map fun p => pH G w p.2)) (mask : t1.mask = t.mask) (led : t1.led = t.led) {R : Bool → Shared → Prop}
    (r : ∀ h2 L2 es2 ep2 t2, Heap.SameBut a s.heap h2 → SetP G w h2 a L2 es2 ep2 t2 → L2.Perm ((x, k) :: L) → R true { s with heap := h2 }) :
    wpAny (model G w) A (do
      storeSet a es1 t1
      if (!false && t1.tooFull) = true then setRelay a (SetTable.grown (es.size + 1))
      return true) R E s := by
  have ⟨o, ho, hex, hd⟩ := Z.ob
  have len : L1.length = L.length + 1 := same.length_eq
  have sb : Heap.SameBut a s.heap (s.heap.update a (Obj.putSet es1 t1)) := Heap.SameBut.update ..
  have Y : SetL G w (s.heap.update a (Obj.putSet es1 t1)) a L1 es1 (ep + 1) t1 :=
    { ob := ⟨_, store_at ho hd, ⟨hex.1, hex.2.1, hex.2.2⟩, rfl⟩, rows := rows, tab := tab, nd := (same.map (·.2)).nodup_iff.mpr (List.nodup_cons.mpr ⟨hm, Z.nd⟩)
      tup := fun p hp => (List.mem_cons.mp (same.mem_iff.mp hp)).elim (fun e => isP_but (by rw [e]; exact hx) ho hd sb) fun hp => isP_but (Z.tup p hp) ho hd sb
      led := led ▸ Z.led, few := by rw [len]; exact hfew }
  have fill : t1.fill = L.length + 1 := by
    show t1.place.size + t1.dummies.size = _
    rw [Y.places, tab.dm, len]
    rfl
  refine wpAny_bind (wpAny_storeSet_of ho hd ?_ (by rw [Y.size, len, sizeLine_eq]; omega))
  generalize s.heap.update a (Obj.putSet es1 t1) = h1 at sb Y ⊢
  have room := Z.room
  by_cases full : t1.mask * 3 ≤ (L.length + 1) * 5
  · have yes : (!false && t1.tooFull) = true := by
      show (true && decide (t1.fill * 5 ≥ t1.mask * 3)) = true
      rw [fill]
      simpa using full
    obtain ⟨M, size, hM, fit, wide, le⟩ := grows Z.tab.mok room (mask ▸ full) hfew
    have relay : wpAny (model G w) A (setRelay a (SetTable.grown (es.size + 1))) (fun _ s' => wpAny (model G w) A (pure true) R E s') E { s with heap := h1 } := by
      rw [Z.size]
      exact laidAnew (s := { s with heap := h1 }) Y (by rw [len, mask]; exact le) size hM fit (by rw [len]; exact wide) fun h2 L2 es2 ep2 t2 sb2 Z2 same2 => wpAny_pure (r h2 L2 es2 ep2 t2 (sb.trans sb2) Z2 (same2.trans same))
    first
      | exact wpAny_bind (wp_if_pos yes relay)
      | exact wp_if_pos yes (wpAny_bind relay)
  · have no : ¬ (!false && t1.tooFull) = true := by
      show ¬ (true && decide (t1.fill * 5 ≥ t1.mask * 3)) = true
      rw [fill]
      simpa using full
    have end_ : wpAny (model G w) A (pure true) R E { s with heap := h1 } := wpAny_pure (r h1 L1 es1 (ep + 1) t1 sb { toSetL := Y, room := by rw [len]; omega } same)
    first
      | exact wp_if_neg no end_
      | exact wpAny_bind (wp_if_neg no (wpAny_pure end_))
theorem add_P (Z : SetP G w s.heap a L es ep t) {x : Addr} {k : List Str} (hx : IsP G w s.heap k x) (hu : A.units < cLine) (hfew : L.length + 1 < 64) {R : Bool → Shared → Prop}
    (r : ∀ b h2 L2 es2 ep2 t2, Heap.SameBut a s.heap h2 → SetP G w h2 a L2 es2 ep2 t2 → (∀ q, q ∈ L2 → q ∈ L ∨ q = (x, k)) → (∀ q, q ∈ L2.map (·.2) ↔ q ∈ L.map (·.2) ∨ q = k) → L2.length ≤ L.length + 1 → R b { s with heap := h2 }) :
    wpAny (model G w) A (setAddHashed a (.ref x) (pH G w k)) R E s := by
  have ⟨o, ho, _, hd⟩ := Z.ob
  have fits := Z.fits Z.le
  unfold setAddHashed
  refine wpAny_holding ?_
  show wpAny _ _ (setAddHashedIn a (.ref x) (pH G w k) (99999 + 1)) _ _ _
  rw [setAddHashedIn_succ]
  refine wpAny_bind (wpAny_setState_of ho hd fits ?_)
  dsimp only
  refine wp_if_neg (by simp [byScan, Value.scannable]) ?_
  try refine wpAny_bind (wpAny_pure ?_)
  refine wpAny_bind (srch_at Z hx hu true (fun isIn _ _ _ => ?_) fun N notIn free full => ?_)
  · -- it is there
    dsimp only
    refine wpAny_pure (r false s.heap L es ep t (Heap.SameBut.refl a s.heap) Z (fun q => .inl) (fun q => ⟨.inl, ?_⟩) (Nat.le_succ _))
    rintro (q | rfl)
    · exact q
    · exact isIn
  · dsimp only
    refine wpAny_bind (wpAny_setState_of ho hd fits ?_)
    dsimp only
    obtain ⟨p_, _, tab, mask, led, _, _, _, _⟩ := Z.tab.put free full
    rw [← p_] at tab
    generalize t.put (way t.mask (pH G w k) N) = tp at tab mask led ⊢
    obtain ⟨t1, p⟩ := tp
    dsimp only at tab mask led ⊢
    have same : (L.take p ++ (x, k) :: L.drop p).Perm ((x, k) :: L) := List.perm_middle.trans (by rw [List.take_append_drop])
    have rows : (SetTable.insertAt es p (pH G w k, Value.ref x)).toList = rowsP G w (L.take p ++ (x, k) :: L.drop p) := by
      rw [SetTable.toList_insertAt, Z.rows]
      simp only [rowsP, List.map_append, List.map_cons, List.map_take, List.map_drop]
    have tab : TabOk t1 ((L.take p ++ (x, k) :: L.drop p).map fun p => pH G w p.2) := by simpa only [List.map_append, List.map_cons, List.map_take, List.map_drop] using tab
    have wrote := fun (t2 : SetTable) (T : TabOk t2 ((L.take p ++ (x, k) :: L.drop p).map fun p => pH G w p.2)) (m : t2.mask = t.mask) (l : t2.led = t.led) => added (A := A) (E := E) Z hx notIn hfew rows same T m l (R := R) fun h2 L2 es2 ep2 t2 sb Z2 same2 => by
      refine r true h2 L2 es2 ep2 t2 sb Z2 (fun q hq => (List.mem_cons.mp (same2.mem_iff.mp hq)).symm) (fun q => ?_) (Nat.le_of_eq same2.length_eq)
      rw [(same2.map (·.2)).mem_iff, List.map_cons, List.mem_cons, or_comm]
    have turn : ∀ c : Bool, wpAny (model G w) A (do
        storeSet a (SetTable.insertAt es p (pH G w k, Value.ref x)) (if c = true then t1 else { t1 with plain := false })
        if (!false && (if c = true then t1 else { t1 with plain := false }).tooFull) = true then setRelay a (SetTable.grown (es.size + 1))
        return true) R E s
      | true => wrote t1 tab mask led
      | false => wrote { t1 with plain := false } (tabOk_pl tab false) mask led
    by_cases hpl : t1.plain = true
    · first
        | exact wpAny_bind (wp_if_pos hpl (byVal hx turn))
        | exact wp_if_pos hpl (wpAny_bind (byVal hx turn))
    · first
        | exact wpAny_bind (wp_if_neg hpl (wpAny_pure (turn true)))
        | exact wp_if_neg hpl (turn true)
theorem has_P (Z : SetP G w s.heap a L es ep t) {x : Addr} {k : List Str} (hx : IsP G w s.heap k x) (hu : A.units < cLine) {R : Option Nat → Shared → Prop}
    (yes : k ∈ L.map (·.2) → ∀ i, R (some i) s) (no : k ∉ L.map (·.2) → R none s) : wpAny (model G w) A (setFind a (.ref x) (pH G w k)) R E s := by
  have ⟨o, ho, _, hd⟩ := Z.ob
  unfold setFind
  show wpAny _ _ (setFindIn a (.ref x) (pH G w k) (99999 + 1)) _ _ _
  unfold setFindIn
  refine wpAny_bind (wpAny_setState_of ho hd (Z.fits Z.le) ?_)
  dsimp only
  refine wp_if_neg (by simp [byScan, Value.scannable]) ?_
  try refine wpAny_bind (wpAny_pure ?_)
  refine wpAny_bind (srch_at Z hx hu false (fun isIn o _ some_ => ?_) fun _ notIn _ _ => wpAny_pure (no notIn))
  cases o with
  | none => cases some_ rfl
  | some i => exact wpAny_pure (yes isIn i)
end
end K91
/-! R6 -/
/-! sets of pairs of texts as rules -/
namespace K91
open PySem PySem.Spec PyProof.Rows L2 PySem.W
section
variable {G : Program} {w : World} {A : Around} {E : Value → Shared → Prop} {s : Shared} {a : Addr} {L : List (Addr × List Str)} {es : Array (Int × Value)} {ep : Nat} {t : SetTable}
theorem SetP.typeIs (Z : SetP G w s.heap a L es ep t) : s.TypeIs (.ref a) "set" := let ⟨o, ho, hx, _⟩ := Z.ob; ⟨o, ho, hx.1⟩
theorem SetP.noDict (Z : SetP G w s.heap a L es ep t) : ∀ b, Value.ref a = .ref b → ∃ ob, s.heap.get? b = some ob ∧ ob.dict = none := fun b e => by
  obtain ⟨o, ho, hx, _⟩ := Z.ob
  cases e
  exact ⟨o, ho, hx.2.1⟩
theorem SetP.tok (Z : SetP G w s.heap a L es ep t) (n : Nat) : SetP G w ({ s with toks := n } : Shared).heap a L es ep t := Z
theorem call_sadd (Z : SetP G w s.heap a L es ep t) {x : Addr} {k : List Str} (hx : IsP G w s.heap k x) (hu : A.units + 64 < cLine) (hfew : L.length + 1 < 64) {Q : Value → Shared → Prop}
    (hQ : ∀ h' tk L' es' ep' t', Heap.SameBut a s.heap h' → SetP G w h' a L' es' ep' t' → (∀ q, q ∈ L' → q ∈ L ∨ q = (x, k)) → (∀ q, q ∈ L'.map (·.2) ↔ q ∈ L.map (·.2) ∨ q = k) → L'.length ≤ L.length + 1 → Q .none { s with heap := h', toks := tk }) :
    wpAny (model G w) A (call (.builtin "set.add") [.ref a, .ref x]) Q E s := by
  refine wpAny_call_entry F.slot_set_add Z.typeIs F.entry_set_add ?_ (F.args_set_add_2 _ _)
  unfold Builtin.«set.add» Builtin.Frozenset.oneOther
  simp only [List.isEmpty_nil, bind_assoc]
  unfold Builtin.Frozenset.addrOf setAdd
  refine wpAny_bind (wpAny_pure ?_)
  try dsimp only
  refine wpAny_bind (wpAny_pure ?_)
  try dsimp only
  refine wpAny_bind ?_
  refine wpAny_holding ?_
  refine wpAny_bind (wpAny_pyHash_tuple (by show A.units + 1 < cLine; omega) hx ?_)
  refine add_P (s := { s with toks := s.toks + (k.length + 1) }) Z hx (by show A.units + 1 < cLine; omega) hfew fun b h' L' es' ep' t' sb Z' h1 h2 h3 => ?_
  show wpAny _ _ (ret Value.none) _ _ _
  exact wpAny_pure ⟨_, rfl, hQ h' _ L' es' ep' t' sb Z' h1 h2 h3⟩
theorem notIn_P (Z : SetP G w s.heap a L es ep t) {x : Addr} {k : List Str} (hx : IsP G w s.heap k x) (hu : A.units + 64 < cLine) {Q : Value → Shared → Prop} (h : ∀ tk, Q (.bool (!decide (k ∈ L.map (·.2)))) { s with toks := tk }) : wpAny (model G w) A (compareOp .NotIn (.ref x) (.ref a)) Q E s := by
  show wpAny _ _ (do return .bool (!(← contains (.ref a) (.ref x)))) Q E s
  refine wpAny_bind ?_
  unfold contains
  try with_reducible refine wpAny_holding ?_
  refine wpAny_bind (wpAny_specialOf Z.typeIs F.slot_set_contains.lookup ?_)
  show wpAny _ _ (if (some (Value.builtin "set.__contains__") == some Value.none) = true then _ else _) _ E s
  rw [if_neg (by rw [beq_builtin_none]; exact Bool.false_ne_true)]
  refine wpAny_bind (wpAny_callSpecialUnlessNone?_slot (name := Str.ofString "__contains__") Z.typeIs F.slot_set_contains
    (wpAny_call_entry F.slot_set_contains Z.typeIs entry_set_contains ?_ (F.args_set_contains_2 _ _)))
  unfold Builtin.«frozenset.__contains__» Builtin.Frozenset.oneOther
  simp only [List.isEmpty_nil, bind_assoc]
  unfold Builtin.Frozenset.addrOf Builtin.Frozenset.withSetAsKey setContains
  refine wpAny_bind (wpAny_pure ?_)
  try dsimp only
  refine wpAny_bind (wpAny_pure ?_)
  try dsimp only
  refine wpAny_bind (wpAny_tryCatch ?_)
  refine wpAny_holding ?_
  refine wpAny_bind (wpAny_pyHash_tuple (by show A.units + 1 < cLine; omega) hx ?_)
  refine wpAny_bind (has_P (s := { s with toks := s.toks + (k.length + 1) }) Z hx (by show A.units + 1 < cLine; omega) (fun hm i => ?_) fun hm => ?_)
  · refine wpAny_pure ?_
    show wpAny _ _ (ret (Value.bool true)) _ _ _
    have h' := h (s.toks + (k.length + 1))
    rw [decide_eq_true hm] at h'
    exact wpAny_pure ⟨_, rfl, wpAny_truthy_bool (wpAny_pure h')⟩
  · refine wpAny_pure ?_
    show wpAny _ _ (ret (Value.bool false)) _ _ _
    have h' := h (s.toks + (k.length + 1))
    rw [decide_eq_false hm] at h'
    exact wpAny_pure ⟨_, rfl, wpAny_truthy_bool (wpAny_pure h')⟩
/-- set(): no tuples, at the heap's end -/
theorem fresh_P {h : Heap} : SetP G w (h.push { cls := .type "set", dict := none, data := .set #[] 0 (.fresh 0 0 (!w.params.followText "set-order")) }) h.objs.size [] #[] 0 (.fresh 0 0 (!w.params.followText "set-order")) where
  ob := ⟨_, Heap.get?_push_size _ rfl, ⟨rfl, rfl, rfl⟩, rfl⟩
  rows := rfl
  tab := { ris := .nil, dm := rfl, sz := rfl, mok := .inl rfl, bd := fun _ z => (nomatch z), reach := fun _ _ _ z => (nomatch z) }
  nd := .nil
  tup _ z := nomatch z
  led := by
    cases e : w.params.followText "set-order" with
    | true => exact .inl rfl
    | false => exact .inr rfl
  room := (by decide : 0 * 5 < 7 * 3)
  few := (by decide : 0 < 64)
/-- sorted(found): a new list of the set's own tuples, in an order that is not told -/
theorem sorted_P (Z : SetP G w s.heap a L es ep t) (hh : A.handled = none) (hu : A.units + 64 < cLine) (two : ∀ p ∈ L, ∃ x y, p.2 = [x, y]) {Q : Value → Shared → Prop}
    (hQ : ∀ s' p (out : List Value) (c : Nat), (∀ b o, s.heap.get? b = some o → s'.heap.get? b = some o) → s'.gens = s.gens → s'.os = s.os → s.heap.objs.size ≤ p → s'.heap.get? p = some (seqObj "list" out.toArray c) → out.length = L.length → (∀ v ∈ out, ∃ q ∈ L, v = Value.ref q.1) → Q (.ref p) s') :
    wpAny (model G w) A (call (.builtin "sorted") [.ref a]) Q E s := by
  obtain ⟨o, ho, hex, hd⟩ := Z.ob
  have hsz := Z.size
  have hfew := Z.few
  refine Calls.call_function_entry kind_sorted plain_sorted entry_sorted (args_sorted1 _) ?_
  unfold Builtin.«sorted»
  refine wpAny_bind (m := checkCount "sorted" 1 1 _) (wpAny_pure ?_)
  refine wpAny_bind (collect_set (A := A.in1) hh ⟨o, ho, hex.1, hd⟩ (Z.fits Z.le) (by unfold scanBound; omega) Z.tab.ris Z.led fun s1 vs k1 hz g1 o1 pm => ?_)
  rw [Z.rows, rowsP, List.map_map] at pm
  have n1 : vs.length = L.length := by rw [pm.length_eq, List.length_map]
  refine wpAny_bind (wpAny_newList ?_ (by rw [sizeLine_eq]; omega))
  have hoL := Heap.get?_push_size s1.heap (o := seqObj "list" vs.toArray 0) rfl
  have kp : ∀ b u, s1.heap.get? b = some u → b ≠ s1.heap.objs.size ∧ (s1.heap.push (seqObj "list" vs.toArray 0)).get? b = some u := fun b u q => ⟨Nat.ne_of_lt (Heap.lt_size q), Heap.get?_push_of_some _ q⟩
  -- what the values read as
  have rd : ∀ v ∈ vs, ∃ x y : Str, ∃ as, Reads (sortingHeap (s1.heap.push (seqObj "list" vs.toArray 0)) s1.heap.objs.size vs) v (Datum.toD (x, y)) as := fun v hv => by
    obtain ⟨q, hq, rfl⟩ := List.mem_map.mp (pm.mem_iff.mp hv)
    obtain ⟨x, y, exy⟩ := two q hq
    obtain ⟨ot, its, n, hot, hct, hdt, hit⟩ := Z.tup q hq
    rw [exy] at hit
    obtain ⟨its⟩ := its
    cases hit with
    | cons h1 h2 =>
      cases h2 with
      | cons h2 h3 =>
        cases h3
        obtain ⟨t1, rfl⟩ := Value.isStrOf_shape h1
        obtain ⟨t2, rfl⟩ := Value.isStrOf_shape h2
        have r := Reads.tuple (h := s.heap) hot hct hdt (.cons (.str x t1) (.cons (.str y t2) .nil))
        exact ⟨x, y, _, PyProof.Rows.Reads.keeps (fun b u q => sortingHeap_old (kp b u (k1 b u q)).1 (kp b u (k1 b u q)).2) r⟩
  obtain ⟨bs, hbs⟩ : ∃ bs : List (Str × Str), EachIs (fun v b => v ∈ vs ∧ ∃ as, Reads (sortingHeap (s1.heap.push (seqObj "list" vs.toArray 0)) s1.heap.objs.size vs) v (Datum.toD b) as) vs bs := by
    have key : ∀ us : List Value, (∀ v ∈ us, v ∈ vs) → ∃ bs : List (Str × Str), EachIs (fun v b => v ∈ vs ∧ ∃ as, Reads (sortingHeap (s1.heap.push (seqObj "list" vs.toArray 0)) s1.heap.objs.size vs) v (Datum.toD b) as) us bs := by
      intro us
      induction us with
      | nil => exact fun _ => ⟨[], .nil⟩
      | cons v us ih =>
        intro hv
        obtain ⟨bs, hb⟩ := ih fun u hu => hv u (List.mem_cons_of_mem _ hu)
        obtain ⟨x, y, as, r⟩ := rd v (hv v List.mem_cons_self)
        exact ⟨(x, y) :: bs, .cons ⟨hv v List.mem_cons_self, as, r⟩ hb⟩
    exact key vs fun v hv => hv
  have er : EachIs (fun v b => ∃ as, Reads (sortingHeap (s1.heap.push (seqObj "list" vs.toArray 0)) s1.heap.objs.size vs) v (Datum.toD b) as) vs bs := hbs.mono fun _ _ h => h.2
  have hal : AllAlike (bs.map fun b => Datum.toD b) := AllAlike.of fun b b' => DatumOrd.alike b b'
  show wpAny _ _ _ _ _ { s1 with heap := s1.heap.push (seqObj "list" vs.toArray 0) }
  refine wpAny_bind (wpAny_holding (wpAny_call_entry_kw slot_list_sort ⟨_, hoL, rfl⟩ entry_list_sort ?_ (args_list_sort _)))
  refine list_sort_vals (s := { s1 with heap := s1.heap.push (seqObj "list" vs.toArray 0) }) hoL (SortsAt.data (s := { s1 with heap := sortingHeap (s1.heap.push (seqObj "list" vs.toArray 0)) s1.heap.objs.size vs }) (each_map (R := fun v d => ∃ as, Reads (sortingHeap (s1.heap.push (seqObj "list" vs.toArray 0)) s1.heap.objs.size vs) v d as) (fun b => Datum.toD b) er) hal (sortable_d bs sorts_pair) (fun d hd => ?_)) (by rw [sizeLine_eq]; omega) ⟨_, rfl, ?_⟩
  · obtain ⟨b, _, rfl⟩ := List.mem_map.mp hd
    have := Datum.depth_le b
    have e1 : Datum.depth (Str × Str) = 1 := rfl
    show A.units + 2 + _ < cLine
    omega
  · obtain ⟨c, hc⟩ := sortedHeap_at (out := (sortVals (dataKind (sortingHeap (s1.heap.push (seqObj "list" vs.toArray 0)) s1.heap.objs.size vs) (bs.map fun b => Datum.toD b)) false vs vs).toArray) hoL
    refine wpAny_pure ⟨_, rfl, hQ _ s1.heap.objs.size _ c (fun b u e => ?_) g1 o1 hz hc ?_ fun v hv => ?_⟩
    · exact (sortedHeap_old (kp b u (k1 b u e)).1 (Heap.lt_size (kp b u (k1 b u e)).2)).trans (kp b u (k1 b u e)).2
    · rw [sortVals_length false rfl, n1]
    · obtain ⟨q, hq, e⟩ := List.mem_map.mp (pm.mem_iff.mp (sortVals_mem false hv))
      exact ⟨q, hq, e.symm⟩
end
/-! ### over the layer -/
/-- what is tracked of a set: its rows, and that there is room -/
def SetPO (G : Program) (w : World) (a : Addr) (L : List (Addr × List Str)) : HO := .ext fun h => ∃ es ep t, SetR G w h a L es ep t ∧ L.length * 5 < t.mask * 3
theorem setPO_of {G : Program} {w : World} {H : Hp} {h : Heap} {a : Addr} {L : List (Addr × List Str)} {es : Array (Int × Value)} {ep : Nat} {t : SetTable} (Z : SetP G w h a L es ep t) : ObjOk G w H h a (SetPO G w a L) :=
  ⟨⟨_, _, _, Z.toSetR, Z.room⟩, let ⟨_, at_, _⟩ := Z.ob; ⟨_, at_⟩, fun _ _ ⟨_, _, _, Y, room⟩ keep => let ⟨_, at_, x⟩ := Y.ob; ⟨_, _, _, { Y with ob := ⟨_, keep _ at_, x⟩ }, room⟩⟩
theorem texts_are {G : Program} {w : World} (k : List Str) : ∀ us, Vals (k.map V.str) us → ItemsAre (strKind G w) k us := by
  induction k with
  | nil => intro us h; cases h; exact .nil
  | cons x k ih =>
    intro us h
    cases h with
    | cons one more =>
      obtain ⟨tk, rfl⟩ := one
      exact .cons (strKind_is G w x tk) (ih _ more)
/-- the set's tuples stand -/
def TupsP (K : PySem.W.Frag) (H : Hp) (L : List (Addr × List Str)) : Prop := ∀ p ∈ L, ∃ x y, p.2 = [x, y] ∧ SqT K H p.1 [.str x, .str y]
section
variable {X : Cx} {pins : List (Addr × Obj)} {σ : L2.St} {H : Hp} {s : Shared}
theorem inv_isP {b : Addr} {k : List Str} (I : Inv X pins σ H s) (h : SqT X.K H b (k.map V.str)) : IsP X.prog X.w s.heap k b := by
  have ⟨us, are, ⟨o, at_, cls, n, dat⟩, _⟩ := I.tuple h
  have are := texts_are (G := X.prog) (w := X.w) k us are
  exact ⟨o, us.toArray, n, at_, cls, dat, by rwa [List.toList_toArray]⟩
/-- the tracked set, with its tuples -/
theorem set_at {a : Addr} {L : List (Addr × List Str)} (I : Inv X pins σ H s) (ha : H a = some (SetPO X.prog X.w a L)) (hL : TupsP X.K H L) : ∃ es ep t, SetP X.prog X.w s.heap a L es ep t := by
  obtain ⟨es, ep, t, Y, room⟩ := (I.hok a _ ha).1
  refine ⟨es, ep, t, { toSetR := Y, tup := fun p hp => ?_, room := room }⟩
  obtain ⟨x, y, e, stands⟩ := hL p hp
  exact e ▸ inv_isP I (k := [x, y]) stands
end
def rSet0P (G : Program) (w : World) : List V → Hp → VK → Prop := fun xs H Q => xs = [] ∧ ∀ p, H p = none → Q (.ref p) (upd H p (SetPO G w p []))
def rSAddP (G : Program) (w : World) (K : PySem.W.Frag) : V → List V → Hp → VK → Prop := fun x xs H Q => ∃ (a b : Addr) (k1 k2 : Str) (L : List (Addr × List Str)), x = V.ref a ∧ xs = [V.ref b] ∧ H a = some (SetPO G w a L) ∧ TupsP K H L ∧ SqT K H b [.str k1, .str k2] ∧ L.length + 1 < 64 ∧
  ∀ L', (∀ q, q ∈ L' → q ∈ L ∨ q = (b, [k1, k2])) → (∀ q, q ∈ L'.map (·.2) ↔ q ∈ L.map (·.2) ∨ q = [k1, k2]) → L'.length ≤ L.length + 1 → Q .non (upd H a (SetPO G w a L'))
def tSAddP (G : Program) (w : World) (K : PySem.W.Frag) (to : TE) (t : TA) : TE := fun σ H Q => to σ H fun x H1 => (∃ a L, x = V.ref a ∧ H1 a = some (SetPO G w a L)) ∧ t σ H1 fun xs H2 => rSAddP G w K x xs H2 Q
def rSNotP (G : Program) (w : World) (K : PySem.W.Frag) : R2 := fun x y H Q => ∃ (a b : Addr) (k1 k2 : Str) (L : List (Addr × List Str)), x = V.ref b ∧ y = V.ref a ∧ H a = some (SetPO G w a L) ∧ TupsP K H L ∧ SqT K H b [.str k1, .str k2] ∧ Q (.bl (!decide ([k1, k2] ∈ L.map (·.2)))) H
def rSortP (G : Program) (w : World) (K : PySem.W.Frag) : List V → Hp → VK → Prop := fun xs H Q => ∃ (a : Addr) (L : List (Addr × List Str)), xs = [V.ref a] ∧ H a = some (SetPO G w a L) ∧ TupsP K H L ∧ ∀ zs p, H p = none → zs.length < 64 → (∀ v ∈ zs, ∃ q ∈ L, v = V.ref q.1) → Q (.ref p) (upd H p (.lst zs))
section
variable {X : Cx} {G : Program} {w : World} {K : PySem.W.Frag} {o e : Expr} {es : List Expr} {to : TE} {t : TA} {apos cpos : Pos}
theorem cr_set0P (hG : X.prog = G := by rfl) (hw : X.w = w := by rfl) : CallR X (.type "set") (rSet0P G w) := by
  subst hG hw
  intro pins s σ H xs us Q I r h
  obtain ⟨rfl, q⟩ := h
  cases r
  refine setR_new fun _ => ?_
  exact ⟨.ref _, _, I.laid (t' := s.toks) (fun _ _ z => Heap.get?_push_of_some _ z) (Nat.le_refl _) (setPO_of fresh_P), rfl, q _ (I.hok.fresh (Nat.le_refl _))⟩
theorem mt_saddP (hu : X.A.units + 64 < cLine) : MtR X "set.add" (rSAddP X.prog X.w X.K) := by
  intro pins s σ H x xs v us Q I rx rxs h
  obtain ⟨a, b, k1, k2, L, rfl, rfl, ha, hL, hb, hf, q⟩ := h
  cases rx
  cases rxs with
  | cons ry rt =>
    cases rt
    cases ry
    obtain ⟨es, ep, t, Z⟩ := set_at I ha hL
    refine call_sadd Z (inv_isP I (k := [k1, k2]) hb) hu hf fun h' tk L' es' ep' t' sb Z' g1 g2 g3 => ?_
    have he : ∃ u, h'.get? a = some u := let ⟨o, ho, _⟩ := Z'.ob; ⟨o, ho⟩
    exact ⟨.non, _, I.write (e := a) (t' := tk) (by rw [ha]; trivial) (.inl rfl) (fun c u hb hu => (sb.2 c hb).trans hu) he (setPO_of Z'), rfl, q L' g1 g2 g3⟩
theorem pe_saddP (hu : X.A.units + 64 < cLine) (ho : PE X o to) (ha : PA X (e :: es) t) (hG : X.prog = G := by rfl) (hw : X.w = w := by rfl) (hK : X.K = K := by rfl)
    (hbase : attributeBase o "add" X.env (eval o X.env) = eval o X.env := by rfl)
    (hfw : ((backTo cpos (starEach (e :: es) X.env)).all (fun x => !x.1) && (backToKw cpos (keywordEach [] X.env)).all (fun x => x.1.isSome) && decide ((e :: es).length + ([] : List Keyword).length + (if ([] : List Keyword).isEmpty then 0 else 1) < 30)) = true := by rfl)
    (hln : (apos.endLine == cpos.line) = true := by rfl) (hs : starEach (e :: es) X.env = (false, eval e X.env) :: starEach es X.env := by rfl) (hp : (backTo cpos (starEach es X.env)).any (·.1) = false := by rfl) :
    PE X (.Call (.Attribute o "add" apos) (e :: es) [] cpos) (tSAddP G w K to t) := by
  subst hG hw hK
  constructor
  intro pins s σ H Q I h
  refine wpAny_Call_method_late hbase hfw hln rfl (thn (ho.run pins s σ H _ I h) fun v s1 ⟨x, H1, I1, r1, ty, q1⟩ => ?_)
  obtain ⟨a, L, rfl, hka⟩ := ty
  cases r1
  obtain ⟨_, _, _, Y, _⟩ := (I1.hok a _ hka).1
  obtain ⟨o0, ho0, hx0, _⟩ := Y.ob
  refine ⟨"set", "set.add", F.plainAttrs_set, F.slot_set_add, F.type_set_add, ⟨o0, ho0, hx0.1⟩, fun b z => by cases z; exact ⟨o0, ho0, hx0.2.1⟩, ?_⟩
  have hA := ha.run cpos pins s1 σ H1 _ I1 q1
  rw [hs] at hA ⊢
  refine Calls.callWith_builtin (by show (false || (backTo cpos (starEach es X.env)).any (·.1)) = false; rw [hp]; rfl) (Calls.evalArgs_plain ?_)
  exact thn hA fun us s2 ⟨vs, H2, I2, r2, q2⟩ => mt_saddP hu pins s2 σ H2 (.ref a) vs (.ref a) us Q I2 rfl r2 q2
theorem or_snotP (hu : X.A.units + 64 < cLine) (hG : X.prog = G := by rfl) (hw : X.w = w := by rfl) (hK : X.K = K := by rfl) : OpR X (compareOp .NotIn) (rSNotP G w K) := by
  subst hG hw hK
  intro pins s σ H x y v u Q I rx ry h
  obtain ⟨a, b, k1, k2, L, rfl, rfl, ha, hL, hb, q⟩ := h
  cases rx
  cases ry
  obtain ⟨es, ep, t, Z⟩ := set_at I ha hL
  exact notIn_P Z (inv_isP I (k := [k1, k2]) hb) hu fun tk => ⟨.bl _, H, I.tok _, rfl, q⟩
theorem cr_sortP (hc : X.calm = true) (hu : X.A.units + 64 < cLine) (hG : X.prog = G := by rfl) (hw : X.w = w := by rfl) (hK : X.K = K := by rfl) : CallR X (.builtin "sorted") (rSortP G w K) := by
  subst hG hw hK
  intro pins s σ H vs us Q I r h
  obtain ⟨a, L, rfl, ha, hL, q⟩ := h
  obtain ⟨es, ep, t, Z⟩ := set_at I ha hL
  rw [Vals.ref1 r]
  refine sorted_P Z (I.ok.hd hc) hu (fun p hp => let ⟨x, y, e, _⟩ := hL p hp; ⟨x, y, e⟩) fun s' p out c k g o hp hg hln hm => ?_
  have hfew := Z.few
  have hn : H p = none := I.hok.fresh hp
  obtain ⟨zs, hzs, hzm⟩ : ∃ zs, Vals zs out ∧ ∀ v ∈ zs, ∃ q ∈ L, v = V.ref q.1 := by
    clear hg hln
    induction out with
    | nil => exact ⟨[], .nil, fun v hv => (nomatch hv)⟩
    | cons u out ih =>
      obtain ⟨q, hq, rfl⟩ := hm u List.mem_cons_self
      obtain ⟨zs, h1, h2⟩ := ih fun v hv => hm v (List.mem_cons_of_mem _ hv)
      refine ⟨V.ref q.1 :: zs, .cons rfl h1, fun v hv => ?_⟩
      rcases List.mem_cons.mp hv with z | z
      · exact ⟨q, hq, z⟩
      · exact h2 v z
  have hlz : zs.length < 64 := by rw [hzs.length, hln]; exact hfew
  have J : Inv X pins σ (upd H p (.lst zs)) { s with heap := s'.heap, gens := s'.gens, drawn := s'.drawn, toks := s'.toks } :=
    I.call (ch := []) (Un.laid k hp hn) (I.hok.laid k hp ⟨by rw [sizeLine_eq]; omega, out, c, hzs, hg⟩) (by rw [g]; exact I.bare) (fun _ z => nomatch z)
  have e : s' = { s with heap := s'.heap, gens := s'.gens, drawn := s'.drawn, toks := s'.toks } := by
    cases s'
    cases s
    cases o
    rfl
  rw [e]
  exact ⟨.ref p, _, J, rfl, q zs p hn hlz hzm⟩
end
end K91
/-! P8 -/
namespace K91
open PySem PySem.Spec PyProof.Rows L2
open C8 (InsC call_isC pss_cut)
theorem str_pairs : ∀ {zs : List V} {ks : List Str}, Paired (fun v b => v = V.str b) zs ks → zs = ks.map V.str
  | _, _, .nil => rfl
  | _, _, .cons e t => by rw [e, str_pairs t]; rfl
theorem pairs_str : ∀ ks : List Str, Paired (fun v b => v = V.str b) (ks.map V.str) ks
  | [] => .nil
  | k :: ks => .cons rfl (pairs_str ks)
/-- one place changes that holds no tuple -/
theorem kx_t' {K : PySem.W.Frag} {d : Addr} {u : HO} {H H' : Hp} (e : Kx (· = d) H H') (hd : H d = some u) (hu : (∀ xs, u ≠ .tup xs) ∧ ∀ o v, u ≠ .frz o v) {a : Addr} {xs : List V} (h : SqT K H a xs) : SqT K H' a xs := by
  rcases h with (h | ⟨o, h⟩) | h
  · exact .inl (.inl (e _ _ (fun z => by rw [z, hd] at h; cases h; exact hu.1 _ rfl) h))
  · exact .inl (.inr ⟨o, e _ _ (fun z => by rw [z, hd] at h; cases h; exact hu.2 _ _ rfl) h⟩)
  · exact .inr h
theorem setPO_no {G : Program} {w : World} {a : Addr} {L : List (Addr × List Str)} : (∀ xs, SetPO G w a L ≠ .tup xs) ∧ ∀ o v, SetPO G w a L ≠ .frz o v := ⟨fun _ z => (nomatch z), fun _ _ z => (nomatch z)⟩
theorem ins_no {C dx : Addr} {fs : List (Str × V)} : (∀ xs, HO.ins C dx fs ≠ .tup xs) ∧ ∀ o v, HO.ins C dx fs ≠ .frz o v := ⟨fun _ z => (nomatch z), fun _ _ z => (nomatch z)⟩
theorem dK_no {kvs : List (Key × V)} : (∀ xs, HO.dK kvs ≠ .tup xs) ∧ ∀ o v, HO.dK kvs ≠ .frz o v := ⟨fun _ z => (nomatch z), fun _ _ z => (nomatch z)⟩
theorem kx_tail {X : Addr → Prop} {d : Addr} {H H1 H2 : Hp} (e : Kx X H H1) (f : Kx (· = d) H1 H2) (hd : H d = none) : Kx X H H2 := fun a o n h => f a o (fun z => by rw [z, hd] at h; cases h) (e a o n h)
theorem tups_t {K : PySem.W.Frag} {H H' : Hp} {L : List (Addr × List Str)} (h : TupsP K H L) (f : ∀ a xs, SqT K H a xs → SqT K H' a xs) : TupsP K H' L := fun p hp => let ⟨x, y, e, ht⟩ := h p hp; ⟨x, y, e, f _ _ ht⟩
theorem kdict_put {lk : Str → Addr} {ks : List Str} {k : Str} {q : Addr} (h : k ∉ ks) : putK (ks.map fun k => ((Sum.inr k : Key), V.ref (lk k))) (Sum.inr k) (.ref q) = (ks ++ [k]).map fun j => ((Sum.inr j : Key), V.ref (if j = k then q else lk j)) := by
  have hn : valV (ks.map fun k => ((Sum.inr k : Key), V.ref (lk k))) (Sum.inr k) = none := by
    cases hv : valV (ks.map fun k => ((Sum.inr k : Key), V.ref (lk k))) (Sum.inr k) with
    | none => rfl
    | some z =>
      have := valV_in hv
      rw [List.map_map] at this
      obtain ⟨j, hj, e⟩ := List.mem_map.mp this
      cases e
      exact absurd hj h
  rw [putK_new _ hn, List.map_append]
  congr 1
  · refine List.map_congr_left fun j hj => ?_
    have : j ≠ k := fun e => h (e ▸ hj)
    simp [this]
  · simp
section
variable {P : Program} {w : World} {K : PySem.W.Frag} {mg : Str → Option Value} {base : Heap}
def spTInit (K : PySem.W.Frag) : Sp := fun vs H Q _ => ∃ (x dx a b : Addr) (ks : List Str) (ys : List V) (prs : List (Str × Str)), vs = [.ref x, .ref a, .ref b] ∧ H x = some (.ins (He.ga K "Table") dx []) ∧ SqL K H a (ks.map V.str) ∧ SqL K H b ys ∧ Paired (PrT K H) ys prs ∧
  0 < ks.length ∧ ks.length ≤ 12 ∧ (∀ k ∈ ks, NameOk k) ∧ ks.Nodup ∧ prs.length ≤ 60 ∧ (∀ p ∈ prs, p.1 ∈ ks ∧ p.2 ∈ ks ∧ p.1 ≠ p.2) ∧
  ∀ H' T, Kx (· = x) H H' → T.kinds = ks.mergeSort (leD Str) → T.fr = frL prs → TabV K H' (.ref x) T → Q .non H'
theorem ok_Table_Dinit (C : Fx w K mg base) : FnOk P w K mg base CX0 3 (a_Table_Dinit K) (fdA K (a_Table_Dinit K)) ["self", "kinds", "pairs"] (spTInit K) := by
  refine (F_Table_Dinit C).ok S_Table_Dinit (fun vs H Q E h => ?_) (fun cdv A outer s H vs Q E hr h => ?_)
  · obtain ⟨x, dx, a, b, ks, ys, prs, rfl, _⟩ := h
    rfl
  · obtain ⟨x, dx, a, b, ks, ys, prs, rfl, hx, ha, hb, hps, h1, h2, hok, hnd, hpl, hpk, q⟩ := h
    refine ⟨_, PSs.nox (pss_cons (ps_expr (pe_cd (D_check_kinds C) (hr.mono (by decide)) (pa_cons (pv 1) pa_nil)))
      (pss_cons (ps_set (i := 3) S_Table_Dinit.nd rfl (Or.inr rfl) (pe_callTy0 (cr_set0P (G := P) (w := w)) (by rfl) C.z_set (by decide +kernel)))
      (pss_cons (ps_for PassesOwn.never rfl (pi_enumA (by rfl) C.z_enumerate (pa_cons (pv 2) pa_nil)) (pg_tup rfl (pgs_cons (pg_name (i := 4) S_Table_Dinit.nd rfl (Or.inl rfl)) (pgs_cons (pg_name (i := 5) S_Table_Dinit.nd rfl (Or.inl rfl)) pgs_nil)))
        (pss_cons (ps_asg (pv 5) (pg_tup rfl (pgs_cons (pg_name (i := 6) S_Table_Dinit.nd rfl (Or.inl rfl)) (pgs_cons (pg_name (i := 7) S_Table_Dinit.nd rfl (Or.inl rfl)) pgs_nil))))
        (pss_cons (ps_if (PW.pt (pw_or (pt_cmpR op_notIn_seq (pv 6) (pv 1) (by rfl)) (pw_or (pt_cmpR op_notIn_seq (pv 7) (pv 1) (by rfl)) (pw_or1 (pt_cmpR op_eq (pv 6) (pv 7) (nomark _))))))
          (pss_one ps_never)
          pss_nil)
        (pss_one (ps_expr (pe_saddP (G := P) (w := w) (K := K) hr.units (pv 3) (pa_cons (pe_cd (D_in_pair C) (hr.mono (by decide)) (pa_cons (pv 6) (pa_cons (pv 7) pa_nil))) pa_nil)))))))
      (pss_cons (ps_fld (pv 0) (pe_callTy call_tuple_of (by rfl) C.z_tuple (by decide +kernel) (pa_cons (pe_callB (cr_sortD (K := K) (β := Str) (by decide) sorts_str hr.units) (by rfl) C.z_sorted (by decide +kernel) (pa_cons (pv 1) pa_nil)) pa_nil)) rfl)
      (pss_cons (ps_fld (pv 0) (pe_callTy call_tuple_of (by rfl) C.z_tuple (by decide +kernel) (pa_cons (pe_callB (cr_sortP (G := P) (w := w) (K := K) rfl hr.units) (by rfl) C.z_sorted (by decide +kernel) (pa_cons (pv 3) pa_nil)) pa_nil)) rfl)
      (pss_cons (ps_fld (pv 0) pe_dnewK rfl)
      (pss_one (ps_for PassesOwn.never rfl (pi_any (pe_fld (pv 0) rfl)) (pg_name (i := 8) S_Table_Dinit.nd rfl (Or.inr rfl))
        (pss_one (ps_dput (hu_of hr) (pe_fld (pv 0) rfl) (pv 8) (pe_callTy call_tuple_of (by rfl) C.z_tuple (by decide +kernel) (pa_cons (pe_lc (own := [("other", 7)]) (g := gName 7) (tt := _) rfl S_Table_Dinit.nd (pi_any (pe_fld (pv 0) rfl)) (blkOk_by (own := [("other", 7)]) (N := ["self", "kinds", "pairs", "found", "at", "pair", "one", "other", "kind"]) (sc := defScope st_Table_Dinit) (by decide +kernel)) (fun _ _ _ _ _ => (pg_name (i := 7) S_Table_Dinit.nd rfl (Or.inl rfl)))
          (fun _ _ _ _ _ => (pts_one (pt_cmpR (or_snotP (G := P) (w := w) (K := K) (by exact hr.units)) (pe_cd (D_in_pair C) (by exact hr.mono (by decide)) (pa_cons (pv 8) (pa_cons (pv 7) pa_nil))) (pv 3) (by rfl)))) (fun _ _ _ _ _ => (pv 7))) pa_nil)) rfl)))))))))), ?_⟩
    have hzs := sizeLine_eq
    refine ⟨_, rfl, a, ks, rfl, ha, h1, h2, hok, hnd, fun H1 e1 => ?_⟩
    refine ⟨rfl, fun f hf => ?_⟩
    have hfH : H f = none := ex_free e1 hf
    have e2 : Evl.Ex H (upd H1 f (SetPO P w f [])) := Evl.Ex.upd e1 hfH
    have hxf : x ≠ f := fun z => by rw [← z, hx] at hfH; cases hfH
    refine ⟨_, rfl, true, b, ys, rfl, Evl.ex_l e2 hb, ?_⟩
    refine for_enumA (xs := ys) (fun i σ H' => ∃ v4 v5 v6 v7 v8 L, σ = [some (.ref x), some (.ref a), some (.ref b), some (.ref f), v4, v5, v6, v7, v8] ∧ Evl.Ex H H' ∧ H' f = some (SetPO P w f L) ∧ TupsP K H' L ∧
        (∀ q, q ∈ L.map (·.2) ↔ ∃ p ∈ prs.take i, q = [(pairF p.1 p.2).1, (pairF p.1 p.2).2]) ∧ L.length ≤ i)
      ⟨none, none, none, none, none, [], rfl, e2, upd_same .., fun p hp => (nomatch hp), fun q => ⟨fun h => (nomatch h), fun ⟨p, hp, _⟩ => (nomatch hp)⟩, Nat.le_refl _⟩
      (fun i σ H' _ ⟨_, _, _, _, _, _, _, e, _⟩ => Evl.ex_l e hb) ?_ ?_
    · rintro i v W σ H' hv ⟨v4, v5, v6, v7, v8, L, rfl, e, hset, htp, hkey, hlen⟩ hW
      obtain ⟨pr, hpr, p, rfl, hp⟩ := pr_get' hps hv
      obtain ⟨g1, g2, g3⟩ := hpk pr (List.mem_of_getElem? hpr)
      have hil : i < prs.length := (List.getElem?_eq_some_iff.mp hpr).1
      have etk : prs.take (i + 1) = prs.take i ++ [pr] := by rw [List.take_add_one, hpr]; rfl
      have kW := ex_new (o := .tup [.int (i : Nat), .ref p]) hW
      have eW := Evl.Ex.trans e kW
      refine ⟨W, _, rfl, t_of (upd_same ..), rfl, _, _, rfl, _, _, rfl, rfl, ?_⟩
      refine ⟨_, rfl, p, _, rfl, Evl.ex_t eW hp, rfl, _, _, rfl, _, _, rfl, rfl, ?_⟩
      have in1 : inV (.str pr.1) (ks.map V.str) = true := by rw [inV_strs]; exact decide_eq_true g1
      have in2 : inV (.str pr.2) (ks.map V.str) = true := by rw [inV_strs]; exact decide_eq_true g2
      refine ⟨_, rfl, _, rfl, a, _, rfl, .inl (Evl.ex_l eW ha), rfl, all_strs, _, rfl, ?_⟩
      rw [in1]
      refine iteF ⟨_, rfl, _, rfl, a, _, rfl, .inl (Evl.ex_l eW ha), rfl, all_strs, _, rfl, ?_⟩
      rw [in2]
      refine iteF ⟨_, rfl, _, rfl, rfl, _, rfl, ?_⟩
      rw [show decide (V.str pr.1 = V.str pr.2) = false from decide_eq_false fun z => g3 (V.str.inj z)]
      refine iteF ?_
      refine ⟨_, rfl, ⟨f, L, rfl, kW _ _ hset⟩, _, rfl, _, rfl, pr.1, pr.2, rfl, fun t ht => ?_⟩
      have kt := Evl.Ex.trans kW (ex_new (o := .tup [.str (pairF pr.1 pr.2).1, .str (pairF pr.1 pr.2).2]) ht)
      have et := Evl.Ex.trans e kt
      have htf : t ≠ f := fun z => by rw [z, kW _ _ hset] at ht; cases ht
      refine ⟨f, t, _, _, L, rfl, rfl, kt _ _ hset, tups_t htp (fun _ _ h => Evl.ex_t kt h), t_of (upd_same ..), by omega, fun L' m1 m2 m3 => ?_⟩
      have kf : Kx (· = f) (upd (upd H' W (.tup [.int (i : Nat), .ref p])) t (.tup [.str (pairF pr.1 pr.2).1, .str (pairF pr.1 pr.2).2])) (upd (upd (upd H' W (.tup [.int (i : Nat), .ref p])) t (.tup [.str (pairF pr.1 pr.2).1, .str (pairF pr.1 pr.2).2])) f (SetPO P w f L')) := Kx.to (Kx.refl _) (.inl rfl)
      refine ⟨_, _, _, _, _, L', rfl, Evl.Ex.upd et hfH, upd_same .., fun q hq => ?_, fun q => ?_, by omega⟩
      · rcases m1 q hq with z | z
        · obtain ⟨c1, c2, c3, c4⟩ := htp q z
          exact ⟨c1, c2, c3, kx_t' kf (kt _ _ hset) setPO_no (Evl.ex_t kt c4)⟩
        · rw [z]
          exact ⟨_, _, rfl, t_of (by rw [upd_ne htf, upd_same])⟩
      · rw [m2, hkey, etk]
        constructor
        · rintro (⟨c, hc, rfl⟩ | rfl)
          · exact ⟨c, List.mem_append_left _ hc, rfl⟩
          · exact ⟨pr, List.mem_append_right _ (List.mem_singleton.mpr rfl), rfl⟩
        · rintro ⟨c, hc, rfl⟩
          rcases List.mem_append.mp hc with z | z
          · exact .inl ⟨c, z, rfl⟩
          · rw [List.mem_singleton.mp z]
            exact .inr rfl
    · rintro σ H' ⟨v4, v5, v6, v7, v8, L, rfl, e, hset, htp, hkey, hlen⟩
      have hyl : ys.length = prs.length := pr_len hps
      rw [hyl, List.take_length] at hkey
      generalize hsk : ks.mergeSort (leD Str) = sk at q
      have hskp : sk.Perm ks := by rw [← hsk]; exact List.mergeSort_perm _ _
      -- self.kinds
      refine ⟨_, rfl, a, _, ks, fun v b => v = V.str b, rfl, .inl (Evl.ex_l e ha), pairs_str ks, fun v b hb => by rw [hb]; exact .str b, fun zs p1 hp1 hzs => ?_⟩
      rw [hsk] at hzs
      have ezs := str_pairs hzs
      subst ezs
      have k1 := ex_new (o := .lst (sk.map V.str)) hp1
      refine ⟨p1, _, rfl, .inl ⟨l_of (upd_same ..), fun l1 hl1 => ?_⟩⟩
      have k2 := Evl.Ex.trans k1 (ex_new (o := .tup (sk.map V.str)) hl1)
      have e3 := Evl.Ex.trans e k2
      refine ⟨_, rfl, x, _, dx, _, rfl, e3 _ _ hx, C.c_Table, C.n_Table_kinds, by decide, ?_⟩
      show tSeq _ _ _ _ (upd (upd (upd H' p1 (.lst (sk.map V.str))) l1 (.tup (sk.map V.str))) x (.ins (He.ga K "Table") dx [("kinds", .ref l1)]))
      have hl1x : l1 ≠ x := fun z => by rw [z, k1 _ _ (e _ _ hx)] at hl1; cases hl1
      obtain ⟨H3, hH3⟩ : ∃ H3, H3 = upd (upd (upd H' p1 (.lst (sk.map V.str))) l1 (.tup (sk.map V.str))) x (.ins (He.ga K "Table") dx [("kinds", .ref l1)]) := ⟨_, rfl⟩
      rw [← hH3]
      have x3 : H3 x = some (.ins (He.ga K "Table") dx [("kinds", .ref l1)]) := by rw [hH3]; exact upd_same ..
      have kx3 : Kx (· = x) H H3 := by rw [hH3]; exact Kx.to (Kx.ofEx e3) (.inl rfl)
      have l3 : SqT K H3 l1 (sk.map V.str) := by rw [hH3]; exact t_of (by rw [upd_ne hl1x, upd_same])
      have f3 : H3 f = some (SetPO P w f L) := by rw [hH3, upd_ne hxf.symm]; exact k2 _ _ hset
      have tp3 : TupsP K H3 L := by rw [hH3]; exact tups_t htp fun _ _ h => kx_t' (Kx.to (Kx.refl _) (.inl rfl)) (e3 _ _ hx) ins_no (Evl.ex_t k2 h)
      -- self.pairs
      refine ⟨_, rfl, f, L, rfl, f3, tp3, fun zs p2 hp2 hzl hzs => ?_⟩
      have k4 := ex_new (o := .lst zs) hp2
      refine ⟨p2, _, rfl, .inl ⟨l_of (upd_same ..), fun l2 hl2 => ?_⟩⟩
      have k5 := Evl.Ex.trans k4 (ex_new (o := .tup zs) hl2)
      have hl2x : l2 ≠ x := fun z => by rw [z, k4 _ _ x3] at hl2; cases hl2
      refine ⟨_, rfl, x, _, dx, _, rfl, k5 _ _ x3, C.c_Table, C.n_Table_pairs, by show 1 < 1000; decide, ?_⟩
      show tSeq _ _ _ _ (upd (upd (upd H3 p2 (.lst zs)) l2 (.tup zs)) x (.ins (He.ga K "Table") dx [("kinds", .ref l1), ("pairs", .ref l2)]))
      obtain ⟨H4, hH4⟩ : ∃ H4, H4 = upd (upd (upd H3 p2 (.lst zs)) l2 (.tup zs)) x (.ins (He.ga K "Table") dx [("kinds", .ref l1), ("pairs", .ref l2)]) := ⟨_, rfl⟩
      rw [← hH4]
      have x4 : H4 x = some (.ins (He.ga K "Table") dx [("kinds", .ref l1), ("pairs", .ref l2)]) := by rw [hH4]; exact upd_same ..
      have kx34 : Kx (· = x) H3 H4 := by rw [hH4]; exact Kx.to (Kx.ofEx k5) (.inl rfl)
      have kx4 : Kx (· = x) H H4 := Kx.trans kx3 kx34
      have l4 : SqT K H4 l1 (sk.map V.str) := kx_t' kx34 x3 ins_no l3
      have f4 : H4 f = some (SetPO P w f L) := kx34 _ _ hxf.symm f3
      have tp4 : TupsP K H4 L := tups_t tp3 fun _ _ h => kx_t' kx34 x3 ins_no h
      have p4 : SqT K H4 l2 zs := by rw [hH4]; exact t_of (by rw [upd_ne hl2x, upd_same])
      obtain ⟨ps, hzps⟩ : ∃ ps, Paired (PrT K H4) zs ps := by
        clear hzl p4 k5 k4 hp2 hl2 hH4 x4 kx34 kx4 l4 f4
        induction zs with
        | nil => exact ⟨[], .nil⟩
        | cons z zs ih =>
          obtain ⟨c, hc, rfl⟩ := hzs z List.mem_cons_self
          obtain ⟨c1, c2, c3, c4⟩ := tp4 c hc
          obtain ⟨ps, hps⟩ := ih fun v hv => hzs v (List.mem_cons_of_mem _ hv)
          exact ⟨(c1, c2) :: ps, .cons ⟨c.1, rfl, c4⟩ hps⟩
      -- self.linked
      intro d hd
      have hdx : d ≠ x := fun z => by rw [z, x4] at hd; cases hd
      have k6 := ex_new (o := .dK []) hd
      refine ⟨_, rfl, x, _, dx, _, rfl, k6 _ _ x4, C.c_Table, C.n_Table_linked, by show 2 < 1000; decide, ?_⟩
      show Ends.nx _ _ (upd (upd H4 d (.dK [])) x (.ins (He.ga K "Table") dx [("kinds", .ref l1), ("pairs", .ref l2), ("linked", .ref d)]))
      obtain ⟨H5, hH5⟩ : ∃ H5, H5 = upd (upd H4 d (.dK [])) x (.ins (He.ga K "Table") dx [("kinds", .ref l1), ("pairs", .ref l2), ("linked", .ref d)]) := ⟨_, rfl⟩
      rw [← hH5]
      have x5 : H5 x = some (.ins (He.ga K "Table") dx [("kinds", .ref l1), ("pairs", .ref l2), ("linked", .ref d)]) := by rw [hH5]; exact upd_same ..
      have kx45 : Kx (· = x) H4 H5 := by rw [hH5]; exact Kx.to (Kx.ofEx k6) (.inl rfl)
      have kx5 : Kx (· = x) H H5 := Kx.trans kx4 kx45
      have d5 : H5 d = some (.dK []) := by rw [hH5, upd_ne hdx, upd_same]
      have l5 : SqT K H5 l1 (sk.map V.str) := kx_t' kx45 x4 ins_no l4
      have f5 : H5 f = some (SetPO P w f L) := kx45 _ _ hxf.symm f4
      have tp5 : TupsP K H5 L := tups_t tp4 fun _ _ h => kx_t' kx45 x4 ins_no h
      have p5 : SqT K H5 l2 zs := kx_t' kx45 x4 ins_no p4
      have zp5 : Paired (PrT K H5) zs ps := pr_mono (fun _ _ ⟨c, e, h⟩ => ⟨c, e, kx_t' kx45 x4 ins_no h⟩) hzps
      have hdf : f ≠ d := fun z => by rw [← z, f4] at hd; cases hd
      have hdH : H d = none := Kx.free kx4 hdx hd
      have hndk : sk.Nodup := hskp.nodup_iff.mpr hnd
      have hskl : sk.length ≤ 12 := by rw [hskp.length_eq]; exact h2
      let lnk : Str → List Str := fun k => sk.filter fun o => !frL prs k o
      refine ⟨_, rfl, x, _, dx, _, _, rfl, x5, C.c_Table, C.n_Table_kinds, rfl, false, l1, _, rfl, l5, ?_⟩
      refine for_any (b := false) (xs := sk.map V.str) (fun i σ H' => ∃ w6 w7 w8 lk, σ = [some (.ref x), some (.ref a), some (.ref b), some (.ref f), v4, v5, w6, w7, w8] ∧ Kx (· = d) H5 H' ∧ H' d = some (.dK ((sk.take i).map fun k => ((Sum.inr k : Key), V.ref (lk k)))) ∧ ∀ k ∈ sk.take i, SqT K H' (lk k) ((lnk k).map V.str))
        ⟨v6, v7, v8, fun _ => 0, rfl, Kx.refl _, d5, fun k hk => (nomatch hk)⟩ (fun i σ H' _ ⟨_, _, _, _, _, k, _⟩ => kx_t' k d5 dK_no l5) ?_ ?_
      · rintro i v σ H6 hv ⟨w6, w7, w8, lk, rfl, k, hd6, hlk⟩
        rw [List.getElem?_map] at hv
        obtain ⟨kd, hkd, rfl⟩ := Option.map_eq_some_iff.mp hv
        have etk : sk.take (i + 1) = sk.take i ++ [kd] := by rw [List.take_add_one, hkd]; rfl
        have hnin : kd ∉ sk.take i := fun hm => by
          obtain ⟨j, hj⟩ := List.getElem?_of_mem hm
          rw [List.getElem?_take] at hj
          split at hj
          · rename_i hji
            exact nodup_ne hndk hji hj hkd
          · cases hj
        have x6 := k _ _ (fun z => hdx z.symm) x5
        have f6 := k _ _ hdf f5
        have tp6 : TupsP K H6 L := tups_t tp5 fun _ _ h => kx_t' k d5 dK_no h
        have l6 := kx_t' k d5 dK_no l5
        refine ⟨_, rfl, x, _, dx, _, _, rfl, x6, C.c_Table, C.n_Table_kinds, rfl, false, l1, _, rfl, l6, fun D hD => ?_⟩
        have hDd : D ≠ d := fun z => by rw [z, hd6] at hD; cases hD
        refine lcG (b := false) (xs := sk.map V.str) (fun j H7 => ∃ acc, Evl.Ex H6 H7 ∧ H7 D = some (.lst (acc.map V.str)) ∧ acc = (sk.take j).filter fun o => !frL prs kd o) ⟨[], ex_new hD, upd_same .., rfl⟩ (fun j H7 _ ⟨_, e, _⟩ => Evl.ex_t e l6) ?_ ?_
        · rintro j v H7 hv ⟨acc, e7, hD7, hacc⟩
          rw [List.getElem?_map] at hv
          obtain ⟨o, ho, rfl⟩ := Option.map_eq_some_iff.mp hv
          have etj : sk.take (j + 1) = sk.take j ++ [o] := by rw [List.take_add_one, ho]; rfl
          refine ⟨rfl, _, rfl, _, rfl, kd, o, rfl, fun t ht => ?_⟩
          have kt := ex_new (o := .tup [.str (pairF kd o).1, .str (pairF kd o).2]) ht
          have e8 := Evl.Ex.trans e7 kt
          refine ⟨_, rfl, f, t, _, _, L, rfl, rfl, e8 _ _ f6, tups_t tp6 (fun _ _ h => Evl.ex_t e8 h), t_of (upd_same ..), _, rfl, ?_⟩
          have hmem : decide ([(pairF kd o).1, (pairF kd o).2] ∈ L.map (·.2)) = frL prs kd o := by
            rw [Bool.eq_iff_iff, decide_eq_true_eq, hkey, ← frL_pair]
          rw [hmem]
          cases hfr : frL prs kd o with
          | true =>
            refine iteF ⟨acc, e8, kt _ _ hD7, ?_⟩
            rw [etj, List.filter_append, hacc]
            simp [hfr]
          | false =>
            refine iteT ⟨_, rfl, _, kt _ _ hD7, ?_, acc ++ [o], Evl.Ex.upd e8 hD, by rw [upd_same, List.map_append]; rfl, ?_⟩
            · rw [List.length_map, hacc]
              refine Nat.lt_of_le_of_lt (List.length_filter_le _ _) (Nat.lt_of_le_of_lt (List.length_take_le' _ _) (by omega))
            · rw [etj, List.filter_append, hacc]
              simp [hfr]
        · rintro H7 ⟨acc, e7, hD7, hacc⟩
          rw [List.length_map, List.take_length] at hacc
          refine ⟨D, _, rfl, .inl ⟨l_of hD7, fun t ht => ?_⟩⟩
          have e8 := Evl.Ex.trans e7 (ex_new (o := .tup (acc.map V.str)) ht)
          have htd : t ≠ d := fun z => by rw [z, e7 _ _ hd6] at ht; cases ht
          refine ⟨_, rfl, x, _, dx, _, _, rfl, e8 _ _ x6, C.c_Table, C.n_Table_linked, rfl, _, rfl, d, _, rfl, DPut.k (k := Sum.inr kd) (e8 _ _ hd6) (by rw [List.length_map]; exact Nat.lt_of_le_of_lt (List.length_take_le' _ _) (by omega)), ?_⟩
          refine ⟨_, _, _, fun j => if j = kd then t else lk j, rfl, Kx.to (Kx.trans k (Kx.ofEx e8)) (.inl rfl), ?_, fun j hj => ?_⟩
          · rw [upd_same, kdict_put hnin, etk]
          · rw [etk] at hj
            have kd8 : Kx (· = d) H6 (upd (upd H7 t (.tup (acc.map V.str))) d (.dK (putK ((sk.take i).map fun k => ((Sum.inr k : Key), V.ref (lk k))) (Sum.inr kd) (.ref t)))) := Kx.to (Kx.ofEx e8) (.inl rfl)
            by_cases hjk : j = kd
            · subst hjk
              show SqT K _ (if j = j then t else lk j) _
              rw [if_pos rfl]
              refine t_of ?_
              rw [upd_ne htd, upd_same, hacc]
            · show SqT K _ (if j = kd then t else lk j) _
              rw [if_neg hjk]
              rcases List.mem_append.mp hj with z | z
              · exact kx_t' kd8 hd6 dK_no (hlk j z)
              · exact absurd (List.mem_singleton.mp z) hjk
      · rintro σ H6 ⟨w6, w7, w8, lk, rfl, k, hd6, hlk⟩
        rw [List.length_map, List.take_length] at hd6 hlk
        refine q H6 ⟨sk, ps, frL prs, hndk, frL_comm prs, fun c => ?_, hskl⟩ (kx_tail kx5 k hdH) rfl rfl ⟨x, dx, l1, l2, d, zs, lk, rfl, k _ _ (fun z => hdx z.symm) x5, kx_t' k d5 dK_no l5, kx_t' k d5 dK_no p5, ?_, hd6, fun kd hk => hlk kd hk⟩
        · refine decide_eq_false ?_
          rintro (z | z) <;> exact (hpk _ z).2.2 rfl
        · exact pr_mono (fun _ _ ⟨c, e, h⟩ => ⟨c, e, kx_t' k d5 dK_no h⟩) zp5
theorem M_Table (C : Fx w K mg base) : Dk P w K mg base 3 (He.ga K "Table") (a_Table_Dinit K) (fdA K (a_Table_Dinit K)) ["self", "kinds", "pairs"] (spTInit K) "Table" := ⟨ok_Table_Dinit C, C.k_Table, C.g_Table, B_Table_Dinit C⟩
end
end K91
/-! P9 -/
namespace K91
open PySem PySem.Spec PyProof.Rows L2
open C8 (InsC call_isC pss_cut)
theorem tab_kinds {K : PySem.W.Frag} {H : Hp} {a : Addr} {T : Tb} (h : TabV K H (.ref a) T) : ∃ dx fs pk, H a = some (.ins (He.ga K "Table") dx fs) ∧ fs.lookup ("kinds" : Str) = some (.ref pk) ∧ SqT K H pk (T.kinds.map V.str) := by
  obtain ⟨a', dx, pk, pp, pl, ps, lk, e, h2, h3, _⟩ := h
  cases e
  exact ⟨dx, _, pk, h2, rfl, h3⟩
theorem tab_ex {K : PySem.W.Frag} {H H' : Hp} {v : V} {T : Tb} (e : Evl.Ex H H') (h : TabV K H v T) : TabV K H' v T := h.nx (Nx.ofEx e)
theorem kx_sy' {K : PySem.W.Frag} {d : Addr} {u : HO} {H H' : Hp} (e : Kx (· = d) H H') (hd : H d = some u) (hu : (∀ xs, u ≠ .tup xs) ∧ ∀ o v, u ≠ .frz o v) {vs : List V} {r : List Syl} (h : Sys K H vs r) : Sys K H' vs r := pr_mono (fun _ _ ⟨p, a, b⟩ => ⟨p, a, kx_t' e hd hu b⟩) h
/-- a table stays where another thing changes -/
theorem kx_tab {K : PySem.W.Frag} {d : Addr} {u : HO} {H H' : Hp} (e : Kx (· = d) H H') (hd : H d = some u) (hu : (∀ xs, u ≠ .tup xs) ∧ ∀ o v, u ≠ .frz o v) {v : V} {T : Tb} (h : TabV K H v T) (n1 : ∀ dx fs, u ≠ .ins (He.ga K "Table") dx fs) (n2 : ∀ kvs, u ≠ .dK kvs) : TabV K H' v T := by
  obtain ⟨a, dx, pk, pp, pl, vs, lk, h1, h2, h3, h4, h5, h6, h7⟩ := h
  exact ⟨a, dx, pk, pp, pl, vs, lk, h1, e _ _ (fun z => by rw [z, hd] at h2; cases h2; exact n1 _ _ rfl) h2, kx_t' e hd hu h3, kx_t' e hd hu h4, pr_mono (fun _ _ ⟨p, e1, h⟩ => ⟨p, e1, kx_t' e hd hu h⟩) h5,
    e _ _ (fun z => by rw [z, hd] at h6; cases h6; exact n2 _ rfl) h6, fun k hk => kx_t' e hd hu (h7 k hk)⟩
section
variable {P : Program} {w : World} {K : PySem.W.Frag} {mg : Str → Option Value} {base : Heap}
theorem row_ne_tab (C : Fx w K mg base) : He.ga K "Row" ≠ He.ga K "Table" := fun h => by
  have e : a_Row_Dinit K = a_Table_Dinit K := congrArg (fun z => He.ma K z "__init__") h
  obtain ⟨_, _, dV, kV, doc, pm, an, cdv, ct, _, e1, _⟩ := (F_Row_Dinit C).ex
  obtain ⟨_, _, dV', kV', doc', pm', an', cdv', ct', _, e2, _⟩ := (F_Table_Dinit C).ex
  rw [e, e2] at e1
  have q := congrArg FuncData.qualname e1
  exact absurd (show ("Table.__init__" : Str) = "Row.__init__" from q) (by decide)
def spRInit (K : PySem.W.Frag) : Sp := fun vs H Q _ => ∃ (x dx : Addr) (t : V) (T : Tb) (r : List Syl) (b : Bool) (a : Addr) (ys : List V), vs = [.ref x, t, .ref a] ∧ H x = some (.ins (He.ga K "Row") dx []) ∧ TabV K H t T ∧ SqA K H b a ys ∧ Sys K H ys r ∧ Kin T r ∧ r.length < 100000 ∧
  ∀ H', Kx (· = x) H H' → RowV K H' (.ref x) T r → Q .non H'
theorem ok_Row_Dinit (C : Fx w K mg base) : FnOk P w K mg base CX0 2 (a_Row_Dinit K) (fdA K (a_Row_Dinit K)) ["self", "table", "syllables"] (spRInit K) := by
  refine (F_Row_Dinit C).ok S_Row_Dinit (fun vs H Q E h => ?_) (fun cdv A outer s H vs Q E hr h => ?_)
  · obtain ⟨x, dx, t, T, r, b, a, ys, rfl, _⟩ := h
    rfl
  · obtain ⟨x, dx, t, T, r, b, a, ys, rfl, hx, hT, hq, hs, hk, hz, q⟩ := h
    refine ⟨_, PSs.nox (pss_cons (ps_expr (pe_cd (D_check_known C) (hr.mono (by decide)) (pa_cons (pe_fld (pv 1) rfl) (pa_cons (pe_lc (own := [("kind", 3), ("count", 4)]) (g := _) (tt := tYes) rfl S_Row_Dinit.nd (pi_any (pv 2)) (blkOk_by (own := [("kind", 3), ("count", 4)]) (N := ["self", "table", "syllables", "kind", "count"]) (sc := defScope st_Row_Dinit) (by decide +kernel))
        (fun _ _ _ _ _ => (pg_tupK (K := K) (n := 2) rfl (pgs_cons (pg_name (i := 3) S_Row_Dinit.nd rfl (Or.inl rfl)) (pgs_cons (pg_name (i := 4) S_Row_Dinit.nd rfl (Or.inl rfl)) pgs_nil)))) (fun _ _ _ _ _ => pts_nil) (fun _ _ _ _ _ => (pv 3))) pa_nil))))
      (pss_cons (ps_fld (pv 0) (pv 1) rfl)
      (pss_one (ps_fld (pv 0) (pe_callTy call_tuple_of (by rfl) C.z_tuple (by decide +kernel) (pa_cons (pe_lc (own := [("kind", 3), ("count", 4)]) (g := _) (tt := tYes) rfl S_Row_Dinit.nd (pi_any (pv 2)) (blkOk_by (own := [("kind", 3), ("count", 4)]) (N := ["self", "table", "syllables", "kind", "count"]) (sc := defScope st_Row_Dinit) (by decide +kernel))
        (fun _ _ _ _ _ => (pg_tupK (K := K) (n := 2) rfl (pgs_cons (pg_name (i := 3) S_Row_Dinit.nd rfl (Or.inl rfl)) (pgs_cons (pg_name (i := 4) S_Row_Dinit.nd rfl (Or.inl rfl)) pgs_nil)))) (fun _ _ _ _ _ => pts_nil) (fun _ _ _ _ _ => (pe_tup (pa_cons (pv 3) (pa_cons (pv 4) pa_nil))))) pa_nil)) rfl)))), ?_⟩
    obtain ⟨ta, rfl⟩ := tab_ref hT
    have hzs := sizeLine_eq
    have hlen := pr_len hs
    obtain ⟨tdx, tfs, pk, hi1, hi2, hi3⟩ := tab_kinds hT
    refine ⟨_, rfl, ta, _, tdx, _, _, rfl, hi1, C.c_Table, C.n_Table_kinds, hi2, _, rfl, b, a, ys, rfl, hq, fun D hD => ?_⟩
    have eD := ex_new (o := .lst []) hD
    refine lcG (xs := ys) (fun i H' => H' = upd H D (.lst ((r.take i).map fun y => V.str y.1))) rfl (fun i H' _ e => by rw [e]; exact sqA_ex (ex_new hD) hq) ?_ ?_
    · rintro i v H' hv rfl
      obtain ⟨y, hy, p, rfl, hp⟩ := pr_get' hs hv
      have etk : r.take (i + 1) = r.take i ++ [y] := by rw [List.take_add_one, hy]; rfl
      refine ⟨p, _, rfl, Evl.ex_t (ex_new hD) hp, rfl, _, _, rfl, _, _, rfl, rfl, rfl, _, rfl, _, upd_same .., ?_, ?_⟩
      · rw [List.length_map]
        exact Nat.lt_of_le_of_lt (List.length_take_le' _ _) (by omega)
      · rw [upd_upd, etk, List.map_append]
        rfl
    · rintro H' rfl
      rw [hlen, List.take_length]
      have e1 : Evl.Ex H (upd H D (.lst (r.map fun y => V.str y.1))) := ex_new hD
      have ekn : (r.map fun y => V.str y.1) = (r.map (·.1)).map V.str := by rw [List.map_map]; rfl
      refine ⟨pk, T.kinds, true, D, r.map (·.1), rfl, Evl.ex_t e1 hi3, l_of (by rw [upd_same, ekn]), fun n hn => ?_, ?_⟩
      · obtain ⟨y, hy, rfl⟩ := List.mem_map.mp hn
        exact hk y hy
      · have hDx : D ≠ x := fun z => by rw [z, hx] at hD; cases hD
        refine ⟨_, rfl, _, rfl, x, _, dx, _, rfl, e1 _ _ hx, C.c_Row, C.n_Row_table, by decide, ?_⟩
        show Ends.nx _ _ (upd (upd H D (.lst (r.map fun y => V.str y.1))) x (.ins (He.ga K "Row") dx [("table", .ref ta)]))
        obtain ⟨H2, hH2⟩ : ∃ H2, H2 = upd (upd H D (.lst (r.map fun y => V.str y.1))) x (.ins (He.ga K "Row") dx [("table", .ref ta)]) := ⟨_, rfl⟩
        rw [← hH2]
        have x2 : H2 x = some (.ins (He.ga K "Row") dx [("table", .ref ta)]) := by rw [hH2]; exact upd_same ..
        have kx2 : Kx (· = x) H H2 := by rw [hH2]; exact Kx.to (Kx.ofEx e1) (.inl rfl)
        have q2 : SqA K H2 b a ys := by
          cases b with
          | true =>
            rcases hq with (z | ⟨o, z⟩) | z
            · exact .inl (.inl (kx2 _ _ (fun e => by rw [e, hx] at z; cases z) z))
            · exact .inl (.inr ⟨o, kx2 _ _ (fun e => by rw [e, hx] at z; cases z) z⟩)
            · exact .inr z
          | false => exact kx_t' kx2 hx ins_no hq
        have s2 : Sys K H2 ys r := kx_sy' kx2 hx ins_no hs
        have t2 : TabV K H2 (.ref ta) T := kx_tab kx2 hx ins_no hT (fun _ _ z => by injection z with z; exact row_ne_tab C z) (fun _ z => nomatch z)
        refine ⟨_, rfl, b, a, ys, rfl, q2, fun D2 hD2 => ?_⟩
        have hD2x : D2 ≠ x := fun z => by rw [z, x2] at hD2; cases hD2
        refine lcG (xs := ys) (fun i H' => ∃ us, Evl.Ex H2 H' ∧ H' D2 = some (.lst us) ∧ Sys K H' us (r.take i)) ⟨[], ex_new hD2, upd_same .., .nil⟩ (fun i H' _ ⟨_, e, _⟩ => sqA_ex e q2) ?_ ?_
        · rintro i v H' hv ⟨us, e, hD', hus⟩
          obtain ⟨y, hy, p, rfl, hp⟩ := pr_get' s2 hv
          have etk : r.take (i + 1) = r.take i ++ [y] := by rw [List.take_add_one, hy]; rfl
          have hul := pr_len hus
          refine ⟨p, _, rfl, Evl.ex_t e hp, rfl, _, _, rfl, _, _, rfl, rfl, rfl, _, rfl, _, rfl, by show 2 ≤ sizeLine; decide, fun c hc => ?_⟩
          have kc := ex_new (o := .tup [.str y.1, .int y.2]) hc
          have hcD : c ≠ D2 := fun z => by rw [z, hD'] at hc; cases hc
          refine ⟨us, kc _ _ hD', ?_, us ++ [.ref c], Evl.Ex.upd (Evl.Ex.trans e kc) hD2, upd_same .., ?_⟩
          · rw [hul]
            exact Nat.lt_of_le_of_lt (List.length_take_le' _ _) (by omega)
          · rw [etk]
            have n2 : Nx H' (upd (upd H' c (.tup [.str y.1, .int y.2])) D2 (.lst (us ++ [.ref c]))) := Nx.upd (Nx.ofEx kc) (.inr ⟨_, hD'⟩)
            exact pr_app (sys_nx n2 hus) (.cons ⟨c, rfl, t_of (by rw [upd_ne hcD, upd_same])⟩ .nil)
        · rintro H' ⟨us, e, hD', hus⟩
          rw [hlen, List.take_length] at hus
          refine ⟨D2, us, rfl, .inl ⟨l_of hD', fun l hl => ?_⟩⟩
          have kl := ex_new (o := .tup us) hl
          have e3 := Evl.Ex.trans e kl
          refine ⟨_, rfl, x, _, dx, _, rfl, e3 _ _ x2, C.c_Row, C.n_Row_syllables, by show 1 < 1000; decide, ?_⟩
          show Ends.nx _ _ (upd (upd H' l (.tup us)) x (.ins (He.ga K "Row") dx [("table", .ref ta), ("syllables", .ref l)]))
          have hlx : l ≠ x := fun z => by rw [z, e _ _ x2] at hl; cases hl
          have kx3 : Kx (· = x) H2 (upd (upd H' l (.tup us)) x (.ins (He.ga K "Row") dx [("table", .ref ta), ("syllables", .ref l)])) := Kx.to (Kx.ofEx e3) (.inl rfl)
          have kx4 : Kx (· = x) (upd H' l (.tup us)) (upd (upd H' l (.tup us)) x (.ins (He.ga K "Row") dx [("table", .ref ta), ("syllables", .ref l)])) := Kx.to (Kx.refl _) (.inl rfl)
          refine q _ (Kx.trans kx2 kx3) ⟨x, dx, .ref ta, .ref l, rfl, upd_same .., kx_tab kx3 x2 ins_no t2 (fun _ _ z => by injection z with z; exact row_ne_tab C z) (fun _ z => nomatch z), l, us, rfl, t_of (by rw [upd_ne hlx, upd_same]), ?_⟩
          exact kx_sy' kx4 (e3 _ _ x2) ins_no (sys_ex kl hus)
theorem M_Row (C : Fx w K mg base) : Dk P w K mg base 2 (He.ga K "Row") (a_Row_Dinit K) (fdA K (a_Row_Dinit K)) ["self", "table", "syllables"] (spRInit K) "Row" := ⟨ok_Row_Dinit C, C.k_Row, C.g_Row, B_Row_Dinit C⟩
end
end K91
/-! R7 -/
/-! operators on instances of classes of one's own: len(o), str(o), o + p, ~o, x in o -/
namespace K91
open PySem PySem.Spec PyProof.Rows L2
section
variable {X : Cx} {n : Nat} {C f : Addr} {fd : FuncData} {ps : List Str} {sp : Sp}
theorem Dm.fn {P : Program} {w : World} {K : PySem.W.Frag} {mg : Str → Option Value} {base : Heap} {x : Str} (D : Dm P w K mg base n C f fd ps sp x) : FnR P w K mg base CX0 n f sp := by
  have h := D.ok.raw D.b (dvs := []) .nil
  exact h.imp fun vs H Q E z => by rw [List.append_nil]; exact z
theorem inst_of {pins : List (Addr × Obj)} {σ : L2.St} {H : Hp} {s : Shared} {a dx : Addr} {fs : List (Str × V)} (I : Inv X pins σ H s) (h : H a = some (.ins C dx fs)) : ∃ ox od, PySem.W.InstAt s.heap a ox C (some od) := by
  obtain ⟨mA, J, _⟩ := ins_get I.hok h
  obtain ⟨od, J, _⟩ := J.look
  exact ⟨_, od, J⟩
/-- len(o) -/
def rLenO (C : Addr) (sp : Sp) : List V → Hp → VK → Prop := fun xs H Q => ∃ a dx fs, xs = [V.ref a] ∧ H a = some (.ins C dx fs) ∧ sp [.ref a] H (fun z H' => ∃ i : Nat, z = .int i ∧ i < 1000000 ∧ Q (.int i) H') E0
theorem call_lenO (D : Dm X.prog X.w X.K X.mg X.base n C f fd ps sp "__len__") (hr : Room (n + 1) X.A) : CallR X (.builtin "len") (rLenO C sp) := by
  intro pins s σ H xs us Q I r h
  obtain ⟨a, dx, fs, rfl, ha, q⟩ := h
  obtain ⟨u, rfl, ru⟩ := r.one
  cases (show u = Value.ref a from ru)
  obtain ⟨ox, od, J⟩ := inst_of I ha
  obtain ⟨m, hF⟩ := I.fr
  refine PySem.W.len_K hF I.ok.mod.kin J D.m.at_ D.m.fn (wpAny_mono (wpAny_call (SlX.run_at (us := [.ref a]) (ws := [.ref a]) D.fn hr.in1 I.env0.in1 pass0 I (.cons rfl .nil) q)) (fun w s' z => ?_) fun _ _ x => x)
  obtain ⟨z', H', I', rz, i, ei, hi, qz⟩ := z
  subst ei
  obtain ⟨t, e⟩ := (show ∃ t, w = Value.int i t from rz)
  cases e
  exact ⟨⟨by omega, by omega⟩, .int i, H', I'.tok _, ⟨_, rfl⟩, qz⟩
/-- str(o) -/
def rStrO (C : Addr) (sp : Sp) : List V → Hp → VK → Prop := fun xs H Q => ∃ a dx fs, xs = [V.ref a] ∧ H a = some (.ins C dx fs) ∧ sp [.ref a] H (fun z H' => ∃ x, z = .str x ∧ Q (.str x) H') E0
theorem strOf_own {prog : Program} {w : World} {A : Around} {E : Value → Shared → Prop} {s : Shared} {K : PySem.W.Frag} {x : Addr} {ox od : Obj} {Q : Value → Shared → Prop} (hu : A.units < cLine) (hX : K.In s.heap) (I : PySem.W.InstAt s.heap x ox C (some od)) (hs : PySem.W.findIn K (.ref C) "__str__" = some (some (.ref f))) (hf : PySem.W.isFn K (.ref f) = true)
    (h : wpAny (model prog w) A (call (.ref f) [.ref x]) (fun r s₁ => ∃ y u, r = Value.str y u ∧ Q r s₁) E s) : wpAny (model prog w) A (Builtin.Str.strOf (.ref x)) Q E s := by
  unfold Builtin.Str.strOf
  refine wpAny_ite_false (by rfl) ?_
  refine wpAny_bind (wpAny_cRoomFor hu ?_)
  refine wpAny_bind (PySem.W.special_fn hX I hs (beq_iff_eq.mp hf) (wpAny_mono h (fun r s' hr => ?_) fun _ _ y => y))
  obtain ⟨y, u, rfl, hq⟩ := hr
  refine wpAny_bind (wpAny_pure ?_)
  exact wpAny_pure hq
theorem call_strO (D : Dm X.prog X.w X.K X.mg X.base n C f fd ps sp "__str__") (hr : Room (n + 2) X.A) : CallR X (.type "str") (rStrO C sp) := by
  intro pins s σ H xs us Q I r h
  obtain ⟨a, dx, fs, rfl, ha, q⟩ := h
  obtain ⟨u, rfl, ru⟩ := r.one
  cases (show u = Value.ref a from ru)
  obtain ⟨ox, od, J⟩ := inst_of I ha
  have hr1 : Room (n + 1) X.A.in1 := Room.in1 hr
  have hr2 : Room n X.A.in1.in1 := hr1.in1
  refine callType_codes (T := "str") (Bi := Builtin.«object.__init__») (Q₁ := fun r s₁ => ∃ y u, r = Value.str y u ∧ EP X pins σ Q r s₁) PySem.F.called_str (PySem.F.typeCall_str_1 _) PySem.F.entry_object_init ?_ ?_
  · refine codeAny_of_tree ?_
    show wpAny _ X.A.in1.in1 (do checkBuiltinCall "str.__new__" ⟨[.type "str", .ref a], []⟩; again (.builtin "str.__new__" ⟨[.type "str", .ref a], []⟩)) _ _ s
    refine wpAny_bind (wpAny_of_eq (PySem.F.newCall_str_1 _) (wpAny_pure ⟨plainId_quiet (by decide +kernel) _, codeAny_builtin PySem.F.entry_str_new ?_⟩))
    rw [Around.under_plainId (by decide +kernel) _]
    rw [str_new_tree]
    refine wpAny_bind (wpAny_pure ?_)
    refine wpAny_bind (wpAny_of_eq isSubtype_str_str ?_)
    refine wpAny_bind (strOf_own hr2.units0 I.kIn J D.m.at_ D.m.fn (wpAny_mono (wpAny_call (SlX.run_at (us := [.ref a]) (ws := [.ref a]) D.fn hr2 I.env0.in1.in1 pass0 I (.cons rfl .nil) q)) (fun w s' z => ?_) fun _ _ x => x))
    obtain ⟨z', H', I', rz, x, ei, qz⟩ := z
    subst ei
    obtain ⟨t, e⟩ := (show ∃ t, w = Value.str x t from rz)
    cases e
    exact ⟨x, t, rfl, wpAny_pure ⟨x, t, rfl, .str x, H', I', ⟨t, rfl⟩, qz⟩⟩
  · rintro obj s₁ ⟨y, u, rfl, hq⟩
    exact ⟨typeIs_str _ _ _, PySem.F.args_object_init_2 _ _, object_init_meets PySem.F.called_str.init.lookup PySem.F.called_str.made (by decide) X.prog X.w X.A.in1 _ s₁ ⟨typeIs_str _ _ _, rfl, hq⟩⟩
/-- o + p -/
def rAddO (C : Addr) (sp : Sp) : R2 := fun x y H Q => ∃ a b dx dy fs gs, x = .ref a ∧ y = .ref b ∧ H a = some (.ins C dx fs) ∧ H b = some (.ins C dy gs) ∧ sp [x, y] H Q E0
theorem op_addO (D : Dm X.prog X.w X.K X.mg X.base n C f fd ps sp "__add__") (hc : PySem.W.selfFirst X.K C = true) (hr : Room n X.A) : OpR X (binaryOp .Add) (rAddO C sp) := by
  intro pins s σ H x y v u Q I rx ry h
  obtain ⟨a, b, dx, dy, fs, gs, rfl, rfl, ha, hb, q⟩ := h
  cases (show v = Value.ref a from rx)
  cases (show u = Value.ref b from ry)
  obtain ⟨ox, od, J⟩ := inst_of I ha
  obtain ⟨oy, od', J'⟩ := inst_of I hb
  obtain ⟨m, hF⟩ := I.fr
  refine PySem.W.binop_K hF I.ok.mod.kin J J'.type hc D.m.at_ D.m.fn ?_
  refine wpAny_mono (wpAny_call (run_fnR (us := [.ref a, .ref b]) (vs := [.ref a, .ref b]) D.fn hr pass0 I (.cons rfl (.cons rfl .nil)) q)) (fun w s' z => ?_) fun _ _ x => x
  obtain ⟨z', H', I', rz, qz⟩ := z
  exact SlX.cmpback rz ⟨z', H', I', rz, qz⟩
/-- ~o -/
def rInvO (C : Addr) (sp : Sp) : V → Hp → VK → Prop := fun x H Q => ∃ a dx fs, x = .ref a ∧ H a = some (.ins C dx fs) ∧ sp [x] H Q E0
theorem un_invO (D : Dm X.prog X.w X.K X.mg X.base n C f fd ps sp "__invert__") (hr : Room n X.A) : UnR X (unaryOp .Invert) (rInvO C sp) := by
  intro pins s σ H x v Q I rx h
  obtain ⟨a, dx, fs, rfl, ha, q⟩ := h
  cases (show v = Value.ref a from rx)
  obtain ⟨ox, od, J⟩ := inst_of I ha
  unfold unaryOp
  refine wpAny_holding ?_
  refine wpAny_bind (m := callSpecial? (.ref a) (Str.ofString "__invert__")) (PySem.W.special_fn I.kIn J D.m.at_ (beq_iff_eq.mp D.m.fn) (wpAny_mono (wpAny_call (run_fnR (us := [.ref a]) (vs := [.ref a]) D.fn hr pass0 I (.cons rfl .nil) q)) (fun w s' z => ?_) fun _ _ x => x))
  exact wpAny_pure z
/-- x in o -/
def rInO (C : Addr) (sp : Sp) : R2 := fun x y H Q => ∃ a dx fs, y = .ref a ∧ H a = some (.ins C dx fs) ∧ sp [y, x] H (fun z H' => ∃ b, z = .bl b ∧ Q (.bl b) H') E0
theorem op_inO (D : Dm X.prog X.w X.K X.mg X.base n C f fd ps sp "__contains__") (hr : Room n X.A) : OpR X (compareOp .In) (rInO C sp) := by
  intro pins s σ H x y v u Q I rx ry h
  obtain ⟨a, dx, fs, rfl, ha, q⟩ := h
  cases (show u = Value.ref a from ry)
  obtain ⟨ox, od, J⟩ := inst_of I ha
  obtain ⟨m, hF⟩ := I.fr
  refine PySem.W.in_K hF I.ok.mod.kin J D.m.at_ D.m.fn ?_
  refine wpAny_mono (wpAny_call (run_fnR (us := [.ref a, v]) (vs := [.ref a, x]) D.fn hr pass0 I (.cons rfl (.cons rx .nil)) q)) (fun w s' z => ?_) fun _ _ x => x
  obtain ⟨z', H', I', rz, b, eb, qz⟩ := z
  subst eb
  cases (show w = Value.bool b from rz)
  exact wpAny_pure ⟨.bl b, H', I', rfl, qz⟩
def rNotInO (C : Addr) (sp : Sp) : R2 := fun x y H Q => ∃ a dx fs, y = .ref a ∧ H a = some (.ins C dx fs) ∧ sp [y, x] H (fun z H' => ∃ b, z = .bl b ∧ Q (.bl (!b)) H') E0
theorem op_notInO (D : Dm X.prog X.w X.K X.mg X.base n C f fd ps sp "__contains__") (hr : Room n X.A) : OpR X (compareOp .NotIn) (rNotInO C sp) := by
  intro pins s σ H x y v u Q I rx ry h
  obtain ⟨a, dx, fs, rfl, ha, q⟩ := h
  cases (show u = Value.ref a from ry)
  obtain ⟨ox, od, J⟩ := inst_of I ha
  obtain ⟨m, hF⟩ := I.fr
  refine PySem.W.notIn_K hF I.ok.mod.kin J D.m.at_ D.m.fn ?_
  refine wpAny_mono (wpAny_call (run_fnR (us := [.ref a, v]) (vs := [.ref a, x]) D.fn hr pass0 I (.cons rfl (.cons rx .nil)) q)) (fun w s' z => ?_) fun _ _ x => x
  obtain ⟨z', H', I', rz, b, eb, qz⟩ := z
  subst eb
  cases (show w = Value.bool b from rz)
  exact wpAny_pure ⟨.bl (!b), H', I', rfl, qz⟩
end
end K91
/-! R8 -/
/-! match of a list against rows of names, with guards -/
namespace K91
open PySem PySem.Spec PyProof.Rows L2
structure MJ (X : Cx) (cs : List MatchCase) (t : V → TS) : Prop where
  run : ∀ (pins : List (Addr × Obj)) (s : Shared) (σ : L2.St) (H : Hp) (D : Ends) (v : V) (u : Value) (b : Bool), Inv X pins σ H s → RelV v u → t v D σ H → wpAny (model X.prog X.w) X.A (matchCases cs X.env u b) (SP X pins D) X.xe s
/-- the list at v has n items: then the names are set and the guard is asked -/
def tCase (K : PySem.W.Frag) (n : Nat) (is : List Nat) (g : TT) (t : TS) (rest : V → TS) : V → TS := fun v D σ H => ∃ a xs, v = .ref a ∧ SqL K H a xs ∧
  ((xs.length = n ∧ g ((is.zip xs).foldl (fun σ z => σ.set z.1 (some z.2)) σ) H fun b H1 => if b = true then t D ((is.zip xs).foldl (fun σ z => σ.set z.1 (some z.2)) σ) H1 else rest v D ((is.zip xs).foldl (fun σ z => σ.set z.1 (some z.2)) σ) H1) ∨ (xs.length ≠ n ∧ rest v D σ H))
theorem unp_list {prog : Program} {w : World} {A : Around} {E : Value → Shared → Prop} {s : Shared} {l : Addr} {items : Array Value} {n : Nat} {Q : List Value → Shared → Prop} (hn : items.size = n) (hh : A.handled = none) (hl : s.heap.IsList l items)
    (hQ : ∀ h', Heap.ExtBut s.heap.objs.size s.heap h' → Q items.toList { s with heap := h' }) : wpAny (model prog w) A (unpackItems (.ref l) n none) Q E s := by
  subst hn
  exact PySem.W.kun_itemsOf hh hl hQ
section
variable {X : Cx} {pos p1 p2 ps : Pos}
theorem ps_match {e : Expr} {cs : List MatchCase} {te : TE} {t : V → TS} (he : PE X e te) (hc : MJ X cs t) : PS X (.Match e cs pos) (fun D σ H => te σ H fun x H1 => t x D σ H1) := by
  refine ⟨fun pins s σ H D I h => ?_⟩
  refine wpAny_Match (thn (he.run pins s σ H _ I h) fun v s1 ⟨x, H1, I1, r1, q1⟩ => ?_)
  exact hc.run pins s1 σ H1 D x v true I1 r1 q1
theorem mj_nil : MJ X [] (fun _ D σ H => D.nx σ H) := ⟨fun pins s σ H D v u b I r h => wpAny_matchCases_nil ⟨σ, H, I, h⟩⟩
/-- case _: -/
theorem mj_any {body : List Stmt} {t : TS} (h : PSs X body t) : MJ X [⟨.MatchAs none none pos, none, body⟩] (fun _ => t) := by
  refine ⟨fun pins s σ H D v u b I r q => ?_⟩
  refine wpAny_matchCases_cons (wpAny_matchPattern_Capture ?_)
  exact wpAny_assignInOrder_none (h.run pins s σ H D I q)
theorem mj_one {x : Str} {i : Nat} {g : Expr} {tg : TT} {body : List Stmt} {t : TS} {rest : List MatchCase} {tr : V → TS} (hc : X.calm = true) (hN : X.N.Nodup) (hi : X.N[i]? = some x) (hx : Loc X.env.scope x) (hg : PT X g tg) (h : PSs X body t) (hr : MJ X rest tr)
    (hf : X.fn x = true ∨ X.env.scope.names.lookup x = some .local := by first | exact .inl rfl | exact .inr rfl) : MJ X (⟨.MatchSequence [.MatchAs none (some x) p1] ps, some g, body⟩ :: rest) (tCase X.K 1 [i] tg t tr) := by
  refine ⟨fun pins s σ H D v u b I r q => ?_⟩
  obtain ⟨a, xs, rfl, hq, q⟩ := q
  cases r
  obtain ⟨its, rv, pl, hz⟩ := I.list hq
  have hsz : sizeLine = 16777216 := sizeLine_eq
  have hln := rv.length
  have hfit : (its.toArray.size : Int) < 2 ^ 63 := by
    have : its.toArray.size = its.length := rfl
    omega
  refine wpAny_matchCases_cons ?_
  rcases q with ⟨hl, q⟩ | ⟨hl, q⟩
  · have h1 : its.toArray.size = 1 := by
      show its.length = 1
      omega
    refine matchSeq_list_hit pl.isList hfit (by simpa using h1) ?_
    refine unp_list h1 (I.ok.hd hc) pl.isList fun h' hx' => ?_
    clear hfit hsz hz
    cases rv with
    | nil => exact absurd hl (by decide)
    | cons rz rt =>
      cases rt with
      | cons _ _ => exact absurd hl (by simp)
      | nil =>
        refine wpAny_matchEach_cons (wpAny_matchPattern_Capture ?_)
        refine wpAny_matchEach_nil ?_
        refine assignInOrder_cons (wpAny_bindName ?_)
        have I1 : Inv X pins σ H { s with toks := s.toks + 1 + 1, heap := h' } := (I.kept (t' := s.toks) fun b o e => hx' b o (Nat.ne_of_lt (Heap.lt_size e)) e).tok _
        refine store_ok I1 hN hi hx rz (fun s' I' => ?_) hf
        refine assignInOrder_nil ?_
        refine thn (hg.run pins s' _ H _ I' q) fun d s1 ⟨H1, I2, q1⟩ => ?_
        cases d with
        | true => exact h.run pins s1 _ H1 D I2 q1
        | false => exact hr.run pins s1 _ H1 D (.ref a) (.ref a) false I2 rfl q1
  · refine matchSeq_list_miss pl.isList hfit ?_ ?_
    · show its.length ≠ 1
      omega
    · exact hr.run pins _ σ H D (.ref a) (.ref a) false (I.tok _) rfl q
theorem mj_two {x y : Str} {i j : Nat} {g : Expr} {tg : TT} {body : List Stmt} {t : TS} {rest : List MatchCase} {tr : V → TS} (hc : X.calm = true) (hN : X.N.Nodup) (hi : X.N[i]? = some x) (hx : Loc X.env.scope x) (hj : X.N[j]? = some y) (hy : Loc X.env.scope y) (hg : PT X g tg) (h : PSs X body t) (hr : MJ X rest tr)
    (hf : X.fn x = true ∨ X.env.scope.names.lookup x = some .local := by first | exact .inl rfl | exact .inr rfl) (hf' : X.fn y = true ∨ X.env.scope.names.lookup y = some .local := by first | exact .inl rfl | exact .inr rfl) : MJ X (⟨.MatchSequence [.MatchAs none (some x) p1, .MatchAs none (some y) p2] ps, some g, body⟩ :: rest) (tCase X.K 2 [i, j] tg t tr) := by
  refine ⟨fun pins s σ H D v u b I r q => ?_⟩
  obtain ⟨a, xs, rfl, hq, q⟩ := q
  cases r
  obtain ⟨its, rv, pl, hz⟩ := I.list hq
  have hsz : sizeLine = 16777216 := sizeLine_eq
  have hln := rv.length
  have hfit : (its.toArray.size : Int) < 2 ^ 63 := by
    have : its.toArray.size = its.length := rfl
    omega
  refine wpAny_matchCases_cons ?_
  rcases q with ⟨hl, q⟩ | ⟨hl, q⟩
  · have h1 : its.toArray.size = 2 := by
      show its.length = 2
      omega
    refine matchSeq_list_hit pl.isList hfit (by simpa using h1) ?_
    refine unp_list h1 (I.ok.hd hc) pl.isList fun h' hx' => ?_
    clear hfit hsz hz
    cases rv with
    | nil => exact absurd hl (by decide)
    | cons rz rt =>
      cases rt with
      | nil => exact absurd hl (by simp)
      | cons rz2 rt =>
      cases rt with
      | cons _ _ => exact absurd hl (by simp)
      | nil =>
        refine wpAny_matchEach_cons (wpAny_matchPattern_Capture ?_)
        refine wpAny_matchEach_cons (wpAny_matchPattern_Capture ?_)
        refine wpAny_matchEach_nil ?_
        refine assignInOrder_cons (wpAny_bindName ?_)
        have I1 : Inv X pins σ H { s with toks := s.toks + 1 + 1, heap := h' } := (I.kept (t' := s.toks) fun b o e => hx' b o (Nat.ne_of_lt (Heap.lt_size e)) e).tok _
        refine store_ok I1 hN hi hx rz (fun s' I' => ?_) hf
        refine assignInOrder_cons (wpAny_bindName ?_)
        refine store_ok I' hN hj hy rz2 (fun s' I' => ?_) hf'
        refine assignInOrder_nil ?_
        refine thn (hg.run pins s' _ H _ I' q) fun d s1 ⟨H1, I2, q1⟩ => ?_
        cases d with
        | true => exact h.run pins s1 _ H1 D I2 q1
        | false => exact hr.run pins s1 _ H1 D (.ref a) (.ref a) false I2 rfl q1
  · refine matchSeq_list_miss pl.isList hfit ?_ ?_
    · show its.length ≠ 2
      omega
    · exact hr.run pins _ σ H D (.ref a) (.ref a) false (I.tok _) rfl q
end
end K91
/-! P10 -/
namespace K91
open PySem PySem.Spec PyProof.Rows L2
open C8 (InsC call_isC pss_cut)
/-! ### words -/
def partsF (y : Syl) : List Str := if y.2 = 1 then [y.1] else [y.1, intTx y.2]
def wordF (y : Syl) : Str := Str.join "^" (partsF y)
def rowTx (r : List Syl) : Str := if r = [] then "-" else Txt.join " " (r.map wordF)
theorem emp_app (x : Str) : Str.empty ++ x = x := TL.ext_tl (by rw [TL.tl_append]; rfl)
theorem wordF_one {k : Str} : wordF (k, 1) = k := rfl
theorem wordF_ne {k : Str} {n : Int} (h : n ≠ 1) : wordF (k, n) = k ++ "^" ++ intTx n := by
  unfold wordF partsF
  rw [if_neg h]
  rfl
/-- a syllable that can be written -/
structure SylOk (y : Syl) : Prop where
  nm : NameOk y.1
  le : y.2.natAbs < 10 ^ 21
theorem nat_log {n : Nat} (h : n < 10 ^ 21) : n.log2 < 1920 := by
  by_cases z : n = 0
  · subst z; decide
  · exact (Nat.log2_lt z (k := 1920)).mpr (Nat.lt_of_lt_of_le (Nat.lt_of_lt_of_le h (show 10 ^ 21 ≤ 2 ^ 70 by decide)) (Nat.pow_le_pow_right (by decide) (by decide)))
theorem intTx_len {i : Int} (h : i.natAbs < 10 ^ 21) : (intTx i).length ≤ 22 := by
  rw [TL.len_tl]
  show (intTx i).cps.toList.length ≤ 22
  rw [intTx_cps]
  have := digs_len 20 h
  split
  · simp only [List.length_cons]; omega
  · omega
theorem wordF_len {y : Syl} (h : SylOk y) : (wordF y).length ≤ 29 := by
  obtain ⟨k, n⟩ := y
  have h1 : k.length ≤ 6 := h.nm.le
  by_cases z : n = 1
  · subst z
    rw [wordF_one]
    omega
  · rw [wordF_ne z, TL.len_tl, TL.tl_append, TL.tl_append, List.length_append, List.length_append, ← TL.len_tl, ← TL.len_tl, ← TL.len_tl]
    have h2 := intTx_len h.le
    have h3 : ("^" : Str).length = 1 := rfl
    show k.length + ("^" : Str).length + (intTx n).length ≤ 29
    have h2' : (intTx n).length ≤ 22 := h2
    omega
/-- no sign of a name or a number is s -/
theorem name_no {k : Str} {s : Nat} (h : NameOk k) (hs : s ∉ lettersS.cps.toList) : s ∉ TL.tl k := fun z => hs (h.ab s z)
theorem int_no {i : Int} {s : Nat} (hs : s ≠ 45) (hd : s < 48 ∨ 57 < s) : s ∉ TL.tl (intTx i) := by
  show s ∉ (intTx i).cps.toList
  rw [intTx_cps]
  have h : s ∉ digs i.natAbs := fun z => by
    have := digs_all i.natAbs s z
    omega
  split
  · exact fun z => (List.mem_cons.mp z).elim hs h
  · exact h
theorem word_split {y : Syl} (h : SylOk y) : Txt.split (wordF y) "^" = partsF y := by
  show Txt.split (Str.join "^" (partsF y)) "^" = partsF y
  rw [← TL.join_eq]
  refine TL.split_join (s := 94) (S := []) rfl (by decide +kernel) ?_ ?_
  · unfold partsF; split <;> simp
  · intro p hp
    unfold partsF at hp
    split at hp
    · rw [List.mem_singleton] at hp
      subst hp
      exact name_no h.nm (by decide)
    · rcases List.mem_cons.mp hp with e | hp
      · subst e
        exact name_no h.nm (by decide)
      · rw [List.mem_singleton] at hp
        subst hp
        exact int_no (by decide) (.inr (by decide))
theorem word_no_space {y : Syl} (h : SylOk y) : (32 : Nat) ∉ TL.tl (wordF y) := by
  obtain ⟨k, n⟩ := y
  have h1 : (32 : Nat) ∉ TL.tl k := name_no h.nm (by decide)
  by_cases z : n = 1
  · subst z
    exact h1
  · rw [wordF_ne z, TL.tl_append, TL.tl_append]
    have h2 : (32 : Nat) ∉ TL.tl (intTx n) := int_no (by decide) (.inl (by decide))
    simp only [List.mem_append, not_or]
    exact ⟨⟨h1, by decide⟩, h2⟩
theorem row_split {r : List Syl} (hne : r ≠ []) (h : ∀ y ∈ r, SylOk y) : Txt.split (rowTx r) " " = r.map wordF := by
  unfold rowTx
  rw [if_neg hne]
  refine TL.split_join (s := 32) (S := []) rfl (by decide +kernel) (fun e => hne (List.map_eq_nil_iff.mp e)) fun p hp => ?_
  obtain ⟨y, hy, rfl⟩ := List.mem_map.mp hp
  exact word_no_space (h y hy)
theorem joinL_len (S : List Nat) : ∀ ps : List (List Nat), (TL.joinL S ps).length ≤ (ps.map List.length).sum + ps.length * S.length
  | [] => by simp [TL.joinL]
  | [p] => by simp [TL.joinL]
  | p :: q :: r => by
    have ih := joinL_len S (q :: r)
    show (p ++ (S ++ TL.joinL S (q :: r))).length ≤ _
    rw [List.length_append, List.length_append]
    simp only [List.map_cons, List.sum_cons, List.length_cons] at ih ⊢
    rw [Nat.add_mul] at ih ⊢
    rw [Nat.add_mul, Nat.one_mul] at *
    omega
theorem words_sum : ∀ {r : List Syl}, (∀ y ∈ r, SylOk y) → ((r.map wordF).map (·.length)).sum ≤ r.length * 29
  | [], _ => by simp
  | y :: r, h => by
    have h1 := wordF_len (h y List.mem_cons_self)
    have h2 := words_sum fun z hz => h z (List.mem_cons_of_mem y hz)
    simp only [List.map_cons, List.sum_cons, List.length_cons]
    rw [Nat.add_mul, Nat.one_mul]
    omega
theorem rowTx_len {r : List Syl} (h : ∀ y ∈ r, SylOk y) (hl : r.length < 100) : (rowTx r).length ≤ 10000 := by
  unfold rowTx
  split
  · decide
  · rw [TL.join_eq, TL.len_tl, TL.tl_join]
    have h1 := joinL_len (TL.tl " ") ((r.map wordF).map TL.tl)
    have h2 := words_sum h
    have h3 : (((r.map wordF).map TL.tl).map List.length) = (r.map wordF).map (·.length) := by
      rw [List.map_map]
      exact List.map_congr_left fun x _ => (TL.len_tl x).symm
    rw [h3] at h1
    have h4 : (TL.tl " ").length = 1 := rfl
    rw [h4] at h1
    simp only [List.length_map] at h1
    omega
theorem rowTx_ne {r : List Syl} (hne : r ≠ []) (h : ∀ y ∈ r, SylOk y) : rowTx r ≠ "-" := by
  intro e
  have h1 := row_split hne h
  rw [e] at h1
  have h2 : Txt.split ("-" : Str) " " = [("-" : Str)] := by decide +kernel
  rw [h2] at h1
  match r, h, h1 with
  | [y], h, h1 =>
    have h3 : ("-" : Str) = wordF y := by
      injection h1
    have h4 := word_split (h y List.mem_cons_self)
    rw [← h3] at h4
    have h5 : Txt.split ("-" : Str) "^" = [("-" : Str)] := by decide +kernel
    rw [h5] at h4
    have h6 : y.1 = "-" := by
      unfold partsF at h4
      split at h4
      · injection h4 with h4 _
        exact h4.symm
      · injection h4 with _ h4
        cases h4
    have h7 := (h y List.mem_cons_self).nm.ab 45 (by rw [h6]; decide)
    exact absurd h7 (by decide)
  | y :: z :: r, h, h1 =>
    injection h1 with _ h1
    cases h1
end K91
/-! P11 -/
namespace K91
open PySem PySem.Spec PyProof.Rows L2
open C8 (InsC call_isC pss_cut)
section
variable {P : Program} {w : World} {K : PySem.W.Frag} {mg : Str → Option Value} {base : Heap}
/-! ### word_of -/
def spWord (K : PySem.W.Frag) : Sp := fun vs H Q _ => ∃ v y, vs = [v] ∧ Sy K H v y ∧ SylOk y ∧ Q (.str (wordF y)) H
theorem ok_word_of (C : Fx w K mg base) : FnOk P w K mg base CX0 1 (a_word_of K) (fdA K (a_word_of K)) ["syllable"] (spWord K) := by
  refine (F_word_of C).ok S_word_of (fun vs H Q E h => ?_) (fun cdv A outer s H vs Q E hr h => ?_)
  · obtain ⟨v, y, rfl, _⟩ := h
    rfl
  · obtain ⟨v, ⟨k, n⟩, rfl, ⟨p, rfl, hp⟩, hy, q⟩ := h
    refine ⟨_, (pss_cons (ps_asg (pv 0) (pg_tup rfl (pgs_cons (pg_name (i := 1) S_word_of.nd rfl (Or.inl rfl)) (pgs_cons (pg_name (i := 2) S_word_of.nd rfl (Or.inl rfl)) pgs_nil))))
      (pss_one (ps_ret (pe_ifExp (pt_cmpR op_eq (pv 2) pe_int (nomark _)) (pv 1) (pe_joined (.cons (pe_fmt (pv 1)) (.cons pe_str (.cons (pe_fmt (pv 2)) .nil)))))))), ?_⟩
    have hz := sizeLine_eq
    refine ⟨_, rfl, p, _, rfl, hp, rfl, _, _, rfl, _, _, rfl, rfl, ?_⟩
    refine ⟨_, rfl, rfl, _, rfl, ?_⟩
    have hl1 : k.length ≤ 6 := hy.nm.le
    have hl2 : (intTx n).length ≤ 22 := intTx_len hy.le
    by_cases hn : n = 1
    · subst hn
      rw [wordF_one] at q
      exact iteT ⟨_, rfl, q⟩
    · rw [wordF_ne hn] at q
      have e0 : decide (V.int n = V.int 1) = false := decide_eq_false fun z => hn (V.int.inj z)
      rw [e0]
      refine iteF ?_
      have l3 : (Str.empty ++ k ++ ("^" : Str)).length = k.length + 1 := by
        rw [emp_app, TL.len_tl, TL.tl_append, List.length_append, ← TL.len_tl]
        rfl
      refine ⟨V.str k, rfl, .inl ⟨k, rfl, by omega, _, rfl, by rw [emp_app]; omega, ("^" : Str), rfl, by rw [l3]; omega, _, rfl, .inr ⟨n, rfl, nat_log hy.le, intTx n, rfl, ?_, ?_⟩⟩⟩
      · rw [TL.len_tl, TL.tl_append, List.length_append, ← TL.len_tl, ← TL.len_tl, l3]
        omega
      · rw [emp_app]
        exact q
theorem D_word_of (C : Fx w K mg base) : Dn P w K mg base 1 (a_word_of K) (fdA K (a_word_of K)) ["syllable"] (spWord K) "word_of" := ⟨ok_word_of C, C.g_word_of, (F_word_of C).kp, B_word_of C⟩
/-! ### len(row) -/
def spRLen (K : PySem.W.Frag) : Sp := fun vs H Q _ => ∃ v T r, vs = [v] ∧ RowV K H v T r ∧ Q (.int (r.length : Nat)) H
theorem ok_Row_Dlen (C : Fx w K mg base) : FnOk P w K mg base CX0 1 (a_Row_Dlen K) (fdA K (a_Row_Dlen K)) ["self"] (spRLen K) := by
  refine (F_Row_Dlen C).ok S_Row_Dlen (fun vs H Q E h => ?_) (fun cdv A outer s H vs Q E hr h => ?_)
  · obtain ⟨v, T, r, rfl, _⟩ := h
    rfl
  · obtain ⟨v, T, r, rfl, ⟨a, dx, t, p, rfl, ha, hT, p', us, rfl, hp, hs⟩, q⟩ := h
    refine ⟨_, (pss_one (ps_ret (pe_callB call_len_seq (by rfl) C.z_len (by decide +kernel) (pa_cons (pe_fld (pv 0) rfl) pa_nil)))), ?_⟩
    refine ⟨_, rfl, a, _, dx, _, _, rfl, ha, C.c_Row, C.n_Row_syllables, rfl, p', us, rfl, .inr hp, ?_⟩
    rw [pr_len hs]
    exact q
theorem L_Row (C : Fx w K mg base) : Dm P w K mg base 1 (He.ga K "Row") (a_Row_Dlen K) (fdA K (a_Row_Dlen K)) ["self"] (spRLen K) "__len__" := ⟨ok_Row_Dlen C, C.c_Row, C.m_Row_Dlen, B_Row_Dlen C⟩
/-! ### ~row -/
def undF (r : List Syl) : List Syl := (r.map fun y => (y.1, -y.2)).reverse
def spRInv (K : PySem.W.Frag) : Sp := fun vs H Q _ => ∃ v T r, vs = [v] ∧ RowV K H v T r ∧ Kin T r ∧ r.length < 100000 ∧ ∀ p H', Evl.Ex H H' → H p = none → RowV K H' (.ref p) T (undF r) → Q (.ref p) H'
theorem ok_Row_Dinvert (C : Fx w K mg base) : FnOk P w K mg base CX0 4 (a_Row_Dinvert K) (fdA K (a_Row_Dinvert K)) ["self"] (spRInv K) := by
  refine (F_Row_Dinvert C).ok S_Row_Dinvert (fun vs H Q E h => ?_) (fun cdv A outer s H vs Q E hr h => ?_)
  · obtain ⟨v, T, r, rfl, _⟩ := h
    rfl
  · obtain ⟨v, T, r, rfl, ⟨a, dx, t, p, rfl, ha, hT, p', us, rfl, hp, hs⟩, hk, hl, q⟩ := h
    refine ⟨_, (pss_one (ps_ret (pe_mk (M_Row C) (hr.mono (by decide)) (pa_cons (pe_fld (pv 0) rfl) (pa_cons (pe_lc (own := [("kind", 1), ("count", 2)]) (g := _) (tt := tYes) rfl S_Row_Dinvert.nd (pi_any (pe_revT (pe_fld (pv 0) rfl))) (blkOk_by (own := [("kind", 1), ("count", 2)]) (N := ["self", "kind", "count"]) (sc := defScope st_Row_Dinvert) (by decide +kernel)) (fun _ _ _ _ _ => (pg_tupK (K := K) (n := 2) rfl (pgs_cons (pg_name (i := 1) S_Row_Dinvert.nd rfl (Or.inl rfl)) (pgs_cons (pg_name (i := 2) S_Row_Dinvert.nd rfl (Or.inl rfl)) pgs_nil)))) (fun _ _ _ _ _ => pts_nil) (fun _ _ _ _ _ => (pe_tup (pa_cons (pv 1) (pa_cons (pe_un un_neg (pv 2)) pa_nil))))) pa_nil))))), ?_⟩
    have hzs := sizeLine_eq
    have hlen := pr_len hs
    refine ⟨_, rfl, a, _, dx, _, _, rfl, ha, C.c_Row, C.n_Row_table, rfl, ?_⟩
    refine ⟨_, rfl, a, _, dx, _, _, rfl, ha, C.c_Row, C.n_Row_syllables, rfl, p', us, rfl, hp, fun z hz => ?_⟩
    have ez := ex_new (o := .tup us.reverse) hz
    have hs1 : Sys K (upd H z (.tup us.reverse)) us.reverse r.reverse := pr_rev (sys_ex ez hs)
    refine ⟨false, z, us.reverse, rfl, t_of (upd_same ..), fun D hD => ?_⟩
    have eD := ex_new (o := .lst []) hD
    refine lcG (xs := us.reverse) (fun i H' => ∃ zs, Evl.Ex (upd H z (.tup us.reverse)) H' ∧ H' D = some (.lst zs) ∧ Sys K H' zs ((r.reverse.map fun y => (y.1, -y.2)).take i)) ⟨[], eD, upd_same .., .nil⟩ (fun i H' _ ⟨_, e, _⟩ => Evl.ex_t e (t_of (upd_same ..))) ?_ ?_
    · rintro i v H' hv ⟨zs, e, hD', hzz⟩
      obtain ⟨y, hy, p, rfl, hp⟩ := pr_get' hs1 hv
      have etk : (r.reverse.map fun y => (y.1, -y.2)).take (i + 1) = (r.reverse.map fun y => (y.1, -y.2)).take i ++ [(y.1, -y.2)] := by rw [List.take_add_one, List.getElem?_map, hy]; rfl
      have hul := pr_len hzz
      refine ⟨p, _, rfl, Evl.ex_t e hp, rfl, _, _, rfl, _, _, rfl, rfl, rfl, _, rfl, _, rfl, ?_⟩
      refine ⟨y.2, rfl, by show 2 ≤ sizeLine; decide, fun c hc => ?_⟩
      have kc := ex_new (o := .tup [.str y.1, .int (-y.2)]) hc
      have hcD : c ≠ D := fun z => by rw [z, hD'] at hc; cases hc
      refine ⟨zs, kc _ _ hD', ?_, zs ++ [.ref c], Evl.Ex.upd (Evl.Ex.trans e kc) hD, upd_same .., ?_⟩
      · rw [hul]
        exact Nat.lt_of_le_of_lt (List.length_take_le' _ _) (by rw [List.length_map, List.length_reverse]; omega)
      · rw [etk]
        have n2 : Nx H' (upd (upd H' c (.tup [.str y.1, .int (-y.2)])) D (.lst (zs ++ [.ref c]))) := Nx.upd (Nx.ofEx kc) (.inr ⟨_, hD'⟩)
        exact pr_app (sys_nx n2 hzz) (.cons ⟨c, rfl, t_of (by rw [upd_ne hcD, upd_same])⟩ .nil)
    · rintro H' ⟨zs, e, hD', hzz⟩
      rw [List.length_reverse, hlen, List.take_of_length_le (by rw [List.length_map, List.length_reverse]; omega)] at hzz
      have eu : (r.reverse.map fun y => (y.1, -y.2)) = undF r := by unfold undF; rw [List.map_reverse]
      rw [eu] at hzz
      have e1 := Evl.Ex.trans ez e
      intro x dx hx hdx hne
      have ex1 : Evl.Ex H' (upd (upd H' dx (.own x)) x (.ins (He.ga K "Row") dx [])) := Evl.Ex.upd (ex_new hdx) hx
      have hDx : D ≠ x := fun z => by rw [z, hx] at hD'; cases hD'
      refine ⟨x, dx, t, T, undF r, true, D, zs, rfl, upd_same .., hT.nx (Nx.ofEx (Evl.Ex.trans e1 ex1)), l_of (ex1 _ _ hD'), sys_ex ex1 hzz, ?_, by unfold undF; rw [List.length_reverse, List.length_map]; exact hl, fun H2 e2 hv => ⟨rfl, ?_⟩⟩
      · intro y hy
        unfold undF at hy
        rw [List.mem_reverse, List.mem_map] at hy
        obtain ⟨z, hz, rfl⟩ := hy
        exact hk z hz
      · have eA := Evl.Ex.trans e1 (ex_new (o := .own x) hdx)
        have hx2 : upd H' dx (.own x) x = none := by rw [upd_ne (fun z => hne z.symm)]; exact hx
        refine q x H2 ?_ (ex_free e1 hx) hv
        exact Kx.exOf (Kx.trans (Kx.ofEx (Evl.Ex.trans e1 ex1)) e2) (fun a ha => by rw [ha]; exact ex_free e1 hx)
theorem I_Row (C : Fx w K mg base) : Dm P w K mg base 4 (He.ga K "Row") (a_Row_Dinvert K) (fdA K (a_Row_Dinvert K)) ["self"] (spRInv K) "__invert__" := ⟨ok_Row_Dinvert C, C.c_Row, C.m_Row_Dinvert, B_Row_Dinvert C⟩
end
end K91
/-! P12 -/
namespace K91
open PySem PySem.Spec PyProof.Rows L2
open C8 (InsC call_isC pss_cut)
section
variable {P : Program} {w : World} {K : PySem.W.Frag} {mg : Str → Option Value} {base : Heap}
/-- behind Row(..) -/
theorem mkRow {H' : Hp} {t : V} {T : Tb} {r : List Syl} {b : Bool} {D : Addr} {zs : List V} {Q : VK} (hT : TabV K H' t T) (hD : SqA K H' b D zs) (hs : Sys K H' zs r) (hk : Kin T r) (hl : r.length < 100000)
    (q : ∀ p H2, Evl.Ex H' H2 → H' p = none → RowV K H2 (.ref p) T r → Q (.ref p) H2) : ∀ x dx, H' x = none → H' dx = none → dx ≠ x →
    spRInit K (.ref x :: ([t, .ref D] ++ [])) (upd (upd H' dx (.own x)) x (.ins (He.ga K "Row") dx [])) (fun v H2 => v = .non ∧ Q (.ref x) H2) E0 := by
  intro x dx hx hdx hne
  have ex1 : Evl.Ex H' (upd (upd H' dx (.own x)) x (.ins (He.ga K "Row") dx [])) := Evl.Ex.upd (ex_new hdx) hx
  refine ⟨x, dx, t, T, r, b, D, zs, rfl, upd_same .., hT.nx (Nx.ofEx ex1), sqA_ex ex1 hD, sys_ex ex1 hs, hk, hl, fun H2 e2 hv => ⟨rfl, ?_⟩⟩
  exact q x H2 (Kx.exOf (Kx.trans (Kx.ofEx ex1) e2) (fun a ha => by rw [ha]; exact hx)) hx hv
/-! ### row + row -/
theorem ne_tab (C : Fx w K mg base) {X : Cx} {n : Nat} (hP : X.prog = P) (hw : X.w = w) (hK : X.K = K) (hm : X.mg = mg) (hb : X.base = base) (hr : Room 2 X.A) : OpR X (compareOp .NotEq) (rNeG (DIns (He.ga K "Table") (TabE K))) := by
  subst hP hw hK hm hb
  exact op_neG (ok_Table_Deq C) C.m_Table_Deq.at_ C.m_Table_Deq.fn (B_Table_Deq C) pass0 C.ins_Table.hm C.ne_Table hr
theorem eq_tab (C : Fx w K mg base) {X : Cx} (hP : X.prog = P) (hw : X.w = w) (hK : X.K = K) (hm : X.mg = mg) (hb : X.base = base) (hr : Room 1 X.A) : OpR X (compareOp .Eq) (rEqG (DIns (He.ga K "Table") (TabE K))) := by
  subst hP hw hK hm hb
  exact op_eqG (rcG_ins (ok_Table_Deq C) C.m_Table_Deq.at_ C.m_Table_Deq.fn (B_Table_Deq C) pass0) hr
/-- two tables that say the same, as == and != ask it -/
theorem dtab {H : Hp} {u v : V} {T : Tb} (h1 : TabV K H u T) (h2 : TabV K H v T) : DIns (He.ga K "Table") (TabE K) u v H := by
  obtain ⟨a, dx, pk, pp, pl, vs, lk, e1, i1, _⟩ := id h1
  obtain ⟨b, dy, pk', pp', pl', vs', lk', e2, i2, _⟩ := id h2
  subst e1 e2
  exact ⟨a, b, dx, dy, _, _, rfl, rfl, i1, i2, T, h1, h2⟩
def spRAdd (K : PySem.W.Frag) : Sp := fun vs H Q _ => ∃ u v T r s, vs = [u, v] ∧ RowV K H u T r ∧ RowV K H v T s ∧ Kin T r ∧ Kin T s ∧ r.length + s.length < 100000 ∧ ∀ p H', Evl.Ex H H' → H p = none → RowV K H' (.ref p) T (r ++ s) → Q (.ref p) H'
theorem ok_Row_Dadd (C : Fx w K mg base) : FnOk P w K mg base CX0 4 (a_Row_Dadd K) (fdA K (a_Row_Dadd K)) ["self", "other"] (spRAdd K) := by
  refine (F_Row_Dadd C).ok S_Row_Dadd (fun vs H Q E h => ?_) (fun cdv A outer s H vs Q E hr h => ?_)
  · obtain ⟨u, v, T, r, s, rfl, _⟩ := h
    rfl
  · obtain ⟨u, v, T, r, s2, rfl, ⟨a, dx, t, p, rfl, ha, hT, p1, us, rfl, hp, hs⟩, ⟨b, dy, t', p', rfl, hb, hT', p2, us2, rfl, hp2, hs2⟩, hk, hk2, hl, q⟩ := h
    refine ⟨_, (pss_cons (ps_if (pt_cmpR (ne_tab (n := 2) C rfl rfl rfl rfl rfl (hr.mono (by decide))) (pe_fld (pv 0) rfl) (pe_fld (pv 1) rfl) (nomark _))
        (pss_one ps_never)
        pss_nil)
      (pss_one (ps_ret (pe_mk (M_Row C) (hr.mono (by decide)) (pa_cons (pe_fld (pv 0) rfl) (pa_cons (pe_lst (StX.pa_star (pe_fld (pv 0) rfl) (StX.pa_star (pe_fld (pv 1) rfl) pa_nil))) pa_nil)))))), ?_⟩
    have hzs := sizeLine_eq
    have hl1 := pr_len hs
    have hl2 := pr_len hs2
    refine ⟨_, rfl, a, _, dx, _, _, rfl, ha, C.c_Row, C.n_Row_table, rfl, _, rfl, b, _, dy, _, _, rfl, hb, C.c_Row, C.n_Row_table, rfl, dtab hT hT', fun H1 e1 => ⟨_, rfl, ?_⟩⟩
    refine iteF ?_
    refine ⟨_, rfl, a, _, dx, _, _, rfl, e1 _ _ ha, C.c_Row, C.n_Row_table, rfl, ?_⟩
    refine ⟨_, rfl, a, _, dx, _, _, rfl, e1 _ _ ha, C.c_Row, C.n_Row_syllables, rfl, p1, us, rfl, .inl (Evl.ex_t e1 hp), ?_⟩
    refine ⟨_, rfl, b, _, dy, _, _, rfl, e1 _ _ hb, C.c_Row, C.n_Row_syllables, rfl, p2, us2, rfl, .inl (Evl.ex_t e1 hp2), ?_⟩
    refine ⟨by rw [List.append_nil, List.length_append]; omega, fun D hD => ?_⟩
    have e2 := Evl.Ex.trans e1 (ex_new (o := .lst (us ++ (us2 ++ []))) hD)
    refine mkRow (b := true) (hT.nx (Nx.ofEx e2)) (l_of (upd_same ..)) (r := r ++ s2) ?_ ?_ (by rw [List.length_append]; exact hl) ?_
    · have z := sys_ex e2 (pr_app hs hs2)
      rw [List.append_nil] at z ⊢
      exact z
    · intro y hy
      rcases List.mem_append.mp hy with h | h
      · exact hk y h
      · exact hk2 y h
    · intro p H2 e3 hp hv
      exact q p H2 (Evl.Ex.trans e2 e3) (ex_free e2 hp) hv
theorem A_Row (C : Fx w K mg base) : Dm P w K mg base 4 (He.ga K "Row") (a_Row_Dadd K) (fdA K (a_Row_Dadd K)) ["self", "other"] (spRAdd K) "__add__" := ⟨ok_Row_Dadd C, C.c_Row, C.m_Row_Dadd, B_Row_Dadd C⟩
/-! ### row == row -/
theorem syl_dp {H : Hp} : ∀ {vs : List V} {r : List Syl}, Sys K H vs r → DpAll K H vs (r.map fun y => PyData.tuple [.str y.1, .int y.2])
  | _, _, .nil => .nil
  | _, _, .cons ⟨p, e, h⟩ t => by
    subst e
    exact .cons (.tup h (.cons (.str _) (.cons (.int _) .nil))) (syl_dp t)
def RowE (K : PySem.W.Frag) (a b : Addr) (H : Hp) : Prop := ∃ T r, RowV K H (.ref a) T r ∧ RowV K H (.ref b) T r
theorem ok_Row_Deq (C : Fx w K mg base) : FnOk P w K mg base CX0 2 (a_Row_Deq K) (fdA K (a_Row_Deq K)) ["self", "other"] (spEq (RowE K)) := by
  refine (F_Row_Deq C).ok S_Row_Deq (fun vs H Q E h => ?_) (fun cdv A outer s H vs Q E hr h => ?_)
  · obtain ⟨a, b, rfl, _⟩ := h
    rfl
  · obtain ⟨a, b, rfl, ⟨T, r, ⟨a', dx, t, p, e, ha, hT, p1, us, rfl, hp, hs⟩, ⟨b', dy, t', p', e', hb, hT', p2, us2, rfl, hp2, hs2⟩⟩, q⟩ := h
    cases e
    cases e'
    refine ⟨_, (pss_one (ps_ret (pe_and (pe_callB (call_isC C.ins_Row) (by rfl) C.z_isinstance (by decide +kernel) (pa_cons (pv 1) (pa_cons (pe_glob (v := .ref (He.ga K "Row")) rfl C.g_Row rfl) pa_nil)))
      (pe_and (pe_cmpR (eq_tab C rfl rfl rfl rfl rfl (hr.mono (by decide))) (pe_fld (pv 0) rfl) (pe_fld (pv 1) rfl) (nomark _)) (pe_one (pe_cmpR (op_eqT (α := PySem.W.Tup (Str × Int)) hr.units (by decide)) (pe_fld (pv 0) rfl) (pe_fld (pv 1) rfl) (nomark _))))))), ?_⟩
    refine ⟨_, rfl, _, dy, _, rfl, hb, true, rfl, iteT ?_⟩
    refine ⟨_, rfl, a, _, dx, _, _, rfl, ha, C.c_Row, C.n_Row_table, rfl, _, rfl, b, _, dy, _, _, rfl, hb, C.c_Row, C.n_Row_table, rfl, dtab hT hT', fun H1 e1 => ⟨true, rfl, iteT ?_⟩⟩
    refine ⟨_, rfl, a, _, dx, _, _, rfl, e1 _ _ ha, C.c_Row, C.n_Row_syllables, rfl, _, rfl, b, _, dy, _, _, rfl, e1 _ _ hb, C.c_Row, C.n_Row_syllables, rfl, ⟨r⟩, ⟨r⟩, .tup (Evl.ex_t e1 hp) (syl_dp (sys_ex e1 hs)), .tup (Evl.ex_t e1 hp2) (syl_dp (sys_ex e1 hs2)), ?_⟩
    rw [decide_eq_true rfl]
    exact q H1 e1
/-! ### str(row) -/
def spRStr (K : PySem.W.Frag) : Sp := fun vs H Q _ => ∃ v T r, vs = [v] ∧ RowV K H v T r ∧ (∀ y ∈ r, SylOk y) ∧ r.length < 100 ∧ ∀ H', Evl.Ex H H' → Q (.str (rowTx r)) H'
theorem ok_Row_Dstr (C : Fx w K mg base) : FnOk P w K mg base CX0 2 (a_Row_Dstr K) (fdA K (a_Row_Dstr K)) ["self"] (spRStr K) := by
  refine (F_Row_Dstr C).ok S_Row_Dstr (fun vs H Q E h => ?_) (fun cdv A outer s H vs Q E hr h => ?_)
  · obtain ⟨v, T, r, rfl, _⟩ := h
    rfl
  · obtain ⟨v, T, r, rfl, ⟨a, dx, t, p, rfl, ha, hT, p', us, rfl, hp, hs⟩, hok, hl, q⟩ := h
    refine ⟨_, (pss_cons (ps_if (pt_cmpR op_eq (pe_callB call_len_seq (by rfl) C.z_len (by decide +kernel) (pa_cons (pe_fld (pv 0) rfl) pa_nil)) pe_int (nomark _))
        (pss_one (ps_ret pe_str))
        pss_nil)
      (pss_one (ps_ret (pe_join pe_str (pe_lc (own := [("syllable", 1)]) (g := gName 1) (tt := tYes) rfl S_Row_Dstr.nd (pi_any (pe_fld (pv 0) rfl)) (blkOk_by (own := [("syllable", 1)]) (N := ["self", "syllable"]) (sc := defScope st_Row_Dstr) (by decide +kernel)) (fun _ _ _ _ _ => (pg_name (i := 1) S_Row_Dstr.nd rfl (Or.inl rfl))) (fun _ _ _ _ _ => pts_nil) (fun _ _ _ _ _ => (pe_cd (D_word_of C) (by exact hr.mono (by decide)) (pa_cons (pv 1) pa_nil)))))))), ?_⟩
    have hzs := sizeLine_eq
    have hlen := pr_len hs
    refine ⟨_, rfl, a, _, dx, _, _, rfl, ha, C.c_Row, C.n_Row_syllables, rfl, p', us, rfl, .inr hp, rfl, _, rfl, ?_⟩
    rw [hlen]
    refine ite2 (fun z => ?_) (fun z => ?_)
    · have z0 : r.length = 0 := by
        have := V.int.inj (of_decide_eq_true z)
        omega
      have hr0 : rowTx r = "-" := by
        unfold rowTx
        rw [if_pos (List.length_eq_zero_iff.mp z0)]
      have := q H (Evl.Ex.refl _)
      rw [hr0] at this
      exact this
    · have hne : r ≠ [] := fun e => z (by rw [e]; rfl)
      refine ⟨⟨_, rfl⟩, _, rfl, a, _, dx, _, _, rfl, ha, C.c_Row, C.n_Row_syllables, rfl, false, p', us, rfl, hp, fun D hD => ?_⟩
      refine lcG (xs := us) (fun i H' => H' = upd H D (.lst ((r.take i).map fun y => V.str (wordF y)))) rfl (fun i H' _ e => by rw [e]; exact sqA_ex (ex_new hD) (b := false) hp) ?_ ?_
      · rintro i v H' hv rfl
        obtain ⟨y, hy, hsy⟩ := pr_get' hs hv
        have etk : r.take (i + 1) = r.take i ++ [y] := by rw [List.take_add_one, hy]; rfl
        refine ⟨rfl, _, rfl, v, y, rfl, hsy.nx (Nx.ofEx (ex_new hD)), hok y (List.mem_of_getElem? hy), _, upd_same .., ?_, ?_⟩
        · rw [List.length_map]
          exact Nat.lt_of_le_of_lt (List.length_take_le' _ _) (by omega)
        · rw [upd_upd, etk, List.map_append]
          rfl
      · rintro H' rfl
        rw [hlen, List.take_length]
        have eD : Evl.Ex H (upd H D (.lst (r.map fun y => V.str (wordF y)))) := ex_new hD
        have ekn : (r.map fun y => V.str (wordF y)) = (r.map wordF).map V.str := by rw [List.map_map]; rfl
        refine ⟨_, D, r.map wordF, rfl, rfl, .inl (l_of (by rw [upd_same, ekn])), ?_, ?_⟩
        · have := words_sum hok
          rw [List.length_map]
          show _ + r.length * 1 ≤ _
          omega
        · have := q _ eD
          unfold rowTx at this
          rw [if_neg hne] at this
          exact this
theorem S_Row (C : Fx w K mg base) : Dm P w K mg base 2 (He.ga K "Row") (a_Row_Dstr K) (fdA K (a_Row_Dstr K)) ["self"] (spRStr K) "__str__" := ⟨ok_Row_Dstr C, C.c_Row, C.m_Row_Dstr, B_Row_Dstr C⟩
end
end K91
/-! P13 -/
namespace K91
open PySem PySem.Spec PyProof.Rows L2
open C8 (InsC call_isC pss_cut)
section
variable {P : Program} {w : World} {K : PySem.W.Frag} {mg : Str → Option Value} {base : Heap}
theorem C_Table (C : Fx w K mg base) : Dm P w K mg base 1 (He.ga K "Table") (a_Table_Dcontains K) (fdA K (a_Table_Dcontains K)) ["self", "name"] (spTCont K) "__contains__" := ⟨ok_Table_Dcontains C, C.c_Table, C.m_Table_Dcontains, B_Table_Dcontains C⟩
/-! ### syllable_of -/
def spSylOf (K : PySem.W.Frag) : Sp := fun vs H Q _ => ∃ (t : V) (T : Tb) (y : Syl), vs = [.str (wordF y), t] ∧ TabV K H t T ∧ y.1 ∈ T.kinds ∧ SylOk y ∧ ∀ p H', Evl.Ex H H' → H p = none → SqT K H' p [.str y.1, .int y.2] → Q (.ref p) H'
theorem ok_syllable_of (C : Fx w K mg base) : FnOk P w K mg base CX0 2 (a_syllable_of K) (fdA K (a_syllable_of K)) ["word", "table"] (spSylOf K) := by
  refine (F_syllable_of C).ok S_syllable_of (fun vs H Q E h => ?_) (fun cdv A outer s H vs Q E hr h => ?_)
  · obtain ⟨t, T, y, rfl, _⟩ := h
    rfl
  · obtain ⟨t, T, ⟨k, n⟩, rfl, hT, hk, hy, q⟩ := h
    refine ⟨_, (pss_one (ps_match (pe_split (pv 0) pe_str) (mj_one rfl S_syllable_of.nd (i := 2) rfl (Or.inl rfl) (pt_cmpR (op_inO (C_Table C) (hr.mono (by decide))) (pv 2) (pv 1) (by rfl))
        (pss_one (ps_ret (pe_tup (pa_cons (pv 2) (pa_cons pe_int pa_nil)))))
        (mj_two rfl S_syllable_of.nd (i := 2) (j := 3) rfl (Or.inl rfl) rfl (Or.inl rfl) (pt_cmpR (op_inO (C_Table C) (hr.mono (by decide))) (pv 2) (pv 1) (by rfl))
          (pss_cons (ps_set (i := 4) S_syllable_of.nd rfl (Or.inl rfl) (pe_cd (D_integer_of C) (hr.mono (by decide)) (pa_cons (pv 3) pa_nil)))
          (pss_one (ps_ret (pe_ifExp (PW.pt (pw_or (pt_cmpR op_isN (pv 4) pe_non (nomark _)) (pw_or1 (pt_cmpR op_eq (pv 4) pe_int (nomark _))))) pe_non (pe_tup (pa_cons (pv 2) (pa_cons (pv 4) pa_nil)))))))
          (mj_any (pss_one (ps_ret pe_non))))))), ?_⟩
    obtain ⟨ta, tdx, pk, pp, pl, ps, lk, rfl, hobj, _⟩ := id hT
    have hzs := sizeLine_eq
    have hwl := wordF_len hy
    refine ⟨_, rfl, ⟨_, rfl⟩, _, _, rfl, rfl, rfl, by omega, fun D hD => ?_⟩
    rw [word_split hy]
    have e1 := ex_new (o := .lst ((partsF (k, n)).map V.str)) hD
    have hT1 := hT.nx (Nx.ofEx e1)
    by_cases hn : n = 1
    · subst hn
      refine ⟨D, _, rfl, l_of (upd_same ..), .inl ⟨rfl, ?_⟩⟩
      refine ⟨_, rfl, _, rfl, ta, tdx, _, rfl, e1 _ _ hobj, .ref ta, T, k, rfl, hT1, true, ?_, true, rfl, iteT ?_⟩
      · rw [decide_eq_true hk]
      · refine ⟨_, rfl, by show 2 ≤ sizeLine; decide, fun p hp => ?_⟩
        exact q p _ (Evl.Ex.trans e1 (ex_new hp)) (ex_free e1 hp) (t_of (upd_same ..))
    · have ep : partsF (k, n) = [k, intTx n] := if_neg hn
      refine ⟨D, _, rfl, l_of (upd_same ..), .inr ⟨by rw [ep]; exact (by decide : ¬ (2 : Nat) = 1), ?_⟩⟩
      rw [ep] at e1 hT1 ⊢
      refine ⟨D, _, rfl, l_of (upd_same ..), .inl ⟨rfl, ?_⟩⟩
      refine ⟨_, rfl, _, rfl, ta, tdx, _, rfl, e1 _ _ hobj, .ref ta, T, k, rfl, hT1, true, ?_, true, rfl, iteT ?_⟩
      · rw [decide_eq_true hk]
      · refine ⟨_, rfl, n, rfl, hy.le, fun H2 e2 => ?_⟩
        refine ⟨_, rfl, rfl, _, rfl, iteF ⟨_, rfl, rfl, _, rfl, ?_⟩⟩
        have e0 : decide (V.int n = V.int 1) = false := decide_eq_false fun z => hn (V.int.inj z)
        rw [e0]
        refine iteF ?_
        refine ⟨_, rfl, _, rfl, by show 2 ≤ sizeLine; decide, fun p hp => ?_⟩
        exact q p _ (Evl.Ex.trans (Evl.Ex.trans e1 e2) (ex_new hp)) (ex_free (Evl.Ex.trans e1 e2) hp) (t_of (upd_same ..))
theorem D_syllable_of (C : Fx w K mg base) : Dn P w K mg base 2 (a_syllable_of K) (fdA K (a_syllable_of K)) ["word", "table"] (spSylOf K) "syllable_of" := ⟨ok_syllable_of C, C.g_syllable_of, (F_syllable_of C).kp, B_syllable_of C⟩
end
end K91
/-! P14 -/
namespace K91
open PySem PySem.Spec PyProof.Rows L2
/-- a classmethod that keeps its promise -/
structure Dc (P : Program) (w : World) (K : PySem.W.Frag) (mg : Str → Option Value) (base : Heap) (k : Nat) (C f p : Addr) (fd : FuncData) (ps : List Str) (sp : Sp) (x : Str) : Prop where
  ok : FnOk P w K mg base CX0 k f fd ps sp
  r : ClX.CRead K C (.type "type")
  c : ClX.CMet K C (.type "type") x p f
  b : Binds K fd ps []
theorem Dc.fn {P : Program} {w : World} {K : PySem.W.Frag} {mg : Str → Option Value} {base : Heap} {k : Nat} {C f p : Addr} {fd : FuncData} {ps : List Str} {sp : Sp} {x : Str} (D : Dc P w K mg base k C f p fd ps sp x) : FnR P w K mg base CX0 k f sp := by
  have h := D.ok.raw D.b (dvs := []) .nil
  exact h.imp fun vs H Q E z => by rw [List.append_nil]; exact z
section
variable {X : Cx} {k : Nat} {f C p : Addr} {fd : FuncData} {ps : List Str} {sp : Sp} {x : Str} {e o : Expr} {es : List Expr} {t : TA} {ta : TE} {pos apos : Pos}
theorem pe_cc {pl : Sem Bool} (D : Dc X.prog X.w X.K X.mg X.base k C f p fd ps sp x) (hr : Room k X.A) (he : PE X o ta) (ha : PA X (e :: es) t)
    (hst : starEach (e :: es) X.env = (false, eval e X.env) :: starEach es X.env := by rfl) (hpl : (backTo pos (starEach es X.env)).any (·.1) = false := by rfl)
    (ht : eval (.Call (.Attribute o x apos) (e :: es) [] pos) X.env = (do
      let ov ← eval o X.env
      standAt apos.atName
      let (f, first) ← holding [ov] (getMethod ov x pl)
      callWith pos f first (backTo pos (starEach (e :: es) X.env)) (backToKw pos (keywordEach [] X.env))) := by rfl) :
    PE X (.Call (.Attribute o x apos) (e :: es) [] pos) (ClX.tCMeth C sp E0 ta t) := ClX.pe_cmeth he D.r D.c D.fn hr pass0 ha hst hpl ht
end
theorem ifE_new {te1 te2 : TE} {σ : L2.St} {H : Hp} {Q : VK} {ws : List Str} {b : Bool} (h1 : b = true → ∀ Q' : VK, rNewStrs ws H Q' → te1 σ H Q') (h2 : b = false → ∀ Q' : VK, rNewStrs ws H Q' → te2 σ H Q') (q : rNewStrs ws H Q) : if b = true then te1 σ H Q else te2 σ H Q := by
  cases b with
  | true => exact iteT (h1 rfl Q q)
  | false => exact iteF (h2 rfl Q q)
section
variable {P : Program} {w : World} {K : PySem.W.Frag} {mg : Str → Option Value} {base : Heap}
theorem cmB_ok {K : PySem.W.Frag} {C : Addr} {m : Str} (h : cmB K C m = true) : ClX.CRead K C (.type "type") ∧ ClX.CMet K C (.type "type") m (He.ma K C m) (He5.wf K C "classmethod" m) := by
  unfold cmB at h
  simp only [Bool.and_eq_true] at h
  obtain ⟨h1, h2, h3, h4⟩ := h
  exact ⟨⟨h3, He.eqO_ok h4⟩, He5.cmet_of h1 h2⟩
/-! ### Row.read -/
def spRRead (K : PySem.W.Frag) : Sp := fun vs H Q _ => ∃ (c t : V) (T : Tb) (r : List Syl), vs = [c, t, .str (rowTx r)] ∧ TabV K H t T ∧ Kin T r ∧ (∀ y ∈ r, SylOk y) ∧ r.length < 100 ∧ ∀ p H', Evl.Ex H H' → H p = none → RowV K H' (.ref p) T r → Q (.ref p) H'
theorem ok_Row_read (C : Fx w K mg base) : FnOk P w K mg base CX0 4 (a_Row_read K) (fdA K (a_Row_read K)) ["cls", "table", "text"] (spRRead K) := by
  refine (F_Row_read C).ok S_Row_read (fun vs H Q E h => ?_) (fun cdv A outer s H vs Q E hr h => ?_)
  · obtain ⟨c, t, T, r, rfl, _⟩ := h
    rfl
  · obtain ⟨c, t, T, r, rfl, hT, hk, hok, hl, q⟩ := h
    refine ⟨_, (pss_cons (ps_set (i := 3) S_Row_read.nd rfl (Or.inl rfl) (pe_lst pa_nil))
      (pss_cons (ps_for PassesOwn.never rfl (pi_enumA (by rfl) C.z_enumerate (pa_cons (pe_ifExp (pt_cmpR op_eq (pv 2) pe_str (nomark _)) (pe_lst pa_nil) (pe_split (pv 2) pe_str)) pa_nil)) (pg_tup rfl (pgs_cons (pg_name (i := 4) S_Row_read.nd rfl (Or.inl rfl)) (pgs_cons (pg_name (i := 5) S_Row_read.nd rfl (Or.inl rfl)) pgs_nil)))
        (pss_cons (ps_set (i := 6) S_Row_read.nd rfl (Or.inl rfl) (pe_cd (D_syllable_of C) (hr.mono (by decide)) (pa_cons (pv 5) (pa_cons (pv 1) pa_nil))))
        (pss_cons (ps_if (pt_cmpR op_isN (pv 6) pe_non (nomark _))
          (pss_one ps_never)
          pss_nil)
        (pss_one (ps_expr (pe_bm PySem.F.plainAttrs_list PySem.F.slot_list_append PySem.F.type_list_append mt_append (pv 3) (pa_cons (pv 6) pa_nil)))))))
      (pss_one (ps_ret (pe_mk (M_Row C) (hr.mono (by decide)) (pa_cons (pv 1) (pa_cons (pv 3) pa_nil))))))), ?_⟩
    obtain ⟨ta, rfl⟩ := tab_ref hT
    have hzs := sizeLine_eq
    refine ⟨by show 0 ≤ sizeLine; decide, fun F hF => ?_⟩
    have e0 := ex_new (o := .lst []) hF
    refine ⟨_, rfl, rfl, _, rfl, ifE_new (ws := r.map wordF) (fun z Q' q' => ?_) (fun z Q' q' => ?_) fun D hD => ?_⟩
    · have hr0 : r = [] := by
        match r, hok, z with
        | [], _, _ => rfl
        | y :: r, hok, z => exact absurd (V.str.inj (of_decide_eq_true z)) (rowTx_ne (by simp) hok)
      subst hr0
      exact ⟨by show 0 ≤ sizeLine; decide, q'⟩
    · have hne : r ≠ [] := fun e => by
        subst e
        exact absurd z (by decide)
      have hlx := rowTx_len hok hl
      refine ⟨_, rfl, ⟨_, rfl⟩, _, _, rfl, rfl, rfl, by omega, ?_⟩
      rw [row_split hne hok]
      exact q'
    · have e1 : Evl.Ex H (upd (upd H F (.lst [])) D (.lst ((r.map wordF).map V.str))) := Evl.Ex.trans e0 (ex_new hD)
      have hFD : F ≠ D := fun z => by rw [← z, upd_same] at hD; cases hD
      have hDn : H D = none := ex_free e0 hD
      refine ⟨true, D, _, rfl, l_of (upd_same ..), ?_⟩
      refine for_enumA (fun i σ H' => ∃ v4 v5 v6 us, σ = [some c, some (.ref ta), some (.str (rowTx r)), some (.ref F), v4, v5, v6] ∧ Evl.Ex H H' ∧ H' F = some (.lst us) ∧ H' D = some (.lst ((r.map wordF).map V.str)) ∧ Sys K H' us (r.take i))
        ⟨none, none, none, [], rfl, e1, by rw [upd_ne hFD, upd_same], upd_same .., .nil⟩ (fun i σ H' _ ⟨_, _, _, _, _, _, _, e, _⟩ => l_of e) ?_ ?_
      · rintro i x W σ H' hx ⟨v4, v5, v6, us, rfl, e, hF', hD', hus⟩ hW
        rw [List.map_map, List.getElem?_map] at hx
        obtain ⟨y, hy, rfl⟩ := Option.map_eq_some_iff.mp hx
        have kW := ex_new (o := .tup [.int (i : Nat), .str (wordF y)]) hW
        have hil : i < r.length := (List.getElem?_eq_some_iff.mp hy).1
        have etk : r.take (i + 1) = r.take i ++ [y] := by rw [List.take_add_one, hy]; rfl
        have eW := Evl.Ex.trans e kW
        have hul := pr_len hus
        refine ⟨W, _, rfl, t_of (upd_same ..), rfl, _, _, rfl, _, _, rfl, rfl, ?_⟩
        refine ⟨_, rfl, _, rfl, .ref ta, T, y, rfl, hT.nx (Nx.ofEx eW), hk y (List.mem_of_getElem? hy), hok y (List.mem_of_getElem? hy), fun p H2 e2 hp hpt => ?_⟩
        have eF2 : H2 F = some (.lst us) := e2 _ _ (kW _ _ hF')
        refine ⟨_, rfl, rfl, _, rfl, iteF ?_⟩
        refine ⟨_, rfl, .inl ⟨rfl, us, l_of eF2⟩, _, rfl, F, us, .ref p, rfl, rfl, eF2, ?_, ?_⟩
        · rw [hul]
          exact Nat.lt_of_le_of_lt (List.length_take_le' _ _) (by omega)
        · have hN : Nx H' (upd H2 F (.lst (us ++ [.ref p]))) := Nx.upd (Nx.ofEx (Evl.Ex.trans kW e2)) (.inr ⟨_, hF'⟩)
          refine ⟨_, _, _, us ++ [.ref p], rfl, Evl.Ex.upd (Evl.Ex.trans eW e2) hF, upd_same .., ?_, ?_⟩
          · rw [upd_ne (fun z => hFD z.symm)]
            exact e2 _ _ (kW _ _ hD')
          · rw [etk]
            exact pr_app (sys_nx hN hus) (.cons ⟨p, rfl, nx_t (Nx.upd (Nx.refl _) (.inr ⟨_, eF2⟩)) hpt⟩ .nil)
      · rintro σ H' ⟨v4, v5, v6, us, rfl, e, hF', hD', hus⟩
        rw [List.length_map, List.length_map, List.take_length] at hus
        refine ⟨_, rfl, _, rfl, ?_⟩
        refine mkRow (b := true) (hT.nx (Nx.ofEx e)) (l_of hF') hus hk (by omega) fun p H2 e2 hp hv => ?_
        exact q p H2 (Evl.Ex.trans e e2) (ex_free e hp) hv
theorem R_Row (C : Fx w K mg base) : Dc P w K mg base 4 (He.ga K "Row") (a_Row_read K) (He.ma K (He.ga K "Row") "read") (fdA K (a_Row_read K)) ["cls", "table", "text"] (spRRead K) "read" :=
  ⟨ok_Row_read C, (cmB_ok (ex_parts C).2.2.2.2.2.2.2.1).1, (cmB_ok (ex_parts C).2.2.2.2.2.2.2.1).2, B_Row_read C⟩
end
end K91
/-! R9 -/
/-! sets of texts by their list; set comprehensions whose set is told by any datum -/
namespace K91
open PySem PySem.Spec PyProof.Rows L2
open PySem.Froz (SD sObj TxOk addTx tailTx)
/-! ### a set of the texts l -/
def TxS (P : Program) (w : World) (a : Addr) (l : List Str) (h : Heap) : Prop := ∃ D : SD, h.get? a = some (sObj "set" D) ∧ TxOk P w D l ∧ Ris D.2.2.place.toList ∧ (w.params.followText "set-order" = true ∨ D.2.2.led = true)
/-- a text put to the texts l -/
def putL (l : List Str) (k : Str) : List Str := if k ∈ l then l else k :: l
theorem tail_walk (ep : Nat) (es : Array (Int × Value)) (t : SetTable) (b : Bool) (r : Ris t.place.toList) : Ris (tailTx ep es t b).2.2.place.toList ∧ (tailTx ep es t b).2.2.led = t.led := by
  unfold tailTx
  split
  · exact ⟨relayAll_ris t es _, relayAll_led t es _⟩
  · exact ⟨r, rfl⟩
theorem add_walk (D : SD) (n : Int) (v : Value) (r : Ris D.2.2.place.toList) : Ris (addTx n v D).2.2.place.toList ∧ (addTx n v D).2.2.led = D.2.2.led := by
  have r1 := layNew_ris D.2.2 D.1 n v r
  have l1 := layNew_led D.2.2 D.1 n v
  unfold addTx
  split
  · obtain ⟨a, b⟩ := tail_walk D.2.1 (layNew D.2.2 D.1 n v).1 { (layNew D.2.2 D.1 n v).2.1 with plain := false } (layNew D.2.2 D.1 n v).2.2.1 r1
    exact ⟨a, b.trans l1⟩
  · obtain ⟨a, b⟩ := tail_walk D.2.1 (layNew D.2.2 D.1 n v).1 (layNew D.2.2 D.1 n v).2.1 (layNew D.2.2 D.1 n v).2.2.1 r1
    exact ⟨a, b.trans l1⟩
section
variable {P : Program} {w : World} {A : Around} {E : Value → Shared → Prop} {s : Shared} {a : Addr} {l : List Str} {k : Str} {u : Tok}
theorem TxS.new {h : Heap} : TxS P w h.objs.size [] (h.push { cls := .type "set", dict := none, data := .set #[] 0 (.fresh 0 0 (!w.params.followText "set-order")) }) := by
  refine ⟨(#[], 0, .fresh 0 0 (!w.params.followText "set-order")), Heap.get?_push_size h rfl, TxOk.nil rfl, List.Pairwise.nil, ?_⟩
  cases z : w.params.followText "set-order" with
  | true => exact .inl rfl
  | false => exact .inr rfl
theorem old_at {D : SD} (F : TxOk P w D l) (hk : k ∈ l) : ∃ j, List.findIdx? (fun e => (PySem.strKind P w).is k e.2) D.1.toList = some j := by
  obtain ⟨e, he, q⟩ := (F.mem k).mp hk
  cases z : List.findIdx? (fun e => (PySem.strKind P w).is k e.2) D.1.toList with
  | some j => exact ⟨j, rfl⟩
  | none =>
    have := List.findIdx?_eq_none_iff.mp z e he
    rw [q] at this
    cases this
/-- a text that is in the set is not put in again -/
theorem put_old {D : SD} {Q : Bool → Shared → Prop} (hget : s.heap.get? a = some (sObj "set" D)) (F : TxOk P w D l) (hk : k ∈ l) (few : l.length < scanBound) (q : Q false s) : wpAny (model P w) A (setAddHashed a (.str k u) (hashStr w k)) Q E s := by
  obtain ⟨j, hj⟩ := old_at F hk
  have dat : (sObj "set" D).data = .set D.1 D.2.1 D.2.2 := rfl
  have small : D.1.size < scanBound := by rw [F.sz]; exact few
  unfold setAddHashed setAddHashedIn
  refine wpAny_holding ?_
  refine wpAny_bind (wpAny_setState_of hget dat F.fit ?_)
  dsimp only
  rw [byScan_of (x := .str k u) rfl small F.el, if_pos rfl]
  unfold setAddByScan
  refine wpAny_bind (wpAny_bind (wpAny_rule (wpAny_bind (wpAny_setScan_of (knd := PySem.strKind P w) (k := k) (PySem.Froz.is_str k u) hget dat F.fit F.el ?_))))
  rw [hj]
  exact wpAny_pure (wpAny_pure q)
theorem call_put {Q : Value → Shared → Prop} (Z : TxS P w a l s.heap) (few : l.length + 1 < scanBound)
    (q : ∀ h', Heap.SameBut a s.heap h' → TxS P w a (putL l k) h' → Q .none { s with heap := h', toks := s.toks + 1 }) : wpAny (model P w) A (call (.builtin "set.add") [.ref a, .str k u]) Q E s := by
  obtain ⟨D, hget, tx, ris, led⟩ := Z
  refine wpAny_call_entry F.slot_set_add ⟨_, hget, rfl⟩ F.entry_set_add ?_ (F.args_set_add_2 _ _)
  unfold Builtin.«set.add» Builtin.Frozenset.oneOther
  simp only [List.isEmpty_nil, bind_assoc]
  unfold Builtin.Frozenset.addrOf setAdd
  refine wpAny_bind (wpAny_pure ?_)
  try dsimp only
  refine wpAny_bind (wpAny_pure ?_)
  try dsimp only
  refine wpAny_bind (wpAny_holding (wpAny_bind ((PySem.strKind P w).pyHash (PySem.Froz.is_str k u) ?_)))
  by_cases hk : k ∈ l
  · have e : putL l k = l := if_pos hk
    rw [e] at q
    refine put_old (s := { s with toks := s.toks + 1 }) hget tx hk (by omega) ?_
    exact wpAny_pure ⟨_, rfl, q s.heap (Heap.SameBut.refl a s.heap) ⟨D, hget, tx, ris, led⟩⟩
  · have e : putL l k = k :: l := if_neg hk
    rw [e] at q
    refine PySem.Froz.add_x (s := { s with toks := s.toks + 1 }) hget tx hk few ?_
    obtain ⟨r2, l2⟩ := add_walk D (hashStr w k) (.str k u) ris
    exact wpAny_pure ⟨_, rfl, q _ (Heap.SameBut.update s.heap a _) ⟨_, PySem.Froz.get_upd _ hget rfl, PySem.Froz.add_ok u tx, r2, by rw [l2]; exact led⟩⟩
end
def TxO (P : Program) (w : World) (a : Addr) (l : List Str) : HO := .ext (TxS P w a l)
theorem txO_ok {P : Program} {w : World} {H : Hp} {h : Heap} {a : Addr} {l : List Str} (Z : TxS P w a l h) : ObjOk P w H h a (TxO P w a l) :=
  ⟨Z, let ⟨_, g, _⟩ := Z; ⟨_, g⟩, fun h1 h2 ⟨D, g, r⟩ k => ⟨D, k _ g, r⟩⟩
/-! ### set comprehensions -/
/-- sets told by a datum: the tracked object, the empty one, how a value is put in -/
structure Kd (P : Program) (w : World) (τ : Type) where
  ob : Addr → τ → HO
  e0 : τ
  ins : V → τ → τ → Prop
  born : ∀ (H : Hp) (h : Heap), ObjOk P w H (h.push { cls := .type "set", dict := none, data := .set #[] 0 (.fresh 0 0 (!w.params.followText "set-order")) }) h.objs.size (ob h.objs.size e0)
  put : ∀ (X : Cx), X.prog = P → X.w = w → ∀ (pins : List (Addr × Obj)) (σ : L2.St) (H : Hp) (s : Shared) (E : Value → Shared → Prop) (D : Addr) (t t' : τ) (y : V) (v : Value) (Q : Value → Shared → Prop),
    Inv X pins σ H s → H D = some (ob D t) → RelV y v → ins y t t' → (∀ s', Inv X pins σ (upd H D (ob D t')) s' → Q .none s') → wpAny (model P w) X.A (call (.builtin "set.add") [.ref D, v]) Q E s
/-- the texts -/
def kdTx (P : Program) (w : World) : Kd P w (List Str) where
  ob := TxO P w
  e0 := []
  ins y l l' := ∃ k, y = .str k ∧ l.length + 1 < scanBound ∧ l' = putL l k
  born _ _ := txO_ok TxS.new
  put X hP hw pins σ H s E D l l' y v Q I hD r i q := by
    subst hP hw
    obtain ⟨k, rfl, few, rfl⟩ := i
    obtain ⟨u, rfl⟩ := r
    refine call_put (I.hok D _ hD).1 few fun h' same new => q _ (I.write (e := D) (t' := s.toks + 1) (by rw [hD]; trivial) (.inl rfl) (fun b ob ne g => (same.2 b ne).trans g) ?_ (txO_ok new))
    obtain ⟨_, g, _⟩ := new
    exact ⟨_, g⟩
/-- what is asked of the parts of a comprehension, within its block -/
abbrev Within (X : Cx) (scope : Scope) (F : Cx → Prop) : Prop := ∀ (s : Shared) (H : Hp) (C : Addr) (cl : List (PySem.Str × Addr)) (fp : List Addr), F (X.blk s H scope (compEnvC scope cl C X.env) fp)
/-- one turn's end: the value y is put to the set at D -/
def putIn {P : Program} {w : World} {τ : Type} (k : Kd P w τ) (D : Addr) (N : Hp → Prop) (y : V) (H : Hp) : Prop := ∃ t t', H D = some (k.ob D t) ∧ k.ins y t t' ∧ N (upd H D (k.ob D t'))
def setTurn {P : Program} {w : World} {τ : Type} (k : Kd P w τ) (D : Addr) (tt : TT) (te : TE) (vs : List Nat) (σ0 : L2.St) (N : Hp → Prop) (σ : L2.St) (H : Hp) : Prop :=
  wipe σ vs = wipe σ0 vs ∧ tt σ H fun b H1 => if b = true then te σ H1 (putIn k D N) else N H1
def tSetC {P : Program} {w : World} {τ : Type} (k : Kd P w τ) (wi : TI) (g : TG) (tt : TT) (te : TE) (vs : List Nat) : TE := fun σ H Q => wi σ H fun J H1 => ∀ D, H1 D = none → ∃ W : Nat → Nat → Hp → Prop, (∃ m, W 0 m (upd H1 D (k.ob D k.e0))) ∧
  ∀ i m H, W i m H → (J.stop i H ∧ Q (.ref D) H) ∨ (J.go i H ∧ ∃ N : Hp → Prop, (∀ H', N H' → ∃ m', m' < m ∧ W (i + 1) m' H') ∧ ∀ x H', J.yld i H x H' → g x (wipe σ vs) H' (setTurn k D tt te vs σ N))
theorem pe_setC {X : Cx} {τ : Type} (k : Kd X.prog X.w τ) {elt tg iter : Expr} {ifs : List Expr} {scope : Scope} {own : List (PySem.Str × Nat)} {pos : Pos} {wi : TI} {g : TG} {tt : TT} {te : TE} (calm : X.calm = true) (nd : X.N.Nodup) (hi : PI X tg iter wi) (blk : BlkOk X.N X.env.scope scope own)
    (hg : Within X scope fun B => PG B tg g) (ht : Within X scope fun B => PTs B ifs tt) (he : Within X scope fun B => PE B elt te) (hs : ∀ x, foldedSetIterable iter X.env x = pure x := by intro _; rfl) :
    PE X (.SetComp elt [⟨tg, iter, ifs, 0⟩] scope pos) (tSetC k wi g tt te (own.map (·.2))) := by
  refine ⟨fun pins s σ H Q I0 hyp => ?_⟩
  rw [PpSet.eval_SetComp]
  have bound : ∀ y ∈ scope.names, y.2 = .free → ∃ c, X.env.cells.lookup y.1 = some c := fun y hy e => I0.ok.has _ (blk.free y hy e)
  refine wpAny_comprehension_free (use := none) rfl hs (closure_ok bound) blk.kind (fun y hy e => by rw [blk.uniq y hy, e]) ?_
  refine thn (hi.run pins s σ H _ I0 hyp) fun _ sa walk => thn walk fun _ sb start => ?_
  obtain ⟨src, watch, tn, J, Ha, e, Ia, T, st, fresh, turns⟩ := start
  subst e
  refine PpSet.newSet_ok (newEnv_comp ?_)
  -- the new set stands
  have hfree : Ha sb.heap.objs.size = none := Ia.hok.fresh (Nat.le_refl _)
  have stays : ∀ b o, sb.heap.get? b = some o → (sb.heap.push { cls := .type "set", dict := none, data := .set #[] 0 (.fresh 0 0 (!X.w.params.followText "set-order")) }).get? b = some o := fun _ _ z => Heap.get?_push_of_some _ z
  have Ib := Ia.laid (t' := sb.toks) (o := k.ob sb.heap.objs.size k.e0) stays (Nat.le_refl _) (k.born _ _)
  have st1 := T.keep 0 _ _ st fun b _ o z => stays b o z
  have grown : sb.heap.objs.size ≤ (sb.heap.push { cls := .type "set", dict := none, data := .set #[] 0 (.fresh 0 0 (!X.w.params.followText "set-order")) }).objs.size := by rw [Heap.size_push]; exact Nat.le_succ _
  have away : ∀ b ∈ watch, b < sb.heap.objs.size := fun b hb => let ⟨_, z, _⟩ := T.obj 0 _ st b hb; Heap.lt_size z
  obtain ⟨W, ⟨m0, w0⟩, turn⟩ := turns sb.heap.objs.size hfree
  clear turns
  generalize sb.heap.objs.size = D at Ib w0 turn hfree away grown ⊢
  generalize hsc : ({ sb with heap := sb.heap.push { cls := .type "set", dict := none, data := .set #[] 0 (.fresh 0 0 (!X.w.params.followText "set-order")) } } : Shared) = sc at Ib ⊢
  have st1 : tn 0 sc.heap := by rw [← hsc]; exact st1
  have grown : D ≤ sc.heap.objs.size := by rw [← hsc]; exact grown
  generalize hHb : upd Ha D (k.ob D k.e0) = Hb at Ib w0
  have out : ∀ b ∈ watch, FpOk X pins Hb b ∧ b < sc.heap.objs.size := fun b hb => by
    have lt := away b hb
    obtain ⟨z, r⟩ := fresh b hb
    refine ⟨⟨?_, r⟩, Nat.lt_of_lt_of_le lt grown⟩
    rw [← hHb, upd_ne (Nat.ne_of_lt lt)]
    exact z
  -- the block begins
  have Ic := block_start Ib blk nd out
  have pg := hg sc Hb sc.heap.objs.size (cellsFrom (sc.heap.objs.size + 1) scope.names (cloFrom X.env.cells scope.names [])) watch
  have pt := ht sc Hb sc.heap.objs.size (cellsFrom (sc.heap.objs.size + 1) scope.names (cloFrom X.env.cells scope.names [])) watch
  have pe := he sc Hb sc.heap.objs.size (cellsFrom (sc.heap.objs.size + 1) scope.names (cloFrom X.env.cells scope.names [])) watch
  have st2 : tn 0 (pushCells (sc.heap.push { cls := .type "dict", data := .dict #[] }) scope.names) := T.keep 0 _ _ st1 fun b _ o z => pushCells_keeps _ _ _ _ (Heap.get?_push_of_some _ z)
  show codeAny _ _ (.compStart (.SetComp elt [⟨tg, iter, ifs, 0⟩] scope pos) 0 (.ref src) (.ref D) (compEnvC scope (cellsFrom (sc.heap.objs.size + 1) scope.names (cloFrom X.env.cells scope.names [])) sc.heap.objs.size X.env)) (compPost (model X.prog X.w) X.A X.xe none (EP X pins σ Q) (.ref D) sc.heap.objs.size) _
  have home : (compEnvC scope (cellsFrom (sc.heap.objs.size + 1) scope.names (cloFrom X.env.cells scope.names [])) sc.heap.objs.size X.env).locals = sc.heap.objs.size := rfl
  generalize compEnvC scope (cellsFrom (sc.heap.objs.size + 1) scope.names (cloFrom X.env.cells scope.names [])) sc.heap.objs.size X.env = ce at Ic pg pt pe home ⊢
  generalize hsd : ({ sc with heap := pushCells (sc.heap.push { cls := .type "dict", data := .dict #[] }) scope.names } : Shared) = sd at Ic ⊢
  have st2 : tn 0 sd.heap := by rw [← hsd]; exact st2
  clear hsd st1 hsc
  have none0 : ∀ b ∈ watch, Hb b = none := fun b hb => (out b hb).1.1
  -- what is watched may be asked in the block
  have may : ∀ {τ' : L2.St} {Hx : Hp} {sx : Shared}, Inv (X.blk sc Hb scope ce watch) [] τ' Hx sx → (∀ b ∈ watch, Hx b = none) → ∀ b ∈ watch, FpOk (X.blk sc Hb scope ce watch) [] Hx b := by
    intro τ' Hx sx Ix nx b hb
    have := Ix.ok.exf b hb
    exact ⟨nx b hb, this.1, Ix.ok.exfs b hb, .inl hb, this.2, fun p hp => by cases hp⟩
  let Keeps : Nat → Shared → Prop := fun n sx => ∃ i Hx, Inv (X.blk sc Hb scope ce watch) [] (wipe σ (own.map (·.2))) Hx sx ∧ tn i sx.heap ∧ (∀ b ∈ watch, Hx b = none) ∧ W i n Hx
  have loop : codeAny (model X.prog X.w) X.A (.compLoop (.SetComp elt [⟨tg, iter, ifs, 0⟩] scope pos) 0 (.ref src) (.ref D) ce) (compPost (model X.prog X.w) X.A X.xe none (EP X pins σ Q) (.ref D) sc.heap.objs.size) sd := by
    refine PpSet.compLoopS_any Keeps ?_ m0 ⟨0, Hb, Ic, st2, none0, w0⟩
    rintro n sx ⟨i, Hx, Ix, stx, nx, wx⟩
    have free := may Ix nx
    rcases turn i n Hx wx with ⟨end_, ans⟩ | ⟨more, N, next, step⟩
    · -- no item is left
      refine thnF (T.done (X.blk sc Hb scope ce watch) rfl rfl rfl calm i [] sx _ Hx (fun _ _ => False) Ix free stx end_) fun r sy ⟨er, Iy⟩ => ?_
      subst er
      have Ie : Inv X pins σ Hx sy := Ib.call' (ch := watch) Iy.os Iy.base Iy.hok Iy.bare fun b hb => let o := (out b hb).1; ⟨o.2.2.2.1, o.2.1, o.2.2.2.2.1, o.2.2.2.2.2⟩
      have gone : Hx sc.heap.objs.size = none := by
        rw [← home]
        exact Iy.free
      obtain ⟨mv, names, _⟩ := Iy.loc
      have names : sy.heap.Ns ce.locals mv := names
      rw [home] at names
      obtain ⟨g0, g1, _, g3, g4, g5⟩ := Ib.fpOk (Nat.le_refl _) gone
      exact ⟨mv, names, fun hq same => ⟨.ref D, Hx, Ie.turned (t' := sy.toks) (fun b o ne z => (same.2 b ne).trans z) g0 g1 g3 g4 g5, rfl, ans⟩⟩
    · -- the next item
      refine thnF (T.item (X.blk sc Hb scope ce watch) rfl rfl rfl calm i [] sx _ Hx (fun _ _ => False) Ix free stx more) fun r sy ⟨v, er, own2⟩ => ?_
      subst er
      refine thnF own2 fun _ sz ⟨x, Hz, Iz, rz, yz, stz, nz⟩ => ?_
      have Ip := Iz.pinned (may Iz nz) (T.obj _ _ stz)
      refine thnF (pg.run _ sz _ Hz x v _ Ip rz (step x Hz yz)) fun _ s1 ⟨σ1, H1, I1, same, q1⟩ => ?_
      refine thnF (pt.run _ s1 σ1 H1 _ I1 q1) fun b s2 ⟨H2, I2, q2⟩ => ?_
      -- behind a turn the walk stands one further
      have back : ∀ {s3 : Shared} {H3 : Hp}, Inv (X.blk sc Hb scope ce watch) ([] ++ pinsAt watch sz.heap) σ1 H3 s3 → N H3 → ∃ m', m' < n ∧ Keeps m' s3 := by
        intro s3 H3 I3 n3
        obtain ⟨m', lt, w3⟩ := next H3 n3
        have kept : ∀ b ∈ watch, ∀ o, sz.heap.get? b = some o → s3.heap.get? b = some o ∧ H3 b = none := by
          intro b hb o z
          obtain ⟨z1, z2, _⟩ := I3.pin (b, o) (List.mem_append_right _ (List.mem_append_right _ (mem_pinsAt hb z)))
          exact ⟨z1, z2⟩
        have forget := (I3.unpinned (pins := [])).weak (σ' := wipe σ (own.map (·.2))) (by rw [← same, wipe_length]) fun j y z => by
          rw [← same] at z
          exact (wipe_some z).1
        refine ⟨m', lt, i + 1, H3, forget, T.keep _ _ _ stz fun b hb o z => (kept b hb o z).1, fun b hb => ?_, w3⟩
        obtain ⟨o, z, _⟩ := T.obj _ _ stz b hb
        exact (kept b hb o z).2
      cases b with
      | false =>
        rw [if_neg Bool.false_ne_true] at q2 ⊢
        exact back I2 q2
      | true =>
        rw [if_pos rfl] at q2 ⊢
        refine thnF (pe.run _ s2 σ1 H2 _ I2 q2) fun y s3 ⟨yv, H3, I3, r3, t, t', at_, ins, n3⟩ => ?_
        exact k.put (X.blk sc Hb scope ce watch) rfl rfl _ _ _ _ _ D t t' yv y _ I3 at_ r3 ins fun s4 I4 => back I4 n3
  exact PpSet.codeAny_compStart_set loop (T.self X.A 0 _ _ _ st2 loop)
end K91
/-! R10 -/
/-! sorted(a set of texts); a set comprehension over a list or tuple -/
namespace K91
open PySem PySem.Spec PyProof.Rows L2 PySem.W
theorem text_of {P : Program} {w : World} {k : Str} {v : Value} (h : (PySem.strKind P w).is k v = true) : ∃ x t, v = Value.str x t := by
  have h : v.isStrOf k = true := h
  cases v with
  | str x t => exact ⟨x, t, rfl⟩
  | _ => cases h
section
variable {G : Program} {w : World} {A : Around} {E : Value → Shared → Prop} {s : Shared} {a : Addr} {l : List Str}
theorem sorted_S (Z : TxS G w a l s.heap) (hh : A.handled = none) (hu : A.units + 64 < cLine) (hn64 : l.length < 64) {Q : Value → Shared → Prop}
    (hQ : ∀ s' p (out : List Value) (c : Nat), (∀ b o, s.heap.get? b = some o → s'.heap.get? b = some o) → s'.gens = s.gens → s'.os = s.os → s.heap.objs.size ≤ p → s'.heap.get? p = some (seqObj "list" out.toArray c) → out.length = l.length → (∀ v ∈ out, ∃ x t, v = Value.str x t) → Q (.ref p) s') :
    wpAny (model G w) A (call (.builtin "sorted") [.ref a]) Q E s := by
  obtain ⟨⟨es, ep, t⟩, hget, tx, hr, hl⟩ := Z
  have hsz : es.size = l.length := tx.sz
  refine Calls.call_function_entry kind_sorted plain_sorted entry_sorted (args_sorted1 _) ?_
  unfold Builtin.«sorted»
  refine wpAny_bind (m := checkCount "sorted" 1 1 _) (wpAny_pure ?_)
  refine wpAny_bind (collect_set (A := A.in1) hh ⟨_, hget, rfl, rfl⟩ tx.fit (by show es.size < scanBound; unfold scanBound; omega) hr hl fun s1 vs k1 hz g1 o1 pm => ?_)
  have hvn : vs.length = l.length := by rw [pm.length_eq, List.length_map, Array.length_toList]; exact hsz
  have hvl : vs.length < 64 := by rw [hvn]; exact hn64
  have hstr : ∀ v ∈ vs, ∃ x t, v = Value.str x t := fun v hv => by
    obtain ⟨e, he, rfl⟩ := List.mem_map.mp (pm.mem_iff.mp hv)
    obtain ⟨⟨k, h1, _⟩, _⟩ := tx.el e he
    exact text_of h1
  refine wpAny_bind (wpAny_newList ?_ (by rw [sizeLine_eq]; omega))
  have hoL : (s1.heap.push (seqObj "list" vs.toArray 0)).get? s1.heap.objs.size = some (seqObj "list" vs.toArray 0) := Heap.get?_push_size _ rfl
  have kp : ∀ b u, s1.heap.get? b = some u → b ≠ s1.heap.objs.size ∧ (s1.heap.push (seqObj "list" vs.toArray 0)).get? b = some u := fun b u q => ⟨Nat.ne_of_lt (Heap.lt_size q), Heap.get?_push_of_some _ q⟩
  obtain ⟨bs, hbs⟩ : ∃ bs : List Str, EachIs (fun v b => v ∈ vs ∧ ∃ as, Reads (sortingHeap (s1.heap.push (seqObj "list" vs.toArray 0)) s1.heap.objs.size vs) v (Datum.toD b) as) vs bs := by
    have key : ∀ us : List Value, (∀ v ∈ us, v ∈ vs) → ∃ bs : List Str, EachIs (fun v b => v ∈ vs ∧ ∃ as, Reads (sortingHeap (s1.heap.push (seqObj "list" vs.toArray 0)) s1.heap.objs.size vs) v (Datum.toD b) as) us bs := by
      intro us
      induction us with
      | nil => exact fun _ => ⟨[], .nil⟩
      | cons v us ih =>
        intro hv
        obtain ⟨bs, hb⟩ := ih fun u hu => hv u (List.mem_cons_of_mem _ hu)
        obtain ⟨x, t, e⟩ := hstr v (hv v List.mem_cons_self)
        exact ⟨x :: bs, .cons ⟨hv v List.mem_cons_self, [], by rw [e]; exact .str x t⟩ hb⟩
    exact key vs fun v hv => hv
  have er : EachIs (fun v b => ∃ as, Reads (sortingHeap (s1.heap.push (seqObj "list" vs.toArray 0)) s1.heap.objs.size vs) v (Datum.toD b) as) vs bs := hbs.mono fun _ _ h => h.2
  have hal : AllAlike (bs.map fun b => Datum.toD b) := AllAlike.of fun b b' => DatumOrd.alike b b'
  show wpAny _ _ _ _ _ { s1 with heap := s1.heap.push (seqObj "list" vs.toArray 0) }
  refine wpAny_bind (wpAny_holding (wpAny_call_entry_kw slot_list_sort ⟨_, hoL, rfl⟩ entry_list_sort ?_ (args_list_sort _)))
  refine list_sort_vals (s := { s1 with heap := s1.heap.push (seqObj "list" vs.toArray 0) }) hoL (SortsAt.data (s := { s1 with heap := sortingHeap (s1.heap.push (seqObj "list" vs.toArray 0)) s1.heap.objs.size vs }) (each_map (R := fun v d => ∃ as, Reads (sortingHeap (s1.heap.push (seqObj "list" vs.toArray 0)) s1.heap.objs.size vs) v d as) (fun b => Datum.toD b) er) hal (sortable_d bs sorts_str) (fun d hd => ?_)) (by rw [sizeLine_eq]; omega) ⟨_, rfl, ?_⟩
  · obtain ⟨b, _, rfl⟩ := List.mem_map.mp hd
    have := Datum.depth_le b
    have e1 : Datum.depth Str = 0 := rfl
    show A.units + 2 + _ < cLine
    omega
  · obtain ⟨c, hc⟩ := sortedHeap_at (out := (sortVals (dataKind (sortingHeap (s1.heap.push (seqObj "list" vs.toArray 0)) s1.heap.objs.size vs) (bs.map fun b => Datum.toD b)) false vs vs).toArray) hoL
    refine wpAny_pure ⟨_, rfl, hQ _ s1.heap.objs.size _ c (fun b u e => ?_) g1 o1 hz hc ?_ fun v hv => ?_⟩
    · exact (sortedHeap_old (kp b u (k1 b u e)).1 (Heap.lt_size (kp b u (k1 b u e)).2)).trans (kp b u (k1 b u e)).2
    · rw [sortVals_length false rfl]
      exact hvn
    · exact hstr v (sortVals_mem false hv)
end
def rSortS (G : Program) (w : World) : List V → Hp → VK → Prop := fun xs H Q => ∃ (a : Addr) (l : List Str), xs = [V.ref a] ∧ H a = some (TxO G w a l) ∧ l.length < 64 ∧ ∀ (ks : List Str) p, H p = none → ks.length = l.length → Q (.ref p) (upd H p (.lst (ks.map V.str)))
section
variable {X : Cx} {G : Program} {w : World}
theorem cr_sortS (hc : X.calm = true) (hu : X.A.units + 64 < cLine) (hG : X.prog = G := by rfl) (hw : X.w = w := by rfl) : CallR X (.builtin "sorted") (rSortS G w) := by
  subst hG hw
  intro pins s σ H vs us Q I r h
  obtain ⟨a, l, rfl, ha, hn64, q⟩ := h
  have Z : TxS X.prog X.w a l s.heap := (I.hok a _ ha).1
  rw [Vals.ref1 r]
  refine sorted_S Z (I.ok.hd hc) hu hn64 fun s' p out c k g o hp hg hln hm => ?_
  have hn : H p = none := I.hok.fresh hp
  obtain ⟨ks, hks⟩ : ∃ ks : List Str, Vals (ks.map V.str) out := by
    clear hg hln
    induction out with
    | nil => exact ⟨[], .nil⟩
    | cons u out ih =>
      obtain ⟨x, t, rfl⟩ := hm u List.mem_cons_self
      obtain ⟨ks, h1⟩ := ih fun v hv => hm v (List.mem_cons_of_mem _ hv)
      exact ⟨x :: ks, .cons ⟨t, rfl⟩ h1⟩
  have hlz : ks.length = l.length := by
    have := hks.length
    rw [List.length_map] at this
    rw [this, hln]
  have J : Inv X pins σ (upd H p (.lst (ks.map V.str))) { s with heap := s'.heap, gens := s'.gens, drawn := s'.drawn, toks := s'.toks } :=
    I.call (ch := []) (Un.laid k hp hn) (I.hok.laid k hp ⟨by rw [sizeLine_eq, List.length_map]; omega, out, c, hks, hg⟩) (by rw [g]; exact I.bare) (fun _ z => nomatch z)
  have e : s' = { s with heap := s'.heap, gens := s'.gens, drawn := s'.drawn, toks := s'.toks } := by
    cases s'
    cases s
    cases o
    rfl
  rw [e]
  exact ⟨.ref p, _, J, rfl, q ks p hn hlz⟩
end
/-- over a list or tuple that the comprehension leaves as it is -/
theorem setC_any {K : PySem.W.Frag} {P : Program} {w : World} {τ : Type} (k : Kd P w τ) {b : Bool} {a : Addr} {xs : List V} {g : TG} {tt : TT} {te : TE} {vs : List Nat} {σ : L2.St} {H1 : Hp} {D : Addr} {Qd : Hp → Prop} (Pv : Nat → Hp → Prop) (h0 : Pv 0 (upd H1 D (k.ob D k.e0)))
    (hl : ∀ i H, i ≤ xs.length → Pv i H → SqA K H b a xs) (hs : ∀ i x H, xs[i]? = some x → Pv i H → g x (wipe σ vs) H (setTurn k D tt te vs σ (Pv (i + 1)))) (hd : ∀ H, Pv xs.length H → Qd H) :
    ∃ W : Nat → Nat → Hp → Prop, (∃ m, W 0 m (upd H1 D (k.ob D k.e0))) ∧ ∀ i m H, W i m H → ((Ita K b a).stop i H ∧ Qd H) ∨
      ((Ita K b a).go i H ∧ ∃ N : Hp → Prop, (∀ H', N H' → ∃ m', m' < m ∧ W (i + 1) m' H') ∧ ∀ x H', (Ita K b a).yld i H x H' → g x (wipe σ vs) H' (setTurn k D tt te vs σ N)) :=
  lcG (F := setTurn k D tt te vs σ) Pv h0 hl hs hd
end K91
/-! P15 -/
namespace K91
open PySem PySem.Spec PyProof.Rows L2
/-- a def with a star that keeps its promise -/
structure Dr (P : Program) (w : World) (K : PySem.W.Frag) (mg : Str → Option Value) (base : Heap) (k : Nat) (f : Addr) (sp : Sp) (x : Str) : Prop where
  fn : FnR P w K mg base CX0 k f sp
  m : mg x = some (.ref f)
  kp : PySem.W.keepIn K (.ref f) = true
section
variable {X : Cx} {k : Nat} {f : Addr} {sp : Sp} {x : Str} {e : Expr} {es : List Expr} {t : TA} {p pos : Pos}
theorem pe_cr (D : Dr X.prog X.w X.K X.mg X.base k f sp x) (hr : Room k X.A) (ha : PA X (e :: es) t) (hg : Gl X x := by rfl) (hdb : (x == ("__debug__" : Str)) = false := by decide)
    (he : starEach (e :: es) X.env = (false, eval e X.env) :: starEach es X.env := by rfl) (hpl : (backTo pos (starEach es X.env)).any (·.1) = false := by rfl) :
    PE X (.Call (.Name x p) (e :: es) [] pos) (fun σ H Q => t σ H fun vs H1 => sp vs H1 Q E0) := by
  refine ⟨fun pins s σ H Q I h => ?_⟩
  refine wpAny_Call_Name_kw (ld_glob I hg D.m ?_ hdb)
  exact PySem.W.callWith_K (h₀ := X.base) I.ok.mod.kin D.kp (thn (ha.run pos pins s σ H _ I h) fun us s1 ⟨vs, H1, I1, r, q⟩ => ⟨I1.kIn, wpAny_call (run_fnR D.fn hr pass0 I1 r q)⟩) he hpl
end
section
variable {P : Program} {w : World} {K : PySem.W.Frag} {mg : Str → Option Value} {base : Heap}
/-! ### limited -/
def spLim (K : PySem.W.Frag) : Sp := fun vs H Q _ => ∃ a ys, vs = [V.ref a] ∧ SqT K H a ys ∧ ys.length ≤ 1000 ∧ Q (.ref a) H
theorem ok_limited (C : Fx w K mg base) : FnOk P w K mg base CX0 1 (a_limited K) (fdA K (a_limited K)) ["form"] (spLim K) := by
  refine (F_limited C).ok S_limited (fun vs H Q E h => ?_) (fun cdv A outer s H vs Q E hr h => ?_)
  · obtain ⟨a, ys, rfl, _⟩ := h
    rfl
  · obtain ⟨a, ys, rfl, ha, hl, q⟩ := h
    obtain ⟨tL, hL⟩ := C.i_LIMIT
    refine ⟨_, (pss_cons (ps_if (pt_cmpR op_gt (pe_callB call_len_seq (by rfl) C.z_len (by decide +kernel) (pa_cons (pv 0) pa_nil)) (pe_glob (v := .int 1000) rfl hL ⟨_, rfl⟩) (nomark _))
        (pss_one ps_never)
        pss_nil)
      (pss_one (ps_ret (pv 0)))), ?_⟩
    refine ⟨_, rfl, a, _, rfl, .inr ha, _, _, rfl, rfl, _, rfl, ?_⟩
    rw [show decide ((ys.length : Int) > 1000) = false from decide_eq_false (by omega)]
    exact iteF ⟨_, rfl, q⟩
theorem D_limited (C : Fx w K mg base) : Dn P w K mg base 1 (a_limited K) (fdA K (a_limited K)) ["form"] (spLim K) "limited" := ⟨ok_limited C, C.g_limited, (F_limited C).kp, B_limited C⟩
/-! ### check_tables -/
def spTabs (K : PySem.W.Frag) : Sp := fun vs H Q _ => ∃ u v T r s, vs = [u, v] ∧ RowV K H u T r ∧ RowV K H v T s ∧ ∀ H', Evl.Ex H H' → Q .non H'
def spTabs0 (K : PySem.W.Frag) : Sp := fun vs H Q _ => ∃ u v p T r s, vs = [u, .ref p] ∧ SqT K H p [v] ∧ RowV K H u T r ∧ RowV K H v T s ∧ ∀ H', Evl.Ex H H' → Q .non H'
theorem D_check_tables (C : Fx w K mg base) : Dr P w K mg base 3 (a_check_tables K) (spTabs K) "check_tables" := by
  refine ⟨?_, C.g_check_tables, (F_check_tables C).kp⟩
  obtain ⟨oc, od, dV, kV, doc, pm, an, cdv, ct, osl, e, lk, hcd, hD, hK⟩ := (F_check_tables C).ex
  rcases hD with ⟨_, rfl⟩ | ⟨z, _⟩
  · rw [e] at lk
    have F := StX.fn_star (CX := CX0) (P := P) (w := w) (mg := mg) (base := base) (k := 2) (ps := ["one"]) (pv := "more") (sp := spTabs0 K) lk hcd S_check_tables StX.cxUp_none
      (StX.bind_star1 (B := fun us => bindArgs (PySem.W.fnOf "check_tables" "check_tables" (defArgs st_check_tables) (defBody st_check_tables) (defScope st_check_tables) Value.none kV doc pm an cdv ct) ⟨us, []⟩) (p1 := "one") (pv := "more") (fun _ => rfl) (fun _ _ _ => rfl)) (fun A outer s H vs Q E hr h => ?_)
    · refine F.imp fun vs H Q E h => ?_
      obtain ⟨u, v, T, r, s, rfl, hu, hv, q⟩ := h
      refine ⟨[u], [v], rfl, rfl, by show 1 ≤ sizeLine; decide, fun p hp => ?_⟩
      have e1 := ex_new (o := .tup [v]) hp
      exact ⟨u, v, p, T, r, s, rfl, t_of (upd_same ..), hu.nx (Nx.ofEx e1), hv.nx (Nx.ofEx e1), fun H' e2 => q H' (Evl.Ex.trans e1 e2)⟩
    · obtain ⟨u, v, p, T, r, s2, rfl, hp, hu, hv, q⟩ := h
      refine ⟨_, PSs.nox (pss_one (ps_for PassesOwn.never rfl (pi_any (pv 1)) (pg_name (i := 2) S_check_tables.nd rfl (Or.inl rfl))
        (pss_one (ps_if (pt_cmpR (ne_tab (n := 2) C rfl rfl rfl rfl rfl hr) (pe_fld (pv 0) rfl) (pe_fld (pv 2) rfl) (nomark _))
          (pss_one ps_never)
          pss_nil)))), ?_⟩
      refine ⟨_, rfl, false, p, _, rfl, hp, ?_⟩
      refine for_any (fun i σ H' => ∃ v2, σ = [some u, some (.ref p), v2] ∧ Evl.Ex H H') ⟨none, rfl, Evl.Ex.refl _⟩ (fun i σ H' _ ⟨_, _, e⟩ => sqA_ex e (b := false) hp) ?_ ?_
      · rintro i x σ H' hx ⟨v2, rfl, e⟩
        match i, hx with
        | 0, hx =>
          cases hx
          obtain ⟨a, dx, t, p1, rfl, ha, hT, _⟩ := hu.nx (Nx.ofEx e)
          obtain ⟨b, dy, t', p2, rfl, hb, hT', _⟩ := hv.nx (Nx.ofEx e)
          refine ⟨_, rfl, a, _, dx, _, _, rfl, ha, C.c_Row, C.n_Row_table, rfl, _, rfl, b, _, dy, _, _, rfl, hb, C.c_Row, C.n_Row_table, rfl, dtab hT hT', fun H1 e1 => ⟨_, rfl, ?_⟩⟩
          exact iteF ⟨_, rfl, Evl.Ex.trans e e1⟩
      · rintro σ H' ⟨v2, rfl, e⟩
        exact q H' e
  · exact absurd rfl z
end
end K91
/-! P16 -/
namespace K91
open PySem PySem.Spec PyProof.Rows L2
open C8 (InsC call_isC pss_cut)
theorem nodup_sub {l : List Str} : ∀ {m : List Str}, l.Nodup → (∀ x ∈ l, x ∈ m) → l.length ≤ m.length := by
  induction l with
  | nil => intro m _ _; exact Nat.zero_le _
  | cons a l ih =>
    intro m hn hs
    obtain ⟨h1, h2⟩ := List.nodup_cons.mp hn
    have ha := hs a List.mem_cons_self
    have := ih (m := m.erase a) h2 fun x hx => (List.mem_erase_of_ne (fun e => h1 (by rw [← e]; exact hx))).mpr (hs x (List.mem_cons_of_mem _ hx))
    rw [List.length_erase_of_mem ha] at this
    have : 0 < m.length := List.length_pos_of_mem ha
    simp only [List.length_cons]
    omega
theorem verF_kin {T : Tb} {r : List Syl} (h : Kin T r) : Kin T (verF T r) := fun y hy => by
  have h1 := (formF_perm (fr := T.fr) leS (press T.fr r).reverse).mem_iff.mp hy
  exact shortF_kin (T := T) (s := []) (fun z hz => nomatch hz) h y h1
theorem verF_len {T : Tb} {r : List Syl} (h : Kin T r) : (verF T r).length ≤ r.length := by
  have h1 := formF_len (fr := T.fr) leS (press T.fr r).reverse
  have h2 := shortF_len (T := T) (s := []) (fun z hz => nomatch hz) h
  have h3 : (shortF T [] r).length = (press T.fr r).reverse.length := rfl
  unfold verF
  simp only [List.length_nil] at h2
  omega
theorem ix_tupK {X : Cx} {K : PySem.W.Frag} (hK : X.K = K := by rfl) : IxR X (rIxT K) := by
  subst hK
  exact ix_tup
/-- the same, where what is asked behind it is any -/
theorem mkRow' {K : PySem.W.Frag} {H' : Hp} {t : V} {T : Tb} {r : List Syl} {b : Bool} {D x dx : Addr} {zs : List V} {R : VK} (hx : H' x = none) (hdx : H' dx = none) (hne : dx ≠ x) (hT : TabV K H' t T) (hD : SqA K H' b D zs) (hs : Sys K H' zs r) (hk : Kin T r) (hl : r.length < 100000)
    (q : ∀ H2, Evl.Ex H' H2 → RowV K H2 (.ref x) T r → R .non H2) : spRInit K (.ref x :: ([t, .ref D] ++ [])) (upd (upd H' dx (.own x)) x (.ins (He.ga K "Row") dx [])) R E0 := by
  have ex1 : Evl.Ex H' (upd (upd H' dx (.own x)) x (.ins (He.ga K "Row") dx [])) := Evl.Ex.upd (ex_new hdx) hx
  refine ⟨x, dx, t, T, r, b, D, zs, rfl, upd_same .., hT.nx (Nx.ofEx ex1), sqA_ex ex1 hD, sys_ex ex1 hs, hk, hl, fun H2 e2 hv => ?_⟩
  exact q H2 (Kx.exOf (Kx.trans (Kx.ofEx ex1) e2) (fun a ha => by rw [ha]; exact hx)) hv
/-- v is a version object with that form -/
def VerV (K : PySem.W.Frag) (H : Hp) (v : V) (T : Tb) (f : List Syl) : Prop := ∃ a dx t p v1 v2 v3 v4, v = .ref a ∧ H a = some (.ins (He.ga K "Version") dx [("table", t), ("syllables", p), ("row", v1), ("kinds", v2), ("layers", v3), ("last", v4)]) ∧ TabV K H t T ∧ RowT K H p f
theorem VerV.nx {K : PySem.W.Frag} {H H' : Hp} (e : Nx H H') {v : V} {T : Tb} {f : List Syl} (h : VerV K H v T f) : VerV K H' v T f := by
  obtain ⟨a, dx, t, p, v1, v2, v3, v4, h1, h2, h3, h4⟩ := h
  exact ⟨a, dx, t, p, v1, v2, v3, v4, h1, e _ _ h2 (fun _ z => by cases z), h3.nx e, h4.nx e⟩
section
variable {P : Program} {w : World} {K : PySem.W.Frag} {mg : Str → Option Value} {base : Heap}
theorem ver_ne_tab (C : Fx w K mg base) : He.ga K "Version" ≠ He.ga K "Table" := fun h => by
  have e : a_Version_Dinit K = a_Table_Dinit K := congrArg (fun z => He.ma K z "__init__") h
  obtain ⟨_, _, dV, kV, doc, pm, an, cdv, ct, _, e1, _⟩ := (F_Version_Dinit C).ex
  obtain ⟨_, _, dV', kV', doc', pm', an', cdv', ct', _, e2, _⟩ := (F_Table_Dinit C).ex
  rw [e, e2] at e1
  have q := congrArg FuncData.qualname e1
  exact absurd (show ("Table.__init__" : Str) = "Version.__init__" from q) (by decide)
/-- the version being made, at x -/
structure VSt (K : PySem.W.Frag) (H : Hp) (x dx ta fm : Addr) (T : Tb) (us : List V) (f : List Syl) (fs : List (Str × V)) (Hc : Hp) : Prop where
  kx : Kx (· = x) H Hc
  ob : Hc x = some (.ins (He.ga K "Version") dx fs)
  tb : TabV K Hc (.ref ta) T
  fm : SqT K Hc fm us
  sy : Sys K Hc us f
section
variable {H Hc Hd : Hp} {x dx ta fm : Addr} {T : Tb} {us : List V} {f : List Syl} {fs fs' : List (Str × V)}
theorem VSt.ex (S : VSt K H x dx ta fm T us f fs Hc) (e : Evl.Ex Hc Hd) : VSt K H x dx ta fm T us f fs Hd := ⟨Kx.trans S.kx (Kx.ofEx e), e _ _ S.ob, tab_ex e S.tb, Evl.ex_t e S.fm, sys_ex e S.sy⟩
theorem VSt.st (C : Fx w K mg base) (S : VSt K H x dx ta fm T us f fs Hc) (fs' : List (Str × V)) : VSt K H x dx ta fm T us f fs' (upd Hc x (.ins (He.ga K "Version") dx fs')) := by
  have k : Kx (· = x) Hc (upd Hc x (.ins (He.ga K "Version") dx fs')) := Kx.to (Kx.refl _) (.inl rfl)
  exact ⟨Kx.trans S.kx k, upd_same .., kx_tab k S.ob ins_no S.tb (fun _ _ z => by injection z with z; exact ver_ne_tab C z) (fun _ z => nomatch z), kx_t' k S.ob ins_no S.fm, kx_sy' k S.ob ins_no S.sy⟩
end
def spVInit (K : PySem.W.Frag) : Sp := fun vs H Q _ => ∃ (x dx : Addr) (t : V) (T : Tb) (r : List Syl) (b : Bool) (a : Addr) (ys : List V), vs = [.ref x, t, .ref a] ∧ H x = some (.ins (He.ga K "Version") dx []) ∧ TabV K H t T ∧ SqA K H b a ys ∧ Sys K H ys r ∧ Kin T r ∧ r.length < 100000 ∧ (verF T r).length ≤ 1000 ∧
  ∀ H', Kx (· = x) H H' → VerV K H' (.ref x) T (verF T r) → Q .non H'
theorem ok_Version_Dinit (C : Fx w K mg base) : FnOk P w K mg base CX0 8 (a_Version_Dinit K) (fdA K (a_Version_Dinit K)) ["self", "table", "syllables"] (spVInit K) := by
  refine (F_Version_Dinit C).ok S_Version_Dinit (fun vs H Q E h => ?_) (fun cdv A outer s H vs Q E hr h => ?_)
  · obtain ⟨x, dx, t, T, r, b, a, ys, rfl, _⟩ := h
    rfl
  · obtain ⟨x, dx, t, T, r, b, a, ys, rfl, hx, hT, hq, hs, hk, hz, hzf, q⟩ := h
    refine ⟨_, PSs.nox (pss_cons (ps_set (i := 3) S_Version_Dinit.nd rfl (Or.inr rfl) (pe_cd (D_limited C) (hr.mono (by decide)) (pa_cons (pe_cd (D_pressed C) (hr.mono (by decide)) (pa_cons (pv 1) (pa_cons (pe_fld (pe_mk (M_Row C) (hr.mono (by decide)) (pa_cons (pv 1) (pa_cons (pv 2) pa_nil))) rfl) pa_nil))) pa_nil)))
      (pss_cons (ps_fld (pv 0) (pv 1) rfl)
      (pss_cons (ps_fld (pv 0) (pv 3) rfl)
      (pss_cons (ps_fld (pv 0) (pe_mk (M_Row C) (hr.mono (by decide)) (pa_cons (pv 1) (pa_cons (pv 3) pa_nil))) rfl)
      (pss_cons (ps_fld (pv 0) (pe_callTy call_tuple_of (by rfl) C.z_tuple (by decide +kernel) (pa_cons (pe_callB (cr_sortS (G := P) (w := w) rfl hr.units) (by rfl) C.z_sorted (by decide +kernel) (pa_cons (pe_setC (kdTx P w) (own := [("kind", 4), ("count", 5)]) (g := _) (tt := tYes) rfl S_Version_Dinit.nd (pi_any (pv 3)) (blkOk_by (own := [("kind", 4), ("count", 5)]) (N := ["self", "table", "syllables", "form", "kind", "count", "at"]) (sc := defScope st_Version_Dinit) (by decide +kernel))
        (fun _ _ _ _ _ => (pg_tupK (K := K) (n := 2) rfl (pgs_cons (pg_name (i := 4) S_Version_Dinit.nd rfl (Or.inl rfl)) (pgs_cons (pg_name (i := 5) S_Version_Dinit.nd rfl (Or.inl rfl)) pgs_nil)))) (fun _ _ _ _ _ => pts_nil) (fun _ _ _ _ _ => (pv 4))) pa_nil)) pa_nil)) rfl)
      (pss_cons (ps_fld (pv 0) (pe_cd (D_layers_of C) (hr.mono (by decide)) (pa_cons (pv 1) (pa_cons (pv 3) pa_nil))) rfl)
      (pss_one (ps_fld (pv 0) (pe_callTy call_tuple_of (by rfl) C.z_tuple (by decide +kernel) (pa_cons (pe_callB (cr_sortD (K := K) (β := Syl) (by decide) sorts_pair hr.units) (by rfl) C.z_sorted (by decide +kernel) (pa_cons (pe_lc (own := [("at", 6)]) (g := gName 6) (tt := tYes) rfl S_Version_Dinit.nd (pi_values (pe_lockA (pe_cd (D_lasts C) (hr.mono (by decide)) (pa_cons (pv 1) (pa_cons (pv 3) pa_nil))))) (blkOk_by (own := [("at", 6)]) (N := ["self", "table", "syllables", "form", "kind", "count", "at"]) (sc := defScope st_Version_Dinit) (by decide +kernel)) (fun _ _ _ _ _ => (pg_name (i := 6) S_Version_Dinit.nd rfl (Or.inl rfl))) (fun _ _ _ _ _ => pts_nil) (fun _ _ _ _ _ => (pe_ix (ix_tupK (K := K)) (pv 3) (pv 6) (fun _ _ => rfl)))) pa_nil)) pa_nil)) rfl)))))))), ?_⟩
    obtain ⟨ta, rfl⟩ := tab_ref hT
    have hzs := sizeLine_eq
    -- the row, the form
    refine ⟨_, rfl, _, rfl, _, rfl, ?_⟩
    refine fun p1 q1 hp1 hq1 hne1 => mkRow' hp1 hq1 hne1 hT hq hs hk (by omega) fun H1 e1 hv => ⟨rfl, ?_⟩
    obtain ⟨a1, dx1, t1, y1, ea, ho1, hT1, p2, us, rfl, hp2, hs2⟩ := hv
    cases ea
    refine ⟨p1, _, dx1, _, _, rfl, ho1, C.c_Row, C.n_Row_syllables, rfl, ?_⟩
    refine ⟨.ref ta, T, r, false, p2, us, rfl, hT.nx (Nx.ofEx e1), hp2, hs2, hk, by omega, fun fm H2 e2 hfm hf => ?_⟩
    obtain ⟨fm', fus, ef, hf1, hf2⟩ := hf
    cases ef
    have hkf := verF_kin hk
    have hlf := verF_len hk
    have hlu := pr_len hf2
    refine ⟨fm, fus, rfl, hf1, by omega, ?_⟩
    have e12 := Evl.Ex.trans e1 e2
    have S0 : VSt K H x dx ta fm T fus (verF T r) [] H2 := ⟨Kx.ofEx e12, e12 _ _ hx, tab_ex e12 hT, hf1, hf2⟩
    -- self.table, self.syllables
    refine ⟨_, rfl, _, rfl, x, _, dx, _, rfl, S0.ob, C.c_Version, C.n_Version_table, by decide, ?_⟩
    have S1 := S0.st C [("table", .ref ta)]
    refine ⟨_, rfl, _, rfl, x, _, dx, _, rfl, S1.ob, C.c_Version, C.n_Version_syllables, by show 1 < 1000; decide, ?_⟩
    have S2 := S1.st C [("table", .ref ta), ("syllables", .ref fm)]
    -- self.row
    refine ⟨_, rfl, _, rfl, ?_⟩
    refine fun p3 q3 hp3 hq3 hne3 => mkRow' (b := false) hp3 hq3 hne3 S2.tb S2.fm S2.sy hkf (by omega) fun H3 e3 hv3 => ⟨rfl, ?_⟩
    have S3 := S2.ex e3
    refine ⟨_, rfl, x, _, dx, _, rfl, S3.ob, C.c_Version, C.n_Version_row, by show 2 < 1000; decide, ?_⟩
    obtain ⟨H4, hH4⟩ : ∃ H4, H4 = upd H3 x (.ins (He.ga K "Version") dx (putF "row" (.ref p3) [("table", .ref ta), ("syllables", .ref fm)])) := ⟨_, rfl⟩
    show tSeq _ _ _ _ (upd H3 x (.ins (He.ga K "Version") dx (putF "row" (.ref p3) [("table", .ref ta), ("syllables", .ref fm)])))
    rw [← hH4]
    have S4 : VSt K H x dx ta fm T fus (verF T r) [("table", .ref ta), ("syllables", .ref fm), ("row", .ref p3)] H4 := by
      rw [hH4]
      exact S3.st C _
    -- self.kinds
    refine ⟨_, rfl, false, fm, fus, rfl, S4.fm, fun D hD => ?_⟩
    refine setC_any (kdTx P w) (xs := fus) (fun i H' => ∃ l : List Str, Evl.Ex H4 H' ∧ H' D = some (TxO P w D l) ∧ l.Nodup ∧ ∀ k ∈ l, k ∈ T.kinds)
      ⟨[], ex_new hD, upd_same .., List.nodup_nil, fun k hk => nomatch hk⟩ (fun i H' _ ⟨_, e, _⟩ => sqA_ex e (b := false) S4.fm) ?_ ?_
    · rintro i v H' hv ⟨l, e, hD', hnd, hlk⟩
      obtain ⟨y, hy, p, rfl, hp⟩ := pr_get' S4.sy hv
      have hyk : y.1 ∈ T.kinds := hkf y (List.mem_of_getElem? hy)
      refine ⟨p, _, rfl, Evl.ex_t e hp, rfl, _, _, rfl, _, _, rfl, rfl, rfl, _, rfl, l, putL l y.1, hD', ⟨y.1, rfl, ?_, rfl⟩, putL l y.1, Evl.Ex.upd e hD, upd_same .., ?_⟩
      · have h1 := nodup_sub hnd hlk
        have h2 := T.few
        unfold scanBound
        omega
      · unfold putL
        split
        · exact ⟨hnd, hlk⟩
        · rename_i hm
          refine ⟨List.nodup_cons.mpr ⟨hm, hnd⟩, fun k hk => ?_⟩
          rcases List.mem_cons.mp hk with z | z
          · rw [z]; exact hyk
          · exact hlk k z
    · rintro H5 ⟨l, e5, hD5, hnd, hlk⟩
      have h1 := nodup_sub hnd hlk
      have h2 := T.few
      refine ⟨D, l, rfl, hD5, by omega, fun ks p5 hp5 hks => ?_⟩
      have e6 := Evl.Ex.trans e5 (ex_new (o := .lst (ks.map V.str)) hp5)
      refine ⟨p5, _, rfl, .inl ⟨l_of (upd_same ..), fun p6 hp6 => ?_⟩⟩
      have S5 := (S4.ex e6).ex (ex_new (o := .tup (ks.map V.str)) hp6)
      obtain ⟨H6, hH6⟩ : ∃ H6, H6 = upd (upd H5 p5 (.lst (ks.map V.str))) p6 (.tup (ks.map V.str)) := ⟨_, rfl⟩
      rw [← hH6] at S5 ⊢
      refine ⟨_, rfl, x, _, dx, _, rfl, S5.ob, C.c_Version, C.n_Version_kinds, by show 3 < 1000; decide, ?_⟩
      obtain ⟨H7, hH7⟩ : ∃ H7, H7 = upd H6 x (.ins (He.ga K "Version") dx (putF "kinds" (.ref p6) [("table", .ref ta), ("syllables", .ref fm), ("row", .ref p3)])) := ⟨_, rfl⟩
      show tSeq _ _ _ _ (upd H6 x (.ins (He.ga K "Version") dx (putF "kinds" (.ref p6) [("table", .ref ta), ("syllables", .ref fm), ("row", .ref p3)])))
      rw [← hH7]
      have S7 : VSt K H x dx ta fm T fus (verF T r) [("table", .ref ta), ("syllables", .ref fm), ("row", .ref p3), ("kinds", .ref p6)] H7 := by
        rw [hH7]
        exact S5.st C _
      -- self.layers
      refine ⟨_, rfl, _, rfl, .ref ta, T, verF T r, false, fm, fus, rfl, S7.tb, S7.fm, S7.sy, hkf, by omega, fun p7 ls H8 e8 hp7 hp7' hls => ?_⟩
      have S8 := S7.ex e8
      refine ⟨_, rfl, x, _, dx, _, rfl, S8.ob, C.c_Version, C.n_Version_layers, by show 4 < 1000; decide, ?_⟩
      obtain ⟨H9, hH9⟩ : ∃ H9, H9 = upd H8 x (.ins (He.ga K "Version") dx (putF "layers" (.ref p7) [("table", .ref ta), ("syllables", .ref fm), ("row", .ref p3), ("kinds", .ref p6)])) := ⟨_, rfl⟩
      show Ends.nx _ _ (upd H8 x (.ins (He.ga K "Version") dx (putF "layers" (.ref p7) [("table", .ref ta), ("syllables", .ref fm), ("row", .ref p3), ("kinds", .ref p6)])))
      rw [← hH9]
      have S9 : VSt K H x dx ta fm T fus (verF T r) [("table", .ref ta), ("syllables", .ref fm), ("row", .ref p3), ("kinds", .ref p6), ("layers", .ref p7)] H9 := by
        rw [hH9]
        exact S8.st C _
      -- self.last
      refine ⟨_, rfl, _, rfl, .ref ta, T, verF T r, fm, fus, rfl, S9.tb, S9.fm, S9.sy, hkf, by omega, fun d H10 es e10 hd0 hd hes hel => ?_⟩
      refine ⟨d, _, rfl, hd, True.intro, fun od => ⟨d, od, es, rfl, upd_same .., fun D2 hD2 => ?_⟩⟩
      have e11 : Evl.Ex H9 (upd H10 d (.frz od (.dK es))) := Evl.Ex.upd e10 hd0
      have S11 := S9.ex e11
      have hDd : D2 ≠ d := fun z => by rw [z, upd_same] at hD2; cases hD2
      have hD9 : H9 D2 = none := ex_free e11 hD2
      refine lcG_vals (fun i H' => ∃ zs bs, Evl.Ex H9 H' ∧ H' d = some (.frz od (.dK es)) ∧ H' D2 = some (.lst zs) ∧ Sys K H' zs bs ∧ zs.length ≤ i) ⟨[], [], Evl.Ex.upd e11 hD9, by rw [upd_ne hDd.symm, upd_same], upd_same .., .nil, Nat.le_refl _⟩
        (fun i H' _ ⟨_, _, _, h, _⟩ => h) ?_ ?_
      · rintro i k v H' hx ⟨zs, bs, e, hd', hD', hzs, hl'⟩
        have hil : i < es.length := (List.getElem?_eq_some_iff.mp hx).1
        obtain ⟨j, hj, hjl⟩ := hes _ (List.mem_of_getElem? hx)
        have hj : v = .int (j : Nat) := hj
        subst hj
        have Sx := S9.ex e
        have hjf : j < (verF T r).length := hjl
        obtain ⟨v, hv, hsy⟩ := pr_get Sx.sy (List.getElem?_eq_getElem hjf)
        refine ⟨rfl, _, rfl, _, rfl, fm, fus, (j : Int), v, rfl, rfl, Sx.fm, atI_nat hv, zs, hD', by omega, zs ++ [v], bs ++ [(verF T r)[j]], Evl.Ex.upd e hD9, by rw [upd_ne hDd.symm]; exact hd', upd_same .., ?_, by simp; omega⟩
        have n2 : Nx H' (upd H' D2 (.lst (zs ++ [v]))) := Nx.upd (Nx.refl _) (.inr ⟨_, hD'⟩)
        exact pr_app (sys_nx n2 hzs) (.cons (hsy.nx n2) .nil)
      · rintro H12 ⟨zs, bs, e, hd', hD', hzs, hl'⟩
        refine ⟨D2, zs, bs, Sy K H12, rfl, .inl (l_of hD'), hzs, fun v b hv => ?_, fun ws p13 hp13 hws => ?_⟩
        · obtain ⟨p, rfl, hp⟩ := hv
          exact .tup hp (.cons (.str _) (.cons (.int _) .nil))
        · refine ⟨p13, ws, rfl, .inl ⟨l_of (upd_same ..), fun p14 hp14 => ?_⟩⟩
          have e13 := ex_new (o := .lst ws) hp13
          have S14 := ((S9.ex e).ex e13).ex (ex_new (o := .tup ws) hp14)
          refine ⟨_, rfl, x, _, dx, _, rfl, S14.ob, C.c_Version, C.n_Version_last, by show 5 < 1000; decide, ?_⟩
          have S15 := S14.st C [("table", .ref ta), ("syllables", .ref fm), ("row", .ref p3), ("kinds", .ref p6), ("layers", .ref p7), ("last", .ref p14)]
          exact q _ S15.kx ⟨x, dx, .ref ta, .ref fm, _, _, _, _, rfl, S15.ob, S15.tb, fm, fus, rfl, S15.fm, S15.sy⟩
end
end K91
/-! P17 -/
namespace K91
open PySem PySem.Spec PyProof.Rows L2
open C8 (InsC call_isC pss_cut)
section
variable {P : Program} {w : World} {K : PySem.W.Frag} {mg : Str → Option Value} {base : Heap}
theorem M_Version (C : Fx w K mg base) : Dk P w K mg base 8 (He.ga K "Version") (a_Version_Dinit K) (fdA K (a_Version_Dinit K)) ["self", "table", "syllables"] (spVInit K) "Version" := ⟨ok_Version_Dinit C, C.k_Version, C.g_Version, B_Version_Dinit C⟩
/-! ### Version.of -/
def spVOf (K : PySem.W.Frag) : Sp := fun vs H Q _ => ∃ (c v : V) (T : Tb) (r : List Syl), vs = [c, v] ∧ RowV K H v T r ∧ Kin T r ∧ r.length < 100000 ∧ (verF T r).length ≤ 1000 ∧ ∀ p H', Evl.Ex H H' → H p = none → VerV K H' (.ref p) T (verF T r) → Q (.ref p) H'
theorem ok_Version_of (C : Fx w K mg base) : FnOk P w K mg base CX0 10 (a_Version_of K) (fdA K (a_Version_of K)) ["cls", "row"] (spVOf K) := by
  refine (F_Version_of C).ok S_Version_of (fun vs H Q E h => ?_) (fun cdv A outer s H vs Q E hr h => ?_)
  · obtain ⟨c, v, T, r, rfl, _⟩ := h
    rfl
  · obtain ⟨c, v, T, r, rfl, ⟨a, dx, t, p, rfl, ha, hT, p', us, rfl, hp, hs⟩, hk, hl, hlf, q⟩ := h
    refine ⟨_, (pss_one (ps_ret (pe_mk (M_Version C) (hr.mono (by decide)) (pa_cons (pe_fld (pv 1) rfl) (pa_cons (pe_fld (pv 1) rfl) pa_nil))))), ?_⟩
    refine ⟨_, rfl, a, _, dx, _, _, rfl, ha, C.c_Row, C.n_Row_table, rfl, _, rfl, a, _, dx, _, _, rfl, ha, C.c_Row, C.n_Row_syllables, rfl, ?_⟩
    refine fun x dx1 hx hdx hne => ?_
    have ex1 : Evl.Ex H (upd (upd H dx1 (.own x)) x (.ins (He.ga K "Version") dx1 [])) := Evl.Ex.upd (ex_new hdx) hx
    refine ⟨x, dx1, t, T, r, false, p', us, rfl, upd_same .., tab_ex ex1 hT, Evl.ex_t ex1 hp, sys_ex ex1 hs, hk, hl, hlf, fun H2 e2 hv => ⟨rfl, ?_⟩⟩
    exact q x H2 (Kx.exOf (Kx.trans (Kx.ofEx ex1) e2) (fun b hb => by rw [hb]; exact hx)) hx hv
theorem O_Version (C : Fx w K mg base) : Dc P w K mg base 10 (He.ga K "Version") (a_Version_of K) (He.ma K (He.ga K "Version") "of") (fdA K (a_Version_of K)) ["cls", "row"] (spVOf K) "of" :=
  ⟨ok_Version_of C, (cmB_ok (ex_parts C).2.2.2.2.2.2.2.2.1).1, (cmB_ok (ex_parts C).2.2.2.2.2.2.2.2.1).2, B_Version_of C⟩
/-! ### version == version -/
def VerE (K : PySem.W.Frag) (a b : Addr) (H : Hp) : Prop := ∃ T f, VerV K H (.ref a) T f ∧ VerV K H (.ref b) T f
theorem ok_Version_Deq (C : Fx w K mg base) : FnOk P w K mg base CX0 2 (a_Version_Deq K) (fdA K (a_Version_Deq K)) ["self", "other"] (spEq (VerE K)) := by
  refine (F_Version_Deq C).ok S_Version_Deq (fun vs H Q E h => ?_) (fun cdv A outer s H vs Q E hr h => ?_)
  · obtain ⟨a, b, rfl, _⟩ := h
    rfl
  · obtain ⟨a, b, rfl, ⟨T, r, ⟨a', dx, t, p, _, _, _, _, e, ha, hT, p1, us, rfl, hp, hs⟩, ⟨b', dy, t', p', _, _, _, _, e', hb, hT', p2, us2, rfl, hp2, hs2⟩⟩, q⟩ := h
    cases e
    cases e'
    refine ⟨_, (pss_one (ps_ret (pe_and (pe_callB (call_isC C.ins_Version) (by rfl) C.z_isinstance (by decide +kernel) (pa_cons (pv 1) (pa_cons (pe_glob (v := .ref (He.ga K "Version")) rfl C.g_Version rfl) pa_nil)))
      (pe_and (pe_cmpR (eq_tab C rfl rfl rfl rfl rfl (hr.mono (by decide))) (pe_fld (pv 0) rfl) (pe_fld (pv 1) rfl) (nomark _)) (pe_one (pe_cmpR (op_eqT (α := PySem.W.Tup (Str × Int)) hr.units (by decide)) (pe_fld (pv 0) rfl) (pe_fld (pv 1) rfl) (nomark _))))))), ?_⟩
    refine ⟨_, rfl, _, dy, _, rfl, hb, true, rfl, iteT ?_⟩
    refine ⟨_, rfl, a, _, dx, _, _, rfl, ha, C.c_Version, C.n_Version_table, rfl, _, rfl, b, _, dy, _, _, rfl, hb, C.c_Version, C.n_Version_table, rfl, dtab hT hT', fun H1 e1 => ⟨true, rfl, iteT ?_⟩⟩
    refine ⟨_, rfl, a, _, dx, _, _, rfl, e1 _ _ ha, C.c_Version, C.n_Version_syllables, rfl, _, rfl, b, _, dy, _, _, rfl, e1 _ _ hb, C.c_Version, C.n_Version_syllables, rfl, ⟨r⟩, ⟨r⟩, .tup (Evl.ex_t e1 hp) (syl_dp (sys_ex e1 hs)), .tup (Evl.ex_t e1 hp2) (syl_dp (sys_ex e1 hs2)), ?_⟩
    rw [decide_eq_true rfl]
    exact q H1 e1
/-! ### == and != as the law asks them -/
theorem drow {H : Hp} {u v : V} {T : Tb} {r : List Syl} (h1 : RowV K H u T r) (h2 : RowV K H v T r) : DIns (He.ga K "Row") (RowE K) u v H := by
  obtain ⟨a, dx, t, p, e1, i1, _⟩ := id h1
  obtain ⟨b, dy, t', p', e2, i2, _⟩ := id h2
  subst e1 e2
  exact ⟨a, b, dx, dy, _, _, rfl, rfl, i1, i2, T, r, h1, h2⟩
theorem dver {H : Hp} {u v : V} {T : Tb} {r : List Syl} (h1 : VerV K H u T r) (h2 : VerV K H v T r) : DIns (He.ga K "Version") (VerE K) u v H := by
  obtain ⟨a, dx, t, p, _, _, _, _, e1, i1, _⟩ := id h1
  obtain ⟨b, dy, t', p', _, _, _, _, e2, i2, _⟩ := id h2
  subst e1 e2
  exact ⟨a, b, dx, dy, _, _, rfl, rfl, i1, i2, T, r, h1, h2⟩
theorem ne_row (C : Fx w K mg base) {X : Cx} (hP : X.prog = P) (hw : X.w = w) (hK : X.K = K) (hm : X.mg = mg) (hb : X.base = base) (hr : Room 3 X.A) : OpR X (compareOp .NotEq) (rNeG (DIns (He.ga K "Row") (RowE K))) := by
  subst hP hw hK hm hb
  exact op_neG (n := 2) (ok_Row_Deq C) C.m_Row_Deq.at_ C.m_Row_Deq.fn (B_Row_Deq C) pass0 C.ins_Row.hm C.ne_Row hr
theorem eq_row (C : Fx w K mg base) {X : Cx} (hP : X.prog = P) (hw : X.w = w) (hK : X.K = K) (hm : X.mg = mg) (hb : X.base = base) (hr : Room 2 X.A) : OpR X (compareOp .Eq) (rEqG (DIns (He.ga K "Row") (RowE K))) := by
  subst hP hw hK hm hb
  exact op_eqG (n := 2) (rcG_ins (ok_Row_Deq C) C.m_Row_Deq.at_ C.m_Row_Deq.fn (B_Row_Deq C) pass0) hr
theorem ne_ver (C : Fx w K mg base) {X : Cx} (hP : X.prog = P) (hw : X.w = w) (hK : X.K = K) (hm : X.mg = mg) (hb : X.base = base) (hr : Room 3 X.A) : OpR X (compareOp .NotEq) (rNeG (DIns (He.ga K "Version") (VerE K))) := by
  subst hP hw hK hm hb
  exact op_neG (n := 2) (ok_Version_Deq C) C.m_Version_Deq.at_ C.m_Version_Deq.fn (B_Version_Deq C) pass0 C.ins_Version.hm C.ne_Version hr
end
end K91
/-! MF -/
/-! steps from one row to an alike one -/
namespace K91
open PySem PySem.Spec
inductive Stp where
  | ex (n : Nat)
  | melt (n : Nat)
  | drop (n : Nat)
  | split (n : Nat) (c : Int)
  | put (n : Nat) (k : Str)
def Stp.shift (m : Nat) : Stp → Stp
  | .ex n => .ex (n + m)
  | .melt n => .melt (n + m)
  | .drop n => .drop (n + m)
  | .split n c => .split (n + m) c
  | .put n k => .put (n + m) k
/-- what a step does -/
inductive Do (T : Tb) : Stp → List Syl → List Syl → Prop where
  | ex (a b : List Syl) (y z : Syl) (h : T.fr y.1 z.1 = true) : Do T (.ex a.length) (a ++ y :: z :: b) (a ++ z :: y :: b)
  | melt (a b : List Syl) (k : Str) (m n : Int) : Do T (.melt a.length) (a ++ (k, m) :: (k, n) :: b) (a ++ (k, m + n) :: b)
  | drop (a b : List Syl) (k : Str) : Do T (.drop a.length) (a ++ (k, 0) :: b) (a ++ b)
  | split (a b : List Syl) (k : Str) (m n : Int) : Do T (.split a.length n) (a ++ (k, m) :: b) (a ++ (k, n) :: (k, m - n) :: b)
  | put (a b : List Syl) (k : Str) (h : k ∈ T.kinds) : Do T (.put a.length k) (a ++ b) (a ++ (k, 0) :: b)
inductive Run (T : Tb) : List Stp → List Syl → List Syl → Prop where
  | nil (r : List Syl) : Run T [] r r
  | cons {s : Stp} {ss : List Stp} {r r1 r2 : List Syl} (h : Do T s r r1) (t : Run T ss r1 r2) : Run T (s :: ss) r r2
section
variable {T : Tb} {s : Stp} {ss ss' : List Stp} {r r1 r2 : List Syl}
theorem Run.app : ∀ {ss ss' : List Stp} {r r1 r2 : List Syl}, Run T ss r r1 → Run T ss' r1 r2 → Run T (ss ++ ss') r r2
  | [], _, _, _, _, .nil _, t => t
  | _ :: _, _, _, _, _, .cons h u, t => .cons h (u.app t)
theorem Run.one (h : Do T s r r1) : Run T [s] r r1 := .cons h (.nil _)
theorem Run.snoc (u : Run T ss r r1) (h : Do T s r1 r2) : Run T (ss ++ [s]) r r2 := u.app (.one h)
theorem Do.suffix (x : List Syl) (h : Do T s r r1) : Do T s (r ++ x) (r1 ++ x) := by
  cases h with
  | ex a b y z h => simpa using Do.ex a (b ++ x) y z h
  | melt a b k m n => simpa using Do.melt (T := T) a (b ++ x) k m n
  | drop a b k => simpa using Do.drop (T := T) a (b ++ x) k
  | split a b k m n => simpa using Do.split (T := T) a (b ++ x) k m n
  | put a b k h => simpa using Do.put a (b ++ x) k h
theorem Do.pref (x : List Syl) (h : Do T s r r1) : Do T (s.shift x.length) (x ++ r) (x ++ r1) := by
  have e : ∀ a : List Syl, a.length + x.length = (x ++ a).length := fun a => by rw [List.length_append, Nat.add_comm]
  cases h with
  | ex a b y z h => simpa [Stp.shift, e, ← List.append_assoc] using Do.ex (x ++ a) b y z h
  | melt a b k m n => simpa [Stp.shift, e, ← List.append_assoc] using Do.melt (T := T) (x ++ a) b k m n
  | drop a b k => simpa [Stp.shift, e, ← List.append_assoc] using Do.drop (T := T) (x ++ a) b k
  | split a b k m n => simpa [Stp.shift, e, ← List.append_assoc] using Do.split (T := T) (x ++ a) b k m n
  | put a b k h => simpa [Stp.shift, e, ← List.append_assoc] using Do.put (x ++ a) b k h
theorem Run.suffix (x : List Syl) : ∀ {ss : List Stp} {r r1 : List Syl}, Run T ss r r1 → Run T ss (r ++ x) (r1 ++ x)
  | [], _, _, .nil _ => .nil _
  | _ :: _, _, _, .cons h u => .cons (h.suffix x) (u.suffix x)
theorem Run.pref (x : List Syl) : ∀ {ss : List Stp} {r r1 : List Syl}, Run T ss r r1 → Run T (ss.map (Stp.shift x.length)) (x ++ r) (x ++ r1)
  | [], _, _, .nil _ => .nil _
  | _ :: _, _, _, .cons h u => .cons (h.pref x) (u.pref x)
theorem Do.kin (h : Do T s r r1) (k : Kin T r) : Kin T r1 := by
  cases h with
  | ex a b y z h =>
    intro x hx
    refine k x ?_
    simp only [List.mem_append, List.mem_cons] at hx ⊢
    rcases hx with h | h | h | h
    · exact .inl h
    · exact .inr (.inr (.inl h))
    · exact .inr (.inl h)
    · exact .inr (.inr (.inr h))
  | melt a b kk m n =>
    intro x hx
    simp only [List.mem_append, List.mem_cons] at hx
    rcases hx with h | h | h
    · exact k x (by simp [h])
    · subst h
      exact k (kk, m) (by simp)
    · exact k x (by simp [h])
  | drop a b kk =>
    intro x hx
    refine k x ?_
    simp only [List.mem_append, List.mem_cons] at hx ⊢
    exact hx.elim .inl fun h => .inr (.inr h)
  | split a b kk m n =>
    intro x hx
    simp only [List.mem_append, List.mem_cons] at hx
    rcases hx with h | h | h | h
    · exact k x (by simp [h])
    · subst h
      exact k (kk, m) (by simp)
    · subst h
      exact k (kk, m) (by simp)
    · exact k x (by simp [h])
  | put a b kk hk =>
    intro x hx
    simp only [List.mem_append, List.mem_cons] at hx
    rcases hx with h | h | h
    · exact k x (by simp [h])
    · subst h
      exact hk
    · exact k x (by simp [h])
theorem Do.len (h : Do T s r r1) : r1.length ≤ r.length + 1 := by
  cases h <;> simp <;> omega
theorem Run.kin : ∀ {ss : List Stp} {r r1 : List Syl}, Run T ss r r1 → Kin T r → Kin T r1
  | [], _, _, .nil _, k => k
  | _ :: _, _, _, .cons h u, k => u.kin (h.kin k)
theorem Run.len : ∀ {ss : List Stp} {r r1 : List Syl}, Run T ss r r1 → r1.length ≤ r.length + ss.length
  | [], _, _, .nil _ => by simp
  | _ :: _, _, _, .cons h u => by
    have := h.len
    have := u.len
    simp only [List.length_cons]
    omega
end
end K91
/-! R11 -/
/-! o[a:b] = a list -/
namespace K91
open PySem PySem.Spec PyProof.Rows L2
def gSlice (to tl th : TE) : TG := fun v σ H Q => to σ H fun x H1 => tl σ H1 fun y H2 => th σ H2 fun z H3 => ∃ l b xs ys, ∃ a c : Nat, x = .ref l ∧ y = .int (a : Nat) ∧ z = .int (c : Nat) ∧ v = .ref b ∧ H3 l = some (.lst xs) ∧ H3 b = some (.lst ys) ∧ l ≠ b ∧ a ≤ c ∧ c ≤ xs.length ∧
  xs.length + ys.length ≤ sizeLine ∧ Q σ (upd H3 l (.lst (xs.take a ++ ys ++ xs.drop c)))
section
variable {X : Cx} {o lo hi : Expr} {to tl th : TE} {sp pos : Pos}
theorem pg_slice (ho : PE X o to) (hl : PE X lo tl) (hh : PE X hi th)
    (ha : ∀ v, assign (.Subscript o (.Slice (some lo) (some hi) none sp) pos) X.env v = (do
      let ov ← holding [v] (eval o X.env)
      let iv ← holding [v, ov] (eval (.Slice (some lo) (some hi) none sp) X.env)
      standAt pos
      holding [v, ov, iv] (setItem ov iv v)
      release [iv, v, ov] []) := by intro _; rfl) : PG X (.Subscript o (.Slice (some lo) (some hi) none sp) pos) (gSlice to tl th) := by
  refine ⟨fun pins s σ H v u Q I r h => ?_⟩
  rw [ha]
  refine wpAny_bind (wpAny_holding (thn (ho.run pins s σ H _ I h) fun ov s1 ⟨x, H1, I1, r1, q1⟩ => ?_))
  refine wpAny_bind (wpAny_holding ?_)
  refine wpAny_Slice (thn (hl.run pins s1 σ H1 _ I1 q1) fun vl s2 ⟨y, H2, I2, pl, q2⟩ => thn (hh.run pins s2 σ H2 _ I2 q2) fun vu s3 ⟨z, H3, I3, pu, q3⟩ => ?_)
  obtain ⟨l, b, xs, ys, a, c, rfl, rfl, rfl, rfl, hl1, hb1, hne, hac, hc, hz, q⟩ := q3
  cases r
  cases r1
  refine wpAny_pure ?_
  have I4 : Inv X pins σ H3 { s3 with heap := s3.heap.push { cls := .type "slice", data := .fields #[vl, vu, .none] } } := I3.kept (t' := s3.toks) fun b ob q => Heap.get?_push_of_some _ q
  refine wpAny_bind (wpAny_standAt (wpAny_bind (wpAny_holding ?_)))
  refine set_slice I4 hl1 hb1 hne (Heap.IsSliceOf.new ..) pl pu (by omega) (by omega) (by omega) hz fun s' I' => ?_
  exact wpAny_release ⟨σ, _, I', by simpa using q⟩
end
end K91
/-! P18 -/
namespace K91
open PySem PySem.Spec PyProof.Rows L2
theorem pr_split {α β : Type} {R : α → β → Prop} : ∀ {ys ys' : List β} {xs : List α}, Paired R xs (ys ++ ys') → ∃ x1 x2, xs = x1 ++ x2 ∧ Paired R x1 ys ∧ Paired R x2 ys'
  | [], _, xs, h => ⟨[], xs, rfl, .nil, h⟩
  | y :: ys, _, _, .cons r t => by
    obtain ⟨x1, x2, rfl, h1, h2⟩ := pr_split (ys := ys) t
    exact ⟨_ :: x1, x2, rfl, .cons r h1, h2⟩
theorem ix_listK {X : Cx} {K : PySem.W.Frag} (hK : X.K = K := by rfl) : IxR X (rIxL K) := by
  subst hK
  exact ix_list
/-- behind a step on the list at l -/
def Post (K : PySem.W.Frag) (H : Hp) (l : Addr) (r : List Syl) (Q : VK) : Prop := ∀ H' us, Kx (· = l) H H' → H' l = some (.lst us) → Sys K H' us r → Q (.bl true) H'
section
variable {P : Program} {w : World} {K : PySem.W.Frag} {mg : Str → Option Value} {base : Heap}
def spExch (K : PySem.W.Frag) : Sp := fun vs H Q _ => ∃ (t : V) (l : Addr) (T : Tb) (n : Nat) (r r' : List Syl) (us : List V), vs = [t, .ref l, .int (n : Nat)] ∧ TabV K H t T ∧ H l = some (.lst us) ∧ Sys K H us r ∧ Kin T r ∧ r.length < 100000 ∧ Do T (.ex n) r r' ∧ Post K H l r' Q
theorem ok_exchange (C : Fx w K mg base) : FnOk P w K mg base CX0 2 (a_exchange K) (fdA K (a_exchange K)) ["table", "row", "at"] (spExch K) := by
  refine (F_exchange C).ok S_exchange (fun vs H Q E h => ?_) (fun cdv A outer s H vs Q E hr h => ?_)
  · obtain ⟨t, l, T, n, r, r', us, rfl, _⟩ := h
    rfl
  · obtain ⟨t, l, T, n, r, r', us, rfl, hT, hl, hs, hk, hz, hd, q⟩ := h
    refine ⟨_, (pss_cons (ps_if (PW.pt (pw_or (pt_not (pt_chain op_le op_lt pe_int (pv 2) (pe_op op_sub (pe_callB call_len_seq (by rfl) C.z_len (by decide +kernel) (pa_cons (pv 1) pa_nil)) pe_int))) (pw_or1 (pt_cmpR op_in_seq (pe_ix ix_tup (pe_ix ix_list (pv 1) (pe_op op_add (pv 2) pe_int) (fun _ _ => rfl)) pe_int (fun _ _ => rfl)) (pe_md (D_links C) (hr.mono (by decide)) (pv 0) (pa_cons (pe_ix ix_tup (pe_ix ix_list (pv 1) (pv 2) (fun _ _ => rfl)) pe_int (fun _ _ => rfl)) pa_nil)) (by rfl)))))
        (pss_one (ps_ret pe_bl))
        pss_nil)
      (pss_cons (ps_asg (pe_tup (pa_cons (pe_ix ix_list (pv 1) (pe_op op_add (pv 2) pe_int) (fun _ _ => rfl)) (pa_cons (pe_ix ix_list (pv 1) (pv 2) (fun _ _ => rfl)) pa_nil))) (pg_tup rfl (pgs_cons (pg_sub (pv 1) (pv 2) set_list) (pgs_cons (pg_sub (pv 1) (pe_op op_add (pv 2) pe_int) set_list) pgs_nil))))
      (pss_one (ps_ret pe_bl)))), ?_⟩
    obtain ⟨ta, tdx, pk, pp, pl, ps, lk, rfl, hobj, _⟩ := id hT
    cases hd with
    | ex a b y z hf =>
      obtain ⟨ua, u1, rfl, ha, h1⟩ := pr_split hs
      cases h1 with
      | cons hy h2 =>
      cases h2 with
      | @cons vz _ ub _ hz2 hb =>
      rename_i vy _
      obtain ⟨py, rfl, hpy⟩ := hy
      obtain ⟨pz, rfl, hpz⟩ := hz2
      have hla : ua.length = a.length := pr_len ha
      have hlb := pr_len hb
      have hlen : (ua ++ V.ref py :: V.ref pz :: ub).length = a.length + b.length + 2 := by simp; omega
      have g1 : atI (ua ++ V.ref py :: V.ref pz :: ub) ((a.length : Nat) : Int) = some (.ref py) := atI_nat (by rw [← hla]; simp)
      have g2 : atI (ua ++ V.ref py :: V.ref pz :: ub) (((a.length : Nat) : Int) + 1) = some (.ref pz) := by
        have : (((a.length : Nat) : Int) + 1) = ((a.length + 1 : Nat) : Int) := by omega
        rw [this]
        exact atI_nat (by rw [← hla]; simp)
      have hln : z.1 ∉ T.links y.1 := fun h => by
        have := (List.mem_filter.mp h).2
        rw [hf] at this
        cases this
      have hyT : y.1 ∈ T.kinds := hk y (by simp)
      refine ⟨_, rfl, (0 : Int), ((a.length : Nat) : Int), rfl, rfl, _, rfl, ?_⟩
      rw [show decide ((0 : Int) ≤ ((a.length : Nat) : Int)) = true from decide_eq_true (by omega)]
      refine iteT ⟨_, rfl, l, _, rfl, .inl (l_of hl), _, _, rfl, rfl, _, _, rfl, rfl, _, rfl, ?_⟩
      rw [show decide (((a.length : Nat) : Int) < ((ua ++ V.ref py :: V.ref pz :: ub).length : Int) - 1) = true from decide_eq_true (by rw [hlen]; omega)]
      refine iteF ?_
      have i2 : (((a.length : Nat) : Int) + 1) = ((a.length + 1 : Nat) : Int) := by omega
      refine ⟨_, rfl, _, rfl, _, 1, rfl, rfl, l, _, _, .ref pz, rfl, rfl, l_of hl, g2, pz, _, (0 : Int), _, rfl, rfl, hpz, atI_nat (j := 0) rfl, ?_⟩
      refine ⟨_, rfl, ta, tdx, _, rfl, hobj, rfl, _, rfl, _, rfl, l, _, _, .ref py, rfl, rfl, l_of hl, g1, py, _, (0 : Int), _, rfl, rfl, hpy, atI_nat (j := 0) rfl, ?_⟩
      refine ⟨.ref ta, y.1, T, rfl, hT, hyT, fun p hp => ?_⟩
      refine ⟨p, _, rfl, .inr hp, rfl, all_strs, _, rfl, ?_⟩
      rw [if_neg Bool.false_ne_true, inV_strs, decide_eq_false hln]
      refine iteF ?_
      refine ⟨_, rfl, _, rfl, _, 1, rfl, rfl, l, _, _, .ref pz, rfl, rfl, l_of hl, g2, _, rfl, _, rfl, l, _, _, .ref py, rfl, rfl, l_of hl, g1, by show 2 ≤ sizeLine; decide, fun w0 hw => ?_⟩
      have e1 := ex_new (o := .tup [.ref pz, .ref py]) hw
      refine ⟨w0, _, rfl, t_of (upd_same ..), rfl, _, _, rfl, _, rfl, _, rfl, l, _, ((a.length : Nat) : Int), a.length, rfl, rfl, e1 _ _ hl, ixN_at (by rw [hlen]; omega), ?_⟩
      refine ⟨_, _, rfl, _, rfl, _, rfl, _, 1, rfl, rfl, l, _, ((a.length : Nat) : Int) + 1, a.length + 1, rfl, rfl, upd_same .., by rw [i2]; exact ixN_at (by rw [List.length_set, hlen]; omega), rfl, ?_⟩
      rw [upd_upd]
      have eu : ((ua ++ V.ref py :: V.ref pz :: ub).set a.length (.ref pz)).set (a.length + 1) (.ref py) = ua ++ V.ref pz :: V.ref py :: ub := by
        rw [← hla, List.set_append_right _ _ (Nat.le_refl _), List.set_append_right _ _ (by omega), Nat.sub_self, show ua.length + 1 - ua.length = 1 by omega]
        rfl
      rw [eu]
      have hN : Nx H (upd (upd H w0 (.tup [.ref pz, .ref py])) l (.lst (ua ++ V.ref pz :: V.ref py :: ub))) := Nx.upd (Nx.ofEx e1) (.inr ⟨_, hl⟩)
      refine q _ _ (Kx.to (Kx.ofEx e1) (.inl rfl)) (upd_same ..) ?_
      exact sys_nx hN (pr_app ha (.cons ⟨pz, rfl, hpz⟩ (.cons ⟨py, rfl, hpy⟩ hb)))
end
end K91
/-! P19 -/
namespace K91
open PySem PySem.Spec PyProof.Rows L2
section
variable {P : Program} {w : World} {K : PySem.W.Frag} {mg : Str → Option Value} {base : Heap}
/-! ### melt -/
def spMelt (K : PySem.W.Frag) : Sp := fun vs H Q _ => ∃ (t : V) (l : Addr) (T : Tb) (n : Nat) (r r' : List Syl) (us : List V), vs = [t, .ref l, .int (n : Nat)] ∧ TabV K H t T ∧ H l = some (.lst us) ∧ Sys K H us r ∧ Kin T r ∧ r.length < 100000 ∧ Do T (.melt n) r r' ∧ Post K H l r' Q
theorem ok_melt (C : Fx w K mg base) : FnOk P w K mg base CX0 2 (a_melt K) (fdA K (a_melt K)) ["table", "row", "at"] (spMelt K) := by
  refine (F_melt C).ok S_melt (fun vs H Q E h => ?_) (fun cdv A outer s H vs Q E hr h => ?_)
  · obtain ⟨t, l, T, n, r, r', us, rfl, _⟩ := h
    rfl
  · obtain ⟨t, l, T, n, r, r', us, rfl, hT, hl, hs, hk, hz, hd, q⟩ := h
    refine ⟨_, (pss_cons (ps_if (PW.pt (pw_or (pt_not (pt_chain op_le op_lt pe_int (pv 2) (pe_op op_sub (pe_callB call_len_seq (by rfl) C.z_len (by decide +kernel) (pa_cons (pv 1) pa_nil)) pe_int))) (pw_or1 (pt_cmpR op_ne (pe_ix ix_tup (pe_ix ix_list (pv 1) (pe_op op_add (pv 2) pe_int) (fun _ _ => rfl)) pe_int (fun _ _ => rfl)) (pe_ix ix_tup (pe_ix ix_list (pv 1) (pv 2) (fun _ _ => rfl)) pe_int (fun _ _ => rfl)) (nomark _)))))
        (pss_one (ps_ret pe_bl))
        pss_nil)
      (pss_cons (ps_asg (pe_tup (pa_cons (pe_ix ix_tup (pe_ix ix_list (pv 1) (pv 2) (fun _ _ => rfl)) pe_int (fun _ _ => rfl)) (pa_cons (pe_op op_add (pe_ix ix_tup (pe_ix ix_list (pv 1) (pv 2) (fun _ _ => rfl)) pe_int (fun _ _ => rfl)) (pe_ix ix_tup (pe_ix ix_list (pv 1) (pe_op op_add (pv 2) pe_int) (fun _ _ => rfl)) pe_int (fun _ _ => rfl))) pa_nil))) (pg_sub (pv 1) (pv 2) set_list))
      (pss_cons (ps_delL (pv 1) (pe_op op_add (pv 2) pe_int))
      (pss_one (ps_ret pe_bl))))), ?_⟩
    cases hd with
    | melt a b k m n =>
      obtain ⟨ua, u1, rfl, ha, h1⟩ := pr_split hs
      cases h1 with
      | @cons vy _ u2 _ hy h2 =>
      cases h2 with
      | @cons vz _ ub _ hz2 hb =>
      obtain ⟨py, rfl, hpy⟩ := hy
      obtain ⟨pz, rfl, hpz⟩ := hz2
      have hla : ua.length = a.length := pr_len ha
      have hlb := pr_len hb
      have hlen : (ua ++ V.ref py :: V.ref pz :: ub).length = a.length + b.length + 2 := by simp; omega
      have hzz : a.length + b.length + 2 < 100000 := by simp at hz; omega
      have g1 : atI (ua ++ V.ref py :: V.ref pz :: ub) ((a.length : Nat) : Int) = some (.ref py) := atI_nat (by rw [← hla]; simp)
      have i2 : (((a.length : Nat) : Int) + 1) = ((a.length + 1 : Nat) : Int) := by omega
      have g2 : atI (ua ++ V.ref py :: V.ref pz :: ub) (((a.length : Nat) : Int) + 1) = some (.ref pz) := by
        rw [i2]
        exact atI_nat (by rw [← hla]; simp)
      refine ⟨_, rfl, (0 : Int), ((a.length : Nat) : Int), rfl, rfl, _, rfl, ?_⟩
      rw [show decide ((0 : Int) ≤ ((a.length : Nat) : Int)) = true from decide_eq_true (by omega)]
      refine iteT ⟨_, rfl, l, _, rfl, .inl (l_of hl), _, _, rfl, rfl, _, _, rfl, rfl, _, rfl, ?_⟩
      rw [show decide (((a.length : Nat) : Int) < ((ua ++ V.ref py :: V.ref pz :: ub).length : Int) - 1) = true from decide_eq_true (by rw [hlen]; omega)]
      refine iteF ?_
      refine ⟨_, rfl, _, rfl, _, 1, rfl, rfl, l, _, _, .ref pz, rfl, rfl, l_of hl, g2, pz, _, (0 : Int), _, rfl, rfl, hpz, atI_nat (j := 0) rfl, ?_⟩
      refine ⟨_, rfl, _, rfl, l, _, _, .ref py, rfl, rfl, l_of hl, g1, py, _, (0 : Int), _, rfl, rfl, hpy, atI_nat (j := 0) rfl, rfl, _, rfl, ?_⟩
      rw [decide_eq_true rfl]
      refine iteF ?_
      refine ⟨_, rfl, _, rfl, l, _, _, .ref py, rfl, rfl, l_of hl, g1, py, _, (0 : Int), _, rfl, rfl, hpy, atI_nat (j := 0) rfl, ?_⟩
      refine ⟨_, rfl, _, rfl, l, _, _, .ref py, rfl, rfl, l_of hl, g1, py, _, (1 : Int), _, rfl, rfl, hpy, atI_nat (j := 1) rfl, ?_⟩
      refine ⟨_, rfl, _, rfl, _, 1, rfl, rfl, l, _, _, .ref pz, rfl, rfl, l_of hl, g2, pz, _, (1 : Int), _, rfl, rfl, hpz, atI_nat (j := 1) rfl, m, n, rfl, rfl, by show 2 ≤ sizeLine; decide, fun w0 hw => ?_⟩
      have e1 := ex_new (o := .tup [.str k, .int (m + n)]) hw
      have hlw : l ≠ w0 := fun z => by rw [← z, hl] at hw; cases hw
      refine ⟨_, rfl, _, rfl, l, _, ((a.length : Nat) : Int), a.length, rfl, rfl, e1 _ _ hl, ixN_at (by rw [hlen]; omega), ?_⟩
      refine ⟨_, rfl, _, rfl, _, 1, rfl, rfl, l, _, ((a.length : Nat) : Int) + 1, a.length + 1, rfl, rfl, upd_same .., by omega, by omega, by rw [i2]; exact (ixN_seq (ixN_at (by rw [List.length_set, hlen]; omega))).1, ?_⟩
      rw [upd_upd]
      have eu : ((ua ++ V.ref py :: V.ref pz :: ub).set a.length (.ref w0)).eraseIdx (a.length + 1) = ua ++ V.ref w0 :: ub := by
        rw [← hla, List.set_append_right _ _ (Nat.le_refl _), List.eraseIdx_append_of_length_le (by omega), Nat.sub_self, show ua.length + 1 - ua.length = 1 by omega]
        rfl
      rw [eu]
      have hN : Nx H (upd (upd H w0 (.tup [.str k, .int (m + n)])) l (.lst (ua ++ V.ref w0 :: ub))) := Nx.upd (Nx.ofEx e1) (.inr ⟨_, hl⟩)
      refine q _ _ (Kx.to (Kx.ofEx e1) (.inl rfl)) (upd_same ..) ?_
      exact pr_app (sys_nx hN ha) (.cons ⟨w0, rfl, t_of (by rw [upd_ne (fun z => hlw z.symm), upd_same])⟩ (sys_nx hN hb))
/-! ### drop -/
def spDrop (K : PySem.W.Frag) : Sp := fun vs H Q _ => ∃ (t : V) (l : Addr) (T : Tb) (n : Nat) (r r' : List Syl) (us : List V), vs = [t, .ref l, .int (n : Nat)] ∧ TabV K H t T ∧ H l = some (.lst us) ∧ Sys K H us r ∧ Kin T r ∧ r.length < 100000 ∧ Do T (.drop n) r r' ∧ Post K H l r' Q
theorem ok_drop (C : Fx w K mg base) : FnOk P w K mg base CX0 2 (a_drop K) (fdA K (a_drop K)) ["table", "row", "at"] (spDrop K) := by
  refine (F_drop C).ok S_drop (fun vs H Q E h => ?_) (fun cdv A outer s H vs Q E hr h => ?_)
  · obtain ⟨t, l, T, n, r, r', us, rfl, _⟩ := h
    rfl
  · obtain ⟨t, l, T, n, r, r', us, rfl, hT, hl, hs, hk, hz, hd, q⟩ := h
    refine ⟨_, (pss_cons (ps_if (PW.pt (pw_or (pt_not (pt_chain op_le op_lt pe_int (pv 2) (pe_callB call_len_seq (by rfl) C.z_len (by decide +kernel) (pa_cons (pv 1) pa_nil)))) (pw_or1 (pt_cmpR op_ne (pe_ix ix_tup (pe_ix ix_list (pv 1) (pv 2) (fun _ _ => rfl)) pe_int (fun _ _ => rfl)) pe_int (nomark _)))))
        (pss_one (ps_ret pe_bl))
        pss_nil)
      (pss_cons (ps_delL (pv 1) (pv 2))
      (pss_one (ps_ret pe_bl)))), ?_⟩
    cases hd with
    | drop a b k =>
      obtain ⟨ua, u1, rfl, ha, h1⟩ := pr_split hs
      cases h1 with
      | @cons vy _ ub _ hy hb =>
      obtain ⟨py, rfl, hpy⟩ := hy
      have hla : ua.length = a.length := pr_len ha
      have hlb := pr_len hb
      have hlen : (ua ++ V.ref py :: ub).length = a.length + b.length + 1 := by simp; omega
      have hzz : a.length + b.length + 1 < 100000 := by simp at hz; omega
      have g1 : atI (ua ++ V.ref py :: ub) ((a.length : Nat) : Int) = some (.ref py) := atI_nat (by rw [← hla]; simp)
      refine ⟨_, rfl, (0 : Int), ((a.length : Nat) : Int), rfl, rfl, _, rfl, ?_⟩
      rw [show decide ((0 : Int) ≤ ((a.length : Nat) : Int)) = true from decide_eq_true (by omega)]
      refine iteT ⟨_, rfl, l, _, rfl, .inl (l_of hl), _, _, rfl, rfl, _, rfl, ?_⟩
      rw [show decide (((a.length : Nat) : Int) < ((ua ++ V.ref py :: ub).length : Int)) = true from decide_eq_true (by rw [hlen]; omega)]
      refine iteF ?_
      refine ⟨_, rfl, _, rfl, l, _, _, .ref py, rfl, rfl, l_of hl, g1, py, _, (1 : Int), _, rfl, rfl, hpy, atI_nat (j := 1) rfl, rfl, _, rfl, ?_⟩
      rw [decide_eq_true rfl]
      refine iteF ?_
      refine ⟨_, rfl, _, rfl, l, _, ((a.length : Nat) : Int), a.length, rfl, rfl, hl, by omega, by omega, (ixN_seq (ixN_at (by rw [hlen]; omega))).1, ?_⟩
      have eu : (ua ++ V.ref py :: ub).eraseIdx a.length = ua ++ ub := by
        rw [← hla, List.eraseIdx_append_of_length_le (by omega), Nat.sub_self]
        rfl
      rw [eu]
      have hN : Nx H (upd H l (.lst (ua ++ ub))) := Nx.upd (Nx.refl _) (.inr ⟨_, hl⟩)
      exact q _ _ (Kx.to (Kx.refl _) (.inl rfl)) (upd_same ..) (sys_nx hN (pr_app ha hb))
/-! ### split -/
def spSplit (K : PySem.W.Frag) : Sp := fun vs H Q _ => ∃ (t : V) (l : Addr) (T : Tb) (n : Nat) (c : Int) (r r' : List Syl) (us : List V), vs = [t, .ref l, .int (n : Nat), .int c] ∧ TabV K H t T ∧ H l = some (.lst us) ∧ Sys K H us r ∧ Kin T r ∧ r.length < 100000 ∧ Do T (.split n c) r r' ∧ Post K H l r' Q
theorem ok_split (C : Fx w K mg base) : FnOk P w K mg base CX0 2 (a_split K) (fdA K (a_split K)) ["table", "row", "at", "count"] (spSplit K) := by
  refine (F_split C).ok S_split (fun vs H Q E h => ?_) (fun cdv A outer s H vs Q E hr h => ?_)
  · obtain ⟨t, l, T, n, c, r, r', us, rfl, _⟩ := h
    rfl
  · obtain ⟨t, l, T, n, c, r, r', us, rfl, hT, hl, hs, hk, hz, hd, q⟩ := h
    refine ⟨_, (pss_cons (ps_if (PW.pt (pw_or (pt_not (pt_chain op_le op_lt pe_int (pv 2) (pe_callB call_len_seq (by rfl) C.z_len (by decide +kernel) (pa_cons (pv 1) pa_nil)))) (pw_or1 (pt_not (pt_val (pe_cd (D_is_integer C) (hr.mono (by decide)) (pa_cons (pv 3) pa_nil)))))))
        (pss_one (ps_ret pe_bl))
        pss_nil)
      (pss_cons (ps_asg (pe_ix ix_list (pv 1) (pv 2) (fun _ _ => rfl)) (pg_tup rfl (pgs_cons (pg_name (i := 4) S_split.nd rfl (Or.inl rfl)) (pgs_cons (pg_name (i := 5) S_split.nd rfl (Or.inl rfl)) pgs_nil))))
      (pss_cons (ps_asg (pe_lst (pa_cons (pe_tup (pa_cons (pv 4) (pa_cons (pv 3) pa_nil))) (pa_cons (pe_tup (pa_cons (pv 4) (pa_cons (pe_op op_sub (pv 5) (pv 3)) pa_nil))) pa_nil))) (pg_slice (pv 1) (pv 2) (pe_op op_add (pv 2) pe_int)))
      (pss_one (ps_ret pe_bl))))), ?_⟩
    cases hd with
    | split a b k m n =>
      obtain ⟨ua, u1, rfl, ha, h1⟩ := pr_split hs
      cases h1 with
      | @cons vy _ ub _ hy hb =>
      obtain ⟨py, rfl, hpy⟩ := hy
      have hla : ua.length = a.length := pr_len ha
      have hlb := pr_len hb
      have hzs := sizeLine_eq
      have hlen : (ua ++ V.ref py :: ub).length = a.length + b.length + 1 := by simp; omega
      have hzz : a.length + b.length + 1 < 100000 := by simp at hz; omega
      have g1 : atI (ua ++ V.ref py :: ub) ((a.length : Nat) : Int) = some (.ref py) := atI_nat (by rw [← hla]; simp)
      refine ⟨_, rfl, (0 : Int), ((a.length : Nat) : Int), rfl, rfl, _, rfl, ?_⟩
      rw [show decide ((0 : Int) ≤ ((a.length : Nat) : Int)) = true from decide_eq_true (by omega)]
      refine iteT ⟨_, rfl, l, _, rfl, .inl (l_of hl), _, _, rfl, rfl, _, rfl, ?_⟩
      rw [show decide (((a.length : Nat) : Int) < ((ua ++ V.ref py :: ub).length : Int)) = true from decide_eq_true (by rw [hlen]; omega)]
      refine iteF ?_
      refine ⟨_, rfl, c, rfl, true, rfl, iteF ?_⟩
      refine ⟨_, rfl, _, rfl, l, _, _, .ref py, rfl, rfl, l_of hl, g1, py, _, rfl, hpy, rfl, _, _, rfl, _, _, rfl, rfl, ?_⟩
      refine ⟨_, rfl, _, rfl, by show 2 ≤ sizeLine; decide, fun p1 hp1 => ?_⟩
      refine ⟨_, rfl, _, rfl, _, rfl, m, c, rfl, rfl, by show 2 ≤ sizeLine; decide, fun p2 hp2 => ?_⟩
      refine ⟨by show 2 ≤ sizeLine; decide, fun p3 hp3 => ?_⟩
      have e1 := ex_new (o := .tup [.str k, .int c]) hp1
      have e2 := Evl.Ex.trans e1 (ex_new (o := .tup [.str k, .int (m - c)]) hp2)
      have e3 := Evl.Ex.trans e2 (ex_new (o := .lst [.ref p1, .ref p2]) hp3)
      have hl3 : l ≠ p3 := fun z => by rw [← z, e2 _ _ hl] at hp3; cases hp3
      refine ⟨_, rfl, _, rfl, _, rfl, _, 1, rfl, rfl, l, p3, _, [.ref p1, .ref p2], a.length, a.length + 1, rfl, rfl, by congr 1, rfl, e3 _ _ hl, upd_same .., hl3, by omega, by rw [hlen]; omega, by rw [hlen]; show _ + 2 ≤ _; omega, ?_⟩
      have eu : (ua ++ V.ref py :: ub).take a.length ++ [.ref p1, .ref p2] ++ (ua ++ V.ref py :: ub).drop (a.length + 1) = ua ++ V.ref p1 :: V.ref p2 :: ub := by
        rw [← hla, List.take_left, List.drop_append, List.drop_eq_nil_of_le (by omega), show ua.length + 1 - ua.length = 1 by omega]
        simp
      rw [eu]
      have hN : Nx H (upd (upd (upd (upd H p1 (.tup [.str k, .int c])) p2 (.tup [.str k, .int (m - c)])) p3 (.lst [.ref p1, .ref p2])) l (.lst (ua ++ V.ref p1 :: V.ref p2 :: ub))) := Nx.upd (Nx.ofEx e3) (.inr ⟨_, hl⟩)
      have h31 : p1 ≠ p3 := fun z => by rw [← z, ex_new (o := .tup [.str k, .int (m - c)]) hp2 _ _ (upd_same ..)] at hp3; cases hp3
      have h32 : p2 ≠ p3 := fun z => by rw [← z, upd_same] at hp3; cases hp3
      have h12 : p1 ≠ p2 := fun z => by rw [← z, upd_same] at hp2; cases hp2
      have hl1 : p1 ≠ l := fun z => by rw [z, hl] at hp1; cases hp1
      have hl2 : p2 ≠ l := fun z => by rw [z, e1 _ _ hl] at hp2; cases hp2
      refine q _ _ (Kx.to (Kx.ofEx e3) (.inl rfl)) (upd_same ..) ?_
      exact pr_app (sys_nx hN ha) (.cons ⟨p1, rfl, t_of (by rw [upd_ne hl1, upd_ne h31, upd_ne h12, upd_same])⟩ (.cons ⟨p2, rfl, t_of (by rw [upd_ne hl2, upd_ne h32, upd_same])⟩ (sys_nx hN hb)))
/-! ### put -/
def spPut (K : PySem.W.Frag) : Sp := fun vs H Q _ => ∃ (t : V) (l : Addr) (T : Tb) (n : Nat) (k : Str) (r r' : List Syl) (us : List V), vs = [t, .ref l, .int (n : Nat), .str k] ∧ TabV K H t T ∧ H l = some (.lst us) ∧ Sys K H us r ∧ Kin T r ∧ r.length < 100000 ∧ Do T (.put n k) r r' ∧ Post K H l r' Q
theorem ok_put (C : Fx w K mg base) : FnOk P w K mg base CX0 2 (a_put K) (fdA K (a_put K)) ["table", "row", "at", "kind"] (spPut K) := by
  refine (F_put C).ok S_put (fun vs H Q E h => ?_) (fun cdv A outer s H vs Q E hr h => ?_)
  · obtain ⟨t, l, T, n, c, r, r', us, rfl, _⟩ := h
    rfl
  · obtain ⟨t, l, T, n, k, r, r', us, rfl, hT, hl, hs, hk, hz, hd, q⟩ := h
    refine ⟨_, (pss_cons (ps_if (PW.pt (pw_or (pt_not (pt_chain op_le op_le pe_int (pv 2) (pe_callB call_len_seq (by rfl) C.z_len (by decide +kernel) (pa_cons (pv 1) pa_nil)))) (pw_or (pt_not (pt_val (pe_callB call_isi (by rfl) C.z_isinstance (by decide +kernel) (pa_cons (pv 3) (pa_cons (pe_bltn (v := .ty "str") (by rfl) C.z_str (by decide +kernel) rfl) pa_nil))))) (pw_or1 (pt_cmpR (op_notInO (C_Table C) (hr.mono (by decide))) (pv 3) (pv 0) (by rfl))))))
        (pss_one (ps_ret pe_bl))
        pss_nil)
      (pss_cons (ps_asg (pe_lst (pa_cons (pe_tup (pa_cons (pv 3) (pa_cons pe_int pa_nil))) pa_nil)) (pg_slice (pv 1) (pv 2) (pv 2)))
      (pss_one (ps_ret pe_bl)))), ?_⟩
    obtain ⟨ta, tdx, pk, pp, pl, ps, lk, rfl, hobj, _⟩ := id hT
    cases hd with
    | put a b k hkT =>
      obtain ⟨ua, ub, rfl, ha, hb⟩ := pr_split hs
      have hla : ua.length = a.length := pr_len ha
      have hlb := pr_len hb
      have hzs := sizeLine_eq
      have hlen : (ua ++ ub).length = a.length + b.length := by simp; omega
      have hzz : a.length + b.length < 100000 := by simp at hz; omega
      refine ⟨_, rfl, (0 : Int), ((a.length : Nat) : Int), rfl, rfl, _, rfl, ?_⟩
      rw [show decide ((0 : Int) ≤ ((a.length : Nat) : Int)) = true from decide_eq_true (by omega)]
      refine iteT ⟨_, rfl, l, _, rfl, .inl (l_of hl), _, _, rfl, rfl, _, rfl, ?_⟩
      rw [show decide (((a.length : Nat) : Int) ≤ ((ua ++ ub).length : Int)) = true from decide_eq_true (by rw [hlen]; omega)]
      refine iteF ?_
      refine ⟨_, rfl, _, _, _, _, true, rfl, .ty _, .base (.str _), kit_ty (by decide +kernel), true, rfl, iteF ?_⟩
      refine ⟨_, rfl, _, rfl, ta, tdx, _, rfl, hobj, .ref ta, T, k, rfl, hT, true, by rw [decide_eq_true hkT], false, rfl, iteF ?_⟩
      refine ⟨_, rfl, by show 2 ≤ sizeLine; decide, fun p1 hp1 => ?_⟩
      refine ⟨by show 1 ≤ sizeLine; decide, fun p3 hp3 => ?_⟩
      have e1 := ex_new (o := .tup [.str k, .int 0]) hp1
      have e3 := Evl.Ex.trans e1 (ex_new (o := .lst [.ref p1]) hp3)
      have hl3 : l ≠ p3 := fun z => by rw [← z, e1 _ _ hl] at hp3; cases hp3
      refine ⟨_, rfl, _, rfl, _, rfl, l, p3, _, [.ref p1], a.length, a.length, rfl, rfl, rfl, rfl, e3 _ _ hl, upd_same .., hl3, by omega, by rw [hlen]; omega, by rw [hlen]; show _ + 1 ≤ _; omega, ?_⟩
      have eu : (ua ++ ub).take a.length ++ [.ref p1] ++ (ua ++ ub).drop a.length = ua ++ V.ref p1 :: ub := by
        rw [← hla, List.take_left, List.drop_left]
        simp
      rw [eu]
      have hN : Nx H (upd (upd (upd H p1 (.tup [.str k, .int 0])) p3 (.lst [.ref p1])) l (.lst (ua ++ V.ref p1 :: ub))) := Nx.upd (Nx.ofEx e3) (.inr ⟨_, hl⟩)
      have h31 : p1 ≠ p3 := fun z => by rw [← z, upd_same] at hp3; cases hp3
      have hl1 : p1 ≠ l := fun z => by rw [z, hl] at hp1; cases hp1
      refine q _ _ (Kx.to (Kx.ofEx e3) (.inl rfl)) (upd_same ..) ?_
      exact pr_app (sys_nx hN ha) (.cons ⟨p1, rfl, t_of (by rw [upd_ne hl1, upd_ne h31, upd_same])⟩ (sys_nx hN hb))
end
end K91
/-! P20 -/
namespace K91
open PySem PySem.Spec PyProof.Rows L2
theorem sqt_ty {K : PySem.W.Frag} {H : Hp} {a : Addr} {xs : List V} (h : SqT K H a xs) : TyX K H (.ref a) (.type "tuple") := by
  rcases h with (h | ⟨o, h⟩) | ⟨o, its, n, h, hc, _⟩
  · exact .base (.tup h)
  · exact .fTuple h
  · exact .kTuple h hc
theorem find_no {P : Params} {z : Str} : ∀ {l : List DictEntry} {ks : List Str}, l.map He.keyOf = He.keysIn P ks → z ∉ ks → l.find? (·.key.isStr z) = none ∧ l.any (·.refKey) = false
  | [], _, _, _ => ⟨rfl, rfl⟩
  | e :: r, [], h, _ => by cases h
  | e :: r, k :: ks, h, hz => by
    have h1 : He.keyOf e :: r.map He.keyOf = some (k, PyData.keyHash P k) :: He.keysIn P ks := h
    injection h1 with h2 h3
    obtain ⟨i1, i2⟩ := find_no h3 fun q => hz (List.mem_cons_of_mem _ q)
    have hk : ∃ t, e.key = .str k t := by
      unfold He.keyOf at h2
      split at h2
      · rename_i x t q
        have h4 := Option.some.inj h2
        obtain ⟨h5, h6⟩ := Prod.mk.inj h4
        exact ⟨t, by rw [q, h5]⟩
      · cases h2
    obtain ⟨t, hk⟩ := hk
    have hne : (e.key.isStr z) = false := by
      rw [hk]
      show (k == z) = false
      exact beq_eq_false_iff_ne.mpr fun q => hz (by rw [q]; exact List.mem_cons_self)
    refine ⟨?_, ?_⟩
    · rw [List.find?_cons, hne]
      exact i1
    · rw [List.any_cons, i2]
      have : e.refKey = false := by
        unfold DictEntry.refKey
        rw [hk]
      rw [this]
      rfl
theorem dic_no {K : PySem.W.Frag} {P : Params} {a : Addr} {ks : List Str} {z : Str} (h : He.dicW K a = some (He.keysIn P ks)) (hz : z ∉ ks) : PySem.W.nsIn K a z = some none := by
  unfold He.dicW at h
  unfold PySem.W.nsIn
  split at h
  · rename_i c es n sl e
    split at h
    · have h1 := Option.some.inj h
      obtain ⟨i1, i2⟩ := find_no h1 hz
      rw [e]
      simp only [i1, i2]
      rfl
    · cases h
  · cases h
section
variable {P : Program} {w : World} {K : PySem.W.Frag} {mg : Str → Option Value} {base : Heap}
theorem Fx.dic (C : Fx w K mg base) (i : Nat) {t : He.Tab} (h : tabs[i]? = some t := by rfl) : He.dicW K (t.1 K) = some (He.keysIn w.params t.2) := by
  have e : tabs.map (fun t => He.dicW K (t.1 K)) = tabs.map fun t => some (He.keysIn w.params t.2) := congrArg (fun z : AlK => z.2.1) C.s
  have e2 : (tabs.map fun t => He.dicW K (t.1 K))[i]? = (tabs.map fun t => some (He.keysIn w.params t.2))[i]? := by rw [e]
  rw [List.getElem?_map, List.getElem?_map, h] at e2
  exact Option.some.inj e2
theorem Fx.short (C : Fx w K mg base) {x : Str} (hx : (x, He.Dv.glo x) ∈ [(("exchange" : Str), He.Dv.glo "exchange"), ("melt", .glo "melt"), ("drop", .glo "drop")]) : ∃ u, PySem.W.nsIn K (He.ga K "SHORT_STEPS") x = some (some u) ∧ RelV (.ref (He.ga K x)) u :=
  He.valsB_ok (q := (x, He.Dv.glo x)) (ex_parts C).2.2.2.2.2.2.2.2.2.1 hx
theorem Fx.long (C : Fx w K mg base) {x : Str} (hx : (x, He.Dv.glo x) ∈ [(("split" : Str), He.Dv.glo "split"), ("put", .glo "put")]) : ∃ u, PySem.W.nsIn K (He.ga K "LONG_STEPS") x = some (some u) ∧ RelV (.ref (He.ga K x)) u :=
  He.valsB_ok (q := (x, He.Dv.glo x)) (ex_parts C).2.2.2.2.2.2.2.2.2.2 hx
end
def Stp.vals : Stp → List V
  | .ex n => [.str "exchange", .int (n : Nat)]
  | .melt n => [.str "melt", .int (n : Nat)]
  | .drop n => [.str "drop", .int (n : Nat)]
  | .split n c => [.str "split", .int (n : Nat), .int c]
  | .put n k => [.str "put", .int (n : Nat), .str k]
/-- v is the step s -/
def StV (K : PySem.W.Frag) (H : Hp) (v : V) (s : Stp) : Prop := ∃ p, v = .ref p ∧ SqT K H p s.vals
theorem StV.nx {K : PySem.W.Frag} {H H' : Hp} (e : Nx H H') {v : V} {s : Stp} (h : StV K H v s) : StV K H' v s := let ⟨p, a, b⟩ := h; ⟨p, a, nx_t e b⟩
abbrev Sts (K : PySem.W.Frag) (H : Hp) : List V → List Stp → Prop := Paired (StV K H)
theorem Post.ex {K : PySem.W.Frag} {H H1 : Hp} {l : Addr} {r : List Syl} {Q : VK} (e : Evl.Ex H H1) (h : Post K H l r Q) : Post K H1 l r Q := fun H' us k hl hs => h H' us (Kx.trans (Kx.ofEx e) k) hl hs
section
variable {P : Program} {w : World} {K : PySem.W.Frag} {mg : Str → Option Value} {base : Heap}
theorem fn_is (C : Fx w K mg base) : a_exchange K = He.ga K "exchange" ∧ a_melt K = He.ga K "melt" ∧ a_drop K = He.ga K "drop" ∧ a_split K = He.ga K "split" ∧ a_put K = He.ga K "put" := ⟨rfl, rfl, rfl, rfl, rfl⟩
theorem op_in_kdK {X : Cx} {K : PySem.W.Frag} {w : World} {d : Addr} {es : Array DictEntry} {n : Nat} (D : KDict K w d es n) (hK : X.K = K := by rfl) (hw : X.w = w := by rfl) : OpR X (compareOp .In) (fun x y H Q => ∃ (z : Str) (r : Option Value), x = .str z ∧ y = .ref d ∧ PySem.W.nsIn K d z = some r ∧ Q (.bl r.isSome) H) := by
  subst hK hw
  exact op_in_kd D
theorem op_item_kdK {X : Cx} {K : PySem.W.Frag} {w : World} {d : Addr} {es : Array DictEntry} {n : Nat} (D : KDict K w d es n) (hK : X.K = K := by rfl) (hw : X.w = w := by rfl) : OpR X getItem (fun x y H Q => ∃ (z : Str) (u0 : Value) (v0 : V), x = .ref d ∧ y = .str z ∧ PySem.W.nsIn K d z = some (some u0) ∧ RelV v0 u0 ∧ Q v0 H) := by
  subst hK hw
  exact op_item_kd D
end
end K91
/-! P21 -/
namespace K91
open PySem PySem.Spec PyProof.Rows L2
theorem ix_kd {X : Cx} {K : PySem.W.Frag} {w : World} {d : Addr} {es : Array DictEntry} {n : Nat} (D : KDict K w d es n) (hK : X.K = K := by rfl) (hw : X.w = w := by rfl) : IxR X (fun x y H Q => ∃ (z : Str) (u0 : Value) (v0 : V), x = .ref d ∧ y = .str z ∧ PySem.W.nsIn K d z = some (some u0) ∧ RelV v0 u0 ∧ Q v0 H) := by
  subst hK hw
  intro value slice pins s σ H x y v u Q I rx ry h hs
  have hx : x = .ref d := let ⟨_, _, _, e, _⟩ := h; e
  subst hx
  cases rx
  exact tail_any (ops := [.ref d, u]) (kd_type D I) PySem.F.slot_dict_getitem.lookup (op_item_kd D pins s σ H (.ref d) y (.ref d) u Q I rfl ry h) hs
section
variable {P : Program} {w : World} {K : PySem.W.Frag} {mg : Str → Option Value} {base : Heap}
def spDone (K : PySem.W.Frag) : Sp := fun vs H Q _ => ∃ (t v : V) (l : Addr) (T : Tb) (s : Stp) (r r' : List Syl) (us : List V), vs = [t, .ref l, v] ∧ StV K H v s ∧ TabV K H t T ∧ H l = some (.lst us) ∧ Sys K H us r ∧ Kin T r ∧ r.length < 100000 ∧ Do T s r r' ∧ Post K H l r' Q
/-- the steps of two things -/
theorem done_short (C : Fx w K mg base) {x : Str} {f : Addr} {fd : FuncData} {sp : Sp} {cdv : Value} {A : Around} {outer : List Env} {s : Shared} {H : Hp} {Q : VK} {E : XK} {t : V} {l p : Addr} {n : Nat} (hx : (x, He.Dv.glo x) ∈ [(("exchange" : Str), He.Dv.glo "exchange"), ("melt", .glo "melt"), ("drop", .glo "drop")]) (hf : f = He.ga K x)
    (F : FnOk P w K mg base CX0 2 f fd ["table", "row", "at"] sp) (hkp : PySem.W.keepIn K (.ref f) = true) (hb : Binds K fd ["table", "row", "at"] [])
    (hr : Room 3 (A.deeper (envOfC "done" (defScope st_done) s.heap.objs.size (a_done K) cdv))) (hp : SqT K H p [.str x, .int (n : Nat)]) (q : ∀ H', Evl.Ex H H' → sp [t, .ref l, .int (n : Nat)] H' Q E0) :
    ∃ ts, PSs (cxOf CX0 P w K mg base ["table", "row", "step", "word", "at", "more", "action", "longer"] "done" (defScope st_done) (a_done K) cdv A outer s H E).nox (defBody st_done) ts ∧ ts { nx := fun _ H' => Q .non H', rt := Q } (start ["table", "row", "step", "word", "at", "more", "action", "longer"] [t, .ref l, .ref p]) H := by
  subst hf
  obtain ⟨es, m, D1⟩ := C.tab 0
  obtain ⟨es2, m2, D2⟩ := C.tab 1
  obtain ⟨u, hu, ru⟩ := C.short hx
  refine ⟨_, (pss_cons (ps_if (PW.pt (pw_or (pt_not (pt_val (pe_callB call_isi (by rfl) C.z_isinstance (by decide +kernel) (pa_cons (pv 2) (pa_cons (pe_bltn (v := .ty "tuple") (by rfl) C.z_tuple (by decide +kernel) rfl) pa_nil))))) (pw_or1 (pt_cmpR op_notIn_seq (pe_callB call_len_seq (by rfl) C.z_len (by decide +kernel) (pa_cons (pv 2) pa_nil)) (pe_tup (pa_cons pe_int (pa_cons pe_int pa_nil))) (by rfl)))))
        (pss_one (ps_ret pe_bl))
        pss_nil)
      (pss_cons (ps_asg (pv 2) (pg_star rfl (pgs_cons (pg_name (i := 3) S_done.nd rfl (Or.inl rfl)) (pgs_cons (pg_name (i := 4) S_done.nd rfl (Or.inl rfl)) (pgs_star (pg_name (i := 5) S_done.nd rfl (Or.inl rfl)))))))
      (pss_cons (ps_if (PW.pt (pw_or (pt_not (pt_val (pe_callB call_isi (by rfl) C.z_isinstance (by decide +kernel) (pa_cons (pv 3) (pa_cons (pe_bltn (v := .ty "str") (by rfl) C.z_str (by decide +kernel) rfl) pa_nil))))) (pw_or1 (pt_not (pt_val (pe_cd (D_is_integer C) (hr.mono (by decide)) (pa_cons (pv 4) pa_nil)))))))
        (pss_one (ps_ret pe_bl))
        pss_nil)
      (pss_cons (ps_if (PW.pt (pw_and (pt_cmpR (op_in_kdK D1) (pv 3) (pe_glob (v := .ref (He.ga K "SHORT_STEPS")) rfl C.g_SHORT_STEPS rfl) (by rfl)) (pw_and1 (pt_cmpR op_eq (pe_callB call_len_seq (by rfl) C.z_len (by decide +kernel) (pa_cons (pv 2) pa_nil)) pe_int (nomark _)))))
        (pss_cons (ps_set (i := 6) S_done.nd rfl (Or.inl rfl) (pe_ix (ix_kd D1) (pe_glob (v := .ref (He.ga K "SHORT_STEPS")) rfl C.g_SHORT_STEPS rfl) (pv 3) (fun _ _ => rfl)))
        (pss_one (ps_ret (pe_callL (i := 6) F (hr.mono (by decide)) rfl (Or.inl rfl) hkp hb .nil pass0 (pa_cons (pv 0) (pa_cons (pv 1) (pa_cons (pv 4) pa_nil)))))))
        pss_nil)
      pss_never)))), ?_⟩
  refine ⟨_, rfl, _, _, _, _, true, rfl, .ty _, sqt_ty hp, kit_ty (by decide +kernel), true, rfl, iteF ?_⟩
  refine ⟨_, rfl, p, _, rfl, .inr hp, by show 2 ≤ sizeLine; decide, fun D3 hD3 => ?_⟩
  have e1 := ex_new (o := .tup [.int 2, .int 3]) hD3
  have hp1 := Evl.ex_t e1 hp
  refine ⟨D3, _, rfl, .inr (t_of (upd_same ..)), rfl, rfl, false, rfl, iteF ?_⟩
  refine ⟨_, rfl, p, _, rfl, hp1, by show 2 ≤ 2; decide, fun D hD => ?_⟩
  have e2 := Evl.Ex.trans e1 (ex_new (o := .lst ([.str x, .int (n : Nat)].drop 2)) hD)
  refine ⟨_, _, rfl, _, _, rfl, _, _, rfl, rfl, ?_⟩
  refine ⟨_, rfl, _, _, _, _, true, rfl, .ty _, .base (.str _), kit_ty (by decide +kernel), true, rfl, iteF ?_⟩
  refine ⟨_, rfl, (n : Int), rfl, true, rfl, iteF ?_⟩
  refine ⟨_, rfl, x, some u, rfl, rfl, hu, true, rfl, iteT ?_⟩
  refine ⟨_, rfl, p, _, rfl, .inr (Evl.ex_t e2 hp), rfl, _, rfl, ?_⟩
  rw [show decide (V.int (([V.str x, V.int (n : Nat)].length : Nat) : Int) = V.int 2) = true from decide_eq_true rfl]
  refine iteT ?_
  refine ⟨_, rfl, x, u, .ref (He.ga K x), rfl, rfl, hu, ru, ?_⟩
  refine ⟨rfl, _, rfl, _, rfl, _, rfl, ?_⟩
  exact q _ e2
theorem done_long (C : Fx w K mg base) {x : Str} {f : Addr} {fd : FuncData} {p3 : Str} {sp : Sp} {cdv : Value} {A : Around} {outer : List Env} {s : Shared} {H : Hp} {Q : VK} {E : XK} {t z : V} {l p : Addr} {n : Nat} (hx : (x, He.Dv.glo x) ∈ [(("split" : Str), He.Dv.glo "split"), ("put", .glo "put")]) (hx3 : x ∉ [("exchange" : Str), "melt", "drop"]) (hf : f = He.ga K x)
    (F : FnOk P w K mg base CX0 2 f fd ["table", "row", "at", p3] sp) (hkp : PySem.W.keepIn K (.ref f) = true) (hb : Binds K fd ["table", "row", "at", p3] [])
    (hr : Room 3 (A.deeper (envOfC "done" (defScope st_done) s.heap.objs.size (a_done K) cdv))) (hp : SqT K H p [.str x, .int (n : Nat), z]) (q : ∀ H', Evl.Ex H H' → sp [t, .ref l, .int (n : Nat), z] H' Q E0) :
    ∃ ts, PSs (cxOf CX0 P w K mg base ["table", "row", "step", "word", "at", "more", "action", "longer"] "done" (defScope st_done) (a_done K) cdv A outer s H E).nox (defBody st_done) ts ∧ ts { nx := fun _ H' => Q .non H', rt := Q } (start ["table", "row", "step", "word", "at", "more", "action", "longer"] [t, .ref l, .ref p]) H := by
  subst hf
  obtain ⟨es, m, D1⟩ := C.tab 0
  obtain ⟨es2, m2, D2⟩ := C.tab 1
  obtain ⟨u, hu, ru⟩ := C.long hx
  have hno := dic_no (C.dic 0) (z := x) hx3
  refine ⟨_, (pss_cons (ps_if (PW.pt (pw_or (pt_not (pt_val (pe_callB call_isi (by rfl) C.z_isinstance (by decide +kernel) (pa_cons (pv 2) (pa_cons (pe_bltn (v := .ty "tuple") (by rfl) C.z_tuple (by decide +kernel) rfl) pa_nil))))) (pw_or1 (pt_cmpR op_notIn_seq (pe_callB call_len_seq (by rfl) C.z_len (by decide +kernel) (pa_cons (pv 2) pa_nil)) (pe_tup (pa_cons pe_int (pa_cons pe_int pa_nil))) (by rfl)))))
        (pss_one (ps_ret pe_bl))
        pss_nil)
      (pss_cons (ps_asg (pv 2) (pg_star rfl (pgs_cons (pg_name (i := 3) S_done.nd rfl (Or.inl rfl)) (pgs_cons (pg_name (i := 4) S_done.nd rfl (Or.inl rfl)) (pgs_star (pg_name (i := 5) S_done.nd rfl (Or.inl rfl)))))))
      (pss_cons (ps_if (PW.pt (pw_or (pt_not (pt_val (pe_callB call_isi (by rfl) C.z_isinstance (by decide +kernel) (pa_cons (pv 3) (pa_cons (pe_bltn (v := .ty "str") (by rfl) C.z_str (by decide +kernel) rfl) pa_nil))))) (pw_or1 (pt_not (pt_val (pe_cd (D_is_integer C) (hr.mono (by decide)) (pa_cons (pv 4) pa_nil)))))))
        (pss_one (ps_ret pe_bl))
        pss_nil)
      (pss_cons (ps_if (PW.pt (pw_and (pt_cmpR (op_in_kdK D1) (pv 3) (pe_glob (v := .ref (He.ga K "SHORT_STEPS")) rfl C.g_SHORT_STEPS rfl) (by rfl)) (pw_and1 (pt_cmpR op_eq (pe_callB call_len_seq (by rfl) C.z_len (by decide +kernel) (pa_cons (pv 2) pa_nil)) pe_int (nomark _)))))
        pss_never
        pss_nil)
      (pss_cons (ps_if (PW.pt (pw_and (pt_cmpR (op_in_kdK D2) (pv 3) (pe_glob (v := .ref (He.ga K "LONG_STEPS")) rfl C.g_LONG_STEPS rfl) (by rfl)) (pw_and1 (pt_cmpR op_eq (pe_callB call_len_seq (by rfl) C.z_len (by decide +kernel) (pa_cons (pv 2) pa_nil)) pe_int (nomark _)))))
        (pss_cons (ps_set (i := 7) S_done.nd rfl (Or.inl rfl) (pe_ix (ix_kd D2) (pe_glob (v := .ref (He.ga K "LONG_STEPS")) rfl C.g_LONG_STEPS rfl) (pv 3) (fun _ _ => rfl)))
        (pss_one (ps_ret (pe_callL (i := 7) F (hr.mono (by decide)) rfl (Or.inl rfl) hkp hb .nil pass0 (pa_cons (pv 0) (pa_cons (pv 1) (pa_cons (pv 4) (pa_cons (pe_ix ix_list (pv 5) pe_int (fun _ _ => rfl)) pa_nil))))))))
        pss_nil)
      pss_never))))), ?_⟩
  refine ⟨_, rfl, _, _, _, _, true, rfl, .ty _, sqt_ty hp, kit_ty (by decide +kernel), true, rfl, iteF ?_⟩
  refine ⟨_, rfl, p, _, rfl, .inr hp, by show 2 ≤ sizeLine; decide, fun D3 hD3 => ?_⟩
  have e1 := ex_new (o := .tup [.int 2, .int 3]) hD3
  have hp1 := Evl.ex_t e1 hp
  refine ⟨D3, _, rfl, .inr (t_of (upd_same ..)), rfl, rfl, false, rfl, iteF ?_⟩
  refine ⟨_, rfl, p, _, rfl, hp1, by show 2 ≤ 3; decide, fun D hD => ?_⟩
  have e2 := Evl.Ex.trans e1 (ex_new (o := .lst ([.str x, .int (n : Nat), z].drop 2)) hD)
  refine ⟨_, _, rfl, _, _, rfl, _, _, rfl, rfl, ?_⟩
  refine ⟨_, rfl, _, _, _, _, true, rfl, .ty _, .base (.str _), kit_ty (by decide +kernel), true, rfl, iteF ?_⟩
  refine ⟨_, rfl, (n : Int), rfl, true, rfl, iteF ?_⟩
  refine ⟨_, rfl, x, none, rfl, rfl, hno, false, rfl, iteF ?_⟩
  refine ⟨_, rfl, x, some u, rfl, rfl, hu, true, rfl, iteT ?_⟩
  refine ⟨_, rfl, p, _, rfl, .inr (Evl.ex_t e2 hp), rfl, _, rfl, ?_⟩
  rw [show decide (V.int (([V.str x, V.int (n : Nat), z].length : Nat) : Int) = V.int 3) = true from decide_eq_true rfl]
  refine iteT ?_
  refine ⟨_, rfl, x, u, .ref (He.ga K x), rfl, rfl, hu, ru, ?_⟩
  refine ⟨rfl, _, rfl, _, rfl, _, rfl, _, rfl, D, [z], (0 : Int), z, rfl, rfl, l_of (upd_same ..), atI_nat (j := 0) rfl, ?_⟩
  exact q _ e2
theorem ok_done (C : Fx w K mg base) : FnOk P w K mg base CX0 4 (a_done K) (fdA K (a_done K)) ["table", "row", "step"] (spDone K) := by
  refine (F_done C).ok S_done (fun vs H Q E h => ?_) (fun cdv A outer s H vs Q E hr h => ?_)
  · obtain ⟨t, v, l, T, s, r, r', us, rfl, _⟩ := h
    rfl
  · obtain ⟨t, v, l, T, s, r, r', us, rfl, ⟨p, rfl, hp⟩, hT, hl, hs, hk, hz, hd, q⟩ := h
    cases s with
    | ex n => exact done_short C (.head _) rfl (ok_exchange C) (F_exchange C).kp (B_exchange C) hr hp fun H' e => ⟨t, l, T, n, r, r', us, rfl, tab_ex e hT, e _ _ hl, sys_ex e hs, hk, hz, hd, q.ex e⟩
    | melt n => exact done_short C (.tail _ (.head _)) rfl (ok_melt C) (F_melt C).kp (B_melt C) hr hp fun H' e => ⟨t, l, T, n, r, r', us, rfl, tab_ex e hT, e _ _ hl, sys_ex e hs, hk, hz, hd, q.ex e⟩
    | drop n => exact done_short C (.tail _ (.tail _ (.head _))) rfl (ok_drop C) (F_drop C).kp (B_drop C) hr hp fun H' e => ⟨t, l, T, n, r, r', us, rfl, tab_ex e hT, e _ _ hl, sys_ex e hs, hk, hz, hd, q.ex e⟩
    | split n c => exact done_long C (.head _) (by decide) rfl (ok_split C) (F_split C).kp (B_split C) hr hp fun H' e => ⟨t, l, T, n, c, r, r', us, rfl, tab_ex e hT, e _ _ hl, sys_ex e hs, hk, hz, hd, q.ex e⟩
    | put n k => exact done_long C (.tail _ (.head _)) (by decide) rfl (ok_put C) (F_put C).kp (B_put C) hr hp fun H' e => ⟨t, l, T, n, k, r, r', us, rfl, tab_ex e hT, e _ _ hl, sys_ex e hs, hk, hz, hd, q.ex e⟩
theorem D_done (C : Fx w K mg base) : Dn P w K mg base 4 (a_done K) (fdA K (a_done K)) ["table", "row", "step"] (spDone K) "done" := ⟨ok_done C, C.g_done, (F_done C).kp, B_done C⟩
end
end K91
/-! P22 -/
namespace K91
open PySem PySem.Spec PyProof.Rows L2
theorem run_step {T : Tb} {ss : List Stp} {i : Nat} {s : Stp} {r r' : List Syl} (h : ss[i]? = some s) (u : Run T (ss.drop i) r r') : ∃ r1, Do T s r r1 ∧ Run T (ss.drop (i + 1)) r1 r' := by
  obtain ⟨hi, e⟩ := List.getElem?_eq_some_iff.mp h
  rw [List.drop_eq_getElem_cons hi, e] at u
  cases u with
  | cons h1 h2 => exact ⟨_, h1, h2⟩
section
variable {P : Program} {w : World} {K : PySem.W.Frag} {mg : Str → Option Value} {base : Heap}
/-! ### all_done -/
def spAll (K : PySem.W.Frag) : Sp := fun vs H Q _ => ∃ (t : V) (T : Tb) (b : Bool) (a p : Addr) (ys zs : List V) (r r' : List Syl) (ss : List Stp), vs = [t, .ref a, .ref p] ∧ TabV K H t T ∧ SqA K H b a ys ∧ Sys K H ys r ∧ Kin T r ∧ SqT K H p zs ∧ Sts K H zs ss ∧ Run T ss r r' ∧ r.length + ss.length < 100000 ∧
  ∀ l H', Evl.Ex H H' → H l = none → RowL K H' l r' → Q (.ref l) H'
theorem ok_all_done (C : Fx w K mg base) : FnOk P w K mg base CX0 5 (a_all_done K) (fdA K (a_all_done K)) ["table", "syllables", "steps"] (spAll K) := by
  refine (F_all_done C).ok S_all_done (fun vs H Q E h => ?_) (fun cdv A outer s H vs Q E hr h => ?_)
  · obtain ⟨t, T, b, a, p, ys, zs, r, r', ss, rfl, _⟩ := h
    rfl
  · obtain ⟨t, T, b, a, p, ys, zs, r, r', ss, rfl, hT, hq, hs, hk, hp, hss, hrun, hz, q⟩ := h
    refine ⟨_, (pss_cons (ps_if (pt_not (pt_val (pe_callB call_isi (by rfl) C.z_isinstance (by decide +kernel) (pa_cons (pv 2) (pa_cons (pe_bltn (v := .ty "tuple") (by rfl) C.z_tuple (by decide +kernel) rfl) pa_nil)))))
        (pss_one (ps_ret pe_non))
        pss_nil)
      (pss_cons (ps_set (i := 3) S_all_done.nd rfl (Or.inl rfl) (pe_callTy call_list_of (by rfl) C.z_list (by decide +kernel) (pa_cons (pv 1) pa_nil)))
      (pss_cons (ps_for PassesOwn.never rfl (pi_any (pv 2)) (pg_name (i := 4) S_all_done.nd rfl (Or.inl rfl))
        (pss_one (ps_if (pt_not (pt_val (pe_cd (D_done C) (hr.mono (by decide)) (pa_cons (pv 0) (pa_cons (pv 3) (pa_cons (pv 4) pa_nil))))))
          (pss_one (ps_ret pe_non))
          pss_nil)))
      (pss_one (ps_ret (pv 3)))))), ?_⟩
    obtain ⟨ta, rfl⟩ := tab_ref hT
    have hzs := sizeLine_eq
    refine ⟨_, rfl, _, _, _, _, true, rfl, .ty _, sqt_ty hp, kit_ty (by decide +kernel), true, rfl, iteF ?_⟩
    refine ⟨_, rfl, a, ys, rfl, sqA_len hq, fun l hl => ?_⟩
    have e0 := ex_new (o := .lst ys) hl
    refine ⟨_, rfl, false, p, zs, rfl, Evl.ex_t e0 hp, ?_⟩
    have hlz := pr_len hss
    refine for_any (xs := zs) (fun i σ H' => ∃ v4 us ri, σ = [some (.ref ta), some (.ref a), some (.ref p), some (.ref l), v4] ∧ Evl.Ex H H' ∧ H' l = some (.lst us) ∧ Sys K H' us ri ∧ Kin T ri ∧ Run T (ss.drop i) ri r' ∧ ri.length ≤ r.length + i)
      ⟨none, ys, r, rfl, e0, upd_same .., sys_ex e0 hs, hk, hrun, Nat.le_refl _⟩ (fun i σ H' _ ⟨_, _, _, _, e, _⟩ => Evl.ex_t e hp) ?_ ?_
    · rintro i x σ H' hx ⟨v4, us, ri, rfl, e, hl', hus, hki, hri, hli⟩
      obtain ⟨st, hst, hsv⟩ := pr_get' hss hx
      obtain ⟨r1, hd, hr1⟩ := run_step hst hri
      have hil : i < ss.length := (List.getElem?_eq_some_iff.mp hst).1
      refine ⟨_, rfl, _, rfl, _, rfl, .ref ta, x, l, T, st, ri, r1, us, rfl, hsv.nx (Nx.ofEx e), tab_ex e hT, hl', hus, hki, by omega, hd, fun H2 us2 k2 hl2 hs2 => ?_⟩
      refine ⟨true, rfl, iteF ?_⟩
      refine ⟨_, us2, r1, rfl, Kx.exOf (Kx.trans (Kx.ofEx e) k2) (fun z hz => by rw [hz]; exact hl), hl2, hs2, hd.kin hki, hr1, by have := hd.len; omega⟩
    · rintro σ H' ⟨v4, us, ri, rfl, e, hl', hus, hki, hri, hli⟩
      rw [hlz, List.drop_length] at hri
      cases hri
      exact ⟨_, rfl, q l H' e hl ⟨us, hl', hus⟩⟩
theorem D_all_done (C : Fx w K mg base) : Dn P w K mg base 5 (a_all_done K) (fdA K (a_all_done K)) ["table", "syllables", "steps"] (spAll K) "all_done" := ⟨ok_all_done C, C.g_all_done, (F_all_done C).kp, B_all_done C⟩
/-! ### walked -/
def spWalk (K : PySem.W.Frag) : Sp := fun vs H Q _ => ∃ (v : V) (T : Tb) (p : Addr) (zs : List V) (r r' : List Syl) (ss : List Stp), vs = [v, .ref p] ∧ RowV K H v T r ∧ Kin T r ∧ SqT K H p zs ∧ Sts K H zs ss ∧ Run T ss r r' ∧ r.length + ss.length < 100000 ∧
  ∀ q H', Evl.Ex H H' → H q = none → RowV K H' (.ref q) T r' → Q (.ref q) H'
theorem ok_walked (C : Fx w K mg base) : FnOk P w K mg base CX0 6 (a_walked K) (fdA K (a_walked K)) ["row", "value"] (spWalk K) := by
  refine (F_walked C).ok S_walked (fun vs H Q E h => ?_) (fun cdv A outer s H vs Q E hr h => ?_)
  · obtain ⟨v, T, p, zs, r, r', ss, rfl, _⟩ := h
    rfl
  · obtain ⟨v, T, p, zs, r, r', ss, rfl, ⟨a, dx, t, p1, rfl, ha, hT, p2, us, rfl, hp2, hs⟩, hk, hp, hss, hrun, hz, q⟩ := h
    refine ⟨_, (pss_cons (ps_set (i := 2) S_walked.nd rfl (Or.inl rfl) (pe_cd (D_all_done C) (hr.mono (by decide)) (pa_cons (pe_fld (pv 0) rfl) (pa_cons (pe_fld (pv 0) rfl) (pa_cons (pv 1) pa_nil)))))
      (pss_one (ps_ret (pe_ifExp (pt_cmpR op_isN (pv 2) pe_non (nomark _)) pe_non (pe_mk (M_Row C) (hr.mono (by decide)) (pa_cons (pe_fld (pv 0) rfl) (pa_cons (pv 2) pa_nil))))))), ?_⟩
    refine ⟨_, rfl, a, _, dx, _, _, rfl, ha, C.c_Row, C.n_Row_table, rfl, _, rfl, a, _, dx, _, _, rfl, ha, C.c_Row, C.n_Row_syllables, rfl, _, rfl, ?_⟩
    refine ⟨t, T, false, p2, p, us, zs, r, r', ss, rfl, hT, hp2, hs, hk, hp, hss, hrun, hz, fun l H1 e1 hl ⟨ws, hl1, hws⟩ => ?_⟩
    refine ⟨_, rfl, rfl, _, rfl, iteF ?_⟩
    refine ⟨_, rfl, a, _, dx, _, _, rfl, e1 _ _ ha, C.c_Row, C.n_Row_table, rfl, _, rfl, ?_⟩
    have := hrun.len
    exact mkRow (b := true) (tab_ex e1 hT) (l_of hl1) hws (hrun.kin hk) (by omega) fun x H2 e2 hx hv => q x H2 (Evl.Ex.trans e1 e2) (ex_free e1 hx) hv
theorem D_walked (C : Fx w K mg base) : Dn P w K mg base 6 (a_walked K) (fdA K (a_walked K)) ["row", "value"] (spWalk K) "walked" := ⟨ok_walked C, C.g_walked, (F_walked C).kp, B_walked C⟩
/-! ### paper_holds -/
def spHolds (K : PySem.W.Frag) : Sp := fun vs H Q _ => ∃ (u v : V) (T : Tb) (p : Addr) (zs : List V) (r r' : List Syl) (ss : List Stp), vs = [u, v, .ref p] ∧ RowV K H u T r ∧ RowV K H v T r' ∧ Kin T r ∧ SqT K H p zs ∧ Sts K H zs ss ∧ Run T ss r r' ∧ r.length + ss.length < 100000 ∧
  ∀ H', Evl.Ex H H' → Q (.bl true) H'
theorem ok_paper_holds (C : Fx w K mg base) : FnOk P w K mg base CX0 7 (a_paper_holds K) (fdA K (a_paper_holds K)) ["one", "other", "value"] (spHolds K) := by
  refine (F_paper_holds C).ok S_paper_holds (fun vs H Q E h => ?_) (fun cdv A outer s H vs Q E hr h => ?_)
  · obtain ⟨u, v, T, p, zs, r, r', ss, rfl, _⟩ := h
    rfl
  · obtain ⟨u, v, T, p, zs, r, r', ss, rfl, hu, hv, hk, hp, hss, hrun, hz, q⟩ := h
    refine ⟨_, (pss_one (ps_ret (pe_and (pe_cmpR (eq_tab C rfl rfl rfl rfl rfl (hr.mono (by decide))) (pe_fld (pv 0) rfl) (pe_fld (pv 1) rfl) (nomark _)) (pe_one (pe_cmpR (eq_row C rfl rfl rfl rfl rfl (hr.mono (by decide))) (pe_cd (D_walked C) (hr.mono (by decide)) (pa_cons (pv 0) (pa_cons (pv 2) pa_nil))) (pv 1) (nomark _)))))), ?_⟩
    obtain ⟨a, dx, t, p1, rfl, ha, hT, _⟩ := id hu
    obtain ⟨b, dy, t', p2, rfl, hb, hT', _⟩ := id hv
    refine ⟨_, rfl, a, _, dx, _, _, rfl, ha, C.c_Row, C.n_Row_table, rfl, _, rfl, b, _, dy, _, _, rfl, hb, C.c_Row, C.n_Row_table, rfl, dtab hT hT', fun H1 e1 => ⟨true, rfl, iteT ?_⟩⟩
    refine ⟨_, rfl, _, rfl, .ref a, T, p, zs, r, r', ss, rfl, hu.nx (Nx.ofEx e1), hk, Evl.ex_t e1 hp, pr_mono (fun _ _ z => StV.nx (Nx.ofEx e1) z) hss, hrun, hz, fun x H2 e2 hx hxv => ?_⟩
    refine ⟨_, rfl, drow hxv (hv.nx (Nx.ofEx (Evl.Ex.trans e1 e2))), fun H3 e3 => ?_⟩
    exact q H3 (Evl.Ex.trans (Evl.Ex.trans e1 e2) e3)
theorem D_paper_holds (C : Fx w K mg base) : Dn P w K mg base 7 (a_paper_holds K) (fdA K (a_paper_holds K)) ["one", "other", "value"] (spHolds K) "paper_holds" := ⟨ok_paper_holds C, C.g_paper_holds, (F_paper_holds C).kp, B_paper_holds C⟩
end
end K91
/-! P23 -/
namespace K91
open PySem PySem.Spec PyProof.Rows L2
theorem sts_nx {K : PySem.W.Frag} {H H' : Hp} (e : Nx H H') {zs : List V} {ss : List Stp} (h : Sts K H zs ss) : Sts K H' zs ss := pr_mono (fun _ _ z => StV.nx e z) h
abbrev X3 (l ls lb : Addr) : Addr → Prop := fun a => a = l ∨ a = ls ∨ a = lb
/-- the way being walked, at x: from r0 to r; at most m steps -/
structure WayS (K : PySem.W.Frag) (H : Hp) (x dx : Addr) (t : V) (l ls lb : Addr) (T : Tb) (r0 r : List Syl) (m : Nat) : Prop where
  ob : H x = some (.ins (He.ga K "Way") dx [("table", t), ("row", .ref l), ("steps", .ref ls), ("back", .ref lb)])
  tb : TabV K H t T
  rw : RowL K H l r
  st : ∃ zs ss, H ls = some (.lst zs) ∧ Sts K H zs ss ∧ Run T ss r0 r ∧ ss.length ≤ m
  bk : ∃ zs ss, H lb = some (.lst zs) ∧ Sts K H zs ss ∧ Run T ss.reverse r r0 ∧ ss.length ≤ m
  n1 : l ≠ ls
  n2 : l ≠ lb
  n3 : ls ≠ lb
  kin : Kin T r
section
variable {K : PySem.W.Frag} {H H' : Hp} {x dx l ls lb : Addr} {t : V} {T : Tb} {r0 r : List Syl} {m m' : Nat}
theorem WayS.more (W : WayS K H x dx t l ls lb T r0 r m) (h : m ≤ m') : WayS K H x dx t l ls lb T r0 r m' := by
  obtain ⟨zs, ss, a1, a2, a3, a4⟩ := W.st
  obtain ⟨ws, bs, b1, b2, b3, b4⟩ := W.bk
  exact ⟨W.ob, W.tb, W.rw, ⟨zs, ss, a1, a2, a3, by omega⟩, ⟨ws, bs, b1, b2, b3, by omega⟩, W.n1, W.n2, W.n3, W.kin⟩
theorem WayS.ex (W : WayS K H x dx t l ls lb T r0 r m) (e : Evl.Ex H H') : WayS K H' x dx t l ls lb T r0 r m := by
  obtain ⟨zs, ss, a1, a2, a3, a4⟩ := W.st
  obtain ⟨ws, bs, b1, b2, b3, b4⟩ := W.bk
  obtain ⟨us, c1, c2⟩ := W.rw
  have n := Nx.ofEx e
  exact ⟨e _ _ W.ob, W.tb.nx n, ⟨us, e _ _ c1, sys_nx n c2⟩, ⟨zs, ss, e _ _ a1, sts_nx n a2, a3, a4⟩, ⟨ws, bs, e _ _ b1, sts_nx n b2, b3, b4⟩, W.n1, W.n2, W.n3, W.kin⟩
theorem WayS.lists (W : WayS K H x dx t l ls lb T r0 r m) : ∀ a, X3 l ls lb a → ∀ o, H a = some o → ∃ xs, o = .lst xs := by
  obtain ⟨zs, ss, a1, _⟩ := W.st
  obtain ⟨ws, bs, b1, _⟩ := W.bk
  obtain ⟨us, c1, _⟩ := W.rw
  rintro a (rfl | rfl | rfl) o h
  · rw [c1] at h; cases h; exact ⟨_, rfl⟩
  · rw [a1] at h; cases h; exact ⟨_, rfl⟩
  · rw [b1] at h; cases h; exact ⟨_, rfl⟩
theorem WayS.nxOf (W : WayS K H x dx t l ls lb T r0 r m) (k : Kx (X3 l ls lb) H H') : Nx H H' := k.nx W.lists
theorem WayS.fresh (W : WayS K H x dx t l ls lb T r0 r m) {p : Addr} (h : H p = none) : ¬ X3 l ls lb p := by
  obtain ⟨zs, ss, a1, _⟩ := W.st
  obtain ⟨ws, bs, b1, _⟩ := W.bk
  obtain ⟨us, c1, _⟩ := W.rw
  rintro (rfl | rfl | rfl)
  · rw [c1] at h; cases h
  · rw [a1] at h; cases h
  · rw [b1] at h; cases h
/-- one step done and told both ways -/
theorem WayS.step {d e : Stp} {r' : List Syl} {us zs ws : List V} {ss bs : List Stp} (ob : H' x = some (.ins (He.ga K "Way") dx [("table", t), ("row", .ref l), ("steps", .ref ls), ("back", .ref lb)])) (tb : TabV K H' t T) (h1 : H' l = some (.lst us)) (h2 : Sys K H' us r')
    (h3 : H' ls = some (.lst zs)) (h4 : Sts K H' zs (ss ++ [d])) (h5 : H' lb = some (.lst ws)) (h6 : Sts K H' ws (bs ++ [e])) (rs : Run T ss r0 r) (rb : Run T bs.reverse r r0) (hd : Do T d r r') (he : Do T e r' r) (ls1 : ss.length ≤ m) (lb1 : bs.length ≤ m)
    (n1 : l ≠ ls) (n2 : l ≠ lb) (n3 : ls ≠ lb) (k : Kin T r) : WayS K H' x dx t l ls lb T r0 r' (m + 1) := by
  refine ⟨ob, tb, ⟨us, h1, h2⟩, ⟨zs, _, h3, h4, rs.snoc hd, by simp; omega⟩, ⟨ws, _, h5, h6, ?_, by simp; omega⟩, n1, n2, n3, hd.kin k⟩
  rw [List.reverse_append]
  exact .cons he rb
end
section
variable {P : Program} {w : World} {K : PySem.W.Frag} {mg : Str → Option Value} {base : Heap}
theorem D_exchange (C : Fx w K mg base) : Dn P w K mg base 2 (a_exchange K) (fdA K (a_exchange K)) ["table", "row", "at"] (spExch K) "exchange" := ⟨ok_exchange C, C.g_exchange, (F_exchange C).kp, B_exchange C⟩
theorem D_melt (C : Fx w K mg base) : Dn P w K mg base 2 (a_melt K) (fdA K (a_melt K)) ["table", "row", "at"] (spMelt K) "melt" := ⟨ok_melt C, C.g_melt, (F_melt C).kp, B_melt C⟩
theorem D_drop (C : Fx w K mg base) : Dn P w K mg base 2 (a_drop K) (fdA K (a_drop K)) ["table", "row", "at"] (spDrop K) "drop" := ⟨ok_drop C, C.g_drop, (F_drop C).kp, B_drop C⟩
/-- what the methods of a way promise -/
def WPost (K : PySem.W.Frag) (H : Hp) (x dx : Addr) (t : V) (l ls lb : Addr) (T : Tb) (r0 r : List Syl) (m : Nat) (z : V) (Q : VK) : Prop := ∀ H', Kx (X3 l ls lb) H H' → WayS K H' x dx t l ls lb T r0 r m → Q z H'
/-! ### exchanged -/
def spExd (K : PySem.W.Frag) : Sp := fun vs H Q _ => ∃ (x dx : Addr) (t : V) (l ls lb : Addr) (T : Tb) (r0 : List Syl) (a b : List Syl) (y z : Syl) (m : Nat), vs = [.ref x, .int (a.length : Nat)] ∧ WayS K H x dx t l ls lb T r0 (a ++ y :: z :: b) m ∧ T.fr y.1 z.1 = true ∧ (a ++ y :: z :: b).length < 100000 ∧ m < 1000000 ∧
  WPost K H x dx t l ls lb T r0 (a ++ z :: y :: b) (m + 1) .non Q
theorem ok_Way_exchanged (C : Fx w K mg base) : FnOk P w K mg base CX0 3 (a_Way_exchanged K) (fdA K (a_Way_exchanged K)) ["self", "at"] (spExd K) := by
  refine (F_Way_exchanged C).ok S_Way_exchanged (fun vs H Q E h => ?_) (fun cdv A outer s H vs Q E hr h => ?_)
  · obtain ⟨x, dx, t, l, ls, lb, T, r0, a, b, y, z, m, rfl, _⟩ := h
    rfl
  · obtain ⟨x, dx, t, l, ls, lb, T, r0, a, b, y, z, m, rfl, W, hf, hz, hm, q⟩ := h
    refine ⟨_, (pss_cons (ps_expr (pe_cd (D_exchange C) (hr.mono (by decide)) (pa_cons (pe_fld (pv 0) rfl) (pa_cons (pe_fld (pv 0) rfl) (pa_cons (pv 1) pa_nil)))))
      (pss_cons (ps_expr (pe_bm PySem.F.plainAttrs_list PySem.F.slot_list_append PySem.F.type_list_append mt_append (pe_fld (pv 0) rfl) (pa_cons (pe_tup (pa_cons pe_str (pa_cons (pv 1) pa_nil))) pa_nil)))
      (pss_one (ps_expr (pe_bm PySem.F.plainAttrs_list PySem.F.slot_list_append PySem.F.type_list_append mt_append (pe_fld (pv 0) rfl) (pa_cons (pe_tup (pa_cons pe_str (pa_cons (pv 1) pa_nil))) pa_nil)))))), ?_⟩
    have hzs := sizeLine_eq
    obtain ⟨us, hl, hus⟩ := W.rw
    obtain ⟨zs, ss, hls, hss, rs, ls1⟩ := W.st
    obtain ⟨ws, bs, hlb, hbs, rb, lb1⟩ := W.bk
    have hzl := pr_len hss
    have hwl := pr_len hbs
    have hd : Do T (.ex a.length) (a ++ y :: z :: b) (a ++ z :: y :: b) := .ex a b y z hf
    have he : Do T (.ex a.length) (a ++ z :: y :: b) (a ++ y :: z :: b) := .ex a b z y (by rw [T.sym]; exact hf)
    refine ⟨_, rfl, x, _, dx, _, _, rfl, W.ob, C.c_Way, C.n_Way_table, rfl, _, rfl, x, _, dx, _, _, rfl, W.ob, C.c_Way, C.n_Way_row, rfl, _, rfl, ?_⟩
    refine ⟨t, l, T, a.length, _, _, us, rfl, W.tb, hl, hus, W.kin, hz, hd, fun H1 us1 k1 hl1 hs1 => ?_⟩
    have N1 : Nx H H1 := k1.nx fun z hz o h => by rw [hz, hl] at h; cases h; exact ⟨_, rfl⟩
    have ob1 : H1 x = _ := N1 _ _ W.ob (fun _ z => nomatch z)
    have hls1 : H1 ls = _ := k1 _ _ (fun z => W.n1 z.symm) hls
    have hlb1 : H1 lb = _ := k1 _ _ (fun z => W.n2 z.symm) hlb
    refine ⟨_, rfl, x, _, dx, _, _, rfl, ob1, C.c_Way, C.n_Way_steps, rfl, .inl ⟨rfl, _, l_of hls1⟩, _, rfl, by show 2 ≤ sizeLine; decide, fun t1 ht1 => ?_⟩
    have e1 := ex_new (o := .tup [.str "exchange", .int (a.length : Nat)]) ht1
    refine ⟨ls, zs, .ref t1, rfl, rfl, e1 _ _ hls1, by omega, ?_⟩
    have h1n : ∀ p o, H1 p = some o → p ≠ t1 := fun p o h z => by rw [z, ht1] at h; cases h
    obtain ⟨H2, hH2⟩ : ∃ H2, H2 = upd (upd H1 t1 (.tup [.str "exchange", .int (a.length : Nat)])) ls (.lst (zs ++ [.ref t1])) := ⟨_, rfl⟩
    rw [← hH2]
    have k2 : Kx (· = ls) H1 H2 := by rw [hH2]; exact Kx.to (Kx.ofEx e1) (.inl rfl)
    have N2 : Nx H1 H2 := by rw [hH2]; exact Nx.upd (Nx.ofEx e1) (.inr ⟨_, hls1⟩)
    have ht2 : H2 t1 = some (.tup [.str "exchange", .int (a.length : Nat)]) := by rw [hH2, upd_ne (fun z => h1n ls _ hls1 z.symm), upd_same]
    have ob2 : H2 x = _ := N2 _ _ ob1 (fun _ z => nomatch z)
    have hlb2 : H2 lb = _ := k2 _ _ (fun z => W.n3 z.symm) hlb1
    have hls2 : H2 ls = some (.lst (zs ++ [.ref t1])) := by rw [hH2, upd_same]
    have hl2 : H2 l = _ := k2 _ _ W.n1 hl1
    refine ⟨_, rfl, x, _, dx, _, _, rfl, ob2, C.c_Way, C.n_Way_back, rfl, .inl ⟨rfl, _, l_of hlb2⟩, _, rfl, by show 2 ≤ sizeLine; decide, fun t2 ht2' => ?_⟩
    have e2 := ex_new (o := .tup [.str "exchange", .int (a.length : Nat)]) ht2'
    refine ⟨lb, ws, .ref t2, rfl, rfl, e2 _ _ hlb2, by omega, ?_⟩
    have h2n : ∀ p o, H2 p = some o → p ≠ t2 := fun p o h z => by rw [z, ht2'] at h; cases h
    have k3 : Kx (· = lb) H2 (upd (upd H2 t2 (.tup [.str "exchange", .int (a.length : Nat)])) lb (.lst (ws ++ [.ref t2]))) := Kx.to (Kx.ofEx e2) (.inl rfl)
    have N3 : Nx H2 (upd (upd H2 t2 (.tup [.str "exchange", .int (a.length : Nat)])) lb (.lst (ws ++ [.ref t2]))) := Nx.upd (Nx.ofEx e2) (.inr ⟨_, hlb2⟩)
    have N13 := Nx.trans N2 N3
    have N03 := Nx.trans N1 N13
    refine q _ ?_ ?_
    · exact Kx.trans (Kx.mono k1 fun a h => .inl h) (Kx.trans (Kx.mono k2 fun a h => .inr (.inl h)) (Kx.mono k3 fun a h => .inr (.inr h)))
    · refine WayS.step (N03 _ _ W.ob (fun _ z => nomatch z)) (W.tb.nx N03) (k3 _ _ W.n2 hl2) (sys_nx N13 hs1) (k3 _ _ W.n3 hls2) ?_ (upd_same ..) ?_ rs rb hd he ls1 lb1 W.n1 W.n2 W.n3 W.kin
      · exact pr_app (sts_nx N03 hss) (.cons ⟨t1, rfl, nx_t N3 (t_of ht2)⟩ .nil)
      · exact pr_app (sts_nx N03 hbs) (.cons ⟨t2, rfl, t_of (by rw [upd_ne (fun z => h2n lb _ hlb2 z.symm), upd_same]; rfl)⟩ .nil)
theorem Y_exchanged (C : Fx w K mg base) : Dm P w K mg base 3 (He.ga K "Way") (a_Way_exchanged K) (fdA K (a_Way_exchanged K)) ["self", "at"] (spExd K) "exchanged" := ⟨ok_Way_exchanged C, C.c_Way, C.m_Way_exchanged, B_Way_exchanged C⟩
end
end K91
/-! P24 -/
namespace K91
open PySem PySem.Spec PyProof.Rows L2
section
variable {P : Program} {w : World} {K : PySem.W.Frag} {mg : Str → Option Value} {base : Heap}
/-! ### moved_down -/
def spMov (K : PySem.W.Frag) : Sp := fun vs H Q _ => ∃ (x dx : Addr) (t : V) (l ls lb : Addr) (T : Tb) (r0 a u b : List Syl) (y : Syl) (m : Nat), vs = [.ref x, .int ((a.length + u.length : Nat) : Int), .int (a.length : Nat)] ∧ WayS K H x dx t l ls lb T r0 (a ++ u ++ y :: b) m ∧ (∀ z ∈ u, T.fr y.1 z.1 = true) ∧
  (a ++ u ++ y :: b).length < 100000 ∧ m + u.length < 1000000 ∧ WPost K H x dx t l ls lb T r0 (a ++ y :: (u ++ b)) (m + u.length) .non Q
theorem ok_Way_moved_down (C : Fx w K mg base) : FnOk P w K mg base CX0 4 (a_Way_moved_down K) (fdA K (a_Way_moved_down K)) ["self", "at", "to"] (spMov K) := by
  refine (F_Way_moved_down C).ok S_Way_moved_down (fun vs H Q E h => ?_) (fun cdv A outer s H vs Q E hr h => ?_)
  · obtain ⟨x, dx, t, l, ls, lb, T, r0, a, u, b, y, m, rfl, _⟩ := h
    rfl
  · obtain ⟨x, dx, t, l, ls, lb, T, r0, a, u, b, y, m, rfl, W, hf, hz, hm, q⟩ := h
    refine ⟨_, (pss_one (ps_for PassesOwn.never rfl (pi_range3 (by rfl) C.z_range (pa_cons (pe_op op_sub (pv 1) pe_int) (pa_cons (pe_op op_sub (pv 2) pe_int) (pa_cons (pe_un un_neg pe_int) pa_nil)))) (pg_name (i := 3) S_Way_moved_down.nd rfl (Or.inl rfl))
        (pss_one (ps_expr (pe_md (Y_exchanged C) (hr.mono (by decide)) (pv 0) (pa_cons (pv 3) pa_nil)))))), ?_⟩
    have hlz : a.length + u.length + b.length + 1 < 100000 := by simp at hz; omega
    refine ⟨_, rfl, ((a.length + u.length : Nat) : Int), 1, rfl, rfl, _, rfl, ((a.length : Nat) : Int), 1, rfl, rfl, 1, rfl, ((a.length + u.length : Nat) : Int) - 1, ((a.length : Nat) : Int) - 1, -1, _, rfl, RgC.neg (by omega) (by omega) (by omega) (by omega), ?_⟩
    have en : (((a.length + u.length : Nat) : Int) - 1 - (((a.length : Nat) : Int) - 1)).toNat = u.length := by omega
    rw [en]
    refine for_rangeC (fun i σ H' => ∃ v3, σ = [some (.ref x), some (.int ((a.length + u.length : Nat) : Int)), some (.int (a.length : Nat)), v3] ∧ i ≤ u.length ∧ Kx (X3 l ls lb) H H' ∧ WayS K H' x dx t l ls lb T r0 (a ++ u.take (u.length - i) ++ y :: (u.drop (u.length - i) ++ b)) (m + i))
      ⟨none, rfl, Nat.zero_le _, Kx.refl _, by simpa using W⟩ ?_ ?_
    · rintro i σ H' hi ⟨v3, rfl, _, k, Wi⟩
      obtain ⟨j, hj⟩ : ∃ j, u.length - i = j + 1 := ⟨u.length - i - 1, by omega⟩
      have hjl : j < u.length := by omega
      have e1 : u.take (j + 1) = u.take j ++ [u[j]] := by rw [List.take_add_one, List.getElem?_eq_getElem hjl]; rfl
      have e2 : u.drop j = u[j] :: u.drop (j + 1) := List.drop_eq_getElem_cons hjl
      have ej : ((a.length + u.length : Nat) : Int) - 1 + (i : Nat) * -1 = (((a ++ u.take j).length : Nat) : Int) := by
        rw [List.length_append, List.length_take]
        omega
      have er : a ++ u.take (u.length - i) ++ y :: (u.drop (u.length - i) ++ b) = (a ++ u.take j) ++ u[j] :: y :: (u.drop (j + 1) ++ b) := by
        rw [hj, e1]
        simp only [List.append_assoc, List.cons_append, List.nil_append]
      rw [ej]
      rw [er] at Wi
      refine ⟨_, rfl, x, dx, _, rfl, Wi.ob, rfl, _, rfl, ?_⟩
      refine ⟨x, dx, t, l, ls, lb, T, r0, a ++ u.take j, u.drop (j + 1) ++ b, u[j], y, m + i, rfl, Wi, ?_, ?_, by omega, fun H2 k2 W2 => ?_⟩
      · rw [T.sym]
        exact hf _ (List.getElem_mem hjl)
      · simp
        omega
      · have ef : a ++ u.take (u.length - (i + 1)) ++ y :: (u.drop (u.length - (i + 1)) ++ b) = (a ++ u.take j) ++ y :: u[j] :: (u.drop (j + 1) ++ b) := by
          rw [show u.length - (i + 1) = j by omega, e2]
          simp only [List.append_assoc, List.cons_append, List.nil_append]
        refine ⟨_, rfl, by omega, Kx.trans k k2, ?_⟩
        rw [ef]
        exact W2
    · rintro σ H' ⟨v3, rfl, _, k, Wi⟩
      rw [Nat.sub_self] at Wi
      refine q H' k ?_
      simpa using Wi
theorem Y_moved_down (C : Fx w K mg base) : Dm P w K mg base 4 (He.ga K "Way") (a_Way_moved_down K) (fdA K (a_Way_moved_down K)) ["self", "at", "to"] (spMov K) "moved_down" := ⟨ok_Way_moved_down C, C.c_Way, C.m_Way_moved_down, B_Way_moved_down C⟩
/-! ### dropped -/
def spDpd (K : PySem.W.Frag) : Sp := fun vs H Q _ => ∃ (x dx : Addr) (t : V) (l ls lb : Addr) (T : Tb) (r0 a b : List Syl) (k : Str) (m : Nat), vs = [.ref x, .int (a.length : Nat)] ∧ WayS K H x dx t l ls lb T r0 (a ++ (k, 0) :: b) m ∧ (a ++ (k, 0) :: b : List Syl).length < 100000 ∧ m < 1000000 ∧
  WPost K H x dx t l ls lb T r0 (a ++ b) (m + 1) .non Q
theorem ok_Way_dropped (C : Fx w K mg base) : FnOk P w K mg base CX0 3 (a_Way_dropped K) (fdA K (a_Way_dropped K)) ["self", "at"] (spDpd K) := by
  refine (F_Way_dropped C).ok S_Way_dropped (fun vs H Q E h => ?_) (fun cdv A outer s H vs Q E hr h => ?_)
  · obtain ⟨x, dx, t, l, ls, lb, T, r0, a, b, k, m, rfl, _⟩ := h
    rfl
  · obtain ⟨x, dx, t, l, ls, lb, T, r0, a, b, k, m, rfl, W, hz, hm, q⟩ := h
    refine ⟨_, (pss_cons (ps_expr (pe_bm PySem.F.plainAttrs_list PySem.F.slot_list_append PySem.F.type_list_append mt_append (pe_fld (pv 0) rfl) (pa_cons (pe_tup (pa_cons pe_str (pa_cons (pv 1) pa_nil))) pa_nil)))
      (pss_cons (ps_expr (pe_bm PySem.F.plainAttrs_list PySem.F.slot_list_append PySem.F.type_list_append mt_append (pe_fld (pv 0) rfl) (pa_cons (pe_tup (pa_cons pe_str (pa_cons (pv 1) (pa_cons (pe_ix ix_tup (pe_ix ix_list (pe_fld (pv 0) rfl) (pv 1) (fun _ _ => rfl)) pe_int (fun _ _ => rfl)) pa_nil)))) pa_nil)))
      (pss_one (ps_expr (pe_cd (D_drop C) (hr.mono (by decide)) (pa_cons (pe_fld (pv 0) rfl) (pa_cons (pe_fld (pv 0) rfl) (pa_cons (pv 1) pa_nil)))))))), ?_⟩
    have hzs := sizeLine_eq
    obtain ⟨us, hl, hus⟩ := W.rw
    obtain ⟨zs, ss, hls, hss, rs, ls1⟩ := W.st
    obtain ⟨ws, bs, hlb, hbs, rb, lb1⟩ := W.bk
    have hzl := pr_len hss
    have hwl := pr_len hbs
    have hkT : k ∈ T.kinds := W.kin (k, 0) (by simp)
    have hd : Do T (.drop a.length) (a ++ (k, 0) :: b) (a ++ b) := .drop a b k
    have he : Do T (.put a.length k) (a ++ b) (a ++ (k, 0) :: b) := .put a b k hkT
    -- steps
    refine ⟨_, rfl, x, _, dx, _, _, rfl, W.ob, C.c_Way, C.n_Way_steps, rfl, .inl ⟨rfl, _, l_of hls⟩, _, rfl, by show 2 ≤ sizeLine; decide, fun t1 ht1 => ?_⟩
    have e1 := ex_new (o := .tup [.str "drop", .int (a.length : Nat)]) ht1
    refine ⟨ls, zs, .ref t1, rfl, rfl, e1 _ _ hls, by omega, ?_⟩
    have h1n : ∀ p o, H p = some o → p ≠ t1 := fun p o h z => by rw [z, ht1] at h; cases h
    obtain ⟨H2, hH2⟩ : ∃ H2, H2 = upd (upd H t1 (.tup [.str "drop", .int (a.length : Nat)])) ls (.lst (zs ++ [.ref t1])) := ⟨_, rfl⟩
    rw [← hH2]
    have k2 : Kx (· = ls) H H2 := by rw [hH2]; exact Kx.to (Kx.ofEx e1) (.inl rfl)
    have N2 : Nx H H2 := by rw [hH2]; exact Nx.upd (Nx.ofEx e1) (.inr ⟨_, hls⟩)
    have ht2 : H2 t1 = some (.tup [.str "drop", .int (a.length : Nat)]) := by rw [hH2, upd_ne (fun z => h1n ls _ hls z.symm), upd_same]
    have ob2 : H2 x = _ := N2 _ _ W.ob (fun _ z => nomatch z)
    have hlb2 : H2 lb = _ := k2 _ _ (fun z => W.n3 z.symm) hlb
    have hls2 : H2 ls = some (.lst (zs ++ [.ref t1])) := by rw [hH2, upd_same]
    have hl2 : H2 l = _ := k2 _ _ W.n1 hl
    have hus2 := sys_nx N2 hus
    obtain ⟨v0, hv0, p0, rfl, hp0⟩ := pr_get hus2 (i := a.length) (y := (k, 0)) (by simp)
    -- back
    refine ⟨_, rfl, x, _, dx, _, _, rfl, ob2, C.c_Way, C.n_Way_back, rfl, .inl ⟨rfl, _, l_of hlb2⟩, _, rfl, _, rfl, x, _, dx, _, _, rfl, ob2, C.c_Way, C.n_Way_row, rfl, _, rfl, l, us, ((a.length : Nat) : Int), .ref p0, rfl, rfl, l_of hl2, atI_nat hv0, p0, _, (0 : Int), .str k, rfl, rfl, hp0, atI_nat (j := 0) rfl, by show 3 ≤ sizeLine; decide, fun t2 ht2' => ?_⟩
    have e2 := ex_new (o := .tup [.str "put", .int (a.length : Nat), .str k]) ht2'
    refine ⟨lb, ws, .ref t2, rfl, rfl, e2 _ _ hlb2, by omega, ?_⟩
    have h2n : ∀ p o, H2 p = some o → p ≠ t2 := fun p o h z => by rw [z, ht2'] at h; cases h
    obtain ⟨H3, hH3⟩ : ∃ H3, H3 = upd (upd H2 t2 (.tup [.str "put", .int (a.length : Nat), .str k])) lb (.lst (ws ++ [.ref t2])) := ⟨_, rfl⟩
    rw [← hH3]
    have k3 : Kx (· = lb) H2 H3 := by rw [hH3]; exact Kx.to (Kx.ofEx e2) (.inl rfl)
    have N3 : Nx H2 H3 := by rw [hH3]; exact Nx.upd (Nx.ofEx e2) (.inr ⟨_, hlb2⟩)
    have ht3 : H3 t2 = some (.tup [.str "put", .int (a.length : Nat), .str k]) := by rw [hH3, upd_ne (fun z => h2n lb _ hlb2 z.symm), upd_same]
    have ob3 : H3 x = _ := N3 _ _ ob2 (fun _ z => nomatch z)
    have hl3 : H3 l = _ := k3 _ _ W.n2 hl2
    have hls3 : H3 ls = _ := k3 _ _ W.n3 hls2
    have hlb3 : H3 lb = some (.lst (ws ++ [.ref t2])) := by rw [hH3, upd_same]
    have N23 := Nx.trans N2 N3
    refine ⟨_, rfl, x, _, dx, _, _, rfl, ob3, C.c_Way, C.n_Way_table, rfl, _, rfl, x, _, dx, _, _, rfl, ob3, C.c_Way, C.n_Way_row, rfl, _, rfl, ?_⟩
    refine ⟨t, l, T, a.length, _, _, us, rfl, W.tb.nx N23, hl3, sys_nx N3 hus2, W.kin, hz, hd, fun H4 us4 k4 hl4 hs4 => ?_⟩
    have N4 : Nx H3 H4 := k4.nx fun z hz o h => by rw [hz, hl3] at h; cases h; exact ⟨_, rfl⟩
    have N04 := Nx.trans N23 N4
    refine q _ ?_ ?_
    · exact Kx.trans (Kx.mono k2 fun a h => .inr (.inl h)) (Kx.trans (Kx.mono k3 fun a h => .inr (.inr h)) (Kx.mono k4 fun a h => .inl h))
    · refine WayS.step (N04 _ _ W.ob (fun _ z => nomatch z)) (W.tb.nx N04) hl4 hs4 (k4 _ _ (fun z => W.n1 z.symm) hls3) ?_ (k4 _ _ (fun z => W.n2 z.symm) hlb3) ?_ rs rb hd he ls1 lb1 W.n1 W.n2 W.n3 W.kin
      · exact pr_app (sts_nx N04 hss) (.cons ⟨t1, rfl, nx_t (Nx.trans N3 N4) (t_of ht2)⟩ .nil)
      · exact pr_app (sts_nx N04 hbs) (.cons ⟨t2, rfl, nx_t N4 (t_of ht3)⟩ .nil)
theorem Y_dropped (C : Fx w K mg base) : Dm P w K mg base 3 (He.ga K "Way") (a_Way_dropped K) (fdA K (a_Way_dropped K)) ["self", "at"] (spDpd K) "dropped" := ⟨ok_Way_dropped C, C.c_Way, C.m_Way_dropped, B_Way_dropped C⟩
end
end K91
/-! P25 -/
namespace K91
open PySem PySem.Spec PyProof.Rows L2
theorem scan_parts {fr : Str → Str → Bool} {k : Str} : ∀ {s : List Syl} {i : Nat}, scan fr k s = some i → ∃ u c v, s = u ++ (k, c) :: v ∧ v.length = i ∧ ∀ z ∈ u, fr k z.1 = true
  | [], _, h => by cases h
  | (x, c) :: r, i, h => by
    by_cases e : x = k
    · subst e
      unfold scan at h
      rw [if_pos rfl] at h
      exact ⟨[], c, r, rfl, Option.some.inj h, fun z hz => nomatch hz⟩
    · by_cases f : fr k x = true
      · have es : scan fr k ((x, c) :: r) = scan fr k r := by
          show (if x = k then _ else _) = _
          rw [if_neg e, if_pos f]
        rw [es] at h
        obtain ⟨u, d, v, h1, h2, h3⟩ := scan_parts h
        refine ⟨(x, c) :: u, d, v, by rw [h1]; rfl, h2, fun z hz => ?_⟩
        rcases List.mem_cons.mp hz with q | q
        · rw [q]; exact f
        · exact h3 z q
      · have es : scan fr k ((x, c) :: r) = none := by
          show (if x = k then _ else _) = _
          rw [if_neg e, if_neg f]
        rw [es] at h
        cases h
/-- where a syllable melts -/
theorem melt_parts {fr : Str → Str → Bool} (hs : ∀ a b, fr a b = fr b a) {k : Str} {f : List Syl} {i : Nat} (h : meltIx fr k f = some i) : ∃ v c u, f = v ++ (k, c) :: u ∧ v.length = i ∧ (∀ z ∈ u, fr k z.1 = true) ∧ ∀ n, (push fr f.reverse (k, n)).reverse = if c + n = 0 then v ++ u else v ++ (k, c + n) :: u := by
  obtain ⟨u, c, v, h1, h2, h3⟩ := scan_parts h
  obtain ⟨d, g1, g2⟩ := melt_some hs h
  have ef : f = v.reverse ++ (k, c) :: u.reverse := by
    have := congrArg List.reverse h1
    rw [List.reverse_reverse] at this
    rw [this]
    simp
  have hvi : v.reverse.length = i := by rw [List.length_reverse]; exact h2
  have ed : d = c := by
    rw [ef, ← hvi, List.getElem?_append_right (Nat.le_refl _), Nat.sub_self] at g1
    have := Option.some.inj g1
    exact (congrArg Prod.snd this).symm
  subst ed
  refine ⟨v.reverse, d, u.reverse, ef, hvi, fun z hz => h3 z (List.mem_reverse.mp hz), fun n => ?_⟩
  rw [g2 n, ef]
  split
  · rw [List.eraseIdx_append_of_length_le (by omega), hvi, Nat.sub_self]
    rfl
  · rw [List.set_append_right _ _ (by omega), hvi, Nat.sub_self]
    rfl
section
variable {P : Program} {w : World} {K : PySem.W.Frag} {mg : Str → Option Value} {base : Heap}
/-! ### melting_place -/
def spMpl (K : PySem.W.Frag) : Sp := fun vs H Q _ => ∃ (x dx : Addr) (t : V) (l ls lb : Addr) (T : Tb) (r0 s b : List Syl) (y : Syl) (m : Nat), vs = [.ref x, .int (s.length : Nat)] ∧ WayS K H x dx t l ls lb T r0 (s ++ y :: b) m ∧ (s ++ y :: b).length < 100000 ∧ Q (ixV (meltIx T.fr y.1 s)) H
theorem ok_Way_melting_place (C : Fx w K mg base) : FnOk P w K mg base CX0 2 (a_Way_melting_place K) (fdA K (a_Way_melting_place K)) ["self", "short"] (spMpl K) := by
  refine (F_Way_melting_place C).ok S_Way_melting_place (fun vs H Q E h => ?_) (fun cdv A outer s H vs Q E hr h => ?_)
  · obtain ⟨x, dx, t, l, ls, lb, T, r0, s, b, y, m, rfl, _⟩ := h
    rfl
  · obtain ⟨x, dx, t, l, ls, lb, T, r0, s, b, ⟨k, n⟩, m, rfl, W, hz, q⟩ := h
    refine ⟨_, (pss_cons (ps_asg (pe_ix ix_list (pe_fld (pv 0) rfl) (pv 1) (fun _ _ => rfl)) (pg_tup rfl (pgs_cons (pg_name (i := 2) S_Way_melting_place.nd rfl (Or.inl rfl)) (pgs_cons (pg_name (i := 3) S_Way_melting_place.nd rfl (Or.inl rfl)) pgs_nil))))
      (pss_cons (ps_for PassesOwn.never rfl (pi_range3 (by rfl) C.z_range (pa_cons (pe_op op_sub (pv 1) pe_int) (pa_cons (pe_un un_neg pe_int) (pa_cons (pe_un un_neg pe_int) pa_nil)))) (pg_name (i := 4) S_Way_melting_place.nd rfl (Or.inl rfl))
        (pss_cons (ps_if (pt_cmpR op_eq (pe_ix ix_tup (pe_ix ix_list (pe_fld (pv 0) rfl) (pv 4) (fun _ _ => rfl)) pe_int (fun _ _ => rfl)) (pv 2) (nomark _))
          (pss_one (ps_ret (pv 4)))
          pss_nil)
        (pss_one (ps_if (pt_cmpR op_in_seq (pe_ix ix_tup (pe_ix ix_list (pe_fld (pv 0) rfl) (pv 4) (fun _ _ => rfl)) pe_int (fun _ _ => rfl)) (pe_md (D_links C) (hr.mono (by decide)) (pe_fld (pv 0) rfl) (pa_cons (pv 2) pa_nil)) (by rfl))
          (pss_one (ps_ret pe_non))
          pss_nil))))
      (pss_one (ps_ret pe_non)))), ?_⟩
    obtain ⟨us, hl, hus⟩ := W.rw
    obtain ⟨ta, hta⟩ := tab_ref W.tb
    have Wtb := W.tb
    have Wob := W.ob
    rw [hta] at Wtb Wob
    obtain ⟨ta', tdx, pk, pp, pl, ps, lk, et, hobj, _⟩ := id Wtb
    cases et
    have hkT : k ∈ T.kinds := W.kin (k, n) (by simp)
    have hls : s.length + b.length + 1 < 100000 := by simp at hz; omega
    obtain ⟨v0, hv0, p0, rfl, hp0⟩ := pr_get hus (i := s.length) (y := (k, n)) (by simp)
    refine ⟨_, rfl, x, _, dx, _, _, rfl, Wob, C.c_Way, C.n_Way_row, rfl, _, rfl, l, us, ((s.length : Nat) : Int), .ref p0, rfl, rfl, l_of hl, atI_nat hv0, p0, _, rfl, hp0, rfl, _, _, rfl, _, _, rfl, rfl, ?_⟩
    refine ⟨_, rfl, ((s.length : Nat) : Int), 1, rfl, rfl, 1, rfl, 1, rfl, ((s.length : Nat) : Int) - 1, -1, -1, _, rfl, RgC.neg (by omega) (by omega) (by omega) (by omega), ?_⟩
    have en : (((s.length : Nat) : Int) - 1 - -1).toNat = s.length := by omega
    rw [en]
    refine for_rangeC (fun i σ H' => ∃ v, σ = [some (.ref x), some (.int (s.length : Nat)), some (.str k), some (.int n), v] ∧ H' = H ∧ i ≤ s.length ∧ scan T.fr k (s.take (s.length - i)).reverse = meltIx T.fr k s)
      ⟨none, rfl, rfl, Nat.zero_le _, by rw [Nat.sub_zero, List.take_length]; rfl⟩ ?_ ?_
    · rintro i σ H' hi' ⟨v, rfl, rfl, _, hsc⟩
      obtain ⟨j, hj⟩ : ∃ j, s.length - i = j + 1 := ⟨s.length - i - 1, by omega⟩
      have hjl : j < s.length := by omega
      have ej : ((s.length : Nat) : Int) - 1 + (i : Nat) * -1 = (j : Int) := by omega
      rw [ej]
      obtain ⟨y, hy⟩ : ∃ y, s[j]? = some y := ⟨s[j], List.getElem?_eq_getElem hjl⟩
      have hy' : (s ++ (k, n) :: b)[j]? = some y := by rw [List.getElem?_append_left hjl]; exact hy
      obtain ⟨v, hv, p', rfl, ht⟩ := pr_get hus hy'
      rw [hj, take_rev hy] at hsc
      refine ⟨_, rfl, x, _, dx, _, _, rfl, Wob, C.c_Way, C.n_Way_row, rfl, _, rfl, l, us, (j : Int), .ref p', rfl, rfl, l_of hl, atI_nat hv, p', _, (0 : Int), _, rfl, rfl, ht, atI_nat (j := 0) rfl, _, rfl, rfl, _, rfl, ite2 (fun e => ?_) (fun e => ?_)⟩
      · have e1 : y.1 = k := V.str.inj (of_decide_eq_true e)
        have e2 : scan T.fr k (y :: (s.take j).reverse) = some j := by
          show (if y.1 = k then some (s.take j).reverse.length else _) = _
          rw [if_pos e1, List.length_reverse, List.length_take]
          congr 1
          omega
        rw [e2] at hsc
        rw [← hsc] at q
        exact ⟨_, rfl, q⟩
      · have e1 : ¬ y.1 = k := fun z => e (decide_eq_true (congrArg V.str z))
        have e2 : scan T.fr k (y :: (s.take j).reverse) = if T.fr k y.1 = true then scan T.fr k (s.take j).reverse else none := by
          show (if y.1 = k then some (s.take j).reverse.length else _) = _
          rw [if_neg e1]
        rw [e2] at hsc
        have hky : y.1 ∈ T.kinds := W.kin y (List.mem_of_getElem? hy')
        refine ⟨_, rfl, x, _, dx, _, _, rfl, Wob, C.c_Way, C.n_Way_row, rfl, _, rfl, l, us, (j : Int), .ref p', rfl, rfl, l_of hl, atI_nat hv, p', _, (0 : Int), _, rfl, rfl, ht, atI_nat (j := 0) rfl, ?_⟩
        refine ⟨_, rfl, x, _, dx, _, _, rfl, Wob, C.c_Way, C.n_Way_table, rfl, ta, tdx, _, rfl, hobj, rfl, _, rfl, .ref ta, k, T, rfl, Wtb, hkT, fun p hp => ?_⟩
        refine ⟨p, _, rfl, .inr hp, rfl, all_strs, _, rfl, ?_⟩
        rw [if_neg Bool.false_ne_true, inV_strs, mem_links hky]
        cases hf : T.fr k y.1 with
        | true =>
          rw [if_pos hf] at hsc
          refine iteF ⟨_, rfl, rfl, by omega, ?_⟩
          have ej2 : s.length - (i + 1) = j := by omega
          rw [ej2]
          exact hsc
        | false =>
          rw [hf] at hsc
          rw [← hsc] at q
          exact iteT q
    · rintro σ H' ⟨v, rfl, rfl, _, hsc⟩
      rw [Nat.sub_self, List.take_zero] at hsc
      rw [← hsc] at q
      exact q
theorem Y_melting_place (C : Fx w K mg base) : Dm P w K mg base 2 (He.ga K "Way") (a_Way_melting_place K) (fdA K (a_Way_melting_place K)) ["self", "short"] (spMpl K) "melting_place" := ⟨ok_Way_melting_place C, C.c_Way, C.m_Way_melting_place, B_Way_melting_place C⟩
end
end K91
/-! P26 -/
namespace K91
open PySem PySem.Spec PyProof.Rows L2
theorem shortF_one (T : Tb) (s : List Syl) (y : Syl) : shortF T s [y] = (push T.fr s.reverse y).reverse := rfl
section
variable {P : Program} {w : World} {K : PySem.W.Frag} {mg : Str → Option Value} {base : Heap}
/-! ### pressed_in -/
def spPin (K : PySem.W.Frag) : Sp := fun vs H Q _ => ∃ (x dx : Addr) (t : V) (l ls lb : Addr) (T : Tb) (r0 s b : List Syl) (y : Syl) (m : Nat), vs = [.ref x, .int (s.length : Nat)] ∧ WayS K H x dx t l ls lb T r0 (s ++ y :: b) m ∧ (∀ z ∈ s, z.2 ≠ 0) ∧ (s ++ y :: b).length < 100000 ∧ m + s.length + 2 < 1000000 ∧
  WPost K H x dx t l ls lb T r0 (shortF T s [y] ++ b) (m + s.length + 2) (.int ((shortF T s [y]).length : Nat)) Q
theorem ok_Way_pressed_in (C : Fx w K mg base) : FnOk P w K mg base CX0 5 (a_Way_pressed_in K) (fdA K (a_Way_pressed_in K)) ["self", "short"] (spPin K) := by
  refine (F_Way_pressed_in C).ok S_Way_pressed_in (fun vs H Q E h => ?_) (fun cdv A outer s H vs Q E hr h => ?_)
  · obtain ⟨x, dx, t, l, ls, lb, T, r0, s, b, y, m, rfl, _⟩ := h
    rfl
  · obtain ⟨x, dx, t, l, ls, lb, T, r0, s, b, ⟨k, n⟩, m, rfl, W, hs0, hz, hm, q⟩ := h
    refine ⟨_, (pss_cons (ps_if (pt_cmpR op_eq (pe_ix ix_tup (pe_ix ix_list (pe_fld (pv 0) rfl) (pv 1) (fun _ _ => rfl)) pe_int (fun _ _ => rfl)) pe_int (nomark _))
        (pss_cons (ps_expr (pe_md (Y_dropped C) (hr.mono (by decide)) (pv 0) (pa_cons (pv 1) pa_nil)))
        (pss_one (ps_ret (pv 1))))
        pss_nil)
      (pss_cons (ps_set (i := 2) S_Way_pressed_in.nd rfl (Or.inl rfl) (pe_md (Y_melting_place C) (hr.mono (by decide)) (pv 0) (pa_cons (pv 1) pa_nil)))
      (pss_cons (ps_if (pt_cmpR op_isN (pv 2) pe_non (nomark _))
        (pss_one (ps_ret (pe_op op_add (pv 1) pe_int)))
        pss_nil)
      (pss_cons (ps_expr (pe_md (Y_moved_down C) (hr.mono (by decide)) (pv 0) (pa_cons (pv 1) (pa_cons (pe_op op_add (pv 2) pe_int) pa_nil))))
      (pss_cons (ps_expr (pe_bm PySem.F.plainAttrs_list PySem.F.slot_list_append PySem.F.type_list_append mt_append (pe_fld (pv 0) rfl) (pa_cons (pe_tup (pa_cons pe_str (pa_cons (pv 2) pa_nil))) pa_nil)))
      (pss_cons (ps_expr (pe_bm PySem.F.plainAttrs_list PySem.F.slot_list_append PySem.F.type_list_append mt_append (pe_fld (pv 0) rfl) (pa_cons (pe_tup (pa_cons pe_str (pa_cons (pv 2) (pa_cons (pe_ix ix_tup (pe_ix ix_list (pe_fld (pv 0) rfl) (pv 2) (fun _ _ => rfl)) pe_int (fun _ _ => rfl)) pa_nil)))) pa_nil)))
      (pss_cons (ps_expr (pe_cd (D_melt C) (hr.mono (by decide)) (pa_cons (pe_fld (pv 0) rfl) (pa_cons (pe_fld (pv 0) rfl) (pa_cons (pv 2) pa_nil)))))
      (pss_cons (ps_if (pt_cmpR op_eq (pe_ix ix_tup (pe_ix ix_list (pe_fld (pv 0) rfl) (pv 2) (fun _ _ => rfl)) pe_int (fun _ _ => rfl)) pe_int (nomark _))
        (pss_cons (ps_expr (pe_md (Y_dropped C) (hr.mono (by decide)) (pv 0) (pa_cons (pv 2) pa_nil)))
        (pss_one (ps_ret (pe_op op_sub (pv 1) pe_int))))
        pss_nil)
      (pss_one (ps_ret (pv 1))))))))))), ?_⟩
    have hzs := sizeLine_eq
    have hlz : s.length + b.length + 1 < 100000 := by simp at hz; omega
    obtain ⟨us, hl, hus⟩ := W.rw
    obtain ⟨v0, hv0, p0, rfl, hp0⟩ := pr_get hus (i := s.length) (y := (k, n)) (by simp)
    refine ⟨_, rfl, x, _, dx, _, _, rfl, W.ob, C.c_Way, C.n_Way_row, rfl, _, rfl, l, us, ((s.length : Nat) : Int), .ref p0, rfl, rfl, l_of hl, atI_nat hv0, p0, _, (1 : Int), _, rfl, rfl, hp0, atI_nat (j := 1) rfl, rfl, _, rfl, ite2 (fun e => ?_) (fun e => ?_)⟩
    · -- count 0
      have n0 : n = 0 := V.int.inj (of_decide_eq_true e)
      subst n0
      have es : shortF T s [(k, 0)] = s := by
        rw [shortF_one]
        cases hmx : meltIx T.fr k s with
        | none => rw [melt_none T.sym hmx, if_pos rfl]
        | some i =>
          obtain ⟨v, c, u, h1, h2, h3, h4⟩ := melt_parts T.sym hmx
          have hc : c ≠ 0 := hs0 (k, c) (by rw [h1]; simp)
          rw [h4, Int.add_zero, if_neg hc, h1]
      refine ⟨_, rfl, x, dx, _, rfl, W.ob, rfl, _, rfl, x, dx, t, l, ls, lb, T, r0, s, b, k, m, rfl, W, hz, by omega, fun H2 k2 W2 => ?_⟩
      refine ⟨_, rfl, ?_⟩
      have := q H2 k2
      rw [es] at this
      exact this (W2.more (by omega))
    · have n0 : ¬ n = 0 := fun z => e (decide_eq_true (congrArg V.int z))
      refine ⟨_, rfl, x, dx, _, rfl, W.ob, rfl, _, rfl, x, dx, t, l, ls, lb, T, r0, s, b, (k, n), m, rfl, W, hz, ?_⟩
      show gName 2 (ixV (meltIx T.fr k s)) _ _ _
      cases hmx : meltIx T.fr k s with
      | none =>
        have es : shortF T s [(k, n)] = s ++ [(k, n)] := by rw [shortF_one, melt_none T.sym hmx, if_neg n0]
        refine ⟨_, rfl, rfl, _, rfl, iteT ?_⟩
        refine ⟨_, rfl, ((s.length : Nat) : Int), 1, rfl, rfl, ?_⟩
        have := q H (Kx.refl _)
        rw [es, List.append_assoc, List.length_append] at this
        exact this (W.more (by omega))
      | some i =>
        obtain ⟨v, c, u, h1, h2, h3, h4⟩ := melt_parts T.sym hmx
        subst h2
        show gName 2 (.int ((v.length : Nat) : Int)) _ _ _
        have hsl : s.length = v.length + u.length + 1 := by rw [h1]; simp; omega
        refine ⟨_, rfl, rfl, _, rfl, iteF ?_⟩
        refine ⟨_, rfl, x, dx, _, rfl, W.ob, rfl, _, rfl, _, rfl, ((v.length : Nat) : Int), 1, rfl, rfl, ?_⟩
        have er : s ++ (k, n) :: b = (v ++ [(k, c)]) ++ u ++ (k, n) :: b := by rw [h1]; simp
        rw [er] at W
        have i1 : ((v.length : Nat) : Int) + 1 = (((v ++ [(k, c)] : List Syl).length : Nat) : Int) := by simp
        have i2 : ((s.length : Nat) : Int) = (((v ++ [(k, c)] : List Syl).length + u.length : Nat) : Int) := by rw [hsl]; simp; omega
        refine ⟨x, dx, t, l, ls, lb, T, r0, v ++ [(k, c)], u, b, (k, n), m, by show [V.ref x, V.int ((s.length : Nat) : Int), V.int (((v.length : Nat) : Int) + 1)] = _; rw [i1, i2], W, h3, by rw [← er]; exact hz, by omega, fun H2 k2 W2 => ?_⟩
        obtain ⟨us2, hl2, hus2⟩ := W2.rw
        have er2 : (v ++ [(k, c)]) ++ (k, n) :: (u ++ b) = v ++ (k, c) :: (k, n) :: (u ++ b) := by simp
        rw [er2] at W2 hus2
        obtain ⟨zs, ss, hls, hss, rs, ls1⟩ := W2.st
        obtain ⟨ws, bs, hlb, hbs, rb, lb1⟩ := W2.bk
        have hzl := pr_len hss
        have hwl := pr_len hbs
        have hd : Do T (.melt v.length) (v ++ (k, c) :: (k, n) :: (u ++ b)) (v ++ (k, c + n) :: (u ++ b)) := .melt v (u ++ b) k c n
        have he : Do T (.split v.length c) (v ++ (k, c + n) :: (u ++ b)) (v ++ (k, c) :: (k, n) :: (u ++ b)) := by
          have := Do.split (T := T) v (u ++ b) k (c + n) c
          rwa [show c + n - c = n by omega] at this
        -- steps
        refine ⟨_, rfl, x, _, dx, _, _, rfl, W2.ob, C.c_Way, C.n_Way_steps, rfl, .inl ⟨rfl, _, l_of hls⟩, _, rfl, by show 2 ≤ sizeLine; decide, fun t1 ht1 => ?_⟩
        have e1 := ex_new (o := .tup [.str "melt", .int (v.length : Nat)]) ht1
        refine ⟨ls, zs, .ref t1, rfl, rfl, e1 _ _ hls, by omega, ?_⟩
        have h1n : ∀ p o, H2 p = some o → p ≠ t1 := fun p o h z => by rw [z, ht1] at h; cases h
        obtain ⟨H3, hH3⟩ : ∃ H3, H3 = upd (upd H2 t1 (.tup [.str "melt", .int (v.length : Nat)])) ls (.lst (zs ++ [.ref t1])) := ⟨_, rfl⟩
        rw [← hH3]
        have k3 : Kx (· = ls) H2 H3 := by rw [hH3]; exact Kx.to (Kx.ofEx e1) (.inl rfl)
        have N3 : Nx H2 H3 := by rw [hH3]; exact Nx.upd (Nx.ofEx e1) (.inr ⟨_, hls⟩)
        have ht3 : H3 t1 = some (.tup [.str "melt", .int (v.length : Nat)]) := by rw [hH3, upd_ne (fun z => h1n ls _ hls z.symm), upd_same]
        have ob3 : H3 x = _ := N3 _ _ W2.ob (fun _ z => nomatch z)
        have hlb3 : H3 lb = _ := k3 _ _ (fun z => W2.n3 z.symm) hlb
        have hls3 : H3 ls = some (.lst (zs ++ [.ref t1])) := by rw [hH3, upd_same]
        have hl3 : H3 l = _ := k3 _ _ W2.n1 hl2
        have hus3 := sys_nx N3 hus2
        obtain ⟨v1, hv1, p1, rfl, hp1⟩ := pr_get hus3 (i := v.length) (y := (k, c)) (by simp)
        -- back
        refine ⟨_, rfl, x, _, dx, _, _, rfl, ob3, C.c_Way, C.n_Way_back, rfl, .inl ⟨rfl, _, l_of hlb3⟩, _, rfl, _, rfl, x, _, dx, _, _, rfl, ob3, C.c_Way, C.n_Way_row, rfl, _, rfl, l, us2, ((v.length : Nat) : Int), .ref p1, rfl, rfl, l_of hl3, atI_nat hv1, p1, _, (1 : Int), .int c, rfl, rfl, hp1, atI_nat (j := 1) rfl, by show 3 ≤ sizeLine; decide, fun t2 ht2' => ?_⟩
        have e2 := ex_new (o := .tup [.str "split", .int (v.length : Nat), .int c]) ht2'
        refine ⟨lb, ws, .ref t2, rfl, rfl, e2 _ _ hlb3, by omega, ?_⟩
        have h3n : ∀ p o, H3 p = some o → p ≠ t2 := fun p o h z => by rw [z, ht2'] at h; cases h
        obtain ⟨H4, hH4⟩ : ∃ H4, H4 = upd (upd H3 t2 (.tup [.str "split", .int (v.length : Nat), .int c])) lb (.lst (ws ++ [.ref t2])) := ⟨_, rfl⟩
        rw [← hH4]
        have k4 : Kx (· = lb) H3 H4 := by rw [hH4]; exact Kx.to (Kx.ofEx e2) (.inl rfl)
        have N4 : Nx H3 H4 := by rw [hH4]; exact Nx.upd (Nx.ofEx e2) (.inr ⟨_, hlb3⟩)
        have ht4 : H4 t2 = some (.tup [.str "split", .int (v.length : Nat), .int c]) := by rw [hH4, upd_ne (fun z => h3n lb _ hlb3 z.symm), upd_same]
        have ob4 : H4 x = _ := N4 _ _ ob3 (fun _ z => nomatch z)
        have hl4 : H4 l = _ := k4 _ _ W2.n2 hl3
        have hls4 : H4 ls = _ := k4 _ _ W2.n3 hls3
        have hlb4 : H4 lb = some (.lst (ws ++ [.ref t2])) := by rw [hH4, upd_same]
        have N24 := Nx.trans N3 N4
        -- melt
        refine ⟨_, rfl, x, _, dx, _, _, rfl, ob4, C.c_Way, C.n_Way_table, rfl, _, rfl, x, _, dx, _, _, rfl, ob4, C.c_Way, C.n_Way_row, rfl, _, rfl, ?_⟩
        have hz2 : (v ++ (k, c) :: (k, n) :: (u ++ b) : List Syl).length < 100000 := by simp; omega
        refine ⟨t, l, T, v.length, _, _, us2, rfl, W2.tb.nx N24, hl4, sys_nx N4 hus3, W2.kin, hz2, hd, fun H5 us5 k5 hl5 hs5 => ?_⟩
        have N5 : Nx H4 H5 := k5.nx fun z hz o h => by rw [hz, hl4] at h; cases h; exact ⟨_, rfl⟩
        have N25 := Nx.trans N24 N5
        have ob5 : H5 x = _ := N25 _ _ W2.ob (fun _ z => nomatch z)
        have W5 : WayS K H5 x dx t l ls lb T r0 (v ++ (k, c + n) :: (u ++ b)) (m + u.length + 1) := by
          refine WayS.step ob5 (W2.tb.nx N25) hl5 hs5 (k5 _ _ (fun z => W2.n1 z.symm) hls4) ?_ (k5 _ _ (fun z => W2.n2 z.symm) hlb4) ?_ rs rb hd he ls1 lb1 W2.n1 W2.n2 W2.n3 W2.kin
          · exact pr_app (sts_nx N25 hss) (.cons ⟨t1, rfl, nx_t (Nx.trans N4 N5) (t_of ht3)⟩ .nil)
          · exact pr_app (sts_nx N25 hbs) (.cons ⟨t2, rfl, nx_t N5 (t_of ht4)⟩ .nil)
        have kAll : Kx (X3 l ls lb) H H5 := Kx.trans k2 (Kx.trans (Kx.mono k3 fun a h => .inr (.inl h)) (Kx.trans (Kx.mono k4 fun a h => .inr (.inr h)) (Kx.mono k5 fun a h => .inl h)))
        obtain ⟨v5, hv5, p5, rfl, hp5⟩ := pr_get hs5 (i := v.length) (y := (k, c + n)) (by simp)
        have es : shortF T s [(k, n)] = if c + n = 0 then v ++ u else v ++ (k, c + n) :: u := by rw [shortF_one]; exact h4 n
        refine ⟨_, rfl, x, _, dx, _, _, rfl, ob5, C.c_Way, C.n_Way_row, rfl, _, rfl, l, us5, ((v.length : Nat) : Int), .ref p5, rfl, rfl, l_of hl5, atI_nat hv5, p5, _, (1 : Int), _, rfl, rfl, hp5, atI_nat (j := 1) rfl, rfl, _, rfl, ite2 (fun e => ?_) (fun e => ?_)⟩
        · have c0 : c + n = 0 := V.int.inj (of_decide_eq_true e)
          rw [c0] at W5
          rw [if_pos c0] at es
          refine ⟨_, rfl, x, dx, _, rfl, ob5, rfl, _, rfl, x, dx, t, l, ls, lb, T, r0, v, u ++ b, k, m + u.length + 1, rfl, W5, by simp; omega, by omega, fun H6 k6 W6 => ?_⟩
          refine ⟨_, rfl, ((s.length : Nat) : Int), 1, rfl, rfl, ?_⟩
          have := q H6 (Kx.trans kAll k6)
          rw [es, List.append_assoc, show (((v ++ u).length : Nat) : Int) = ((s.length : Nat) : Int) - 1 by rw [hsl]; simp; try omega] at this
          exact this (W6.more (by omega))
        · have c0 : ¬ c + n = 0 := fun z => e (decide_eq_true (congrArg V.int z))
          rw [if_neg c0] at es
          refine ⟨_, rfl, ?_⟩
          have := q H5 kAll
          rw [es, show (((v ++ (k, c + n) :: u : List Syl).length : Nat) : Int) = ((s.length : Nat) : Int) by rw [hsl]; simp; omega] at this
          refine this ?_
          have := W5.more (m' := m + s.length + 2) (by omega)
          simpa using this
theorem Y_pressed_in (C : Fx w K mg base) : Dm P w K mg base 5 (He.ga K "Way") (a_Way_pressed_in K) (fdA K (a_Way_pressed_in K)) ["self", "short"] (spPin K) "pressed_in" := ⟨ok_Way_pressed_in C, C.c_Way, C.m_Way_pressed_in, B_Way_pressed_in C⟩
end
end K91
/-! P27 -/
namespace K91
open PySem PySem.Spec PyProof.Rows L2
section
variable {P : Program} {w : World} {K : PySem.W.Frag} {mg : Str → Option Value} {base : Heap}
/-! ### brought -/
def spBrt (K : PySem.W.Frag) : Sp := fun vs H Q _ => ∃ (x dx : Addr) (t : V) (l ls lb p : Addr) (T : Tb) (fs : List V) (r0 r f : List Syl) (m : Nat), vs = [.ref x, .ref p] ∧ SqT K H p fs ∧ Sys K H fs f ∧ WayS K H x dx t l ls lb T r0 r m ∧ Sw T.fr r f ∧ r.length < 900 ∧ m + r.length * r.length < 1000000 ∧
  WPost K H x dx t l ls lb T r0 f (m + r.length * r.length) .non Q
theorem ok_Way_brought (C : Fx w K mg base) : FnOk P w K mg base CX0 5 (a_Way_brought K) (fdA K (a_Way_brought K)) ["self", "form"] (spBrt K) := by
  refine (F_Way_brought C).ok S_Way_brought (fun vs H Q E h => ?_) (fun cdv A outer s H vs Q E hr h => ?_)
  · obtain ⟨x, dx, t, l, ls, lb, p, T, fs, r0, r, f, m, rfl, _⟩ := h
    rfl
  · obtain ⟨x, dx, t, l, ls, lb, p, T, fs, r0, r, f, m, rfl, hp, hfs, W, hsw, hz, hm, q⟩ := h
    refine ⟨_, (pss_one (ps_for PassesOwn.never rfl (pi_enumA (by rfl) C.z_enumerate (pa_cons (pv 1) pa_nil)) (pg_tup rfl (pgs_cons (pg_name (i := 2) S_Way_brought.nd rfl (Or.inl rfl)) (pgs_cons (pg_name (i := 3) S_Way_brought.nd rfl (Or.inl rfl)) pgs_nil)))
        (pss_cons (ps_set (i := 4) S_Way_brought.nd rfl (Or.inl rfl) (pv 2))
        (pss_cons (ps_while PassesOwn.never (pt_cmpR op_ne (pe_ix ix_tup (pe_ix ix_list (pe_fld (pv 0) rfl) (pv 4) (fun _ _ => rfl)) pe_int (fun _ _ => rfl)) (pe_ix ix_tup (pv 3) pe_int (fun _ _ => rfl)) (nomark _))
          (pss_one (ps_aug (i := 4) S_Way_brought.nd rfl (Or.inl rfl) pe_int ip_add)))
        (pss_one (ps_expr (pe_md (Y_moved_down C) (hr.mono (by decide)) (pv 0) (pa_cons (pv 4) (pa_cons (pv 2) pa_nil))))))))), ?_⟩
    have hrl := hsw.len
    have hfl := pr_len hfs
    refine ⟨_, rfl, false, p, _, rfl, hp, ?_⟩
    refine for_enumA (xs := fs) (fun i σ H' => ∃ v2 v3 v4 rest, σ = [some (.ref x), some (.ref p), v2, v3, v4] ∧ Kx (X3 l ls lb) H H' ∧ WayS K H' x dx t l ls lb T r0 (f.take i ++ rest) (m + i * r.length) ∧ Sw T.fr rest (f.drop i) ∧ i ≤ f.length)
      ⟨none, none, none, r, rfl, Kx.refl _, by simpa using W, hsw, Nat.zero_le _⟩ (fun i σ H' _ ⟨_, _, _, _, _, k, _⟩ => nx_t (W.nxOf k) hp) ?_ ?_
    · rintro i vx Wt σ H' hx ⟨v2, v3, v4, rest, rfl, k, Wi, hsi, hif⟩ hW
      obtain ⟨y, hy, hsy⟩ := pr_get' hfs hx
      have hil : i < f.length := (List.getElem?_eq_some_iff.mp hy).1
      have eyi : f[i] = y := (List.getElem?_eq_some_iff.mp hy).2
      have kW := ex_new (o := .tup [.int (i : Nat), vx]) hW
      have Wj := Wi.ex kW
      have hsyW : Sy K (upd H' Wt (.tup [.int (i : Nat), vx])) vx y := hsy.nx (Nx.trans (W.nxOf k) (Nx.ofEx kW))
      obtain ⟨py, rfl, hpy⟩ := hsyW
      have ed : f.drop i = y :: f.drop (i + 1) := by rw [List.drop_eq_getElem_cons hil, eyi]
      obtain ⟨u, v, hr1, hu, hsv⟩ := hsi.find T.sym ed
      subst hr1
      have hlen1 : (u ++ y :: v).length = f.length - i := by rw [hsi.len, List.length_drop]
      have hul : u.length + v.length + 1 = f.length - i := by rw [← hlen1]; simp; omega
      have hti : (f.take i).length = i := by rw [List.length_take]; omega
      obtain ⟨us, hl, hus⟩ := Wj.rw
      refine ⟨Wt, _, rfl, t_of (upd_same ..), rfl, _, _, rfl, _, _, rfl, rfl, ?_⟩
      refine ⟨_, rfl, ?_⟩
      refine ⟨fun m' σ H1 => ∃ j, j ≤ u.length ∧ m' = u.length - j ∧ σ = [some (.ref x), some (.ref p), some (.int (i : Nat)), some (.ref py), some (.int ((i + j : Nat) : Int))] ∧ H1 = upd H' Wt (.tup [.int (i : Nat), .ref py]), ⟨_, 0, Nat.zero_le _, rfl, rfl, rfl⟩, ?_⟩
      rintro m' σ H1 ⟨j, hj, rfl, rfl, rfl⟩
      by_cases hju : j < u.length
      · have hgj : (f.take i ++ (u ++ y :: v))[i + j]? = some u[j] := by
          rw [List.getElem?_append_right (by omega), hti, Nat.add_sub_cancel_left, List.getElem?_append_left hju, List.getElem?_eq_getElem hju]
        obtain ⟨vj, hvj, pj, rfl, hpj⟩ := pr_get hus hgj
        refine ⟨_, rfl, x, _, dx, _, _, rfl, Wj.ob, C.c_Way, C.n_Way_row, rfl, _, rfl, l, us, ((i + j : Nat) : Int), .ref pj, rfl, rfl, l_of hl, atI_nat hvj, pj, _, (0 : Int), _, rfl, rfl, hpj, atI_nat (j := 0) rfl, ?_⟩
        refine ⟨_, rfl, py, _, (0 : Int), _, rfl, rfl, hpy, atI_nat (j := 0) rfl, rfl, _, rfl, ?_⟩
        have hne : u[j].1 ≠ y.1 := fun z => by
          have := hu u[j] (List.getElem_mem hju)
          rw [z, T.irr] at this
          cases this
        have e0 : (!decide (V.str u[j].1 = V.str y.1)) = true := by
          rw [decide_eq_false fun z => hne (V.str.inj z)]
          rfl
        rw [e0]
        refine iteT ⟨_, fun σ' H2 h => h, ?_⟩
        refine ⟨_, rfl, ((i + j : Nat) : Int), 1, rfl, rfl, ?_⟩
        exact ⟨_, by omega, j + 1, by omega, rfl, rfl, rfl⟩
      · have hju2 : j = u.length := by omega
        subst hju2
        have hgj : (f.take i ++ (u ++ y :: v))[i + u.length]? = some y := by
          rw [List.getElem?_append_right (by omega), hti, Nat.add_sub_cancel_left, List.getElem?_append_right (Nat.le_refl _), Nat.sub_self]
          rfl
        obtain ⟨vj, hvj, pj, rfl, hpj⟩ := pr_get hus hgj
        refine ⟨_, rfl, x, _, dx, _, _, rfl, Wj.ob, C.c_Way, C.n_Way_row, rfl, _, rfl, l, us, ((i + u.length : Nat) : Int), .ref pj, rfl, rfl, l_of hl, atI_nat hvj, pj, _, (0 : Int), _, rfl, rfl, hpj, atI_nat (j := 0) rfl, ?_⟩
        refine ⟨_, rfl, py, _, (0 : Int), _, rfl, rfl, hpy, atI_nat (j := 0) rfl, rfl, _, rfl, ?_⟩
        rw [decide_eq_true rfl]
        refine iteF ?_
        have Wk : WayS K (upd H' Wt (.tup [.int (i : Nat), .ref py])) x dx t l ls lb T r0 (f.take i ++ u ++ y :: v) (m + i * r.length) := by
          rw [List.append_assoc]
          exact Wj
        have hmi : i * r.length + r.length ≤ r.length * r.length := by
          have : (i + 1) * r.length ≤ r.length * r.length := Nat.mul_le_mul_right _ (by omega)
          rw [Nat.add_mul, Nat.one_mul] at this
          exact this
        refine ⟨_, rfl, x, dx, _, rfl, Wj.ob, rfl, _, rfl, _, rfl, x, dx, t, l, ls, lb, T, r0, f.take i, u, v, y, m + i * r.length, by rw [hti]; rfl, Wk, hu, by simp; omega, by omega, fun H2 k2 W2 => ?_⟩
        refine ⟨_, _, _, u ++ v, rfl, Kx.trans (Kx.trans k (Kx.ofEx kW)) k2, ?_, hsv, by omega⟩
        have et : f.take (i + 1) = f.take i ++ [y] := by rw [List.take_add_one, hy]; rfl
        rw [et, List.append_assoc]
        refine WayS.more (m := m + i * r.length + u.length) W2 ?_
        rw [Nat.add_mul, Nat.one_mul]
        omega
    · rintro σ H' ⟨v2, v3, v4, rest, rfl, k, Wi, hsi, hif⟩
      rw [hfl, List.drop_length] at hsi
      have hr0 : rest = [] := List.length_eq_zero_iff.mp hsi.len
      subst hr0
      rw [hfl, List.take_length, List.append_nil] at Wi
      refine q H' k ?_
      rw [← hrl] at Wi
      exact Wi
theorem Y_brought (C : Fx w K mg base) : Dm P w K mg base 5 (He.ga K "Way") (a_Way_brought K) (fdA K (a_Way_brought K)) ["self", "form"] (spBrt K) "brought" := ⟨ok_Way_brought C, C.c_Way, C.m_Way_brought, B_Way_brought C⟩
end
end K91
/-! P28 -/
namespace K91
open PySem PySem.Spec PyProof.Rows L2
theorem press_red {T : Tb} (r : List Syl) : ∀ z ∈ shortF T [] r, z.2 ≠ 0 := by
  have h : Red T.fr (press T.fr r) := red_press T.sym T.irr r
  have key : ∀ {s : List Syl}, Red T.fr s → ∀ z ∈ s, z.2 ≠ 0 := by
    intro s
    induction s with
    | nil => intro _ z hz; cases hz
    | cons y s ih =>
      rintro ⟨h1, _, h3⟩ z hz
      rcases List.mem_cons.mp hz with e | e
      · rw [e]; exact h1
      · exact ih h3 z e
  intro z hz
  exact key h z (List.mem_reverse.mp hz)
theorem shortF_two (T : Tb) (r : List Syl) (y : Syl) : shortF T [] (r ++ [y]) = shortF T (shortF T [] r) [y] := by
  rw [shortF_snoc, shortF_one]
section
variable {P : Program} {w : World} {K : PySem.W.Frag} {mg : Str → Option Value} {base : Heap}
theorem way_ne_tab (C : Fx w K mg base) : He.ga K "Way" ≠ He.ga K "Table" := fun h => by
  have e : a_Way_Dinit K = a_Table_Dinit K := congrArg (fun z => He.ma K z "__init__") h
  obtain ⟨_, _, dV, kV, doc, pm, an, cdv, ct, _, e1, _⟩ := (C.fd (d := d_Way_Dinit) 40).ex
  obtain ⟨_, _, dV', kV', doc', pm', an', cdv', ct', _, e2, _⟩ := (F_Table_Dinit C).ex
  have e1 : fdA K (a_Way_Dinit K) = _ := e1
  rw [e, e2] at e1
  have q := congrArg FuncData.qualname e1
  exact absurd (show ("Table.__init__" : Str) = "Way.__init__" from q) (by decide)
def spWInit (K : PySem.W.Frag) : Sp := fun vs H Q _ => ∃ (x dx : Addr) (t : V) (T : Tb) (r : List Syl) (b : Bool) (a : Addr) (ys : List V), vs = [.ref x, t, .ref a] ∧ H x = some (.ins (He.ga K "Way") dx []) ∧ TabV K H t T ∧ SqA K H b a ys ∧ Sys K H ys r ∧ Kin T r ∧ r.length < 500 ∧
  ∀ H' l ls lb m, Kx (· = x) H H' → WayS K H' x dx t l ls lb T r (verF T r) m → m ≤ r.length * (r.length + 2) + r.length * r.length → Q .non H'
theorem ok_Way_Dinit (C : Fx w K mg base) : FnOk P w K mg base CX0 6 (a_Way_Dinit K) (fdA K (a_Way_Dinit K)) ["self", "table", "syllables"] (spWInit K) := by
  refine (F_Way_Dinit C).ok S_Way_Dinit (fun vs H Q E h => ?_) (fun cdv A outer s H vs Q E hr h => ?_)
  · obtain ⟨x, dx, t, T, r, b, a, ys, rfl, _⟩ := h
    rfl
  · obtain ⟨x, dx, t, T, r, b, a, ys, rfl, hx, hT, hq, hs, hk, hz, q⟩ := h
    refine ⟨_, (pss_cons (ps_fld (pv 0) (pv 1) rfl)
      (pss_cons (ps_fld (pv 0) (pe_callTy call_list_of (by rfl) C.z_list (by decide +kernel) (pa_cons (pv 2) pa_nil)) rfl)
      (pss_cons (ps_fld (pv 0) (pe_lst pa_nil) rfl)
      (pss_cons (ps_fld (pv 0) (pe_lst pa_nil) rfl)
      (pss_cons (ps_set (i := 3) S_Way_Dinit.nd rfl (Or.inl rfl) pe_int)
      (pss_cons (ps_while PassesOwn.never (pt_cmpR op_lt (pv 3) (pe_callB call_len_seq (by rfl) C.z_len (by decide +kernel) (pa_cons (pe_fld (pv 0) rfl) pa_nil)) (nomark _))
        (pss_one (ps_set (i := 3) S_Way_Dinit.nd rfl (Or.inl rfl) (pe_md (Y_pressed_in C) (hr.mono (by decide)) (pv 0) (pa_cons (pv 3) pa_nil)))))
      (pss_one (ps_expr (pe_md (Y_brought C) (hr.mono (by decide)) (pv 0) (pa_cons (pe_cd (D_formed C) (hr.mono (by decide)) (pa_cons (pv 1) (pa_cons (pe_fld (pv 0) rfl) pa_nil))) pa_nil)))))))))), ?_⟩
    obtain ⟨ta, rfl⟩ := tab_ref hT
    have hzs := sizeLine_eq
    have nt := way_ne_tab C
    -- table
    refine ⟨_, rfl, _, rfl, x, _, dx, _, rfl, hx, C.c_Way, C.n_Way_table, by decide, ?_⟩
    obtain ⟨H1, hH1⟩ : ∃ H1, H1 = upd H x (.ins (He.ga K "Way") dx (putF "table" (.ref ta) [])) := ⟨_, rfl⟩
    show tSeq _ _ _ _ (upd H x (.ins (He.ga K "Way") dx (putF "table" (.ref ta) [])))
    rw [← hH1]
    have k1 : Kx (· = x) H H1 := by rw [hH1]; exact Kx.to (Kx.refl _) (.inl rfl)
    have x1 : H1 x = some (.ins (He.ga K "Way") dx [("table", .ref ta)]) := by rw [hH1]; exact upd_same ..
    have T1 : TabV K H1 (.ref ta) T := kx_tab k1 hx ins_no hT (fun _ _ z => by injection z with z; exact nt z) (fun _ z => nomatch z)
    have q1 : SqA K H1 b a ys := by
      cases b with
      | true =>
        rcases hq with (z | ⟨o, z⟩) | z
        · exact .inl (.inl (k1 _ _ (fun e => by rw [e, hx] at z; cases z) z))
        · exact .inl (.inr ⟨o, k1 _ _ (fun e => by rw [e, hx] at z; cases z) z⟩)
        · exact .inr z
      | false => exact kx_t' k1 hx ins_no hq
    have s1 : Sys K H1 ys r := kx_sy' k1 hx ins_no hs
    -- row
    refine ⟨_, rfl, a, ys, rfl, sqA_len q1, fun l hl => ?_⟩
    have e2 := ex_new (o := .lst ys) hl
    have hlx : l ≠ x := fun z => by rw [z, x1] at hl; cases hl
    refine ⟨_, rfl, x, _, dx, _, rfl, e2 _ _ x1, C.c_Way, C.n_Way_row, by show 1 < 1000; decide, ?_⟩
    obtain ⟨H2, hH2⟩ : ∃ H2, H2 = upd (upd H1 l (.lst ys)) x (.ins (He.ga K "Way") dx (putF "row" (.ref l) [("table", .ref ta)])) := ⟨_, rfl⟩
    show tSeq _ _ _ _ (upd (upd H1 l (.lst ys)) x (.ins (He.ga K "Way") dx (putF "row" (.ref l) [("table", .ref ta)])))
    rw [← hH2]
    have k2 : Kx (· = x) H1 H2 := by rw [hH2]; exact Kx.to (Kx.ofEx e2) (.inl rfl)
    have x2 : H2 x = some (.ins (He.ga K "Way") dx [("table", .ref ta), ("row", .ref l)]) := by rw [hH2]; exact upd_same ..
    have T2 : TabV K H2 (.ref ta) T := kx_tab k2 x1 ins_no T1 (fun _ _ z => by injection z with z; exact nt z) (fun _ z => nomatch z)
    have s2 : Sys K H2 ys r := kx_sy' k2 x1 ins_no s1
    have l2 : H2 l = some (.lst ys) := by rw [hH2, upd_ne hlx, upd_same]
    -- steps
    refine ⟨by show 0 ≤ sizeLine; decide, fun ls hls => ?_⟩
    have e3 := ex_new (o := .lst []) hls
    have hlsx : ls ≠ x := fun z => by rw [z, x2] at hls; cases hls
    have hlls : l ≠ ls := fun z => by rw [← z, l2] at hls; cases hls
    refine ⟨_, rfl, x, _, dx, _, rfl, e3 _ _ x2, C.c_Way, C.n_Way_steps, by show 2 < 1000; decide, ?_⟩
    obtain ⟨H3, hH3⟩ : ∃ H3, H3 = upd (upd H2 ls (.lst [])) x (.ins (He.ga K "Way") dx (putF "steps" (.ref ls) [("table", .ref ta), ("row", .ref l)])) := ⟨_, rfl⟩
    show tSeq _ _ _ _ (upd (upd H2 ls (.lst [])) x (.ins (He.ga K "Way") dx (putF "steps" (.ref ls) [("table", .ref ta), ("row", .ref l)])))
    rw [← hH3]
    have k3 : Kx (· = x) H2 H3 := by rw [hH3]; exact Kx.to (Kx.ofEx e3) (.inl rfl)
    have x3 : H3 x = some (.ins (He.ga K "Way") dx [("table", .ref ta), ("row", .ref l), ("steps", .ref ls)]) := by rw [hH3]; exact upd_same ..
    have T3 : TabV K H3 (.ref ta) T := kx_tab k3 x2 ins_no T2 (fun _ _ z => by injection z with z; exact nt z) (fun _ z => nomatch z)
    have s3 : Sys K H3 ys r := kx_sy' k3 x2 ins_no s2
    have l3 : H3 l = some (.lst ys) := k3 _ _ hlx l2
    have ls3 : H3 ls = some (.lst []) := by rw [hH3, upd_ne hlsx, upd_same]
    -- back
    refine ⟨by show 0 ≤ sizeLine; decide, fun lb hlb => ?_⟩
    have e4 := ex_new (o := .lst []) hlb
    have hlbx : lb ≠ x := fun z => by rw [z, x3] at hlb; cases hlb
    have hllb : l ≠ lb := fun z => by rw [← z, l3] at hlb; cases hlb
    have hlslb : ls ≠ lb := fun z => by rw [← z, ls3] at hlb; cases hlb
    refine ⟨_, rfl, x, _, dx, _, rfl, e4 _ _ x3, C.c_Way, C.n_Way_back, by show 3 < 1000; decide, ?_⟩
    obtain ⟨H4, hH4⟩ : ∃ H4, H4 = upd (upd H3 lb (.lst [])) x (.ins (He.ga K "Way") dx (putF "back" (.ref lb) [("table", .ref ta), ("row", .ref l), ("steps", .ref ls)])) := ⟨_, rfl⟩
    show tSeq _ _ _ _ (upd (upd H3 lb (.lst [])) x (.ins (He.ga K "Way") dx (putF "back" (.ref lb) [("table", .ref ta), ("row", .ref l), ("steps", .ref ls)])))
    rw [← hH4]
    have k4 : Kx (· = x) H3 H4 := by rw [hH4]; exact Kx.to (Kx.ofEx e4) (.inl rfl)
    have x4 : H4 x = some (.ins (He.ga K "Way") dx [("table", .ref ta), ("row", .ref l), ("steps", .ref ls), ("back", .ref lb)]) := by rw [hH4]; exact upd_same ..
    have T4 : TabV K H4 (.ref ta) T := kx_tab k4 x3 ins_no T3 (fun _ _ z => by injection z with z; exact nt z) (fun _ z => nomatch z)
    have s4 : Sys K H4 ys r := kx_sy' k4 x3 ins_no s3
    have l4 : H4 l = some (.lst ys) := k4 _ _ hlx l3
    have ls4 : H4 ls = some (.lst []) := k4 _ _ hlsx ls3
    have lb4 : H4 lb = some (.lst []) := by rw [hH4, upd_ne hlbx, upd_same]
    have k04 : Kx (· = x) H H4 := Kx.trans k1 (Kx.trans k2 (Kx.trans k3 k4))
    have W4 : WayS K H4 x dx (.ref ta) l ls lb T r r 0 := ⟨x4, T4, ⟨ys, l4, s4⟩, ⟨[], [], ls4, .nil, .nil _, Nat.le_refl _⟩, ⟨[], [], lb4, .nil, .nil _, Nat.le_refl _⟩, hlls, hllb, hlslb, hk⟩
    -- fresh lists
    have fl : ∀ z, X3 l ls lb z → H z = none := by
      have f1 : ∀ {z : Addr} {Hx Hy : Hp}, Kx (· = x) Hx Hy → z ≠ x → Hy z = none → Hx z = none := fun k n h => k.free n h
      rintro z (rfl | rfl | rfl)
      · exact f1 k1 hlx hl
      · exact f1 (Kx.trans k1 k2) hlsx hls
      · exact f1 (Kx.trans k1 (Kx.trans k2 k3)) hlbx hlb
    have kout : ∀ {H' : Hp}, Kx (X3 l ls lb) H4 H' → Kx (· = x) H H' := fun k z o n h => k z o (fun hz => by rw [fl z hz] at h; cases h) (k04 z o n h)
    -- the loop
    refine ⟨fun m' σ H' => ∃ i, i ≤ r.length ∧ m' = r.length - i ∧ σ = [some (.ref x), some (.ref ta), some (.ref a), some (.int ((shortF T [] (r.take i)).length : Nat))] ∧ Kx (X3 l ls lb) H4 H' ∧ WayS K H' x dx (.ref ta) l ls lb T r (shortF T [] (r.take i) ++ r.drop i) (i * (r.length + 2)),
      ⟨_, 0, Nat.zero_le _, rfl, rfl, Kx.refl _, by rw [Nat.zero_mul, List.take_zero, List.drop_zero]; exact W4⟩, ?_⟩
    rintro m' σ H' ⟨i, hi, rfl, rfl, kk, Wi⟩
    have hsl : (shortF T [] (r.take i)).length ≤ i := by
      have := shortF_len (T := T) (s := []) (r := r.take i) (fun z hz => nomatch hz) (kin_take hk i)
      rw [List.length_take] at this
      simp at this
      omega
    obtain ⟨us, hul, husy⟩ := Wi.rw
    have hulen := pr_len husy
    refine ⟨_, rfl, _, rfl, x, _, dx, _, _, rfl, Wi.ob, C.c_Way, C.n_Way_row, rfl, l, us, rfl, .inl (l_of hul), _, _, rfl, rfl, _, rfl, ?_⟩
    by_cases hir : i < r.length
    · rw [show decide (((shortF T [] (r.take i)).length : Int) < (us.length : Int)) = true from decide_eq_true (by rw [hulen, List.length_append, List.length_drop]; omega)]
      have ed : r.drop i = r[i] :: r.drop (i + 1) := List.drop_eq_getElem_cons hir
      have et : r.take (i + 1) = r.take i ++ [r[i]] := by rw [List.take_add_one, List.getElem?_eq_getElem hir]; rfl
      rw [ed] at Wi
      have hmi : i * (r.length + 2) + r.length + 2 ≤ r.length * (r.length + 2) := by
        have : (i + 1) * (r.length + 2) ≤ r.length * (r.length + 2) := Nat.mul_le_mul_right _ (by omega)
        rw [Nat.add_mul, Nat.one_mul] at this
        omega
      have hbig : r.length * (r.length + 2) ≤ 500 * 502 := Nat.mul_le_mul (by omega) (by omega)
      refine iteT ⟨_, fun σ' H2 h => h, ?_⟩
      refine ⟨_, rfl, x, dx, _, rfl, Wi.ob, rfl, _, rfl, x, dx, .ref ta, l, ls, lb, T, r, shortF T [] (r.take i), r.drop (i + 1), r[i], i * (r.length + 2), rfl, Wi, press_red _, ?_, by omega, fun H2 k2 W2 => ?_⟩
      · rw [List.length_append, List.length_cons, List.length_drop]
        omega
      · refine ⟨r.length - (i + 1), by omega, i + 1, by omega, rfl, ?_, Kx.trans kk k2, ?_⟩
        · rw [et, shortF_two]
          rfl
        · rw [et, shortF_two]
          refine WayS.more W2 ?_
          rw [Nat.add_mul, Nat.one_mul]
          omega
    · have hir2 : i = r.length := by omega
      subst hir2
      rw [show decide (((shortF T [] (r.take r.length)).length : Int) < (us.length : Int)) = false from decide_eq_false (by rw [hulen, List.length_append, List.length_drop]; omega)]
      refine iteF ?_
      rw [List.take_length, List.drop_length, List.append_nil] at Wi husy
      rw [List.take_length] at hsl
      have hbig : r.length * (r.length + 2) ≤ 500 * 502 := Nat.mul_le_mul (by omega) (by omega)
      have hbig2 : (shortF T [] r).length * (shortF T [] r).length ≤ r.length * r.length := Nat.mul_le_mul hsl hsl
      have hbig3 : r.length * r.length ≤ 500 * 500 := Nat.mul_le_mul (by omega) (by omega)
      refine ⟨_, rfl, x, dx, _, rfl, Wi.ob, rfl, _, rfl, _, rfl, x, _, dx, _, _, rfl, Wi.ob, C.c_Way, C.n_Way_row, rfl, ?_⟩
      refine ⟨.ref ta, T, shortF T [] r, true, l, us, rfl, Wi.tb, l_of hul, husy, Wi.kin, by omega, fun p H2 e2 hp hf => ?_⟩
      obtain ⟨p', fs, ep, hp1, hf1⟩ := hf
      cases ep
      refine ⟨x, dx, .ref ta, l, ls, lb, p, T, fs, r, shortF T [] r, verF T r, r.length * (r.length + 2), rfl, hp1, hf1, Wi.ex e2, form_sw T.sym leS _, by omega, by omega, fun H3 k3 W3 => ?_⟩
      exact q H3 l ls lb _ (kout (Kx.trans kk (Kx.trans (Kx.ofEx e2) k3))) W3 (by omega)
theorem M_Way (C : Fx w K mg base) : Dk P w K mg base 6 (He.ga K "Way") (a_Way_Dinit K) (fdA K (a_Way_Dinit K)) ["self", "table", "syllables"] (spWInit K) "Way" := ⟨ok_Way_Dinit C, C.k_Way, C.g_Way, B_Way_Dinit C⟩
end
end K91
/-! P29 -/
namespace K91
open PySem PySem.Spec PyProof.Rows L2
/-- the most steps of a way -/
def wayM (n : Nat) : Nat := n * (n + 2) + n * n
section
variable {P : Program} {w : World} {K : PySem.W.Frag} {mg : Str → Option Value} {base : Heap}
def spPaper (K : PySem.W.Frag) : Sp := fun vs H Q _ => ∃ (u v : V) (T : Tb) (r s : List Syl), vs = [u, v] ∧ RowV K H u T r ∧ RowV K H v T s ∧ Kin T r ∧ Kin T s ∧ r.length < 500 ∧ s.length < 500 ∧ verF T r = verF T s ∧
  ∀ p H' zs ss, Evl.Ex H H' → H p = none → SqT K H' p zs → Sts K H' zs ss → Run T ss r s → ss.length ≤ wayM r.length + wayM s.length → Q (.ref p) H'
theorem ok_paper (C : Fx w K mg base) : FnOk P w K mg base CX0 8 (a_paper K) (fdA K (a_paper K)) ["one", "other"] (spPaper K) := by
  refine (F_paper C).ok S_paper (fun vs H Q E h => ?_) (fun cdv A outer s H vs Q E hr h => ?_)
  · obtain ⟨u, v, T, r, s, rfl, _⟩ := h
    rfl
  · obtain ⟨u, v, T, r, s2, rfl, hu, hv, hk, hk2, hl, hl2, hf, q⟩ := h
    refine ⟨_, (pss_cons (ps_expr (pe_cr (D_check_tables C) (hr.mono (by decide)) (pa_cons (pv 0) (pa_cons (pv 1) pa_nil))))
      (pss_cons (ps_par (i := 2) (j := 3) (by rfl) S_paper.nd rfl rfl (by decide) rfl rfl (pa_cons (pe_mk (M_Way C) (hr.mono (by decide)) (pa_cons (pe_fld (pv 0) rfl) (pa_cons (pe_fld (pv 0) rfl) pa_nil))) (pa_cons (pe_mk (M_Way C) (hr.mono (by decide)) (pa_cons (pe_fld (pv 1) rfl) (pa_cons (pe_fld (pv 1) rfl) pa_nil))) pa_nil)) (by rfl))
      (pss_cons (ps_if (pt_cmpR (op_neT (α := List (Str × Int)) hr.units (by decide)) (pe_fld (pv 2) rfl) (pe_fld (pv 3) rfl) (nomark _))
        (pss_one (ps_ret pe_non))
        pss_nil)
      (pss_one (ps_ret (pe_callTy call_tuple_of (by rfl) C.z_tuple (by decide +kernel) (pa_cons (pe_lst (StX.pa_star (pe_fld (pv 2) rfl) (StX.pa_star (pe_revL (pe_fld (pv 3) rfl)) pa_nil))) pa_nil))))))), ?_⟩
    have hzs := sizeLine_eq
    refine ⟨_, rfl, _, rfl, u, v, T, r, s2, rfl, hu, hv, fun H1 e1 => ?_⟩
    obtain ⟨a, dx, t, p1, rfl, ha, hT, p1', us, rfl, hp1, hs1⟩ := hu.nx (Nx.ofEx e1)
    obtain ⟨b, dy, t', p2, rfl, hb, hT', p2', us2, rfl, hp2, hs2⟩ := hv.nx (Nx.ofEx e1)
    -- the first way
    refine ⟨_, rfl, a, _, dx, _, _, rfl, ha, C.c_Row, C.n_Row_table, rfl, _, rfl, a, _, dx, _, _, rfl, ha, C.c_Row, C.n_Row_syllables, rfl, ?_⟩
    refine fun x d1 hx hd1 hne1 => ?_
    have ex1 : Evl.Ex H1 (upd (upd H1 d1 (.own x)) x (.ins (He.ga K "Way") d1 [])) := Evl.Ex.upd (ex_new hd1) hx
    refine ⟨x, d1, t, T, r, false, p1', us, rfl, upd_same .., tab_ex ex1 hT, Evl.ex_t ex1 hp1, sys_ex ex1 hs1, hk, hl, fun H2 l ls lb m k2 W2 hm => ⟨rfl, ?_⟩⟩
    have e12 : Evl.Ex H1 H2 := Kx.exOf (Kx.trans (Kx.ofEx ex1) k2) (fun c hc => by rw [hc]; exact hx)
    -- the second one
    refine ⟨_, rfl, b, _, dy, _, _, rfl, e12 _ _ hb, C.c_Row, C.n_Row_table, rfl, _, rfl, b, _, dy, _, _, rfl, e12 _ _ hb, C.c_Row, C.n_Row_syllables, rfl, ?_⟩
    refine fun y d2 hy hd2 hne2 => ?_
    have ex2 : Evl.Ex H2 (upd (upd H2 d2 (.own y)) y (.ins (He.ga K "Way") d2 [])) := Evl.Ex.upd (ex_new hd2) hy
    have ex12 := Evl.Ex.trans e12 ex2
    refine ⟨y, d2, t', T, s2, false, p2', us2, rfl, upd_same .., tab_ex ex12 hT', Evl.ex_t ex12 hp2, sys_ex ex12 hs2, hk2, hl2, fun H3 l' ls' lb' m' k3 W3 hm' => ⟨rfl, ?_⟩⟩
    have e23 : Evl.Ex H2 H3 := Kx.exOf (Kx.trans (Kx.ofEx ex2) k3) (fun c hc => by rw [hc]; exact hy)
    have W2' := W2.ex e23
    have e03 := Evl.Ex.trans (Evl.Ex.trans e1 e12) e23
    obtain ⟨ys, hly, hys⟩ := W2'.rw
    obtain ⟨zs, hlz, hzs2⟩ := W3.rw
    obtain ⟨c1, ss, hc1, hss, rs, ls1⟩ := W2'.st
    obtain ⟨c2, bs, hc2, hbs, rb, lb1⟩ := W3.bk
    have hcl1 := pr_len hss
    have hcl2 := pr_len hbs
    have hb1 : r.length * (r.length + 2) + r.length * r.length ≤ 500 * 502 + 500 * 500 := Nat.add_le_add (Nat.mul_le_mul (by omega) (by omega)) (Nat.mul_le_mul (by omega) (by omega))
    have hb2 : s2.length * (s2.length + 2) + s2.length * s2.length ≤ 500 * 502 + 500 * 500 := Nat.add_le_add (Nat.mul_le_mul (by omega) (by omega)) (Nat.mul_le_mul (by omega) (by omega))
    refine ⟨_, _, rfl, ?_⟩
    refine ⟨_, rfl, x, _, d1, _, _, rfl, W2'.ob, C.c_Way, C.n_Way_row, rfl, _, rfl, y, _, d2, _, _, rfl, W3.ob, C.c_Way, C.n_Way_row, rfl, verF T r, verF T s2, .lst (l_of hly) (syl_dp hys), .lst (l_of hlz) (syl_dp hzs2), _, rfl, ?_⟩
    rw [decide_eq_true hf]
    refine iteF ?_
    refine ⟨_, rfl, x, _, d1, _, _, rfl, W2'.ob, C.c_Way, C.n_Way_steps, rfl, ls, c1, rfl, .inr (l_of hc1), ?_⟩
    refine ⟨_, rfl, y, _, d2, _, _, rfl, W3.ob, C.c_Way, C.n_Way_back, rfl, lb', c2, rfl, l_of hc2, fun p4 hp4 => ?_⟩
    have e4 := ex_new (o := .lst c2.reverse) hp4
    refine ⟨p4, _, rfl, .inr (l_of (upd_same ..)), ?_⟩
    refine ⟨by rw [List.append_nil, List.length_append, List.length_reverse]; omega, fun p5 hp5 => ?_⟩
    have e5 := Evl.Ex.trans e4 (ex_new (o := .lst (c1 ++ (c2.reverse ++ []))) hp5)
    refine ⟨p5, _, rfl, .inl ⟨l_of (upd_same ..), fun p6 hp6 => ?_⟩⟩
    have e6 := Evl.Ex.trans e5 (ex_new (o := .tup (c1 ++ (c2.reverse ++ []))) hp6)
    have n6 := Nx.ofEx e6
    have hrun : Run T (ss ++ bs.reverse) r s2 := by
      rw [← hf] at rb
      exact rs.app rb
    refine q p6 _ (c1 ++ (c2.reverse ++ [])) (ss ++ bs.reverse) (Evl.Ex.trans e03 e6) (ex_free (Evl.Ex.trans e03 e5) hp6) (t_of (upd_same ..)) ?_ hrun ?_
    · have z := sts_nx n6 (pr_app hss (pr_rev hbs))
      rw [List.append_nil]
      rw [List.append_nil] at z
      exact z
    · rw [List.length_append, List.length_reverse]
      unfold wayM
      omega
theorem D_paper (C : Fx w K mg base) : Dn P w K mg base 8 (a_paper K) (fdA K (a_paper K)) ["one", "other"] (spPaper K) "paper" := ⟨ok_paper C, C.g_paper, (F_paper C).kp, B_paper C⟩
end
end K91
/-! Q1 -/
/-! the law's own draws -/
namespace K91
open PySem PySem.Spec PyProof.Rows L2
abbrev X2 (d c : Addr) : Addr → Prop := fun a => a = d ∨ a = c
/-- a deal stands at d, its cells at c -/
def Dl (H : Hp) (d c : Addr) : Prop := ∃ (ns : List Int) (m : Int), H d = some (.lst [.ref c, .int m]) ∧ H c = some (.lst (ns.map V.int)) ∧ (∀ n ∈ ns, 0 ≤ n) ∧ 0 ≤ m ∧ m < 2147483647 ∧ ns.length < 100 ∧ c ≠ d
theorem Dl.ex {H H' : Hp} {d c : Addr} (e : Evl.Ex H H') (h : Dl H d c) : Dl H' d c := let ⟨ns, m, h1, h2, r⟩ := h; ⟨ns, m, e _ _ h1, e _ _ h2, r⟩
theorem Dl.lists {H : Hp} {d c : Addr} (h : Dl H d c) : ∀ a, X2 d c a → ∀ o, H a = some o → ∃ xs, o = .lst xs := by
  obtain ⟨ns, m, h1, h2, _⟩ := h
  rintro a (rfl | rfl) o q
  · rw [h1] at q; cases q; exact ⟨_, rfl⟩
  · rw [h2] at q; cases q; exact ⟨_, rfl⟩
theorem Dl.nx {H H' : Hp} {d c : Addr} (h : Dl H d c) (k : Kx (X2 d c) H H') : Nx H H' := k.nx h.lists
theorem Dl.fresh {H : Hp} {d c p : Addr} (h : Dl H d c) (hp : H p = none) : ¬ X2 d c p := by
  obtain ⟨ns, m, h1, h2, _⟩ := h
  rintro (rfl | rfl)
  · rw [h1] at hp; cases hp
  · rw [h2] at hp; cases hp
theorem snoc_or {α : Type} : ∀ l : List α, l = [] ∨ ∃ l' z, l = l' ++ [z]
  | [] => .inl rfl
  | x :: l => .inr (by
    rcases snoc_or l with rfl | ⟨l', z, rfl⟩
    · exact ⟨[], x, rfl⟩
    · exact ⟨x :: l', z, rfl⟩)
theorem ints_dp {K : PySem.W.Frag} {H : Hp} : ∀ {ns : List Int}, DpAll K H (ns.map V.int) (ns.map PyData.int)
  | [] => .nil
  | n :: ns => .cons (.int n) ints_dp
section
variable {P : Program} {w : World} {K : PySem.W.Frag} {mg : Str → Option Value} {base : Heap}
/-! ### a draw -/
def spDraw (K : PySem.W.Frag) : Sp := fun vs H Q _ => ∃ (d c : Addr) (n : Nat), vs = [.ref d, .int (n : Nat)] ∧ Dl H d c ∧ 0 < n ∧ n < 1000000 ∧ ∀ (i : Nat) H', i < n → Kx (X2 d c) H H' → Dl H' d c → Q (.int (i : Nat)) H'
theorem ok_law_draw (C : Fx w K mg base) : FnOk P w K mg base CX0 1 (a_law_draw K) (fdA K (a_law_draw K)) ["_law_deal_here", "_law_many"] (spDraw K) := by
  refine (F_law_draw C).ok S_law_draw (fun vs H Q E h => ?_) (fun cdv A outer s H vs Q E hr h => ?_)
  · obtain ⟨d, c, n, rfl, _⟩ := h
    rfl
  · obtain ⟨d, c, n, rfl, ⟨ns, m, hd, hc, hns, hm0, hm1, hnl, hcd⟩, hn, hn2, q⟩ := h
    refine ⟨_, (pss_cons (ps_if (pt_cmpR (op_neT (α := List Int) hr.units (by decide)) (pe_ix ix_list (pv 0) pe_int (fun _ _ => rfl)) (pe_lst pa_nil) (nomark _))
        (pss_cons (ps_set (i := 2) S_law_draw.nd rfl (Or.inl rfl) (pe_ix ix_list (pe_ix ix_list (pv 0) pe_int (fun _ _ => rfl)) (pe_op op_sub (pe_callB call_len_seq (by rfl) C.z_len (by decide +kernel) (pa_cons (pe_ix ix_list (pv 0) pe_int (fun _ _ => rfl)) pa_nil)) pe_int) (fun _ _ => rfl)))
        (pss_cons (ps_set (i := 3) S_law_draw.nd rfl (Or.inl rfl) (pe_op op_mod (pv 2) (pv 1)))
        (pss_cons (ps_if (pt_cmpR op_gt (pe_op op_fdiv (pv 2) (pv 1)) pe_int (nomark _))
          (pss_one (ps_asg (pe_op op_fdiv (pv 2) (pv 1)) (pg_sub (pe_ix ix_list (pv 0) pe_int (fun _ _ => rfl)) (pe_op op_sub (pe_callB call_len_seq (by rfl) C.z_len (by decide +kernel) (pa_cons (pe_ix ix_list (pv 0) pe_int (fun _ _ => rfl)) pa_nil)) pe_int) set_list)))
          (pss_one (ps_expr (pe_bm0 PySem.F.plainAttrs_list PySem.F.slot_list_pop PySem.F.type_list_pop mt_pop (pe_ix ix_list (pv 0) pe_int (fun _ _ => rfl))))))
        (pss_one (ps_ret (pv 3))))))
        pss_nil)
      (pss_cons (ps_asg (pe_op op_mod (pe_op op_add (pe_op op_mul (pe_ix ix_list (pv 0) pe_int (fun _ _ => rfl)) pe_int) pe_int) pe_int) (pg_sub (pv 0) pe_int set_list))
      (pss_one (ps_ret (pe_op op_mod (pe_op op_fdiv (pe_ix ix_list (pv 0) pe_int (fun _ _ => rfl)) pe_int) (pv 1)))))), ?_⟩
    have hn0 : (0 : Int) < (n : Int) := by omega
    refine ⟨_, rfl, d, _, (0 : Int), .ref c, rfl, rfl, l_of hd, atI_nat (j := 0) rfl, ?_⟩
    refine ⟨by show 0 ≤ sizeLine; decide, fun e0 he0 => ?_⟩
    have ex0 := ex_new (o := .lst []) he0
    have hd1 := ex0 _ _ hd
    have hc1 := ex0 _ _ hc
    obtain ⟨H1, hH1⟩ : ∃ H1, H1 = upd H e0 (.lst []) := ⟨_, rfl⟩
    rw [← hH1] at hd1 hc1 ex0 ⊢
    have he1 : H1 e0 = some (.lst []) := by rw [hH1]; exact upd_same ..
    refine ⟨ns, [], .lst (l_of hc1) ints_dp, .lst (l_of he1) .nil, _, rfl, ?_⟩
    rcases snoc_or ns with rfl | ⟨ns', z, rfl⟩
    · rw [decide_eq_true rfl]
      refine iteF ?_
      refine ⟨_, rfl, d, _, (1 : Int), .int m, rfl, rfl, l_of hd1, atI_nat (j := 1) rfl, m, 48271, rfl, rfl, .inr ⟨by decide, by decide⟩, m * 48271, 11, rfl, rfl, m * 48271 + 11, 2147483647, rfl, rfl, by show (0 : Int) < 2147483647; decide, ?_⟩
      refine ⟨_, rfl, d, _, (1 : Int), 1, rfl, rfl, hd1, ixN_at (by show 1 < 2; decide), ?_⟩
      show Ends.nx _ _ (upd H1 d (.lst [.ref c, .int ((m * 48271 + 11) % 2147483647)]))
      have h1 : (m * 48271 + 11) % 2147483647 ≥ 0 := Int.emod_nonneg _ (by decide)
      have h2 : (m * 48271 + 11) % 2147483647 < 2147483647 := Int.emod_lt_of_pos _ (by decide)
      generalize (m * 48271 + 11) % 2147483647 = m' at h1 h2 ⊢
      refine ⟨_, rfl, d, [.ref c, .int m'], (1 : Int), .int m', rfl, rfl, l_of (upd_same ..), atI_nat (j := 1) rfl, m', 97, rfl, rfl, ⟨by decide, by decide⟩, _, rfl, m' / 97, (n : Int), rfl, rfl, hn0, ?_⟩
      have h3 : m' / 97 % (n : Int) ≥ 0 := Int.emod_nonneg _ (by omega)
      have h4 : m' / 97 % (n : Int) < n := Int.emod_lt_of_pos _ hn0
      obtain ⟨i, hi⟩ := Int.eq_ofNat_of_zero_le h3
      show Q (.int (m' / 97 % (n : Int))) _
      rw [hi] at h4 ⊢
      refine q i _ (by omega) (Kx.to (Kx.ofEx ex0) (.inl (.inl rfl))) ⟨[], m', upd_same .., by rw [upd_ne hcd]; exact hc1, (fun _ z => (nomatch z)), h1, h2, hnl, hcd⟩
    · have hz0 : 0 ≤ z := hns z (by simp)
      have hlen : ((ns' ++ [z]).map V.int).length = ns'.length + 1 := by simp
      have hgz : atI ((ns' ++ [z]).map V.int) ((ns'.length : Nat) : Int) = some (.int z) := atI_nat (by simp)
      have hlz : (((ns' ++ [z]).map V.int).length : Int) - 1 = ((ns'.length : Nat) : Int) := by rw [hlen]; omega
      rw [decide_eq_false (by simp)]
      refine iteT ?_
      refine ⟨_, rfl, d, _, (0 : Int), .ref c, rfl, rfl, l_of hd1, atI_nat (j := 0) rfl, _, rfl, d, _, (0 : Int), .ref c, rfl, rfl, l_of hd1, atI_nat (j := 0) rfl, c, _, rfl, .inl (l_of hc1), _, 1, rfl, rfl, c, _, _, .int z, rfl, rfl, l_of hc1, by rw [hlz]; exact hgz, ?_⟩
      refine ⟨_, rfl, _, rfl, z, (n : Int), rfl, rfl, hn0, ?_⟩
      refine ⟨_, rfl, _, rfl, z, (n : Int), rfl, rfl, ⟨hn0, by omega⟩, z / (n : Int), 0, rfl, rfl, _, rfl, ?_⟩
      have h3 : z % (n : Int) ≥ 0 := Int.emod_nonneg _ (by omega)
      have h4 : z % (n : Int) < n := Int.emod_lt_of_pos _ hn0
      obtain ⟨i, hi⟩ := Int.eq_ofNat_of_zero_le h3
      rw [hi] at h4
      refine ite2 (fun hg => ?_) (fun hg => ?_)
      · refine ⟨_, rfl, _, rfl, z, (n : Int), rfl, rfl, ⟨hn0, by omega⟩, _, rfl, d, _, (0 : Int), .ref c, rfl, rfl, l_of hd1, atI_nat (j := 0) rfl, _, rfl, d, _, (0 : Int), .ref c, rfl, rfl, l_of hd1, atI_nat (j := 0) rfl, c, _, rfl, .inl (l_of hc1), _, 1, rfl, rfl, c, _, _, ns'.length, rfl, rfl, hc1, by rw [hlz]; exact ixN_at (by rw [hlen]; omega), ?_⟩
        refine ⟨_, rfl, ?_⟩
        show Q (.int (z % (n : Int))) _
        rw [hi]
        refine q i _ (by omega) (Kx.to (Kx.ofEx ex0) (.inl (.inr rfl))) ⟨ns' ++ [z / n], m, by rw [upd_ne (fun e => hcd e.symm)]; exact hd1, ?_, ?_, hm0, hm1, by simp at hnl ⊢; exact hnl, hcd⟩
        · rw [upd_same]
          congr 2
          simp
        · intro x hx
          rcases List.mem_append.mp hx with h | h
          · exact hns x (by simp [h])
          · rw [List.mem_singleton] at h
            rw [h]
            exact Int.ediv_nonneg hz0 (by omega)
      · refine ⟨_, rfl, d, _, (0 : Int), .ref c, rfl, rfl, l_of hd1, atI_nat (j := 0) rfl, .inl ⟨rfl, _, l_of hc1⟩, c, _, .int z, rfl, rfl, hc1, by simp, ?_⟩
        refine ⟨_, rfl, ?_⟩
        show Q (.int (z % (n : Int))) _
        rw [hi]
        refine q i _ (by omega) (Kx.to (Kx.ofEx ex0) (.inl (.inr rfl))) ⟨ns', m, by rw [upd_ne (fun e => hcd e.symm)]; exact hd1, ?_, fun x hx => hns x (by simp [hx]), hm0, hm1, by simp at hnl; omega, hcd⟩
        rw [upd_same]
        congr 2
        simp
theorem D_law_draw (C : Fx w K mg base) : Dn P w K mg base 1 (a_law_draw K) (fdA K (a_law_draw K)) ["_law_deal_here", "_law_many"] (spDraw K) "_law_draw" := ⟨ok_law_draw C, C.g_law_draw, (F_law_draw C).kp, B_law_draw C⟩
end
end K91
/-! Q2 -/
namespace K91
open PySem PySem.Spec PyProof.Rows L2
open PySem.W (Datum)
theorem dpAll_of {K : PySem.W.Frag} {H : Hp} {α : Type} [DecidableEq α] [Datum α] : ∀ {xs : List V} {as : List α}, Paired (fun v a => Dp K H v (Datum.toD a)) xs as → DpAll K H xs (as.map Datum.toD)
  | _, _, .nil => .nil
  | _, _, .cons h t => .cons h (dpAll_of t)
/-- values that are data and stay so -/
def StD (K : PySem.W.Frag) (H : Hp) {α : Type} [DecidableEq α] [Datum α] (xs : List V) (as : List α) : Prop := Paired (fun v a => ∀ H', Nx H H' → Dp K H' v (Datum.toD a)) xs as
theorem StD.at {K : PySem.W.Frag} {H H' : Hp} {α : Type} [DecidableEq α] [Datum α] {xs : List V} {as : List α} (h : StD K H xs as) (e : Nx H H') : DpAll K H' xs (as.map Datum.toD) := dpAll_of (pr_mono (fun _ _ z => z H' e) h)
theorem StD.nx {K : PySem.W.Frag} {H H' : Hp} {α : Type} [DecidableEq α] [Datum α] {xs : List V} {as : List α} (h : StD K H xs as) (e : Nx H H') : StD K H' xs as := pr_mono (fun _ _ z H2 e2 => z H2 (Nx.trans e e2)) h
theorem std_strs {K : PySem.W.Frag} {H : Hp} : ∀ (ks : List Str), StD K H (ks.map V.str) ks
  | [] => .nil
  | k :: ks => .cons (fun _ _ => .str k) (std_strs ks)
theorem std_ints {K : PySem.W.Frag} {H : Hp} : ∀ (ks : List Int), StD K H (ks.map V.int) ks
  | [] => .nil
  | k :: ks => .cons (fun _ _ => .int k) (std_ints ks)
theorem std_pairs {K : PySem.W.Frag} {H : Hp} {vs : List V} {ps : List (Str × Str)} (h : Paired (PrT K H) vs ps) : StD K H vs ps := pr_mono (fun _ _ ⟨p, e, h⟩ H' n => by
  subst e
  exact .tup (nx_t n h) (.cons (.str _) (.cons (.str _) .nil))) h
theorem std_syls {K : PySem.W.Frag} {H : Hp} {vs : List V} {ps : List Syl} (h : Sys K H vs ps) : StD K H vs ps := pr_mono (fun _ _ ⟨p, e, h⟩ H' n => by
  subst e
  exact .tup (nx_t n h) (.cons (.str _) (.cons (.int _) .nil))) h
theorem erase_perm {α : Type} : ∀ (l : List α) (i : Nat) (h : i < l.length), (l[i] :: l.eraseIdx i).Perm l
  | x :: l, 0, _ => .refl _
  | x :: l, i + 1, h => by
    have := erase_perm l i (by simpa using h)
    exact (List.Perm.swap _ _ _).trans (this.cons x)
section
variable {P : Program} {w : World} {K : PySem.W.Frag} {mg : Str → Option Value} {base : Heap}
/-! ### things mixed -/
def spMix (K : PySem.W.Frag) : Sp := fun vs H Q _ => ∃ (d c : Addr) (b : Bool) (a : Addr) (xs : List V) (α : Type) (_ : DecidableEq α) (_ : Datum α) (as : List α), vs = [.ref d, .ref a] ∧ Dl H d c ∧ SqA K H b a xs ∧ StD K H xs as ∧ Datum.depth α ≤ 50 ∧ xs.length < 100000 ∧
  ∀ l H' ys, Kx (X2 d c) H H' → Dl H' d c → H l = none → H' l = some (.lst ys) → ys.Perm xs → Q (.ref l) H'
theorem ok_law_mixed (C : Fx w K mg base) : FnOk P w K mg base CX0 2 (a_law_mixed K) (fdA K (a_law_mixed K)) ["_law_deal_here", "_law_items"] (spMix K) := by
  refine (F_law_mixed C).ok S_law_mixed (fun vs H Q E h => ?_) (fun cdv A outer s H vs Q E hr h => ?_)
  · obtain ⟨d, c, b, a, xs, α, _, _, as, rfl, _⟩ := h
    rfl
  · obtain ⟨d, c, b, a, xs, α, i1, i2, as, rfl, hD, hq, hst, hdp, hxl, q⟩ := h
    have hdl : Datum.depth (List α) ≤ 60 := by
      have : Datum.depth (List α) = Datum.depth α + 1 := rfl
      omega
    refine ⟨_, (pss_cons (ps_par (i := 2) (j := 3) (by rfl) S_law_mixed.nd rfl rfl (by decide) rfl rfl (pa_cons (pe_callTy call_list_of (by rfl) C.z_list (by decide +kernel) (pa_cons (pv 1) pa_nil)) (pa_cons (pe_lst pa_nil) pa_nil)) (by rfl))
      (pss_cons (ps_while PassesOwn.never (pt_cmpR (op_neT (α := List α) hr.units hdl) (pv 2) (pe_lst pa_nil) (nomark _))
        (pss_one (ps_expr (pe_bm PySem.F.plainAttrs_list PySem.F.slot_list_append PySem.F.type_list_append mt_append (pv 3) (pa_cons (pe_bm PySem.F.plainAttrs_list PySem.F.slot_list_pop PySem.F.type_list_pop mt_popAt (pv 2) (pa_cons (pe_cd (D_law_draw C) (hr.mono (by decide)) (pa_cons (pv 0) (pa_cons (pe_callB call_len_seq (by rfl) C.z_len (by decide +kernel) (pa_cons (pv 2) pa_nil)) pa_nil))) pa_nil)) pa_nil)))))
      (pss_one (ps_ret (pv 3))))), ?_⟩
    have hzs := sizeLine_eq
    refine ⟨_, rfl, a, xs, rfl, sqA_len hq, fun l hl => ?_⟩
    have e1 := ex_new (o := .lst xs) hl
    refine ⟨by show 0 ≤ sizeLine; decide, fun f hf => ?_⟩
    have e2 := Evl.Ex.trans e1 (ex_new (o := .lst []) hf)
    have hlf : l ≠ f := fun z => by rw [← z, upd_same] at hf; cases hf
    have hfH : H f = none := ex_free e1 hf
    refine ⟨_, _, rfl, ?_⟩
    have hl0 := hD.fresh hl
    have hf0 := hD.fresh hfH
    refine ⟨fun m σ H' => ∃ (us gs : List V) (bs : List α), σ = [some (.ref d), some (.ref a), some (.ref l), some (.ref f)] ∧ m = us.length ∧ Kx (X2 d c) H H' ∧ Dl H' d c ∧ H' l = some (.lst us) ∧ H' f = some (.lst gs) ∧ StD K H us bs ∧ (gs ++ us).Perm xs,
      ⟨_, xs, [], as, rfl, rfl, Kx.ofEx e2, hD.ex e2, by rw [upd_ne hlf, upd_same], upd_same .., hst, .refl _⟩, ?_⟩
    rintro m σ H' ⟨us, gs, bs, rfl, rfl, k, hD', hl', hf', hus, hpm⟩
    have hpl := hpm.length_eq
    rw [List.length_append] at hpl
    refine ⟨_, rfl, by show 0 ≤ sizeLine; decide, fun p hp => ?_⟩
    have e3 := ex_new (o := .lst []) hp
    have hN := hD.nx k
    refine ⟨bs, [], .lst (l_of (e3 _ _ hl')) (hus.at (Nx.trans hN (Nx.ofEx e3))), .lst (l_of (upd_same ..)) .nil, _, rfl, ?_⟩
    have hbl := pr_len hus
    cases bs with
    | nil =>
      have hu0 : us = [] := List.length_eq_zero_iff.mp hbl
      subst hu0
      rw [decide_eq_true rfl]
      refine iteF ⟨_, rfl, ?_⟩
      rw [List.append_nil] at hpm
      exact q f _ gs (Kx.trans k (Kx.ofEx e3)) (hD'.ex e3) hfH (e3 _ _ hf') hpm
    | cons b0 bs =>
      have hup : 0 < us.length := by rw [hbl]; simp
      rw [decide_eq_false (by simp)]
      refine iteT ⟨_, fun σ' H2 h => h, ?_⟩
      refine ⟨_, rfl, .inl ⟨rfl, gs, l_of (e3 _ _ hf')⟩, _, rfl, .inl ⟨rfl, us, l_of (e3 _ _ hl')⟩, _, rfl, _, rfl, l, us, rfl, .inl (l_of (e3 _ _ hl')), ?_⟩
      refine ⟨d, c, us.length, rfl, hD'.ex e3, hup, by omega, fun i H4 hi k4 hD4 => ?_⟩
      have hl4 : H4 l = some (.lst us) := k4 _ _ hl0 (e3 _ _ hl')
      have hf4 : H4 f = some (.lst gs) := k4 _ _ hf0 (e3 _ _ hf')
      refine ⟨l, us, (i : Int), i, us[i], rfl, rfl, hl4, by omega, by omega, (ixN_seq (ixN_at hi)).1, List.getElem?_eq_getElem hi, ?_⟩
      refine ⟨f, gs, us[i], rfl, rfl, by rw [upd_ne hlf.symm]; exact hf4, by omega, ?_⟩
      refine ⟨us.length - 1, by omega, us.eraseIdx i, gs ++ [us[i]], (b0 :: bs).eraseIdx i, rfl, (by rw [List.length_eraseIdx_of_lt hi]), ?_, ?_, ?_, upd_same .., pr_erase i hus, ?_⟩
      · exact (Kx.trans k (Kx.trans (Kx.ofEx e3) k4)).to (.inr hl) |>.to (.inr hfH)
      · obtain ⟨ns, m, h1, h2, r⟩ := hD4
        have n1 : d ≠ l := fun z => hl0 (.inl z.symm)
        have n2 : d ≠ f := fun z => hf0 (.inl z.symm)
        have n3 : c ≠ l := fun z => hl0 (.inr z.symm)
        have n4 : c ≠ f := fun z => hf0 (.inr z.symm)
        exact ⟨ns, m, by rw [upd_ne n2, upd_ne n1]; exact h1, by rw [upd_ne n4, upd_ne n3]; exact h2, r⟩
      · rw [upd_ne hlf, upd_same]
      · refine List.Perm.trans ?_ hpm
        rw [List.append_assoc]
        refine List.Perm.append_left gs ?_
        exact erase_perm us i hi
theorem D_law_mixed (C : Fx w K mg base) : Dn P w K mg base 2 (a_law_mixed K) (fdA K (a_law_mixed K)) ["_law_deal_here", "_law_items"] (spMix K) "_law_mixed" := ⟨ok_law_mixed C, C.g_law_mixed, (F_law_mixed C).kp, B_law_mixed C⟩
end
end K91
/-! Q3 -/
namespace K91
open PySem PySem.Spec PyProof.Rows L2
open PySem.W (Datum)
open C8 (InsC call_isC pss_cut)
theorem dec_of {p : Prop} {i : Decidable p} (h : @decide p i = true) : p := by
  cases i with
  | isTrue t => exact t
  | isFalse _ => cases h
theorem of_dec {p : Prop} {i : Decidable p} (h : p) : @decide p i = true := by
  cases i with
  | isTrue _ => rfl
  | isFalse n => exact absurd h n
/-- free by a list of pairs -/
def frP (ps : List (Str × Str)) (a b : Str) : Bool := decide ((a, b) ∈ ps) || decide ((b, a) ∈ ps)
theorem frP_sym (ps : List (Str × Str)) (a b : Str) : frP ps a b = frP ps b a := by
  unfold frP
  rw [Bool.or_comm]
/-- the list of pairs at p stays where no deal stands -/
theorem sqa_kx {K : PySem.W.Frag} {X : Addr → Prop} {H H' : Hp} {b : Bool} {a : Addr} {xs : List V} (k : Kx X H H') (n : ¬ X a) (h : SqA K H b a xs) : SqA K H' b a xs := by
  cases b with
  | true =>
    rcases h with (z | ⟨o, z⟩) | z
    · exact .inl (.inl (k _ _ n z))
    · exact .inl (.inr ⟨o, k _ _ n z⟩)
    · exact .inr z
  | false =>
    rcases h with (z | ⟨o, z⟩) | z
    · exact .inl (.inl (k _ _ n z))
    · exact .inl (.inr ⟨o, k _ _ n z⟩)
    · exact .inr z
section
variable {P : Program} {w : World} {K : PySem.W.Frag} {mg : Str → Option Value} {base : Heap}
def spFree (K : PySem.W.Frag) : Sp := fun vs H Q _ => ∃ (b : Bool) (p : Addr) (zs : List V) (ps : List (Str × Str)) (x y : Str), vs = [.ref p, .str x, .str y] ∧ SqA K H b p zs ∧ Paired (PrT K H) zs ps ∧ ∀ H', Evl.Ex H H' → Q (.bl (frP ps x y)) H'
theorem ok_law_is_free (C : Fx w K mg base) : FnOk P w K mg base CX0 1 (a_law_is_free K) (fdA K (a_law_is_free K)) ["_law_pairs_here", "_law_one", "_law_other"] (spFree K) := by
  refine (F_law_is_free C).ok S_law_is_free (fun vs H Q E h => ?_) (fun cdv A outer s H vs Q E hr h => ?_)
  · obtain ⟨b, p, zs, ps, x, y, rfl, _⟩ := h
    rfl
  · obtain ⟨b, p, zs, ps, x, y, rfl, hp, hz, q⟩ := h
    refine ⟨_, (pss_one (ps_ret (pe_or (pe_cmpR (op_inT (α := Str × Str) hr.units (by decide)) (pe_tup (pa_cons (pv 1) (pa_cons (pv 2) pa_nil))) (pv 0) (by rfl)) (pe_one (pe_cmpR (op_inT (α := Str × Str) hr.units (by decide)) (pe_tup (pa_cons (pv 2) (pa_cons (pv 1) pa_nil))) (pv 0) (by rfl)))))), ?_⟩
    have key : ∀ {H' : Hp}, Evl.Ex H H' → Paired (fun v z => Dp K H' v (Datum.toD z)) zs ps := fun e => pr_mono (fun _ _ ⟨p, e1, h⟩ => by
      subst e1
      exact .tup (Evl.ex_t e h) (.cons (.str _) (.cons (.str _) .nil))) hz
    refine ⟨_, rfl, _, rfl, by show 2 ≤ sizeLine; decide, fun t1 ht1 => ?_⟩
    have e1 := ex_new (o := .tup [.str x, .str y]) ht1
    refine ⟨_, rfl, b, p, zs, (x, y), ps, rfl, .tup (t_of (upd_same ..)) (.cons (.str _) (.cons (.str _) .nil)), sqA_ex e1 hp, key e1, _, rfl, ?_⟩
    have same : ∀ {p : Prop} (i1 i2 : Decidable p), @decide p i1 = @decide p i2 := fun i1 i2 => by congr
    refine ite2 (fun e => ?_) (fun e => ?_)
    · have h1 : (x, y) ∈ ps := dec_of e
      have e0 : frP ps x y = true := by unfold frP; rw [decide_eq_true h1]; rfl
      rw [e0] at q
      exact q _ e1
    · have h1 : ¬ (x, y) ∈ ps := fun z => e (of_dec z)
      refine ⟨_, rfl, _, rfl, by show 2 ≤ sizeLine; decide, fun t2 ht2 => ?_⟩
      have e2 := Evl.Ex.trans e1 (ex_new (o := .tup [.str y, .str x]) ht2)
      refine ⟨_, rfl, b, p, zs, (y, x), ps, rfl, .tup (t_of (upd_same ..)) (.cons (.str _) (.cons (.str _) .nil)), sqA_ex e2 hp, key e2, ?_⟩
      have e0 : frP ps x y = decide ((y, x) ∈ ps) := by unfold frP; rw [decide_eq_false h1]; rfl
      rw [e0] at q
      exact Eq.mp (congrArg (fun b => Q (.bl b) _) (same _ _)) (q _ e2)
theorem D_law_is_free (C : Fx w K mg base) : Dn P w K mg base 1 (a_law_is_free K) (fdA K (a_law_is_free K)) ["_law_pairs_here", "_law_one", "_law_other"] (spFree K) "_law_is_free" := ⟨ok_law_is_free C, C.g_law_is_free, (F_law_is_free C).kp, B_law_is_free C⟩
/-! ### counts -/
def spCnt (K : PySem.W.Frag) : Sp := fun vs H Q _ => ∃ (d c : Addr), vs = [.ref d] ∧ Dl H d c ∧ ∀ (i : Int) H', Kx (X2 d c) H H' → Dl H' d c → Q (.int i) H'
theorem ok_law_count (C : Fx w K mg base) : FnOk P w K mg base CX0 2 (a_law_count K) (fdA K (a_law_count K)) ["_law_deal_here"] (spCnt K) := by
  refine (F_law_count C).ok S_law_count (fun vs H Q E h => ?_) (fun cdv A outer s H vs Q E hr h => ?_)
  · obtain ⟨d, c, rfl, _⟩ := h
    rfl
  · obtain ⟨d, c, rfl, hD, q⟩ := h
    refine ⟨_, (pss_cons (ps_set (i := 1) S_law_count.nd rfl (Or.inl rfl) (pe_cd (D_law_draw C) (hr.mono (by decide)) (pa_cons (pv 0) (pa_cons pe_int pa_nil))))
      (pss_cons (ps_if (pt_cmpR op_eq (pv 1) pe_int (nomark _))
        (pss_one (ps_ret (pe_ix ix_list (pe_lst (pa_cons pe_int (pa_cons (pe_op op_pow pe_int pe_int) (pa_cons (pe_op op_sub pe_int (pe_op op_pow pe_int pe_int)) (pa_cons pe_int (pa_cons pe_int (pa_cons (pe_op op_sub pe_int pe_int) pa_nil))))))) (pe_cd (D_law_draw C) (hr.mono (by decide)) (pa_cons (pv 0) (pa_cons pe_int pa_nil))) (fun _ _ => rfl))))
        pss_nil)
      (pss_one (ps_ret (pe_ix ix_list (pe_lst (pa_cons pe_int (pa_cons (pe_op op_sub pe_int pe_int) (pa_cons pe_int (pa_cons (pe_op op_sub pe_int pe_int) (pa_cons pe_int (pa_cons (pe_op op_sub pe_int pe_int) (pa_cons pe_int (pa_cons (pe_op op_sub pe_int pe_int) pa_nil))))))))) (pe_op op_mod (pv 1) pe_int) (fun _ _ => rfl)))))), ?_⟩
    refine ⟨_, rfl, d, c, 16, rfl, hD, by decide, by decide, fun i H1 hi k1 hD1 => ?_⟩
    refine ⟨_, rfl, rfl, _, rfl, ite2 (fun e => ?_) (fun e => ?_)⟩
    · refine ⟨10, 18, rfl, rfl, ⟨by decide, by decide, by decide⟩, 10, 18, rfl, rfl, ⟨by decide, by decide, by decide⟩, 0, _, rfl, rfl, 0, 60, rfl, rfl, by show 6 ≤ sizeLine; decide, fun p hp => ?_⟩
      have e2 := ex_new (o := .lst (([0, 10 ^ 18, 0 - 10 ^ 18, 6, 12, 0 - 60] : List Int).map V.int)) hp
      have hD2 := hD1.ex e2
      refine ⟨_, rfl, d, c, 6, rfl, hD2, by decide, by decide, fun j H3 hj k3 hD3 => ?_⟩
      have hp3 : H3 p = some (.lst (([0, 10 ^ 18, 0 - 10 ^ 18, 6, 12, 0 - 60] : List Int).map V.int)) := k3 _ _ (hD1.fresh hp) (upd_same ..)
      refine ⟨p, _, (j : Int), .int (([0, 10 ^ 18, 0 - 10 ^ 18, 6, 12, 0 - 60] : List Int)[j]'(by simpa using hj)), rfl, rfl, l_of hp3, atI_nat (by rw [List.getElem?_map, List.getElem?_eq_getElem (by simpa using hj)]; rfl), ?_⟩
      exact q _ H3 (Kx.trans k1 (Kx.trans (Kx.ofEx e2) k3)) hD3
    · refine ⟨0, 1, rfl, rfl, 0, 1, rfl, rfl, 0, 2, rfl, rfl, 0, 4, rfl, rfl, by show 8 ≤ sizeLine; decide, fun p hp => ?_⟩
      have e2 := ex_new (o := .lst (([1, 0 - 1, 1, 0 - 1, 2, 0 - 2, 3, 0 - 4] : List Int).map V.int)) hp
      have hD2 := hD1.ex e2
      have hj : i % 8 < 8 := Nat.mod_lt _ (by decide)
      refine ⟨_, rfl, (i : Int), 8, rfl, rfl, by show (0 : Int) < 8; decide, p, _, ((i % 8 : Nat) : Int), .int (([1, 0 - 1, 1, 0 - 1, 2, 0 - 2, 3, 0 - 4] : List Int)[i % 8]'(by simpa using hj)), rfl, ?_, l_of (upd_same ..), atI_nat (show (([1, 0 - 1, 1, 0 - 1, 2, 0 - 2, 3, 0 - 4] : List Int).map V.int)[i % 8]? = _ by rw [List.getElem?_map, List.getElem?_eq_getElem (by simpa using hj)]; rfl), ?_⟩
      · show V.int ((i : Int) % 8) = _
        congr 1
      · exact q _ _ (Kx.trans k1 (Kx.ofEx e2)) hD2
theorem D_law_count (C : Fx w K mg base) : Dn P w K mg base 2 (a_law_count K) (fdA K (a_law_count K)) ["_law_deal_here"] (spCnt K) "_law_count" := ⟨ok_law_count C, C.g_law_count, (F_law_count C).kp, B_law_count C⟩
end
end K91
/-! Q4 -/
namespace K91
open PySem PySem.Spec PyProof.Rows L2
open PySem.W (Datum)
open C8 (InsC call_isC pss_cut)
section
variable {P : Program} {w : World} {K : PySem.W.Frag} {mg : Str → Option Value} {base : Heap}
theorem Dl.to {H : Hp} {d c p : Addr} {o : HO} (h : Dl H d c) (hp : ¬ X2 d c p) : Dl (upd H p o) d c := by
  obtain ⟨ns, m, h1, h2, r⟩ := h
  exact ⟨ns, m, by rw [upd_ne (fun z => hp (.inl z.symm))]; exact h1, by rw [upd_ne (fun z => hp (.inr z.symm))]; exact h2, r⟩
def spRow (K : PySem.W.Frag) : Sp := fun vs H Q _ => ∃ (d c : Addr) (kk : Addr) (ks : List Str) (n : Nat), vs = [.ref d, .ref kk, .int (n : Nat)] ∧ Dl H d c ∧ SqA K H true kk (ks.map V.str) ∧ ¬ X2 d c kk ∧ 0 < ks.length ∧ ks.length < 1000 ∧ n < 1000 ∧
  ∀ l H' us r, Kx (X2 d c) H H' → Dl H' d c → H l = none → H' l = some (.lst us) → Sys K H' us r → (∀ y ∈ r, y.1 ∈ ks) → r.length = n → Q (.ref l) H'
theorem ok_law_row (C : Fx w K mg base) : FnOk P w K mg base CX0 3 (a_law_row K) (fdA K (a_law_row K)) ["_law_deal_here", "_law_kinds", "_law_many"] (spRow K) := by
  refine (F_law_row C).ok S_law_row (fun vs H Q E h => ?_) (fun cdv A outer s H vs Q E hr h => ?_)
  · obtain ⟨d, c, kk, ks, n, rfl, _⟩ := h
    rfl
  · obtain ⟨d, c, kk, ks, n, rfl, hD, hkk, hnk, hk0, hk1, hn, q⟩ := h
    refine ⟨_, (pss_cons (ps_set (i := 3) S_law_row.nd rfl (Or.inl rfl) (pe_lst pa_nil))
      (pss_cons (ps_for PassesOwn.never rfl (pi_range1 (by rfl) C.z_range (pa_cons (pv 2) pa_nil)) (pg_name (i := 4) S_law_row.nd rfl (Or.inl rfl))
        (pss_cons (ps_par (i := 5) (j := 6) (by rfl) S_law_row.nd rfl rfl (by decide) rfl rfl (pa_cons (pe_ix ix_list (pv 1) (pe_cd (D_law_draw C) (hr.mono (by decide)) (pa_cons (pv 0) (pa_cons (pe_callB call_len_seq (by rfl) C.z_len (by decide +kernel) (pa_cons (pv 1) pa_nil)) pa_nil))) (fun _ _ => rfl)) (pa_cons (pe_cd (D_law_count C) (hr.mono (by decide)) (pa_cons (pv 0) pa_nil)) pa_nil)) (by rfl))
        (pss_cut (ps_if (PW.pt (pw_and (pt_cmpR (op_neT (α := List (Str × Int)) hr.units (by decide)) (pv 3) (pe_lst pa_nil) (nomark _)) (pw_and1 (pt_cmpR op_eq (pe_cd (D_law_draw C) (hr.mono (by decide)) (pa_cons (pv 0) (pa_cons pe_int pa_nil))) pe_int (nomark _)))))
          (pss_cons (ps_asg (pe_ix ix_list (pv 3) (pe_cd (D_law_draw C) (hr.mono (by decide)) (pa_cons (pv 0) (pa_cons (pe_callB call_len_seq (by rfl) C.z_len (by decide +kernel) (pa_cons (pv 3) pa_nil)) pa_nil))) (fun _ _ => rfl)) (pg_tup rfl (pgs_cons (pg_name (i := 5) S_law_row.nd rfl (Or.inl rfl)) (pgs_cons (pg_name (i := 6) S_law_row.nd rfl (Or.inl rfl)) pgs_nil))))
          (pss_one (ps_set (i := 6) S_law_row.nd rfl (Or.inl rfl) (pe_op op_sub pe_int (pv 6)))))
          pss_nil)
        (pss_one (ps_expr (pe_bm PySem.F.plainAttrs_list PySem.F.slot_list_append PySem.F.type_list_append mt_append (pv 3) (pa_cons (pe_tup (pa_cons (pv 5) (pa_cons (pv 6) pa_nil))) pa_nil)))))))
      (pss_one (ps_ret (pv 3))))), ?_⟩
    have hzs := sizeLine_eq
    refine ⟨by show 0 ≤ sizeLine; decide, fun f hf => ?_⟩
    have e0 := ex_new (o := .lst []) hf
    have hf0 := hD.fresh hf
    refine ⟨_, rfl, (n : Int), rfl, by omega, by omega, ?_⟩
    rw [Int.toNat_natCast]
    refine for_range (fun i σ H' => ∃ v4 v5 v6 us r, σ = [some (.ref d), some (.ref kk), some (.int (n : Nat)), some (.ref f), v4, v5, v6] ∧ Kx (X2 d c) H H' ∧ Dl H' d c ∧ H' f = some (.lst us) ∧ Sys K H' us r ∧ (∀ y ∈ r, y.1 ∈ ks) ∧ r.length = i)
      ⟨none, none, none, [], [], rfl, Kx.ofEx e0, hD.ex e0, upd_same .., .nil, fun _ h => (nomatch h), rfl⟩ ?_ ?_
    · rintro i σ H1 hi ⟨v4, v5, v6, us, r, rfl, k1, hD1, hf1, hs1, hrk, hrl⟩
      have hul := pr_len hs1
      have hkk1 : SqA K H1 true kk (ks.map V.str) := sqa_kx k1 hnk hkk
      -- kind, count
      refine ⟨_, rfl, _, rfl, _, rfl, kk, _, rfl, .inl hkk1, ?_⟩
      refine ⟨d, c, ks.length, by rw [List.length_map]; rfl, hD1, hk0, by omega, fun j H2 hj k2 hD2 => ?_⟩
      have hkk2 : SqA K H2 true kk (ks.map V.str) := sqa_kx k2 hnk hkk1
      refine ⟨kk, _, (j : Int), .str ks[j], rfl, rfl, hkk2, atI_nat (by rw [List.getElem?_map, List.getElem?_eq_getElem hj]; rfl), ?_⟩
      refine ⟨_, rfl, d, c, rfl, hD2, fun cnt H3 k3 hD3 => ?_⟩
      refine ⟨_, _, rfl, ?_⟩
      have k13 := Kx.trans k1 (Kx.trans k2 k3)
      have k23 := Kx.trans k2 k3
      have hf3 : H3 f = some (.lst us) := k23 _ _ hf0 hf1
      have hs3 := sys_nx (hD1.nx k23) hs1
      refine ⟨fun σ H' => ∃ k cn, σ = [some (.ref d), some (.ref kk), some (.int (n : Nat)), some (.ref f), some (.int ((0 : Int) + (i : Nat))), some (.str k), some (.int cn)] ∧ k ∈ ks ∧ Kx (X2 d c) H H' ∧ Dl H' d c ∧ H' f = some (.lst us) ∧ Sys K H' us r, ?_, ?_⟩
      · -- an earlier one undone
        refine ⟨_, rfl, by show 0 ≤ sizeLine; decide, fun p hp => ?_⟩
        have e4 := ex_new (o := .lst []) hp
        refine ⟨r, [], .lst (l_of (e4 _ _ hf3)) (syl_dp (sys_ex e4 hs3)), .lst (l_of (upd_same ..)) .nil, _, rfl, ?_⟩
        cases r with
        | nil =>
          rw [decide_eq_true rfl]
          exact iteF ⟨_, _, rfl, List.getElem_mem hj, Kx.trans k13 (Kx.ofEx e4), hD3.ex e4, e4 _ _ hf3, sys_ex e4 hs3⟩
        | cons y0 r =>
          rw [decide_eq_false (by simp)]
          refine iteT ?_
          refine ⟨_, rfl, d, c, 4, rfl, hD3.ex e4, by decide, by decide, fun j2 H5 hj2 k5 hD5 => ?_⟩
          have k15 := Kx.trans k13 (Kx.trans (Kx.ofEx e4) k5)
          have k35 := Kx.trans (Kx.ofEx e4) k5
          have hf5 : H5 f = some (.lst us) := k5 _ _ hf0 (e4 _ _ hf3)
          have hs5 := sys_nx (hD3.nx k35) hs3
          refine ⟨rfl, _, rfl, ite2 (fun e => ?_) (fun e => ?_)⟩
          · refine ⟨_, rfl, _, rfl, _, rfl, f, us, rfl, .inl (l_of hf5), ?_⟩
            refine ⟨d, c, us.length, rfl, hD5, by rw [hul]; simp, by rw [hul, hrl]; omega, fun j3 H6 hj3 k6 hD6 => ?_⟩
            have hf6 : H6 f = some (.lst us) := k6 _ _ hf0 hf5
            have hs6 := sys_nx (hD5.nx k6) hs5
            obtain ⟨y, hy, py, hpe, hpy⟩ := pr_get' hs6 (List.getElem?_eq_getElem hj3)
            refine ⟨f, us, (j3 : Int), us[j3], rfl, rfl, l_of hf6, atI_nat (List.getElem?_eq_getElem hj3), ?_⟩
            rw [hpe]
            refine ⟨py, _, rfl, hpy, rfl, _, _, rfl, _, _, rfl, rfl, ?_⟩
            refine ⟨_, rfl, 0, y.2, rfl, rfl, ?_⟩
            exact ⟨_, _, rfl, hrk y (List.mem_of_getElem? hy), Kx.trans k15 k6, hD6, hf6, hs6⟩
          · exact ⟨_, _, rfl, List.getElem_mem hj, k15, hD5, hf5, hs5⟩
      · rintro σ' H' ⟨k, cn, rfl, hkm, kk', hD', hf', hs'⟩
        refine ⟨_, rfl, .inl ⟨rfl, us, l_of hf'⟩, _, rfl, _, rfl, by show 2 ≤ sizeLine; decide, fun t1 ht1 => ?_⟩
        have e7 := ex_new (o := .tup [.str k, .int cn]) ht1
        have hft : f ≠ t1 := fun z => by rw [← z, hf'] at ht1; cases ht1
        refine ⟨f, us, .ref t1, rfl, rfl, e7 _ _ hf', by omega, ?_⟩
        have hN : Nx H' (upd (upd H' t1 (.tup [.str k, .int cn])) f (.lst (us ++ [.ref t1]))) := Nx.upd (Nx.ofEx e7) (.inr ⟨_, hf'⟩)
        refine ⟨_, _, _, us ++ [.ref t1], r ++ [(k, cn)], rfl, (Kx.trans kk' (Kx.ofEx e7)).to (.inr hf), (hD'.ex e7).to hf0, upd_same .., pr_app (sys_nx hN hs') (.cons ⟨t1, rfl, t_of (by rw [upd_ne (fun z => hft z.symm), upd_same])⟩ .nil), ?_, by simp [hrl]⟩
        intro y hy
        rcases List.mem_append.mp hy with h | h
        · exact hrk y h
        · rw [List.mem_singleton] at h
          rw [h]
          exact hkm
    · rintro σ H' ⟨v4, v5, v6, us, r, rfl, k, hD', hf', hs', hrk, hrl⟩
      exact ⟨_, rfl, q f H' us r k hD' hf hf' hs' hrk hrl⟩
theorem D_law_row (C : Fx w K mg base) : Dn P w K mg base 3 (a_law_row K) (fdA K (a_law_row K)) ["_law_deal_here", "_law_kinds", "_law_many"] (spRow K) "_law_row" := ⟨ok_law_row C, C.g_law_row, (F_law_row C).kp, B_law_row C⟩
end
end K91
/-! Q5 -/
namespace K91
open PySem PySem.Spec PyProof.Rows L2
section
variable {P : Program} {w : World} {K : PySem.W.Frag} {mg : Str → Option Value} {base : Heap}
theorem cut_ints (ns : List Int) (lo hi : Option Int) : ∃ ms : List Int, cutV (ns.map V.int) lo hi = ms.map V.int ∧ ms.length ≤ ns.length := by
  refine ⟨(ns.drop (HT.sIx (ns.map V.int).length 0 lo)).take (HT.sIx (ns.map V.int).length (ns.map V.int).length hi - HT.sIx (ns.map V.int).length 0 lo), ?_, ?_⟩
  · unfold cutV
    rw [List.map_take, List.map_drop]
  · rw [List.length_take, List.length_drop]
    omega
def spDeal (K : PySem.W.Frag) : Sp := fun vs H Q _ => ∃ (a : Addr) (ns : List Int), vs = [.ref a, .int 0] ∧ SqL K H a (ns.map V.int) ∧ ns.length < 100 ∧ ∀ d c H', Evl.Ex H H' → H d = none → H c = none → Dl H' d c → Q (.ref d) H'
theorem ok_law_deal (C : Fx w K mg base) : FnOk P w K mg base CX0 1 (a_law_deal K) (fdA K (a_law_deal K)) ["_law_script", "_law_base"] (spDeal K) := by
  refine (F_law_deal C).ok S_law_deal (fun vs H Q E h => ?_) (fun cdv A outer s H vs Q E hr h => ?_)
  · obtain ⟨a, ns, rfl, _⟩ := h
    rfl
  · obtain ⟨a, ns, rfl, ha, hnl, q⟩ := h
    refine ⟨_, (pss_cons (ps_setLc (i := 2) (own := [("_law_cell", 4)]) (g := gName 4) (tt := tYes) (by rfl) S_law_deal.nd rfl rfl (sw_true rfl rfl rfl (by decide +kernel)) (pi_any (pe_slice sl_list (pv 0) (po_some (pv 1)) (po_some pe_int))) (blkOk_by (own := [("_law_cell", 4)]) (N := ["_law_script", "_law_base", "_law_cells", "_law_mixed_here", "_law_cell"]) (sc := defScope st_law_deal) (by decide +kernel)) (fun _ _ _ _ _ => (pg_name (i := 4) S_law_deal.nd rfl (Or.inl rfl))) (fun _ _ _ _ _ => pts_nil) (fun _ _ _ _ _ => (pe_callB (call_max2 rfl) (by rfl) C.z_max (by decide +kernel) (pa_cons (pv 4) (pa_cons (pe_op op_sub pe_int (pv 4)) pa_nil)))))
      (pss_cons (ps_set (i := 3) S_law_deal.nd rfl (Or.inl rfl) (pe_op op_add pe_int (pe_op op_mul pe_int (pv 1))))
      (pss_cons (ps_for PassesOwn.never rfl (pi_any (pv 2)) (pg_name (i := 4) S_law_deal.nd rfl (Or.inl rfl))
        (pss_one (ps_set (i := 3) S_law_deal.nd rfl (Or.inl rfl) (pe_op op_mod (pe_op op_add (pe_op op_mul (pv 3) pe_int) (pe_op op_mod (pv 4) pe_int)) pe_int))))
      (pss_one (ps_ret (pe_lst (pa_cons (pe_revL (pe_lc (own := [("_law_cell", 4)]) (g := gName 4) (tt := _) rfl S_law_deal.nd (pi_any (pv 2)) (blkOk_by (own := [("_law_cell", 4)]) (N := ["_law_script", "_law_base", "_law_cells", "_law_mixed_here", "_law_cell"]) (sc := defScope st_law_deal) (by decide +kernel)) (fun _ _ _ _ _ => (pg_name (i := 4) S_law_deal.nd rfl (Or.inl rfl))) (fun _ _ _ _ _ => (pts_one (pt_cmpR op_ge (pv 4) (pe_op op_pow pe_int pe_int) (nomark _)))) (fun _ _ _ _ _ => (pv 4)))) (pa_cons (pv 3) pa_nil)))))))), ?_⟩
    have hzs := sizeLine_eq
    obtain ⟨ms, hms, hml⟩ := cut_ints ns (some 0) (some 63)
    refine ⟨_, rfl, _, rfl, 0, rfl, 63, rfl, a, _, rfl, ha, fun p hp => ?_⟩
    rw [hms]
    have e1 := ex_new (o := .lst (ms.map V.int)) hp
    refine ⟨true, p, _, rfl, l_of (upd_same ..), fun D hD => ?_⟩
    have hpD : p ≠ D := fun z => by rw [← z, upd_same] at hD; cases hD
    have hDH := ex_free e1 hD
    refine lcG (xs := ms.map V.int) (fun i H' => ∃ cs : List Int, H' = upd (upd H p (.lst (ms.map V.int))) D (.lst (cs.map V.int)) ∧ cs.length = i ∧ ∀ z ∈ cs, 0 ≤ z) ⟨[], rfl, rfl, fun _ h => (nomatch h)⟩ (fun i H' _ ⟨_, e, _⟩ => by rw [e]; exact l_of (by rw [upd_ne hpD, upd_same])) ?_ ?_
    · rintro i v H' hv ⟨cs, rfl, hcl, hc0⟩
      rw [List.getElem?_map] at hv
      obtain ⟨z, hz, rfl⟩ := Option.map_eq_some_iff.mp hv
      have hil : i < ms.length := (List.getElem?_eq_some_iff.mp hz).1
      refine ⟨rfl, _, rfl, _, rfl, 0, z, rfl, rfl, z, 0 - z, rfl, cs.map V.int, upd_same .., by rw [List.length_map]; omega, cs ++ [if 0 - z > z then 0 - z else z], ?_, by simp [hcl], ?_⟩
      · rw [upd_upd, List.map_append]
        rfl
      · intro x hx
        rcases List.mem_append.mp hx with h | h
        · exact hc0 x h
        · rw [List.mem_singleton] at h
          rw [h]
          split <;> omega
    · rintro H' ⟨cs, rfl, hcl, hc0⟩
      rw [List.length_map] at hcl
      have eD : Evl.Ex H (upd (upd H p (.lst (ms.map V.int))) D (.lst (cs.map V.int))) := Evl.Ex.trans e1 (ex_new hD)
      obtain ⟨H1, hH1⟩ : ∃ H1, H1 = upd (upd H p (.lst (ms.map V.int))) D (.lst (cs.map V.int)) := ⟨_, rfl⟩
      rw [← hH1] at eD ⊢
      have hDc : H1 D = some (.lst (cs.map V.int)) := by rw [hH1]; exact upd_same ..
      refine ⟨_, rfl, 7, 0, rfl, rfl, .inl ⟨by decide, by decide⟩, 86028121, 7 * 0, rfl, rfl, ?_⟩
      refine ⟨_, rfl, true, D, _, rfl, l_of hDc, ?_⟩
      refine for_any (xs := cs.map V.int) (fun i σ H' => ∃ (m : Int) (v4 : Option V), σ = [some (.ref a), some (.int 0), some (.ref D), some (.int m), v4] ∧ H' = H1 ∧ 0 ≤ m ∧ m < 2147483647) ⟨86028121, none, rfl, rfl, by decide, by decide⟩ (fun i σ H' _ ⟨_, _, _, e, _⟩ => by rw [e]; exact l_of hDc) ?_ ?_
      · rintro i x σ H' hx ⟨m, v4, rfl, rfl, hm0, hm1⟩
        rw [List.getElem?_map] at hx
        obtain ⟨z, hz, rfl⟩ := Option.map_eq_some_iff.mp hx
        refine ⟨_, rfl, m, 16807, rfl, rfl, .inr ⟨by decide, by decide⟩, _, rfl, z, 2147483629, rfl, rfl, by show (0 : Int) < 2147483629; decide, m * 16807, z % 2147483629, rfl, rfl, _, 2147483647, rfl, rfl, by show (0 : Int) < 2147483647; decide, ?_⟩
        exact ⟨_, _, rfl, rfl, Int.emod_nonneg _ (by decide), Int.emod_lt_of_pos _ (by decide)⟩
      · rintro σ Hq ⟨m, v4, rfl, hqe, hm0, hm1⟩
        rw [hqe]
        refine ⟨_, rfl, true, D, _, rfl, l_of hDc, fun E2 hE2 => ?_⟩
        have hE2D : D ≠ E2 := fun z => by rw [← z, hDc] at hE2; cases hE2
        refine lcG (xs := cs.map V.int) (fun i H' => ∃ bs : List Int, H' = upd H1 E2 (.lst (bs.map V.int)) ∧ bs.length ≤ i ∧ ∀ z ∈ bs, 0 ≤ z) ⟨[], rfl, Nat.le_refl _, fun _ h => (nomatch h)⟩ (fun i H' _ ⟨_, e, _⟩ => by rw [e]; exact l_of (by rw [upd_ne hE2D]; exact hDc)) ?_ ?_
        · rintro i v H' hv ⟨bs, rfl, hbl, hb0⟩
          rw [List.getElem?_map] at hv
          obtain ⟨z, hz, rfl⟩ := Option.map_eq_some_iff.mp hv
          have hil : i < cs.length := (List.getElem?_eq_some_iff.mp hz).1
          refine ⟨rfl, _, rfl, 10, 18, rfl, rfl, ⟨by decide, by decide, by decide⟩, z, 10 ^ 18, rfl, rfl, _, rfl, ite2 (fun e => ?_) (fun e => ?_)⟩
          · refine ⟨_, rfl, bs.map V.int, upd_same .., by rw [List.length_map]; omega, bs ++ [z], ?_, by simp; omega, ?_⟩
            · rw [upd_upd, List.map_append]
              rfl
            · intro x hx
              rcases List.mem_append.mp hx with h | h
              · exact hb0 x h
              · rw [List.mem_singleton] at h
                rw [h]
                exact hc0 z (List.mem_of_getElem? hz)
          · exact ⟨bs, rfl, by omega, hb0⟩
        · rintro H' ⟨bs, rfl, hbl, hb0⟩
          rw [List.length_map] at hbl
          refine ⟨E2, _, rfl, l_of (upd_same ..), fun c hc => ?_⟩
          have e3 := Evl.Ex.trans eD (ex_new (o := .lst (bs.map V.int)) hE2)
          refine ⟨_, rfl, by show 2 ≤ sizeLine; decide, fun d hd => ?_⟩
          have e4 := Evl.Ex.trans e3 (ex_new (o := .lst (bs.map V.int).reverse) hc)
          have hcd : c ≠ d := fun z => by rw [← z, upd_same] at hd; cases hd
          refine q d c _ (Evl.Ex.trans e4 (ex_new hd)) (ex_free e4 hd) (ex_free e3 hc) ⟨bs.reverse, m, upd_same .., by rw [upd_ne hcd, upd_same, List.map_reverse], fun z hz => hb0 z (List.mem_reverse.mp hz), hm0, hm1, by rw [List.length_reverse]; omega, hcd⟩
theorem D_law_deal (C : Fx w K mg base) : Dn P w K mg base 1 (a_law_deal K) (fdA K (a_law_deal K)) ["_law_script", "_law_base"] (spDeal K) "_law_deal" := ⟨ok_law_deal C, C.g_law_deal, (F_law_deal C).kp, B_law_deal C⟩
end
end K91
/-! Q6 -/
namespace K91
open PySem PySem.Spec PyProof.Rows L2
open PySem.W (Datum)
open C8 (InsC call_isC pss_cut)
theorem frP_eq (ps : List (Str × Str)) : frP ps = frL ps := by
  funext a b
  unfold frP frL
  rw [Bool.eq_iff_iff]
  simp
theorem pr_perm {α β : Type} {R : α → β → Prop} {xs xs' : List α} (h : xs.Perm xs') : ∀ {ys : List β}, Paired R xs ys → ∃ ys', Paired R xs' ys' ∧ ys.Perm ys' := by
  induction h with
  | nil => intro ys p; cases p; exact ⟨[], .nil, .refl _⟩
  | cons x _ ih =>
    intro ys p
    cases p with
    | cons r t =>
      obtain ⟨zs, h1, h2⟩ := ih t
      exact ⟨_, .cons r h1, h2.cons _⟩
  | swap x y l =>
    intro ys p
    cases p with
    | cons r t =>
      cases t with
      | cons r2 t => exact ⟨_, .cons r2 (.cons r t), .swap ..⟩
  | trans _ _ ih1 ih2 =>
    intro ys p
    obtain ⟨zs, h1, h2⟩ := ih1 p
    obtain ⟨ws, h3, h4⟩ := ih2 h1
    exact ⟨ws, h3, h2.trans h4⟩
section
variable {P : Program} {w : World} {K : PySem.W.Frag} {mg : Str → Option Value} {base : Heap}
def spPairs (K : PySem.W.Frag) : Sp := fun vs H Q _ => ∃ (d c : Addr) (kk : Addr) (ks : List Str), vs = [.ref d, .ref kk] ∧ Dl H d c ∧ SqA K H true kk (ks.map V.str) ∧ ¬ X2 d c kk ∧ ks.length ≤ 10 ∧ ks.Nodup ∧
  ∀ l H' us ps, Kx (X2 d c) H H' → Dl H' d c → H l = none → H' l = some (.lst us) → Paired (PrT K H') us ps → (∀ p ∈ ps, p.1 ∈ ks ∧ p.2 ∈ ks ∧ p.1 ≠ p.2) → ps.length ≤ 50 → Q (.ref l) H'
theorem ok_law_pairs (C : Fx w K mg base) : FnOk P w K mg base CX0 3 (a_law_pairs K) (fdA K (a_law_pairs K)) ["_law_deal_here", "_law_kinds"] (spPairs K) := by
  refine (F_law_pairs C).ok S_law_pairs (fun vs H Q E h => ?_) (fun cdv A outer s H vs Q E hr h => ?_)
  · obtain ⟨d, c, kk, ks, rfl, _⟩ := h
    rfl
  · obtain ⟨d, c, kk, ks, rfl, hD, hkk, hnk, hk1, hnd, q⟩ := h
    refine ⟨_, (pss_cons (ps_par (i := 2) (j := 3) (by rfl) S_law_pairs.nd rfl rfl (by decide) rfl rfl (pa_cons (pe_cd (D_law_draw C) (hr.mono (by decide)) (pa_cons (pv 0) (pa_cons pe_int pa_nil))) (pa_cons (pe_lst pa_nil) pa_nil)) (by rfl))
      (pss_cons (ps_for PassesOwn.never rfl (pi_enumA (by rfl) C.z_enumerate (pa_cons (pv 1) pa_nil)) (pg_tup rfl (pgs_cons (pg_name (i := 4) S_law_pairs.nd rfl (Or.inl rfl)) (pgs_cons (pg_name (i := 5) S_law_pairs.nd rfl (Or.inl rfl)) pgs_nil)))
        (pss_one (ps_for PassesOwn.never rfl (pi_enumA (by rfl) C.z_enumerate (pa_cons (pe_slice sl_list (pv 1) po_none (po_some (pv 4))) pa_nil)) (pg_tup rfl (pgs_cons (pg_name (i := 6) S_law_pairs.nd rfl (Or.inl rfl)) (pgs_cons (pg_name (i := 7) S_law_pairs.nd rfl (Or.inl rfl)) pgs_nil)))
          (pss_cons (ps_set (i := 8) S_law_pairs.nd rfl (Or.inl rfl) (pe_ix ix_list (pe_lst (pa_cons pe_int (pa_cons pe_int (pa_cons (pe_op op_mul pe_int (pe_callTy call_int1 (by rfl) C.z_int (by decide +kernel) (pa_cons (pe_cmpR op_gt (pe_op op_sub (pv 4) (pv 6)) pe_int (nomark _)) pa_nil))) (pa_cons pe_int (pa_cons pe_int (pa_cons pe_int (pa_cons pe_int (pa_cons pe_int pa_nil))))))))) (pv 2) (fun _ _ => rfl)))
          (pss_one (ps_if (pt_cmpR op_lt (pe_cd (D_law_draw C) (hr.mono (by decide)) (pa_cons (pv 0) (pa_cons pe_int pa_nil))) (pv 8) (nomark _))
            (pss_one (ps_expr (pe_bm PySem.F.plainAttrs_list PySem.F.slot_list_append PySem.F.type_list_append mt_append (pv 3) (pa_cons (pe_ix ix_list (pe_lst (pa_cons (pe_tup (pa_cons (pv 5) (pa_cons (pv 7) pa_nil))) (pa_cons (pe_tup (pa_cons (pv 7) (pa_cons (pv 5) pa_nil))) pa_nil))) (pe_cd (D_law_draw C) (hr.mono (by decide)) (pa_cons (pv 0) (pa_cons pe_int pa_nil))) (fun _ _ => rfl)) pa_nil))))
            pss_nil))))))
      (pss_one (ps_ret (pe_cd (D_law_mixed C) (hr.mono (by decide)) (pa_cons (pv 0) (pa_cons (pv 3) pa_nil))))))), ?_⟩
    have hzs := sizeLine_eq
    have hkl : (ks.map V.str).length = ks.length := List.length_map ..
    refine ⟨_, rfl, d, c, 8, rfl, hD, by decide, by decide, fun fm H1 hfm k1 hD1 => ?_⟩
    refine ⟨by show 0 ≤ sizeLine; decide, fun f hf => ?_⟩
    have e1 := ex_new (o := .lst []) hf
    have hfH : H f = none := k1.free (hD1.fresh hf) hf
    have hf0 := hD1.fresh hf
    have k2 : Kx (X2 d c) H (upd H1 f (.lst [])) := Kx.trans k1 (Kx.ofEx e1)
    refine ⟨_, _, rfl, ?_⟩
    refine ⟨_, rfl, true, kk, _, rfl, sqa_kx k2 hnk hkk, ?_⟩
    refine for_enumA (xs := ks.map V.str) (fun i σ H' => ∃ v4 v5 v6 v7 v8 us ps, σ = [some (.ref d), some (.ref kk), some (.int (fm : Nat)), some (.ref f), v4, v5, v6, v7, v8] ∧ Kx (X2 d c) H H' ∧ Dl H' d c ∧ H' f = some (.lst us) ∧ Paired (PrT K H') us ps ∧ (∀ p ∈ ps, p.1 ∈ ks ∧ p.2 ∈ ks ∧ p.1 ≠ p.2) ∧ 2 * ps.length ≤ i * (i - 1))
      ⟨none, none, none, none, none, [], [], rfl, k2, hD1.ex e1, upd_same .., .nil, fun _ h => (nomatch h), by simp⟩ (fun i σ H' _ ⟨_, _, _, _, _, _, _, _, k, _⟩ => sqa_kx k hnk hkk) ?_ ?_
    · rintro i x Wt σ H3 hx ⟨v4, v5, v6, v7, v8, us, ps, rfl, k3, hD3, hf3, hps, hpk, hpl⟩ hW
      rw [List.getElem?_map] at hx
      obtain ⟨ki, hki, rfl⟩ := Option.map_eq_some_iff.mp hx
      have hil : i < ks.length := (List.getElem?_eq_some_iff.mp hki).1
      have kW := ex_new (o := .tup [.int (i : Nat), .str ki]) hW
      refine ⟨Wt, _, rfl, t_of (upd_same ..), rfl, _, _, rfl, _, _, rfl, rfl, ?_⟩
      refine ⟨_, rfl, _, rfl, (i : Int), rfl, kk, _, rfl, Evl.ex_l kW (sqa_kx k3 hnk hkk), fun p hp => ?_⟩
      have hcut : cutV (ks.map V.str) none (some ((i : Nat) : Int)) = (ks.take i).map V.str := by
        unfold cutV
        rw [HT.sIx_none, show HT.sIx (ks.map V.str).length (ks.map V.str).length (some ((i : Nat) : Int)) = min i (ks.map V.str).length from HT.sIx_nat _ _ i, List.drop_zero, Nat.sub_zero, hkl, Nat.min_eq_left (by omega), List.map_take]
      rw [hcut]
      have e4 := Evl.Ex.trans kW (ex_new (o := .lst ((ks.take i).map V.str)) hp)
      have hD4 := hD3.ex e4
      have hp0 : ¬ X2 d c p := (hD3.ex kW).fresh hp
      have hpf : f ≠ p := fun z => by rw [← z, kW _ _ hf3] at hp; cases hp
      refine ⟨true, p, _, rfl, l_of (upd_same ..), ?_⟩
      have hlt : (ks.take i).length = i := by rw [List.length_take]; omega
      refine for_enumA (xs := (ks.take i).map V.str) (fun j σ H' => ∃ v6 v7 v8 us ps, σ = [some (.ref d), some (.ref kk), some (.int (fm : Nat)), some (.ref f), some (.int (i : Nat)), some (.str ki), v6, v7, v8] ∧ Kx (X2 d c) H H' ∧ Dl H' d c ∧ H' f = some (.lst us) ∧ Paired (PrT K H') us ps ∧ (∀ p ∈ ps, p.1 ∈ ks ∧ p.2 ∈ ks ∧ p.1 ≠ p.2) ∧ 2 * ps.length ≤ i * (i - 1) + 2 * j ∧ H' p = some (.lst ((ks.take i).map V.str)))
        ⟨v6, v7, v8, us, ps, rfl, Kx.trans k3 (Kx.ofEx e4), hD4, e4 _ _ hf3, pr_mono (fun _ _ z => z.nx (Nx.ofEx e4)) hps, hpk, by omega, upd_same ..⟩ (fun j σ H' _ ⟨_, _, _, _, _, _, _, _, _, _, _, _, z⟩ => l_of z) ?_ ?_
      · rintro j x Wj σ H5 hx ⟨v6, v7, v8, us, ps, rfl, k5, hD5, hf5, hps, hpk, hpl, hp5⟩ hW5
        rw [List.getElem?_map] at hx
        obtain ⟨kj, hkj, rfl⟩ := Option.map_eq_some_iff.mp hx
        have hjl : j < i := by
          have := (List.getElem?_eq_some_iff.mp hkj).1
          omega
        have hkj' : ks[j]? = some kj := by
          rw [List.getElem?_take_of_lt hjl] at hkj
          exact hkj
        have hne : ki ≠ kj := fun z => nodup_ne hnd hjl hkj' (by rw [← z]; exact hki)
        have m1 : ki ∈ ks := List.mem_of_getElem? hki
        have m2 : kj ∈ ks := List.mem_of_getElem? hkj'
        have kW5 := ex_new (o := .tup [.int (j : Nat), .str kj]) hW5
        refine ⟨Wj, _, rfl, t_of (upd_same ..), rfl, _, _, rfl, _, _, rfl, rfl, ?_⟩
        -- the chance
        refine ⟨_, rfl, _, rfl, (i : Int), (j : Int), rfl, rfl, _, 1, rfl, rfl, .inr ⟨_, rfl, 4, _, rfl, rfl, .inl ⟨by decide, by decide⟩, by show 8 ≤ sizeLine; decide, fun q8 hq8 => ?_⟩⟩
        obtain ⟨cs, hcs, hcl⟩ : ∃ cs : List Int, ([V.int 0, V.int 4, V.int (4 * (if decide ((i : Int) - (j : Int) > 1) = true then 1 else 0)), V.int 1, V.int 2, V.int 2, V.int 3, V.int 3] : List V) = cs.map V.int ∧ cs.length = 8 := ⟨[0, 4, 4 * (if decide ((i : Int) - (j : Int) > 1) = true then 1 else 0), 1, 2, 2, 3, 3], rfl, rfl⟩
        have e6 := Evl.Ex.trans kW5 (ex_new (o := .lst ([V.int 0, V.int 4, V.int (4 * (if decide ((i : Int) - (j : Int) > 1) = true then 1 else 0)), V.int 1, V.int 2, V.int 2, V.int 3, V.int 3] : List V)) hq8)
        refine ⟨_, rfl, q8, _, (fm : Int), .int (cs[fm]'(by omega)), rfl, rfl, l_of (upd_same ..), atI_nat (show ([V.int 0, V.int 4, V.int (4 * (if decide ((i : Int) - (j : Int) > 1) = true then 1 else 0)), V.int 1, V.int 2, V.int 2, V.int 3, V.int 3] : List V)[fm]? = _ by rw [hcs, List.getElem?_map, List.getElem?_eq_getElem (by omega)]; rfl), ?_⟩
        have hD6 := hD5.ex e6
        refine ⟨_, rfl, d, c, 4, rfl, hD6, by decide, by decide, fun r4 H7 hr4 k7 hD7 => ?_⟩
        have k57 := Kx.trans (Kx.ofEx e6) k7
        have hf7 : H7 f = some (.lst us) := k7 _ _ hf0 (e6 _ _ hf5)
        have hp7 : H7 p = _ := k7 _ _ hp0 (e6 _ _ hp5)
        have hps7 := pr_mono (fun _ _ z => PrT.nx (hD5.nx k57) z) hps
        have kA := Kx.trans k5 k57
        refine ⟨_, rfl, (r4 : Int), cs[fm]'(by omega), rfl, rfl, _, rfl, ite2 (fun e => ?_) (fun e => ?_)⟩
        · refine ⟨_, rfl, .inl ⟨rfl, us, l_of hf7⟩, _, rfl, _, rfl, by show 2 ≤ sizeLine; decide, fun t1 ht1 => ?_⟩
          have x1 := ex_new (o := .tup [.str ki, .str kj]) ht1
          refine ⟨_, rfl, _, rfl, by show 2 ≤ sizeLine; decide, fun t2 ht2 => ?_⟩
          have x2 := ex_new (o := .tup [.str kj, .str ki]) ht2
          refine ⟨by show 2 ≤ sizeLine; decide, fun q2 hq2 => ?_⟩
          have x3 := ex_new (o := .lst [.ref t1, .ref t2]) hq2
          have x13 := Evl.Ex.trans x1 (Evl.Ex.trans x2 x3)
          have hD8 := hD7.ex x13
          have hq20 := ((hD7.ex x1).ex x2).fresh hq2
          refine ⟨_, rfl, d, c, 2, rfl, hD8, by decide, by decide, fun r2 H9 hr2 k9 hD9 => ?_⟩
          have k79 := Kx.trans (Kx.ofEx x13) k9
          have hf9 : H9 f = some (.lst us) := k9 _ _ hf0 (x13 _ _ hf7)
          have hp9 : H9 p = _ := k9 _ _ hp0 (x13 _ _ hp7)
          have hq9 : H9 q2 = some (.lst [.ref t1, .ref t2]) := k9 _ _ hq20 (upd_same ..)
          have n9 := hD8.nx k9
          have ht1' : SqT K H9 t1 [.str ki, .str kj] := nx_t n9 (Evl.ex_t (Evl.Ex.trans x2 x3) (t_of (upd_same ..)))
          have ht2' : SqT K H9 t2 [.str kj, .str ki] := nx_t n9 (Evl.ex_t x3 (t_of (upd_same ..)))
          obtain ⟨tv, pr, htv, hpr, hpm⟩ : ∃ tv pr, ([.ref t1, .ref t2] : List V)[r2]? = some tv ∧ PrT K H9 tv pr ∧ (pr.1 ∈ ks ∧ pr.2 ∈ ks ∧ pr.1 ≠ pr.2) := by
            match r2, hr2 with
            | 0, _ => exact ⟨_, (ki, kj), rfl, ⟨t1, rfl, ht1'⟩, m1, m2, hne⟩
            | 1, _ => exact ⟨_, (kj, ki), rfl, ⟨t2, rfl, ht2'⟩, m2, m1, fun z => hne z.symm⟩
          have hul := pr_len hps
          have hpb : ps.length ≤ 200 := by
            have h1 : i * (i - 1) ≤ 10 * 10 := Nat.mul_le_mul (by omega) (by omega)
            omega
          refine ⟨q2, _, (r2 : Int), tv, rfl, rfl, l_of hq9, atI_nat htv, f, us, tv, rfl, rfl, hf9, by omega, ?_⟩
          have nF : Nx H9 (upd H9 f (.lst (us ++ [tv]))) := Nx.upd (Nx.refl _) (.inr ⟨_, hf9⟩)
          refine ⟨_, _, _, us ++ [tv], ps ++ [pr], rfl, (Kx.trans kA k79).to (.inr hfH), hD9.to hf0, upd_same .., pr_app (pr_mono (fun _ _ z => PrT.nx (Nx.trans (hD7.nx k79) nF) z) hps7) (.cons (hpr.nx nF) .nil), ?_, by simp; omega, by rw [upd_ne hpf.symm]; exact hp9⟩
          intro z hz
          rcases List.mem_append.mp hz with h | h
          · exact hpk z h
          · rw [List.mem_singleton] at h
            rw [h]
            exact hpm
        · exact ⟨_, _, _, us, ps, rfl, kA, hD7, hf7, hps7, hpk, by omega, hp7⟩
      · rintro σ H' ⟨v6, v7, v8, us, ps, rfl, k', hD', hf', hps, hpk, hpl, _⟩
        rw [List.length_map, hlt] at hpl
        refine ⟨_, _, _, _, _, us, ps, rfl, k', hD', hf', hps, hpk, ?_⟩
        have : (i + 1) * (i + 1 - 1) = i * (i - 1) + 2 * i := by
          cases i with
          | zero => rfl
          | succ i => simp only [Nat.add_sub_cancel]; rw [Nat.add_mul, Nat.mul_add, Nat.mul_add]; omega
        omega
    · rintro σ H' ⟨v4, v5, v6, v7, v8, us, ps, rfl, k, hD', hf', hps, hpk, hpl⟩
      rw [hkl] at hpl
      have hb : ks.length * (ks.length - 1) ≤ 10 * 9 := Nat.mul_le_mul (by omega) (by omega)
      have hul := pr_len hps
      refine ⟨_, rfl, _, rfl, d, c, true, f, us, Str × Str, inferInstance, inferInstance, ps, rfl, hD', l_of hf', std_pairs hps, by decide, by omega, fun l H2 ys k2 hD2 hl hl2 hperm => ?_⟩
      have n2 := hD'.nx k2
      obtain ⟨zs, hzs1, hzs2⟩ := pr_perm hperm.symm hps
      refine q l H2 ys zs (Kx.trans k k2) hD2 (k.free (hD'.fresh hl) hl) hl2 (pr_mono (fun _ _ z => PrT.nx n2 z) hzs1) (fun p hp => hpk p (hzs2.mem_iff.mpr hp)) ?_
      have := hzs2.length_eq
      omega
theorem D_law_pairs (C : Fx w K mg base) : Dn P w K mg base 3 (a_law_pairs K) (fdA K (a_law_pairs K)) ["_law_deal_here", "_law_kinds"] (spPairs K) "_law_pairs" := ⟨ok_law_pairs C, C.g_law_pairs, (F_law_pairs C).kp, B_law_pairs C⟩
end
end K91
/-! Q7 -/
namespace K91
open PySem PySem.Spec PyProof.Rows L2
open C8 (InsC call_isC pss_cut)
/-- what melts in a row, by its two indexes -/
def MeltAt (ps : List (Str × Str)) (r : List Syl) (i j : Nat) : Prop := (i = j ∧ ∃ a k b, r = a ++ (k, 0) :: b ∧ a.length = i) ∨ ∃ a k m u n b, r = a ++ (k, m) :: (u ++ (k, n) :: b) ∧ a.length = i ∧ j = i + 1 + u.length ∧ ∀ z ∈ u, frP ps k z.1 = true
section
variable {P : Program} {w : World} {K : PySem.W.Frag} {mg : Str → Option Value} {base : Heap}
/-- what _law_melting answers -/
def PairOk (H : Hp) (v : V) (ps : List (Str × Str)) (s : List Syl) : Prop := v = .non ∨ ∃ i j t, v = .ref t ∧ H t = some (.tup [.int ((i : Nat) : Int), .int ((j : Nat) : Int)]) ∧ MeltAt ps s i j
def spMlt (K : PySem.W.Frag) : Sp := fun vs H Q _ => ∃ (b : Bool) (p : Addr) (zs : List V) (ps : List (Str × Str)) (a : Addr) (us : List V) (r : List Syl), vs = [.ref p, .ref a] ∧ SqA K H b p zs ∧ Paired (PrT K H) zs ps ∧ SqA K H true a us ∧ Sys K H us r ∧ r.length < 100000 ∧
  ∀ v H', Evl.Ex H H' → PairOk H' v ps r → Q v H'
theorem ok_law_melting (C : Fx w K mg base) : FnOk P w K mg base CX0 2 (a_law_melting K) (fdA K (a_law_melting K)) ["_law_pairs_here", "_law_row_here"] (spMlt K) := by
  refine (F_law_melting C).ok S_law_melting (fun vs H Q E h => ?_) (fun cdv A outer s H vs Q E hr h => ?_)
  · obtain ⟨b, p, zs, ps, a, us, r, rfl, _⟩ := h
    rfl
  · obtain ⟨b, p, zs, ps, a, us, r, rfl, hp, hps, ha, hs, hl, q⟩ := h
    have q1 : ∀ H', Evl.Ex H H' → Q .non H' := fun H' e => q .non H' e (.inl rfl)
    have q2 : ∀ (i j : Nat) (t : Addr) H', Evl.Ex H H' → H' t = some (.tup [.int (i : Nat), .int (j : Nat)]) → MeltAt ps r i j → Q (.ref t) H' := fun i j t H' e h m => q (.ref t) H' e (.inr ⟨i, j, t, rfl, h, m⟩)
    refine ⟨_, (pss_cons (ps_for PassesOwn.never rfl (pi_enumA (by rfl) C.z_enumerate (pa_cons (pv 1) pa_nil)) (pg_tup rfl (pgs_cons (pg_name (i := 2) S_law_melting.nd rfl (Or.inl rfl)) (pgs_cons (pg_tup rfl (pgs_cons (pg_name (i := 3) S_law_melting.nd rfl (Or.inl rfl)) (pgs_cons (pg_name (i := 4) S_law_melting.nd rfl (Or.inl rfl)) pgs_nil))) pgs_nil)))
        (pss_cons (ps_if (pt_cmpR op_eq (pv 4) pe_int (nomark _))
          (pss_one (ps_ret (pe_tup (pa_cons (pv 2) (pa_cons (pv 2) pa_nil)))))
          pss_nil)
        (pss_one (ps_for PassesOwn.never rfl (pi_range2 (by rfl) C.z_range (pa_cons (pe_op op_add (pv 2) pe_int) (pa_cons (pe_callB call_len_seq (by rfl) C.z_len (by decide +kernel) (pa_cons (pv 1) pa_nil)) pa_nil))) (pg_name (i := 5) S_law_melting.nd rfl (Or.inl rfl))
          (pss_cons (ps_if (pt_cmpR op_eq (pe_ix ix_tup (pe_ix ix_list (pv 1) (pv 5) (fun _ _ => rfl)) pe_int (fun _ _ => rfl)) (pv 3) (nomark _))
            (pss_one (ps_ret (pe_tup (pa_cons (pv 2) (pa_cons (pv 5) pa_nil)))))
            pss_nil)
          (pss_one (ps_if (pt_not (pt_val (pe_cd (D_law_is_free C) (hr.mono (by decide)) (pa_cons (pv 0) (pa_cons (pv 3) (pa_cons (pe_ix ix_tup (pe_ix ix_list (pv 1) (pv 5) (fun _ _ => rfl)) pe_int (fun _ _ => rfl)) pa_nil))))))
            (pss_one ps_break)
            pss_nil)))))))
      (pss_one (ps_ret pe_non))), ?_⟩
    have hul := pr_len hs
    refine ⟨_, rfl, true, a, _, rfl, ha, ?_⟩
    refine for_enumA (xs := us) (fun i σ H' => ∃ v2 v3 v4 v5, σ = [some (.ref p), some (.ref a), v2, v3, v4, v5] ∧ Evl.Ex H H') ⟨none, none, none, none, rfl, Evl.Ex.refl _⟩ (fun i σ H' _ ⟨_, _, _, _, _, e⟩ => Evl.ex_l e ha) ?_ ?_
    · rintro i x Wt σ H1 hx ⟨v2, v3, v4, v5, rfl, e⟩ hW
      obtain ⟨⟨k, m⟩, hy, py, rfl, hpy⟩ := pr_get' hs hx
      have hil : i < r.length := (List.getElem?_eq_some_iff.mp hy).1
      have eyi : r[i] = (k, m) := (List.getElem?_eq_some_iff.mp hy).2
      have eW := Evl.Ex.trans e (ex_new (o := .tup [.int (i : Nat), .ref py]) hW)
      refine ⟨Wt, _, rfl, t_of (upd_same ..), rfl, _, _, rfl, _, _, rfl, ⟨py, _, rfl, Evl.ex_t eW hpy, rfl, _, _, rfl, _, _, rfl, rfl, rfl, ?_⟩⟩
      have er : r = r.take i ++ (k, m) :: r.drop (i + 1) := by
        rw [← eyi, ← List.drop_eq_getElem_cons hil, List.take_append_drop]
      have hti : (r.take i).length = i := by rw [List.length_take]; omega
      refine ⟨_, rfl, rfl, _, rfl, ite2 (fun e0 => ?_) (fun e0 => ?_)⟩
      · have m0 : m = 0 := V.int.inj (of_decide_eq_true e0)
        subst m0
        refine ⟨_, rfl, _, rfl, by show 2 ≤ sizeLine; decide, fun t ht => ?_⟩
        exact q2 i i t _ (Evl.Ex.trans eW (ex_new ht)) (upd_same ..) (.inl ⟨rfl, _, k, _, er, hti⟩)
      · refine ⟨_, rfl, (i : Int), 1, rfl, rfl, _, rfl, a, _, rfl, .inl (Evl.ex_l eW ha), (i : Int) + 1, (us.length : Int), rfl, ⟨by omega, by omega, by omega, by omega⟩, ?_⟩
        have en : ((us.length : Int) - ((i : Int) + 1)).toNat = r.length - (i + 1) := by omega
        rw [en]
        refine for_range (fun j σ H' => ∃ v5, σ = [some (.ref p), some (.ref a), some (.int (i : Nat)), some (.str k), some (.int m), v5] ∧ Evl.Ex H H' ∧ ∀ z ∈ (r.drop (i + 1)).take j, frP ps k z.1 = true) ⟨_, rfl, eW, fun z hz => by simp at hz⟩ ?_ ?_
        · rintro j σ H2 hj ⟨v5, rfl, e2, hfr⟩
          have hjl : i + 1 + j < r.length := by omega
          have ej : (i : Int) + 1 + (j : Nat) = ((i + 1 + j : Nat) : Int) := by omega
          rw [ej]
          obtain ⟨vz, hvz, pz, rfl, hpz⟩ := pr_get hs (List.getElem?_eq_getElem hjl)
          have hus := Evl.ex_l e2 ha
          have edj : (r.drop (i + 1))[j]? = some r[i + 1 + j] := by rw [List.getElem?_drop, List.getElem?_eq_getElem hjl]
          refine ⟨_, rfl, _, rfl, a, us, ((i + 1 + j : Nat) : Int), .ref pz, rfl, rfl, hus, atI_nat hvz, pz, _, (0 : Int), _, rfl, rfl, Evl.ex_t e2 hpz, atI_nat (j := 0) rfl, _, rfl, rfl, _, rfl, ite2 (fun e3 => ?_) (fun e3 => ?_)⟩
          · have ek : r[i + 1 + j].1 = k := V.str.inj (of_decide_eq_true e3)
            refine ⟨_, rfl, _, rfl, by show 2 ≤ sizeLine; decide, fun t ht => ?_⟩
            refine q2 i (i + 1 + j) t _ (Evl.Ex.trans e2 (ex_new ht)) (upd_same ..) (.inr ⟨r.take i, k, m, (r.drop (i + 1)).take j, r[i + 1 + j].2, (r.drop (i + 1)).drop (j + 1), ?_, hti, ?_, hfr⟩)
            · have h1 : r.drop (i + 1) = (r.drop (i + 1)).take j ++ r[i + 1 + j] :: (r.drop (i + 1)).drop (j + 1) := by
                have hj2 : j < (r.drop (i + 1)).length := by rw [List.length_drop]; omega
                have h2 : (r.drop (i + 1))[j] = r[i + 1 + j] := by rw [List.getElem_drop]
                rw [← h2, ← List.drop_eq_getElem_cons hj2, List.take_append_drop]
              have h3 : (k, r[i + 1 + j].2) = r[i + 1 + j] := by rw [← ek]
              rw [h3, ← h1]
              exact er
            · rw [List.length_take, List.length_drop]
              omega
          · refine ⟨_, rfl, _, rfl, _, rfl, _, rfl, a, us, ((i + 1 + j : Nat) : Int), .ref pz, rfl, rfl, hus, atI_nat hvz, pz, _, (0 : Int), _, rfl, rfl, Evl.ex_t e2 hpz, atI_nat (j := 0) rfl, ?_⟩
            refine ⟨b, p, zs, ps, k, r[i + 1 + j].1, rfl, sqA_ex e2 hp, pr_mono (fun _ _ z => PrT.nx (Nx.ofEx e2) z) hps, fun H3 e4 => ⟨_, rfl, ?_⟩⟩
            cases hfr2 : frP ps k r[i + 1 + j].1 with
            | true =>
              refine iteF ⟨_, rfl, Evl.Ex.trans e2 e4, fun z hz => ?_⟩
              rw [List.take_add_one, edj] at hz
              rcases List.mem_append.mp hz with h | h
              · exact hfr z h
              · have hz2 : z = r[i + 1 + j] := by simpa using h
                rw [hz2]
                exact hfr2
            | false => exact iteT ⟨_, _, _, _, rfl, Evl.Ex.trans e2 e4⟩
        · rintro σ H2 ⟨v5, rfl, e2, hfr⟩
          exact ⟨_, _, _, _, rfl, e2⟩
    · rintro σ H' ⟨v2, v3, v4, v5, rfl, e⟩
      exact q1 H' e
theorem D_law_melting (C : Fx w K mg base) : Dn P w K mg base 2 (a_law_melting K) (fdA K (a_law_melting K)) ["_law_pairs_here", "_law_row_here"] (spMlt K) "_law_melting" := ⟨ok_law_melting C, C.g_law_melting, (F_law_melting C).kp, B_law_melting C⟩
end
end K91
/-! Q8 -/
namespace K91
open PySem PySem.Spec PyProof.Rows L2
open C8 (InsC call_isC pss_cut)
theorem al_melt {fr : Str → Str → Bool} (hs : ∀ a b, fr a b = fr b a) (a u b : List Syl) (k : Str) (m n : Int) (h : ∀ z ∈ u, fr k z.1 = true) : Al fr (a ++ (k, m) :: (u ++ (k, n) :: b)) (a ++ (k, m + n) :: (u ++ b)) := by
  have h1 : Sw fr (u ++ (k, n) :: b) ((k, n) :: (u ++ b)) := Sw.front hs (k, n) b u h
  have h2 : Sw fr (a ++ (k, m) :: (u ++ (k, n) :: b)) (a ++ (k, m) :: (k, n) :: (u ++ b)) := (h1.cons (k, m)).pre a
  exact .trans h2.al (.melt a k m n (u ++ b))
/-- those behind i but for the one at j, counted from q -/
def selF {α : Type} (i j : Nat) : Nat → List α → List α
  | _, [] => []
  | q, v :: vs => if i < q ∧ q ≠ j then v :: selF i j (q + 1) vs else selF i j (q + 1) vs
theorem selF_app {α : Type} (i j : Nat) : ∀ (xs ys : List α) (q : Nat), selF i j q (xs ++ ys) = selF i j q xs ++ selF i j (q + xs.length) ys
  | [], _, _ => rfl
  | x :: xs, ys, q => by
    have ih := selF_app i j xs ys (q + 1)
    have e : q + 1 + xs.length = q + (x :: xs).length := by simp; omega
    rw [e] at ih
    show (if i < q ∧ q ≠ j then x :: selF i j (q + 1) (xs ++ ys) else selF i j (q + 1) (xs ++ ys)) = (if i < q ∧ q ≠ j then x :: selF i j (q + 1) xs else selF i j (q + 1) xs) ++ _
    rw [ih]
    split <;> rfl
theorem selF_no {α : Type} {i j : Nat} : ∀ (xs : List α) (q : Nat), q + xs.length ≤ i + 1 → selF i j q xs = []
  | [], _, _ => rfl
  | x :: xs, q, h => by
    show (if i < q ∧ q ≠ j then x :: selF i j (q + 1) xs else selF i j (q + 1) xs) = []
    simp only [List.length_cons] at h
    rw [if_neg (by omega)]
    exact selF_no xs (q + 1) (by omega)
theorem selF_all {α : Type} {i j : Nat} : ∀ (xs : List α) (q : Nat), i < q → (j < q ∨ q + xs.length ≤ j) → selF i j q xs = xs
  | [], _, _, _ => rfl
  | x :: xs, q, h, h2 => by
    show (if i < q ∧ q ≠ j then x :: selF i j (q + 1) xs else selF i j (q + 1) xs) = x :: xs
    simp only [List.length_cons] at h2
    rw [if_pos (by omega), selF_all xs (q + 1) (by omega) (by omega)]
theorem pr_sel {α β : Type} {R : α → β → Prop} {i j : Nat} : ∀ {xs : List α} {ys : List β} {q : Nat}, Paired R xs ys → Paired R (selF i j q xs) (selF i j q ys)
  | _, _, _, .nil => .nil
  | x :: xs, y :: ys, q, .cons r t => by
    have ih := pr_sel (i := i) (j := j) (q := q + 1) t
    show Paired R (if i < q ∧ q ≠ j then x :: selF i j (q + 1) xs else selF i j (q + 1) xs) (if i < q ∧ q ≠ j then y :: selF i j (q + 1) ys else selF i j (q + 1) ys)
    split
    · exact .cons r ih
    · exact ih
theorem melt_facts {ps : List (Str × Str)} {s : List Syl} {i j : Nat} (h : MeltAt ps s i j) : ∃ rest : List Syl, i < s.length ∧ j < s.length ∧ Al (frP ps) s (s.take i ++ rest ++ selF i j 0 s) ∧ (s.take i ++ rest ++ selF i j 0 s).length < s.length ∧ (∀ y ∈ s.take i ++ rest ++ selF i j 0 s, ∃ z ∈ s, z.1 = y.1) ∧
    ((i < j ∧ ∃ k m n, s[i]? = some (k, m) ∧ s[j]? = some (k, n) ∧ rest = [(k, m + n)]) ∨ (¬ i < j ∧ rest = [])) := by
  rcases h with ⟨rfl, a, k, b, rfl, rfl⟩ | ⟨a, k, m, u, n, b, rfl, rfl, rfl, hu⟩
  · have e1 : selF a.length a.length 0 (a ++ (k, 0) :: b) = b := by
      rw [selF_app, selF_no a 0 (by omega)]
      show (if a.length < 0 + a.length ∧ 0 + a.length ≠ a.length then _ else selF a.length a.length (0 + a.length + 1) b) = b
      rw [if_neg (by omega), selF_all b _ (by omega) (by omega)]
    have e2 : (a ++ (k, 0) :: b).take a.length = a := List.take_left
    refine ⟨[], by simp, by simp, ?_, ?_, ?_, .inr ⟨by omega, rfl⟩⟩
    · rw [e1, e2, List.append_nil]
      exact .drop a k b
    · rw [e1, e2]
      simp
    · rw [e1, e2, List.append_nil]
      intro y hy
      refine ⟨y, ?_, rfl⟩
      rcases List.mem_append.mp hy with h | h
      · exact List.mem_append_left _ h
      · exact List.mem_append_right _ (List.mem_cons_of_mem _ h)
  · have e1 : selF a.length (a.length + 1 + u.length) 0 (a ++ (k, m) :: (u ++ (k, n) :: b)) = u ++ b := by
      rw [selF_app, selF_no a 0 (by omega)]
      show (if a.length < 0 + a.length ∧ _ then _ else selF a.length (a.length + 1 + u.length) (0 + a.length + 1) (u ++ (k, n) :: b)) = u ++ b
      rw [if_neg (by omega), selF_app, selF_all u _ (by omega) (by omega)]
      show u ++ (if a.length < 0 + a.length + 1 + u.length ∧ 0 + a.length + 1 + u.length ≠ a.length + 1 + u.length then _ else selF a.length (a.length + 1 + u.length) (0 + a.length + 1 + u.length + 1) b) = u ++ b
      rw [if_neg (by omega), selF_all b _ (by omega) (by omega)]
    have e2 : (a ++ (k, m) :: (u ++ (k, n) :: b)).take a.length = a := List.take_left
    refine ⟨[(k, m + n)], by simp, by simp; omega, ?_, ?_, ?_, .inl ⟨by omega, k, m, n, by simp, ?_, rfl⟩⟩
    · rw [e1, e2, List.append_assoc]
      exact al_melt (frP_sym ps) a u b k m n hu
    · rw [e1, e2]
      simp
      skip
    · rw [e1, e2]
      intro y hy
      simp only [List.mem_append, List.mem_cons, List.not_mem_nil, or_false] at hy
      rcases hy with (h | h) | h | h
      · exact ⟨y, by simp [h], rfl⟩
      · exact ⟨(k, m), by simp, by rw [h]⟩
      · exact ⟨y, by simp [h], rfl⟩
      · exact ⟨y, by simp [h], rfl⟩
    · rw [List.getElem?_append_right (by omega), show a.length + 1 + u.length - a.length = u.length + 1 by omega, List.getElem?_cons_succ, List.getElem?_append_right (Nat.le_refl _), Nat.sub_self]
      rfl
end K91
/-! Q9 -/
namespace K91
open PySem PySem.Spec PyProof.Rows L2
open C8 (InsC call_isC pss_cut)
section
variable {P : Program} {w : World} {K : PySem.W.Frag} {mg : Str → Option Value} {base : Heap}
def spSht (K : PySem.W.Frag) : Sp := fun vs H Q _ => ∃ (b : Bool) (p : Addr) (zs : List V) (ps : List (Str × Str)) (a : Addr) (us : List V) (r : List Syl), vs = [.ref p, .ref a] ∧ SqA K H b p zs ∧ Paired (PrT K H) zs ps ∧ SqA K H true a us ∧ Sys K H us r ∧ r.length < 1000 ∧
  ∀ l H' ws s, Evl.Ex H H' → H l = none → H' l = some (.lst ws) → Sys K H' ws s → Al (frP ps) r s → s.length ≤ r.length → (∀ y ∈ s, ∃ z ∈ r, z.1 = y.1) → Q (.ref l) H'
theorem ok_law_short (C : Fx w K mg base) : FnOk P w K mg base CX0 3 (a_law_short K) (fdA K (a_law_short K)) ["_law_pairs_here", "_law_some"] (spSht K) := by
  refine (F_law_short C).ok S_law_short (fun vs H Q E h => ?_) (fun cdv A outer s H vs Q E hr h => ?_)
  · obtain ⟨b, p, zs, ps, a, us, r, rfl, _⟩ := h
    rfl
  · obtain ⟨b, p, zs, ps, a, us, r, rfl, hp, hps, ha, hs, hl, q⟩ := h
    refine ⟨_, (pss_cons (ps_par (i := 1) (j := 2) (by rfl) S_law_short.nd rfl rfl (by decide) rfl rfl (pa_cons (pe_callTy call_list_of (by rfl) C.z_list (by decide +kernel) (pa_cons (pv 1) pa_nil)) (pa_cons (pe_cd (D_law_melting C) (hr.mono (by decide)) (pa_cons (pv 0) (pa_cons (pv 1) pa_nil))) pa_nil)) (by rfl))
      (pss_cons (ps_while PassesOwn.never (pt_cmpR op_notN (pv 2) pe_non (nomark _))
        (pss_cons (ps_asg (pv 2) (pg_tup rfl (pgs_cons (pg_name (i := 3) S_law_short.nd rfl (Or.inr rfl)) (pgs_cons (pg_name (i := 4) S_law_short.nd rfl (Or.inr rfl)) pgs_nil))))
        (pss_cut (ps_set (i := 5) S_law_short.nd rfl (Or.inl rfl) (pe_ifExp (pt_cmpR op_lt (pv 3) (pv 4) (nomark _)) (pe_lst (pa_cons (pe_tup (pa_cons (pe_ix ix_tup (pe_ix ix_list (pv 1) (pv 3) (fun _ _ => rfl)) pe_int (fun _ _ => rfl)) (pa_cons (pe_op op_add (pe_ix ix_tup (pe_ix ix_list (pv 1) (pv 3) (fun _ _ => rfl)) pe_int (fun _ _ => rfl)) (pe_ix ix_tup (pe_ix ix_list (pv 1) (pv 4) (fun _ _ => rfl)) pe_int (fun _ _ => rfl))) pa_nil))) pa_nil)) (pe_lst pa_nil)))
        (pss_cons (ps_set (i := 1) S_law_short.nd rfl (Or.inl rfl) (pe_op op_cat (pe_op op_cat (pe_slice sl_list (pv 1) po_none (po_some (pv 3))) (pv 5)) (pe_lc (own := [("_law_place", 6), ("_law_one", 7)]) (g := _) (tt := _) rfl S_law_short.nd (pi_enumA (by rfl) C.z_enumerate (pa_cons (pv 1) pa_nil)) (blkOk_by (own := [("_law_place", 6), ("_law_one", 7)]) (N := ["_law_pairs_here", "_law_some", "_law_pair", "_law_at", "_law_to", "_law_rest", "_law_place", "_law_one"]) (sc := defScope st_law_short) (by decide +kernel)) (fun _ _ _ _ _ => (pg_tupK (K := K) (n := 2) rfl (pgs_cons (pg_name (i := 6) S_law_short.nd rfl (Or.inl rfl)) (pgs_cons (pg_name (i := 7) S_law_short.nd rfl (Or.inl rfl)) pgs_nil)))) (fun _ _ _ _ _ => (pts_one (PW.pt (pw_and (pt_cmpR op_gt (pv 6) (pv 3) (nomark _)) (pw_and1 (pt_cmpR op_ne (pv 6) (pv 4) (nomark _))))))) (fun _ _ _ _ _ => (pv 7)))))
        (pss_one (ps_set (i := 2) S_law_short.nd rfl (Or.inl rfl) (pe_cd (D_law_melting C) (hr.mono (by decide)) (pa_cons (pv 0) (pa_cons (pv 1) pa_nil)))))))))
      (pss_one (ps_ret (pv 1))))), ?_⟩
    have hzs := sizeLine_eq
    have hul := pr_len hs
    refine ⟨_, rfl, a, us, rfl, sqA_len ha, fun l hl' => ?_⟩
    have e1 := ex_new (o := .lst us) hl'
    refine ⟨_, rfl, _, rfl, b, p, zs, ps, a, us, r, rfl, sqA_ex e1 hp, pr_mono (fun _ _ z => PrT.nx (Nx.ofEx e1) z) hps, sqA_ex e1 ha, sys_ex e1 hs, by omega, fun v1 H1 e2 hv1 => ?_⟩
    refine ⟨_, _, rfl, ?_⟩
    refine ⟨fun m σ H' => ∃ l us s v v3 v4 v5, σ = [some (.ref p), some (.ref l), some v, v3, v4, v5, none, none] ∧ m = s.length ∧ Evl.Ex H H' ∧ H l = none ∧ H' l = some (.lst us) ∧ Sys K H' us s ∧ Al (frP ps) r s ∧ s.length ≤ r.length ∧ (∀ y ∈ s, ∃ z ∈ r, z.1 = y.1) ∧ PairOk H' v ps s,
      ⟨_, l, us, r, v1, none, none, none, rfl, rfl, Evl.Ex.trans e1 e2, hl', e2 _ _ (upd_same ..), sys_ex (Evl.Ex.trans e1 e2) hs, .refl _, Nat.le_refl _, fun y hy => ⟨y, hy, rfl⟩, hv1⟩, ?_⟩
    rintro m σ H' ⟨l, us, s, v, v3, v4, v5, rfl, rfl, e, hl0, hl1, hs1, hal, hsl, hsk, hv⟩
    have hsu := pr_len hs1
    refine ⟨_, rfl, rfl, _, rfl, ?_⟩
    rcases hv with rfl | ⟨i, j, t, rfl, ht, hm⟩
    · refine iteF ⟨_, rfl, ?_⟩
      exact q l H' us s e hl0 hl1 hs1 hal hsl hsk
    · refine iteT ⟨_, fun σ' H2 h => h, ?_⟩
      obtain ⟨rest, hi, hj, hal2, hlt, hkk, hrest⟩ := melt_facts hm
      refine ⟨_, rfl, t, _, rfl, t_of ht, rfl, _, _, rfl, _, _, rfl, rfl, ?_⟩
      refine ⟨fun σ' H2 => ∃ w ws, σ' = [some (.ref p), some (.ref l), some (.ref t), some (.int (i : Nat)), some (.int (j : Nat)), some (.ref w), none, none] ∧ Evl.Ex H' H2 ∧ H2 w = some (.lst ws) ∧ Sys K H2 ws rest, ?_, ?_⟩
      · refine ⟨_, rfl, _, rfl, _, _, rfl, rfl, _, rfl, ?_⟩
        rcases hrest with ⟨hij, k, m, n, hsi, hsj, rfl⟩ | ⟨hij, rfl⟩
        · rw [decide_eq_true (show (i : Int) < (j : Int) by omega)]
          refine iteT ?_
          obtain ⟨vi, hvi, pi, rfl, hpi⟩ := pr_get hs1 hsi
          obtain ⟨vj, hvj, pj, rfl, hpj⟩ := pr_get hs1 hsj
          refine ⟨_, rfl, _, rfl, l, us, (i : Int), _, rfl, rfl, l_of hl1, atI_nat hvi, pi, _, (0 : Int), _, rfl, rfl, hpi, atI_nat (j := 0) rfl, ?_⟩
          refine ⟨_, rfl, _, rfl, l, us, (i : Int), _, rfl, rfl, l_of hl1, atI_nat hvi, pi, _, (1 : Int), _, rfl, rfl, hpi, atI_nat (j := 1) rfl, ?_⟩
          refine ⟨_, rfl, _, rfl, l, us, (j : Int), _, rfl, rfl, l_of hl1, atI_nat hvj, pj, _, (1 : Int), _, rfl, rfl, hpj, atI_nat (j := 1) rfl, ?_⟩
          refine ⟨m, n, rfl, rfl, by show 2 ≤ sizeLine; decide, fun t1 ht1 => ?_⟩
          have x1 := ex_new (o := .tup [.str k, .int (m + n)]) ht1
          refine ⟨by show 1 ≤ sizeLine; decide, fun w hw => ?_⟩
          have x2 := ex_new (o := .lst [.ref t1]) hw
          exact ⟨w, _, rfl, Evl.Ex.trans x1 x2, upd_same .., .cons ⟨t1, rfl, Evl.ex_t x2 (t_of (upd_same ..))⟩ .nil⟩
        · rw [decide_eq_false (show ¬ (i : Int) < (j : Int) by omega)]
          refine iteF ?_
          refine ⟨by show 0 ≤ sizeLine; decide, fun w hw => ?_⟩
          exact ⟨w, _, rfl, ex_new hw, upd_same .., .nil⟩
      · rintro σ' H2 ⟨w, ws, rfl, x2, hw, hws⟩
        have hl2 := x2 _ _ hl1
        have hs2 := sys_ex x2 hs1
        have hwl := pr_len hws
        have hrl : rest.length ≤ 1 := by
          rcases hrest with ⟨_, _, _, _, _, _, rfl⟩ | ⟨_, rfl⟩ <;> simp
        refine ⟨_, rfl, _, rfl, (i : Int), rfl, l, _, rfl, l_of hl2, fun p1 hp1 => ?_⟩
        have hcut : cutV us none (some ((i : Nat) : Int)) = us.take i := by
          unfold cutV
          rw [HT.sIx_none, show HT.sIx us.length us.length (some ((i : Nat) : Int)) = min i us.length from HT.sIx_nat _ _ i, List.drop_zero, Nat.sub_zero, Nat.min_eq_left (by omega)]
        rw [hcut]
        have x3 := ex_new (o := .lst (us.take i)) hp1
        refine ⟨_, rfl, p1, w, us.take i, ws, rfl, rfl, upd_same .., x3 _ _ hw, by rw [List.length_take]; omega, fun p2 hp2 => ?_⟩
        have x4 := Evl.Ex.trans x3 (ex_new (o := .lst (us.take i ++ ws)) hp2)
        have hp2' : (upd (upd H2 p1 (.lst (us.take i))) p2 (.lst (us.take i ++ ws))) p2 = some (.lst (us.take i ++ ws)) := upd_same ..
        obtain ⟨H4, hH4⟩ : ∃ H4, H4 = upd (upd H2 p1 (.lst (us.take i))) p2 (.lst (us.take i ++ ws)) := ⟨_, rfl⟩
        rw [← hH4] at x4 hp2' ⊢
        refine ⟨_, rfl, true, l, us, rfl, l_of (x4 _ _ hl2), fun D hD => ?_⟩
        refine lcG_enum (xs := us) (fun n H' => ∃ acc, Evl.Ex H4 H' ∧ H' D = some (.lst acc) ∧ acc.length ≤ n ∧ acc ++ selF i j n (us.drop n) = selF i j 0 us) ⟨[], ex_new hD, upd_same .., Nat.le_refl _, rfl⟩ (fun n H' _ ⟨_, e, _⟩ => l_of (e _ _ (x4 _ _ hl2))) ?_ ?_
        · rintro n x T H5 hx ⟨acc, e5, hD5, hacl, hac⟩ hT
          have hnl : n < us.length := (List.getElem?_eq_some_iff.mp hx).1
          have exx : us[n] = x := (List.getElem?_eq_some_iff.mp hx).2
          have e6 := ex_new (o := .tup [.int (n : Nat), x]) hT
          rw [List.drop_eq_getElem_cons hnl, exx] at hac
          have hac : acc ++ (if i < n ∧ n ≠ j then x :: selF i j (n + 1) (us.drop (n + 1)) else selF i j (n + 1) (us.drop (n + 1))) = selF i j 0 us := hac
          refine ⟨T, _, rfl, t_of (upd_same ..), rfl, _, _, rfl, _, _, rfl, rfl, rfl, ?_⟩
          refine ⟨_, rfl, _, rfl, _, _, rfl, rfl, _, rfl, ?_⟩
          by_cases h1 : i < n
          · rw [decide_eq_true (show (n : Int) > (i : Int) by omega)]
            refine iteT ?_
            refine ⟨_, rfl, _, rfl, rfl, _, rfl, ?_⟩
            by_cases h2 : n = j
            · subst h2
              rw [if_neg (by omega)] at hac
              rw [decide_eq_true rfl]
              exact iteF ⟨acc, Evl.Ex.trans e5 e6, e6 _ _ hD5, by omega, hac⟩
            · rw [if_pos ⟨h1, h2⟩] at hac
              rw [decide_eq_false (fun z => h2 (by injection z; omega))]
              refine iteT ⟨_, rfl, acc, e6 _ _ hD5, by omega, acc ++ [x], Evl.Ex.upd (Evl.Ex.trans e5 e6) hD, upd_same .., by simp; omega, ?_⟩
              rw [List.append_assoc]
              exact hac
          · rw [if_neg (by omega)] at hac
            rw [decide_eq_false (show ¬ (n : Int) > (i : Int) by omega)]
            exact iteF ⟨acc, Evl.Ex.trans e5 e6, e6 _ _ hD5, by omega, hac⟩
        · rintro H5 ⟨acc, e5, hD5, hacl, hac⟩
          rw [List.drop_length] at hac
          have hac : acc = selF i j 0 us := by
            have : acc ++ [] = selF i j 0 us := hac
            rwa [List.append_nil] at this
          refine ⟨p2, D, _, acc, rfl, rfl, e5 _ _ hp2', hD5, by rw [List.length_append, List.length_take]; omega, fun p3 hp3 => ?_⟩
          have x5 := Evl.Ex.trans (Evl.Ex.trans x2 x4) (Evl.Ex.trans e5 (ex_new (o := .lst ((us.take i ++ ws) ++ acc)) hp3))
          have x25 := Evl.Ex.trans x4 (Evl.Ex.trans e5 (ex_new (o := .lst ((us.take i ++ ws) ++ acc)) hp3))
          have e06 := Evl.Ex.trans e x5
          have hp30 : H p3 = none := ex_free (Evl.Ex.trans e (Evl.Ex.trans (Evl.Ex.trans x2 x4) e5)) hp3
          have hsn : Sys K (upd H5 p3 (.lst ((us.take i ++ ws) ++ acc))) ((us.take i ++ ws) ++ acc) (s.take i ++ rest ++ selF i j 0 s) := by
            subst hac
            exact pr_app (pr_app (sys_ex x5 (pr_take i hs1)) (sys_ex x25 hws)) (sys_ex x5 (pr_sel hs1))
          have hk' : ∀ y ∈ s.take i ++ rest ++ selF i j 0 s, ∃ z ∈ r, z.1 = y.1 := fun y hy => by
            obtain ⟨z, hz, ez⟩ := hkk y hy
            obtain ⟨z', hz', ez'⟩ := hsk z hz
            exact ⟨z', hz', ez'.trans ez⟩
          obtain ⟨H6, hH6⟩ : ∃ H6, H6 = upd H5 p3 (.lst ((us.take i ++ ws) ++ acc)) := ⟨_, rfl⟩
          have hp36 : H6 p3 = some (.lst ((us.take i ++ ws) ++ acc)) := by rw [hH6]; exact upd_same ..
          rw [← hH6] at e06 hsn ⊢
          refine ⟨_, rfl, _, rfl, b, p, zs, ps, p3, _, _, rfl, sqA_ex e06 hp, pr_mono (fun _ _ z => PrT.nx (Nx.ofEx e06) z) hps, l_of hp36, hsn, by omega, fun v2 H7 e7 hv2 => ?_⟩
          refine ⟨_, hlt, p3, _, _, v2, _, _, _, rfl, rfl, Evl.Ex.trans e06 e7, hp30, e7 _ _ hp36, sys_ex e7 hsn, .trans hal hal2, by omega, hk', hv2⟩
theorem D_law_short (C : Fx w K mg base) : Dn P w K mg base 3 (a_law_short K) (fdA K (a_law_short K)) ["_law_pairs_here", "_law_some"] (spSht K) "_law_short" := ⟨ok_law_short C, C.g_law_short, (F_law_short C).kp, B_law_short C⟩
end
end K91
/-! R12 -/
namespace K91
open PySem PySem.Spec PyProof.Rows L2
open PySem.W (Datum notIn_list_datum)
def rNotInT (K : PySem.W.Frag) (α : Type) [DecidableEq α] [Datum α] : R2 := fun x y H Q => ∃ (a : Addr) (zs : List V) (k : α) (xs : List α), y = .ref a ∧ Dp K H x (Datum.toD k) ∧ SqL K H a zs ∧ Paired (fun v z => Dp K H v (Datum.toD z)) zs xs ∧ Q (.bl (decide (k ∉ xs))) H
theorem op_notInT {X : Cx} {α : Type} [DecidableEq α] [Datum α] {K : PySem.W.Frag} (hu : X.A.units + 64 < cLine) (hd : Datum.depth α ≤ 60) (hK : X.K = K := by rfl) : OpR X (compareOp .NotIn) (rNotInT K α) := by
  subst hK
  intro pins s σ H x y u v Q I rx ry h
  obtain ⟨a, zs, k, xs, rfl, hk, hs, hp, q⟩ := h
  obtain ⟨as, r1⟩ := Dp.reads I _ x u hk rx
  cases ry
  obtain ⟨us, rv, hsrc, _, _⟩ := inv_src (b := true) I hs
  have H2 : PySem.W.HoldAll s.heap us xs := holdAll_of hp (fun v z u h r => Dp.reads I _ v u h r) rv
  exact notIn_list_datum (xs := xs) (x := k) hsrc (by simpa using H2) ⟨as, r1⟩ (by omega) ⟨.bl _, H, I, rfl, q⟩
theorem ints_pr {K : PySem.W.Frag} {H : Hp} : ∀ (ns : List Int), Paired (fun v z => Dp K H v (Datum.toD z)) (ns.map V.int) ns
  | [] => .nil
  | n :: ns => .cons (.int n) (ints_pr ns)
theorem pr_ints : ∀ (ns : List Int), Paired (fun v z => v = V.int z) (ns.map V.int) ns
  | [] => .nil
  | n :: ns => .cons rfl (pr_ints ns)
theorem pr_ints' : ∀ {vs : List V} {ns : List Int}, Paired (fun v z => v = V.int z) vs ns → vs = ns.map V.int
  | _, _, .nil => rfl
  | _, _, .cons h t => by rw [h, pr_ints' t]; rfl
end K91
/-! MG -/
/-! alike rows under app and undoing; orders; stores: plain Lean -/
namespace K91
section
variable {K : Type} [DecidableEq K] {fr : K → K → Bool}
theorem Al.pre (w : Rw K) {s t : Rw K} (h : Al fr s t) : Al fr (w ++ s) (w ++ t) := by
  induction h with
  | refl s => exact .refl _
  | swap u a b v e => rw [← List.append_assoc, ← List.append_assoc]; exact .swap _ a b v e
  | melt u k n m v => rw [← List.append_assoc, ← List.append_assoc]; exact .melt _ k n m v
  | drop u k v => rw [← List.append_assoc, ← List.append_assoc]; exact .drop _ k v
  | symm _ ih => exact .symm ih
  | trans _ _ i1 i2 => exact .trans i1 i2
theorem Al.post (w : Rw K) {s t : Rw K} (h : Al fr s t) : Al fr (s ++ w) (t ++ w) := by
  induction h with
  | refl s => exact .refl _
  | swap u a b v e => rw [List.append_assoc, List.append_assoc]; exact .swap u a b _ e
  | melt u k n m v => rw [List.append_assoc, List.append_assoc]; exact .melt u k n m _
  | drop u k v => rw [List.append_assoc, List.append_assoc]; exact .drop u k _
  | symm _ ih => exact .symm ih
  | trans _ _ i1 i2 => exact .trans i1 i2
/-- a row undone -/
def und (r : Rw K) : Rw K := (r.map fun y => (y.1, -y.2)).reverse
theorem und_app (a b : Rw K) : und (a ++ b) = und b ++ und a := by
  unfold und
  rw [List.map_append, List.reverse_append]
theorem und_cons (y : K × Int) (b : Rw K) : und (y :: b) = und b ++ [(y.1, -y.2)] := by
  unfold und
  rw [List.map_cons, List.reverse_cons]
theorem Al.und (hs : ∀ a b, fr a b = fr b a) {s t : Rw K} (h : Al fr s t) : Al fr (und s) (und t) := by
  induction h with
  | refl s => exact .refl _
  | swap u a b v e =>
    simp only [und_app, und_cons, List.append_assoc, List.cons_append, List.nil_append]
    exact .swap _ _ _ _ (by show fr b.1 a.1 = true; rw [hs]; exact e)
  | melt u k n m v =>
    simp only [und_app, und_cons, List.append_assoc, List.cons_append, List.nil_append]
    have := Al.melt (fr := fr) (K91.und v) k (-m) (-n) (K91.und u)
    rw [show -m + -n = -(n + m) by omega] at this
    exact this
  | drop u k v =>
    simp only [und_app, und_cons, List.append_assoc, List.cons_append, List.nil_append]
    exact .drop _ k _
  | symm _ ih => exact .symm ih
  | trans _ _ i1 i2 => exact .trans i1 i2
/-! ### sorted by layers first -/
theorem sorted_sw (hs : ∀ a b, fr a b = fr b a) {r : Rw K} {l : List ((K × Int) × Nat)} (p : l.Perm (ann fr r)) (h : l.Pairwise fun a b => a.2 ≤ b.2) : Sw fr r (l.map (·.1)) := by
  have h1 : (ann fr r).Pairwise fun a b => fr a.1.1 b.1.1 = true ∨ a.2 ≠ b.2 := (ann_fits hs r).imp fun q => q.imp id fun z => by omega
  have h2 : l.Pairwise fun a b => fr a.1.1 b.1.1 = true ∨ a.2 ≠ b.2 := (p.pairwise_iff (fun {a b} q => q.imp (fun z => by rw [hs]; exact z) fun z e => z e.symm)).mpr h1
  have h3 : Fits fr l := by
    have := h.and h2
    refine this.imp fun {a b} q => ?_
    rcases q.2 with z | z
    · exact .inl z
    · exact .inr (by have := q.1; omega)
  have := fits_sw hs p.symm (ann_fits hs r) h3
  rwa [ann_map] at this
end
/-! ### walking a move so many times -/
def it (f : Nat → Nat) : Nat → Nat → Nat
  | 0, x => x
  | n + 1, x => f (it f n x)
theorem it_succ' (f : Nat → Nat) : ∀ n x, it f (n + 1) x = it f n (f x)
  | 0, _ => rfl
  | n + 1, x => congrArg f (it_succ' f n x)
theorem it_add (f : Nat → Nat) (a : Nat) : ∀ b x, it f (a + b) x = it f a (it f b x)
  | 0, _ => rfl
  | b + 1, x => by
    rw [← Nat.add_assoc, it_succ', it_add f a b, it_succ' f b]
theorem it_mul {f : Nat → Nat} {p x : Nat} (h : it f p x = x) : ∀ q, it f (p * q) x = x
  | 0 => rfl
  | q + 1 => by rw [Nat.mul_succ, it_add, h, it_mul h q]
theorem it_mod {f : Nat → Nat} {p x : Nat} (h : it f p x = x) (a : Nat) : it f (a % p) x = it f a x := by
  conv => rhs; rw [← Nat.mod_add_div a p, it_add, it_mul h]
theorem it_lt {f : Nat → Nat} {n : Nat} (h : ∀ x, x < n → f x < n) : ∀ i x, x < n → it f i x < n
  | 0, _, hx => hx
  | i + 1, x, hx => h _ (it_lt h i x hx)
def fac : Nat → Nat
  | 0 => 1
  | n + 1 => (n + 1) * fac n
theorem fac_pos : ∀ n, 0 < fac n
  | 0 => Nat.one_pos
  | n + 1 => Nat.mul_pos (Nat.succ_pos n) (fac_pos n)
theorem dvd_fac {p : Nat} (h : 0 < p) : ∀ {n : Nat}, p ≤ n → p ∣ fac n
  | 0, h2 => by omega
  | n + 1, h2 => by
    by_cases e : p = n + 1
    · exact ⟨fac n, by rw [e]; rfl⟩
    · obtain ⟨c, hc⟩ := dvd_fac h (n := n) (by omega)
      refine ⟨(n + 1) * c, ?_⟩
      show (n + 1) * fac n = _
      rw [hc, Nat.mul_left_comm]
/-- a store that keeps a table: n standings, f k the move of a kind -/
structure Sto (K : Type) (fr : K → K → Bool) where
  n : Nat
  f : K → Nat → Nat
  lt : ∀ k x, x < n → f k x < n
  per : ∀ k x, x < n → ∃ p, 0 < p ∧ p ≤ n ∧ it (f k) p x = x
  com : ∀ a b x, fr a b = true → x < n → f a (f b x) = f b (f a x)
section
variable {K : Type} [DecidableEq K] {fr : K → K → Bool} (S : Sto K fr)
def Sto.act (k : K) (c : Int) (x : Nat) : Nat := it (S.f k) (c % (fac S.n : Int)).toNat x
theorem Sto.act_lt (k : K) (c : Int) {x : Nat} (h : x < S.n) : S.act k c x < S.n := it_lt (S.lt k) _ _ h
theorem Sto.all (k : K) {x : Nat} (h : x < S.n) : it (S.f k) (fac S.n) x = x := by
  obtain ⟨p, h1, h2, h3⟩ := S.per k x h
  obtain ⟨q, hq⟩ := dvd_fac h1 h2
  rw [hq]
  exact it_mul h3 q
theorem Sto.act_add (k : K) (a b : Int) {x : Nat} (h : x < S.n) : S.act k b (S.act k a x) = S.act k (a + b) x := by
  have hp : (0 : Int) < (fac S.n : Int) := by have := fac_pos S.n; omega
  unfold Sto.act
  rw [← it_add, ← it_mod (S.all k h) ((b % (fac S.n : Int)).toNat + (a % (fac S.n : Int)).toNat)]
  congr 1
  have h1 := Int.emod_nonneg a (Int.ne_of_gt hp)
  have h2 := Int.emod_nonneg b (Int.ne_of_gt hp)
  have h3 := Int.emod_nonneg (a + b) (Int.ne_of_gt hp)
  have : (((((b % (fac S.n : Int)).toNat + (a % (fac S.n : Int)).toNat) % fac S.n : Nat)) : Int) = (a + b) % (fac S.n : Int) := by
    rw [Int.natCast_emod, Int.natCast_add, Int.toNat_of_nonneg h1, Int.toNat_of_nonneg h2, Int.emod_add_emod, Int.add_emod_emod, Int.add_comm]
  omega
theorem Sto.act_zero (k : K) (x : Nat) : S.act k 0 x = x := by
  unfold Sto.act
  rw [Int.zero_emod]
  rfl
theorem it_com1 {f g : Nat → Nat} {n : Nat} (hf : ∀ x, x < n → f x < n) (hg : ∀ x, x < n → g x < n) (h : ∀ x, x < n → f (g x) = g (f x)) : ∀ j x, x < n → f (it g j x) = it g j (f x)
  | 0, _, _ => rfl
  | j + 1, x, hx => by
    show f (g (it g j x)) = g (it g j (f x))
    rw [h _ (it_lt hg j x hx), it_com1 hf hg h j x hx]
theorem it_com {f g : Nat → Nat} {n : Nat} (hf : ∀ x, x < n → f x < n) (hg : ∀ x, x < n → g x < n) (h : ∀ x, x < n → f (g x) = g (f x)) : ∀ i j x, x < n → it f i (it g j x) = it g j (it f i x)
  | 0, _, _, _ => rfl
  | i + 1, j, x, hx => by
    show f (it f i (it g j x)) = it g j (f (it f i x))
    rw [it_com hf hg h i j x hx]
    exact it_com1 hf hg h j _ (it_lt hf i x hx)
theorem Sto.act_com {a b : K} (m n : Int) (h : fr a b = true) {x : Nat} (hx : x < S.n) : S.act b n (S.act a m x) = S.act a m (S.act b n x) := by
  unfold Sto.act
  exact (it_com (S.lt a) (S.lt b) (fun x hx => S.com a b x h hx) _ _ x hx).symm
/-- where a row leads a standing -/
def Sto.led (r : Rw K) (x : Nat) : Nat := r.foldl (fun x y => S.act y.1 y.2 x) x
theorem Sto.led_lt : ∀ (r : Rw K) {x : Nat}, x < S.n → S.led r x < S.n
  | [], _, h => h
  | y :: r, _, h => led_lt r (S.act_lt y.1 y.2 h)
theorem Sto.led_app (r s : Rw K) (x : Nat) : S.led (r ++ s) x = S.led s (S.led r x) := List.foldl_append ..
theorem Sto.led_al {r r' : Rw K} (h : Al fr r r') : ∀ {x : Nat}, x < S.n → S.led r x = S.led r' x := by
  induction h with
  | refl s => intro x hx; rfl
  | swap u a b v e =>
    intro x hx
    rw [S.led_app, S.led_app]
    show S.led v (S.act b.1 b.2 (S.act a.1 a.2 (S.led u x))) = S.led v (S.act a.1 a.2 (S.act b.1 b.2 (S.led u x)))
    rw [S.act_com _ _ e (S.led_lt u hx)]
  | melt u k n m v =>
    intro x hx
    rw [S.led_app, S.led_app]
    show S.led v (S.act k m (S.act k n (S.led u x))) = S.led v (S.act k (n + m) (S.led u x))
    rw [S.act_add _ _ _ (S.led_lt u hx)]
  | drop u k v =>
    intro x hx
    rw [S.led_app, S.led_app]
    show S.led v (S.act k 0 (S.led u x)) = S.led v (S.led u x)
    rw [S.act_zero]
  | symm _ ih => intro x hx; exact (ih hx).symm
  | trans _ _ i1 i2 => intro x hx; exact (i1 hx).trans (i2 hx)
/-- walking round the ring of a move -/
theorem Sto.ring (k : K) (c : Int) {x l : Nat} (hx : x < S.n) (h0 : 0 < l) (h1 : it (S.f k) l x = x) (h2 : ∀ i, 0 < i → i < l → it (S.f k) i x ≠ x) : it (S.f k) (c % (l : Int)).toNat x = S.act k c x := by
  obtain ⟨p, p1, p2, p3⟩ := S.per k x hx
  have hl : l ≤ p := by
    by_cases z : l ≤ p
    · exact z
    · exact absurd p3 (h2 p p1 (by omega))
  obtain ⟨q, hq⟩ := dvd_fac h0 (n := S.n) (by omega)
  have hp : (0 : Int) < (fac S.n : Int) := by have := fac_pos S.n; omega
  have hl0 : (0 : Int) < (l : Int) := by omega
  unfold Sto.act
  rw [← it_mod h1 (c % (fac S.n : Int)).toNat]
  congr 1
  have e1 := Int.emod_nonneg c (Int.ne_of_gt hp)
  have e2 := Int.emod_nonneg c (Int.ne_of_gt hl0)
  have : ((((c % (fac S.n : Int)).toNat % l : Nat)) : Int) = c % (l : Int) := by
    rw [Int.natCast_emod, Int.toNat_of_nonneg e1]
    exact Int.emod_emod_of_dvd c ⟨(q : Int), by rw [hq]; simp⟩
  omega
/-- the ring is no longer than the store -/
theorem Sto.short (k : K) {x l : Nat} (hx : x < S.n) (h2 : ∀ i, 0 < i → i < l → it (S.f k) i x ≠ x) : l ≤ S.n := by
  obtain ⟨p, p1, p2, p3⟩ := S.per k x hx
  by_cases z : l ≤ p
  · omega
  · exact absurd p3 (h2 p p1 (by omega))
end
/-! ### two of so many are one -/
theorem pigeon : ∀ (n : Nat) (g : Nat → Nat), (∀ i, i ≤ n → g i < n) → ∃ i j, i < j ∧ j ≤ n ∧ g i = g j
  | 0, g, h => by have := h 0 (Nat.le_refl _); omega
  | n + 1, g, h => by
    by_cases e : ∃ i, i ≤ n ∧ g i = g (n + 1)
    · obtain ⟨i, h1, h2⟩ := e
      exact ⟨i, n + 1, by omega, Nat.le_refl _, h2⟩
    · have hne : ∀ i, i ≤ n → g i ≠ g (n + 1) := fun i hi z => e ⟨i, hi, z⟩
      have hb := h (n + 1) (Nat.le_refl _)
      obtain ⟨i, j, h1, h2, h3⟩ := pigeon n (fun i => if g i < g (n + 1) then g i else g i - 1) (fun i hi => by
        have h4 := h i (by omega)
        have h5 := hne i hi
        show (if g i < g (n + 1) then g i else g i - 1) < n
        split <;> omega)
      refine ⟨i, j, h1, by omega, ?_⟩
      have h4 := hne i (by omega)
      have h5 := hne j h2
      have h6 : (if g i < g (n + 1) then g i else g i - 1) = (if g j < g (n + 1) then g j else g j - 1) := h3
      split at h6 <;> split at h6 <;> omega
theorem per_inj {n : Nat} {f : Nat → Nat} (h : ∀ x, x < n → f x < n) (hi : ∀ x y, x < n → y < n → f x = f y → x = y) {x : Nat} (hx : x < n) : ∃ p, 0 < p ∧ p ≤ n ∧ it f p x = x := by
  obtain ⟨i, j, h1, h2, h3⟩ := pigeon n (fun i => it f i x) fun i _ => it_lt h i x hx
  have back : ∀ i d, it f i x = it f (i + d) x → it f d x = x := by
    intro i
    induction i with
    | zero =>
      intro d e
      rw [Nat.zero_add] at e
      exact e.symm
    | succ i ih =>
      intro d e
      have e2 : it f (i + 1 + d) x = f (it f (i + d) x) := by
        rw [show i + 1 + d = (i + d) + 1 by omega]
        rfl
      rw [e2] at e
      exact ih d (hi _ _ (it_lt h i x hx) (it_lt h (i + d) x hx) e)
  exact ⟨j - i, by omega, by omega, back i (j - i) (by rw [show i + (j - i) = j by omega]; exact h3)⟩
end K91
/-! MI -/
namespace K91
section
variable {K : Type} [DecidableEq K] {fr : K → K → Bool}
/-- the layers under a syllable of kind k, raised by one -/
def udr (fr : K → K → Bool) (k : K) (L : List ((K × Int) × Nat)) : List Int := (L.filter fun p => !fr k p.1.1).map fun p => ((p.2 : Nat) : Int) + 1
theorem udr_snoc (k : K) (L : List ((K × Int) × Nat)) (p : (K × Int) × Nat) : udr fr k (L ++ [p]) = if fr k p.1.1 = true then udr fr k L else udr fr k L ++ [((p.2 : Nat) : Int) + 1] := by
  unfold udr
  rw [List.filter_append, List.map_append]
  cases h : fr k p.1.1 <;> simp [h]
theorem udr_len (k : K) (L : List ((K × Int) × Nat)) : (udr fr k L).length ≤ L.length := by
  unfold udr
  rw [List.length_map]
  exact List.length_filter_le ..
theorem udr_nil {k : K} {L : List ((K × Int) × Nat)} (h : udr fr k L = []) : dep fr k L = 0 := by
  rcases dep_at (fr := fr) (k := k) L with z | ⟨y, d, h1, h2, h3⟩
  · exact z
  · have : ((d : Nat) : Int) + 1 ∈ udr fr k L := List.mem_map.mpr ⟨(y, d), List.mem_filter.mpr ⟨h1, by rw [h2]; rfl⟩, rfl⟩
    rw [h] at this
    cases this
theorem udr_max {k : K} {L : List ((K × Int) × Nat)} {m : Int} (hm : m ∈ udr fr k L) (hle : ∀ x ∈ udr fr k L, x ≤ m) : m = ((dep fr k L : Nat) : Int) := by
  obtain ⟨⟨y, d⟩, h1, h2⟩ := List.mem_map.mp hm
  obtain ⟨h3, h4⟩ := List.mem_filter.mp h1
  have h5 : fr k y.1 = false := by simpa using h4
  have g := dep_ge h3 h5
  have h2 : ((d : Nat) : Int) + 1 = m := h2
  rcases dep_at (fr := fr) (k := k) L with z | ⟨y', d', e1, e2, e3⟩
  · omega
  · have := hle _ (List.mem_map.mpr ⟨(y', d'), List.mem_filter.mpr ⟨e1, by rw [e2]; rfl⟩, rfl⟩)
    have : ((d' : Nat) : Int) + 1 ≤ m := this
    omega
theorem ann_take (r : Rw K) {i : Nat} {y : K × Int} (h : r[i]? = some y) : ann fr (r.take (i + 1)) = ann fr (r.take i) ++ [(y, dep fr y.1 (ann fr (r.take i)))] := by
  have e : r.take (i + 1) = r.take i ++ [y] := by rw [List.take_add_one, h]; rfl
  rw [e, ann_snoc]
  congr 3
  exact dep_perm _ (List.reverse_perm _).symm
end
end K91
/-! Q10 -/
namespace K91
open PySem PySem.Spec PyProof.Rows L2
open C8 (InsC call_isC pss_cut)
theorem ints_dpL {K : PySem.W.Frag} {H : Hp} {f : Addr} {ns : List Int} (h : SqL K H f (ns.map V.int)) : Dp K H (.ref f) (PySem.W.Datum.toD ns) := .lst h ints_dp
section
variable {P : Program} {w : World} {K : PySem.W.Frag} {mg : Str → Option Value} {base : Heap}
/-- the layers of a row, as numbers -/
def lyI (fr : Str → Str → Bool) (r : List Syl) : List Int := (ann fr r).map fun p => ((p.2 : Nat) : Int)
def spLay (K : PySem.W.Frag) : Sp := fun vs H Q _ => ∃ (b : Bool) (p : Addr) (zs : List V) (ps : List (Str × Str)) (a : Addr) (us : List V) (r : List Syl), vs = [.ref p, .ref a] ∧ SqA K H b p zs ∧ Paired (PrT K H) zs ps ∧ SqA K H true a us ∧ Sys K H us r ∧ r.length < 1000 ∧
  ∀ l H', Evl.Ex H H' → H l = none → H' l = some (.lst ((lyI (frP ps) r).map V.int)) → Q (.ref l) H'
theorem ok_law_layers (C : Fx w K mg base) : FnOk P w K mg base CX0 2 (a_law_layers K) (fdA K (a_law_layers K)) ["_law_pairs_here", "_law_row_here"] (spLay K) := by
  refine (F_law_layers C).ok S_law_layers (fun vs H Q E h => ?_) (fun cdv A outer s H vs Q E hr h => ?_)
  · obtain ⟨b, p, zs, ps, a, us, r, rfl, _⟩ := h
    rfl
  · obtain ⟨b, p, zs, ps, a, us, r, rfl, hp, hps, ha, hs, hl, q⟩ := h
    refine ⟨_, (pss_cons (ps_set (i := 2) S_law_layers.nd rfl (Or.inr rfl) (pe_lst pa_nil))
      (pss_cons (ps_for PassesOwn.never rfl (pi_enumA (by rfl) C.z_enumerate (pa_cons (pv 1) pa_nil)) (pg_tup rfl (pgs_cons (pg_name (i := 3) S_law_layers.nd rfl (Or.inl rfl)) (pgs_cons (pg_tup rfl (pgs_cons (pg_name (i := 4) S_law_layers.nd rfl (Or.inr rfl)) (pgs_cons (pg_name (i := 5) S_law_layers.nd rfl (Or.inl rfl)) pgs_nil))) pgs_nil)))
        (pss_cons (ps_setLc (i := 6) (own := [("_law_to", 7)]) (g := gName 7) (tt := _) (by rfl) S_law_layers.nd rfl rfl (sw_true rfl rfl rfl (by decide +kernel)) (pi_range1 (by rfl) C.z_range (pa_cons (pv 3) pa_nil)) (blkOk_by (own := [("_law_to", 7)]) (N := ["_law_pairs_here", "_law_row_here", "_law_found", "_law_at", "_law_kind", "_law_count_here", "_law_under", "_law_to"]) (sc := defScope st_law_layers) (by decide +kernel)) (fun _ _ _ _ _ => (pg_name (i := 7) S_law_layers.nd rfl (Or.inl rfl))) (fun _ _ _ _ _ => (pts_one (pt_not (pt_val (pe_cd (D_law_is_free C) (by exact hr.mono (by decide)) (pa_cons (pv 0) (pa_cons (pv 4) (pa_cons (pe_ix (ix_tupK (K := K)) (pe_ix (ix_listK (K := K)) (pv 1) (pv 7) (fun _ _ => rfl)) pe_int (fun _ _ => rfl)) pa_nil)))))))) (fun _ _ _ _ _ => (pe_op op_add (pe_ix (ix_listK (K := K)) (pv 2) (pv 7) (fun _ _ => rfl)) pe_int)))
        (pss_one (ps_expr (pe_bm PySem.F.plainAttrs_list PySem.F.slot_list_append PySem.F.type_list_append mt_append (pv 2) (pa_cons (pe_ifExp (pt_cmpR (op_neT (α := List Int) hr.units (by decide)) (pv 6) (pe_lst pa_nil) (nomark _)) (pe_callB (cr_max rfl) (by rfl) C.z_max (by decide +kernel) (pa_cons (pv 6) pa_nil)) pe_int) pa_nil))))))
      (pss_one (ps_ret (pv 2))))), ?_⟩
    have hzs := sizeLine_eq
    have hul := pr_len hs
    refine ⟨by show 0 ≤ sizeLine; decide, fun f hf => ?_⟩
    have e0 := ex_new (o := .lst []) hf
    refine ⟨_, rfl, true, a, us, rfl, sqA_ex e0 ha, ?_⟩
    refine for_enumA (xs := us) (fun i σ H' => ∃ v3 v4 v5 v6, σ = [some (.ref p), some (.ref a), some (.ref f), v3, v4, v5, v6, none] ∧ Evl.Ex H H' ∧ H' f = some (.lst ((lyI (frP ps) (r.take i)).map V.int))) ⟨none, none, none, none, rfl, e0, upd_same ..⟩ (fun i σ H' _ ⟨_, _, _, _, _, e, _⟩ => sqA_ex e ha) ?_ ?_
    · rintro i x Wt σ H1 hx ⟨v3, v4, v5, v6, rfl, e, hf1⟩ hW
      obtain ⟨⟨k, m⟩, hy, py, rfl, hpy⟩ := pr_get' hs hx
      have hil : i < r.length := (List.getElem?_eq_some_iff.mp hy).1
      have eW := ex_new (o := .tup [.int (i : Nat), .ref py]) hW
      have e1 := Evl.Ex.trans e eW
      refine ⟨Wt, _, rfl, t_of (upd_same ..), rfl, _, _, rfl, _, _, rfl, ⟨py, _, rfl, Evl.ex_t e1 hpy, rfl, _, _, rfl, _, _, rfl, rfl, rfl, ?_⟩⟩
      refine ⟨_, rfl, (i : Int), rfl, by omega, by omega, fun D hD => ?_⟩
      rw [Int.toNat_natCast]
      have hDH := ex_free e1 hD
      have hf2 := eW _ _ hf1
      refine lcG_range (n := i) (fun j H' => Evl.Ex H H' ∧ H' f = some (.lst ((lyI (frP ps) (r.take i)).map V.int)) ∧ H' D = some (.lst ((udr (frP ps) k ((ann (frP ps) (r.take i)).take j)).map V.int)))
        ⟨Evl.Ex.upd e1 hDH, by rw [upd_ne (fun z => by rw [← z, hf2] at hD; cases hD)]; exact hf2, upd_same ..⟩ ?_ ?_
      · rintro j H2 hj ⟨e2, hf3, hD3⟩
        have ej : (0 : Int) + (j : Nat) = ((j : Nat) : Int) := by omega
        rw [ej]
        have hjr : j < r.length := by omega
        obtain ⟨vz, hvz, pz, rfl, hpz⟩ := pr_get hs (List.getElem?_eq_getElem hjr)
        have htj : (r.take i)[j]? = some r[j] := by rw [List.getElem?_take_of_lt hj, List.getElem?_eq_getElem hjr]
        have haj := ann_get (frP ps) htj
        obtain ⟨dd, hdd⟩ : ∃ dd, dep (frP ps) r[j].1 (annR (frP ps) ((r.take i).take j).reverse) = dd := ⟨_, rfl⟩
        rw [hdd] at haj
        have etj : (ann (frP ps) (r.take i)).take (j + 1) = (ann (frP ps) (r.take i)).take j ++ [(r[j], dd)] := by rw [List.take_add_one, haj]; rfl
        refine ⟨rfl, _, rfl, _, rfl, _, rfl, _, rfl, a, us, (j : Int), .ref pz, rfl, rfl, sqA_ex (b := true) e2 ha, atI_nat hvz, pz, _, (0 : Int), _, rfl, rfl, Evl.ex_t e2 hpz, atI_nat (j := 0) rfl, ?_⟩
        refine ⟨b, p, zs, ps, k, r[j].1, rfl, sqA_ex e2 hp, pr_mono (fun _ _ z => PrT.nx (Nx.ofEx e2) z) hps, fun H3 e4 => ⟨_, rfl, ?_⟩⟩
        have e24 := Evl.Ex.trans e2 e4
        cases hfr : frP ps k r[j].1 with
        | true =>
          refine iteF ⟨e24, e4 _ _ hf3, ?_⟩
          rw [etj, udr_snoc, hfr, if_pos rfl]
          exact e4 _ _ hD3
        | false =>
          refine iteT ⟨_, rfl, _, rfl, f, _, (j : Int), .int (dd : Nat), rfl, rfl, l_of (e4 _ _ hf3), atI_nat ?_, ((dd : Nat) : Int), 1, rfl, rfl, _, e4 _ _ hD3, ?_, Evl.Ex.upd e24 hDH, ?_, ?_⟩
          · unfold lyI
            rw [List.getElem?_map, List.getElem?_map, haj]
            rfl
          · have := udr_len (fr := frP ps) k ((ann (frP ps) (r.take i)).take j)
            rw [List.length_map]
            rw [List.length_take] at this
            omega
          · rw [upd_ne (fun z => by rw [← z, hf2] at hD; cases hD)]
            exact e4 _ _ hf3
          · rw [upd_same, etj, udr_snoc, hfr, if_neg Bool.false_ne_true, List.map_append]
            rfl
      · rintro H2 ⟨e2, hf3, hD3⟩
        have hal : (ann (frP ps) (r.take i)).take i = ann (frP ps) (r.take i) := List.take_of_length_le (by rw [ann_len, List.length_take]; omega)
        rw [hal] at hD3
        have hfin : lyI (frP ps) (r.take (i + 1)) = lyI (frP ps) (r.take i) ++ [((dep (frP ps) k (ann (frP ps) (r.take i)) : Nat) : Int)] := by
          unfold lyI
          rw [ann_take r hy, List.map_append]
          rfl
        have hflen : ((lyI (frP ps) (r.take i)).map V.int).length < sizeLine := by
          unfold lyI
          rw [List.length_map, List.length_map, ann_len, List.length_take]
          omega
        refine ⟨_, rfl, .inl ⟨rfl, _, l_of hf3⟩, _, rfl, by show 0 ≤ sizeLine; decide, fun z hz => ?_⟩
        have e3 := ex_new (o := .lst []) hz
        have e23 := Evl.Ex.trans e2 e3
        refine ⟨udr (frP ps) k (ann (frP ps) (r.take i)), ([] : List Int), ints_dpL (l_of (e3 _ _ hD3)), ints_dpL (l_of (upd_same ..)), _, rfl, ?_⟩
        by_cases hu : udr (frP ps) k (ann (frP ps) (r.take i)) = []
        · rw [decide_eq_true hu]
          refine iteF ⟨f, _, _, rfl, rfl, e3 _ _ hf3, hflen, ?_⟩
          refine ⟨_, _, _, _, rfl, Evl.Ex.upd e23 hf, ?_⟩
          rw [upd_same, hfin, udr_nil hu, List.map_append]
          rfl
        · rw [decide_eq_false hu]
          refine iteT ⟨_, rfl, D, _, rfl, l_of (e3 _ _ hD3), List.length_pos_iff.mpr hu, fun mx hm hle => ?_⟩
          refine ⟨f, _, _, rfl, rfl, e3 _ _ hf3, hflen, ?_⟩
          refine ⟨_, _, _, _, rfl, Evl.Ex.upd e23 hf, ?_⟩
          rw [upd_same, hfin, ← udr_max hm hle, List.map_append]
          rfl
    · rintro σ H' ⟨v3, v4, v5, v6, rfl, e, hf1⟩
      rw [hul, List.take_length] at hf1
      exact ⟨_, rfl, q f H' e hf hf1⟩
theorem D_law_layers (C : Fx w K mg base) : Dn P w K mg base 2 (a_law_layers K) (fdA K (a_law_layers K)) ["_law_pairs_here", "_law_row_here"] (spLay K) "_law_layers" := ⟨ok_law_layers C, C.g_law_layers, (F_law_layers C).kp, B_law_layers C⟩
end
end K91
/-! Q11 -/
namespace K91
open PySem PySem.Spec PyProof.Rows L2
open C8 (InsC call_isC pss_cut)
/-- a layer with its syllable, as a tuple -/
def KyR (K : PySem.W.Frag) (H : Hp) (v : V) (b : Int × Syl) : Prop := ∃ q w, v = .ref q ∧ SqT K H q [.int b.1, w] ∧ Sy K H w b.2
theorem KyR.nx {K : PySem.W.Frag} {H H' : Hp} (e : Nx H H') {v : V} {b : Int × Syl} (h : KyR K H v b) : KyR K H' v b := let ⟨q, w, a, b, c⟩ := h; ⟨q, w, a, nx_t e b, c.nx e⟩
theorem linKey : Lin (leD (Int × Syl)) := linPair linInt (linPair linStr linInt)
theorem leD_fst {a b : Int × Syl} (h : leD (Int × Syl) a b = true) : a.1 ≤ b.1 := by
  by_cases z : b.1 < a.1
  · have : leD (Int × Syl) a b = false := by
      show (!(if b.1 = a.1 then _ else decide (b.1 < a.1))) = false
      rw [if_neg (by omega), decide_eq_true z]
      rfl
    rw [this] at h
    cases h
  · omega
/-- sorted by layers: the row's syllables, reached by exchanges -/
theorem form_sorted {fr : Str → Str → Bool} (hs : ∀ a b, fr a b = fr b a) (s : List Syl) : Sw fr s ((((ann fr s).map fun p => (((p.2 : Nat) : Int), p.1)).mergeSort (leD (Int × Syl))).map (·.2)) := by
  obtain ⟨l, hl, hp⟩ : ∃ l : List (Syl × Nat), (((ann fr s).map fun p => (((p.2 : Nat) : Int), p.1)).mergeSort (leD (Int × Syl))) = l.map (fun p => (((p.2 : Nat) : Int), p.1)) ∧ l.Perm (ann fr s) := by
    have p := List.mergeSort_perm ((ann fr s).map fun p => (((p.2 : Nat) : Int), p.1)) (leD (Int × Syl))
    refine ⟨(((ann fr s).map fun p => (((p.2 : Nat) : Int), p.1)).mergeSort (leD (Int × Syl))).map fun q => (q.2, q.1.toNat), ?_, ?_⟩
    · rw [List.map_map]
      refine (List.map_id _).symm.trans (List.map_congr_left fun q hq => ?_)
      obtain ⟨x, _, hx⟩ := List.mem_map.mp (p.mem_iff.mp hq)
      subst hx
      rfl
    · refine (p.map _).trans ?_
      rw [List.map_map]
      refine List.Perm.of_eq ((List.map_congr_left fun x _ => ?_).trans (List.map_id _))
      rfl
  have hpw := List.pairwise_mergeSort linKey.trans linKey.total ((ann fr s).map fun p => (((p.2 : Nat) : Int), p.1))
  rw [hl, List.pairwise_map] at hpw
  rw [hl, List.map_map]
  exact sorted_sw hs hp (hpw.imp fun h => by have := leD_fst h; omega)
section
variable {P : Program} {w : World} {K : PySem.W.Frag} {mg : Str → Option Value} {base : Heap}
def spForm (K : PySem.W.Frag) : Sp := fun vs H Q _ => ∃ (b : Bool) (p : Addr) (zs : List V) (ps : List (Str × Str)) (a : Addr) (us : List V) (r : List Syl), vs = [.ref p, .ref a] ∧ SqA K H b p zs ∧ Paired (PrT K H) zs ps ∧ SqA K H true a us ∧ Sys K H us r ∧ r.length < 1000 ∧
  ∀ t H' ws f, Evl.Ex H H' → H t = none → H' t = some (.tup ws) → Sys K H' ws f → Al (frP ps) r f → f.length ≤ r.length → (∀ y ∈ f, ∃ z ∈ r, z.1 = y.1) → Q (.ref t) H'
theorem ok_law_form (C : Fx w K mg base) : FnOk P w K mg base CX0 4 (a_law_form K) (fdA K (a_law_form K)) ["_law_pairs_here", "_law_row_here"] (spForm K) := by
  refine (F_law_form C).ok S_law_form (fun vs H Q E h => ?_) (fun cdv A outer s H vs Q E hr h => ?_)
  · obtain ⟨b, p, zs, ps, a, us, r, rfl, _⟩ := h
    rfl
  · obtain ⟨b, p, zs, ps, a, us, r, rfl, hp, hps, ha, hs, hl, q⟩ := h
    refine ⟨_, (pss_cons (ps_set (i := 1) S_law_form.nd rfl (Or.inl rfl) (pe_cd (D_law_short C) (hr.mono (by decide)) (pa_cons (pv 0) (pa_cons (pv 1) pa_nil))))
      (pss_cons (ps_setLc (i := 2) (own := [("_law_layer", 3), ("_law_one", 4)]) (g := _) (tt := tYes) (by rfl) S_law_form.nd rfl rfl (sw_true rfl rfl rfl (by decide +kernel)) (pi_zipA (by rfl) C.z_zip (pa_cons (pe_cd (D_law_layers C) (hr.mono (by decide)) (pa_cons (pv 0) (pa_cons (pv 1) pa_nil))) (pa_cons (pv 1) pa_nil))) (blkOk_by (own := [("_law_layer", 3), ("_law_one", 4)]) (N := ["_law_pairs_here", "_law_row_here", "_law_keys", "_law_layer", "_law_one"]) (sc := defScope st_law_form) (by decide +kernel)) (fun _ _ _ _ _ => (pg_tupK (K := K) (n := 2) rfl (pgs_cons (pg_name (i := 3) S_law_form.nd rfl (Or.inl rfl)) (pgs_cons (pg_name (i := 4) S_law_form.nd rfl (Or.inl rfl)) pgs_nil)))) (fun _ _ _ _ _ => pts_nil) (fun _ _ _ _ _ => (pe_tup (pa_cons (pv 3) (pa_cons (pv 4) pa_nil)))))
      (pss_one (ps_ret (pe_callTy call_tuple_of (by rfl) C.z_tuple (by decide +kernel) (pa_cons (pe_lc (own := [("_law_layer", 3), ("_law_one", 4)]) (g := _) (tt := tYes) rfl S_law_form.nd (pi_any (pe_callB (cr_sortD (K := K) (β := Int × Syl) (by decide) sorts_pair hr.units) (by rfl) C.z_sorted (by decide +kernel) (pa_cons (pv 2) pa_nil))) (blkOk_by (own := [("_law_layer", 3), ("_law_one", 4)]) (N := ["_law_pairs_here", "_law_row_here", "_law_keys", "_law_layer", "_law_one"]) (sc := defScope st_law_form) (by decide +kernel)) (fun _ _ _ _ _ => (pg_tupK (K := K) (n := 2) rfl (pgs_cons (pg_name (i := 3) S_law_form.nd rfl (Or.inl rfl)) (pgs_cons (pg_name (i := 4) S_law_form.nd rfl (Or.inl rfl)) pgs_nil)))) (fun _ _ _ _ _ => pts_nil) (fun _ _ _ _ _ => (pv 4))) pa_nil)))))), ?_⟩
    have hzs := sizeLine_eq
    refine ⟨_, rfl, _, rfl, b, p, zs, ps, a, us, r, rfl, hp, hps, ha, hs, hl, fun l H1 ws s e1 hl0 hl1 hs1 hal hsl hsk => ?_⟩
    have hwl := pr_len hs1
    refine ⟨_, rfl, _, rfl, b, p, zs, ps, l, ws, s, rfl, sqA_ex e1 hp, pr_mono (fun _ _ z => PrT.nx (Nx.ofEx e1) z) hps, l_of hl1, hs1, by omega, fun ly H2 e2 hly0 hly => ?_⟩
    have hl2 := e2 _ _ hl1
    have hs2 := sys_ex e2 hs1
    have hlyl : ((lyI (frP ps) s).map V.int).length = ws.length := by
      unfold lyI
      rw [List.length_map, List.length_map, ann_len, hwl]
    refine ⟨_, rfl, true, true, ly, l, _, ws, rfl, l_of hly, l_of hl2, fun D hD => ?_⟩
    have e12 := Evl.Ex.trans e1 e2
    refine lcG_zip hlyl (fun i H' => ∃ acc, Evl.Ex H2 H' ∧ H' D = some (.lst acc) ∧ Paired (KyR K H') acc (((ann (frP ps) s).take i).map fun p => (((p.2 : Nat) : Int), p.1))) ⟨[], ex_new hD, upd_same .., .nil⟩ (fun i H' ⟨_, e, _⟩ => ⟨l_of (e _ _ hly), l_of (e _ _ hl2)⟩) ?_ ?_
    · rintro i x y T H3 hx hy ⟨acc, e3, hD3, hacc⟩ hT
      obtain ⟨y0, hy0, hsy⟩ := pr_get' hs2 hy
      have hag := ann_get (frP ps) hy0
      obtain ⟨dd, hdd⟩ : ∃ dd, dep (frP ps) y0.1 (annR (frP ps) (s.take i).reverse) = dd := ⟨_, rfl⟩
      rw [hdd] at hag
      have hx2 : x = .int (dd : Nat) := by
        unfold lyI at hx
        rw [List.getElem?_map, List.getElem?_map, hag] at hx
        exact (Option.some.inj hx).symm
      subst hx2
      have eT := ex_new (o := .tup [.int (dd : Nat), y]) hT
      have etk : (ann (frP ps) s).take (i + 1) = (ann (frP ps) s).take i ++ [(y0, dd)] := by rw [List.take_add_one, hag]; rfl
      have hacl := pr_len hacc
      rw [List.length_map, List.length_take, ann_len] at hacl
      refine ⟨T, _, rfl, t_of (upd_same ..), rfl, _, _, rfl, _, _, rfl, rfl, rfl, ?_⟩
      refine ⟨_, rfl, _, rfl, by show 2 ≤ sizeLine; decide, fun c hc => ?_⟩
      have ec := ex_new (o := .tup [.int (dd : Nat), y]) hc
      have e34 := Evl.Ex.trans eT ec
      refine ⟨acc, e34 _ _ hD3, by omega, acc ++ [.ref c], Evl.Ex.upd (Evl.Ex.trans e3 e34) hD, upd_same .., ?_⟩
      have hcD : c ≠ D := fun z => by rw [z, eT _ _ hD3] at hc; cases hc
      have nF : Nx H3 (upd (upd (upd H3 T (.tup [.int (dd : Nat), y])) c (.tup [.int (dd : Nat), y])) D (.lst (acc ++ [.ref c]))) := Nx.upd (Nx.ofEx e34) (.inr ⟨_, hD3⟩)
      rw [etk, List.map_append]
      refine pr_app (pr_mono (fun _ _ z => z.nx nF) hacc) (.cons ⟨c, y, rfl, t_of (by rw [upd_ne hcD, upd_same]), (hsy.nx (Nx.ofEx e3)).nx nF⟩ .nil)
    · rintro H3 ⟨acc, e3, hD3, hacc⟩
      have hfull : ((ann (frP ps) s).take ((lyI (frP ps) s).map V.int).length) = ann (frP ps) s := List.take_of_length_le (by rw [hlyl, ann_len]; omega)
      rw [hfull] at hacc
      have hacl := pr_len hacc
      rw [List.length_map, ann_len] at hacl
      refine ⟨_, rfl, D, acc, _, KyR K H3, rfl, .inl (l_of hD3), hacc, fun v b hv => ?_, fun zs' p' hp' hz' => ?_⟩
      · obtain ⟨q, w, rfl, h1, pw, rfl, h2⟩ := hv
        exact .tup h1 (.cons (.int _) (.cons (.tup h2 (.cons (.str _) (.cons (.int _) .nil))) .nil))
      · have e4 := ex_new (o := .lst zs') hp'
        obtain ⟨so, hso⟩ : ∃ so, ((ann (frP ps) s).map fun p => (((p.2 : Nat) : Int), p.1)).mergeSort (leD (Int × Syl)) = so := ⟨_, rfl⟩
        have hsw := form_sorted (frP_sym ps) s
        rw [hso] at hz' hsw
        have hzl := pr_len hz'
        have hsol : so.length = s.length := by rw [← hso, List.length_mergeSort, List.length_map, ann_len]
        refine ⟨true, p', zs', rfl, l_of (upd_same ..), fun D2 hD2 => ?_⟩
        refine lcG (xs := zs') (fun i H' => ∃ acc, Evl.Ex (upd H3 p' (.lst zs')) H' ∧ H' D2 = some (.lst acc) ∧ Sys K H' acc ((so.take i).map (·.2))) ⟨[], ex_new hD2, upd_same .., .nil⟩ (fun i H' _ ⟨_, e, _⟩ => l_of (e _ _ (upd_same ..))) ?_ ?_
        · rintro i v H5 hv ⟨acc2, e5, hD5, hacc2⟩
          obtain ⟨⟨d0, y0⟩, hb, q0, w0, rfl, h1, h2⟩ := pr_get' hz' hv
          have e45 := Evl.Ex.trans e4 e5
          have hil : i < so.length := (List.getElem?_eq_some_iff.mp hb).1
          have etk : so.take (i + 1) = so.take i ++ [(d0, y0)] := by rw [List.take_add_one, hb]; rfl
          have hacl2 := pr_len hacc2
          rw [List.length_map, List.length_take] at hacl2
          refine ⟨q0, _, rfl, Evl.ex_t e45 h1, rfl, _, _, rfl, _, _, rfl, rfl, rfl, _, rfl, acc2, hD5, by omega, acc2 ++ [w0], Evl.Ex.upd e5 hD2, upd_same .., ?_⟩
          have nF : Nx H5 (upd H5 D2 (.lst (acc2 ++ [w0]))) := Nx.upd (Nx.refl _) (.inr ⟨_, hD5⟩)
          rw [etk, List.map_append]
          exact pr_app (sys_nx nF hacc2) (.cons ((h2.nx (Nx.ofEx e45)).nx nF) .nil)
        · rintro H5 ⟨acc2, e5, hD5, hacc2⟩
          rw [List.take_of_length_le (by omega)] at hacc2
          refine ⟨D2, acc2, rfl, .inl ⟨l_of hD5, fun t ht => ?_⟩⟩
          have e6 := ex_new (o := .tup acc2) ht
          have e05 := Evl.Ex.trans e12 (Evl.Ex.trans e3 (Evl.Ex.trans e4 e5))
          have hpm := hsw.perm
          refine q t _ acc2 (so.map (·.2)) (Evl.Ex.trans e05 e6) (ex_free e05 ht) (upd_same ..) (sys_ex e6 hacc2) (.trans hal hsw.al) ?_ ?_
          · rw [← hpm.length_eq]
            exact hsl
          · intro y hy
            exact hsk y (hpm.mem_iff.mpr hy)
theorem D_law_form (C : Fx w K mg base) : Dn P w K mg base 4 (a_law_form K) (fdA K (a_law_form K)) ["_law_pairs_here", "_law_row_here"] (spForm K) "_law_form" := ⟨ok_law_form C, C.g_law_form, (F_law_form C).kp, B_law_form C⟩
end
end K91
/-! Q12 -/
namespace K91
open PySem PySem.Spec PyProof.Rows L2
open C8 (InsC call_isC pss_cut)
/-- those on which the i-th syllable hangs, and maybe more ahead of it -/
structure HangOk (fr : Str → Str → Bool) (f : List Syl) (i : Nat) (ns : List Int) : Prop where
  lt : ∀ j ∈ ns, 0 ≤ j ∧ j < (i : Int)
  bar : ∀ (j : Nat) (a b : Syl), j < i → f[i]? = some a → f[j]? = some b → fr a.1 b.1 = false → ((j : Nat) : Int) ∈ ns
  len : ns.length + 1 ≤ 2 ^ i
/-- a list of indexes, made since H0 -/
def HgR (H0 : Hp) (F : Addr) (H : Hp) (v : V) (ns : List Int) : Prop := ∃ q, v = .ref q ∧ H0 q = none ∧ q ≠ F ∧ H q = some (.lst (ns.map V.int))
section
variable {P : Program} {w : World} {K : PySem.W.Frag} {mg : Str → Option Value} {base : Heap}
def spHang (K : PySem.W.Frag) : Sp := fun vs H Q _ => ∃ (b : Bool) (p : Addr) (zs : List V) (ps : List (Str × Str)) (a : Addr) (us : List V) (r : List Syl), vs = [.ref p, .ref a] ∧ SqA K H b p zs ∧ Paired (PrT K H) zs ps ∧ SqT K H a us ∧ Sys K H us r ∧ r.length ≤ 20 ∧
  ∀ l H' hs hgs, Evl.Ex H H' → H l = none → H' l = some (.lst hs) → Paired (HgR H l H') hs hgs → hgs.length = r.length → (∀ i ns, hgs[i]? = some ns → HangOk (frP ps) r i ns) → Q (.ref l) H'
theorem ok_law_hang (C : Fx w K mg base) : FnOk P w K mg base CX0 2 (a_law_hang K) (fdA K (a_law_hang K)) ["_law_pairs_here", "_law_form_here"] (spHang K) := by
  refine (F_law_hang C).ok S_law_hang (fun vs H Q E h => ?_) (fun cdv A outer s H vs Q E hr h => ?_)
  · obtain ⟨b, p, zs, ps, a, us, r, rfl, _⟩ := h
    rfl
  · obtain ⟨b, p, zs, ps, a, us, r, rfl, hp, hps, ha, hs, hl, q⟩ := h
    refine ⟨_, (pss_cons (ps_set (i := 2) S_law_hang.nd rfl (Or.inl rfl) (pe_lst pa_nil))
      (pss_cons (ps_for PassesOwn.never rfl (pi_enumA (by rfl) C.z_enumerate (pa_cons (pv 1) pa_nil)) (pg_tup rfl (pgs_cons (pg_name (i := 3) S_law_hang.nd rfl (Or.inl rfl)) (pgs_cons (pg_tup rfl (pgs_cons (pg_name (i := 4) S_law_hang.nd rfl (Or.inl rfl)) (pgs_cons (pg_name (i := 5) S_law_hang.nd rfl (Or.inl rfl)) pgs_nil))) pgs_nil)))
        (pss_cons (ps_set (i := 6) S_law_hang.nd rfl (Or.inr rfl) (pe_lst pa_nil))
        (pss_cons (ps_for PassesOwn.never rfl (pi_range1 (by rfl) C.z_range (pa_cons (pv 3) pa_nil)) (pg_name (i := 7) S_law_hang.nd rfl (Or.inl rfl))
          (pss_one (ps_if (pt_not (pt_val (pe_cd (D_law_is_free C) (hr.mono (by decide)) (pa_cons (pv 0) (pa_cons (pv 4) (pa_cons (pe_ix ix_tup (pe_ix ix_tup (pv 1) (pv 7) (fun _ _ => rfl)) pe_int (fun _ _ => rfl)) pa_nil))))))
            (pss_one (ps_expr (pe_bm PySem.F.plainAttrs_list PySem.F.slot_list_extend PySem.F.type_list_extend mt_extend (pv 6) (pa_cons (pe_lc (own := [("_law_spot", 8)]) (g := gName 8) (tt := _) rfl S_law_hang.nd (pi_any (pe_op op_cat (pe_ix ix_list (pv 2) (pv 7) (fun _ _ => rfl)) (pe_lst (pa_cons (pv 7) pa_nil)))) (blkOk_by (own := [("_law_spot", 8)]) (N := ["_law_pairs_here", "_law_form_here", "_law_found", "_law_at", "_law_kind", "_law_count_here", "_law_under", "_law_to", "_law_spot"]) (sc := defScope st_law_hang) (by decide +kernel)) (fun _ _ _ _ _ => (pg_name (i := 8) S_law_hang.nd rfl (Or.inl rfl))) (fun _ _ _ _ _ => (pts_one (pt_cmpR (op_notInT (K := K) (α := Int) (by exact hr.units) (by decide)) (pv 8) (pv 6) (by rfl)))) (fun _ _ _ _ _ => (pv 8))) pa_nil))))
            pss_nil)))
        (pss_one (ps_expr (pe_bm PySem.F.plainAttrs_list PySem.F.slot_list_append PySem.F.type_list_append mt_append (pv 2) (pa_cons (pe_callB (cr_sortD (K := K) (β := Int) (by decide) sorts_int hr.units) (by rfl) C.z_sorted (by decide +kernel) (pa_cons (pv 6) pa_nil)) pa_nil)))))))
      (pss_one (ps_ret (pv 2))))), ?_⟩
    have hzs := sizeLine_eq
    have hul := pr_len hs
    have pw : ∀ i, i ≤ 20 → 2 ^ i ≤ 1048576 := fun i hi => Nat.pow_le_pow_right (by decide) hi
    refine ⟨by show 0 ≤ sizeLine; decide, fun f hf => ?_⟩
    have e0 := ex_new (o := .lst []) hf
    refine ⟨_, rfl, false, a, us, rfl, Evl.ex_t e0 ha, ?_⟩
    refine for_enumA (b := false) (xs := us) (fun i σ H' => ∃ v3 v4 v5 v6 v7 hs hgs, σ = [some (.ref p), some (.ref a), some (.ref f), v3, v4, v5, v6, v7, none] ∧ Evl.Ex H H' ∧ H' f = some (.lst hs) ∧ Paired (HgR H f H') hs hgs ∧ hgs.length = i ∧ ∀ j ns, hgs[j]? = some ns → HangOk (frP ps) r j ns)
      ⟨none, none, none, none, none, [], [], rfl, e0, upd_same .., .nil, rfl, fun j ns h => (nomatch h)⟩ (fun i σ H' _ ⟨_, _, _, _, _, _, _, _, e, _⟩ => Evl.ex_t e ha) ?_ ?_
    · rintro i x Wt σ H1 hx ⟨v3, v4, v5, v6, v7, hs1, hgs, rfl, e, hf1, hhg, hgl, hok⟩ hW
      obtain ⟨⟨k, m⟩, hy, py, rfl, hpy⟩ := pr_get' hs hx
      have hil : i < r.length := (List.getElem?_eq_some_iff.mp hy).1
      have eW := ex_new (o := .tup [.int (i : Nat), .ref py]) hW
      have e1 := Evl.Ex.trans e eW
      refine ⟨Wt, _, rfl, t_of (upd_same ..), rfl, _, _, rfl, _, _, rfl, ⟨py, _, rfl, Evl.ex_t e1 hpy, rfl, _, _, rfl, _, _, rfl, rfl, rfl, ?_⟩⟩
      refine ⟨by show 0 ≤ sizeLine; decide, fun u hu => ?_⟩
      refine ⟨_, rfl, (i : Int), rfl, by omega, by omega, ?_⟩
      rw [Int.toNat_natCast]
      obtain ⟨HT, hHT⟩ : ∃ HT, HT = upd H1 Wt (.tup [.int (i : Nat), .ref py]) := ⟨_, rfl⟩
      rw [← hHT] at e1 eW hu ⊢
      have hfT := eW _ _ hf1
      have huf : u ≠ f := fun z => by rw [z, hfT] at hu; cases hu
      refine for_range (fun j σ H' => ∃ v7 uns, σ = [some (.ref p), some (.ref a), some (.ref f), some (.int (i : Nat)), some (.str k), some (.int m), some (.ref u), v7, none] ∧ Evl.Ex HT H' ∧ H' u = some (.lst (uns.map V.int)) ∧ (∀ x ∈ uns, 0 ≤ x ∧ x < (i : Int)) ∧ (∀ (n : Nat) (y : Syl), n < j → r[n]? = some y → frP ps k y.1 = false → ((n : Nat) : Int) ∈ uns) ∧ uns.length + 1 ≤ 2 ^ j)
        ⟨v7, [], rfl, ex_new hu, upd_same .., fun x h => (nomatch h), fun n y h => absurd h (Nat.not_lt_zero _), Nat.le_refl _⟩ ?_ ?_
      · rintro j σ H2 hj ⟨v7, uns, rfl, e2, hu2, hun, hub, hulen⟩
        have ej : (0 : Int) + (j : Nat) = ((j : Nat) : Int) := by omega
        rw [ej]
        have hjr : j < r.length := by omega
        have e12 := Evl.Ex.trans e1 e2
        obtain ⟨vz, hvz, pz, rfl, hpz⟩ := pr_get hs (List.getElem?_eq_getElem hjr)
        refine ⟨_, rfl, _, rfl, _, rfl, _, rfl, a, us, (j : Int), .ref pz, rfl, rfl, Evl.ex_t e12 ha, atI_nat hvz, pz, _, (0 : Int), _, rfl, rfl, Evl.ex_t e12 hpz, atI_nat (j := 0) rfl, ?_⟩
        refine ⟨b, p, zs, ps, k, r[j].1, rfl, sqA_ex e12 hp, pr_mono (fun _ _ z => PrT.nx (Nx.ofEx e12) z) hps, fun H3 e3 => ⟨_, rfl, ?_⟩⟩
        have e23 := Evl.Ex.trans e2 e3
        have hu3 := e3 _ _ hu2
        have hpj := Nat.pow_succ 2 j
        have hpi := pw j (by omega)
        cases hfr : frP ps k r[j].1 with
        | true =>
          refine iteF ⟨_, uns, rfl, e23, hu3, hun, fun n y hn hy2 hfy => ?_, by omega⟩
          by_cases z : n = j
          · subst z
            rw [List.getElem?_eq_getElem hjr] at hy2
            cases hy2
            rw [hfr] at hfy
            cases hfy
          · exact hub n y (by omega) hy2 hfy
        | false =>
          have hjh : j < hgs.length := by omega
          obtain ⟨vq, hvq, qj, rfl, hqj0, hqjf, hqj⟩ := pr_get hhg (List.getElem?_eq_getElem hjh)
          obtain ⟨hlt, _, hnl⟩ := hok j _ (List.getElem?_eq_getElem hjh)
          generalize hgs[j] = nj at hqj hlt hnl
          have hq3 := e23 _ _ (eW _ _ hqj)
          refine iteT ⟨_, rfl, .inl ⟨rfl, _, l_of hu3⟩, ?_⟩
          refine ⟨_, rfl, _, rfl, f, hs1, (j : Int), .ref qj, rfl, rfl, l_of (e23 _ _ hfT), atI_nat hvq, ?_⟩
          refine ⟨_, rfl, by show 1 ≤ sizeLine; decide, fun o ho => ?_⟩
          have eo := ex_new (o := .lst [.int (j : Nat)]) ho
          refine ⟨qj, o, _, _, rfl, rfl, eo _ _ hq3, upd_same .., by rw [List.length_map]; show nj.length + 1 ≤ sizeLine; omega, fun c hc => ?_⟩
          have hcat : nj.map V.int ++ [V.int ((j : Nat) : Int)] = (nj ++ [((j : Nat) : Int)]).map V.int := by rw [List.map_append]; rfl
          rw [hcat]
          have ec := Evl.Ex.trans eo (ex_new (o := .lst ((nj ++ [((j : Nat) : Int)]).map V.int)) hc)
          refine ⟨true, c, _, rfl, l_of (upd_same ..), fun D hD => ?_⟩
          obtain ⟨Hc, hHc⟩ : ∃ Hc, Hc = upd (upd H3 o (.lst [.int (j : Nat)])) c (.lst ((nj ++ [((j : Nat) : Int)]).map V.int)) := ⟨_, rfl⟩
          have hcc : Hc c = some (.lst ((nj ++ [((j : Nat) : Int)]).map V.int)) := by rw [hHc]; exact upd_same ..
          rw [← hHc] at ec hD ⊢
          have huc := ec _ _ hu3
          have hDu : D ≠ u := fun z => by rw [z, huc] at hD; cases hD
          refine lcG (xs := (nj ++ [((j : Nat) : Int)]).map V.int) (fun n H' => ∃ acc : List Int, Evl.Ex Hc H' ∧ H' D = some (.lst (acc.map V.int)) ∧ acc.length ≤ n ∧ (∀ x ∈ acc, x ∈ nj ++ [((j : Nat) : Int)]) ∧ (∀ x ∈ (nj ++ [((j : Nat) : Int)]).take n, x ∈ uns ∨ x ∈ acc))
            ⟨[], ex_new hD, upd_same .., Nat.le_refl _, fun x h => (nomatch h), fun x h => by simp at h⟩ (fun n H' _ ⟨_, e, _⟩ => l_of (e _ _ hcc)) ?_ ?_
          · rintro n v H4 hv ⟨acc, e4, hD4, hal, ham, hat⟩
            rw [List.getElem?_map] at hv
            obtain ⟨z, hz, rfl⟩ := Option.map_eq_some_iff.mp hv
            have hnl2 : n < (nj ++ [((j : Nat) : Int)]).length := (List.getElem?_eq_some_iff.mp hz).1
            have hnl3 : n < nj.length + 1 := by simpa using hnl2
            have etk : (nj ++ [((j : Nat) : Int)]).take (n + 1) = (nj ++ [((j : Nat) : Int)]).take n ++ [z] := by rw [List.take_add_one, hz]; rfl
            refine ⟨rfl, _, rfl, _, rfl, u, _, z, uns, rfl, .int z, l_of (e4 _ _ huc), ints_pr uns, _, rfl, ?_⟩
            by_cases hzu : z ∈ uns
            · rw [decide_eq_false (fun h => h hzu)]
              refine iteF ⟨acc, e4, hD4, by omega, ham, fun x hx => ?_⟩
              rw [etk] at hx
              rcases List.mem_append.mp hx with h | h
              · exact hat x h
              · rw [List.mem_singleton] at h
                rw [h]
                exact .inl hzu
            · rw [decide_eq_true hzu]
              refine iteT ⟨_, rfl, _, hD4, by rw [List.length_map]; omega, acc ++ [z], Evl.Ex.upd e4 hD, by rw [upd_same, List.map_append]; rfl, by simp; omega, fun x hx => ?_, fun x hx => ?_⟩
              · rcases List.mem_append.mp hx with h | h
                · exact ham x h
                · rw [List.mem_singleton] at h
                  rw [h]
                  exact List.mem_of_getElem? hz
              · rw [etk] at hx
                rcases List.mem_append.mp hx with h | h
                · exact (hat x h).imp id fun h => List.mem_append_left _ h
                · exact .inr (List.mem_append_right _ h)
          · rintro H4 ⟨acc, e4, hD4, hal, ham, hat⟩
            rw [List.length_map, List.length_append] at hal hat
            have hal : acc.length ≤ nj.length + 1 := hal
            rw [List.take_of_length_le (by simp)] at hat
            refine ⟨u, D, _, _, rfl, rfl, e4 _ _ huc, hD4, by rw [List.length_map, List.length_map]; omega, ?_⟩
            have e24 : Evl.Ex HT H4 := Evl.Ex.trans e23 (Evl.Ex.trans ec e4)
            refine ⟨_, uns ++ acc, rfl, Evl.Ex.upd e24 hu, by rw [upd_same, List.map_append], fun x hx => ?_, fun n y hn hy2 hfy => ?_, by rw [List.length_append]; omega⟩
            · rcases List.mem_append.mp hx with h | h
              · exact hun x h
              · rcases List.mem_append.mp (ham x h) with h2 | h2
                · have := hlt x h2
                  omega
                · rw [List.mem_singleton] at h2
                  omega
            · by_cases z : n = j
              · subst z
                rcases hat ((n : Nat) : Int) (by simp) with h | h
                · exact List.mem_append_left _ h
                · exact List.mem_append_right _ h
              · exact List.mem_append_left _ (hub n y (by omega) hy2 hfy)
      · rintro σ H2 ⟨v7, uns, rfl, e2, hu2, hun, hub, hulen⟩
        have hpi := pw i (by omega)
        have hhl := pr_len hhg
        refine ⟨_, rfl, .inl ⟨rfl, _, l_of (e2 _ _ hfT)⟩, ?_⟩
        refine ⟨_, rfl, u, _, uns, (fun v z => v = V.int z), rfl, .inl (l_of hu2), pr_ints uns, fun v b h => by rw [h]; exact .int b, fun zs' p' hp' hz' => ?_⟩
        rw [pr_ints' hz']
        have e3 := ex_new (o := .lst ((uns.mergeSort (leD Int)).map V.int)) hp'
        have e13 := Evl.Ex.trans e1 (Evl.Ex.trans e2 e3)
        have hpf : p' ≠ f := fun z => by rw [z, e2 _ _ hfT] at hp'; cases hp'
        have hpm := List.mergeSort_perm uns (leD Int)
        refine ⟨f, hs1, .ref p', rfl, rfl, (Evl.Ex.trans e2 e3) _ _ hfT, by omega, ?_⟩
        refine ⟨_, _, _, _, _, hs1 ++ [.ref p'], hgs ++ [uns.mergeSort (leD Int)], rfl, Evl.Ex.upd e13 hf, upd_same .., pr_app (pr_mono (fun _ _ ⟨q, h1, h2, h3, h4⟩ => ⟨q, h1, h2, h3, by rw [upd_ne h3]; exact (Evl.Ex.trans eW (Evl.Ex.trans e2 e3)) _ _ h4⟩) hhg) (.cons ⟨p', rfl, ex_free (Evl.Ex.trans e1 e2) hp', hpf, by rw [upd_ne hpf, upd_same]⟩ .nil), by simp [hgl], fun j ns hj => ?_⟩
        by_cases z : j < hgs.length
        · rw [List.getElem?_append_left z] at hj
          exact hok j ns hj
        · rw [List.getElem?_append_right (by omega)] at hj
          have hj0 : j - hgs.length = 0 := by
            cases hq : j - hgs.length with
            | zero => rfl
            | succ n => rw [hq] at hj; cases hj
          rw [hj0] at hj
          cases hj
          have hji : j = i := by omega
          subst hji
          refine ⟨fun x hx => hun x (hpm.mem_iff.mp hx), fun n a' b' hn h1 h2 h3 => hpm.mem_iff.mpr (hub n b' hn h2 ?_), by rw [hpm.length_eq]; exact hulen⟩
          rw [hy] at h1
          cases h1
          exact h3
    · rintro σ H' ⟨v3, v4, v5, v6, v7, hs1, hgs, rfl, e, hf1, hhg, hgl, hok⟩
      exact ⟨_, rfl, q f H' hs1 hgs e hf hf1 hhg (by omega) hok⟩
theorem D_law_hang (C : Fx w K mg base) : Dn P w K mg base 2 (a_law_hang K) (fdA K (a_law_hang K)) ["_law_pairs_here", "_law_form_here"] (spHang K) "_law_hang" := ⟨ok_law_hang C, C.g_law_hang, (F_law_hang C).kp, B_law_hang C⟩
end
end K91
/-! Q13 -/
namespace K91
open PySem PySem.Spec PyProof.Rows L2
open C8 (InsC call_isC pss_cut)
/-- the scope of the outer comprehension, as it stands in the def -/
def scReady : Scope := { kind := .function, names := [(".0", .local), ("_law_at", .local), ("_law_hang_here", .cell), ("_law_left", .cell)], isGenerator := false, isCoroutine := false }
def gtS (f : List Syl) (n : Nat) : Syl := (f[n]?).getD ("", 0)
theorem gtS_range (f : List Syl) : (List.range f.length).map (gtS f) = f := by
  refine List.ext_getElem (by simp) fun i h1 h2 => ?_
  simp [gtS, h2]
def li (l : List Nat) : List Int := l.map fun n => ((n : Nat) : Int)
theorem mem_li {l : List Nat} {n : Nat} : ((n : Nat) : Int) ∈ li l ↔ n ∈ l := by
  unfold li
  rw [List.mem_map]
  constructor
  · rintro ⟨m, hm, e⟩
    have : m = n := by omega
    rw [← this]
    exact hm
  · intro h
    exact ⟨n, h, rfl⟩
abbrev X4 (d c f l : Addr) : Addr → Prop := fun a => a = d ∨ a = c ∨ a = f ∨ a = l
/-- one turn: what hangs on none that is left goes ahead -/
theorem order_turn {fr : Str → Str → Bool} (hs : ∀ a b, fr a b = fr b a) {f o : List Syl} {u v : List Nat} {x : Nat} {ns : List Int} (hsw : Sw fr f (o ++ (u ++ x :: v).map (gtS f))) (hp : (u ++ x :: v).Pairwise (· < ·)) (hlt : ∀ y ∈ u ++ x :: v, y < f.length)
    (hg : HangOk fr f x ns) (hno : ∀ t ∈ ns, ¬ t ∈ li (u ++ x :: v)) : Sw fr f ((o ++ [gtS f x]) ++ (u ++ v).map (gtS f)) := by
  rw [List.map_append, List.map_cons] at hsw
  have hfree : ∀ y ∈ u.map (gtS f), fr (gtS f x).1 y.1 = true := by
    intro y hy
    obtain ⟨j, hj, rfl⟩ := List.mem_map.mp hy
    have hjx : j < x := (List.pairwise_append.mp hp).2.2 j hj x List.mem_cons_self
    have hx : x < f.length := hlt x (by simp)
    cases h : fr (gtS f x).1 (gtS f j).1 with
    | true => rfl
    | false =>
      have ex : f[x]? = some (gtS f x) := by unfold gtS; rw [List.getElem?_eq_getElem hx]; rfl
      have ej : f[j]? = some (gtS f j) := by unfold gtS; rw [List.getElem?_eq_getElem (by omega)]; rfl
      exact absurd (mem_li.mpr (show j ∈ u ++ x :: v by simp [hj])) (hno _ (hg.bar j _ _ hjx ex ej h))
  have := Sw.front hs (gtS f x) (v.map (gtS f)) (u.map (gtS f)) hfree
  refine hsw.trans ?_
  rw [List.append_assoc, List.map_append]
  exact this.pre o
/-- the first one left hangs on none that is left -/
theorem first_ready {fr : Str → Str → Bool} {f : List Syl} {x : Nat} {v : List Nat} {ns : List Int} (hp : (x :: v).Pairwise (· < ·)) (hg : HangOk fr f x ns) : ∀ t ∈ ns, ¬ t ∈ li (x :: v) := by
  intro t ht hm
  have h1 := hg.lt t ht
  obtain ⟨m, hm, e⟩ := List.mem_map.mp hm
  have e : (m : Int) = t := e
  rcases List.mem_cons.mp hm with h | h
  · omega
  · have := (List.pairwise_cons.mp hp).1 m h
    omega
theorem erase_mid {α : Type} (u v : List α) (x : α) : (u ++ x :: v).eraseIdx u.length = u ++ v := by
  induction u with
  | nil => rfl
  | cons y u ih =>
    show y :: (u ++ x :: v).eraseIdx u.length = _
    rw [ih]
    rfl
section
variable {P : Program} {w : World} {K : PySem.W.Frag} {mg : Str → Option Value} {base : Heap}
def spOrd (K : PySem.W.Frag) : Sp := fun vs H Q _ => ∃ (d c : Addr) (b : Bool) (p : Addr) (zs : List V) (ps : List (Str × Str)) (t : Addr) (us : List V) (f : List Syl), vs = [.ref d, .ref p, .ref t] ∧ Dl H d c ∧ SqA K H b p zs ∧ Paired (PrT K H) zs ps ∧ SqT K H t us ∧ Sys K H us f ∧ f.length ≤ 20 ∧
  ∀ l H' ws o, Kx (X2 d c) H H' → Dl H' d c → H l = none → H' l = some (.lst ws) → Sys K H' ws o → Sw (frP ps) f o → Q (.ref l) H'
theorem ok_law_some_order (C : Fx w K mg base) : FnOk P w K mg base CX0 3 (a_law_some_order K) (fdA K (a_law_some_order K)) ["_law_deal_here", "_law_pairs_here", "_law_form_here"] (spOrd K) := by
  refine (F_law_some_order C).ok S_law_some_order (fun vs H Q E h => ?_) (fun cdv A outer s H vs Q E hr h => ?_)
  · obtain ⟨d, c, b, p, zs, ps, t, us, f, rfl, _⟩ := h
    rfl
  · obtain ⟨d, c, b, p, zs, ps, t, us, f, rfl, hDl, hp, hps, ht, hs, hl, q⟩ := h
    refine ⟨_, (pss_cons (ps_asg (pe_tup (pa_cons (pe_lst pa_nil) (pa_cons (pe_listRg rfl (by rfl) C.z_list (prg_1 (by rfl) C.z_range (pe_callB call_len_seq (by rfl) C.z_len (by decide +kernel) (pa_cons (pv 2) pa_nil)))) (pa_cons (pe_cd (D_law_hang C) (hr.mono (by decide)) (pa_cons (pv 1) (pa_cons (pv 2) pa_nil))) pa_nil)))) (pg_tup rfl (pgs_cons (pg_name (i := 3) S_law_some_order.nd rfl (Or.inl rfl)) (pgs_cons (pg_name (i := 4) S_law_some_order.nd rfl (Or.inr rfl)) (pgs_cons (pg_name (i := 5) S_law_some_order.nd rfl (Or.inr rfl)) pgs_nil)))))
      (pss_cons (ps_while PassesOwn.never (pt_cmpR (op_neT (α := List Int) hr.units (by decide)) (pv 4) (pe_lst pa_nil) (nomark _))
        (pss_cons (ps_setLc (i := 6) (own := [("_law_at", 7)]) (g := gName 7) (tt := _) (by rfl) S_law_some_order.nd rfl rfl (sw_true rfl rfl rfl (by decide +kernel)) (pi_any (pv 4)) (blkOk_by (own := [("_law_at", 7)]) (N := ["_law_deal_here", "_law_pairs_here", "_law_form_here", "_law_found", "_law_left", "_law_hang_here", "_law_ready", "_law_at", "_law_to"]) (sc := defScope st_law_some_order) (by decide +kernel)) (fun _ _ _ _ _ => (pg_name (i := 7) S_law_some_order.nd rfl (Or.inl rfl))) (fun _ _ _ _ _ => (pts_one (pt_cmpR (op_eqT (K := K) (α := List Int) (by exact hr.units) (by decide)) (pe_lc (own := [("_law_to", 8)]) (g := gName 8) (tt := _) rfl S_law_some_order.nd (pi_anyK (K := K) (pe_ix (ix_listK (K := K)) (pv 5) (pv 7) (fun _ _ => rfl))) (blkOk_by (own := [("_law_to", 8)]) (N := ["_law_deal_here", "_law_pairs_here", "_law_form_here", "_law_found", "_law_left", "_law_hang_here", "_law_ready", "_law_at", "_law_to"]) (sc := scReady) (by decide +kernel)) (fun _ _ _ _ _ => (pg_name (i := 8) S_law_some_order.nd rfl (Or.inl rfl))) (fun _ _ _ _ _ => (pts_one (pt_cmpR (op_inT (K := K) (α := Int) (by exact hr.units) (by decide)) (pv 8) (pv 4) (by rfl)))) (fun _ _ _ _ _ => (pv 8))) (pe_lst pa_nil) (nomark _)))) (fun _ _ _ _ _ => (pv 7)))
        (pss_cons (ps_set (i := 7) S_law_some_order.nd rfl (Or.inl rfl) (pe_ix ix_list (pv 6) (pe_cd (D_law_draw C) (hr.mono (by decide)) (pa_cons (pv 0) (pa_cons (pe_callB call_len_seq (by rfl) C.z_len (by decide +kernel) (pa_cons (pv 6) pa_nil)) pa_nil))) (fun _ _ => rfl)))
        (pss_cons (ps_expr (pe_bm PySem.F.plainAttrs_list PySem.F.slot_list_remove PySem.F.type_list_remove mt_remove (pv 4) (pa_cons (pv 7) pa_nil)))
        (pss_one (ps_expr (pe_bm PySem.F.plainAttrs_list PySem.F.slot_list_append PySem.F.type_list_append mt_append (pv 3) (pa_cons (pe_ix ix_tup (pv 2) (pv 7) (fun _ _ => rfl)) pa_nil))))))))
      (pss_one (ps_ret (pv 3))))), ?_⟩
    have hzs := sizeLine_eq
    have hul := pr_len hs
    refine ⟨by show 0 ≤ sizeLine; decide, fun F hF => ?_⟩
    have e0 := ex_new (o := .lst []) hF
    refine ⟨_, rfl, t, _, rfl, .inr (Evl.ex_t e0 ht), (us.length : Int), rfl, RgOk.of_le (by omega) (by omega) (by omega) (by omega), fun L hL => ?_⟩
    have hrg : rgV 0 (us.length : Int) = (li (List.range f.length)).map V.int := by
      unfold rgV li
      rw [List.map_map, Int.sub_zero, Int.toNat_natCast, hul]
      refine List.map_congr_left fun i _ => ?_
      show V.int (0 + (i : Int)) = V.int (i : Int)
      rw [Int.zero_add]
    rw [hrg]
    have e1 := Evl.Ex.trans e0 (ex_new (o := .lst ((li (List.range f.length)).map V.int)) hL)
    have hLF : L ≠ F := fun z => by rw [z, upd_same] at hL; cases hL
    have hLH := ex_free e0 hL
    obtain ⟨H0, hH0⟩ : ∃ H0, H0 = upd (upd H F (.lst [])) L (.lst ((li (List.range f.length)).map V.int)) := ⟨_, rfl⟩
    have hF0 : H0 F = some (.lst []) := by rw [hH0, upd_ne (fun z => hLF z.symm), upd_same]
    have hL0 : H0 L = some (.lst ((li (List.range f.length)).map V.int)) := by rw [hH0, upd_same]
    rw [← hH0] at e1 ⊢
    have hDl0 := hDl.ex e1
    refine ⟨_, rfl, _, rfl, b, p, zs, ps, t, us, f, rfl, sqA_ex e1 hp, pr_mono (fun _ _ z => PrT.nx (Nx.ofEx e1) z) hps, Evl.ex_t e1 ht, sys_ex e1 hs, hl, fun h H1 hs1 hgs e2 hh0 hh1 hhg hgl hok => ?_⟩
    refine ⟨by show 3 ≤ sizeLine; decide, fun T hT => ?_⟩
    have eT := ex_new (o := .tup [.ref F, .ref L, .ref h]) hT
    refine ⟨T, _, rfl, t_of (upd_same ..), rfl, _, _, rfl, _, _, rfl, _, _, rfl, rfl, ?_⟩
    have e12 := Evl.Ex.trans e1 e2
    have nF : ¬ X2 d c F := hDl.fresh hF
    have nL : ¬ X2 d c L := hDl.fresh hLH
    have nX4 : ∀ a, H0 a = none → ¬ X4 d c F L a := fun a ha z => by
      rcases z with z | z | z | z
      · exact hDl0.fresh ha (.inl z)
      · exact hDl0.fresh ha (.inr z)
      · rw [z, hF0] at ha; cases ha
      · rw [z, hL0] at ha; cases ha
    have back : ∀ H', Kx (X4 d c F L) H1 H' → Kx (X2 d c) H H' := fun H' k a o n ha => k a o (fun z => by
      rcases z with z | z | z | z
      · exact n (.inl z)
      · exact n (.inr z)
      · rw [z, hF] at ha; cases ha
      · rw [z, hLH] at ha; cases ha) (e12 _ _ ha)
    refine ⟨fun m σ H' => ∃ fs o left v6 v7, σ = [some (.ref d), some (.ref p), some (.ref t), some (.ref F), some (.ref L), some (.ref h), v6, v7, none] ∧ m = left.length ∧ Kx (X4 d c F L) H1 H' ∧ Dl H' d c ∧ H' F = some (.lst fs) ∧ Sys K H' fs o ∧ H' L = some (.lst ((li left).map V.int)) ∧ left.Pairwise (· < ·) ∧ (∀ x ∈ left, x < f.length) ∧ Sw (frP ps) f (o ++ left.map (gtS f)),
      ⟨_, [], [], List.range f.length, none, none, rfl, rfl, Kx.ofEx eT, (hDl0.ex e2).ex eT, eT _ _ (e2 _ _ hF0), .nil, eT _ _ (e2 _ _ hL0), List.pairwise_lt_range, fun x hx => List.mem_range.mp hx, by rw [List.nil_append, gtS_range]; exact .refl _⟩, ?_⟩
    rintro m σ H' ⟨fs, o, left, v6, v7, rfl, rfl, k, hD', hF', hfo, hL', hpw, hlt, hsw⟩
    have kH := back H' k
    have nH := hDl.nx kH
    have hfl := pr_len hfo
    have hswl := hsw.len
    rw [List.length_append, List.length_map] at hswl
    refine ⟨_, rfl, by show 0 ≤ sizeLine; decide, fun z hz => ?_⟩
    have ez := ex_new (o := .lst []) hz
    refine ⟨li left, ([] : List Int), ints_dpL (l_of (ez _ _ hL')), ints_dpL (l_of (upd_same ..)), _, rfl, ?_⟩
    cases left with
    | nil =>
      rw [decide_eq_true (show li [] = [] from rfl)]
      refine iteF ⟨_, rfl, ?_⟩
      rw [List.map_nil, List.append_nil] at hsw
      exact q F _ fs o (Kx.trans kH (Kx.ofEx ez)) (hD'.ex ez) hF (ez _ _ hF') (sys_ex ez hfo) hsw
    | cons x0 rest =>
      rw [decide_eq_false (by unfold li; simp)]
      refine iteT ⟨_, fun σ' H2 h => h, ?_⟩
      obtain ⟨left, hleft⟩ : ∃ left, left = x0 :: rest := ⟨_, rfl⟩
      have hx0 : x0 ∈ left := by rw [hleft]; exact List.mem_cons_self
      have hrdy0 : ∀ ns, hgs[x0]? = some ns → ∀ t ∈ ns, ¬ t ∈ li left := fun ns hns => by
        rw [hleft]
        exact first_ready hpw (hok _ _ hns)
      rw [← hleft] at hL' hpw hlt hsw hswl ⊢
      -- the ready ones
      obtain ⟨Hz, hHz⟩ : ∃ Hz, Hz = upd H' z (.lst []) := ⟨_, rfl⟩
      rw [← hHz] at ez ⊢
      have kz := Kx.trans k (Kx.ofEx (X := X4 d c F L) ez)
      have hh' : Hz h = some (.lst hs1) := kz _ _ (nX4 h hh0) (eT _ _ hh1 |> fun _ => hh1)
      have hLz := ez _ _ hL'
      have hFz := ez _ _ hF'
      refine ⟨_, rfl, true, L, _, rfl, l_of hLz, fun D hD => ?_⟩
      refine lcG (xs := (li left).map V.int) (fun n H2 => ∃ acc : List Nat, Evl.Ex Hz H2 ∧ H2 D = some (.lst ((li acc).map V.int)) ∧ acc.length ≤ n ∧ (∀ x ∈ acc, x ∈ left ∧ ∀ ns, hgs[x]? = some ns → ∀ t ∈ ns, ¬ t ∈ li left) ∧ (∀ x ∈ left.take n, (∀ ns, hgs[x]? = some ns → ∀ t ∈ ns, ¬ t ∈ li left) → x ∈ acc))
        ⟨[], ex_new hD, upd_same .., Nat.le_refl _, fun x h => (nomatch h), fun x h => by simp at h⟩ (fun n H2 _ ⟨_, e, _⟩ => l_of (e _ _ hLz)) ?_ ?_
      · rintro n v H2 hv ⟨acc, e3, hD3, hal, ham, hat⟩
        rw [List.getElem?_map] at hv
        obtain ⟨y', hy', rfl⟩ := Option.map_eq_some_iff.mp hv
        unfold li at hy'
        rw [List.getElem?_map] at hy'
        obtain ⟨y, hy, rfl⟩ := Option.map_eq_some_iff.mp hy'
        have hyl : y < f.length := hlt y (List.mem_of_getElem? hy)
        have hnl : n < left.length := (List.getElem?_eq_some_iff.mp hy).1
        have etk : left.take (n + 1) = left.take n ++ [y] := by rw [List.take_add_one, hy]; rfl
        obtain ⟨ns, hns⟩ : ∃ ns, hgs[y]? = some ns := ⟨_, List.getElem?_eq_getElem (by omega)⟩
        obtain ⟨vq, hvq, qj, rfl, hqj0, hqjf, hqj⟩ := pr_get hhg hns
        have hqz : H2 qj = some (.lst (ns.map V.int)) := e3 _ _ (kz _ _ (nX4 qj hqj0) hqj)
        refine ⟨rfl, ?_⟩
        refine ⟨_, rfl, _, rfl, h, hs1, (y : Int), .ref qj, rfl, rfl, l_of (e3 _ _ hh'), atI_nat hvq, true, qj, _, rfl, l_of hqz, fun D2 hD2 => ?_⟩
        have hD2D : D ≠ D2 := fun z => by rw [← z, hD3] at hD2; cases hD2
        refine lcG (xs := ns.map V.int) (fun i H4 => ∃ acc2 : List Int, Evl.Ex H2 H4 ∧ H4 D2 = some (.lst (acc2.map V.int)) ∧ acc2.length ≤ i ∧ (∀ t ∈ acc2, t ∈ ns ∧ t ∈ li left) ∧ (∀ t ∈ ns.take i, t ∈ li left → t ∈ acc2))
          ⟨[], ex_new hD2, upd_same .., Nat.le_refl _, fun x h => (nomatch h), fun x h => by simp at h⟩ (fun n H4 _ ⟨_, e, _⟩ => l_of (e _ _ hqz)) ?_ ?_
        · rintro i v H4 hv ⟨acc2, e4, hD4, hal2, ham2, hat2⟩
          rw [List.getElem?_map] at hv
          obtain ⟨tt, htt, rfl⟩ := Option.map_eq_some_iff.mp hv
          have hil : i < ns.length := (List.getElem?_eq_some_iff.mp htt).1
          have hnsl := (hok _ _ hns).len
          have hpw2 : 2 ^ y ≤ 1048576 := Nat.pow_le_pow_right (n := 2) (by decide) (show y ≤ 20 by omega)
          have etk2 : ns.take (i + 1) = ns.take i ++ [tt] := by rw [List.take_add_one, htt]; rfl
          refine ⟨rfl, _, rfl, _, rfl, true, L, _, tt, li left, rfl, .int tt, l_of (e4 _ _ (e3 _ _ hLz)), ints_pr _, _, rfl, ?_⟩
          by_cases hm : tt ∈ li left
          · rw [decide_eq_true hm]
            refine iteT ⟨_, rfl, _, hD4, by rw [List.length_map]; omega, acc2 ++ [tt], Evl.Ex.upd e4 hD2, by rw [upd_same, List.map_append]; rfl, by simp; omega, fun x hx => ?_, fun x hx hxl => ?_⟩
            · rcases List.mem_append.mp hx with h | h
              · exact ham2 x h
              · rw [List.mem_singleton] at h
                rw [h]
                exact ⟨List.mem_of_getElem? htt, hm⟩
            · rw [etk2] at hx
              rcases List.mem_append.mp hx with h | h
              · exact List.mem_append_left _ (hat2 x h hxl)
              · exact List.mem_append_right _ h
          · rw [decide_eq_false hm]
            refine iteF ⟨acc2, e4, hD4, by omega, ham2, fun x hx hxl => ?_⟩
            rw [etk2] at hx
            rcases List.mem_append.mp hx with h | h
            · exact hat2 x h hxl
            · rw [List.mem_singleton] at h
              rw [h] at hxl
              exact absurd hxl hm
        · rintro H4 ⟨acc2, e4, hD4, hal2, ham2, hat2⟩
          rw [List.length_map] at hat2
          rw [List.take_of_length_le (Nat.le_refl _)] at hat2
          refine ⟨by show 0 ≤ sizeLine; decide, fun z2 hz2 => ?_⟩
          have e5 := ex_new (o := .lst []) hz2
          refine ⟨acc2, ([] : List Int), ints_dpL (l_of (e5 _ _ hD4)), ints_dpL (l_of (upd_same ..)), _, rfl, ?_⟩
          have e35 := Evl.Ex.trans e3 (Evl.Ex.trans e4 e5)
          have hD5 := (Evl.Ex.trans e4 e5) _ _ hD3
          by_cases hac : acc2 = []
          · rw [decide_eq_true hac]
            have hno : ∀ ns', hgs[y]? = some ns' → ∀ t ∈ ns', ¬ t ∈ li left := fun ns' h' t ht hm => by
              rw [hns] at h'
              cases h'
              have := hat2 t ht hm
              rw [hac] at this
              cases this
            refine iteT ⟨_, rfl, _, hD5, by unfold li; rw [List.length_map, List.length_map]; omega, acc ++ [y], Evl.Ex.upd e35 hD, by rw [upd_same]; unfold li; rw [List.map_append, List.map_append]; rfl, by simp; omega, fun x hx => ?_, fun x hx hxn => ?_⟩
            · rcases List.mem_append.mp hx with h | h
              · exact ham x h
              · rw [List.mem_singleton] at h
                rw [h]
                exact ⟨List.mem_of_getElem? hy, hno⟩
            · rw [etk] at hx
              rcases List.mem_append.mp hx with h | h
              · exact List.mem_append_left _ (hat x h hxn)
              · exact List.mem_append_right _ h
          · rw [decide_eq_false hac]
            refine iteF ⟨acc, e35, hD5, by omega, ham, fun x hx hxn => ?_⟩
            rw [etk] at hx
            rcases List.mem_append.mp hx with h | h
            · exact hat x h hxn
            · rw [List.mem_singleton] at h
              subst h
              cases acc2 with
              | nil => exact absurd rfl hac
              | cons t2 _ =>
                obtain ⟨m1, m2⟩ := ham2 t2 List.mem_cons_self
                exact absurd m2 (hxn ns hns t2 m1)
      · rintro H2 ⟨acc, e3, hD3, hal, ham, hat⟩
        have hlen : ((li left).map V.int).length = left.length := by unfold li; rw [List.length_map, List.length_map]
        rw [hlen] at hal hat
        rw [List.take_of_length_le (Nat.le_refl _)] at hat
        have hap : 0 < acc.length := List.length_pos_of_mem (hat x0 hx0 hrdy0)
        have hall : ((li acc).map V.int).length = acc.length := by unfold li; rw [List.length_map, List.length_map]
        have hD2 := (hD'.ex ez).ex e3
        have nD : ¬ X2 d c D := (hD'.ex ez).fresh hD
        refine ⟨_, rfl, _, rfl, _, rfl, D, _, rfl, .inl (l_of hD3), ?_⟩
        refine ⟨d, c, acc.length, by rw [hall]; rfl, hD2, hap, by omega, fun i H5 hi k5 hD5 => ?_⟩
        have hD35 := k5 _ _ nD hD3
        have hL5 : H5 L = some (.lst ((li left).map V.int)) := k5 _ _ nL (e3 _ _ hLz)
        have hF5 : H5 F = some (.lst fs) := k5 _ _ nF (e3 _ _ hFz)
        obtain ⟨x, hx⟩ : ∃ x, acc[i] = x := ⟨_, rfl⟩
        have hxg : acc[i]? = some x := by rw [List.getElem?_eq_getElem hi, hx]
        obtain ⟨hxl, hxn⟩ := ham x (List.mem_of_getElem? hxg)
        obtain ⟨u, v, huv, hxu⟩ := split_first x hxl
        have hxlt := hlt x hxl
        refine ⟨D, _, (i : Int), .int (x : Nat), rfl, rfl, l_of hD35, atI_nat (by unfold li; rw [List.getElem?_map, List.getElem?_map, hxg]; rfl), ?_⟩
        refine ⟨_, rfl, .inl ⟨rfl, _, l_of hL5⟩, _, rfl, L, li left, (x : Int), u.length, rfl, rfl, hL5, ?_, ?_, ?_⟩
        · rw [huv]
          unfold li
          rw [List.getElem?_map, List.getElem?_append_right (Nat.le_refl _), Nat.sub_self]
          rfl
        · intro m hm e
          rw [huv] at e
          unfold li at e
          rw [List.getElem?_map, List.getElem?_append_left hm, List.getElem?_eq_getElem hm] at e
          have : (u[m] : Int) = x := Option.some.inj e
          have h2 : u[m] = x := by omega
          exact hxu (by rw [← h2]; exact List.getElem_mem _)
        · have her : (li left).eraseIdx u.length = li (u ++ v) := by
            rw [huv]
            unfold li
            rw [List.map_append, List.map_cons]
            have := erase_mid (u.map fun n => ((n : Nat) : Int)) (v.map fun n => ((n : Nat) : Int)) (x : Int)
            rw [List.length_map] at this
            rw [this, List.map_append]
          rw [her]
          obtain ⟨H6, hH6⟩ : ∃ H6, H6 = upd H5 L (.lst ((li (u ++ v)).map V.int)) := ⟨_, rfl⟩
          rw [← hH6]
          have hF6 : H6 F = some (.lst fs) := by rw [hH6, upd_ne (fun z => hLF z.symm)]; exact hF5
          have hD6 : Dl H6 d c := by rw [hH6]; exact hD5.to nL
          have k16 : Kx (X4 d c F L) H1 H6 := by
            rw [hH6]
            refine Kx.to (Kx.trans kz (Kx.trans (Kx.ofEx e3) (k5.mono fun a ha => ?_))) (.inl (.inr (.inr (.inr rfl))))
            rcases ha with h | h
            · exact .inl h
            · exact .inr (.inl h)
          have nx6 := hDl.nx (back H6 k16)
          obtain ⟨vz, hvz, hsy⟩ := pr_get hs (List.getElem?_eq_getElem hxlt)
          have hgx : f[x] = gtS f x := by unfold gtS; rw [List.getElem?_eq_getElem hxlt]; rfl
          refine ⟨_, rfl, .inl ⟨rfl, _, l_of hF6⟩, _, rfl, _, rfl, t, us, (x : Int), vz, rfl, rfl, nx_t nx6 ht, atI_nat hvz, F, fs, vz, rfl, rfl, hF6, by omega, ?_⟩
          have nx7 : Nx H6 (upd H6 F (.lst (fs ++ [vz]))) := Nx.upd (Nx.refl _) (.inr ⟨_, hF6⟩)
          obtain ⟨ns, hns⟩ : ∃ ns, hgs[x]? = some ns := ⟨_, List.getElem?_eq_getElem (by omega)⟩
          have hzl : (u ++ v).length + 1 = left.length := by rw [huv]; simp; omega
          have nx56 : Nx H' H6 := by
            have n1 : Nx H' H5 := Nx.trans (Nx.ofEx (Evl.Ex.trans ez e3)) (hD2.nx k5)
            rw [hH6]
            exact Nx.upd n1 (.inr ⟨_, hL'⟩)
          refine ⟨(u ++ v).length, by omega, fs ++ [vz], o ++ [gtS f x], u ++ v, _, _, rfl, rfl, Kx.to k16 (.inl (.inr (.inr (.inl rfl)))), hD6.to nF, upd_same .., pr_app (sys_nx nx7 (sys_nx nx56 hfo)) (.cons (by rw [← hgx]; exact (hsy.nx nx6).nx nx7) .nil), by rw [upd_ne hLF, hH6, upd_same], ?_, fun y hy => hlt y ?_, ?_⟩
          · rw [huv] at hpw
            exact hpw.sublist (List.Sublist.append_left (List.sublist_cons_self _ _) u)
          · rw [huv]
            rcases List.mem_append.mp hy with h | h
            · simp [h]
            · simp [h]
          · rw [huv] at hsw hpw hlt hxn
            exact order_turn (frP_sym ps) hsw hpw hlt (hok _ _ hns) (hxn ns hns)
theorem D_law_some_order (C : Fx w K mg base) : Dn P w K mg base 3 (a_law_some_order K) (fdA K (a_law_some_order K)) ["_law_deal_here", "_law_pairs_here", "_law_form_here"] (spOrd K) "_law_some_order" := ⟨ok_law_some_order C, C.g_law_some_order, (F_law_some_order C).kp, B_law_some_order C⟩
end
end K91
/-! MJ -/
/-! the law's names: plain Lean -/
namespace K91
open PySem PySem.Spec PyProof.Rows L2
structure Good (n : Nat) (ns : List Str) : Prop where
  len : ns.length = n
  nd : ns.Nodup
  ok : ∀ k ∈ ns, NameOk k
def nameB (k : Str) : Bool := decide (0 < k.length) && decide (k.length ≤ 6) && k.cps.toList.all fun c => decide (c ∈ lettersS.cps.toList)
def goodB (l : List Str) : Bool := decide l.Nodup && l.all nameB
theorem name_of {k : Str} (h : nameB k = true) : NameOk k := by
  unfold nameB at h
  simp only [Bool.and_eq_true, decide_eq_true_eq, List.all_eq_true] at h
  exact ⟨h.1.1, h.1.2, h.2⟩
theorem good_take {l : List Str} (h : goodB l = true) {n : Nat} (hn : n ≤ l.length) : Good n (l.take n) := by
  unfold goodB at h
  rw [Bool.and_eq_true, decide_eq_true_eq, List.all_eq_true] at h
  exact ⟨by rw [List.length_take]; omega, h.1.sublist (List.take_sublist _ _), fun k hk => name_of (h.2 k (List.mem_of_mem_take hk))⟩
def ltr (i : Nat) : Str := ⟨#[97 + i]⟩
theorem ltr_at : ∀ i : Nat, i < 26 → lettersS.cps.toList[i]? = some (97 + i) := by decide +kernel
def nm0 (t n : Nat) : List Str := (List.range n).map fun k => ltr ((t + 7 * k) % 26)
theorem range_take {α : Type} (f : Nat → α) {n m : Nat} (h : n ≤ m) : (List.range n).map f = ((List.range m).map f).take n := by
  rw [← List.map_take, List.take_range, Nat.min_eq_left h]
theorem nm0_all : ∀ t : Nat, t < 26 → goodB (nm0 t 7) = true := by decide +kernel
theorem nm0_ok {t n : Nat} (ht : t < 26) (hn : n ≤ 7) : Good n (nm0 t n) := by
  have e : nm0 t n = (nm0 t 7).take n := range_take _ hn
  rw [e]
  exact good_take (nm0_all t ht) (by unfold nm0; simp; exact hn)
theorem nm0_one {t n : Nat} : ∀ k ∈ nm0 t n, k.length = 1 := fun k hk => by
  obtain ⟨i, _, rfl⟩ := List.mem_map.mp hk
  rfl
def sufS : Str := "kqzjxv"
def nm2 (t n : Nat) : List Str := (List.range n).map fun k => ltr ((t + 7 * (k / 6)) % 26) ++ cutS sufS none (some ((k % 6 : Nat) : Int))
theorem nm2_all : ∀ t : Nat, t < 26 → goodB (nm2 t 7) = true := by decide +kernel
theorem nm2_ok {t n : Nat} (ht : t < 26) (hn : n ≤ 7) : Good n (nm2 t n) := by
  have e : nm2 t n = (nm2 t 7).take n := range_take _ hn
  rw [e]
  exact good_take (nm2_all t ht) (by unfold nm2; simp; exact hn)
def wordsS : List Str := ["free", "kinds", "main", "do", "out", "move", "row", "form", "root", "count", "join", "undo"]
theorem nm3_all : ∀ t : Nat, t < 12 → goodB (((wordsS ++ wordsS).drop t).take 7) = true := by decide +kernel
theorem nm3_ok {t n : Nat} (ht : t < 12) (hn : n ≤ 7) : Good n (((wordsS ++ wordsS).drop t).take n) := by
  have e : ((wordsS ++ wordsS).drop t).take n = (((wordsS ++ wordsS).drop t).take 7).take n := by rw [List.take_take, Nat.min_eq_left hn]
  rw [e]
  refine good_take (nm3_all t ht) ?_
  rw [List.length_take, List.length_drop]
  have : (wordsS ++ wordsS).length = 24 := rfl
  omega
theorem cutS_pre (z : Str) {i : Nat} (h : i ≤ z.length) : (cutS z none (some (i : Int))).cps.toList = z.cps.toList.take i := by
  unfold cutS
  rw [HT.sIx_none, show HT.sIx z.length z.length (some ((i : Nat) : Int)) = min i z.length from HT.sIx_nat _ _ i, List.drop_zero, Nat.sub_zero, Nat.min_eq_left h]
theorem cutS_suf (z : Str) {i : Nat} (h : i ≤ z.length) : (cutS z (some (i : Int)) none).cps.toList = z.cps.toList.drop i := by
  have e : z.length = z.cps.toList.length := by simp [Str.length]
  unfold cutS
  rw [HT.sIx_none, show HT.sIx z.length 0 (some ((i : Nat) : Int)) = min i z.length from HT.sIx_nat _ _ i, Nat.min_eq_left h]
  show (z.cps.toList.drop i).take (z.length - i) = _
  rw [List.take_of_length_le (by rw [List.length_drop]; omega)]
def nm1 (st : Str) (i : Nat) (l : Str) : Str := cutS st none (some (i : Int)) ++ l ++ cutS st (some (i : Int)) none
theorem nm1_tl (st l : Str) {i : Nat} (h : i ≤ st.length) : (nm1 st i l).cps.toList = st.cps.toList.take i ++ l.cps.toList ++ st.cps.toList.drop i := by
  unfold nm1
  have e1 := TL.tl_append (cutS st none (some (i : Int)) ++ l) (cutS st (some (i : Int)) none)
  have e2 := TL.tl_append (cutS st none (some (i : Int))) l
  have e1 : (cutS st none (some (i : Int)) ++ l ++ cutS st (some (i : Int)) none).cps.toList = (cutS st none (some (i : Int)) ++ l).cps.toList ++ (cutS st (some (i : Int)) none).cps.toList := e1
  have e2 : (cutS st none (some (i : Int)) ++ l).cps.toList = (cutS st none (some (i : Int))).cps.toList ++ l.cps.toList := e2
  rw [e1, e2, cutS_pre st h, cutS_suf st h]
theorem nm1_ok {st : Str} {i n : Nat} {ns : List Str} (h : i ≤ st.length) (h5 : st.length = 5) (hc : ∀ c ∈ st.cps.toList, c ∈ lettersS.cps.toList) (g : Good n ns) (h1 : ∀ k ∈ ns, k.length = 1) : Good n (ns.map (nm1 st i)) := by
  have ln : ∀ x : Str, x.length = x.cps.toList.length := fun x => by simp [Str.length]
  refine ⟨by rw [List.length_map]; exact g.len, ?_, fun k hk => ?_⟩
  · refine List.pairwise_map.mpr (g.nd.imp fun {a b} hne e => hne ?_)
    have e2 := congrArg (fun x : Str => x.cps.toList) e
    simp only [nm1_tl st _ h] at e2
    have e3 := List.append_cancel_right e2
    exact TL.ext_tl (List.append_cancel_left e3)
  · obtain ⟨l, hl, rfl⟩ := List.mem_map.mp hk
    have e := nm1_tl st l h
    have hl1 := h1 l hl
    rw [ln] at hl1 h5 h
    have hlen : (nm1 st i l).length = 6 := by
      rw [ln, e]
      simp only [List.length_append, List.length_take, List.length_drop]
      omega
    refine ⟨by omega, by omega, fun c hcm => ?_⟩
    rw [e] at hcm
    rcases List.mem_append.mp hcm with z | z
    · rcases List.mem_append.mp z with z | z
      · exact hc c (List.mem_of_mem_take z)
      · exact (g.ok l hl).ab c z
    · exact hc c (List.mem_of_mem_drop z)
end K91
/-! Q14 -/
namespace K91
open PySem PySem.Spec PyProof.Rows L2
open C8 (InsC call_isC pss_cut)
theorem joinL_one : ∀ cs : List Nat, TL.joinL [] (cs.map fun x => [x]) = cs
  | [] => rfl
  | [c] => rfl
  | c :: e :: cs => by
    have ih := joinL_one (e :: cs)
    show [c] ++ ([] ++ TL.joinL [] ((e :: cs).map fun x => [x])) = _
    rw [ih]
    rfl
theorem join_signs (cs : List Nat) : (Txt.join "" (cs.map fun x => (⟨#[x]⟩ : Str))).cps.toList = cs := by
  have h := TL.tl_join "" (cs.map fun x => (⟨#[x]⟩ : Str))
  rw [TL.join_eq]
  refine h.trans ?_
  rw [List.map_map]
  exact joinL_one cs
theorem sum_ones : ∀ cs : List Nat, (cs.map ((fun x : Str => x.length) ∘ fun x => (⟨#[x]⟩ : Str))).sum = cs.length
  | [] => rfl
  | c :: cs => by
    rw [List.map_cons, List.sum_cons, sum_ones cs, List.length_cons]
    exact Nat.add_comm _ _
theorem Good.perm {n : Nat} {ns ms : List Str} (g : Good n ns) (h : ms.Perm ns) : Good n ms := ⟨by rw [h.length_eq]; exact g.len, h.nodup_iff.mpr g.nd, fun k hk => g.ok k (h.mem_iff.mp hk)⟩
theorem pr_strs : ∀ (ns : List Str), Paired (fun v z => v = V.str z) (ns.map V.str) ns
  | [] => .nil
  | n :: ns => .cons rfl (pr_strs ns)
theorem pr_strs' : ∀ {vs : List V} {ns : List Str}, Paired (fun v z => v = V.str z) vs ns → vs = ns.map V.str
  | _, _, .nil => rfl
  | _, _, .cons h t => by rw [h, pr_strs' t]; rfl
section
variable {P : Program} {w : World} {K : PySem.W.Frag} {mg : Str → Option Value} {base : Heap}
def spNames (K : PySem.W.Frag) : Sp := fun vs H Q _ => ∃ (d c : Addr) (n : Nat), vs = [.ref d, .int (n : Nat)] ∧ Dl H d c ∧ n ≤ 7 ∧
  ∀ l H' ns, Kx (X2 d c) H H' → Dl H' d c → H l = none → H' l = some (.lst (ns.map V.str)) → Good n ns → Q (.ref l) H'
theorem ok_law_names (C : Fx w K mg base) : FnOk P w K mg base CX0 3 (a_law_names K) (fdA K (a_law_names K)) ["_law_deal_here", "_law_many"] (spNames K) := by
  refine (F_law_names C).ok S_law_names (fun vs H Q E h => ?_) (fun cdv A outer s H vs Q E hr h => ?_)
  · obtain ⟨d, c, n, rfl, _⟩ := h
    rfl
  · obtain ⟨d, c, n, rfl, hD, hn, q⟩ := h
    refine ⟨_, (pss_cons (ps_asg (pe_tup (pa_cons pe_str (pa_cons (pe_cd (D_law_draw C) (hr.mono (by decide)) (pa_cons (pv 0) (pa_cons pe_int pa_nil))) (pa_cons (pe_cd (D_law_draw C) (hr.mono (by decide)) (pa_cons (pv 0) (pa_cons pe_int pa_nil))) pa_nil)))) (pg_tup rfl (pgs_cons (pg_name (i := 2) S_law_names.nd rfl (Or.inr rfl)) (pgs_cons (pg_name (i := 3) S_law_names.nd rfl (Or.inl rfl)) (pgs_cons (pg_name (i := 4) S_law_names.nd rfl (Or.inr rfl)) pgs_nil)))))
      (pss_cons (ps_setLc (i := 5) (own := [("_law_k", 9)]) (g := gName 9) (tt := tYes) (by rfl) S_law_names.nd rfl rfl (sw_true rfl rfl rfl (by decide +kernel)) (pi_range1 (by rfl) C.z_range (pa_cons (pv 1) pa_nil)) (blkOk_by (own := [("_law_k", 9)]) (N := ["_law_deal_here", "_law_many", "_law_letters", "_law_form_here", "_law_turn", "_law_found", "_law_spot", "_law_stem", "_law_words", "_law_k", "_law_letter"]) (sc := defScope st_law_names) (by decide +kernel)) (fun _ _ _ _ _ => (pg_name (i := 9) S_law_names.nd rfl (Or.inl rfl))) (fun _ _ _ _ _ => pts_nil) (fun _ _ _ _ _ => (pe_ix ix_str (pv 2) (pe_op op_mod (pe_op op_add (pv 4) (pe_op op_mul pe_int (pv 9))) pe_int) (fun _ _ => rfl))))
      (pss_cut (ps_if (pt_cmpR op_eq (pv 3) pe_int (nomark _))
        (pss_cons (ps_asg (pe_tup (pa_cons (pe_cd (D_law_draw C) (hr.mono (by decide)) (pa_cons (pv 0) (pa_cons pe_int pa_nil))) (pa_cons (pe_join pe_str (pe_lc (own := [("_law_k", 9)]) (g := gName 9) (tt := tYes) rfl S_law_names.nd (pi_range1 (by rfl) C.z_range (pa_cons pe_int pa_nil)) (blkOk_by (own := [("_law_k", 9)]) (N := ["_law_deal_here", "_law_many", "_law_letters", "_law_form_here", "_law_turn", "_law_found", "_law_spot", "_law_stem", "_law_words", "_law_k", "_law_letter"]) (sc := defScope st_law_names) (by decide +kernel)) (fun _ _ _ _ _ => (pg_name (i := 9) S_law_names.nd rfl (Or.inl rfl))) (fun _ _ _ _ _ => pts_nil) (fun _ _ _ _ _ => (pe_ix ix_str (pv 2) (pe_cd (D_law_draw C) (by exact hr.mono (by decide)) (pa_cons (pv 0) (pa_cons pe_int pa_nil))) (fun _ _ => rfl))))) pa_nil))) (pg_tup rfl (pgs_cons (pg_name (i := 6) S_law_names.nd rfl (Or.inr rfl)) (pgs_cons (pg_name (i := 7) S_law_names.nd rfl (Or.inr rfl)) pgs_nil))))
        (pss_one (ps_setLc (i := 5) (own := [("_law_letter", 10)]) (g := gName 10) (tt := tYes) (by rfl) S_law_names.nd rfl rfl (sw_true rfl rfl rfl (by decide +kernel)) (pi_any (pv 5)) (blkOk_by (own := [("_law_letter", 10)]) (N := ["_law_deal_here", "_law_many", "_law_letters", "_law_form_here", "_law_turn", "_law_found", "_law_spot", "_law_stem", "_law_words", "_law_k", "_law_letter"]) (sc := defScope st_law_names) (by decide +kernel)) (fun _ _ _ _ _ => (pg_name (i := 10) S_law_names.nd rfl (Or.inl rfl))) (fun _ _ _ _ _ => pts_nil) (fun _ _ _ _ _ => (pe_op op_add_str (pe_op op_add_str (pe_slice sl_str (pv 7) po_none (po_some (pv 6))) (pv 10)) (pe_slice sl_str (pv 7) (po_some (pv 6)) po_none))))))
        pss_nil)
      (pss_cut (ps_if (pt_cmpR op_eq (pv 3) pe_int (nomark _))
        (pss_one (ps_setLc (i := 5) (own := [("_law_k", 9)]) (g := gName 9) (tt := tYes) (by rfl) S_law_names.nd rfl rfl (sw_true rfl rfl rfl (by decide +kernel)) (pi_range1 (by rfl) C.z_range (pa_cons (pv 1) pa_nil)) (blkOk_by (own := [("_law_k", 9)]) (N := ["_law_deal_here", "_law_many", "_law_letters", "_law_form_here", "_law_turn", "_law_found", "_law_spot", "_law_stem", "_law_words", "_law_k", "_law_letter"]) (sc := defScope st_law_names) (by decide +kernel)) (fun _ _ _ _ _ => (pg_name (i := 9) S_law_names.nd rfl (Or.inl rfl))) (fun _ _ _ _ _ => pts_nil) (fun _ _ _ _ _ => (pe_op op_add_str (pe_ix ix_str (pv 2) (pe_op op_mod (pe_op op_add (pv 4) (pe_op op_mul pe_int (pe_op op_fdiv (pv 9) pe_int))) pe_int) (fun _ _ => rfl)) (pe_slice sl_str pe_str po_none (po_some (pe_op op_mod (pv 9) pe_int)))))))
        pss_nil)
      (pss_cut (ps_if (pt_cmpR op_eq (pv 3) pe_int (nomark _))
        (pss_cons (ps_set (i := 8) S_law_names.nd rfl (Or.inl rfl) (pe_lst (pa_cons pe_str (pa_cons pe_str (pa_cons pe_str (pa_cons pe_str (pa_cons pe_str (pa_cons pe_str (pa_cons pe_str (pa_cons pe_str (pa_cons pe_str (pa_cons pe_str (pa_cons pe_str (pa_cons pe_str pa_nil))))))))))))))
        (pss_one (ps_set (i := 5) S_law_names.nd rfl (Or.inl rfl) (pe_slice sl_list (pe_op op_cat (pv 8) (pv 8)) (po_some (pe_op op_mod (pv 4) pe_int)) (po_some (pe_op op_add (pe_op op_mod (pv 4) pe_int) (pv 1)))))))
        pss_nil)
      (pss_one (ps_ret (pe_cd (D_law_mixed C) (hr.mono (by decide)) (pa_cons (pv 0) (pa_cons (pv 5) pa_nil)))))))))), ?_⟩
    have hzs := sizeLine_eq
    refine ⟨_, rfl, d, c, 5, rfl, hD, by decide, by decide, fun fm H1 hfm k1 hD1 => ?_⟩
    refine ⟨_, rfl, d, c, 26, rfl, hD1, by decide, by decide, fun tn H2 htn k2 hD2 => ?_⟩
    refine ⟨by show 3 ≤ sizeLine; decide, fun T hT => ?_⟩
    refine ⟨T, _, rfl, t_of (upd_same ..), rfl, _, _, rfl, _, _, rfl, _, _, rfl, rfl, ?_⟩
    have eT := ex_new (o := .tup [.str lettersS, .int (fm : Nat), .int (tn : Nat)]) hT
    obtain ⟨H3, hH3⟩ : ∃ H3, H3 = upd H2 T (.tup [.str lettersS, .int (fm : Nat), .int (tn : Nat)]) := ⟨_, rfl⟩
    have hH3' : upd H2 T (.tup [.str "abcdefghijklmnopqrstuvwxyz", .int (fm : Nat), .int (tn : Nat)]) = H3 := hH3.symm
    rw [← hH3] at eT
    rw [hH3']
    have k3 : Kx (X2 d c) H H3 := Kx.trans k1 (Kx.trans k2 (Kx.ofEx eT))
    have hD3 := hD2.ex eT
    -- the letters
    refine ⟨_, rfl, (n : Int), rfl, by omega, by omega, fun F hF => ?_⟩
    rw [Int.toNat_natCast]
    refine lcG_range (n := n) (fun i H' => H' = upd H3 F (.lst ((nm0 tn i).map V.str))) rfl ?_ ?_
    · rintro i H' hi rfl
      have eix : (((tn : Nat) : Int) + 7 * ((0 : Int) + (i : Nat))) % 26 = (((tn + 7 * i) % 26 : Nat) : Int) := by omega
      have hlt : (tn + 7 * i) % 26 < 26 := Nat.mod_lt _ (by decide)
      refine ⟨rfl, _, rfl, _, rfl, _, rfl, 7, (0 : Int) + (i : Nat), rfl, rfl, .inl ⟨by decide, by decide⟩, (tn : Int), 7 * ((0 : Int) + (i : Nat)), rfl, rfl, _, 26, rfl, rfl, by show (0 : Int) < 26; decide, lettersS, _, 97 + (tn + 7 * i) % 26, rfl, rfl, by decide, by rw [eix]; exact atI_nat (ltr_at _ hlt), _, upd_same .., by unfold nm0; rw [List.length_map, List.length_map, List.length_range]; omega, ?_⟩
      rw [upd_upd]
      unfold nm0
      rw [List.range_succ, List.map_append, List.map_append]
      rfl
    rintro H4 rfl
    have e4 := ex_new (o := .lst ((nm0 tn n).map V.str)) hF
    have hFH : H F = none := k3.free (hD3.fresh hF) hF
    have nF : ¬ X2 d c F := hD3.fresh hF
    have hl0 : (nm0 tn n).length = n := (nm0_ok htn hn).len
    refine ⟨fun σ' H' => ∃ F ns v6 v7 v8, σ' = [some (.ref d), some (.int (n : Nat)), some (.str lettersS), some (.int (fm : Nat)), some (.int (tn : Nat)), some (.ref F), v6, v7, v8, none, none] ∧ Kx (X2 d c) H H' ∧ Dl H' d c ∧ H' F = some (.lst (ns.map V.str)) ∧ Good n ns, ?_, ?_⟩
    · refine ⟨_, rfl, rfl, _, rfl, ite2 (fun e => ?_) (fun e => ?_)⟩
      · obtain ⟨Hf, hHf⟩ : ∃ Hf, Hf = upd H3 F (.lst ((nm0 tn n).map V.str)) := ⟨_, rfl⟩
        have hFf : Hf F = some (.lst ((nm0 tn n).map V.str)) := by rw [hHf]; exact upd_same ..
        rw [← hHf] at e4 ⊢
        have hDf := hD3.ex e4
        refine ⟨_, rfl, d, c, 6, rfl, hDf, by decide, by decide, fun sp H5 hsp k5 hD5 => ?_⟩
        refine ⟨⟨_, rfl⟩, (5 : Int), rfl, by decide, by decide, fun D hDn => ?_⟩
        have nD := hD5.fresh hDn
        refine lcG_range (n := 5) (fun j H' => ∃ cs : List Nat, Kx (X2 d c) H5 H' ∧ Dl H' d c ∧ H' D = some (.lst ((cs.map fun x => (⟨#[x]⟩ : Str)).map V.str)) ∧ cs.length = j ∧ ∀ x ∈ cs, x ∈ lettersS.cps.toList)
          ⟨[], Kx.ofEx (ex_new hDn), hD5.ex (ex_new hDn), upd_same .., rfl, fun x h => (nomatch h)⟩ ?_ ?_
        · rintro j H6 hj ⟨cs, k6, hD6, hDD, hcl, hcs⟩
          refine ⟨rfl, _, rfl, _, rfl, d, c, 16, rfl, hD6, by decide, by decide, fun z H7 hz k7 hD7 => ?_⟩
          have hDD7 := k7 _ _ nD hDD
          refine ⟨lettersS, (z : Int), 97 + z, rfl, rfl, by decide, atI_nat (ltr_at z (by omega)), _, hDD7, by rw [List.length_map, List.length_map]; omega, cs ++ [97 + z], (Kx.trans k6 k7).to (.inr hDn), hD7.to nD, by rw [upd_same, List.map_append, List.map_append]; rfl, by simp [hcl], fun x hx => ?_⟩
          rcases List.mem_append.mp hx with h | h
          · exact hcs x h
          · rw [List.mem_singleton] at h
            rw [h]
            exact List.mem_of_getElem? (ltr_at z (by omega))
        · rintro H6 ⟨cs, k6, hD6, hDD, hcl, hcs⟩
          have hst := join_signs cs
          refine ⟨_, D, cs.map fun x => (⟨#[x]⟩ : Str), rfl, rfl, .inl (l_of hDD), ?_, ?_⟩
          · rw [List.length_map, List.map_map]
            have : (cs.map ((fun x : Str => x.length) ∘ fun x => (⟨#[x]⟩ : Str))).sum = cs.length := by
              exact sum_ones cs
            show (cs.map ((fun x : Str => x.length) ∘ fun x => (⟨#[x]⟩ : Str))).sum + cs.length * 0 ≤ 16777216
            omega
          · obtain ⟨st, hste⟩ : ∃ st, Txt.join "" (cs.map fun x => (⟨#[x]⟩ : Str)) = st := ⟨_, rfl⟩
            rw [hste] at hst
            have hste' : Txt.join (Str.ofString "") (cs.map fun x => (⟨#[x]⟩ : Str)) = st := hste
            have hlen : st.length = 5 := by
              rw [TL.len_tl]
              show st.cps.toList.length = 5
              rw [hst, hcl]
            refine ⟨by show 2 ≤ sizeLine; decide, fun T2 hT2 => ?_⟩
            rw [hste'] 
            refine ⟨T2, _, rfl, t_of (upd_same ..), rfl, _, _, rfl, _, _, rfl, rfl, ?_⟩
            have e7 := ex_new (o := .tup [.int (sp : Nat), .str st]) hT2
            have k57 := Kx.trans k5 (Kx.trans k6 (Kx.ofEx e7))
            have hF7 := k57 _ _ nF hFf
            have hD7 := hD6.ex e7
            obtain ⟨H7, hH7⟩ : ∃ H7, H7 = upd H6 T2 (.tup [.int (sp : Nat), .str st]) := ⟨_, rfl⟩
            rw [← hH7] at e7 k57 hF7 hD7 ⊢
            refine ⟨_, rfl, true, F, _, rfl, l_of hF7, fun D2 hD2 => ?_⟩
            have nFD : F ≠ D2 := fun z => by rw [← z, hF7] at hD2; cases hD2
            refine lcG (xs := (nm0 tn n).map V.str) (fun i H' => H' = upd H7 D2 (.lst ((((nm0 tn n).take i).map (nm1 st sp)).map V.str))) rfl (fun i H' _ e => by rw [e]; exact l_of (by rw [upd_ne nFD]; exact hF7)) ?_ ?_
            · rintro i v H8 hv rfl
              rw [List.getElem?_map] at hv
              obtain ⟨l, hl, rfl⟩ := Option.map_eq_some_iff.mp hv
              have etk : (nm0 tn n).take (i + 1) = (nm0 tn n).take i ++ [l] := by rw [List.take_add_one, hl]; rfl
              have hl1 := nm0_one l (List.mem_of_getElem? hl)
              have hil := (List.getElem?_eq_some_iff.mp hl).1
              have sz : ∀ (z : Str) (a b : Option Int), (cutS z a b).length ≤ z.length := fun z a b => by
                have : z.length = z.cps.toList.length := by simp [Str.length]
                unfold cutS
                simp only [Str.length, List.size_toArray, List.length_take, List.length_drop] at *
                omega
              have s1 := sz st none (some (sp : Int))
              have s2 := sz st (some (sp : Int)) none
              have s3 : (cutS st none (some (sp : Int)) ++ l).length = (cutS st none (some (sp : Int))).length + l.length := by
                rw [TL.len_tl, TL.tl_append, List.length_append, ← TL.len_tl, ← TL.len_tl]
              refine ⟨rfl, _, rfl, _, rfl, (sp : Int), rfl, st, rfl, by omega, _, rfl, _, _, rfl, rfl, by omega, _, rfl, _, rfl, (sp : Int), rfl, st, rfl, by omega, _, _, rfl, rfl, by omega, _, upd_same .., by rw [List.length_map, List.length_map, List.length_take]; omega, ?_⟩
              rw [upd_upd, etk, List.map_append, List.map_append]
              rfl
            · rintro H8 rfl
              rw [List.length_map, List.take_length]
              have hgo := nm1_ok (st := st) (i := sp) (by omega) hlen (fun x hx => hcs x (by rw [← hst]; exact hx)) (nm0_ok htn hn) nm0_one
              have e8 := ex_new (o := .lst (((nm0 tn n).map (nm1 st sp)).map V.str)) hD2
              exact ⟨D2, _, _, _, _, rfl, Kx.trans k3 (Kx.trans (Kx.ofEx e4) (Kx.trans k57 (Kx.ofEx e8))), hD7.ex e8, upd_same .., hgo⟩
      · exact ⟨F, nm0 tn n, _, _, _, rfl, Kx.trans k3 (Kx.ofEx e4), hD3.ex e4, upd_same .., nm0_ok htn hn⟩
    · rintro σ H5 ⟨F, ns, v6, v7, v8, rfl, k5, hD5, hF5, hg⟩
      refine ⟨fun σ' H' => ∃ F ns v6 v7 v8, σ' = [some (.ref d), some (.int (n : Nat)), some (.str lettersS), some (.int (fm : Nat)), some (.int (tn : Nat)), some (.ref F), v6, v7, v8, none, none] ∧ Kx (X2 d c) H H' ∧ Dl H' d c ∧ H' F = some (.lst (ns.map V.str)) ∧ Good n ns, ?_, ?_⟩
      · refine ⟨_, rfl, rfl, _, rfl, ite2 (fun e => ?_) (fun e => ?_)⟩
        · refine ⟨_, rfl, (n : Int), rfl, by omega, by omega, fun D hDn => ?_⟩
          rw [Int.toNat_natCast]
          refine lcG_range (n := n) (fun i H' => H' = upd H5 D (.lst ((nm2 tn i).map V.str))) rfl ?_ ?_
          · rintro i H' hi rfl
            have eix : (((tn : Nat) : Int) + 7 * (((0 : Int) + (i : Nat)) / 6)) % 26 = (((tn + 7 * (i / 6)) % 26 : Nat) : Int) := by omega
            have eiy : ((0 : Int) + (i : Nat)) % 6 = ((i % 6 : Nat) : Int) := by omega
            have hlt : (tn + 7 * (i / 6)) % 26 < 26 := Nat.mod_lt _ (by decide)
            have sz : (cutS sufS none (some (((0 : Int) + (i : Nat)) % 6))).length ≤ 6 := by
              have : sufS.cps.toList.length = 6 := by decide
              unfold cutS
              simp only [Str.length, List.size_toArray, List.length_take, List.length_drop] at *
              omega
            refine ⟨rfl, _, rfl, _, rfl, _, rfl, (0 : Int) + (i : Nat), 6, rfl, rfl, ⟨by decide, by decide⟩, 7, _, rfl, rfl, .inl ⟨by decide, by decide⟩, (tn : Int), _, rfl, rfl, _, 26, rfl, rfl, by show (0 : Int) < 26; decide, lettersS, _, 97 + (tn + 7 * (i / 6)) % 26, rfl, rfl, by decide, by rw [eix]; exact atI_nat (ltr_at _ hlt), ?_⟩
            refine ⟨_, rfl, (0 : Int) + (i : Nat), 6, rfl, rfl, by show (0 : Int) < 6; decide, _, rfl, sufS, rfl, by decide, _, _, rfl, rfl, ?_, _, upd_same .., by unfold nm2; rw [List.length_map, List.length_map, List.length_range]; omega, ?_⟩
            · show 1 + _ ≤ _
              omega
            · rw [upd_upd, eiy]
              unfold nm2
              rw [List.range_succ, List.map_append, List.map_append]
              rfl
          · rintro H6 rfl
            have e6 := ex_new (o := .lst ((nm2 tn n).map V.str)) hDn
            exact ⟨D, nm2 tn n, v6, v7, v8, rfl, Kx.trans k5 (Kx.ofEx e6), hD5.ex e6, upd_same .., nm2_ok htn hn⟩
        · exact ⟨F, ns, v6, v7, v8, rfl, k5, hD5, hF5, hg⟩
      · rintro σ H6 ⟨F, ns, v6, v7, v8, rfl, k6, hD6, hF6, hg⟩
        refine ⟨fun σ' H' => ∃ F ns v6 v7 v8, σ' = [some (.ref d), some (.int (n : Nat)), some (.str lettersS), some (.int (fm : Nat)), some (.int (tn : Nat)), some (.ref F), v6, v7, v8, none, none] ∧ Kx (X2 d c) H H' ∧ Dl H' d c ∧ H' F = some (.lst (ns.map V.str)) ∧ Good n ns, ?_, ?_⟩
        · refine ⟨_, rfl, rfl, _, rfl, ite2 (fun e => ?_) (fun e => ?_)⟩
          · refine ⟨by show 12 ≤ sizeLine; decide, fun W hW => ?_⟩
            have e7 := ex_new (o := .lst (wordsS.map V.str)) hW
            have hWe : upd H6 W (.lst (wordsS.map V.str)) W = some (.lst (wordsS.map V.str)) := upd_same ..
            obtain ⟨H7, hH7⟩ : ∃ H7, H7 = upd H6 W (.lst (wordsS.map V.str)) := ⟨_, rfl⟩
            rw [← hH7] at e7 hWe
            have hD7 := hD6.ex e7
            have eix : (tn : Int) % 12 = ((tn % 12 : Nat) : Int) := by omega
            have hH7' : upd H6 W (.lst [.str "free", .str "kinds", .str "main", .str "do", .str "out", .str "move", .str "row", .str "form", .str "root", .str "count", .str "join", .str "undo"]) = H7 := hH7.symm
            rw [hH7']
            refine ⟨_, rfl, _, rfl, W, W, _, _, rfl, rfl, hWe, hWe, by decide, fun c2 hc2 => ?_⟩
            refine ⟨_, rfl, (tn : Int), 12, rfl, rfl, by show (0 : Int) < 12; decide, _, rfl, ?_⟩
            refine ⟨_, rfl, (tn : Int), 12, rfl, rfl, by show (0 : Int) < 12; decide, _, rfl, (tn : Int) % 12, (n : Int), rfl, rfl, _, rfl, ?_⟩
            refine ⟨c2, _, rfl, l_of (upd_same ..), fun p hp => ?_⟩
            have hcut : cutV (wordsS.map V.str ++ wordsS.map V.str) (some ((tn : Int) % 12)) (some ((tn : Int) % 12 + (n : Int))) = (((wordsS ++ wordsS).drop (tn % 12)).take n).map V.str := by
              have hl24 : (wordsS.map V.str ++ wordsS.map V.str).length = 24 := rfl
              have e2 : (tn : Int) % 12 + (n : Int) = ((tn % 12 + n : Nat) : Int) := by omega
              unfold cutV
              rw [e2, eix, hl24, show HT.sIx 24 24 (some ((tn % 12 + n : Nat) : Int)) = min (tn % 12 + n) 24 from HT.sIx_nat _ _ _, show HT.sIx 24 0 (some ((tn % 12 : Nat) : Int)) = min (tn % 12) 24 from HT.sIx_nat _ _ _, Nat.min_eq_left (show tn % 12 + n ≤ 24 by omega), Nat.min_eq_left (show tn % 12 ≤ 24 by omega), Nat.add_sub_cancel_left, List.map_take, List.map_drop, List.map_append]
            have e8 := Evl.Ex.trans e7 (ex_new (o := .lst (wordsS.map V.str ++ wordsS.map V.str)) hc2)
            have e9 := Evl.Ex.trans e8 (ex_new (o := .lst (cutV (wordsS.map V.str ++ wordsS.map V.str) (some ((tn : Int) % 12)) (some ((tn : Int) % 12 + (n : Int))))) hp)
            exact ⟨p, _, _, _, _, rfl, Kx.trans k6 (Kx.ofEx e9), hD6.ex e9, by rw [← hcut]; exact upd_same .., nm3_ok (Nat.mod_lt _ (by decide)) hn⟩
          · exact ⟨F, ns, v6, v7, v8, rfl, k6, hD6, hF6, hg⟩
        · rintro σ H7 ⟨F, ns, v6, v7, v8, rfl, k7, hD7, hF7, hg⟩
          have hnl := hg.len
          refine ⟨_, rfl, _, rfl, d, c, true, F, _, Str, inferInstance, inferInstance, ns, rfl, hD7, l_of hF7, std_strs ns, by decide, by rw [List.length_map]; omega, fun l H8 ys k8 hD8 hl hl8 hperm => ?_⟩
          obtain ⟨ms, hms, hpm⟩ := pr_perm hperm.symm (pr_strs ns)
          rw [pr_strs' hms] at hl8
          exact q l H8 ms (Kx.trans k7 k8) hD8 (k7.free (hD7.fresh hl) hl) hl8 (hg.perm hpm.symm)
theorem D_law_names (C : Fx w K mg base) : Dn P w K mg base 3 (a_law_names K) (fdA K (a_law_names K)) ["_law_deal_here", "_law_many"] (spNames K) "_law_names" := ⟨ok_law_names C, C.g_law_names, (F_law_names C).kp, B_law_names C⟩
end
end K91
/-! Q15 -/
namespace K91
open PySem PySem.Spec PyProof.Rows L2
open C8 (InsC call_isC pss_cut)
theorem cutV_pre (us : List V) {i : Nat} (h : i ≤ us.length) : cutV us none (some ((i : Nat) : Int)) = us.take i := by
  unfold cutV
  rw [HT.sIx_none, show HT.sIx us.length us.length (some ((i : Nat) : Int)) = min i us.length from HT.sIx_nat _ _ i, List.drop_zero, Nat.sub_zero, Nat.min_eq_left h]
theorem cutV_suf (us : List V) {i : Nat} (h : i ≤ us.length) : cutV us (some ((i : Nat) : Int)) none = us.drop i := by
  unfold cutV
  rw [HT.sIx_none, show HT.sIx us.length 0 (some ((i : Nat) : Int)) = min i us.length from HT.sIx_nat _ _ i, Nat.min_eq_left h, List.take_of_length_le (by rw [List.length_drop]; omega)]
theorem al_split {fr : Str → Str → Bool} (a b : List Syl) (k : Str) (n m : Int) : Al fr (a ++ (k, n) :: b) (a ++ [(k, m), (k, n - m)] ++ b) := by
  have := Al.melt (fr := fr) a k m (n - m) b
  rw [show m + (n - m) = n by omega] at this
  rw [List.append_assoc]
  exact .symm this
theorem al_undo {fr : Str → Str → Bool} (a b : List Syl) (k : Str) (m : Int) : Al fr (a ++ b) (a ++ [(k, m), (k, 0 - m)] ++ b) := .trans (.symm (.drop a k b)) (al_split a b k 0 m)
theorem iteE2 {b : Bool} {X E : Prop} (he : E) (h : E → b = true → X) : if b = true then X else E := by
  cases b with
  | true => exact iteT (h he rfl)
  | false => exact iteF he
section
variable {P : Program} {w : World} {K : PySem.W.Frag} {mg : Str → Option Value} {base : Heap}
def spBent (K : PySem.W.Frag) : Sp := fun vs H Q _ => ∃ (d c kk p a : Addr) (ks : List Str) (b : Bool) (zs : List V) (ps : List (Str × Str)) (us : List V) (r : List Syl) (n : Nat), vs = [.ref d, .ref kk, .ref p, .ref a, .int (n : Nat)] ∧ Dl H d c ∧ SqA K H true kk (ks.map V.str) ∧ ¬ X2 d c kk ∧ 0 < ks.length ∧ ks.length < 1000 ∧
  SqA K H b p zs ∧ ¬ X2 d c p ∧ Paired (PrT K H) zs ps ∧ SqA K H true a us ∧ Sys K H us r ∧ (∀ y ∈ r, y.1 ∈ ks) ∧ r.length ≤ 50 ∧ n ≤ 50 ∧
  ∀ l H' ws s, Kx (X2 d c) H H' → Dl H' d c → H l = none → H' l = some (.lst ws) → Sys K H' ws s → Al (frP ps) r s → s.length ≤ r.length + 2 * n → (∀ y ∈ s, y.1 ∈ ks) → Q (.ref l) H'
theorem ok_law_bent (C : Fx w K mg base) : FnOk P w K mg base CX0 2 (a_law_bent K) (fdA K (a_law_bent K)) ["_law_deal_here", "_law_kinds", "_law_pairs_here", "_law_row_here", "_law_many"] (spBent K) := by
  refine (F_law_bent C).ok S_law_bent (fun vs H Q E h => ?_) (fun cdv A outer s H vs Q E hr h => ?_)
  · obtain ⟨d, c, kk, p, a, ks, b, zs, ps, us, r, n, rfl, _⟩ := h
    rfl
  · obtain ⟨d, c, kk, p, a, ks, b, zs, ps, us, r, n, rfl, hD, hkk, nkk, hk0, hk1, hp, np, hps, ha, hs, hrk, hrl, hn, q⟩ := h
    refine ⟨_, (pss_cons (ps_set (i := 3) S_law_bent.nd rfl (Or.inl rfl) (pe_callTy call_list_of (by rfl) C.z_list (by decide +kernel) (pa_cons (pv 3) pa_nil)))
      (pss_cons (ps_for PassesOwn.never rfl (pi_range1 (by rfl) C.z_range (pa_cons (pv 4) pa_nil)) (pg_name (i := 5) S_law_bent.nd rfl (Or.inl rfl))
        (pss_cons (ps_par (i := 6) (j := 7) (by rfl) S_law_bent.nd rfl rfl (by decide) rfl rfl (pa_cons (pe_cd (D_law_draw C) (hr.mono (by decide)) (pa_cons (pv 0) (pa_cons pe_int pa_nil))) (pa_cons (pe_cd (D_law_draw C) (hr.mono (by decide)) (pa_cons (pv 0) (pa_cons (pe_op op_add (pe_callB call_len_seq (by rfl) C.z_len (by decide +kernel) (pa_cons (pv 3) pa_nil)) pe_int) pa_nil))) pa_nil)) (by rfl))
        (pss_cons (ps_par (i := 8) (j := 9) (by rfl) S_law_bent.nd rfl rfl (by decide) rfl rfl (pa_cons (pe_ix ix_list (pv 1) (pe_cd (D_law_draw C) (hr.mono (by decide)) (pa_cons (pv 0) (pa_cons (pe_callB call_len_seq (by rfl) C.z_len (by decide +kernel) (pa_cons (pv 1) pa_nil)) pa_nil))) (fun _ _ => rfl)) (pa_cons (pe_ix ix_list (pe_lst (pa_cons pe_int (pa_cons pe_int (pa_cons pe_int (pa_cons (pe_op op_sub pe_int pe_int) (pa_cons pe_int pa_nil)))))) (pe_cd (D_law_draw C) (hr.mono (by decide)) (pa_cons (pv 0) (pa_cons pe_int pa_nil))) (fun _ _ => rfl)) pa_nil)) (by rfl))
        (pss_one (ps_if (PW.pt (pw_and (pt_cmpR op_eq (pv 6) pe_int (nomark _)) (pw_and1 (pt_cmpR op_lt (pe_callB call_len_seq (by rfl) C.z_len (by decide +kernel) (pa_cons (pv 3) pa_nil)) pe_int (nomark _)))))
          (pss_one (ps_set (i := 3) S_law_bent.nd rfl (Or.inl rfl) (pe_op op_cat (pe_op op_cat (pe_slice sl_list (pv 3) po_none (po_some (pv 7))) (pe_lst (pa_cons (pe_tup (pa_cons (pv 8) (pa_cons (pv 9) pa_nil))) (pa_cons (pe_tup (pa_cons (pv 8) (pa_cons (pe_op op_sub pe_int (pv 9)) pa_nil))) pa_nil)))) (pe_slice sl_list (pv 3) (po_some (pv 7)) po_none))))
          (pss_one (ps_if (PW.pt (pw_and (pt_cmpR op_eq (pv 6) pe_int (nomark _)) (pw_and1 (pt_chain op_lt op_lt (pv 7) (pe_callB call_len_seq (by rfl) C.z_len (by decide +kernel) (pa_cons (pv 3) pa_nil)) pe_int))))
            (pss_one (ps_set (i := 3) S_law_bent.nd rfl (Or.inl rfl) (pe_op op_cat (pe_op op_cat (pe_slice sl_list (pv 3) po_none (po_some (pv 7))) (pe_lst (pa_cons (pe_tup (pa_cons (pe_ix ix_tup (pe_ix ix_list (pv 3) (pv 7) (fun _ _ => rfl)) pe_int (fun _ _ => rfl)) (pa_cons (pv 9) pa_nil))) (pa_cons (pe_tup (pa_cons (pe_ix ix_tup (pe_ix ix_list (pv 3) (pv 7) (fun _ _ => rfl)) pe_int (fun _ _ => rfl)) (pa_cons (pe_op op_sub (pe_ix ix_tup (pe_ix ix_list (pv 3) (pv 7) (fun _ _ => rfl)) pe_int (fun _ _ => rfl)) (pv 9)) pa_nil))) pa_nil)))) (pe_slice sl_list (pv 3) (po_some (pe_op op_add (pv 7) pe_int)) po_none))))
            (pss_one (ps_if (PW.pt (pw_and (pt_cmpR op_lt (pe_op op_add (pv 7) pe_int) (pe_callB call_len_seq (by rfl) C.z_len (by decide +kernel) (pa_cons (pv 3) pa_nil)) (nomark _)) (pw_and1 (pt_val (pe_cd (D_law_is_free C) (hr.mono (by decide)) (pa_cons (pv 2) (pa_cons (pe_ix ix_tup (pe_ix ix_list (pv 3) (pv 7) (fun _ _ => rfl)) pe_int (fun _ _ => rfl)) (pa_cons (pe_ix ix_tup (pe_ix ix_list (pv 3) (pe_op op_add (pv 7) pe_int) (fun _ _ => rfl)) pe_int (fun _ _ => rfl)) pa_nil))))))))
              (pss_one (ps_set (i := 3) S_law_bent.nd rfl (Or.inl rfl) (pe_op op_cat (pe_op op_cat (pe_slice sl_list (pv 3) po_none (po_some (pv 7))) (pe_lst (pa_cons (pe_ix ix_list (pv 3) (pe_op op_add (pv 7) pe_int) (fun _ _ => rfl)) (pa_cons (pe_ix ix_list (pv 3) (pv 7) (fun _ _ => rfl)) pa_nil)))) (pe_slice sl_list (pv 3) (po_some (pe_op op_add (pv 7) pe_int)) po_none))))
              (pss_one (ps_if (PW.pt (pw_and (pt_cmpR op_lt (pe_op op_add (pv 7) pe_int) (pe_callB call_len_seq (by rfl) C.z_len (by decide +kernel) (pa_cons (pv 3) pa_nil)) (nomark _)) (pw_and1 (pt_cmpR op_eq (pe_ix ix_tup (pe_ix ix_list (pv 3) (pv 7) (fun _ _ => rfl)) pe_int (fun _ _ => rfl)) (pe_ix ix_tup (pe_ix ix_list (pv 3) (pe_op op_add (pv 7) pe_int) (fun _ _ => rfl)) pe_int (fun _ _ => rfl)) (nomark _)))))
                (pss_one (ps_set (i := 3) S_law_bent.nd rfl (Or.inl rfl) (pe_op op_cat (pe_op op_cat (pe_slice sl_list (pv 3) po_none (po_some (pv 7))) (pe_lst (pa_cons (pe_tup (pa_cons (pe_ix ix_tup (pe_ix ix_list (pv 3) (pv 7) (fun _ _ => rfl)) pe_int (fun _ _ => rfl)) (pa_cons (pe_op op_add (pe_ix ix_tup (pe_ix ix_list (pv 3) (pv 7) (fun _ _ => rfl)) pe_int (fun _ _ => rfl)) (pe_ix ix_tup (pe_ix ix_list (pv 3) (pe_op op_add (pv 7) pe_int) (fun _ _ => rfl)) pe_int (fun _ _ => rfl))) pa_nil))) pa_nil))) (pe_slice sl_list (pv 3) (po_some (pe_op op_add (pv 7) pe_int)) po_none))))
                pss_nil)))))))))))
      (pss_one (ps_ret (pv 3))))), ?_⟩
    have hzs := sizeLine_eq
    refine ⟨_, rfl, a, us, rfl, sqA_len ha, fun F hF => ?_⟩
    have e0 := ex_new (o := .lst us) hF
    refine ⟨_, rfl, (n : Int), rfl, by omega, by omega, ?_⟩
    rw [Int.toNat_natCast]
    refine for_range (fun i σ H' => ∃ F us s v5 v6 v7 v8 v9, σ = [some (.ref d), some (.ref kk), some (.ref p), some (.ref F), some (.int (n : Nat)), v5, v6, v7, v8, v9] ∧ Kx (X2 d c) H H' ∧ Dl H' d c ∧ H F = none ∧ H' F = some (.lst us) ∧ Sys K H' us s ∧ Al (frP ps) r s ∧ s.length ≤ r.length + 2 * i ∧ (∀ y ∈ s, y.1 ∈ ks))
      ⟨F, us, r, none, none, none, none, none, rfl, Kx.ofEx e0, hD.ex e0, hF, upd_same .., sys_ex e0 hs, .refl _, Nat.le_refl _, hrk⟩ ?_ ?_
    · rintro turn σ H1 hi ⟨F, us, s, v5, v6, v7, v8, v9, rfl, k1, hD1, hF0, hF1, hs1, hal, hsl, hsk⟩
      have hul := pr_len hs1
      have nF := hD.fresh hF0
      have hF1' := hF1
      -- form, at
      refine ⟨_, rfl, d, c, 7, rfl, hD1, by decide, by decide, fun fm H2 hfm k2 hD2 => ?_⟩
      have hF2 := k2 _ _ nF hF1
      refine ⟨_, rfl, _, rfl, F, _, rfl, .inl (l_of hF2), (us.length : Int), 1, rfl, rfl, ?_⟩
      refine ⟨d, c, us.length + 1, rfl, hD2, by omega, by omega, fun i H3 hi3 k3 hD3 => ?_⟩
      have hF3 := k3 _ _ nF hF2
      refine ⟨_, _, rfl, ?_⟩
      -- kind, count
      have k13 := Kx.trans k1 (Kx.trans k2 k3)
      have hkk3 : SqA K H3 true kk (ks.map V.str) := sqa_kx k13 nkk hkk
      refine ⟨_, rfl, _, rfl, _, rfl, kk, _, rfl, .inl hkk3, ?_⟩
      refine ⟨d, c, ks.length, by rw [List.length_map]; rfl, hD3, hk0, by omega, fun j H4 hj4 k4 hD4 => ?_⟩
      have hF4 := k4 _ _ nF hF3
      have k14 := Kx.trans k13 k4
      refine ⟨kk, _, (j : Int), .str ks[j], rfl, rfl, sqa_kx k14 nkk hkk, atI_nat (by rw [List.getElem?_map, List.getElem?_eq_getElem hj4]; rfl), ?_⟩
      have hkj : ks[j] ∈ ks := List.getElem_mem hj4
      generalize ks[j] = k at hkj
      refine ⟨0, 1, rfl, rfl, by show 5 ≤ sizeLine; decide, fun z hz => ?_⟩
      have e5 := ex_new (o := .lst (([1, 2, 0, 0 - 1, 7] : List Int).map V.int)) hz
      have hD5 := hD4.ex e5
      refine ⟨_, rfl, d, c, 5, rfl, hD5, by decide, by decide, fun j5 H6 hj6 k6 hD6 => ?_⟩
      have hz6 : H6 z = some (.lst (([1, 2, 0, 0 - 1, 7] : List Int).map V.int)) := k6 _ _ (hD4.fresh hz) (upd_same ..)
      refine ⟨z, _, (j5 : Int), .int (([1, 2, 0, 0 - 1, 7] : List Int)[j5]'(by simpa using hj6)), rfl, rfl, l_of hz6, atI_nat (by rw [List.getElem?_map, List.getElem?_eq_getElem (by simpa using hj6)]; rfl), ?_⟩
      generalize (([1, 2, 0, 0 - 1, 7] : List Int)[j5]'(by simpa using hj6)) = m
      refine ⟨_, _, rfl, ?_⟩
      have k46 : Kx (X2 d c) H4 H6 := Kx.trans (Kx.ofEx e5) k6
      have k16 := Kx.trans k14 k46
      have hF6 := k46 _ _ nF hF4
      have k1' : Kx (X2 d c) H1 H6 := Kx.trans k2 (Kx.trans k3 (Kx.trans k4 k46))
      have hs6 := sys_nx (hD1.nx k1') hs1
      have hp6 := sqa_kx k16 np hp
      have hps6 := pr_mono (fun _ _ z => PrT.nx (hD.nx k16) z) hps
      have hus1 : us.length ≤ 150 := by omega
      have hiu : i ≤ us.length := by omega
      -- a new row stands
      have fin : ∀ (l : Addr) (H7 : Hp) (ms : List V) (mid : List Syl) (jj : Nat), Evl.Ex H6 H7 → H6 l = none → H7 l = some (.lst (us.take i ++ ms ++ us.drop jj)) → Sys K H7 ms mid → Al (frP ps) s (s.take i ++ mid ++ s.drop jj) → mid.length + i ≤ jj + 2 → jj ≤ us.length → (∀ y ∈ mid, y.1 ∈ ks) →
          ∃ F us s' v5' v6' v7' v8' v9', [some (V.ref d), some (.ref kk), some (.ref p), some (.ref l), some (.int (n : Nat)), some (.int ((0 : Int) + (turn : Nat))), some (.int (fm : Nat)), some (.int (i : Nat)), some (.str k), some (.int m)] = [some (.ref d), some (.ref kk), some (.ref p), some (.ref F), some (.int (n : Nat)), v5', v6', v7', v8', v9'] ∧ Kx (X2 d c) H H7 ∧ Dl H7 d c ∧ H F = none ∧ H7 F = some (.lst us) ∧ Sys K H7 us s' ∧ Al (frP ps) r s' ∧ s'.length ≤ r.length + 2 * (turn + 1) ∧ (∀ y ∈ s', y.1 ∈ ks) := by
        intro l H7 ms mid jj e7 hl0 hl7 hms hal2 hml hjj hmk
        have hs7 := sys_ex e7 hs6
        refine ⟨l, _, _, _, _, _, _, _, rfl, Kx.trans k16 (Kx.ofEx e7), hD6.ex e7, k16.free (hD6.fresh hl0) hl0, hl7, pr_app (pr_app (pr_take i hs7) hms) (pr_drop jj hs7), .trans hal hal2, ?_, fun y hy => ?_⟩
        · simp only [List.length_append, List.length_take, List.length_drop]
          omega
        · rcases List.mem_append.mp hy with h | h
          · rcases List.mem_append.mp h with h | h
            · exact hsk y (List.mem_of_mem_take h)
            · exact hmk y h
          · exact hsk y (List.mem_of_mem_drop h)
      -- nothing done
      have stay : ∃ F us s' v5' v6' v7' v8' v9', [some (V.ref d), some (.ref kk), some (.ref p), some (.ref F), some (.int (n : Nat)), some (.int ((0 : Int) + (turn : Nat))), some (.int (fm : Nat)), some (.int (i : Nat)), some (.str k), some (.int m)] = [some (.ref d), some (.ref kk), some (.ref p), some (.ref F), some (.int (n : Nat)), v5', v6', v7', v8', v9'] ∧ Kx (X2 d c) H H6 ∧ Dl H6 d c ∧ H F = none ∧ H6 F = some (.lst us) ∧ Sys K H6 us s' ∧ Al (frP ps) r s' ∧ s'.length ≤ r.length + 2 * (turn + 1) ∧ (∀ y ∈ s', y.1 ∈ ks) :=
        ⟨F, us, s, _, _, _, _, _, rfl, k16, hD6, hF0, hF6, hs6, hal, by omega, hsk⟩
      have stay' := stay
      have at_ : ∀ {x : Nat}, x < us.length → ∃ kx nx px, s[x]? = some (kx, nx) ∧ us[x]? = some (.ref px) ∧ SqT K H6 px [.str kx, .int nx] := by
        intro x hx
        obtain ⟨vx, hvx, px, rfl, hpx⟩ := pr_get hs6 (List.getElem?_eq_getElem (show x < s.length by omega))
        exact ⟨_, _, px, by rw [List.getElem?_eq_getElem (show x < s.length by omega)], hvx, hpx⟩
      have two : ∀ {x : Nat} {y : Syl}, s[x]? = some y → s = s.take x ++ y :: s.drop (x + 1) := by
        intro x y hx
        obtain ⟨h1, h2⟩ := List.getElem?_eq_some_iff.mp hx
        rw [← h2, ← List.drop_eq_getElem_cons h1, List.take_append_drop]
      have ind : ((i : Nat) : Int) + 1 = ((i + 1 : Nat) : Int) := by omega
      have ind2 : ((i : Nat) : Int) + 2 = ((i + 2 : Nat) : Int) := by omega
      refine ⟨_, rfl, rfl, _, rfl, ?_⟩
      refine iteE2 ?_ (fun els _ => ?_)
      · refine ⟨_, rfl, rfl, _, rfl, ?_⟩
        refine iteE2 ?_ (fun els _ => ?_)
        · -- exchange, melt
          refine ⟨_, rfl, (i : Int), 1, rfl, rfl, _, rfl, F, _, rfl, .inl (l_of hF6), (i : Int) + 1, (us.length : Int), rfl, rfl, _, rfl, ?_⟩
          by_cases h1 : i + 1 < us.length
          · rw [decide_eq_true (show (i : Int) + 1 < (us.length : Int) by omega)]
            refine iteT ?_
            obtain ⟨k0, n0, p0, hs0, hv0, hp0⟩ := at_ (show i < us.length by omega)
            obtain ⟨k1, n1, p1', hs1', hv1, hp1''⟩ := at_ h1
            have hv1' : atI us ((i : Int) + 1) = some (.ref p1') := by rw [ind]; exact atI_nat hv1
            have er : s = s.take i ++ (k0, n0) :: (k1, n1) :: s.drop (i + 2) := by
              have e1 := two hs0
              have e2 : s.drop (i + 1) = (k1, n1) :: s.drop (i + 2) := by
                obtain ⟨g1, g2⟩ := List.getElem?_eq_some_iff.mp hs1'
                rw [← g2]
                exact List.drop_eq_getElem_cons g1
              rw [e2] at e1
              exact e1
            have m0 := hsk (k0, n0) (List.mem_of_getElem? hs0)
            have m1 := hsk (k1, n1) (List.mem_of_getElem? hs1')
            refine ⟨_, rfl, _, rfl, _, rfl, F, us, (i : Int), _, rfl, rfl, l_of hF6, atI_nat hv0, p0, _, (0 : Int), _, rfl, rfl, hp0, atI_nat (j := 0) rfl, _, rfl, _, rfl, (i : Int), 1, rfl, rfl, F, us, (i : Int) + 1, _, rfl, rfl, l_of hF6, hv1', p1', _, (0 : Int), _, rfl, rfl, hp1'', atI_nat (j := 0) rfl, ?_⟩
            refine ⟨b, p, zs, ps, k0, k1, rfl, hp6, hps6, fun H7 e7 => ⟨_, rfl, ?_⟩⟩
            have hF7 := e7 _ _ hF6
            cases hfr : frP ps k0 k1 with
            | true =>
              refine iteT ?_
              have hcp := cutV_pre us hiu
              refine ⟨_, rfl, _, rfl, (i : Int), rfl, F, us, rfl, l_of hF7, fun p1 hp1 => ?_⟩
              rw [hcp]
              have x1 := ex_new (o := .lst (us.take i)) hp1
              have q1 : (upd H7 p1 (.lst (us.take i))) p1 = some (.lst (us.take i)) := upd_same ..
              refine ⟨_, rfl, _, rfl, (i : Int), 1, rfl, rfl, F, us, (i : Int) + 1, _, rfl, rfl, l_of (x1 _ _ hF7), hv1', ?_⟩
              refine ⟨_, rfl, _, rfl, F, us, (i : Int), _, rfl, rfl, l_of (x1 _ _ hF7), atI_nat hv0, ?_⟩
              refine ⟨by show 2 ≤ sizeLine; decide, fun pm hpm => ?_⟩
              have xm := ex_new (o := .lst [.ref p1', .ref p0]) hpm
              have y1 := xm _ _ q1
              refine ⟨p1, pm, _, _, rfl, rfl, y1, upd_same .., by rw [List.length_take]; show _ + 2 ≤ _; omega, fun p3 hp3 => ?_⟩
              have x3 := ex_new (o := .lst (us.take i ++ [V.ref p1', V.ref p0])) hp3
              have z3 := Evl.Ex.trans x1 (Evl.Ex.trans xm x3)
              refine ⟨_, rfl, _, rfl, (i : Int), 2, rfl, rfl, (i : Int) + 2, rfl, F, us, rfl, l_of (z3 _ _ hF7), fun p4 hp4 => ?_⟩
              rw [ind2]
              rw [cutV_suf us (show i + 2 ≤ us.length by omega)]
              have x4 := ex_new (o := .lst (us.drop (i + 2))) hp4
              refine ⟨p3, p4, _, _, rfl, rfl, x4 _ _ (upd_same ..), upd_same .., by rw [List.length_append, List.length_take, List.length_drop]; show _ + 2 + _ ≤ _; omega, fun l hl => ?_⟩
              have x5 := ex_new (o := .lst ((us.take i ++ [V.ref p1', V.ref p0]) ++ us.drop (i + 2))) hl
              have xx := Evl.Ex.trans e7 (Evl.Ex.trans z3 (Evl.Ex.trans x4 x5))
              refine fin l _ [V.ref p1', V.ref p0] [(k1, n1), (k0, n0)] (i + 2) xx (ex_free (Evl.Ex.trans e7 (Evl.Ex.trans z3 x4)) hl) (upd_same ..) (.cons ⟨p1', rfl, Evl.ex_t xx hp1''⟩ (.cons ⟨p0, rfl, Evl.ex_t xx hp0⟩ .nil)) ?_ (by show 2 + i ≤ _; omega) (by omega) ?_
              · have h := Al.swap (fr := frP ps) (s.take i) (k0, n0) (k1, n1) (s.drop (i + 2)) hfr
                rw [← er] at h
                rw [List.append_assoc]
                exact h
              · intro y hy
                simp only [List.mem_cons, List.not_mem_nil, or_false] at hy
                rcases hy with h | h <;> rw [h]
                · exact m1
                · exact m0
            | false =>
              refine iteF ?_
              refine ⟨_, rfl, (i : Int), 1, rfl, rfl, _, rfl, F, _, rfl, .inl (l_of hF7), (i : Int) + 1, (us.length : Int), rfl, rfl, _, rfl, ?_⟩
              rw [decide_eq_true (show (i : Int) + 1 < (us.length : Int) by omega)]
              refine iteT ?_
              refine ⟨_, rfl, _, rfl, F, us, (i : Int), _, rfl, rfl, l_of hF7, atI_nat hv0, p0, _, (0 : Int), _, rfl, rfl, (Evl.ex_t e7 hp0), atI_nat (j := 0) rfl, _, rfl, _, rfl, (i : Int), 1, rfl, rfl, F, us, (i : Int) + 1, _, rfl, rfl, l_of hF7, hv1', p1', _, (0 : Int), _, rfl, rfl, (Evl.ex_t e7 hp1''), atI_nat (j := 0) rfl, ?_⟩
              refine ⟨rfl, _, rfl, ite2 (fun eq => ?_) (fun eq => ?_)⟩
              · have ek : k0 = k1 := V.str.inj (of_decide_eq_true eq)
                subst ek
                have hcp := cutV_pre us hiu
                refine ⟨_, rfl, _, rfl, (i : Int), rfl, F, us, rfl, l_of hF7, fun p1 hp1 => ?_⟩
                rw [hcp]
                have x1 := ex_new (o := .lst (us.take i)) hp1
                have q1 : (upd H7 p1 (.lst (us.take i))) p1 = some (.lst (us.take i)) := upd_same ..
                refine ⟨_, rfl, _, rfl, F, us, (i : Int), _, rfl, rfl, l_of (x1 _ _ hF7), atI_nat hv0, p0, _, (0 : Int), _, rfl, rfl, (Evl.ex_t (Evl.Ex.trans e7 x1) hp0), atI_nat (j := 0) rfl, _, rfl, _, rfl, F, us, (i : Int), _, rfl, rfl, l_of (x1 _ _ hF7), atI_nat hv0, p0, _, (1 : Int), _, rfl, rfl, (Evl.ex_t (Evl.Ex.trans e7 x1) hp0), atI_nat (j := 1) rfl, _, rfl, _, rfl, (i : Int), 1, rfl, rfl, F, us, (i : Int) + 1, _, rfl, rfl, l_of (x1 _ _ hF7), hv1', p1', _, (1 : Int), _, rfl, rfl, (Evl.ex_t (Evl.Ex.trans e7 x1) hp1''), atI_nat (j := 1) rfl, n0, n1, rfl, rfl, by show 2 ≤ sizeLine; decide, fun t1 ht1 => ?_⟩
                have xa := ex_new (o := .tup [.str k0, .int (n0 + n1)]) ht1
                refine ⟨by show 1 ≤ sizeLine; decide, fun pm hpm => ?_⟩
                have xc := ex_new (o := .lst [.ref t1]) hpm
                have xm := Evl.Ex.trans xa xc
                have y1 := xm _ _ q1
                refine ⟨p1, pm, _, _, rfl, rfl, y1, upd_same .., by rw [List.length_take]; show _ + 1 ≤ _; omega, fun p3 hp3 => ?_⟩
                have x3 := ex_new (o := .lst (us.take i ++ [V.ref t1])) hp3
                have z3 := Evl.Ex.trans x1 (Evl.Ex.trans xm x3)
                refine ⟨_, rfl, _, rfl, (i : Int), 2, rfl, rfl, (i : Int) + 2, rfl, F, us, rfl, l_of (z3 _ _ hF7), fun p4 hp4 => ?_⟩
                rw [ind2]
                rw [cutV_suf us (show i + 2 ≤ us.length by omega)]
                have x4 := ex_new (o := .lst (us.drop (i + 2))) hp4
                refine ⟨p3, p4, _, _, rfl, rfl, x4 _ _ (upd_same ..), upd_same .., by rw [List.length_append, List.length_take, List.length_drop]; show _ + 1 + _ ≤ _; omega, fun l hl => ?_⟩
                have x5 := ex_new (o := .lst ((us.take i ++ [V.ref t1]) ++ us.drop (i + 2))) hl
                have xx := Evl.Ex.trans e7 (Evl.Ex.trans z3 (Evl.Ex.trans x4 x5))
                refine fin l _ [V.ref t1] [(k0, n0 + n1)] (i + 2) xx (ex_free (Evl.Ex.trans e7 (Evl.Ex.trans z3 x4)) hl) (upd_same ..) (.cons ⟨t1, rfl, Evl.ex_t (Evl.Ex.trans xc (Evl.Ex.trans x3 (Evl.Ex.trans x4 x5))) (t_of (upd_same ..))⟩ .nil) ?_ (by show 1 + i ≤ _; omega) (by omega) ?_
                · have h := Al.melt (fr := frP ps) (s.take i) k0 n0 n1 (s.drop (i + 2))
                  rw [← er] at h
                  rw [List.append_assoc]
                  exact h
                · intro y hy
                  rw [List.mem_singleton] at hy
                  rw [hy]
                  exact m0
              · exact ⟨F, us, s, _, _, _, _, _, rfl, Kx.trans k16 (Kx.ofEx e7), hD6.ex e7, hF0, hF7, sys_ex e7 hs6, hal, by omega, hsk⟩
          · rw [decide_eq_false (show ¬ (i : Int) + 1 < (us.length : Int) by omega)]
            refine iteF ?_
            refine ⟨_, rfl, (i : Int), 1, rfl, rfl, _, rfl, F, _, rfl, .inl (l_of hF6), (i : Int) + 1, (us.length : Int), rfl, rfl, _, rfl, ?_⟩
            rw [decide_eq_false (show ¬ (i : Int) + 1 < (us.length : Int) by omega)]
            exact iteF (iteF ⟨F, us, s, _, _, _, _, _, rfl, k16, hD6, hF0, hF6, hs6, hal, by omega, hsk⟩)
        · -- split
          refine ⟨_, rfl, _, rfl, F, _, rfl, .inl (l_of hF6), (i : Int), (us.length : Int), rfl, rfl, _, rfl, ?_⟩
          by_cases h1 : i < us.length
          · rw [decide_eq_true (show (i : Int) < (us.length : Int) by omega)]
            refine iteT ⟨(us.length : Int), 50, rfl, rfl, _, rfl, iteE2 els fun _ _ => ?_⟩
            obtain ⟨k0, n0, p0, hs0, hv0, hp0⟩ := at_ h1
            have hcp := cutV_pre us hiu
            refine ⟨_, rfl, _, rfl, (i : Int), rfl, F, us, rfl, l_of hF6, fun p1 hp1 => ?_⟩
            rw [hcp]
            have x1 := ex_new (o := .lst (us.take i)) hp1
            have q1 : (upd H6 p1 (.lst (us.take i))) p1 = some (.lst (us.take i)) := upd_same ..
            refine ⟨_, rfl, _, rfl, F, us, (i : Int), _, rfl, rfl, l_of (x1 _ _ hF6), atI_nat hv0, p0, _, (0 : Int), _, rfl, rfl, (Evl.ex_t x1 hp0), atI_nat (j := 0) rfl, _, rfl, by show 2 ≤ sizeLine; decide, fun t1 ht1 => ?_⟩
            have xa := ex_new (o := .tup [.str k0, .int m]) ht1
            have x1a := Evl.Ex.trans x1 xa
            refine ⟨_, rfl, _, rfl, F, us, (i : Int), _, rfl, rfl, l_of (x1a _ _ hF6), atI_nat hv0, p0, _, (0 : Int), _, rfl, rfl, (Evl.ex_t x1a hp0), atI_nat (j := 0) rfl, _, rfl, _, rfl, F, us, (i : Int), _, rfl, rfl, l_of (x1a _ _ hF6), atI_nat hv0, p0, _, (1 : Int), _, rfl, rfl, (Evl.ex_t x1a hp0), atI_nat (j := 1) rfl, _, rfl, n0, m, rfl, rfl, by show 2 ≤ sizeLine; decide, fun t2 ht2 => ?_⟩
            have xb := ex_new (o := .tup [.str k0, .int (n0 - m)]) ht2
            refine ⟨by show 2 ≤ sizeLine; decide, fun pm hpm => ?_⟩
            have xc := ex_new (o := .lst [.ref t1, .ref t2]) hpm
            have xm := Evl.Ex.trans xa (Evl.Ex.trans xb xc)
            have y1 := xm _ _ q1
            refine ⟨p1, pm, _, _, rfl, rfl, y1, upd_same .., by rw [List.length_take]; show _ + 2 ≤ _; omega, fun p3 hp3 => ?_⟩
            have x3 := ex_new (o := .lst (us.take i ++ [V.ref t1, V.ref t2])) hp3
            have z3 := Evl.Ex.trans x1 (Evl.Ex.trans xm x3)
            refine ⟨_, rfl, _, rfl, (i : Int), 1, rfl, rfl, (i : Int) + 1, rfl, F, us, rfl, l_of (z3 _ _ hF6), fun p4 hp4 => ?_⟩
            rw [ind]
            rw [cutV_suf us (show i + 1 ≤ us.length by omega)]
            have x4 := ex_new (o := .lst (us.drop (i + 1))) hp4
            refine ⟨p3, p4, _, _, rfl, rfl, x4 _ _ (upd_same ..), upd_same .., by rw [List.length_append, List.length_take, List.length_drop]; show _ + 2 + _ ≤ _; omega, fun l hl => ?_⟩
            have x5 := ex_new (o := .lst ((us.take i ++ [V.ref t1, V.ref t2]) ++ us.drop (i + 1))) hl
            have xx := Evl.Ex.trans z3 (Evl.Ex.trans x4 x5)
            refine fin l _ [V.ref t1, V.ref t2] [(k0, m), (k0, n0 - m)] (i + 1) xx (ex_free (Evl.Ex.trans z3 x4) hl) (upd_same ..) (.cons ⟨t1, rfl, Evl.ex_t (Evl.Ex.trans xb (Evl.Ex.trans xc (Evl.Ex.trans x3 (Evl.Ex.trans x4 x5)))) (t_of (upd_same ..))⟩ (.cons ⟨t2, rfl, Evl.ex_t (Evl.Ex.trans xc (Evl.Ex.trans x3 (Evl.Ex.trans x4 x5))) (t_of (upd_same ..))⟩ .nil)) ?_ (by show 2 + i ≤ _; omega) (by omega) ?_
            · have h := al_split (fr := frP ps) (s.take i) (s.drop (i + 1)) k0 n0 m
              rw [← two hs0] at h
              exact h
            · intro y hy
              have h2 := hsk (k0, n0) (List.mem_of_getElem? hs0)
              simp only [List.mem_cons, List.not_mem_nil, or_false] at hy
              rcases hy with h | h <;> rw [h] <;> exact h2
          · rw [decide_eq_false (show ¬ (i : Int) < (us.length : Int) by omega)]
            exact iteF ⟨_, rfl, iteF els⟩
      · -- put in
        refine ⟨_, rfl, F, _, rfl, .inl (l_of hF6), _, _, rfl, rfl, _, rfl, iteE2 els fun _ _ => ?_⟩
        have hcp := cutV_pre us hiu
        refine ⟨_, rfl, _, rfl, (i : Int), rfl, F, us, rfl, l_of hF6, fun p1 hp1 => ?_⟩
        rw [hcp]
        have x1 := ex_new (o := .lst (us.take i)) hp1
        have q1 : (upd H6 p1 (.lst (us.take i))) p1 = some (.lst (us.take i)) := upd_same ..
        refine ⟨_, rfl, _, rfl, by show 2 ≤ sizeLine; decide, fun t1 ht1 => ?_⟩
        refine ⟨_, rfl, _, rfl, 0, m, rfl, rfl, by show 2 ≤ sizeLine; decide, fun t2 ht2 => ?_⟩
        have xa := ex_new (o := .tup [.str k, .int m]) ht1
        have xb := ex_new (o := .tup [.str k, .int (0 - m)]) ht2
        refine ⟨by show 2 ≤ sizeLine; decide, fun pm hpm => ?_⟩
        have xc := ex_new (o := .lst [.ref t1, .ref t2]) hpm
        have xm := Evl.Ex.trans xa (Evl.Ex.trans xb xc)
        have y1 := xm _ _ q1
        refine ⟨p1, pm, _, _, rfl, rfl, y1, upd_same .., by rw [List.length_take]; show _ + 2 ≤ _; omega, fun p3 hp3 => ?_⟩
        have x3 := ex_new (o := .lst (us.take i ++ [V.ref t1, V.ref t2])) hp3
        have z3 := Evl.Ex.trans x1 (Evl.Ex.trans xm x3)
        refine ⟨_, rfl, _, rfl, (i : Int), rfl, F, us, rfl, l_of (z3 _ _ hF6), fun p4 hp4 => ?_⟩
        rw [cutV_suf us (show i ≤ us.length by omega)]
        have x4 := ex_new (o := .lst (us.drop (i))) hp4
        refine ⟨p3, p4, _, _, rfl, rfl, x4 _ _ (upd_same ..), upd_same .., by rw [List.length_append, List.length_take, List.length_drop]; show _ + 2 + _ ≤ _; omega, fun l hl => ?_⟩
        have x5 := ex_new (o := .lst ((us.take i ++ [V.ref t1, V.ref t2]) ++ us.drop (i))) hl
        have xx := Evl.Ex.trans z3 (Evl.Ex.trans x4 x5)
        refine fin l _ [V.ref t1, V.ref t2] [(k, m), (k, 0 - m)] (i) xx (ex_free (Evl.Ex.trans z3 x4) hl) (upd_same ..) (.cons ⟨t1, rfl, Evl.ex_t (Evl.Ex.trans xb (Evl.Ex.trans xc (Evl.Ex.trans x3 (Evl.Ex.trans x4 x5)))) (t_of (upd_same ..))⟩ (.cons ⟨t2, rfl, Evl.ex_t (Evl.Ex.trans xc (Evl.Ex.trans x3 (Evl.Ex.trans x4 x5))) (t_of (upd_same ..))⟩ .nil)) ?_ (by show 2 + i ≤ _; omega) (by omega) ?_
        · have h := al_undo (fr := frP ps) (s.take i) (s.drop i) k m
          rw [List.take_append_drop] at h
          exact h
        · intro y hy
          simp only [List.mem_cons, List.not_mem_nil, or_false] at hy
          rcases hy with h | h <;> rw [h] <;> exact hkj
    · rintro σ H' ⟨F, us, s, v5, v6, v7, v8, v9, rfl, k, hD', hF0, hF', hs', hal, hsl, hsk⟩
      exact ⟨_, rfl, q F H' us s k hD' hF0 hF' hs' hal hsl hsk⟩
theorem D_law_bent (C : Fx w K mg base) : Dn P w K mg base 2 (a_law_bent K) (fdA K (a_law_bent K)) ["_law_deal_here", "_law_kinds", "_law_pairs_here", "_law_row_here", "_law_many"] (spBent K) "_law_bent" := ⟨ok_law_bent C, C.g_law_bent, (F_law_bent C).kp, B_law_bent C⟩
end
end K91
/-! MH -/
/-! stores of parts, rings: plain Lean -/
namespace K91
section
variable {K : Type} [DecidableEq K]
/-- a part of a store: its size, for some kinds a permutation -/
structure Blk (K : Type) where
  m : Nat
  mv : K → Option (List Nat)
def Blk.f (b : Blk K) (k : K) (x : Nat) : Nat := match b.mv k with
  | some l => (l[x]?).getD x
  | none => x
structure BlkOk (fr : K → K → Bool) (b : Blk K) : Prop where
  pos : 0 < b.m
  perm : ∀ k l, b.mv k = some l → l.Perm (List.range b.m)
  bar : ∀ j k, (b.mv j).isSome = true → (b.mv k).isSome = true → fr j k = false
def sizeB : List (Blk K) → Nat
  | [] => 1
  | b :: bs => b.m * sizeB bs
def plB : List (Blk K) → K → Nat → Nat
  | [], _, _ => 0
  | b :: bs, k, x => b.f k (x % b.m) + b.m * plB bs k (x / b.m)
variable {fr : K → K → Bool}
theorem Blk.at {b : Blk K} (h : BlkOk fr b) {k : K} {l : List Nat} (e : b.mv k = some l) {x : Nat} (hx : x < b.m) : l[x]? = some (b.f k x) ∧ b.f k x < b.m := by
  have p := h.perm k l e
  have hl : l.length = b.m := by rw [p.length_eq, List.length_range]
  have hg : l[x]? = some (l[x]'(by omega)) := List.getElem?_eq_getElem (by omega)
  have hf : b.f k x = l[x]'(by omega) := by
    unfold Blk.f
    rw [e]
    show (l[x]?).getD x = _
    rw [hg]
    rfl
  refine ⟨by rw [hf]; exact hg, ?_⟩
  rw [hf]
  exact List.mem_range.mp (p.mem_iff.mp (List.getElem_mem _))
theorem Blk.lt {b : Blk K} (h : BlkOk fr b) (k : K) {x : Nat} (hx : x < b.m) : b.f k x < b.m := by
  cases e : b.mv k with
  | some l => exact (Blk.at h e hx).2
  | none =>
    unfold Blk.f
    rw [e]
    exact hx
theorem Blk.inj {b : Blk K} (h : BlkOk fr b) (k : K) {x y : Nat} (hx : x < b.m) (hy : y < b.m) (q : b.f k x = b.f k y) : x = y := by
  cases e : b.mv k with
  | some l =>
    have p := h.perm k l e
    have hn : l.Nodup := p.nodup_iff.mpr List.nodup_range
    have h1 := (Blk.at h e hx).1
    have h2 := (Blk.at h e hy).1
    rw [← q] at h2
    exact (List.getElem?_inj (by rw [p.length_eq, List.length_range]; exact hx) hn).mp (h1.trans h2.symm)
  | none =>
    unfold Blk.f at q
    rw [e] at q
    exact q
theorem Blk.com {b : Blk K} (h : BlkOk fr b) {j k : K} (q : fr j k = true) (x : Nat) : b.f j (b.f k x) = b.f k (b.f j x) := by
  cases e : b.mv j with
  | none =>
    have : ∀ x, b.f j x = x := fun x => by unfold Blk.f; rw [e]
    rw [this, this]
  | some l =>
    cases e2 : b.mv k with
    | none =>
      have : ∀ x, b.f k x = x := fun x => by unfold Blk.f; rw [e2]
      rw [this, this]
    | some l2 =>
      rw [h.bar j k (by rw [e]; rfl) (by rw [e2]; rfl)] at q
      cases q
theorem pl_mod {b : Blk K} (h : BlkOk fr b) (bs : List (Blk K)) (k : K) (x : Nat) : plB (b :: bs) k x % b.m = b.f k (x % b.m) ∧ plB (b :: bs) k x / b.m = plB bs k (x / b.m) := by
  have h1 := Blk.lt h k (Nat.mod_lt x h.pos)
  constructor
  · show (b.f k (x % b.m) + b.m * plB bs k (x / b.m)) % b.m = _
    rw [Nat.add_mul_mod_self_left, Nat.mod_eq_of_lt h1]
  · show (b.f k (x % b.m) + b.m * plB bs k (x / b.m)) / b.m = _
    rw [Nat.add_mul_div_left _ _ h.pos, Nat.div_eq_of_lt h1, Nat.zero_add]
theorem size_pos : ∀ {bs : List (Blk K)}, (∀ b ∈ bs, BlkOk fr b) → 0 < sizeB bs
  | [], _ => Nat.one_pos
  | b :: bs, h => Nat.mul_pos (h b List.mem_cons_self).pos (size_pos fun c hc => h c (List.mem_cons_of_mem _ hc))
theorem pl_lt : ∀ {bs : List (Blk K)}, (∀ b ∈ bs, BlkOk fr b) → ∀ (k : K) {x : Nat}, x < sizeB bs → plB bs k x < sizeB bs
  | [], _, _, _, _ => Nat.one_pos
  | b :: bs, h, k, x, hx => by
    have hb := h b List.mem_cons_self
    have h1 := Blk.lt hb k (Nat.mod_lt x hb.pos)
    have h2 := pl_lt (bs := bs) (fun c hc => h c (List.mem_cons_of_mem _ hc)) k (x := x / b.m) (Nat.div_lt_of_lt_mul hx)
    show b.f k (x % b.m) + b.m * plB bs k (x / b.m) < b.m * sizeB bs
    have h3 : b.m * (plB bs k (x / b.m) + 1) ≤ b.m * sizeB bs := Nat.mul_le_mul_left _ h2
    rw [Nat.mul_succ] at h3
    omega
theorem pl_inj : ∀ {bs : List (Blk K)}, (∀ b ∈ bs, BlkOk fr b) → ∀ (k : K) {x y : Nat}, x < sizeB bs → y < sizeB bs → plB bs k x = plB bs k y → x = y
  | [], _, _, x, y, hx, hy, _ => by
    have h1 : x < 1 := hx
    have h2 : y < 1 := hy
    omega
  | b :: bs, h, k, x, y, hx, hy, q => by
    have hb := h b List.mem_cons_self
    obtain ⟨m1, d1⟩ := pl_mod hb bs k x
    obtain ⟨m2, d2⟩ := pl_mod hb bs k y
    rw [q, m2] at m1
    rw [q, d2] at d1
    have e1 := Blk.inj hb k (Nat.mod_lt y hb.pos) (Nat.mod_lt x hb.pos) m1
    have e2 := pl_inj (bs := bs) (fun c hc => h c (List.mem_cons_of_mem _ hc)) k (Nat.div_lt_of_lt_mul hy) (Nat.div_lt_of_lt_mul hx) d1
    rw [← Nat.mod_add_div x b.m, ← Nat.mod_add_div y b.m, e1, e2]
theorem pl_com : ∀ {bs : List (Blk K)}, (∀ b ∈ bs, BlkOk fr b) → ∀ {j k : K} (x : Nat), fr j k = true → plB bs j (plB bs k x) = plB bs k (plB bs j x)
  | [], _, _, _, _, _ => rfl
  | b :: bs, h, j, k, x, q => by
    have hb := h b List.mem_cons_self
    obtain ⟨m1, d1⟩ := pl_mod hb bs k x
    obtain ⟨m2, d2⟩ := pl_mod hb bs j x
    show b.f j (plB (b :: bs) k x % b.m) + b.m * plB bs j (plB (b :: bs) k x / b.m) = b.f k (plB (b :: bs) j x % b.m) + b.m * plB bs k (plB (b :: bs) j x / b.m)
    rw [m1, d1, m2, d2, Blk.com hb q, pl_com (fun c hc => h c (List.mem_cons_of_mem _ hc)) _ q]
/-- the store of these parts -/
def stoB (bs : List (Blk K)) (h : ∀ b ∈ bs, BlkOk fr b) : Sto K fr where
  n := sizeB bs
  f := plB bs
  lt k x hx := pl_lt h k hx
  per k x hx := per_inj (fun x hx => pl_lt h k hx) (fun x y hx hy q => pl_inj h k hx hy q) hx
  com j k x q _ := pl_com h x q
/-- one step of the walk over the parts -/
theorem pl_step (b : Blk K) (bs : List (Blk K)) (k : K) (x spot base : Nat) : spot + base * plB (b :: bs) k (x / base) = (spot + base * b.f k (x / base % b.m)) + (base * b.m) * plB bs k (x / (base * b.m)) := by
  show spot + base * (b.f k (x / base % b.m) + b.m * plB bs k (x / base / b.m)) = _
  rw [Nat.div_div_eq_div_mul, Nat.mul_add, ← Nat.mul_assoc, Nat.add_assoc]
/-- the store of a ring -/
theorem rot_it (n p : Nat) : ∀ i x, x < n → it (fun x => (x + p) % n) i x = (x + i * p) % n
  | 0, x, hx => by
    rw [Nat.zero_mul, Nat.add_zero, Nat.mod_eq_of_lt hx]
    rfl
  | i + 1, x, hx => by
    show (it (fun x => (x + p) % n) i x + p) % n = _
    rw [rot_it n p i x hx, Nat.mod_add_mod, Nat.succ_mul, Nat.add_assoc]
def stoR (n : Nat) (hn : 0 < n) (ps : K → Nat) : Sto K fr where
  n := n
  f k x := (x + ps k) % n
  lt k x hx := Nat.mod_lt _ hn
  per k x hx := ⟨n, hn, Nat.le_refl _, by
    show it (fun x => (x + ps k) % n) n x = x
    rw [rot_it n (ps k) n x hx, Nat.add_mul_mod_self_left, Nat.mod_eq_of_lt hx]⟩
  com j k x _ _ := by
    show ((x + ps k) % n + ps j) % n = ((x + ps j) % n + ps k) % n
    rw [Nat.mod_add_mod, Nat.mod_add_mod, Nat.add_right_comm]
end
end K91
/-! Q16 -/
namespace K91
open PySem PySem.Spec PyProof.Rows L2
open C8 (InsC call_isC pss_cut)
/-- v is a part of a store; its lists are made since H0 -/
def BlkV (K : PySem.W.Frag) (H0 H : Hp) (v : V) (b : Blk Str) : Prop := ∃ q dct kvs, v = .ref q ∧ SqT K H q [.int ((b.m : Nat) : Int), .ref dct] ∧ H dct = some (.dK kvs) ∧
  ∀ k, (b.mv k = none ∧ valV kvs (Sum.inr k) = none) ∨ ∃ l a, b.mv k = some l ∧ valV kvs (Sum.inr k) = some (.ref a) ∧ H0 a = none ∧ H a = some (.lst ((li l).map V.int))
theorem BlkV.ex {K : PySem.W.Frag} {H0 H H' : Hp} (e : Evl.Ex H H') {v : V} {b : Blk Str} (h : BlkV K H0 H v b) : BlkV K H0 H' v b := by
  obtain ⟨q, dct, kvs, h1, h2, h3, h4⟩ := h
  exact ⟨q, dct, kvs, h1, Evl.ex_t e h2, e _ _ h3, fun k => (h4 k).imp id fun ⟨l, a, i1, i2, i3, i4⟩ => ⟨l, a, i1, i2, i3, e _ _ i4⟩⟩
/-- at g: the moves of a store -/
def RgsV (H0 H : Hp) (g : Addr) (ks : List Str) (n : Nat) (f : Str → Nat → Nat) : Prop := ∃ kvs, H g = some (.dK kvs) ∧ ∀ k ∈ ks, ∃ a, valV kvs (Sum.inr k) = some (.ref a) ∧ H0 a = none ∧ H a = some (.lst ((li ((List.range n).map (f k))).map V.int))
theorem size_snoc (b : Blk Str) : ∀ bs : List (Blk Str), sizeB (bs ++ [b]) = sizeB bs * b.m
  | [] => by simp [sizeB]
  | c :: bs => by
    show c.m * sizeB (bs ++ [b]) = c.m * sizeB bs * b.m
    rw [size_snoc b bs, Nat.mul_assoc]
theorem size_le {bs : List (Blk Str)} (h : ∀ b ∈ bs, b.m ≤ 4) : ∀ i, i ≤ bs.length → sizeB (bs.take i) ≤ 4 ^ i
  | 0, _ => Nat.le_refl _
  | i + 1, hi => by
    have hl : i < bs.length := hi
    rw [List.take_add_one, List.getElem?_eq_getElem hl]
    show sizeB (bs.take i ++ [bs[i]]) ≤ 4 ^ (i + 1)
    rw [size_snoc, Nat.pow_succ]
    exact Nat.mul_le_mul (size_le h i (by omega)) (h _ (List.getElem_mem hl))
section
variable {P : Program} {w : World} {K : PySem.W.Frag} {mg : Str → Option Value} {base : Heap}
def spPlc (K : PySem.W.Frag) : Sp := fun vs H Q _ => ∃ (H0 : Hp) (a : Addr) (k : Str) (x : Nat) (ws : List V) (bs : List (Blk Str)) (fr : Str → Str → Bool), vs = [.ref a, .str k, .int (x : Nat)] ∧ SqL K H a ws ∧ Paired (BlkV K H0 H) ws bs ∧ (∀ b ∈ bs, BlkOk fr b ∧ b.m ≤ 4) ∧ bs.length ≤ 3 ∧ ∀ H', Evl.Ex H H' → Q (.int (plB bs k x : Nat)) H'
theorem ok_law_placed (C : Fx w K mg base) : FnOk P w K mg base CX0 1 (a_law_placed K) (fdA K (a_law_placed K)) ["_law_blocks_here", "_law_kind", "_law_standing"] (spPlc K) := by
  refine (F_law_placed C).ok S_law_placed (fun vs H Q E h => ?_) (fun cdv A outer s H vs Q E hr h => ?_)
  · obtain ⟨H0, a, k, x, ws, bs, fr, rfl, _⟩ := h
    rfl
  · obtain ⟨H0, a, k, x, ws, bs, fr, rfl, ha, hws, hok, hbl, q⟩ := h
    refine ⟨_, (pss_cons (ps_asg (pe_tup (pa_cons pe_int (pa_cons pe_int pa_nil))) (pg_tup rfl (pgs_cons (pg_name (i := 3) S_law_placed.nd rfl (Or.inl rfl)) (pgs_cons (pg_name (i := 4) S_law_placed.nd rfl (Or.inl rfl)) pgs_nil))))
      (pss_cons (ps_for PassesOwn.never rfl (pi_any (pv 0)) (pg_tup rfl (pgs_cons (pg_name (i := 5) S_law_placed.nd rfl (Or.inl rfl)) (pgs_cons (pg_name (i := 6) S_law_placed.nd rfl (Or.inl rfl)) pgs_nil)))
        (pss_cons (ps_set (i := 7) S_law_placed.nd rfl (Or.inl rfl) (pe_op op_mod (pe_op op_fdiv (pv 2) (pv 4)) (pv 5)))
        (pss_cons (ps_set (i := 3) S_law_placed.nd rfl (Or.inl rfl) (pe_op op_add (pv 3) (pe_op op_mul (pv 4) (pe_ifExp (pt_cmp (pc_din (hu_of hr) (pv 1) (pv 6))) (pe_ix ix_list (pe_dget (hu_of hr) (pv 6) (pv 1) (fun _ _ => rfl)) (pv 7) (fun _ _ => rfl)) (pv 7)))))
        (pss_one (ps_set (i := 4) S_law_placed.nd rfl (Or.inl rfl) (pe_op op_mul (pv 4) (pv 5)))))))
      (pss_one (ps_ret (pv 3))))), ?_⟩
    have hzs := sizeLine_eq
    have hwl := pr_len hws
    refine ⟨by show 2 ≤ sizeLine; decide, fun T hT => ?_⟩
    have eT := ex_new (o := .tup [.int 0, .int 1]) hT
    refine ⟨T, _, rfl, t_of (upd_same ..), rfl, _, _, rfl, _, _, rfl, rfl, ?_⟩
    have ha := Evl.ex_l eT ha
    have hws := pr_mono (fun _ _ z => BlkV.ex eT z) hws
    have q := q _ eT
    obtain ⟨H1, hH1⟩ : ∃ H1, H1 = upd H T (.tup [.int 0, .int 1]) := ⟨_, rfl⟩
    rw [← hH1] at ha hws q ⊢
    clear hH1 eT hT
    refine ⟨_, rfl, true, a, ws, rfl, ha, ?_⟩
    refine for_any (xs := ws) (fun i σ H' => ∃ v5 v6 v7, ∃ spot bse : Nat, σ = [some (.ref a), some (.str k), some (.int (x : Nat)), some (.int (spot : Nat)), some (.int (bse : Nat)), v5, v6, v7] ∧ H' = H1 ∧ spot + bse * plB (bs.drop i) k (x / bse) = plB bs k x ∧ 0 < bse ∧ bse ≤ 4 ^ i)
      ⟨none, none, none, 0, 1, rfl, rfl, by simp, by decide, Nat.le_refl _⟩ (fun i σ H' _ ⟨_, _, _, _, _, _, e, _⟩ => by rw [e]; exact ha) ?_ ?_
    · rintro i v σ H' hv ⟨v5, v6, v7, spot, bse, rfl, rfl, hsp, hb0, hb1⟩
      obtain ⟨b, hb, qq, dct, kvs, rfl, hq, hd, hkv⟩ := pr_get' hws hv
      have hil : i < bs.length := (List.getElem?_eq_some_iff.mp hb).1
      have hbi : bs[i] = b := (List.getElem?_eq_some_iff.mp hb).2
      obtain ⟨hbo, hb4⟩ := hok b (List.mem_of_getElem? hb)
      have hpos := hbo.pos
      have hp4 : 4 ^ i ≤ 64 := Nat.le_trans (Nat.pow_le_pow_right (by decide) (show i ≤ 3 by omega)) (by decide)
      have hpl : x / bse % b.m < b.m := Nat.mod_lt _ hpos
      rw [List.drop_eq_getElem_cons hil, hbi, pl_step] at hsp
      have hnx : bse * b.m ≤ 4 ^ (i + 1) := by rw [Nat.pow_succ]; exact Nat.mul_le_mul hb1 hb4
      refine ⟨qq, _, rfl, hq, rfl, _, _, rfl, _, _, rfl, rfl, ?_⟩
      refine ⟨_, rfl, _, rfl, (x : Int), (bse : Int), rfl, rfl, ⟨by omega, by omega⟩, _, rfl, _, ((b.m : Nat) : Int), rfl, rfl, by show (0 : Int) < _; omega, ?_⟩
      have ep : (x : Int) / (bse : Int) % ((b.m : Nat) : Int) = ((x / bse % b.m : Nat) : Int) := by rw [Int.natCast_emod, Int.natCast_ediv]
      show gName 7 (.int ((x : Int) / (bse : Int) % ((b.m : Nat) : Int))) _ _ _
      rw [ep]
      refine ⟨_, rfl, _, rfl, _, rfl, _, rfl, dct, _, rfl, DGet.k (k := Sum.inr k) hd, _, rfl, ?_⟩
      have fin : ∀ z : Nat, z = b.f k (x / bse % b.m) → ∃ v5' v6' v7', ∃ spot' bse' : Nat, [some (V.ref a), some (.str k), some (.int (x : Nat)), some (.int ((spot : Int) + (bse : Int) * ((z : Nat) : Int))), some (.int ((bse : Int) * ((b.m : Nat) : Int))), some (.int ((b.m : Nat) : Int)), some (.ref dct), some (.int ((x / bse % b.m : Nat) : Int))] = [some (.ref a), some (.str k), some (.int (x : Nat)), some (.int (spot' : Nat)), some (.int (bse' : Nat)), v5', v6', v7'] ∧ H' = H' ∧ spot' + bse' * plB (bs.drop (i + 1)) k (x / bse') = plB bs k x ∧ 0 < bse' ∧ bse' ≤ 4 ^ (i + 1) := by
        rintro z rfl
        exact ⟨_, _, _, spot + bse * b.f k (x / bse % b.m), bse * b.m, by rw [Int.natCast_add, Int.natCast_mul, Int.natCast_mul], rfl, hsp, Nat.mul_pos hb0 hpos, hnx⟩
      rcases hkv k with ⟨hn, hvn⟩ | ⟨l, al, hl, hvl, _, hal⟩
      · rw [hvn]
        refine iteF ⟨_, rfl, (bse : Int), _, rfl, rfl, .inl ⟨by omega, by omega⟩, (spot : Int), _, rfl, rfl, ?_⟩
        refine ⟨_, rfl, _, rfl, (bse : Int), ((b.m : Nat) : Int), rfl, rfl, .inl ⟨by omega, by omega⟩, ?_⟩
        refine fin _ ?_
        unfold Blk.f
        rw [hn]
      · obtain ⟨hat, hlt⟩ := Blk.at hbo hl hpl
        have hg : DGet H' dct (.str k) (valV kvs (Sum.inr k)) := DGet.k (k := Sum.inr k) hd
        rw [hvl] at hg
        rw [hvl]
        refine iteT ⟨_, rfl, _, rfl, dct, _, rfl, hg, _, rfl, al, _, ((x / bse % b.m : Nat) : Int), .int ((b.f k (x / bse % b.m) : Nat) : Int), rfl, rfl, l_of hal, atI_nat ?_, (bse : Int), _, rfl, rfl, .inl ⟨by omega, by omega⟩, (spot : Int), _, rfl, rfl, ?_⟩
        · unfold li
          rw [List.getElem?_map, List.getElem?_map, hat]
          rfl
        · refine ⟨_, rfl, _, rfl, (bse : Int), ((b.m : Nat) : Int), rfl, rfl, .inl ⟨by omega, by omega⟩, ?_⟩
          exact fin _ rfl
    · rintro σ H' ⟨v5, v6, v7, spot, bse, rfl, rfl, hsp, hb0, hb1⟩
      rw [hwl, List.drop_length] at hsp
      have hsp : spot + bse * 0 = plB bs k x := hsp
      rw [Nat.mul_zero, Nat.add_zero] at hsp
      refine ⟨_, rfl, ?_⟩
      rw [hsp]
      exact q
theorem D_law_placed (C : Fx w K mg base) : Dn P w K mg base 1 (a_law_placed K) (fdA K (a_law_placed K)) ["_law_blocks_here", "_law_kind", "_law_standing"] (spPlc K) "_law_placed" := ⟨ok_law_placed C, C.g_law_placed, (F_law_placed C).kp, B_law_placed C⟩
/-! ### the moves of parts -/
def spMvs (K : PySem.W.Frag) : Sp := fun vs H Q _ => ∃ (H0 : Hp) (a kk : Addr) (ks : List Str) (ws : List V) (bs : List (Blk Str)) (fr : Str → Str → Bool), vs = [.ref a, .ref kk] ∧ SqL K H a ws ∧ Paired (BlkV K H0 H) ws bs ∧ (∀ b ∈ bs, BlkOk fr b ∧ b.m ≤ 4) ∧ bs.length ≤ 3 ∧ SqL K H kk (ks.map V.str) ∧ ks.length ≤ 20 ∧
  ∀ t g H', Evl.Ex H H' → H t = none → H g = none → H' t = some (.tup [.int ((sizeB bs : Nat) : Int), .ref g]) → RgsV H H' g ks (sizeB bs) (plB bs) → Q (.ref t) H'
theorem ok_law_moves (C : Fx w K mg base) : FnOk P w K mg base CX0 2 (a_law_moves K) (fdA K (a_law_moves K)) ["_law_blocks_here", "_law_kinds"] (spMvs K) := by
  refine (F_law_moves C).ok S_law_moves (fun vs H Q E h => ?_) (fun cdv A outer s H vs Q E hr h => ?_)
  · obtain ⟨H0, a, kk, ks, ws, bs, fr, rfl, _⟩ := h
    rfl
  · obtain ⟨H0, a, kk, ks, ws, bs, fr, rfl, ha, hws, hok, hbl, hkk, hkl, q⟩ := h
    refine ⟨_, (pss_cons (ps_set (i := 2) S_law_moves.nd rfl (Or.inl rfl) pe_int)
      (pss_cons (ps_for PassesOwn.never rfl (pi_any (pv 0)) (pg_tup rfl (pgs_cons (pg_name (i := 3) S_law_moves.nd rfl (Or.inl rfl)) (pgs_cons (pg_name (i := 4) S_law_moves.nd rfl (Or.inl rfl)) pgs_nil)))
        (pss_one (ps_set (i := 2) S_law_moves.nd rfl (Or.inl rfl) (pe_op op_mul (pv 2) (pv 3)))))
      (pss_cons (ps_set (i := 5) S_law_moves.nd rfl (Or.inl rfl) pe_dnewK)
      (pss_cons (ps_for PassesOwn.never rfl (pi_any (pv 1)) (pg_name (i := 6) S_law_moves.nd rfl (Or.inr rfl))
        (pss_one (ps_dput (hu_of hr) (pv 5) (pv 6) (pe_lc (own := [("_law_standing", 7)]) (g := gName 7) (tt := tYes) rfl S_law_moves.nd (pi_range1 (by rfl) C.z_range (pa_cons (pv 2) pa_nil)) (blkOk_by (own := [("_law_standing", 7)]) (N := ["_law_blocks_here", "_law_kinds", "_law_size", "_law_many", "_law_moves_here", "_law_found", "_law_kind", "_law_standing"]) (sc := defScope st_law_moves) (by decide +kernel)) (fun _ _ _ _ _ => (pg_name (i := 7) S_law_moves.nd rfl (Or.inl rfl))) (fun _ _ _ _ _ => pts_nil) (fun _ _ _ _ _ => (pe_cd (D_law_placed C) (by exact hr.mono (by decide)) (pa_cons (pv 0) (pa_cons (pv 6) (pa_cons (pv 7) pa_nil)))))) rfl)))
      (pss_one (ps_ret (pe_tup (pa_cons (pv 2) (pa_cons (pv 5) pa_nil))))))))), ?_⟩
    have hzs := sizeLine_eq
    have hwl := pr_len hws
    have h4 : ∀ b ∈ bs, b.m ≤ 4 := fun b hb => (hok b hb).2
    have hp4 : ∀ i, i ≤ 3 → 4 ^ i ≤ 64 := fun i hi => Nat.le_trans (Nat.pow_le_pow_right (by decide) hi) (by decide)
    refine ⟨_, rfl, true, a, ws, rfl, ha, ?_⟩
    refine for_any (xs := ws) (fun i σ H' => ∃ v3 v4 v5 v6, σ = [some (.ref a), some (.ref kk), some (.int ((sizeB (bs.take i) : Nat) : Int)), v3, v4, v5, v6, none] ∧ H' = H) ⟨none, none, none, none, rfl, rfl⟩ (fun i σ H' _ ⟨_, _, _, _, _, e⟩ => by rw [e]; exact ha) ?_ ?_
    · rintro i v σ H' hv ⟨v3, v4, v5, v6, rfl, rfl⟩
      obtain ⟨b, hb, qq, dct, kvs, rfl, hq, hd, hkv⟩ := pr_get' hws hv
      have hil : i < bs.length := (List.getElem?_eq_some_iff.mp hb).1
      have hs1 := size_le h4 i (by omega)
      have hs2 := hp4 i (by omega)
      have etk : sizeB (bs.take (i + 1)) = sizeB (bs.take i) * b.m := by rw [List.take_add_one, hb]; exact size_snoc b _
      refine ⟨qq, _, rfl, hq, rfl, _, _, rfl, _, _, rfl, rfl, ?_⟩
      refine ⟨_, rfl, _, rfl, ((sizeB (bs.take i) : Nat) : Int), ((b.m : Nat) : Int), rfl, rfl, .inl ⟨by omega, by omega⟩, ?_⟩
      refine ⟨some (.int ((b.m : Nat) : Int)), some (.ref dct), v5, v6, ?_, rfl⟩
      rw [etk, Int.natCast_mul]
      rfl
    · rintro σ H' ⟨v3, v4, v5, v6, rfl, rfl⟩
      rw [hwl, List.take_length]
      have hsz : sizeB bs ≤ 64 := by
        have h1 := size_le h4 bs.length (Nat.le_refl _)
        rw [List.take_length] at h1
        exact Nat.le_trans h1 (hp4 _ hbl)
      intro g hg
      have eg := ex_new (o := .dK []) hg
      refine ⟨_, rfl, true, kk, _, rfl, Evl.ex_l eg hkk, ?_⟩
      refine for_any (xs := ks.map V.str) (fun i σ H2 => ∃ v6 kvs, σ = [some (.ref a), some (.ref kk), some (.int ((sizeB bs : Nat) : Int)), v3, v4, some (.ref g), v6, none] ∧ Evl.Ex H' H2 ∧ H2 g = some (.dK kvs) ∧ kvs.length ≤ i ∧ ∀ k ∈ ks.take i, ∃ a, valV kvs (Sum.inr k) = some (.ref a) ∧ H' a = none ∧ a ≠ g ∧ H2 a = some (.lst ((li ((List.range (sizeB bs)).map (plB bs k))).map V.int)))
        ⟨v6, [], rfl, eg, upd_same .., Nat.le_refl _, fun k hk => by simp at hk⟩ (fun i σ H2 _ ⟨_, _, _, e, _⟩ => Evl.ex_l e hkk) ?_ ?_
      · rintro i v σ H2 hv ⟨v6, kvs, rfl, e2, hg2, hkvl, hkv⟩
        rw [List.getElem?_map] at hv
        obtain ⟨k, hk, rfl⟩ := Option.map_eq_some_iff.mp hv
        have hil : i < ks.length := (List.getElem?_eq_some_iff.mp hk).1
        have etk : ks.take (i + 1) = ks.take i ++ [k] := by rw [List.take_add_one, hk]; rfl
        refine ⟨_, rfl, ((sizeB bs : Nat) : Int), rfl, by omega, by omega, fun D hD => ?_⟩
        rw [Int.toNat_natCast]
        have hDg : D ≠ g := fun z => by rw [z, hg2] at hD; cases hD
        have hDH := ex_free e2 hD
        refine lcG_range (n := sizeB bs) (fun j H3 => Evl.Ex H2 H3 ∧ H3 D = some (.lst ((li ((List.range j).map (plB bs k))).map V.int))) ⟨ex_new hD, upd_same ..⟩ ?_ ?_
        · rintro j H3 hj ⟨e3, hD3⟩
          have ej : (0 : Int) + (j : Nat) = ((j : Nat) : Int) := by omega
          rw [ej]
          have e23 := Evl.Ex.trans e2 e3
          refine ⟨rfl, _, rfl, _, rfl, _, rfl, H0, a, k, j, ws, bs, fr, rfl, Evl.ex_l e23 ha, pr_mono (fun _ _ z => z.ex e23) hws, hok, hbl, fun H4 e4 => ?_⟩
          refine ⟨_, e4 _ _ hD3, by unfold li; rw [List.length_map, List.length_map, List.length_map, List.length_range]; omega, Evl.Ex.upd (Evl.Ex.trans e3 e4) hD, ?_⟩
          rw [upd_same, List.range_succ]
          unfold li
          rw [List.map_append, List.map_append, List.map_append]
          rfl
        · rintro H3 ⟨e3, hD3⟩
          have e23 := Evl.Ex.trans e2 e3
          refine ⟨_, rfl, _, rfl, g, _, rfl, DPut.k (k := Sum.inr k) (e3 _ _ hg2) (by omega), ?_⟩
          refine ⟨_, _, rfl, Evl.Ex.upd e23 hg, upd_same .., Nat.le_trans (length_putK _ _ _) (by omega), fun j hj => ?_⟩
          rw [etk] at hj
          by_cases hjk : j = k
          · subst hjk
            refine ⟨D, ?_, hDH, hDg, ?_⟩
            · rw [valV_put, if_pos rfl]
            · rw [upd_ne hDg]
              exact hD3
          · rcases List.mem_append.mp hj with h | h
            · obtain ⟨a', h1, h2, h3, h4'⟩ := hkv j h
              refine ⟨a', ?_, h2, h3, ?_⟩
              · rw [valV_put, if_neg (fun z => hjk (Sum.inr.inj z))]
                exact h1
              · rw [upd_ne h3]
                exact e3 _ _ h4'
            · rw [List.mem_singleton] at h
              exact absurd h hjk
      · rintro σ H2 ⟨v6', kvs, rfl, e2, hg2, hkvl, hkv⟩
        rw [List.length_map, List.take_length] at hkv
        refine ⟨_, rfl, _, rfl, by show 2 ≤ sizeLine; decide, fun t ht => ?_⟩
        have e3 := ex_new (o := .tup [.int ((sizeB bs : Nat) : Int), .ref g]) ht
        exact q t g _ (Evl.Ex.trans e2 e3) (ex_free e2 ht) hg (upd_same ..) ⟨kvs, e3 _ _ hg2, fun k hk => by
          obtain ⟨a', h1, h2, h3, h4'⟩ := hkv k hk
          exact ⟨a', h1, h2, e3 _ _ h4'⟩⟩
theorem D_law_moves (C : Fx w K mg base) : Dn P w K mg base 2 (a_law_moves K) (fdA K (a_law_moves K)) ["_law_blocks_here", "_law_kinds"] (spMvs K) "_law_moves" := ⟨ok_law_moves C, C.g_law_moves, (F_law_moves C).kp, B_law_moves C⟩
end
end K91
/-! Q17 -/
namespace K91
open PySem PySem.Spec PyProof.Rows L2
open C8 (InsC call_isC pss_cut)
theorem BlkV.kx {K : PySem.W.Frag} {X : Addr → Prop} {H0 H H' : Hp} (k : Kx X H H') (nx : Nx H H') (n : ∀ a xs, H0 a = none → H a = some (.lst xs) → ¬ X a) {v : V} {b : Blk Str} (h : BlkV K H0 H v b) : BlkV K H0 H' v b := by
  obtain ⟨q, dct, kvs, h1, h2, h3, h4⟩ := h
  exact ⟨q, dct, kvs, h1, nx_t nx h2, nx _ _ h3 (fun _ z => by cases z), fun j => (h4 j).imp id fun ⟨l, a, i1, i2, i3, i4⟩ => ⟨l, a, i1, i2, i3, k _ _ (n a _ i3 i4) i4⟩⟩
/-- an entry of a part's dict -/
def KvR (H0 : Hp) (D : Addr) (H : Hp) (kv : Key × V) (kl : Str × List Nat) : Prop := kv.1 = Sum.inr kl.1 ∧ ∃ a, kv.2 = .ref a ∧ H0 a = none ∧ a ≠ D ∧ H a = some (.lst ((li kl.2).map V.int))
def lookL (kls : List (Str × List Nat)) (k : Str) : Option (List Nat) := (kls.find? fun x => decide (x.1 = k)).map (·.2)
theorem look_val {H0 H : Hp} {D : Addr} : ∀ {kvs : List (Key × V)} {kls : List (Str × List Nat)}, Paired (KvR H0 D H) kvs kls → ∀ k, (lookL kls k = none ∧ valV kvs (Sum.inr k) = none) ∨ ∃ l a, lookL kls k = some l ∧ valV kvs (Sum.inr k) = some (.ref a) ∧ H0 a = none ∧ H a = some (.lst ((li l).map V.int))
  | _, _, .nil, k => .inl ⟨rfl, rfl⟩
  | kv :: kvs, kl :: kls, .cons ⟨h1, a, h2, h3, _, h4⟩ t, k => by
    by_cases e : kl.1 = k
    · right
      refine ⟨kl.2, a, ?_, ?_, h3, h4⟩
      · unfold lookL
        rw [List.find?_cons_of_pos (by simpa using e)]
        rfl
      · rw [valV_pos (by rw [h1, e]), h2]
    · have h5 : lookL (kl :: kls) k = lookL kls k := by
        unfold lookL
        rw [List.find?_cons_of_neg (by simpa using e)]
      rw [h5, valV_neg (by rw [h1]; exact fun z => e (Sum.inr.inj z))]
      exact look_val t k
theorem look_mem {kls : List (Str × List Nat)} {k : Str} {l : List Nat} (h : lookL kls k = some l) : (k, l) ∈ kls := by
  unfold lookL at h
  obtain ⟨x, hx, rfl⟩ := Option.map_eq_some_iff.mp h
  have h1 := List.mem_of_find?_eq_some hx
  have h2 := List.find?_some hx
  have h3 : x.1 = k := by simpa using h2
  rw [← h3]
  exact h1
theorem keys_eq {H0 H : Hp} {D : Addr} : ∀ {kvs : List (Key × V)} {kls : List (Str × List Nat)}, Paired (KvR H0 D H) kvs kls → kvs.map (·.1) = (kls.map (·.1)).map Sum.inr
  | _, _, .nil => rfl
  | _, _, .cons ⟨h1, _⟩ t => by
    rw [List.map_cons, List.map_cons, List.map_cons, h1, keys_eq t]
theorem kx_plus {X : Addr → Prop} {H H6 H7 : Hp} {U : Addr} (k : Kx X H H6) (k7 : Kx (· = U) H6 H7) (hU : H U = none) : Kx X H H7 := fun a o n h => k7 a o (fun z => by rw [z, hU] at h; cases h) (k a o n h)
theorem Dl.kx {X : Addr → Prop} {H H' : Hp} {d c : Addr} (h : Dl H d c) (k : Kx X H H') (h1 : ¬ X d) (h2 : ¬ X c) : Dl H' d c := by
  obtain ⟨ns, m, i1, i2, r⟩ := h
  exact ⟨ns, m, k _ _ h1 i1, k _ _ h2 i2, r⟩
theorem merge_new : ∀ (kvs acc : List (Key × V)), (kvs.map (·.1)).Nodup → (∀ kv ∈ kvs, valV acc kv.1 = none) → mergeK acc kvs = acc ++ kvs
  | [], acc, _, _ => by simp [mergeK]
  | kv :: kvs, acc, hn, hv => by
    have h1 : putK acc kv.1 kv.2 = acc ++ [kv] := putK_new kv.2 (hv kv List.mem_cons_self)
    obtain ⟨n1, n2⟩ := List.nodup_cons.mp (show (kv.1 :: kvs.map (·.1)).Nodup from hn)
    show mergeK (putK acc kv.1 kv.2) kvs = _
    rw [merge_new kvs _ n2 (fun x hx => ?_), h1, List.append_assoc]
    · rfl
    · rw [valV_put, if_neg (fun z => n1 (by rw [← z]; exact List.mem_map_of_mem hx))]
      exact hv x (List.mem_cons_of_mem _ hx)
theorem pr_nats : ∀ (ns : List Nat), Paired (fun v (n : Nat) => v = V.int (n : Int)) ((li ns).map V.int) ns
  | [] => .nil
  | n :: ns => .cons rfl (pr_nats ns)
theorem pr_nats' : ∀ {vs : List V} {ns : List Nat}, Paired (fun v (n : Nat) => v = V.int (n : Int)) vs ns → vs = (li ns).map V.int
  | _, _, .nil => rfl
  | _, _, .cons h t => by rw [h, pr_nats' t]; rfl
theorem perm_nats {ys : List V} {ms : List Nat} (h : ys.Perm ((li ms).map V.int)) : ∃ ls, ys = (li ls).map V.int ∧ ls.Perm ms := by
  obtain ⟨ls, h1, h2⟩ := pr_perm h.symm (pr_nats ms)
  exact ⟨ls, pr_nats' h1, h2.symm⟩
theorem rgV_li (n : Nat) : rgV 0 ((n : Nat) : Int) = (li (List.range n)).map V.int := by
  unfold rgV li
  rw [List.map_map, Int.sub_zero, Int.toNat_natCast]
  refine List.map_congr_left fun i _ => ?_
  show V.int (0 + (i : Int)) = V.int (i : Int)
  rw [Int.zero_add]
theorem strs_dp {K : PySem.W.Frag} {H : Hp} : ∀ {ns : List Str}, DpAll K H (ns.map V.str) (ns.map PyData.str)
  | [] => .nil
  | n :: ns => .cons (.str n) strs_dp
theorem strs_dpL {K : PySem.W.Frag} {H : Hp} {f : Addr} {ns : List Str} (h : SqL K H f (ns.map V.str)) : Dp K H (.ref f) (PySem.W.Datum.toD ns) := .lst h strs_dp
section
variable {P : Program} {w : World} {K : PySem.W.Frag} {mg : Str → Option Value} {base : Heap}
def spBlk (K : PySem.W.Frag) : Sp := fun vs H Q _ => ∃ (d c kk p : Addr) (ks : List Str) (b : Bool) (zs : List V) (ps : List (Str × Str)), vs = [.ref d, .ref kk, .ref p] ∧ Dl H d c ∧ SqA K H true kk (ks.map V.str) ∧ ¬ X2 d c kk ∧ ks.Nodup ∧ ks.length ≤ 20 ∧
  SqA K H b p zs ∧ ¬ X2 d c p ∧ Paired (PrT K H) zs ps ∧ (∀ a, frP ps a a = false) ∧
  ∀ l H' ws bs H0, Kx (X2 d c) H H' → Dl H' d c → H l = none → H' l = some (.lst ws) → Paired (BlkV K H0 H') ws bs → (∀ b ∈ bs, BlkOk (frP ps) b ∧ b.m ≤ 4) → bs.length ≤ 3 → Q (.ref l) H'
theorem ok_law_blocks (C : Fx w K mg base) : FnOk P w K mg base CX0 3 (a_law_blocks K) (fdA K (a_law_blocks K)) ["_law_deal_here", "_law_kinds", "_law_pairs_here"] (spBlk K) := by
  refine (F_law_blocks C).ok S_law_blocks (fun vs H Q E h => ?_) (fun cdv A outer s H vs Q E hr h => ?_)
  · obtain ⟨d, c, kk, p, ks, b, zs, ps, rfl, _⟩ := h
    rfl
  · obtain ⟨d, c, kk, p, ks, b, zs, ps, rfl, hD, hkk, nkk, hnd, hkl, hp, np, hps, hirr, q⟩ := h
    refine ⟨_, (pss_cons (ps_set (i := 3) S_law_blocks.nd rfl (Or.inl rfl) (pe_lst pa_nil))
      (pss_cons (ps_for PassesOwn.never rfl (pi_range1 (by rfl) C.z_range (pa_cons (pe_op op_add pe_int (pe_cd (D_law_draw C) (hr.mono (by decide)) (pa_cons (pv 0) (pa_cons pe_int pa_nil)))) pa_nil)) (pg_name (i := 4) S_law_blocks.nd rfl (Or.inl rfl))
        (pss_cons (ps_asg (pe_tup (pa_cons (pe_lst pa_nil) (pa_cons (pe_op op_add pe_int (pe_cd (D_law_draw C) (hr.mono (by decide)) (pa_cons (pv 0) (pa_cons pe_int pa_nil)))) pa_nil))) (pg_tup rfl (pgs_cons (pg_name (i := 5) S_law_blocks.nd rfl (Or.inl rfl)) (pgs_cons (pg_name (i := 6) S_law_blocks.nd rfl (Or.inr rfl)) pgs_nil))))
        (pss_cons (ps_for PassesOwn.never rfl (pi_any (pe_cd (D_law_mixed C) (hr.mono (by decide)) (pa_cons (pv 0) (pa_cons (pv 1) pa_nil)))) (pg_name (i := 7) S_law_blocks.nd rfl (Or.inr rfl))
          (pss_one (ps_if (pt_cmpR (op_eqT (α := List Str) hr.units (by decide)) (pe_lc (own := [("_law_one", 8)]) (g := gName 8) (tt := _) rfl S_law_blocks.nd (pi_any (pv 5)) (blkOk_by (own := [("_law_one", 8)]) (N := ["_law_deal_here", "_law_kinds", "_law_pairs_here", "_law_found", "_law_turn", "_law_some", "_law_size", "_law_kind", "_law_one"]) (sc := defScope st_law_blocks) (by decide +kernel)) (fun _ _ _ _ _ => (pg_name (i := 8) S_law_blocks.nd rfl (Or.inl rfl))) (fun _ _ _ _ _ => (pts_one (pt_val (pe_cd (D_law_is_free C) (by exact hr.mono (by decide)) (pa_cons (pv 2) (pa_cons (pv 7) (pa_cons (pv 8) pa_nil))))))) (fun _ _ _ _ _ => (pv 8))) (pe_lst pa_nil) (nomark _))
            (pss_one (ps_expr (pe_bm PySem.F.plainAttrs_list PySem.F.slot_list_append PySem.F.type_list_append mt_append (pv 5) (pa_cons (pv 7) pa_nil))))
            pss_nil)))
        (pss_one (ps_expr (pe_bm PySem.F.plainAttrs_list PySem.F.slot_list_append PySem.F.type_list_append mt_append (pv 3) (pa_cons (pe_tup (pa_cons (pv 6) (pa_cons (pe_callTy (call_dictP rfl) (by rfl) C.z_dict (by decide +kernel) (pa_cons (pe_lc (own := [("_law_kind", 7)]) (g := gName 7) (tt := tYes) rfl S_law_blocks.nd (pi_any (pv 5)) (blkOk_by (own := [("_law_kind", 7)]) (N := ["_law_deal_here", "_law_kinds", "_law_pairs_here", "_law_found", "_law_turn", "_law_some", "_law_size", "_law_kind", "_law_one"]) (sc := defScope st_law_blocks) (by decide +kernel)) (fun _ _ _ _ _ => (pg_name (i := 7) S_law_blocks.nd rfl (Or.inl rfl))) (fun _ _ _ _ _ => pts_nil) (fun _ _ _ _ _ => (pe_tup (pa_cons (pv 7) (pa_cons (pe_cd (D_law_mixed C) (by exact hr.mono (by decide)) (pa_cons (pv 0) (pa_cons (pe_listRg rfl (by rfl) C.z_list (prg_1 (by rfl) C.z_range (pv 6))) pa_nil))) pa_nil))))) pa_nil)) pa_nil))) pa_nil)))))))
      (pss_one (ps_ret (pv 3))))), ?_⟩
    have hzs := sizeLine_eq
    refine ⟨by show 0 ≤ sizeLine; decide, fun F hF => ?_⟩
    have e0 := ex_new (o := .lst []) hF
    obtain ⟨HF, hHF⟩ : ∃ HF, HF = upd H F (.lst []) := ⟨_, rfl⟩
    have hFF : HF F = some (.lst []) := by rw [hHF]; exact upd_same ..
    rw [← hHF] at e0 ⊢
    have hDF := hD.ex e0
    have nF : ¬ X2 d c F := hD.fresh hF
    refine ⟨_, rfl, d, c, 3, rfl, hDF, by decide, by decide, fun r3 H1 hr3 k1 hD1 => ?_⟩
    refine ⟨1, (r3 : Int), rfl, rfl, 1 + (r3 : Int), rfl, by omega, by omega, ?_⟩
    rw [show (1 + (r3 : Int)).toNat = 1 + r3 by omega]
    refine for_range (n := 1 + r3) (fun i σ H' => ∃ v4 v5 v6 v7 ws bs, σ = [some (.ref d), some (.ref kk), some (.ref p), some (.ref F), v4, v5, v6, v7, none] ∧ Kx (X2 d c) H H' ∧ Dl H' d c ∧ H' F = some (.lst ws) ∧ Paired (BlkV K HF H') ws bs ∧ (∀ b ∈ bs, BlkOk (frP ps) b ∧ b.m ≤ 4) ∧ bs.length = i)
      ⟨none, none, none, none, [], [], rfl, Kx.trans (Kx.ofEx e0) k1, hD1, k1 _ _ nF hFF, .nil, fun b h => (nomatch h), rfl⟩ ?_ ?_
    · rintro i σ H2 hi ⟨v4, v5, v6, v7, ws, bs, rfl, k2, hD2, hF2, hws, hbs, hbl⟩
      -- some, size
      refine ⟨by show 0 ≤ sizeLine; decide, fun U hU => ?_⟩
      have nU : ¬ X2 d c U := hD2.fresh hU
      have eU := ex_new (o := .lst []) hU
      have hUF : U ≠ F := fun z => by rw [z, hF2] at hU; cases hU
      have hUH : H U = none := k2.free nU hU
      have hD3 := hD2.ex eU
      refine ⟨_, rfl, d, c, 3, rfl, hD3, by decide, by decide, fun sz H4 hsz k4 hD4 => ?_⟩
      refine ⟨2, (sz : Int), rfl, rfl, by show 2 ≤ sizeLine; decide, fun T hT => ?_⟩
      have eT := ex_new (o := .tup [.ref U, .int (2 + (sz : Int))]) hT
      refine ⟨T, _, rfl, t_of (upd_same ..), rfl, _, _, rfl, _, _, rfl, rfl, ?_⟩
      have hUe : upd H2 U (.lst []) U = some (.lst []) := upd_same ..
      have hU5 := eT _ _ (k4 _ _ nU hUe)
      have k25 : Kx (X2 d c) H2 (upd H4 T (.tup [.ref U, .int (2 + (sz : Int))])) := Kx.trans (Kx.ofEx eU) (Kx.trans k4 (Kx.ofEx eT))
      have hD5 := hD4.ex eT
      obtain ⟨H5, hH5⟩ : ∃ H5, H5 = upd H4 T (.tup [.ref U, .int (2 + (sz : Int))]) := ⟨_, rfl⟩
      rw [← hH5] at hU5 k25 hD5
      have hH5' : upd H4 T (.tup [.ref U, (fun i j => V.int (i + j)) 2 (sz : Int)]) = H5 := hH5.symm
      rw [hH5']
      have k05 := Kx.trans k2 k25
      -- the kinds mixed
      refine ⟨_, rfl, _, rfl, d, c, true, kk, _, Str, inferInstance, inferInstance, ks, rfl, hD5, sqa_kx k05 nkk hkk, std_strs ks, by decide, by rw [List.length_map]; omega, fun M H6 ys k6 hD6 hM0 hM6 hperm => ?_⟩
      obtain ⟨ms, hms, hpm⟩ := pr_perm hperm.symm (pr_strs ks)
      rw [pr_strs' hms] at hM6
      clear hms hperm
      have hmn : ms.Nodup := hpm.nodup_iff.mp hnd
      have hml := hpm.length_eq
      have hMU : M ≠ U := fun z => by rw [z, hU5] at hM0; cases hM0
      have hU6 : H6 U = some (.lst []) := k6 _ _ nU hU5
      have k06 := Kx.trans k05 k6
      refine ⟨true, M, _, rfl, l_of hM6, ?_⟩
      refine for_any (xs := ms.map V.str) (fun j σ H' => ∃ v7 sm, σ = [some (.ref d), some (.ref kk), some (.ref p), some (.ref F), some (.int ((0 : Int) + (i : Nat))), some (.ref U), some (.int (2 + (sz : Int))), v7, none] ∧ Kx (· = U) H6 H' ∧ H' U = some (.lst (sm.map V.str)) ∧ sm.Nodup ∧ (∀ x ∈ sm, x ∈ ms.take j) ∧ (∀ x ∈ sm, ∀ y ∈ sm, frP ps x y = false) ∧ sm.length ≤ j)
        ⟨v7, [], rfl, Kx.refl _, hU6, List.nodup_nil, fun x h => (nomatch h), fun x h => (nomatch h), Nat.le_refl _⟩ (fun j σ H' _ ⟨_, _, _, k, _⟩ => l_of (k _ _ hMU hM6)) ?_ ?_
      · rintro j v σ H7 hv ⟨v7, sm, rfl, k7, hU7, hsn, hsm, hsb, hsl⟩
        rw [List.getElem?_map] at hv
        obtain ⟨k, hk, rfl⟩ := Option.map_eq_some_iff.mp hv
        have hjl : j < ms.length := (List.getElem?_eq_some_iff.mp hk).1
        have etk : ms.take (j + 1) = ms.take j ++ [k] := by rw [List.take_add_one, hk]; rfl
        have hknew : k ∉ sm := fun h => by
          have h1 := hsm k h
          have h2 : (ms.take (j + 1)).Nodup := hmn.sublist (List.take_sublist _ _)
          rw [etk] at h2
          exact (List.nodup_append.mp h2).2.2 k h1 k (by simp) rfl
        have k07 := kx_plus k06 k7 hUH
        have hD7 : Dl H7 d c := hD6.kx k7 (fun z => nU (.inl z.symm)) (fun z => nU (.inr z.symm))
        have hp7 := sqa_kx k07 np hp
        have hps7 := pr_mono (fun _ _ z => PrT.nx (hD.nx k07) z) hps
        refine ⟨_, rfl, true, U, _, rfl, l_of hU7, fun D hDn => ?_⟩
        refine lcG (xs := sm.map V.str) (fun n H' => ∃ acc : List Str, Evl.Ex H7 H' ∧ H' D = some (.lst (acc.map V.str)) ∧ acc.length ≤ n ∧ (acc = [] → ∀ x ∈ sm.take n, frP ps k x = false)) ⟨[], ex_new hDn, upd_same .., Nat.le_refl _, fun _ x h => by simp at h⟩ (fun n H' _ ⟨_, e, _⟩ => l_of (e _ _ hU7)) ?_ ?_
        · rintro n v H8 hv ⟨acc, e8, hD8, hal, hac⟩
          rw [List.getElem?_map] at hv
          obtain ⟨x, hx, rfl⟩ := Option.map_eq_some_iff.mp hv
          have hnl : n < sm.length := (List.getElem?_eq_some_iff.mp hx).1
          have etx : sm.take (n + 1) = sm.take n ++ [x] := by rw [List.take_add_one, hx]; rfl
          refine ⟨rfl, _, rfl, _, rfl, _, rfl, b, p, zs, ps, k, x, rfl, sqA_ex e8 hp7, pr_mono (fun _ _ z => PrT.nx (Nx.ofEx e8) z) hps7, fun H9 e9 => ⟨_, rfl, ?_⟩⟩
          have e89 := Evl.Ex.trans e8 e9
          cases hfr : frP ps k x with
          | true =>
            refine iteT ⟨_, rfl, _, e9 _ _ hD8, by rw [List.length_map]; omega, acc ++ [x], Evl.Ex.upd e89 hDn, by rw [upd_same, List.map_append]; rfl, by simp; omega, fun h => absurd h (by simp)⟩
          | false =>
            refine iteF ⟨acc, e89, e9 _ _ hD8, by omega, fun h y hy => ?_⟩
            rw [etx] at hy
            rcases List.mem_append.mp hy with h1 | h1
            · exact hac h y h1
            · rw [List.mem_singleton] at h1
              rw [h1]
              exact hfr
        · rintro H8 ⟨acc, e8, hD8, hal, hac⟩
          rw [List.length_map, List.take_length] at hac
          refine ⟨by show 0 ≤ sizeLine; decide, fun z hz => ?_⟩
          have e9 := ex_new (o := .lst []) hz
          have e89 := Evl.Ex.trans e8 e9
          refine ⟨acc, ([] : List Str), strs_dpL (l_of (e9 _ _ hD8)), strs_dpL (l_of (upd_same ..)), _, rfl, ?_⟩
          have k79 : Kx (· = U) H6 (upd H8 z (.lst [])) := Kx.trans k7 (Kx.ofEx e89)
          have hU9 := e89 _ _ hU7
          by_cases hae : acc = []
          · rw [decide_eq_true hae]
            have hbar := hac hae
            refine iteT ⟨_, rfl, .inl ⟨rfl, _, l_of hU9⟩, _, rfl, U, _, .str k, rfl, rfl, hU9, by rw [List.length_map]; omega, ?_⟩
            refine ⟨_, sm ++ [k], rfl, Kx.to k79 (.inl rfl), by rw [upd_same, List.map_append]; rfl, ?_, fun x hx => ?_, fun x hx y hy => ?_, by simp; omega⟩
            · refine List.nodup_append.mpr ⟨hsn, by simp, fun x hx y hy e => ?_⟩
              rw [List.mem_singleton] at hy
              rw [e, hy] at hx
              exact hknew hx
            · rw [etk]
              rcases List.mem_append.mp hx with h | h
              · exact List.mem_append_left _ (hsm x h)
              · exact List.mem_append_right _ h
            · rcases List.mem_append.mp hx with h | h <;> rcases List.mem_append.mp hy with h2 | h2
              · exact hsb x h y h2
              · rw [List.mem_singleton] at h2
                rw [h2, frP_sym]
                exact hbar x h
              · rw [List.mem_singleton] at h
                rw [h]
                exact hbar y h2
              · rw [List.mem_singleton] at h h2
                rw [h, h2]
                exact hirr k
          · rw [decide_eq_false hae]
            refine iteF ⟨_, sm, rfl, k79, hU9, hsn, fun x hx => ?_, hsb, by omega⟩
            rw [etk]
            exact List.mem_append_left _ (hsm x hx)
      · rintro σ H7 ⟨v7, sm, rfl, k7, hU7, hsn, hsm, hsb, hsl⟩
        rw [List.length_map] at hsl
        have k07 := kx_plus k06 k7 hUH
        have hD7 : Dl H7 d c := hD6.kx k7 (fun z => nU (.inl z.symm)) (fun z => nU (.inr z.symm))
        have hF7 : H7 F = some (.lst ws) := k7 _ _ (fun z => hUF z.symm) (k6 _ _ nF (k25 _ _ nF hF2))
        refine ⟨_, rfl, .inl ⟨rfl, _, l_of hF7⟩, _, rfl, _, rfl, true, U, _, rfl, l_of hU7, fun D hDn => ?_⟩
        have nD : ¬ X2 d c D := hD7.fresh hDn
        have er : rgV 0 (2 + (sz : Int)) = (li (List.range (2 + sz))).map V.int := by
          rw [show (2 : Int) + (sz : Int) = ((2 + sz : Nat) : Int) by omega]
          exact rgV_li _
        refine lcG (xs := sm.map V.str) (fun n H' => ∃ (tp : List Addr) (kvs : List (Key × V)) (kls : List (Str × List Nat)), Kx (X2 d c) H7 H' ∧ Dl H' d c ∧ H' D = some (.lst (tp.map V.ref)) ∧ Paired (fun p kv => SqT K H' p [kV kv.1, kv.2]) tp kvs ∧ Paired (KvR H7 D H') kvs kls ∧ kls.map (·.1) = sm.take n ∧ (∀ kl ∈ kls, kl.2.Perm (List.range (2 + sz))))
          ⟨[], [], [], Kx.ofEx (ex_new hDn), hD7.ex (ex_new hDn), upd_same .., .nil, .nil, rfl, fun kl h => (nomatch h)⟩ (fun n H' _ ⟨_, _, _, k, _⟩ => l_of (k _ _ nU hU7)) ?_ ?_
        · rintro n v H8 hv ⟨tp, kvs, kls, k8, hD8, hDD, htp, hkk2, hkn, hkp⟩
          rw [List.getElem?_map] at hv
          obtain ⟨x, hx, rfl⟩ := Option.map_eq_some_iff.mp hv
          have hnl : n < sm.length := (List.getElem?_eq_some_iff.mp hx).1
          have etx : sm.take (n + 1) = sm.take n ++ [x] := by rw [List.take_add_one, hx]; rfl
          have hkl2 : kls.length ≤ n := by
            have := congrArg List.length hkn
            rw [List.length_map, List.length_take] at this
            omega
          have htl := pr_len htp
          have hkl3 := pr_len hkk2
          refine ⟨rfl, _, rfl, _, rfl, _, rfl, 2 + (sz : Int), rfl, RgOk.of_le (by omega) (by omega) (by omega) (by omega), fun Lr hLr => ?_⟩
          rw [er]
          have eL := ex_new (o := .lst ((li (List.range (2 + sz))).map V.int)) hLr
          refine ⟨d, c, true, Lr, _, Int, inferInstance, inferInstance, li (List.range (2 + sz)), rfl, hD8.ex eL, l_of (upd_same ..), std_ints _, by decide, by unfold li; rw [List.length_map, List.length_map, List.length_range]; omega, fun l H9 ys k9 hD9 hl0 hl9 hperm => ?_⟩
          obtain ⟨ls, rfl, hlp⟩ := perm_nats hperm
          refine ⟨by show 2 ≤ sizeLine; decide, fun t ht => ?_⟩
          have et := ex_new (o := .tup [.str x, .ref l]) ht
          have k8t : Kx (X2 d c) H8 (upd H9 t (.tup [.str x, .ref l])) := Kx.trans (Kx.ofEx eL) (Kx.trans k9 (Kx.ofEx et))
          have hDD' := k8t _ _ nD hDD
          have hlD : l ≠ D := fun z => by rw [z, eL _ _ hDD] at hl0; cases hl0
          have hl8 : H8 l = none := ex_free eL hl0
          have nl : ¬ X2 d c l := hD8.fresh hl8
          have nx8 : Nx H8 (upd (upd H9 t (.tup [.str x, .ref l])) D (.lst (tp.map V.ref ++ [.ref t]))) := Nx.upd (hD8.nx k8t) (.inr ⟨_, hDD⟩)
          have htD : t ≠ D := fun z => by rw [z, (Kx.trans (Kx.ofEx eL) k9) _ _ nD hDD] at ht; cases ht
          refine ⟨tp.map V.ref, hDD', by rw [List.length_map]; omega, tp ++ [t], kvs ++ [(Sum.inr x, .ref l)], kls ++ [(x, ls)], (Kx.trans k8 k8t).to (.inr hDn), (hD9.ex et).to nD, by rw [upd_same, List.map_append]; rfl, pr_app (pr_mono (fun _ _ z => nx_t nx8 z) htp) (.cons (t_of (by rw [upd_ne htD, upd_same]; rfl)) .nil), pr_app (pr_mono (fun kv kl z => ?_) hkk2) (.cons ⟨rfl, l, rfl, k8.free nl hl8, hlD, by rw [upd_ne hlD]; exact et _ _ hl9⟩ .nil), ?_, fun kl h => ?_⟩
          · obtain ⟨h1, a, h2, h3, h4, h5⟩ := z
            exact ⟨h1, a, h2, h3, h4, by rw [upd_ne h4]; exact k8t _ _ (hD7.fresh h3) h5⟩
          · rw [List.map_append, hkn, etx]
            rfl
          · rcases List.mem_append.mp h with h | h
            · exact hkp kl h
            · rw [List.mem_singleton] at h
              rw [h]
              exact hlp
        · rintro H8 ⟨tp, kvs, kls, k8, hD8, hDD, htp, hkk2, hkn, hkp⟩
          rw [List.length_map, List.take_length] at hkn
          refine ⟨D, tp, kvs, rfl, l_of hDD, htp, fun dd hdd => ?_⟩
          have hmg : mergeK [] kvs = kvs := by
            refine (merge_new kvs [] ?_ (fun _ _ => rfl)).trans (List.nil_append _)
            have hke : kvs.map (·.1) = (kls.map (·.1)).map Sum.inr := keys_eq hkk2
            rw [hke, hkn]
            exact List.pairwise_map.mpr (hsn.imp fun h z => h (Sum.inr.inj z))
          rw [hmg]
          refine ⟨by show 2 ≤ sizeLine; decide, fun t ht => ?_⟩
          have ed := ex_new (o := .dK kvs) hdd
          have et := ex_new (o := .tup [.int (2 + (sz : Int)), .ref dd]) ht
          have edt := Evl.Ex.trans ed et
          have hF8 : H8 F = some (.lst ws) := k8 _ _ nF hF7
          have hwl := pr_len hws
          refine ⟨F, ws, .ref t, rfl, rfl, edt _ _ hF8, by omega, ?_⟩
          have htF : t ≠ F := fun z => by rw [z, ed _ _ hF8] at ht; cases ht
          have hdF : dd ≠ F := fun z => by rw [z, hF8] at hdd; cases hdd
          have hddt : upd H8 dd (.dK kvs) dd = some (.dK kvs) := upd_same ..
          obtain ⟨Hz, hHz⟩ : ∃ Hz, Hz = upd (upd (upd H8 dd (.dK kvs)) t (.tup [.int (2 + (sz : Int)), .ref dd])) F (.lst (ws ++ [.ref t])) := ⟨_, rfl⟩
          have k2z : Kx (fun a => X2 d c a ∨ a = U ∨ a = F) H2 Hz := by
            rw [hHz]
            refine Kx.to (Kx.trans (k25.mono fun a h => .inl h) (Kx.trans (k6.mono fun a h => .inl h) (Kx.trans (k7.mono fun a h => .inr (.inl h)) (Kx.trans (k8.mono fun a h => .inl h) (Kx.ofEx edt))))) (.inl (.inr (.inr rfl)))
          have nx2z : Nx H2 Hz := k2z.nx fun a h o ho => by
            rcases h with h | h | h
            · exact hD2.lists a h o ho
            · rw [h, hU] at ho; cases ho
            · rw [h, hF2] at ho; cases ho; exact ⟨_, rfl⟩
          refine ⟨_, _, _, _, ws ++ [.ref t], bs ++ [⟨2 + sz, lookL kls⟩], rfl, ?_, ?_, upd_same .., ?_, fun b hb => ?_, by simp; omega⟩
          · exact Kx.to (Kx.trans k07 (Kx.trans k8 (Kx.ofEx edt))) (.inr hF)
          · exact (hD8.ex edt).to nF
          · refine pr_app (pr_mono (fun v bb z => ?_) hws) (.cons ?_ .nil)
            · have := z.kx k2z nx2z (fun a xs h1 h2 => ?_)
              · rw [hHz] at this
                exact this
              · rintro (h | h | h)
                · exact hDF.fresh h1 h
                · rw [h, hU] at h2; cases h2
                · rw [h, hFF] at h1; cases h1
            · refine ⟨t, dd, kvs, rfl, t_of ?_, ?_, fun k => ?_⟩
              · rw [upd_ne htF, upd_same, show (((2 + sz : Nat)) : Int) = 2 + (sz : Int) by omega]
              · rw [upd_ne hdF]
                exact et _ _ hddt
              · refine (look_val hkk2 k).imp id fun ⟨l, a, h1, h2, h3, h4⟩ => ⟨l, a, h1, h2, ?_, ?_⟩
                · have haF : a ≠ F := fun z => by rw [z, hF7] at h3; cases h3
                  rw [hHF, upd_ne haF]
                  exact k07.free (hD7.fresh h3) h3
                · have haF : a ≠ F := fun z => by rw [z, hF7] at h3; cases h3
                  rw [upd_ne haF]
                  exact edt _ _ h4
          · rcases List.mem_append.mp hb with h | h
            · exact hbs b h
            · rw [List.mem_singleton] at h
              subst h
              have hin : ∀ j, (lookL kls j).isSome = true → j ∈ sm := fun j hj => by
                obtain ⟨l, hl⟩ := Option.isSome_iff_exists.mp hj
                rw [← hkn]
                exact List.mem_map_of_mem (f := (·.1)) (look_mem hl)
              exact ⟨⟨by show 0 < 2 + sz; omega, fun k l hl => hkp _ (look_mem hl), fun j k hj hk => hsb j (hin j hj) k (hin k hk)⟩, by show 2 + sz ≤ 4; omega⟩
    · rintro σ H' ⟨v4, v5, v6, v7, ws, bs, rfl, k, hD', hF', hws, hbs, hbl⟩
      exact ⟨_, rfl, q F H' ws bs HF k hD' hF hF' hws hbs (by omega)⟩
theorem D_law_blocks (C : Fx w K mg base) : Dn P w K mg base 3 (a_law_blocks K) (fdA K (a_law_blocks K)) ["_law_deal_here", "_law_kinds", "_law_pairs_here"] (spBlk K) "_law_blocks" := ⟨ok_law_blocks C, C.g_law_blocks, (F_law_blocks C).kp, B_law_blocks C⟩
end
end K91
/-! Q18 -/
namespace K91
open PySem PySem.Spec PyProof.Rows L2
open C8 (InsC call_isC pss_cut)
section
variable {P : Program} {w : World} {K : PySem.W.Frag} {mg : Str → Option Value} {base : Heap}
def spSm (K : PySem.W.Frag) : Sp := fun vs H Q _ => ∃ (d c kk p : Addr) (ks : List Str) (b : Bool) (zs : List V) (ps : List (Str × Str)), vs = [.ref d, .ref kk, .ref p] ∧ Dl H d c ∧ SqA K H true kk (ks.map V.str) ∧ ¬ X2 d c kk ∧ ks.Nodup ∧ ks.length ≤ 20 ∧
  SqA K H b p zs ∧ ¬ X2 d c p ∧ Paired (PrT K H) zs ps ∧ (∀ a, frP ps a a = false) ∧
  ∀ t g (S : Sto Str (frP ps)) H', Kx (X2 d c) H H' → Dl H' d c → H t = none → H g = none → H' t = some (.tup [.int ((S.n : Nat) : Int), .ref g]) → RgsV H H' g ks S.n S.f → 0 < S.n → S.n ≤ 64 → Q (.ref t) H'
theorem ok_law_some_moves (C : Fx w K mg base) : FnOk P w K mg base CX0 4 (a_law_some_moves K) (fdA K (a_law_some_moves K)) ["_law_deal_here", "_law_kinds", "_law_pairs_here"] (spSm K) := by
  refine (F_law_some_moves C).ok S_law_some_moves (fun vs H Q E h => ?_) (fun cdv A outer s H vs Q E hr h => ?_)
  · obtain ⟨d, c, kk, p, ks, b, zs, ps, rfl, _⟩ := h
    rfl
  · obtain ⟨d, c, kk, p, ks, b, zs, ps, rfl, hD, hkk, nkk, hnd, hkl, hp, np, hps, hirr, q⟩ := h
    refine ⟨_, (pss_cons (ps_if (pt_cmpR op_gt (pe_cd (D_law_draw C) (hr.mono (by decide)) (pa_cons (pv 0) (pa_cons pe_int pa_nil))) pe_int (nomark _))
        (pss_one (ps_ret (pe_cd (D_law_moves C) (hr.mono (by decide)) (pa_cons (pe_cd (D_law_blocks C) (hr.mono (by decide)) (pa_cons (pv 0) (pa_cons (pv 1) (pa_cons (pv 2) pa_nil)))) (pa_cons (pv 1) pa_nil)))))
        pss_nil)
      (pss_cons (ps_asg (pe_tup (pa_cons (pe_op op_add pe_int (pe_cd (D_law_draw C) (hr.mono (by decide)) (pa_cons (pv 0) (pa_cons pe_int pa_nil)))) (pa_cons pe_dnewK pa_nil))) (pg_tup rfl (pgs_cons (pg_name (i := 3) S_law_some_moves.nd rfl (Or.inr rfl)) (pgs_cons (pg_name (i := 4) S_law_some_moves.nd rfl (Or.inl rfl)) pgs_nil))))
      (pss_cons (ps_for PassesOwn.never rfl (pi_any (pv 1)) (pg_name (i := 5) S_law_some_moves.nd rfl (Or.inl rfl))
        (pss_cons (ps_set (i := 6) S_law_some_moves.nd rfl (Or.inr rfl) (pe_cd (D_law_draw C) (hr.mono (by decide)) (pa_cons (pv 0) (pa_cons (pv 3) pa_nil))))
        (pss_one (ps_dput (hu_of hr) (pv 4) (pv 5) (pe_lc (own := [("_law_standing", 7)]) (g := gName 7) (tt := tYes) rfl S_law_some_moves.nd (pi_range1 (by rfl) C.z_range (pa_cons (pv 3) pa_nil)) (blkOk_by (own := [("_law_standing", 7)]) (N := ["_law_deal_here", "_law_kinds", "_law_pairs_here", "_law_size", "_law_found", "_law_kind", "_law_places", "_law_standing"]) (sc := defScope st_law_some_moves) (by decide +kernel)) (fun _ _ _ _ _ => (pg_name (i := 7) S_law_some_moves.nd rfl (Or.inl rfl))) (fun _ _ _ _ _ => pts_nil) (fun _ _ _ _ _ => (pe_op op_mod (pe_op op_add (pv 7) (pv 6)) (pv 3)))) rfl))))
      (pss_one (ps_ret (pe_tup (pa_cons (pv 3) (pa_cons (pv 4) pa_nil)))))))), ?_⟩
    have hzs := sizeLine_eq
    refine ⟨_, rfl, d, c, 3, rfl, hD, by decide, by decide, fun r3 H1 hr3 k1 hD1 => ?_⟩
    have hkk1 : SqA K H1 true kk (ks.map V.str) := sqa_kx k1 nkk hkk
    refine ⟨(r3 : Int), 0, rfl, rfl, _, rfl, ite2 (fun e => ?_) (fun e => ?_)⟩
    · refine ⟨_, rfl, _, rfl, _, rfl, d, c, kk, p, ks, b, zs, ps, rfl, hD1, hkk1, nkk, hnd, hkl, sqa_kx k1 np hp, np, pr_mono (fun _ _ z => PrT.nx (hD.nx k1) z) hps, hirr, fun l H2 ws bs H0 k2 hD2 hl0 hl2 hws hbs hbl => ?_⟩
      have hkk2 : SqA K H2 true kk (ks.map V.str) := sqa_kx k2 nkk hkk1
      have hbo : ∀ b ∈ bs, BlkOk (frP ps) b := fun b hb => (hbs b hb).1
      have h4 : ∀ b ∈ bs, b.m ≤ 4 := fun b hb => (hbs b hb).2
      have hsz : sizeB bs ≤ 64 := by
        have h1 := size_le h4 bs.length (Nat.le_refl _)
        rw [List.take_length] at h1
        exact Nat.le_trans h1 (Nat.le_trans (Nat.pow_le_pow_right (by decide) hbl) (by decide))
      refine ⟨_, rfl, H0, l, kk, ks, ws, bs, frP ps, rfl, l_of hl2, hws, hbs, hbl, hkk2, hkl, fun t g H3 e3 ht hg htt hrg => ?_⟩
      have k02 := Kx.trans k1 k2
      have fr : ∀ a, H2 a = none → H a = none := fun a h => k02.free (hD2.fresh h) h
      obtain ⟨kvs, h1, h2⟩ := hrg
      exact q t g (stoB bs hbo) H3 (Kx.trans k02 (Kx.ofEx e3)) (hD2.ex e3) (fr t ht) (fr g hg) htt ⟨kvs, h1, fun k hk => by
        obtain ⟨a, i1, i2, i3⟩ := h2 k hk
        exact ⟨a, i1, fr a i2, i3⟩⟩ (size_pos hbo) hsz
    · refine ⟨_, rfl, d, c, 9, rfl, hD1, by decide, by decide, fun s9 H2 hs9 k2 hD2 => ?_⟩
      refine ⟨2, (s9 : Int), rfl, rfl, fun g hg => ⟨by show 2 ≤ sizeLine; decide, fun T hT => ?_⟩⟩
      obtain ⟨n, hn⟩ : ∃ n, n = 2 + s9 := ⟨_, rfl⟩
      have en : (2 : Int) + (s9 : Int) = ((n : Nat) : Int) := by omega
      have en' : (fun i j => V.int (i + j)) (2 : Int) (s9 : Int) = V.int ((n : Nat) : Int) := congrArg V.int en
      rw [en']
      have eg := ex_new (o := .dK []) hg
      have eT := ex_new (o := .tup [.int ((n : Nat) : Int), .ref g]) hT
      refine ⟨T, _, rfl, t_of (upd_same ..), rfl, _, _, rfl, _, _, rfl, rfl, ?_⟩
      have k03 : Kx (X2 d c) H (upd (upd H2 g (.dK [])) T (.tup [.int ((n : Nat) : Int), .ref g])) := Kx.trans k1 (Kx.trans k2 (Kx.ofEx (Evl.Ex.trans eg eT)))
      have hD3 := (hD2.ex eg).ex eT
      have ng : ¬ X2 d c g := hD2.fresh hg
      have hgH : H g = none := (Kx.trans k1 k2).free ng hg
      have hge : upd H2 g (.dK []) g = some (.dK []) := upd_same ..
      refine ⟨_, rfl, true, kk, _, rfl, sqa_kx k03 nkk hkk, ?_⟩
      refine for_any (b := true) (xs := ks.map V.str) (fun i σ H' => ∃ v5 v6 kvs, ∃ pl : Str → Nat, σ = [some (.ref d), some (.ref kk), some (.ref p), some (.int ((n : Nat) : Int)), some (.ref g), v5, v6, none] ∧ Kx (X2 d c) H H' ∧ Dl H' d c ∧ H' g = some (.dK kvs) ∧ kvs.length ≤ i ∧
        ∀ k ∈ ks.take i, ∃ a, valV kvs (Sum.inr k) = some (.ref a) ∧ H a = none ∧ a ≠ g ∧ ¬ X2 d c a ∧ H' a = some (.lst ((li ((List.range n).map fun x => (x + pl k) % n)).map V.int)))
        ⟨none, none, [], fun _ => 0, rfl, k03, hD3, eT _ _ hge, Nat.le_refl _, fun k hk => by simp at hk⟩ (fun i σ H' _ ⟨_, _, _, _, _, k, _⟩ => sqa_kx k nkk hkk) ?_ ?_
      · rintro i v σ H4 hv ⟨v5, v6, kvs, pl, rfl, k4, hD4, hg4, hkvl, hkv⟩
        rw [List.getElem?_map] at hv
        obtain ⟨k, hk, rfl⟩ := Option.map_eq_some_iff.mp hv
        have hil : i < ks.length := (List.getElem?_eq_some_iff.mp hk).1
        have etk : ks.take (i + 1) = ks.take i ++ [k] := by rw [List.take_add_one, hk]; rfl
        have hknew : k ∉ ks.take i := fun h => by
          have h2 : (ks.take (i + 1)).Nodup := hnd.sublist (List.take_sublist _ _)
          rw [etk] at h2
          exact (List.nodup_append.mp h2).2.2 k h k (by simp) rfl
        refine ⟨_, rfl, _, rfl, d, c, n, rfl, hD4, by omega, by omega, fun pp H5 hpp k5 hD5 => ?_⟩
        have hg5 := k5 _ _ ng hg4
        refine ⟨_, rfl, ((n : Nat) : Int), rfl, by omega, by omega, fun D hDn => ?_⟩
        rw [Int.toNat_natCast]
        have nD : ¬ X2 d c D := hD5.fresh hDn
        have hDg : D ≠ g := fun z => by rw [z, hg5] at hDn; cases hDn
        have hDH : H D = none := (Kx.trans k4 k5).free nD hDn
        refine lcG_range (n := n) (fun j H' => H' = upd H5 D (.lst ((li ((List.range j).map fun x => (x + pp) % n)).map V.int))) rfl ?_ ?_
        · rintro j H' hj rfl
          refine ⟨rfl, _, rfl, _, rfl, (0 : Int) + (j : Nat), (pp : Int), rfl, rfl, _, rfl, (0 : Int) + (j : Nat) + (pp : Int), ((n : Nat) : Int), rfl, rfl, by show (0 : Int) < _; omega, _, upd_same .., by unfold li; rw [List.length_map, List.length_map, List.length_map, List.length_range]; omega, ?_⟩
          have ev : ((0 : Int) + (j : Nat) + (pp : Int)) % ((n : Nat) : Int) = (((j + pp) % n : Nat) : Int) := by
            rw [Int.natCast_emod, Int.natCast_add, Int.zero_add]
          show upd (upd H5 D _) D (.lst (_ ++ [V.int (((0 : Int) + (j : Nat) + (pp : Int)) % ((n : Nat) : Int))])) = _
          rw [upd_upd, ev, List.range_succ]
          unfold li
          rw [List.map_append, List.map_append, List.map_append]
          rfl
        · rintro H6 rfl
          have e6 := ex_new (o := .lst ((li ((List.range n).map fun x => (x + pp) % n)).map V.int)) hDn
          refine ⟨_, rfl, _, rfl, g, _, rfl, DPut.k (k := Sum.inr k) (e6 _ _ hg5) (by omega), ?_⟩
          refine ⟨_, _, _, fun x => if x = k then pp else pl x, rfl, Kx.to (Kx.trans k4 (Kx.trans k5 (Kx.ofEx e6))) (.inr hgH), (hD5.ex e6).to ng, upd_same .., Nat.le_trans (length_putK _ _ _) (by omega), fun j hj => ?_⟩
          rw [etk] at hj
          by_cases hjk : j = k
          · subst hjk
            refine ⟨D, ?_, hDH, hDg, nD, ?_⟩
            · rw [valV_put, if_pos rfl]
            · rw [upd_ne hDg, upd_same]
              show _ = some (HO.lst ((li ((List.range n).map fun x => (x + (if j = j then pp else pl j)) % n)).map V.int))
              rw [if_pos rfl]
          · rcases List.mem_append.mp hj with h | h
            · obtain ⟨a', h1, h2, h3, h4', h5⟩ := hkv j h
              refine ⟨a', ?_, h2, h3, h4', ?_⟩
              · rw [valV_put, if_neg (fun z => hjk (Sum.inr.inj z))]
                exact h1
              · rw [upd_ne h3]
                show _ = some (HO.lst ((li ((List.range n).map fun x => (x + (if j = k then pp else pl j)) % n)).map V.int))
                rw [if_neg hjk]
                exact e6 _ _ (k5 _ _ h4' h5)
            · rw [List.mem_singleton] at h
              exact absurd h hjk
      · rintro σ H4 ⟨v5, v6, kvs, pl, rfl, k4, hD4, hg4, hkvl, hkv⟩
        rw [List.length_map, List.take_length] at hkv
        refine ⟨_, rfl, _, rfl, by show 2 ≤ sizeLine; decide, fun t ht => ?_⟩
        have e5 := ex_new (o := .tup [.int ((n : Nat) : Int), .ref g]) ht
        refine q t g (stoR n (by omega) pl) _ (Kx.trans k4 (Kx.ofEx e5)) (hD4.ex e5) (k4.free (hD4.fresh ht) ht) hgH (upd_same ..) ⟨kvs, e5 _ _ hg4, fun k hk => ?_⟩ (by show 0 < n; omega) (by show n ≤ 64; omega)
        obtain ⟨a', h1, h2, h3, h4', h5⟩ := hkv k hk
        exact ⟨a', h1, h2, e5 _ _ h5⟩
theorem D_law_some_moves (C : Fx w K mg base) : Dn P w K mg base 4 (a_law_some_moves K) (fdA K (a_law_some_moves K)) ["_law_deal_here", "_law_kinds", "_law_pairs_here"] (spSm K) "_law_some_moves" := ⟨ok_law_some_moves C, C.g_law_some_moves, (F_law_some_moves C).kp, B_law_some_moves C⟩
end
end K91
/-! Q19 -/
namespace K91
open PySem PySem.Spec PyProof.Rows L2
open C8 (InsC call_isC pss_cut)
theorem op_catTK {X : Cx} {K : PySem.W.Frag} (hK : X.K = K := by rfl) : OpR X (binaryOp .Add) (rCatT K) := by
  subst hK
  exact op_catT
theorem sl_tupK {X : Cx} {K : PySem.W.Frag} (hK : X.K = K := by rfl) : SlR X (rSlT K) := by
  subst hK
  exact sl_tup
theorem stp_vals (m : Nat) (s : Stp) : ∃ (nm : Str) (n : Nat) (rest : List V), s.vals = V.str nm :: V.int ((n : Nat) : Int) :: rest ∧ (s.shift m).vals = V.str nm :: V.int (((n : Nat) : Int) + ((m : Nat) : Int)) :: rest ∧ rest.length ≤ 1 := by
  cases s with
  | ex n => exact ⟨_, n, [], rfl, rfl, by decide⟩
  | melt n => exact ⟨_, n, [], rfl, rfl, by decide⟩
  | drop n => exact ⟨_, n, [], rfl, rfl, by decide⟩
  | split n c => exact ⟨_, n, [.int c], rfl, rfl, Nat.le_refl _⟩
  | put n k => exact ⟨_, n, [.str k], rfl, rfl, Nat.le_refl _⟩
section
variable {P : Program} {w : World} {K : PySem.W.Frag} {mg : Str → Option Value} {base : Heap}
def spLed (K : PySem.W.Frag) : Sp := fun vs H Q _ => ∃ (H0 : Hp) (g a : Addr) (b : Bool) (us : List V) (r : List Syl) (x : Nat) (fr : Str → Str → Bool) (S : Sto Str fr) (ks : List Str), vs = [.ref g, .ref a, .int (x : Nat)] ∧ RgsV H0 H g ks S.n S.f ∧ SqA K H b a us ∧ Sys K H us r ∧ (∀ y ∈ r, y.1 ∈ ks) ∧ x < S.n ∧ S.n ≤ 64 ∧
  ∀ H', Evl.Ex H H' → Q (.int (S.led r x : Nat)) H'
theorem ok_law_led (C : Fx w K mg base) : FnOk P w K mg base CX0 1 (a_law_led K) (fdA K (a_law_led K)) ["_law_moves_here", "_law_row_here", "_law_standing"] (spLed K) := by
  refine (F_law_led C).ok S_law_led (fun vs H Q E h => ?_) (fun cdv A outer s H vs Q E hr h => ?_)
  · obtain ⟨H0, g, a, b, us, r, x, fr, S, ks, rfl, _⟩ := h
    rfl
  · obtain ⟨H0, g, a, b, us, r, x, fr, S, ks, rfl, ⟨kvs, hg, hkv⟩, ha, hs, hk, hx, h64, q⟩ := h
    refine ⟨_, (pss_cons (ps_for PassesOwn.never rfl (pi_any (pv 1)) (pg_tup rfl (pgs_cons (pg_name (i := 3) S_law_led.nd rfl (Or.inl rfl)) (pgs_cons (pg_name (i := 4) S_law_led.nd rfl (Or.inl rfl)) pgs_nil)))
        (pss_one (ps_if (pt_cmp (pc_din (hu_of hr) (pv 3) (pv 0)))
          (pss_cons (ps_par (i := 5) (j := 6) (by rfl) S_law_led.nd rfl rfl (by decide) rfl rfl (pa_cons (pe_lst (pa_cons (pv 2) pa_nil)) (pa_cons (pe_ix ix_list (pe_dget (hu_of hr) (pv 0) (pv 3) (fun _ _ => rfl)) (pv 2) (fun _ _ => rfl)) pa_nil)) (by rfl))
          (pss_cons (ps_while PassesOwn.never (pt_cmpR op_ne (pv 6) (pv 2) (nomark _))
            (pss_cons (ps_expr (pe_bm PySem.F.plainAttrs_list PySem.F.slot_list_append PySem.F.type_list_append mt_append (pv 5) (pa_cons (pv 6) pa_nil)))
            (pss_one (ps_set (i := 6) S_law_led.nd rfl (Or.inl rfl) (pe_ix ix_list (pe_dget (hu_of hr) (pv 0) (pv 3) (fun _ _ => rfl)) (pv 6) (fun _ _ => rfl))))))
          (pss_one (ps_set (i := 2) S_law_led.nd rfl (Or.inl rfl) (pe_ix ix_list (pv 5) (pe_op op_mod (pv 4) (pe_callB call_len_seq (by rfl) C.z_len (by decide +kernel) (pa_cons (pv 5) pa_nil))) (fun _ _ => rfl))))))
          pss_nil)))
      (pss_one (ps_ret (pv 2)))), ?_⟩
    have hzs := sizeLine_eq
    have hul := pr_len hs
    refine ⟨_, rfl, b, a, us, rfl, ha, ?_⟩
    refine for_any (xs := us) (fun i σ H' => ∃ v3 v4 v5 v6, σ = [some (.ref g), some (.ref a), some (.int ((S.led (r.take i) x : Nat) : Int)), v3, v4, v5, v6] ∧ Evl.Ex H H') ⟨none, none, none, none, rfl, Evl.Ex.refl _⟩ (fun i σ H' _ ⟨_, _, _, _, _, e⟩ => sqA_ex e ha) ?_ ?_
    · rintro i v σ H1 hv ⟨v3, v4, v5, v6, rfl, e1⟩
      obtain ⟨⟨k, m⟩, hy, py, rfl, hpy⟩ := pr_get' hs hv
      have etk : r.take (i + 1) = r.take i ++ [(k, m)] := by rw [List.take_add_one, hy]; rfl
      obtain ⟨lk, hvl, _, hlk⟩ := hkv k (hk _ (List.mem_of_getElem? hy))
      have hyn : S.led (r.take i) x < S.n := S.led_lt _ hx
      have hfin : S.led (r.take (i + 1)) x = S.act k m (S.led (r.take i) x) := by
        rw [etk, S.led_app]
        rfl
      generalize S.led (r.take i) x = y at hyn hfin
      have lkat : ∀ z, z < S.n → ((li ((List.range S.n).map (S.f k))).map V.int)[z]? = some (.int ((S.f k z : Nat) : Int)) := fun z hz => by
        unfold li
        rw [List.getElem?_map, List.getElem?_map, List.getElem?_map, List.getElem?_range hz]
        rfl
      have gk : ∀ {H' : Hp}, Evl.Ex H H' → DGet H' g (.str k) (some (.ref lk)) := fun {H'} e => by
        have := DGet.k (k := Sum.inr k) (e _ _ hg)
        rw [hvl] at this
        exact this
      refine ⟨py, _, rfl, Evl.ex_t e1 hpy, rfl, _, _, rfl, _, _, rfl, rfl, ?_⟩
      refine ⟨_, rfl, _, rfl, g, _, rfl, gk e1, _, rfl, iteT ?_⟩
      refine ⟨_, rfl, by show 1 ≤ sizeLine; decide, fun R hR => ?_⟩
      have eR := ex_new (o := .lst [.int ((y : Nat) : Int)]) hR
      have e2 := Evl.Ex.trans e1 eR
      have hRH := ex_free e1 hR
      refine ⟨_, rfl, _, rfl, g, _, rfl, gk e2, _, rfl, lk, _, ((y : Nat) : Int), _, rfl, rfl, l_of (e2 _ _ hlk), atI_nat (lkat y hyn), ?_⟩
      refine ⟨_, _, rfl, ?_⟩
      refine ⟨fun q σ H' => ∃ l, 0 < l ∧ q = S.n - l ∧ σ = [some (.ref g), some (.ref a), some (.int ((y : Nat) : Int)), some (.str k), some (.int m), some (.ref R), some (.int ((it (S.f k) l y : Nat) : Int))] ∧ Evl.Ex H H' ∧ H' R = some (.lst ((li ((List.range l).map fun i => it (S.f k) i y)).map V.int)) ∧ ∀ i, 0 < i → i < l → it (S.f k) i y ≠ y,
        ⟨_, 1, Nat.one_pos, rfl, rfl, e2, upd_same .., fun i h1 h2 => by omega⟩, ?_⟩
      rintro q σ H2 ⟨l, hl0, rfl, rfl, e3, hR2, hno⟩
      have hll : ((li ((List.range l).map fun i => it (S.f k) i y)).map V.int).length = l := by
        unfold li
        rw [List.length_map, List.length_map, List.length_map, List.length_range]
      have hls : l ≤ S.n := S.short k hyn hno
      have hitn : it (S.f k) l y < S.n := it_lt (S.lt k) l y hyn
      refine ⟨_, rfl, _, rfl, rfl, _, rfl, ?_⟩
      by_cases hz : it (S.f k) l y = y
      · rw [hz, decide_eq_true rfl]
        have hring := S.ring k m hyn hl0 hz hno
        have hp : (0 : Int) < (l : Int) := by omega
        have hm0 := Int.emod_nonneg m (Int.ne_of_gt hp)
        have hm1 := Int.emod_lt_of_pos m hp
        obtain ⟨ix, hix⟩ := Int.eq_ofNat_of_zero_le hm0
        rw [hix] at hring hm1
        have hixl : ix < l := by omega
        refine iteF ?_
        refine ⟨_, rfl, _, rfl, _, rfl, R, _, rfl, .inl (l_of hR2), m, _, rfl, rfl, by rw [hll]; exact hp, R, _, _, .int ((it (S.f k) ix y : Nat) : Int), rfl, rfl, l_of hR2, ?_, ?_⟩
        · rw [hll, hix]
          refine atI_nat ?_
          unfold li
          rw [List.getElem?_map, List.getElem?_map, List.getElem?_map, List.getElem?_range hixl]
          rfl
        · have : it (S.f k) ix y = S.act k m y := hring
          rw [this, ← hfin]
          exact ⟨_, _, _, _, rfl, e3⟩
      · rw [decide_eq_false (fun z => hz (by injection z; omega))]
        have hls2 : l + 1 ≤ S.n := S.short k hyn fun i h1 h2 => by
          by_cases c : i = l
          · rw [c]; exact hz
          · exact hno i h1 (by omega)
        refine iteT ⟨_, fun σ' H' h => h, ?_⟩
        refine ⟨_, rfl, .inl ⟨rfl, _, l_of hR2⟩, _, rfl, R, _, _, rfl, rfl, hR2, by rw [hll]; omega, ?_⟩
        have e4 : Evl.Ex H (upd H2 R (.lst ((li ((List.range l).map fun i => it (S.f k) i y)).map V.int ++ [.int ((it (S.f k) l y : Nat) : Int)]))) := Evl.Ex.upd e3 hRH
        refine ⟨_, rfl, _, rfl, g, _, rfl, gk e4, _, rfl, lk, _, ((it (S.f k) l y : Nat) : Int), _, rfl, rfl, l_of (e4 _ _ hlk), atI_nat (lkat _ hitn), ?_⟩
        refine ⟨S.n - (l + 1), by omega, l + 1, by omega, rfl, rfl, e4, ?_, fun i h1 h2 => ?_⟩
        · rw [upd_same, List.range_succ]
          unfold li
          rw [List.map_append, List.map_append, List.map_append]
          rfl
        · by_cases c : i = l
          · rw [c]; exact hz
          · exact hno i h1 (by omega)
    · rintro σ H' ⟨v3, v4, v5, v6, rfl, e⟩
      rw [hul, List.take_length]
      exact ⟨_, rfl, q H' e⟩
theorem D_law_led (C : Fx w K mg base) : Dn P w K mg base 1 (a_law_led K) (fdA K (a_law_led K)) ["_law_moves_here", "_law_row_here", "_law_standing"] (spLed K) "_law_led" := ⟨ok_law_led C, C.g_law_led, (F_law_led C).kp, B_law_led C⟩
/-! ### steps further on -/
def spFur (K : PySem.W.Frag) : Sp := fun vs H Q _ => ∃ (p : Addr) (zs : List V) (ss : List Stp) (m : Nat), vs = [.ref p, .int (m : Nat)] ∧ SqT K H p zs ∧ Sts K H zs ss ∧ ss.length < 100000 ∧
  ∀ q H' ws, Evl.Ex H H' → H q = none → SqT K H' q ws → Sts K H' ws (ss.map (Stp.shift m)) → Q (.ref q) H'
theorem ok_law_further (C : Fx w K mg base) : FnOk P w K mg base CX0 1 (a_law_further K) (fdA K (a_law_further K)) ["_law_steps", "_law_by"] (spFur K) := by
  refine (F_law_further C).ok S_law_further (fun vs H Q E h => ?_) (fun cdv A outer s H vs Q E hr h => ?_)
  · obtain ⟨p, zs, ss, m, rfl, _⟩ := h
    rfl
  · obtain ⟨p, zs, ss, m, rfl, hp, hz, hl, q⟩ := h
    refine ⟨_, (pss_one (ps_ret (pe_callTy call_tuple_of (by rfl) C.z_tuple (by decide +kernel) (pa_cons (pe_lc (own := [("_law_step", 2)]) (g := gName 2) (tt := tYes) rfl S_law_further.nd (pi_any (pv 0)) (blkOk_by (own := [("_law_step", 2)]) (N := ["_law_steps", "_law_by", "_law_step"]) (sc := defScope st_law_further) (by decide +kernel)) (fun _ _ _ _ _ => (pg_name (i := 2) S_law_further.nd rfl (Or.inl rfl))) (fun _ _ _ _ _ => pts_nil) (fun _ _ _ _ _ => (pe_op (op_catTK (K := K)) (pe_tup (pa_cons (pe_ix (ix_tupK (K := K)) (pv 2) pe_int (fun _ _ => rfl)) (pa_cons (pe_op op_add (pe_ix (ix_tupK (K := K)) (pv 2) pe_int (fun _ _ => rfl)) (pv 1)) pa_nil))) (pe_slice (sl_tupK (K := K)) (pv 2) (po_some pe_int) po_none)))) pa_nil)))), ?_⟩
    have hzs := sizeLine_eq
    have hzl := pr_len hz
    refine ⟨_, rfl, false, p, zs, rfl, hp, fun D hD => ?_⟩
    refine lcG (b := false) (xs := zs) (fun i H' => ∃ acc, Evl.Ex H H' ∧ H' D = some (.lst acc) ∧ Sts K H' acc ((ss.take i).map (Stp.shift m))) ⟨[], ex_new hD, upd_same .., .nil⟩ (fun i H' _ ⟨_, e, _⟩ => Evl.ex_t e hp) ?_ ?_
    · rintro i v H1 hv ⟨acc, e1, hD1, hacc⟩
      obtain ⟨s0, hs0, q0, rfl, hq0⟩ := pr_get' hz hv
      have etk : ss.take (i + 1) = ss.take i ++ [s0] := by rw [List.take_add_one, hs0]; rfl
      have hil : i < ss.length := (List.getElem?_eq_some_iff.mp hs0).1
      obtain ⟨nm, n, rest, hv0, hv1, hrl⟩ := stp_vals m s0
      rw [hv0] at hq0
      have hq1 := Evl.ex_t e1 hq0
      have hal := pr_len hacc
      rw [List.length_map, List.length_take] at hal
      refine ⟨rfl, _, rfl, q0, _, 0, _, rfl, rfl, hq1, atI_nat (j := 0) rfl, _, rfl, q0, _, 1, _, rfl, rfl, hq1, atI_nat (j := 1) rfl, _, rfl, ((n : Nat) : Int), ((m : Nat) : Int), rfl, rfl, by show 2 ≤ sizeLine; decide, fun t1 ht1 => ?_⟩
      have x1 := ex_new (o := .tup [.str nm, .int (((n : Nat) : Int) + ((m : Nat) : Int))]) ht1
      have hlen : (V.str nm :: V.int ((n : Nat) : Int) :: rest).length = rest.length + 2 := rfl
      have hs2 : HT.sIx (rest.length + 2) 0 (some 2) = 2 := by
        have := HT.sIx_nat (rest.length + 2) 0 2
        rw [show ((2 : Nat) : Int) = 2 from rfl] at this
        rw [this]
        omega
      have hcut : cutV (V.str nm :: V.int ((n : Nat) : Int) :: rest) (some 2) none = rest := by
        unfold cutV
        rw [hlen, hs2, HT.sIx_none]
        show rest.take (rest.length + 2 - 2) = rest
        rw [List.take_of_length_le (by omega)]
      refine ⟨_, rfl, 2, rfl, q0, _, rfl, Evl.ex_t x1 hq1, fun h => ?_, fun t2 ht2 => ?_⟩
      · rw [hlen, hs2] at h
        omega
      rw [hcut]
      have x2 := ex_new (o := .tup rest) ht2
      have x12 := Evl.Ex.trans x1 x2
      have h1' : SqT K (upd (upd H1 t1 (.tup [.str nm, .int (((n : Nat) : Int) + ((m : Nat) : Int))])) t2 (.tup rest)) t1 [.str nm, .int (((n : Nat) : Int) + ((m : Nat) : Int))] := Evl.ex_t x2 (t_of (upd_same ..))
      have fin : ∀ (t : Addr) (H' : Hp), Evl.Ex H1 H' → SqT K H' t (s0.shift m).vals → ∃ acc', H' D = some (.lst acc') ∧ acc'.length < sizeLine ∧ ∃ acc, Evl.Ex H (upd H' D (.lst (acc' ++ [.ref t]))) ∧ upd H' D (.lst (acc' ++ [.ref t])) D = some (.lst acc) ∧ Sts K (upd H' D (.lst (acc' ++ [.ref t]))) acc ((ss.take (i + 1)).map (Stp.shift m)) := by
        intro t H' e ht
        have nx : Nx H' (upd H' D (.lst (acc ++ [.ref t]))) := Nx.upd (Nx.refl _) (.inr ⟨_, e _ _ hD1⟩)
        refine ⟨acc, e _ _ hD1, by omega, acc ++ [.ref t], Evl.Ex.upd (Evl.Ex.trans e1 e) hD, upd_same .., ?_⟩
        rw [etk, List.map_append]
        exact pr_app (sts_nx nx (sts_nx (Nx.ofEx e) hacc)) (.cons ⟨t, rfl, nx_t nx ht⟩ .nil)
      refine ⟨t1, t2, _, _, rfl, rfl, h1', t_of (upd_same ..), by simp, by show 2 + rest.length ≤ _; omega, fun hn => ?_, fun hn p3 hp3 => ?_⟩
      · refine fin t1 _ x12 ?_
        subst hn
        rw [hv1]
        exact h1'
      · refine fin p3 _ (Evl.Ex.trans x12 (ex_new hp3)) ?_
        rw [hv1]
        exact t_of (upd_same ..)
    · rintro H1 ⟨acc, e1, hD1, hacc⟩
      rw [hzl, List.take_length] at hacc
      refine ⟨D, acc, rfl, .inl ⟨l_of hD1, fun t ht => ?_⟩⟩
      have e2 := ex_new (o := .tup acc) ht
      exact q t _ acc (Evl.Ex.trans e1 e2) (ex_free e1 ht) (t_of (upd_same ..)) (sts_nx (Nx.ofEx e2) hacc)
theorem D_law_further (C : Fx w K mg base) : Dn P w K mg base 1 (a_law_further K) (fdA K (a_law_further K)) ["_law_steps", "_law_by"] (spFur K) "_law_further" := ⟨ok_law_further C, C.g_law_further, (F_law_further C).kp, B_law_further C⟩
end
end K91
/-! Q20 -/
namespace K91
open PySem PySem.Spec PyProof.Rows L2
open C8 (InsC call_isC pss_cut)
theorem pe_fldK {X : Cx} {K : PySem.W.Frag} {e : Expr} {ta : TE} {f : Str} {pos : Pos} (he : PE X e ta) (hb : attributeBase e f X.env (eval e X.env) = eval e X.env) (hK : X.K = K := by rfl) : PE X (.Attribute e f pos) (tFld K ta f) := by
  subst hK
  exact pe_fld he hb
theorem verF_al {T : Tb} {r s : List Syl} (h : Al T.fr r s) : verF T r = verF T s := form_eq T.sym linSyl ((press_al T.sym T.irr h).rev T.sym)
theorem Do.al {T : Tb} {s : Stp} {r r1 : List Syl} (h : Do T s r r1) : Al T.fr r r1 := by
  cases h with
  | ex a b y z h => exact .swap a y z b h
  | melt a b k m n => exact .melt a k m n b
  | drop a b k => exact .drop a k b
  | split a b k m n =>
    have := Al.melt (fr := T.fr) a k n (m - n) b
    rw [show n + (m - n) = m by omega] at this
    exact .symm this
  | put a b k h => exact .symm (.drop a k b)
theorem rgs_ex {H0 H H' : Hp} {g : Addr} {ks : List Str} {n : Nat} {f : Str → Nat → Nat} (e : Evl.Ex H H') (h : RgsV H0 H g ks n f) : RgsV H0 H' g ks n f := by
  obtain ⟨kvs, h1, h2⟩ := h
  exact ⟨kvs, e _ _ h1, fun k hk => by
    obtain ⟨a, i1, i2, i3⟩ := h2 k hk
    exact ⟨a, i1, i2, e _ _ i3⟩⟩
section
variable {P : Program} {w : World} {K : PySem.W.Frag} {mg : Str → Option Value} {base : Heap}
def spWay (K : PySem.W.Frag) : Sp := fun vs H Q _ => ∃ (H0 : Hp) (u ver : V) (p g eL : Addr) (zs : List V) (T : Tb) (r r' : List Syl) (ss : List Stp) (S : Sto Str T.fr) (m : Nat), vs = [u, .ref p, ver, .ref g, .ref eL] ∧ RowV K H u T r ∧ Kin T r ∧ SqT K H p zs ∧ Sts K H zs ss ∧ Run T ss r r' ∧ r.length + ss.length < 100000 ∧ VerV K H ver T (verF T r) ∧ (verF T r).length ≤ 1000 ∧
  RgsV H0 H g T.kinds S.n S.f ∧ S.n ≤ 64 ∧ m ≤ S.n ∧ SqL K H eL ((li ((List.range m).map (S.led r))).map V.int) ∧ (∀ k ∈ T.kinds, NameOk k) ∧ ∀ H', Evl.Ex H H' → Q (.bl true) H'
theorem ok_law_way_right (C : Fx w K mg base) : FnOk P w K mg base CX0 11 (a_law_way_right K) (fdA K (a_law_way_right K)) ["_law_row_here", "_law_steps", "_law_version", "_law_rings", "_law_ends"] (spWay K) := by
  refine (F_law_way_right C).ok S_law_way_right (fun vs H Q E h => ?_) (fun cdv A outer s H vs Q E hr h => ?_)
  · obtain ⟨H0, u, ver, p, g, eL, zs, T, r, r', ss, S, m, rfl, _⟩ := h
    rfl
  · obtain ⟨H0, u, ver, p, g, eL, zs, T, r, r', ss, S, m, rfl, hu, hk, hp, hss, hrun, hz, hver, hvl, hrg, h64, hm, hends, hnm, q⟩ := h
    refine ⟨_, (pss_cons (ps_set (i := 5) S_law_way_right.nd rfl (Or.inl rfl) (pe_op op_add pe_int (pe_op op_fdiv (pe_callB call_len_seq (by rfl) C.z_len (by decide +kernel) (pa_cons (pv 1) pa_nil)) pe_int)))
      (pss_cons (ps_for PassesOwn.never rfl (pi_enumA (by rfl) C.z_enumerate (pa_cons (pv 1) pa_nil)) (pg_tup rfl (pgs_cons (pg_name (i := 6) S_law_way_right.nd rfl (Or.inl rfl)) (pgs_cons (pg_name (i := 7) S_law_way_right.nd rfl (Or.inl rfl)) pgs_nil)))
        (pss_cons (ps_set (i := 0) S_law_way_right.nd rfl (Or.inr rfl) (pe_cd (D_walked C) (hr.mono (by decide)) (pa_cons (pv 0) (pa_cons (pe_tup (pa_cons (pv 7) pa_nil)) pa_nil))))
        (pss_cons (ps_if (pt_cmpR op_isN (pv 0) pe_non (nomark _))
          (pss_one (ps_ret pe_bl))
          pss_nil)
        (pss_one (ps_if (pt_cmpR op_eq (pe_op op_mod (pv 6) (pv 5)) pe_int (nomark _))
          (pss_cons (ps_setLc (i := 8) (own := [("_law_kind", 9), ("_law_count_here", 10)]) (g := _) (tt := _) (by rfl) S_law_way_right.nd rfl rfl (sw_true rfl rfl rfl (by decide +kernel)) (pi_any (pe_fld (pv 0) rfl)) (blkOk_by (own := [("_law_kind", 9), ("_law_count_here", 10)]) (N := ["_law_row_here", "_law_steps", "_law_version", "_law_rings", "_law_ends", "_law_apart", "_law_at", "_law_step", "_law_great", "_law_kind", "_law_count_here", "_law_standing"]) (sc := defScope st_law_way_right) (by decide +kernel)) (fun _ _ _ _ _ => (pg_tupK (K := K) (n := 2) rfl (pgs_cons (pg_name (i := 9) S_law_way_right.nd rfl (Or.inl rfl)) (pgs_cons (pg_name (i := 10) S_law_way_right.nd rfl (Or.inl rfl)) pgs_nil)))) (fun _ _ _ _ _ => (pts_one (pt_cmpR op_ge (pe_callB (call_max2 rfl) (by rfl) C.z_max (by decide +kernel) (pa_cons (pv 10) (pa_cons (pe_op op_sub pe_int (pv 10)) pa_nil))) (pe_op op_pow pe_int pe_int) (nomark _)))) (fun _ _ _ _ _ => (pv 10)))
          (pss_cons (ps_if (pt_cmpR (ne_ver C rfl rfl rfl rfl rfl (hr.mono (by decide))) (pe_cc (O_Version C) (hr.mono (by decide)) (pe_glob (v := .ref (He.ga K "Version")) rfl C.g_Version rfl) (pa_cons (pv 0) pa_nil)) (pv 2) (nomark _))
            (pss_one (ps_ret pe_bl))
            pss_nil)
          (pss_cut (ps_if (PW.pt (pw_and (pt_cmpR (op_eqT (α := List Int) hr.units (by decide)) (pv 8) (pe_lst pa_nil) (nomark _)) (pw_and (pt_cmpR op_lt (pe_callB (call_lenO (L_Row C) (hr.mono (by decide))) (by rfl) C.z_len (by decide +kernel) (pa_cons (pv 0) pa_nil)) pe_int (nomark _)) (pw_and1 (pt_cmpR (ne_row C rfl rfl rfl rfl rfl (hr.mono (by decide))) (pe_cc (R_Row C) (hr.mono (by decide)) (pe_glob (v := .ref (He.ga K "Row")) rfl C.g_Row rfl) (pa_cons (pe_fld (pv 0) rfl) (pa_cons (pe_callTy (call_strO (S_Row C) (hr.mono (by decide))) (by rfl) C.z_str (by decide +kernel) (pa_cons (pv 0) pa_nil)) pa_nil))) (pv 0) (nomark _))))))
            (pss_one (ps_ret pe_bl))
            pss_nil)
          (pss_one (ps_if (pt_cmpR (op_neT (α := List Int) hr.units (by decide)) (pe_lc (own := [("_law_standing", 11)]) (g := gName 11) (tt := tYes) rfl S_law_way_right.nd (pi_range1 (by rfl) C.z_range (pa_cons (pe_callB call_len_seq (by rfl) C.z_len (by decide +kernel) (pa_cons (pv 4) pa_nil)) pa_nil)) (blkOk_by (own := [("_law_standing", 11)]) (N := ["_law_row_here", "_law_steps", "_law_version", "_law_rings", "_law_ends", "_law_apart", "_law_at", "_law_step", "_law_great", "_law_kind", "_law_count_here", "_law_standing"]) (sc := defScope st_law_way_right) (by decide +kernel)) (fun _ _ _ _ _ => (pg_name (i := 11) S_law_way_right.nd rfl (Or.inl rfl))) (fun _ _ _ _ _ => pts_nil) (fun _ _ _ _ _ => (pe_cd (D_law_led C) (by exact hr.mono (by decide)) (pa_cons (pv 3) (pa_cons (pe_fldK (K := K) (pv 0) rfl) (pa_cons (pv 11) pa_nil)))))) (pv 4) (nomark _))
            (pss_one (ps_ret pe_bl))
            pss_nil)))))
          pss_nil)))))
      (pss_one (ps_ret pe_bl)))), ?_⟩
    have hzs := sizeLine_eq
    have hsl := pr_len hss
    obtain ⟨ap, hap⟩ : ∃ ap : Nat, ap = 1 + ss.length / 12 := ⟨_, rfl⟩
    refine ⟨_, rfl, p, _, rfl, .inr hp, _, 12, rfl, rfl, ⟨by decide, by decide⟩, 1, _, rfl, rfl, ?_⟩
    have eap : (1 : Int) + (zs.length : Int) / 12 = ((ap : Nat) : Int) := by omega
    show gName 5 (.int ((1 : Int) + (zs.length : Int) / 12)) _ _ _
    rw [eap]
    refine ⟨_, rfl, false, p, zs, rfl, hp, ?_⟩
    refine for_enumA (b := false) (xs := zs) (fun i σ H' => ∃ v0 v6 v7 v8 ri, σ = [some v0, some (.ref p), some ver, some (.ref g), some (.ref eL), some (.int ((ap : Nat) : Int)), v6, v7, v8, none, none, none] ∧ Evl.Ex H H' ∧ RowV K H' v0 T ri ∧ Kin T ri ∧ Run T (ss.drop i) ri r' ∧ ri.length ≤ r.length + i ∧ Al T.fr r ri)
      ⟨u, none, none, none, r, rfl, Evl.Ex.refl _, hu, hk, hrun, Nat.le_refl _, .refl _⟩ (fun i σ H' _ ⟨_, _, _, _, _, _, e, _⟩ => Evl.ex_t e hp) ?_ ?_
    · rintro i x Wt σ H1 hx ⟨v0, v6, v7, v8, ri, rfl, e1, hri, hki, hru, hli, hal⟩ hW
      obtain ⟨st, hst, hsv⟩ := pr_get' hss hx
      obtain ⟨r1, hd, hr1⟩ := run_step hst hru
      have hil : i < ss.length := (List.getElem?_eq_some_iff.mp hst).1
      have eW := ex_new (o := .tup [.int (i : Nat), x]) hW
      have e1W := Evl.Ex.trans e1 eW
      refine ⟨Wt, _, rfl, t_of (upd_same ..), rfl, _, _, rfl, _, _, rfl, rfl, ?_⟩
      -- one step walked
      refine ⟨_, rfl, _, rfl, by show 1 ≤ sizeLine; decide, fun tt htt => ?_⟩
      have et := ex_new (o := .tup [x]) htt
      have e1t := Evl.Ex.trans e1W et
      refine ⟨v0, T, tt, [x], ri, r1, [st], rfl, hri.nx (Nx.ofEx (Evl.Ex.trans eW et)), hki, t_of (upd_same ..), .cons (hsv.nx (Nx.ofEx e1t)) .nil, .one hd, by show ri.length + 1 < _; omega, fun q0 H2 e2 hq0 hrow => ?_⟩
      have e02 := Evl.Ex.trans e1t e2
      have hk1 := hd.kin hki
      have hl1 := hd.len
      have hal1 : Al T.fr r r1 := .trans hal hd.al
      refine ⟨_, rfl, rfl, _, rfl, iteF ?_⟩
      have hap0 : 0 < ap := by omega
      refine ⟨_, rfl, _, rfl, ((i : Nat) : Int), ((ap : Nat) : Int), rfl, rfl, by show (0 : Int) < _; omega, rfl, _, rfl, ite2 (fun _ => ?_) (fun _ => ?_)⟩
      rotate_left
      · exact ⟨_, _, _, _, r1, rfl, e02, hrow, hk1, hr1, by omega, hal1⟩
      -- great
      obtain ⟨a, dx, t, p1, ea, ha, hT, p2, us, ep, hp2, hs2⟩ := id hrow
      cases ea
      subst ep
      refine ⟨_, rfl, q0, _, dx, _, _, rfl, ha, C.c_Row, C.n_Row_syllables, rfl, false, p2, us, rfl, hp2, fun D hD => ?_⟩
      have hul := pr_len hs2
      refine lcG (b := false) (xs := us) (fun n H' => ∃ acc : List Int, Evl.Ex H2 H' ∧ H' D = some (.lst (acc.map V.int)) ∧ acc.length ≤ n ∧ (acc = [] → ∀ y ∈ r1.take n, y.2.natAbs < 10 ^ 21)) ⟨[], ex_new hD, upd_same .., Nat.le_refl _, fun _ y h => by simp at h⟩ (fun n H' _ ⟨_, e, _⟩ => Evl.ex_t e hp2) ?_ ?_
      · rintro n v H3 hv ⟨acc, e3, hD3, hacl, hac⟩
        obtain ⟨y, hy, py, rfl, hpy⟩ := pr_get' hs2 hv
        have etk : r1.take (n + 1) = r1.take n ++ [y] := by rw [List.take_add_one, hy]; rfl
        have hnl : n < r1.length := (List.getElem?_eq_some_iff.mp hy).1
        refine ⟨py, _, rfl, Evl.ex_t e3 hpy, rfl, _, _, rfl, _, _, rfl, rfl, rfl, ?_⟩
        refine ⟨_, rfl, _, rfl, 0, y.2, rfl, rfl, y.2, 0 - y.2, rfl, ?_⟩
        refine ⟨10, 21, rfl, rfl, ⟨by decide, by decide, by decide⟩, _, 10 ^ 21, rfl, rfl, _, rfl, ite2 (fun eq => ?_) (fun eq => ?_)⟩
        · exact ⟨_, rfl, _, hD3, by rw [List.length_map]; omega, acc ++ [y.2], Evl.Ex.upd e3 hD, by rw [upd_same, List.map_append]; rfl, by simp; omega, fun h => absurd h (by simp)⟩
        · refine ⟨acc, e3, hD3, by omega, fun h z hz' => ?_⟩
          rw [etk] at hz'
          rcases List.mem_append.mp hz' with h1 | h1
          · exact hac h z h1
          · rw [List.mem_singleton] at h1
            rw [h1]
            have h2 : ¬ (10 : Int) ^ 21 ≤ (if 0 - y.2 > y.2 then 0 - y.2 else y.2) := fun h2 => eq (decide_eq_true h2)
            have e21 : (10 : Int) ^ 21 = 1000000000000000000000 := by decide
            have e22 : (10 : Nat) ^ 21 = 1000000000000000000000 := by decide
            rw [e21] at h2
            rw [e22]
            split at h2 <;> omega
      · rintro H3 ⟨acc, e3, hD3, hacl, hac⟩
        rw [hul, List.take_length] at hac
        have e03 := Evl.Ex.trans e02 e3
        have hrow3 := hrow.nx (Nx.ofEx e3)
        -- the version
        refine ⟨rfl, _, rfl, _, .ref q0, T, r1, rfl, hrow3, hk1, by omega, by rw [← verF_al hal1]; exact hvl, fun pV H4 e4 hpV hver4 => ?_⟩
        have e04 := Evl.Ex.trans e03 e4
        rw [← verF_al hal1] at hver4
        refine ⟨_, rfl, dver hver4 (hver.nx (Nx.ofEx e04)), fun H5 e5 => ⟨_, rfl, iteF ?_⟩⟩
        have e05 := Evl.Ex.trans e04 e5
        have e35 := Evl.Ex.trans e4 e5
        have hD5 := e35 _ _ hD3
        have hrow5 := hrow3.nx (Nx.ofEx e35)
        have ha5 := (Evl.Ex.trans e3 e35) _ _ ha
        -- read again from its text
        refine ⟨fun σ' H' => σ' = [some (.ref q0), some (.ref p), some ver, some (.ref g), some (.ref eL), some (.int ((ap : Nat) : Int)), some (.int ((i : Nat) : Int)), some x, some (.ref D), none, none, none] ∧ Evl.Ex H5 H', ?_, ?_⟩
        · refine ⟨_, rfl, by show 0 ≤ sizeLine; decide, fun z hz' => ?_⟩
          have ez := ex_new (o := .lst []) hz'
          refine ⟨acc, ([] : List Int), ints_dpL (l_of (ez _ _ hD5)), ints_dpL (l_of (upd_same ..)), _, rfl, ?_⟩
          by_cases hae : acc = []
          · rw [decide_eq_true hae]
            have hsm := hac hae
            refine iteT ?_
            refine ⟨_, rfl, q0, dx, _, rfl, ez _ _ ha5, .ref q0, T, r1, rfl, hrow5.nx (Nx.ofEx ez), r1.length, rfl, by omega, ((r1.length : Nat) : Int), 61, rfl, rfl, _, rfl, ?_⟩
            by_cases h61 : r1.length < 61
            · rw [decide_eq_true (show ((r1.length : Nat) : Int) < 61 by omega)]
              refine iteT ?_
              have hok : ∀ y ∈ r1, SylOk y := fun y hy => ⟨hnm _ (hk1 y hy), hsm y hy⟩
              obtain ⟨a', dx', t', p1', ea', ha', hT', _⟩ := hrow5.nx (Nx.ofEx ez)
              cases ea'
              refine ⟨rfl, _, rfl, q0, _, dx', _, _, rfl, ha', C.c_Row, C.n_Row_table, rfl, ?_⟩
              refine ⟨_, rfl, q0, dx', _, rfl, ha', .ref q0, T, r1, rfl, hrow5.nx (Nx.ofEx ez), hok, by omega, fun H6 e6 => ⟨rowTx r1, rfl, ?_⟩⟩
              refine ⟨_, t', T, r1, rfl, hT'.nx (Nx.ofEx e6), hk1, hok, by omega, fun pR H7 e7 hpR hrR => ?_⟩
              refine ⟨_, rfl, drow hrR (hrow5.nx (Nx.ofEx (Evl.Ex.trans ez (Evl.Ex.trans e6 e7)))), fun H8 e8 => ⟨_, rfl, iteF ⟨rfl, Evl.Ex.trans ez (Evl.Ex.trans e6 (Evl.Ex.trans e7 e8))⟩⟩⟩
            · rw [decide_eq_false (show ¬ ((r1.length : Nat) : Int) < 61 by omega)]
              exact iteF (iteF ⟨rfl, ez⟩)
          · rw [decide_eq_false hae]
            exact iteF (iteF ⟨rfl, ez⟩)
        · rintro σ' H6 ⟨rfl, e6⟩
          have e06 := Evl.Ex.trans e05 e6
          have hrow6 := hrow5.nx (Nx.ofEx e6)
          have hlenE : ((li ((List.range m).map (S.led r))).map V.int).length = m := by
            unfold li
            rw [List.length_map, List.length_map, List.length_map, List.length_range]
          obtain ⟨a', dx', t', p1', ea', ha', hT', p2', us', ep', hp2', hs2'⟩ := id hrow6
          cases ea'
          subst ep'
          refine ⟨_, rfl, eL, _, rfl, .inl (Evl.ex_l e06 hends), _, rfl, ?_⟩
          rw [hlenE]
          refine ⟨by omega, by omega, fun D2 hD2 => ?_⟩
          rw [Int.toNat_natCast]
          refine lcG_range (n := m) (fun j H' => Evl.Ex H6 H' ∧ H' D2 = some (.lst ((li ((List.range j).map (S.led r1))).map V.int))) ⟨ex_new hD2, upd_same ..⟩ ?_ ?_
          · rintro j H7 hj ⟨e7, hD7⟩
            have ej : (0 : Int) + (j : Nat) = ((j : Nat) : Int) := by omega
            rw [ej]
            have e67 := Evl.Ex.trans e06 e7
            refine ⟨rfl, _, rfl, _, rfl, q0, _, dx', _, _, rfl, e7 _ _ ha', C.c_Row, C.n_Row_syllables, rfl, _, rfl, H0, g, p2', false, us', r1, j, T.fr, S, T.kinds, rfl, rgs_ex e67 hrg, Evl.ex_t e7 hp2', sys_ex e7 hs2', hk1, by omega, h64, fun H8 e8 => ?_⟩
            refine ⟨_, e8 _ _ hD7, by unfold li; rw [List.length_map, List.length_map, List.length_map, List.length_range]; omega, Evl.Ex.upd (Evl.Ex.trans e7 e8) hD2, ?_⟩
            rw [upd_same, List.range_succ]
            unfold li
            rw [List.map_append, List.map_append, List.map_append]
            rfl
          · rintro H7 ⟨e7, hD7⟩
            refine ⟨_, rfl, li ((List.range m).map (S.led r1)), li ((List.range m).map (S.led r)), ints_dpL (l_of hD7), ints_dpL (Evl.ex_l (Evl.Ex.trans e06 e7) hends), _, rfl, ?_⟩
            have heq : li ((List.range m).map (S.led r1)) = li ((List.range m).map (S.led r)) := by
              congr 1
              refine List.map_congr_left fun y hy => ?_
              exact (S.led_al hal1 (by have := List.mem_range.mp hy; omega)).symm
            rw [decide_eq_true heq]
            exact iteF ⟨_, _, _, _, r1, rfl, Evl.Ex.trans e06 e7, hrow6.nx (Nx.ofEx e7), hk1, hr1, by omega, hal1⟩
    · rintro σ H' ⟨v0, v6, v7, v8, ri, rfl, e, _⟩
      exact q H' e
theorem D_law_way_right (C : Fx w K mg base) : Dn P w K mg base 11 (a_law_way_right K) (fdA K (a_law_way_right K)) ["_law_row_here", "_law_steps", "_law_version", "_law_rings", "_law_ends"] (spWay K) "_law_way_right" := ⟨ok_law_way_right C, C.g_law_way_right, (F_law_way_right C).kp, B_law_way_right C⟩
end
end K91
/-! Q21 -/
/-! what the law asks of papers and rows, in short -/
namespace K91
open PySem PySem.Spec PyProof.Rows L2
open C8 (InsC call_isC pss_cut)
/-- v is a paper from r to s -/
def PapV (K : PySem.W.Frag) (H : Hp) (v : V) (T : Tb) (ss : List Stp) (r s : List Syl) : Prop := ∃ p zs, v = .ref p ∧ SqT K H p zs ∧ Sts K H zs ss ∧ Run T ss r s
theorem PapV.nx {K : PySem.W.Frag} {H H' : Hp} (e : Nx H H') {v : V} {T : Tb} {ss : List Stp} {r s : List Syl} (h : PapV K H v T ss r s) : PapV K H' v T ss r s := let ⟨p, zs, a, b, c, d⟩ := h; ⟨p, zs, a, nx_t e b, sts_nx e c, d⟩
theorem wayM_le {n : Nat} (h : n ≤ 40) : wayM n ≤ 3280 := by
  have h1 : n * (n + 2) ≤ 40 * 42 := Nat.mul_le_mul h (by omega)
  have h2 : n * n ≤ 40 * 40 := Nat.mul_le_mul h h
  unfold wayM
  omega
section
variable {K : PySem.W.Frag} {H : Hp} {u v z : V} {T : Tb} {r s q1 : List Syl} {ss ss' : List Stp} {Q : VK}
theorem mkPap (hu : RowV K H u T r) (hv : RowV K H v T s) (kr : Kin T r) (ks : Kin T s) (lr : r.length ≤ 40) (ls : s.length ≤ 40) (al : Al T.fr r s)
    (q : ∀ w H' ss, Evl.Ex H H' → ss.length ≤ 6560 → PapV K H' w T ss r s → Q w H') : spPaper K [u, v] H Q E0 :=
  ⟨u, v, T, r, s, rfl, hu, hv, kr, ks, by omega, by omega, verF_al al, fun p H' zs ss e _ hp hz hrun hlen => q _ H' ss e (by have := wayM_le lr; have := wayM_le ls; omega) ⟨p, zs, rfl, hp, hz, hrun⟩⟩
theorem mkHolds (hu : RowV K H u T r) (hv : RowV K H v T s) (hp : PapV K H z T ss r s) (kr : Kin T r) (l : r.length + ss.length < 100000) (q : ∀ H', Evl.Ex H H' → Q (.bl true) H') : spHolds K [u, v, z] H Q E0 := by
  obtain ⟨p, zs, rfl, h1, h2, h3⟩ := hp
  exact ⟨u, v, T, p, zs, r, s, ss, rfl, hu, hv, kr, h1, h2, h3, l, q⟩
theorem mkWalk (hu : RowV K H u T r) (hp : PapV K H z T ss r s) (kr : Kin T r) (l : r.length + ss.length < 100000) (q : ∀ w H', Evl.Ex H H' → RowV K H' w T s → Q w H') : spWalk K [u, z] H Q E0 := by
  obtain ⟨p, zs, rfl, h1, h2, h3⟩ := hp
  exact ⟨u, T, p, zs, r, s, ss, rfl, hu, kr, h1, h2, h3, l, fun q' H' e _ hv => q _ H' e hv⟩
theorem mkCat (hu : PapV K H u T ss r s) (hv : PapV K H v T ss' s q1) (l : ss.length + ss'.length ≤ 100000) (q : ∀ w H', Evl.Ex H H' → PapV K H' w T (ss ++ ss') r q1 → Q w H') : rCatA K u v H Q := by
  obtain ⟨p, zs, rfl, h1, h2, h3⟩ := hu
  obtain ⟨p', zs', rfl, g1, g2, g3⟩ := hv
  have hzs := sizeLine_eq
  have l1 := pr_len h2
  have l2 := pr_len g2
  refine ⟨p, p', zs, zs', rfl, rfl, h1, g1, by omega, fun h => ?_, fun h g => ?_, fun h g t ht => ?_⟩
  · subst h
    cases h2
    exact q _ H (Evl.Ex.refl _) ⟨p', zs', rfl, g1, g2, h3.app g3⟩
  · subst g
    cases g2
    refine q _ H (Evl.Ex.refl _) ⟨p, zs, rfl, h1, ?_, h3.app g3⟩
    rw [List.append_nil]
    exact h2
  · have e := ex_new (o := .tup (zs ++ zs')) ht
    exact q _ _ e ⟨t, zs ++ zs', rfl, t_of (upd_same ..), sts_nx (Nx.ofEx e) (pr_app h2 g2), h3.app g3⟩
theorem mkInv (hu : RowV K H u T r) (kr : Kin T r) (l : r.length < 100000) (q : ∀ w H', Evl.Ex H H' → RowV K H' w T (und r) → Q w H') : rInvO (He.ga K "Row") (spRInv K) u H Q := by
  obtain ⟨a, dx, t, p, rfl, ha, _⟩ := id hu
  exact ⟨a, dx, _, rfl, ha, .ref a, T, r, rfl, hu, kr, l, fun p H' e _ hv => q _ H' e hv⟩
theorem mkAdd (hu : RowV K H u T r) (hv : RowV K H v T s) (kr : Kin T r) (ks : Kin T s) (l : r.length + s.length < 100000) (q : ∀ w H', Evl.Ex H H' → RowV K H' w T (r ++ s) → Q w H') : rAddO (He.ga K "Row") (spRAdd K) u v H Q := by
  obtain ⟨a, dx, t, p, rfl, ha, _⟩ := id hu
  obtain ⟨b, dy, t', p', rfl, hb, _⟩ := id hv
  exact ⟨a, b, dx, dy, _, _, rfl, rfl, ha, hb, .ref a, .ref b, T, r, s, rfl, hu, hv, kr, ks, l, fun p H' e _ hv => q _ H' e hv⟩
theorem kin_und (k : Kin T r) : Kin T (und r) := fun y hy => by
  unfold und at hy
  obtain ⟨z, hz, rfl⟩ := List.mem_map.mp (List.mem_reverse.mp hy)
  exact k z hz
theorem len_und : (und r).length = r.length := by
  unfold und
  rw [List.length_reverse, List.length_map]
theorem kin_app (k : Kin T r) (g : Kin T s) : Kin T (r ++ s) := fun y hy => (List.mem_append.mp hy).elim (k y) (g y)
end
/-- what stands in the law's turn -/
structure LS (K : PySem.W.Frag) (H : Hp) (d c kk fr tl : Addr) (tv v1 v2 v3 : V) (ks : List Str) (us : List V) (ps : List (Str × Str)) (T : Tb) (r s1 s2 : List Syl) : Prop where
  dl : Dl H d c
  kk : H kk = some (.lst (ks.map V.str))
  frl : H fr = some (.lst us)
  prs : Paired (PrT K H) us ps
  tl : ∃ tus, H tl = some (.lst tus) ∧ Sys K H tus r
  tb : TabV K H tv T
  r1 : RowV K H v1 T r
  r2 : RowV K H v2 T s1
  r3 : RowV K H v3 T s2
section
variable {K : PySem.W.Frag} {H H' : Hp} {d c kk fr tl : Addr} {tv v1 v2 v3 : V} {ks : List Str} {us : List V} {ps : List (Str × Str)} {T : Tb} {r s1 s2 : List Syl}
theorem LS.ex (L : LS K H d c kk fr tl tv v1 v2 v3 ks us ps T r s1 s2) (e : Evl.Ex H H') : LS K H' d c kk fr tl tv v1 v2 v3 ks us ps T r s1 s2 := by
  have n := Nx.ofEx e
  obtain ⟨tus, h1, h2⟩ := L.tl
  exact ⟨L.dl.ex e, e _ _ L.kk, e _ _ L.frl, pr_mono (fun _ _ z => PrT.nx n z) L.prs, ⟨tus, e _ _ h1, sys_nx n h2⟩, L.tb.nx n, L.r1.nx n, L.r2.nx n, L.r3.nx n⟩
theorem LS.kx (L : LS K H d c kk fr tl tv v1 v2 v3 ks us ps T r s1 s2) (k : Kx (X2 d c) H H') (hD : Dl H' d c) (n1 : ¬ X2 d c kk) (n2 : ¬ X2 d c fr) (n3 : ¬ X2 d c tl) : LS K H' d c kk fr tl tv v1 v2 v3 ks us ps T r s1 s2 := by
  have n := L.dl.nx k
  obtain ⟨tus, h1, h2⟩ := L.tl
  exact ⟨hD, k _ _ n1 L.kk, k _ _ n2 L.frl, pr_mono (fun _ _ z => PrT.nx n z) L.prs, ⟨tus, k _ _ n3 h1, sys_nx n h2⟩, L.tb.nx n, L.r1.nx n, L.r2.nx n, L.r3.nx n⟩
end
end K91
/-! Q22 -/
namespace K91
open PySem PySem.Spec PyProof.Rows L2
open C8 (InsC call_isC pss_cut)
/-- a list made since H0, of a row alike to r -/
def BenR (K : PySem.W.Frag) (H0 : Hp) (D : Addr) (H : Hp) (fr : Str → Str → Bool) (ks : List Str) (r : List Syl) (v : V) (s : List Syl) : Prop := ∃ a us, v = .ref a ∧ H0 a = none ∧ a ≠ D ∧ H a = some (.lst us) ∧ Sys K H us s ∧ Al fr r s ∧ s.length ≤ r.length + 16 ∧ ∀ y ∈ s, y.1 ∈ ks
def RwL (K : PySem.W.Frag) (H : Hp) (T : Tb) (v : V) (s : List Syl) : Prop := ∃ a us, v = .ref a ∧ H a = some (.lst us) ∧ Sys K H us s ∧ Kin T s ∧ s.length ≤ 40
section
variable {P : Program} {w : World} {K : PySem.W.Frag} {mg : Str → Option Value} {base : Heap}
theorem sf_Row (C : Fx w K mg base) : PySem.W.selfFirst K (He.ga K "Row") = true := (ex_parts C).2.2.2.2.2.2.1
def spLaw (K : PySem.W.Frag) : Sp := fun vs H Q _ => ∃ (a : Addr) (ns : List Int), vs = [.ref a] ∧ SqL K H a (ns.map V.int) ∧ ns.length < 100 ∧ ∀ H', Q (.bl true) H'
theorem ok_law (C : Fx w K mg base) : FnOk P w K mg base CX0 12 (a_law K) (fdA K (a_law K)) ["_law_script"] (spLaw K) := by
  refine (F_law C).ok S_law (fun vs H Q E h => ?_) (fun cdv A outer s H vs Q E hr h => ?_)
  · obtain ⟨a, ns, rfl, _⟩ := h
    rfl
  · obtain ⟨a, ns, rfl, ha, hnl, q⟩ := h
    refine ⟨_, (pss_cons (ps_set (i := 1) S_law.nd rfl (Or.inr rfl) (pe_cd (D_law_deal C) (hr.mono (by decide)) (pa_cons (pv 0) (pa_cons pe_int pa_nil))))
      (pss_cons (ps_for PassesOwn.never rfl (pi_range1 (by rfl) C.z_range (pa_cons pe_int pa_nil)) (pg_name (i := 2) S_law.nd rfl (Or.inl rfl))
        (pss_cons (ps_set (i := 3) S_law.nd rfl (Or.inr rfl) (pe_cd (D_law_names C) (hr.mono (by decide)) (pa_cons (pv 1) (pa_cons (pe_op op_add pe_int (pe_cd (D_law_draw C) (hr.mono (by decide)) (pa_cons (pv 1) (pa_cons pe_int pa_nil)))) pa_nil))))
        (pss_cons (ps_set (i := 4) S_law.nd rfl (Or.inr rfl) (pe_cd (D_law_pairs C) (hr.mono (by decide)) (pa_cons (pv 1) (pa_cons (pv 3) pa_nil))))
        (pss_cons (ps_asg (pe_cd (D_law_some_moves C) (hr.mono (by decide)) (pa_cons (pv 1) (pa_cons (pv 3) (pa_cons (pv 4) pa_nil)))) (pg_tup rfl (pgs_cons (pg_name (i := 5) S_law.nd rfl (Or.inl rfl)) (pgs_cons (pg_name (i := 6) S_law.nd rfl (Or.inr rfl)) pgs_nil))))
        (pss_cons (ps_asg (pe_tup (pa_cons (pe_mk (M_Table C) (hr.mono (by decide)) (pa_cons (pv 3) (pa_cons (pv 4) pa_nil))) (pa_cons (pe_cd (D_law_row C) (hr.mono (by decide)) (pa_cons (pv 1) (pa_cons (pv 3) (pa_cons (pe_cd (D_law_draw C) (hr.mono (by decide)) (pa_cons (pv 1) (pa_cons pe_int pa_nil))) pa_nil)))) pa_nil))) (pg_tup rfl (pgs_cons (pg_name (i := 7) S_law.nd rfl (Or.inr rfl)) (pgs_cons (pg_name (i := 8) S_law.nd rfl (Or.inr rfl)) pgs_nil))))
        (pss_cons (ps_set (i := 9) S_law.nd rfl (Or.inl rfl) (pe_op op_cat (pe_lst (pa_cons (pv 8) pa_nil)) (pe_lc (own := [("_law_k", 21)]) (g := gName 21) (tt := tYes) rfl S_law.nd (pi_range1 (by rfl) C.z_range (pa_cons pe_int pa_nil)) (blkOk_by (own := [("_law_k", 21)]) (N := ["_law_script", "_law_deal_here", "_law_turn", "_law_kinds", "_law_free", "_law_size", "_law_rings", "_law_table", "_law_told", "_law_some", "_law_one", "_law_two", "_law_three", "_law_ends", "_law_first", "_law_second", "_law_more", "_law_turned", "_law_order", "_law_item", "_law_standing", "_law_k"]) (sc := defScope st_law) (by decide +kernel)) (fun _ _ _ _ _ => (pg_name (i := 21) S_law.nd rfl (Or.inl rfl))) (fun _ _ _ _ _ => pts_nil) (fun _ _ _ _ _ => (pe_cd (D_law_bent C) (by exact hr.mono (by decide)) (pa_cons (pv 1) (pa_cons (pv 3) (pa_cons (pv 4) (pa_cons (pv 8) (pa_cons (pe_cd (D_law_draw C) (by exact hr.mono (by decide)) (pa_cons (pv 1) (pa_cons pe_int pa_nil))) pa_nil))))))))))
        (pss_cons (ps_asg (pe_lc (own := [("_law_item", 19)]) (g := gName 19) (tt := tYes) rfl S_law.nd (pi_any (pv 9)) (blkOk_by (own := [("_law_item", 19)]) (N := ["_law_script", "_law_deal_here", "_law_turn", "_law_kinds", "_law_free", "_law_size", "_law_rings", "_law_table", "_law_told", "_law_some", "_law_one", "_law_two", "_law_three", "_law_ends", "_law_first", "_law_second", "_law_more", "_law_turned", "_law_order", "_law_item", "_law_standing", "_law_k"]) (sc := defScope st_law) (by decide +kernel)) (fun _ _ _ _ _ => (pg_name (i := 19) S_law.nd rfl (Or.inl rfl))) (fun _ _ _ _ _ => pts_nil) (fun _ _ _ _ _ => (pe_mk (M_Row C) (by exact hr.mono (by decide)) (pa_cons (pv 7) (pa_cons (pv 19) pa_nil))))) (pg_unl rfl (pgs_cons (pg_name (i := 10) S_law.nd rfl (Or.inl rfl)) (pgs_cons (pg_name (i := 11) S_law.nd rfl (Or.inl rfl)) (pgs_cons (pg_name (i := 12) S_law.nd rfl (Or.inl rfl)) pgs_nil)))))
        (pss_cons (ps_setLc (i := 13) (own := [("_law_standing", 20)]) (g := gName 20) (tt := tYes) (by rfl) S_law.nd rfl rfl (sw_true rfl rfl rfl (by decide +kernel)) (pi_range1 (by rfl) C.z_range (pa_cons (pe_callB (call_min2 rfl) (by rfl) C.z_min (by decide +kernel) (pa_cons (pv 5) (pa_cons pe_int pa_nil))) pa_nil)) (blkOk_by (own := [("_law_standing", 20)]) (N := ["_law_script", "_law_deal_here", "_law_turn", "_law_kinds", "_law_free", "_law_size", "_law_rings", "_law_table", "_law_told", "_law_some", "_law_one", "_law_two", "_law_three", "_law_ends", "_law_first", "_law_second", "_law_more", "_law_turned", "_law_order", "_law_item", "_law_standing", "_law_k"]) (sc := defScope st_law) (by decide +kernel)) (fun _ _ _ _ _ => (pg_name (i := 20) S_law.nd rfl (Or.inl rfl))) (fun _ _ _ _ _ => pts_nil) (fun _ _ _ _ _ => (pe_cd (D_law_led C) (by exact hr.mono (by decide)) (pa_cons (pv 6) (pa_cons (pv 8) (pa_cons (pv 20) pa_nil))))))
        (pss_cons (ps_par (i := 14) (j := 15) (by rfl) S_law.nd rfl rfl (by decide) rfl rfl (pa_cons (pe_cd (D_paper C) (hr.mono (by decide)) (pa_cons (pv 10) (pa_cons (pv 11) pa_nil))) (pa_cons (pe_cd (D_paper C) (hr.mono (by decide)) (pa_cons (pv 11) (pa_cons (pv 12) pa_nil))) pa_nil)) (by rfl))
        (pss_cons (ps_if (pt_not (pt_val (pe_cd (D_paper_holds C) (hr.mono (by decide)) (pa_cons (pv 10) (pa_cons (pv 12) (pa_cons (pe_op op_catA (pv 14) (pv 15)) pa_nil))))))
          (pss_one (ps_ret pe_bl))
          pss_nil)
        (pss_cons (ps_if (pt_not (pt_val (pe_cd (D_paper_holds C) (hr.mono (by decide)) (pa_cons (pv 12) (pa_cons (pv 12) (pa_cons (pe_op op_catA (pe_op op_catA (pe_cd (D_paper C) (hr.mono (by decide)) (pa_cons (pv 12) (pa_cons (pv 10) pa_nil))) (pv 14)) (pv 15)) pa_nil))))))
          (pss_one (ps_ret pe_bl))
          pss_nil)
        (pss_cons (ps_if (pt_not (pt_val (pe_cd (D_law_way_right C) (hr.mono (by decide)) (pa_cons (pv 10) (pa_cons (pv 14) (pa_cons (pe_cc (O_Version C) (hr.mono (by decide)) (pe_glob (v := .ref (He.ga K "Version")) rfl C.g_Version rfl) (pa_cons (pv 10) pa_nil)) (pa_cons (pv 6) (pa_cons (pv 13) pa_nil))))))))
          (pss_one (ps_ret pe_bl))
          pss_nil)
        (pss_cons (ps_set (i := 16) S_law.nd rfl (Or.inl rfl) (pe_mk (M_Row C) (hr.mono (by decide)) (pa_cons (pv 7) (pa_cons (pe_cd (D_law_row C) (hr.mono (by decide)) (pa_cons (pv 1) (pa_cons (pv 3) (pa_cons (pe_op op_add pe_int (pe_cd (D_law_draw C) (hr.mono (by decide)) (pa_cons (pv 1) (pa_cons pe_int pa_nil)))) pa_nil)))) pa_nil))))
        (pss_cons (ps_if (pt_not (pt_val (pe_cd (D_paper_holds C) (hr.mono (by decide)) (pa_cons (pe_op (op_addO (A_Row C) (sf_Row C) (hr.mono (by decide))) (pv 10) (pv 16)) (pa_cons (pe_op (op_addO (A_Row C) (sf_Row C) (hr.mono (by decide))) (pv 11) (pv 16)) (pa_cons (pv 14) pa_nil))))))
          (pss_one (ps_ret pe_bl))
          pss_nil)
        (pss_cons (ps_if (pt_not (pt_val (pe_cd (D_paper_holds C) (hr.mono (by decide)) (pa_cons (pe_op (op_addO (A_Row C) (sf_Row C) (hr.mono (by decide))) (pv 16) (pv 10)) (pa_cons (pe_op (op_addO (A_Row C) (sf_Row C) (hr.mono (by decide))) (pv 16) (pv 11)) (pa_cons (pe_cd (D_law_further C) (hr.mono (by decide)) (pa_cons (pv 14) (pa_cons (pe_callB (call_lenO (L_Row C) (hr.mono (by decide))) (by rfl) C.z_len (by decide +kernel) (pa_cons (pv 16) pa_nil)) pa_nil))) pa_nil))))))
          (pss_one (ps_ret pe_bl))
          pss_nil)
        (pss_cons (ps_set (i := 17) S_law.nd rfl (Or.inl rfl) (pe_cd (D_paper C) (hr.mono (by decide)) (pa_cons (pe_un (un_invO (I_Row C) (hr.mono (by decide))) (pv 11)) (pa_cons (pe_un (un_invO (I_Row C) (hr.mono (by decide))) (pv 12)) pa_nil))))
        (pss_cons (ps_if (PW.pt (pw_or (pt_cmpR op_isN (pv 17) pe_non (nomark _)) (pw_or1 (pt_cmpR (ne_row C rfl rfl rfl rfl rfl (hr.mono (by decide))) (pe_cd (D_walked C) (hr.mono (by decide)) (pa_cons (pe_un (un_invO (I_Row C) (hr.mono (by decide))) (pv 11)) (pa_cons (pv 17) pa_nil))) (pe_un (un_invO (I_Row C) (hr.mono (by decide))) (pv 12)) (nomark _)))))
          (pss_one (ps_ret pe_bl))
          pss_nil)
        (pss_cons (ps_set (i := 18) S_law.nd rfl (Or.inl rfl) (pe_mk (M_Row C) (hr.mono (by decide)) (pa_cons (pv 7) (pa_cons (pe_cd (D_law_some_order C) (hr.mono (by decide)) (pa_cons (pv 1) (pa_cons (pv 4) (pa_cons (pe_cd (D_law_form C) (hr.mono (by decide)) (pa_cons (pv 4) (pa_cons (pv 8) pa_nil))) pa_nil)))) pa_nil))))
        (pss_one (ps_if (PW.pt (pw_or (pt_not (pt_val (pe_cd (D_paper_holds C) (hr.mono (by decide)) (pa_cons (pv 18) (pa_cons (pv 12) (pa_cons (pe_cd (D_paper C) (hr.mono (by decide)) (pa_cons (pv 18) (pa_cons (pv 12) pa_nil))) pa_nil)))))) (pw_or1 (pt_not (pt_val (pe_cd (D_paper_holds C) (hr.mono (by decide)) (pa_cons (pv 11) (pa_cons (pv 18) (pa_cons (pe_cd (D_paper C) (hr.mono (by decide)) (pa_cons (pv 11) (pa_cons (pv 18) pa_nil))) pa_nil)))))))))
          (pss_one (ps_ret pe_bl))
          pss_nil))))))))))))))))))))
      (pss_one (ps_ret pe_bl)))), ?_⟩
    have hzs := sizeLine_eq
    refine ⟨_, rfl, a, ns, rfl, ha, hnl, fun d c H0 e0 _ _ hD0 => ?_⟩
    refine ⟨2, rfl, by decide, by decide, ?_⟩
    refine for_range (n := 2) (fun i σ H' => ∃ v2 v3 v4 v5 v6 v7 v8 v9 v10 v11 v12 v13 v14 v15 v16 v17 v18, σ = [some (.ref a), some (.ref d), v2, v3, v4, v5, v6, v7, v8, v9, v10, v11, v12, v13, v14, v15, v16, v17, v18, none, none, none] ∧ Dl H' d c)
      ⟨none, none, none, none, none, none, none, none, none, none, none, none, none, none, none, none, none, rfl, hD0⟩ ?_ ?_
    · rintro i σ H hi ⟨v2, v3, v4, v5, v6, v7, v8, v9, v10, v11, v12, v13, v14, v15, v16, v17, v18, rfl, hD⟩
      -- kinds
      refine ⟨_, rfl, _, rfl, d, c, 7, rfl, hD, by decide, by decide, fun r7 H1 hr7 k1 hD1 => ?_⟩
      refine ⟨1, (r7 : Int), rfl, rfl, ?_⟩
      refine ⟨d, c, 1 + r7, by rw [Int.natCast_add]; rfl, hD1, by omega, fun kk H2 ks k2 hD2 hkk0 hkk2 good => ?_⟩
      have nkk : ¬ X2 d c kk := hD1.fresh hkk0
      have hkl := good.len
      -- pairs
      refine ⟨_, rfl, _, rfl, d, c, kk, ks, rfl, hD2, l_of hkk2, nkk, by omega, good.nd, fun fr H3 us ps k3 hD3 hfr0 hfr3 hps3 hpk hpl => ?_⟩
      have nfr : ¬ X2 d c fr := hD2.fresh hfr0
      have hirr : ∀ x, frP ps x x = false := fun x => by
        unfold frP
        rw [decide_eq_false (fun h => (hpk _ h).2.2 rfl)]
        rfl
      have hkk3 := k3 _ _ nkk hkk2
      -- the store
      refine ⟨_, rfl, _, rfl, _, rfl, d, c, kk, fr, ks, true, us, ps, rfl, hD3, l_of hkk3, nkk, good.nd, by omega, l_of hfr3, nfr, hps3, hirr, fun ts g S H4 k4 hD4 hts0 hg0 hts hrg hn0 hn64 => ?_⟩
      refine ⟨ts, _, rfl, t_of hts, rfl, _, _, rfl, _, _, rfl, rfl, ?_⟩
      have hkk4 := k4 _ _ nkk hkk3
      have hfr4 := k4 _ _ nfr hfr3
      have hps4 := pr_mono (fun _ _ z => PrT.nx (hD3.nx k4) z) hps3
      have fr_rg : ∀ (H' : Hp), Kx (X2 d c) H4 H' → RgsV H3 H' g ks S.n S.f := fun H' k => by
        obtain ⟨kvs, h1, h2⟩ := hrg
        exact ⟨kvs, (hD4.nx k) _ _ h1 (fun _ z => by cases z), fun x hx => by
          obtain ⟨b, i1, i2, i3⟩ := h2 x hx
          exact ⟨b, i1, i2, k _ _ (hD3.fresh i2) i3⟩⟩
      -- the table
      refine ⟨_, rfl, _, rfl, fun x dx hx hdx hne => ?_⟩
      have ex1 : Evl.Ex H4 (upd (upd H4 dx (.own x)) x (.ins (He.ga K "Table") dx [])) := Evl.Ex.upd (ex_new hdx) hx
      refine ⟨x, dx, kk, fr, ks, us, ps, rfl, upd_same .., l_of (ex1 _ _ hkk4), l_of (ex1 _ _ hfr4), pr_mono (fun _ _ z => PrT.nx (Nx.ofEx ex1) z) hps4, by omega, by omega, good.ok, good.nd, by omega, hpk, fun H5 T kT hTk hTf hTV => ⟨rfl, ?_⟩⟩
      have e45 : Evl.Ex H4 H5 := Kx.exOf (Kx.trans (Kx.ofEx ex1) kT) (fun b hb => by rw [hb]; exact hx)
      have efr : T.fr = frP ps := hTf.trans (frP_eq ps).symm
      have hTm : ∀ k, k ∈ T.kinds ↔ k ∈ ks := fun k => by rw [hTk]; exact (List.mergeSort_perm _ _).mem_iff
      have hD5 := hD4.ex e45
      obtain ⟨S', hSn, hSf⟩ : ∃ S' : Sto Str T.fr, S'.n = S.n ∧ S'.f = S.f := ⟨⟨S.n, S.f, S.lt, S.per, fun x y z h => S.com x y z (by rw [← efr]; exact h)⟩, rfl, rfl⟩
      rw [← hSn] at hn0 hn64
      have fr_rg : ∀ (H' : Hp), Kx (X2 d c) H4 H' → RgsV H3 H' g T.kinds S'.n S'.f := fun H' k => by
        rw [hSn, hSf]
        obtain ⟨kvs, h1, h2⟩ := fr_rg H' k
        exact ⟨kvs, h1, fun x hx => h2 x ((hTm x).mp hx)⟩
      -- told
      refine ⟨_, rfl, _, rfl, _, rfl, d, c, 8, rfl, hD5, by decide, by decide, fun r8 H6 hr8 k6 hD6 => ?_⟩
      have k46 : Kx (X2 d c) H4 H6 := Kx.trans (Kx.ofEx e45) k6
      refine ⟨d, c, kk, ks, r8, rfl, hD6, l_of (k46 _ _ nkk hkk4), nkk, by omega, by omega, by omega, fun tl H7 tus r k7 hD7 htl0 htl7 htus hrk hrl => ?_⟩
      have ntl : ¬ X2 d c tl := hD6.fresh htl0
      refine ⟨by show 2 ≤ sizeLine; decide, fun TT hTT => ?_⟩
      have e8 := ex_new (o := .tup [.ref x, .ref tl]) hTT
      refine ⟨TT, _, rfl, t_of (upd_same ..), rfl, _, _, rfl, _, _, rfl, rfl, ?_⟩
      obtain ⟨H8, hH8⟩ : ∃ H8, H8 = upd H7 TT (.tup [.ref x, .ref tl]) := ⟨_, rfl⟩
      rw [← hH8] at e8 ⊢
      have k48 : Kx (X2 d c) H4 H8 := Kx.trans k46 (Kx.trans k7 (Kx.ofEx e8))
      have k58 : Kx (X2 d c) H5 H8 := Kx.trans k6 (Kx.trans k7 (Kx.ofEx e8))
      have hD8 := hD7.ex e8
      have hT8 : TabV K H8 (.ref x) T := hTV.nx (hD5.nx k58)
      have hkk8 := k48 _ _ nkk hkk4
      have hfr8 := k48 _ _ nfr hfr4
      have hps8 := pr_mono (fun _ _ z => PrT.nx (hD4.nx k48) z) hps4
      have htl8 := e8 _ _ htl7
      have htus8 := sys_ex e8 htus
      have kinr : Kin T r := fun y hy => (hTm _).mpr (hrk y hy)
      -- bent rows
      try dsimp only [List.set_cons_succ, List.set_cons_zero] -- FLAT
      refine ⟨_, rfl, by show 1 ≤ sizeLine; decide, fun L1 hL1 => ?_⟩
      have e9 := ex_new (o := .lst [.ref tl]) hL1
      have nL1 : ¬ X2 d c L1 := hD8.fresh hL1
      obtain ⟨H9, hH9⟩ : ∃ H9, H9 = upd H8 L1 (.lst [.ref tl]) := ⟨_, rfl⟩
      have hL19 : H9 L1 = some (.lst [.ref tl]) := by rw [hH9]; exact upd_same ..
      rw [← hH9] at e9 ⊢
      have hD9 := hD8.ex e9
      refine ⟨2, rfl, by decide, by decide, fun D hDn => ?_⟩
      have nD : ¬ X2 d c D := hD9.fresh hDn
      refine lcG_range (n := 2) (fun n H' => ∃ bl rows, H' D = some (.lst bl) ∧ Kx (X2 d c) H9 H' ∧ Dl H' d c ∧ Paired (BenR K H9 D H' (frP ps) ks r) bl rows ∧ rows.length = n) ⟨[], [], upd_same .., Kx.ofEx (ex_new hDn), hD9.ex (ex_new hDn), .nil, rfl⟩ ?_ ?_
      · rintro n H10 hn ⟨bl, rows, hD10, k10, hDl10, hbl, hrl2⟩
        have k8_10 : Kx (X2 d c) H8 H10 := Kx.trans (Kx.ofEx e9) k10
        refine ⟨rfl, _, rfl, _, rfl, _, rfl, _, rfl, _, rfl, d, c, 9, rfl, hDl10, by decide, by decide, fun r9 H11 hr9 k11 hD11 => ?_⟩
        have k8_11 := Kx.trans k8_10 k11
        refine ⟨d, c, kk, fr, tl, ks, true, us, ps, tus, r, r9, rfl, hD11, l_of (k8_11 _ _ nkk hkk8), nkk, by omega, by omega, l_of (k8_11 _ _ nfr hfr8), nfr, pr_mono (fun _ _ z => PrT.nx (hD8.nx k8_11) z) hps8, l_of (k8_11 _ _ ntl htl8), sys_nx (hD8.nx k8_11) htus8, hrk, by omega, by omega, fun l H12 ws s1 k12 hD12 hl0 hl12 hws hal hsl hsk => ?_⟩
        have k10_12 := Kx.trans k11 k12
        have hDD := k10_12 _ _ nD hD10
        have hbll := pr_len hbl
        have hl10 : H10 l = none := k11.free (hD11.fresh hl0) hl0
        have hl9 : H9 l = none := k10.free (hDl10.fresh hl10) hl10
        have hlD : l ≠ D := fun z => by rw [z, hD10] at hl10; cases hl10
        have nx : Nx H10 (upd H12 D (.lst (bl ++ [.ref l]))) := Nx.upd (hDl10.nx k10_12) (.inr ⟨_, hD10⟩)
        have nx12 : Nx H12 (upd H12 D (.lst (bl ++ [.ref l]))) := Nx.upd (Nx.refl _) (.inr ⟨_, hDD⟩)
        refine ⟨bl, hDD, by omega, bl ++ [.ref l], rows ++ [s1], upd_same .., (Kx.trans k10 k10_12).to (.inr hDn), hD12.to nD, pr_app (pr_mono (fun v s z => ?_) hbl) (.cons ⟨l, ws, rfl, hl9, hlD, by rw [upd_ne hlD]; exact hl12, sys_nx nx12 hws, hal, by omega, hsk⟩ .nil), by simp; omega⟩
        obtain ⟨a', us', h1, h2, h3, h4, h5, h6, h7, h8⟩ := z
        exact ⟨a', us', h1, h2, h3, by rw [upd_ne h3]; exact k10_12 _ _ (hD9.fresh h2) h4, sys_nx nx h5, h6, h7, h8⟩
      · rintro H10 ⟨bl, rows, hD10, k10, hDl10, hbl, hrl2⟩
        have k8_10 : Kx (X2 d c) H8 H10 := Kx.trans (Kx.ofEx e9) k10
        obtain ⟨s1, s2, rfl⟩ : ∃ s1 s2, rows = [s1, s2] := by
          match rows, hrl2 with
          | [s1, s2], _ => exact ⟨s1, s2, rfl⟩
        cases hbl with
        | cons hb1 hbl =>
        cases hbl with
        | cons hb2 hbl =>
        cases hbl
        rename_i w1 w2
        refine ⟨L1, D, _, _, rfl, rfl, k10 _ _ nL1 hL19, hD10, by show 1 + 2 ≤ _; omega, fun L2 hL2 => ?_⟩
        have e11 := ex_new (o := .lst ([.ref tl] ++ [w1, w2])) hL2
        have hL2e : upd H10 L2 (.lst ([.ref tl] ++ [w1, w2])) L2 = some (.lst ([.ref tl] ++ [w1, w2])) := upd_same ..
        obtain ⟨H11, hH11⟩ : ∃ H11, H11 = upd H10 L2 (.lst ([.ref tl] ++ [w1, w2])) := ⟨_, rfl⟩
        rw [← hH11] at e11 hL2e ⊢
        have k8_11 : Kx (X2 d c) H8 H11 := Kx.trans k8_10 (Kx.ofEx e11)
        have hD11 := hDl10.ex e11
        have nx811 := hD8.nx k8_11
        have hT11 := hT8.nx nx811
        have lst3 : Paired (RwL K H11 T) [.ref tl, w1, w2] [r, s1, s2] := by
          have cv : ∀ {v s}, BenR K H9 D H10 (frP ps) ks r v s → RwL K H11 T v s := fun {v s} z => by
            obtain ⟨a', us', h1, h2, h3, h4, h5, h6, h7, h8⟩ := z
            exact ⟨a', us', h1, e11 _ _ h4, sys_ex e11 h5, fun y hy => (hTm _).mpr (h8 y hy), by omega⟩
          exact .cons ⟨tl, tus, rfl, k8_11 _ _ ntl htl8, sys_nx nx811 htus8, kinr, by omega⟩ (.cons (cv hb1) (.cons (cv hb2) .nil))
        obtain ⟨_, _, _, _, _, _, _, al1, len1, kin1⟩ := hb1
        obtain ⟨_, _, _, _, _, _, _, al2, len2, kin2⟩ := hb2
        rw [← efr] at al1 al2
        have kins1 : Kin T s1 := fun y hy => (hTm _).mpr (kin1 y hy)
        have kins2 : Kin T s2 := fun y hy => (hTm _).mpr (kin2 y hy)
        have al12 : Al T.fr s1 s2 := .trans (.symm al1) al2
        have lr : r.length ≤ 40 := by omega
        have l1 : s1.length ≤ 40 := by omega
        have l2 : s2.length ≤ 40 := by omega
        -- the rows
        try dsimp only [List.set_cons_succ, List.set_cons_zero] -- FLAT
        refine ⟨_, rfl, true, L2, _, rfl, l_of hL2e, fun D3 hD3 => ?_⟩
        refine lcG (b := true) (xs := [.ref tl, w1, w2]) (fun n H' => ∃ acc, Evl.Ex H11 H' ∧ H' D3 = some (.lst acc) ∧ Paired (fun v s => RowV K H' v T s) acc ([r, s1, s2].take n)) ⟨[], ex_new hD3, upd_same .., .nil⟩ (fun n H' _ ⟨_, e, _⟩ => l_of (e _ _ hL2e)) ?_ ?_
        · rintro n v H12 hv ⟨acc, e12, hD12, hacc⟩
          obtain ⟨y, hy, a', us', rfl, h1, h2, h3, h4⟩ := pr_get' lst3 hv
          have etk : [r, s1, s2].take (n + 1) = [r, s1, s2].take n ++ [y] := by rw [List.take_add_one, hy]; rfl
          have hn3 : n < 3 := (List.getElem?_eq_some_iff.mp hy).1
          have hal := pr_len hacc
          rw [List.length_take] at hal
          refine ⟨rfl, _, rfl, _, rfl, ?_⟩
          refine fun pr qr hpr hqr hner => mkRow' (b := true) hpr hqr hner (hT11.nx (Nx.ofEx e12)) (l_of (e12 _ _ h1)) (sys_ex e12 h2) h3 (by omega) fun H13 e13 hrv => ⟨rfl, ?_⟩
          have nx : Nx H13 (upd H13 D3 (.lst (acc ++ [.ref pr]))) := Nx.upd (Nx.refl _) (.inr ⟨_, e13 _ _ hD12⟩)
          refine ⟨acc, e13 _ _ hD12, by omega, acc ++ [.ref pr], Evl.Ex.upd (Evl.Ex.trans e12 e13) hD3, upd_same .., ?_⟩
          rw [etk]
          exact pr_app (pr_mono (fun _ _ z => (z.nx (Nx.ofEx e13)).nx nx) hacc) (.cons (hrv.nx nx) .nil)
        · rintro H12 ⟨acc, e12, hD12, hacc⟩
          have hacc : Paired (fun v s => RowV K H12 v T s) acc [r, s1, s2] := hacc
          cases hacc with
          | cons hv1 hacc =>
          cases hacc with
          | cons hv2 hacc =>
          cases hacc with
          | cons hv3 hacc =>
          cases hacc
          rename_i v1 v2' v3'
          refine ⟨D3, _, rfl, l_of hD12, rfl, _, _, rfl, _, _, rfl, _, _, rfl, rfl, ?_⟩
          have k8_12 : Kx (X2 d c) H8 H12 := Kx.trans k8_11 (Kx.ofEx e12)
          have hD12l := hD11.ex e12
          have nx812 := hD8.nx k8_12
          have LA : LS K H12 d c kk fr tl (.ref x) v1 v2' v3' ks us ps T r s1 s2 := ⟨hD12l, k8_12 _ _ nkk hkk8, k8_12 _ _ nfr hfr8, pr_mono (fun _ _ z => PrT.nx nx812 z) hps8, ⟨tus, k8_12 _ _ ntl htl8, sys_nx nx812 htus8⟩, hT8.nx nx812, hv1, hv2, hv3⟩
          have hrg12 : RgsV H3 H12 g T.kinds S'.n S'.f := fr_rg H12 (Kx.trans k48 k8_12)
          -- where told leads
          try dsimp only [List.set_cons_succ, List.set_cons_zero] -- FLAT
          have em : (if (16 : Int) < ((S.n : Nat) : Int) then (16 : Int) else ((S.n : Nat) : Int)) = ((min S'.n 16 : Nat) : Int) := by
            rw [hSn]
            split <;> omega
          refine ⟨_, rfl, ((S.n : Nat) : Int), 16, rfl, _, rfl, ?_⟩
          rw [em]
          refine ⟨by omega, by omega, fun D4 hD4 => ?_⟩
          rw [Int.toNat_natCast]
          refine lcG_range (n := min S'.n 16) (fun j H' => Evl.Ex H12 H' ∧ H' D4 = some (.lst ((li ((List.range j).map (S'.led r))).map V.int))) ⟨ex_new hD4, upd_same ..⟩ ?_ ?_
          · rintro j H13 hj ⟨e13, hD13⟩
            have ej : (0 : Int) + (j : Nat) = ((j : Nat) : Int) := by omega
            rw [ej]
            obtain ⟨tus', ht1, ht2⟩ := (LA.ex e13).tl
            refine ⟨rfl, _, rfl, _, rfl, _, rfl, H3, g, tl, true, tus', r, j, T.fr, S', T.kinds, rfl, rgs_ex e13 hrg12, l_of ht1, ht2, kinr, by omega, hn64, fun H14 e14 => ?_⟩
            refine ⟨_, e14 _ _ hD13, by unfold li; rw [List.length_map, List.length_map, List.length_map, List.length_range]; omega, Evl.Ex.upd (Evl.Ex.trans e13 e14) hD4, ?_⟩
            rw [upd_same, List.range_succ]
            unfold li
            rw [List.map_append, List.map_append, List.map_append]
            rfl
          · rintro H13 ⟨e13, hD13⟩
            have LB := LA.ex e13
            have hrg13 := rgs_ex e13 hrg12
            -- two papers
            try dsimp only [List.set_cons_succ, List.set_cons_zero] -- FLAT
            refine ⟨_, rfl, _, rfl, ?_⟩
            try dsimp only [tNil]
            refine mkPap LB.r1 LB.r2 kinr kins1 lr l1 al1 fun f1 H14 ss1 e14 hs1 hf1 => ?_
            have LC := LB.ex e14
            refine ⟨_, rfl, _, rfl, ?_⟩
            try dsimp only [tNil]
            refine mkPap LC.r2 LC.r3 kins1 kins2 l1 l2 al12 fun f2 H15 ss2 e15 hs2 hf2 => ?_
            have LD := LC.ex e15
            have hf1 := hf1.nx (Nx.ofEx e15)
            refine ⟨_, _, rfl, ?_⟩
            -- one behind the other
            try dsimp only [List.set_cons_succ, List.set_cons_zero] -- FLAT
            refine ⟨_, rfl, _, rfl, _, rfl, _, rfl, mkCat hf1 hf2 (by omega) fun z1 H16 e16 hz1 => ?_⟩
            have LE := LD.ex e16
            try dsimp only [tNil]
            refine mkHolds LE.r1 LE.r3 hz1 kinr (by rw [List.length_append]; omega) fun H17 e17 => ⟨true, rfl, iteF ?_⟩
            have LF := LE.ex e17
            have hf1 := hf1.nx (Nx.ofEx (Evl.Ex.trans e16 e17))
            have hf2 := hf2.nx (Nx.ofEx (Evl.Ex.trans e16 e17))
            -- round
            try dsimp only [List.set_cons_succ, List.set_cons_zero] -- FLAT
            refine ⟨_, rfl, _, rfl, _, rfl, _, rfl, ?_⟩
            try dsimp only [tNil]
            refine mkPap LF.r3 LF.r1 kins2 kinr l2 lr (.symm al2) fun f3 H18 ss3 e18 hs3 hf3 => ?_
            have LG := LF.ex e18
            have hf1 := hf1.nx (Nx.ofEx e18)
            have hf2 := hf2.nx (Nx.ofEx e18)
            refine ⟨_, rfl, mkCat hf3 hf1 (by omega) fun z2 H19 e19 hz2 => ?_⟩
            refine ⟨_, rfl, mkCat hz2 (hf2.nx (Nx.ofEx e19)) (by rw [List.length_append]; omega) fun z3 H20 e20 hz3 => ?_⟩
            have LH := LG.ex (Evl.Ex.trans e19 e20)
            try dsimp only [tNil]
            refine mkHolds LH.r3 LH.r3 hz3 kins2 (by rw [List.length_append, List.length_append]; omega) fun H21 e21 => ⟨true, rfl, iteF ?_⟩
            have LI := LH.ex e21
            have e1921 := Evl.Ex.trans e19 (Evl.Ex.trans e20 e21)
            have hf1 := hf1.nx (Nx.ofEx e1921)
            have e1321 : Evl.Ex H13 H21 := Evl.Ex.trans e14 (Evl.Ex.trans e15 (Evl.Ex.trans e16 (Evl.Ex.trans e17 (Evl.Ex.trans e18 e1921))))
            -- the way
            try dsimp only [List.set_cons_succ, List.set_cons_zero] -- FLAT
            have hvk := verF_len kinr
            refine ⟨_, rfl, _, rfl, rfl, _, rfl, _, v1, T, r, rfl, LI.r1, kinr, by omega, by omega, fun pV H22 e22 hpV hver => ?_⟩
            have LJ := LI.ex e22
            have hf1 := hf1.nx (Nx.ofEx e22)
            have e1322 := Evl.Ex.trans e1321 e22
            obtain ⟨p1, z1', ep1, g1, g2, g3⟩ := id hf1
            subst ep1
            refine ⟨_, rfl, _, rfl, ?_⟩
            refine ⟨H3, v1, .ref pV, p1, g, D4, z1', T, r, s1, ss1, S', min S'.n 16, rfl, LJ.r1, kinr, g1, g2, g3, by omega, hver, by omega, rgs_ex e1322 hrg13, hn64, Nat.min_le_left _ _, l_of (e1322 _ _ hD13), fun k hk => good.ok k ((hTm k).mp hk), fun H23 e23 => ⟨true, rfl, iteF ?_⟩⟩
            have LK := LJ.ex e23
            have hf1 := hf1.nx (Nx.ofEx e23)
            -- more
            try dsimp only [List.set_cons_succ, List.set_cons_zero] -- FLAT
            refine ⟨_, rfl, _, rfl, _, rfl, _, rfl, d, c, 3, rfl, LK.dl, by decide, by decide, fun r3 H24 hr3 k24 hD24 => ?_⟩
            have LL := LK.kx k24 hD24 nkk nfr ntl
            have hf1 := hf1.nx (LK.dl.nx k24)
            refine ⟨1, (r3 : Int), rfl, rfl, ?_⟩
            refine ⟨d, c, kk, ks, 1 + r3, by rw [Int.natCast_add]; rfl, hD24, l_of LL.kk, nkk, by omega, by omega, by omega, fun ml H25 mus m k25 hD25 hml0 hml hmus hmk hmlen => ?_⟩
            have LM := LL.kx k25 hD25 nkk nfr ntl
            have hf1 := hf1.nx (LL.dl.nx k25)
            have kinm : Kin T m := fun y hy => (hTm _).mpr (hmk y hy)
            refine fun vm qm hpm hqm hnem => mkRow' (b := true) hpm hqm hnem LM.tb (l_of hml) hmus kinm (by omega) fun H26 e26 hvm => ⟨rfl, ?_⟩
            have LN := LM.ex e26
            have hf1 := hf1.nx (Nx.ofEx e26)
            -- a row behind
            try dsimp only [List.set_cons_succ, List.set_cons_zero] -- FLAT
            refine ⟨_, rfl, _, rfl, mkAdd LN.r1 hvm kinr kinm (by omega) fun a1 H27 e27 ha1 => ?_⟩
            have LO := LN.ex e27
            refine ⟨_, rfl, _, rfl, mkAdd LO.r2 (hvm.nx (Nx.ofEx e27)) kins1 kinm (by omega) fun a2 H28 e28 ha2 => ?_⟩
            have e2728 := Evl.Ex.trans e27 e28
            refine ⟨_, rfl, ?_⟩
            have hf1 := hf1.nx (Nx.ofEx e2728)
            have hsuf : PapV K H28 (.ref p1) T ss1 (r ++ m) (s1 ++ m) := by
              obtain ⟨p', zs', e', h1, h2, h3⟩ := hf1
              exact ⟨p', zs', e', h1, h2, h3.suffix m⟩
            try dsimp only [tNil]
            refine mkHolds (ha1.nx (Nx.ofEx e28)) ha2 hsuf (kin_app kinr kinm) (by rw [List.length_append]; omega) fun H29 e29 => ⟨true, rfl, iteF ?_⟩
            have LP := LO.ex (Evl.Ex.trans e28 e29)
            have hvm := hvm.nx (Nx.ofEx (Evl.Ex.trans e2728 e29))
            have hf1 := hf1.nx (Nx.ofEx e29)
            -- a row ahead
            try dsimp only [List.set_cons_succ, List.set_cons_zero] -- FLAT
            refine ⟨_, rfl, _, rfl, mkAdd hvm LP.r1 kinm kinr (by omega) fun a3 H30 e30 ha3 => ?_⟩
            have LQ := LP.ex e30
            refine ⟨_, rfl, _, rfl, mkAdd (hvm.nx (Nx.ofEx e30)) LQ.r2 kinm kins1 (by omega) fun a4 H31 e31 ha4 => ?_⟩
            have LR := LQ.ex e31
            have hf1 := hf1.nx (Nx.ofEx (Evl.Ex.trans e30 e31))
            obtain ⟨am, dxm, tm, pm, eam, ham, _⟩ := id (hvm.nx (Nx.ofEx (Evl.Ex.trans e30 e31)))
            cases eam
            refine ⟨_, rfl, _, rfl, vm, dxm, _, rfl, ham, .ref vm, T, m, rfl, hvm.nx (Nx.ofEx (Evl.Ex.trans e30 e31)), m.length, rfl, by omega, ?_⟩
            obtain ⟨p1', z1'', ep1, g1, g2, g3⟩ := id hf1
            cases ep1
            refine ⟨p1, z1'', ss1, m.length, rfl, g1, g2, by omega, fun q5 H32 zs5 e32 _ hq5 hz5 => ?_⟩
            have LT := LR.ex e32
            have hpre : PapV K H32 (.ref q5) T (ss1.map (Stp.shift m.length)) (m ++ r) (m ++ s1) := ⟨q5, zs5, rfl, hq5, hz5, g3.pref m⟩
            try dsimp only [tNil]
            refine mkHolds (ha3.nx (Nx.ofEx (Evl.Ex.trans e31 e32))) (ha4.nx (Nx.ofEx e32)) hpre (kin_app kinm kinr) (by rw [List.length_append, List.length_map]; omega) fun H33 e33 => ⟨true, rfl, iteF ?_⟩
            have LU := LT.ex e33
            -- undone rows
            try dsimp only [List.set_cons_succ, List.set_cons_zero] -- FLAT
            have alu := Al.und T.sym al12
            refine ⟨_, rfl, mkInv LU.r2 kins1 (by omega) fun u2 H34 e34 hu2 => ?_⟩
            have LV := LU.ex e34
            refine ⟨_, rfl, mkInv LV.r3 kins2 (by omega) fun u3 H35 e35 hu3 => ?_⟩
            have LW := LV.ex e35
            try dsimp only [tNil]
            refine mkPap (hu2.nx (Nx.ofEx e35)) hu3 (kin_und kins1) (kin_und kins2) (by rw [len_und]; exact l1) (by rw [len_und]; exact l2) alu fun pt H36 ss4 e36 hs4 hpt => ?_
            have LX := LW.ex e36
            obtain ⟨ptA, ptz, ept, _⟩ := id hpt
            subst ept
            refine ⟨_, rfl, rfl, _, rfl, iteF ?_⟩
            refine ⟨_, rfl, mkInv LX.r2 kins1 (by omega) fun u4 H37 e37 hu4 => ?_⟩
            have LY := LX.ex e37
            refine ⟨_, rfl, ?_⟩
            try dsimp only [tNil]
            refine mkWalk hu4 (hpt.nx (Nx.ofEx e37)) (kin_und kins1) (by rw [len_und]; omega) fun w5 H38 e38 hw5 => ?_
            have LZ := LY.ex e38
            refine ⟨_, rfl, mkInv LZ.r3 kins2 (by omega) fun u6 H39 e39 hu6 => ?_⟩
            refine ⟨drow (hw5.nx (Nx.ofEx e39)) hu6, fun H40 e40 => ⟨_, rfl, iteF ?_⟩⟩
            have LA := LZ.ex (Evl.Ex.trans e39 e40)
            -- an order of the version
            try dsimp only [List.set_cons_succ, List.set_cons_zero] -- FLAT
            obtain ⟨tus6, ht61, ht62⟩ := LA.tl
            refine ⟨_, rfl, _, rfl, _, rfl, _, rfl, _, rfl, true, fr, us, ps, tl, tus6, r, rfl, l_of LA.frl, LA.prs, l_of ht61, ht62, by omega, fun ft H41 fws f e41 _ hft hfws halF hfl hfk => ?_⟩
            have LB := LA.ex e41
            refine ⟨d, c, true, fr, us, ps, ft, fws, f, rfl, LB.dl, l_of LB.frl, LB.prs, t_of hft, hfws, by omega, fun ol H42 ows o k42 hD42 hol0 hol hows hsw => ?_⟩
            have LC := LB.kx k42 hD42 nkk nfr ntl
            have alo : Al T.fr r o := by
              rw [efr]
              exact .trans halF hsw.al
            have kino : Kin T o := fun y hy => by
              obtain ⟨z, hz, ez⟩ := hfk y (hsw.perm.mem_iff.mpr hy)
              rw [← ez]
              exact kinr z hz
            have lo : o.length ≤ 40 := by
              have := hsw.len
              omega
            refine fun vo qo hpo hqo hneo => mkRow' (b := true) hpo hqo hneo LC.tb (l_of hol) hows kino (by omega) fun H43 e43 hvo => ⟨rfl, ?_⟩
            have LD := LC.ex e43
            have alo2 : Al T.fr o s2 := .trans (.symm alo) al2
            have alo1 : Al T.fr s1 o := .trans (.symm al1) alo
            refine ⟨_, rfl, _, rfl, _, rfl, _, rfl, ?_⟩
            try dsimp only [tNil]
            refine mkPap hvo LD.r3 kino kins2 lo l2 alo2 fun p7 H44 ss7 e44 hs7 hp7 => ?_
            have LE := LD.ex e44
            try dsimp only [tNil]
            refine mkHolds (hvo.nx (Nx.ofEx e44)) LE.r3 hp7 kino (by omega) fun H45 e45 => ⟨true, rfl, iteF ?_⟩
            have LF := LE.ex e45
            have hvo := hvo.nx (Nx.ofEx (Evl.Ex.trans e44 e45))
            refine ⟨_, rfl, _, rfl, _, rfl, _, rfl, ?_⟩
            try dsimp only [tNil]
            refine mkPap LF.r2 hvo kins1 kino l1 lo alo1 fun p8 H46 ss8 e46 hs8 hp8 => ?_
            have LG := LF.ex e46
            try dsimp only [tNil]
            refine mkHolds LG.r2 (hvo.nx (Nx.ofEx e46)) hp8 kins1 (by omega) fun H47 e47 => ⟨true, rfl, iteF ?_⟩
            exact ⟨_, _, _, _, _, _, _, _, _, _, _, _, _, _, _, _, _, rfl, (LG.ex e47).dl⟩
    · rintro σ H' ⟨v2, v3, v4, v5, v6, v7, v8, v9, v10, v11, v12, v13, v14, v15, v16, v17, v18, rfl, hD⟩
      exact q H'
end
end K91
/-! Z -/
namespace K91
open PySem PySem.Spec PyProof.Rows L2
theorem nsIn_of {K : PySem.W.Frag} {h : Heap} {mg : Str → Option Value} {n m : Str} {u v : Value} (X : K.In h) (G : h.Ns mainGlobals mg) (e0 : PySem.W.nsIn K mainGlobals m = some (some u)) (e : mg n = some v) : PySem.W.nsIn K mainGlobals n = some (some v) := by
  obtain ⟨o, es, ep, ho, hd, _, hf⟩ := G
  unfold PySem.W.nsIn at e0
  split at e0
  · rename_i c d es' n' sl q
    have hx := X _ _ q
    rw [ho] at hx
    cases hx
    cases hd
    rw [← hf] at e
    unfold nsFind findBy at e
    rw [← Array.find?_toList] at e
    unfold PySem.W.nsIn
    rw [q]
    simp only
    split
    · rename_i en he
      rw [he] at e
      have e' : some en.val = some v := e
      rw [e']
    · rename_i he
      rw [he] at e
      cases e
  · cases e0
theorem ga_law {w : World} {K : PySem.W.Frag} {mg : Str → Option Value} {base : Heap} (C : Fx w K mg base) {fa : Addr} (h : mg "law" = some (.ref fa)) : a_law K = fa := by
  have e0 := He.eqO_ok (show He.eqO (PySem.W.nsIn K mainGlobals "depths") (some (some (.ref (He.ga K "depths")))) = true from C.a.fact 0 rfl)
  have e1 := nsIn_of C.x C.g e0 h
  show He.ga K "law" = fa
  unfold He.ga
  rw [e1]
theorem facts {P : Program} {w : World} {K : PySem.W.Frag} {h : Heap} {mg : Str → Option Value} {f : Addr} (X : K.In h) (G : h.Ns mainGlobals mg) (hfa : mg "law" = some (.ref f)) (c : obsK K = valK w) :
    ∃ fd : FuncData, (∀ (s : Shared) (v : Value), BindsTo s fd ⟨[v], []⟩ [("_law_script", v)]) ∧ ∀ base : Heap, K.In base → base.Ns mainGlobals mg → FnOk P w K mg base CX0 12 f fd ["_law_script"] (spLaw K) := by
  have C : Fx w K mg h := ⟨X, G, c⟩
  have e := ga_law C hfa
  subst e
  have b := FunD.bindsA (ps := ["_law_script"]) (C.fd 72) fun _ _ _ _ _ _ us hl => match us, hl with | [_], _ => rfl
  exact ⟨fdA K (a_law K), fun s v => b s [v] rfl, fun base Xb Gb => ok_law ⟨Xb, Gb, c⟩⟩
end K91
open PySem PySem.W PySem.Calls PyProof.Rows
theorem PySem.Challenge.cw_undoamid_k91_whole_papers_put_together_holds : PySem.Challenge.rw_undoamid_k91_whole_papers_put_together.Holds := by
  w_on; o_law
  refine HandSHeadRun.head_any (r := OpenLaw.row PySem.Challenge.rw_undoamid_k91_whole_papers_put_together) (q := view (OpenLaw.row PySem.Challenge.rw_undoamid_k91_whole_papers_put_together).prog [91]) (H := K91.hookK) (ob := K91.obK) (M := 7600) (loose := K91.names) (d := HandSHeadRun.topDef (OpenLaw.row PySem.Challenge.rw_undoamid_k91_whole_papers_put_together).prog 91) (kwd := []) K91.obK_eq
    (by kernel_rfl) (fun s => by kernel_rfl) K91.run (by kernel_rfl) (by kernel_rfl) (by kernel_rfl) (by rfl) (by first | assumption | decide +kernel) (by decide +kernel) ⟨rfl, rfl, rfl, rfl, rfl, by decide +kernel⟩ ?hw ?hc
  case hw => w_witness2
  case hc =>
    refine L2.walk_ofE (l := PySem.Challenge.rw_undoamid_k91_whole_papers_put_together) (n := 63) (k := 12) (x := "_law_script") (CX := L2.CX0) rfl (by decide) (by kernel_rfl) ⟨rfl, by decide, by decide⟩ ?F (fun _ _ _ _ z => z)
    intro w mg fa h Y G hmg0
    obtain ⟨K, KX, c⟩ := Y
    have hmg : mg ("law" : PySem.Str) = some (.ref fa) := by
      have e : (HandSHeadRun.topDef (OpenLaw.row PySem.Challenge.rw_undoamid_k91_whole_papers_put_together).prog 91).name = ("law" : PySem.Str) := by kernel_rfl
      rw [← e]
      exact hmg0
    obtain ⟨fd, hb, hF⟩ := K91.facts (P := (PySem.Challenge.rw_undoamid_k91_whole_papers_put_together).prog) (w := w) KX G hmg c
    exact ⟨K, fd, K91.spLaw K, KX, hb, fun H a ns hl _ hS => ⟨a, ns, rfl, hS, by omega, fun _ => rfl⟩, hF⟩
