import PyProof.Rows.All
import Wide.All
import OpenK.AllK
import Wide.FinOn
import KE.KStateDown
import KE.KSuper
import Lean
import HandS.Base
import HandS.Call
import HandS.Ends
import HandS.More
import HandS.Words
import HandS.WordsExc
import HandS.Defaults
import HandS.Head0
import HandS.Head1
import HandS.Head2
import HandS.HeadEnd
import HandS.HeadHook1
import HandS.HeadHook2
import HandS.HeadHook3
import HandS.HeadHook4
import PySem.Challenge.RW_patience_k15_whole_renamed_and_later_par
import HandS.TupAny
import KE.KRevSl
import HandS.MakeKwOnly
import HandS.Conv
import HandS.FStr
import HandS.Text
import HandS.NoneIn
import KE.KParD
import PyProof.FactsAll.bool_1
import HandS.SetBool
import HandS.SetKeys
import KE.SortData
import HandS.Wide
import HandS.IsInst
import HandS.Flow
import PyProof.P3Eq
import HandS.ForMost
import HandS.Evl
import HandS.Codes
import HandS.DictComp
import HandS.Zip
import HandS.Steps
import KE.KUnpackStar
import KE.GoesEnum
import HandS.Star
import HandS.Style
import KE.KxField
import KE.GoesZip
set_option Elab.async false
set_option linter.all false
set_option maxRecDepth 100000
set_option maxHeartbeats 0
namespace Pa
open PySem PySem.Spec PyProof.Rows L2
def topS (i : Nat) : Stmt := PySem.Challenge.pw_patience_k15_whole_renamed_and_later_par.main.body.getD i (.Pass ⟨0, 0, 0, 0⟩)

def d_is_integer : He.DefD := ⟨("is_integer", none), "is_integer", "is_integer", defArgs (topS 13), defBody (topS 13), defScope (topS 13), [], []⟩
def d_is_number : He.DefD := ⟨("is_number", none), "is_number", "is_number", defArgs (topS 14), defBody (topS 14), defScope (topS 14), [], []⟩
def d_is_name : He.DefD := ⟨("is_name", none), "is_name", "is_name", defArgs (topS 15), defBody (topS 15), defScope (topS 15), [], []⟩
def d_is_tuple_of : He.DefD := ⟨("is_tuple_of", none), "is_tuple_of", "is_tuple_of", defArgs (topS 16), defBody (topS 16), defScope (topS 16), [], []⟩
def d_are_names : He.DefD := ⟨("are_names", none), "are_names", "are_names", defArgs (topS 17), defBody (topS 17), defScope (topS 17), [], []⟩
def d_is_ascending : He.DefD := ⟨("is_ascending", none), "is_ascending", "is_ascending", defArgs (topS 18), defBody (topS 18), defScope (topS 18), [], []⟩
def d_is_people : He.DefD := ⟨("is_people", none), "is_people", "is_people", defArgs (topS 19), defBody (topS 19), defScope (topS 19), [], []⟩
def d_window_limits : He.DefD := ⟨("window_limits", none), "window_limits", "window_limits", defArgs (topS 21), defBody (topS 21), defScope (topS 21), [], []⟩
def d_tie_limits : He.DefD := ⟨("tie_limits", none), "tie_limits", "tie_limits", defArgs (topS 22), defBody (topS 22), defScope (topS 22), [], []⟩
def d_shortest : He.DefD := ⟨("shortest", none), "shortest", "shortest", defArgs (topS 23), defBody (topS 23), defScope (topS 23), [], []⟩
def d_tightest : He.DefD := ⟨("tightest", none), "tightest", "tightest", defArgs (topS 24), defBody (topS 24), defScope (topS 24), [.adr (He.dflAt ("tightest", none) 0)], []⟩
def d_require : He.DefD := ⟨("require", none), "require", "require", defArgs (topS 27), defBody (topS 27), defScope (topS 27), [], []⟩
def d_is_row : He.DefD := ⟨("is_row", none), "is_row", "is_row", defArgs (topS 28), defBody (topS 28), defScope (topS 28), [], []⟩
def d_is_tie : He.DefD := ⟨("is_tie", none), "is_tie", "is_tie", defArgs (topS 29), defBody (topS 29), defScope (topS 29), [], []⟩
def d_are_waits : He.DefD := ⟨("are_waits", none), "are_waits", "are_waits", defArgs (topS 30), defBody (topS 30), defScope (topS 30), [], []⟩
def d_check_rows : He.DefD := ⟨("check_rows", none), "check_rows", "check_rows", defArgs (topS 31), defBody (topS 31), defScope (topS 31), [], []⟩
def d_check_ties : He.DefD := ⟨("check_ties", none), "check_ties", "check_ties", defArgs (topS 32), defBody (topS 32), defScope (topS 32), [], []⟩
def d_lets_party : He.DefD := ⟨("lets_party", none), "lets_party", "lets_party", defArgs (topS 33), defBody (topS 33), defScope (topS 33), [], []⟩
def d_lets_case : He.DefD := ⟨("lets_case", none), "lets_case", "lets_case", defArgs (topS 34), defBody (topS 34), defScope (topS 34), [], []⟩
def d_people_of : He.DefD := ⟨("people_of", none), "people_of", "people_of", defArgs (topS 36), defBody (topS 36), defScope (topS 36), [], []⟩
def d_fresh_names : He.DefD := ⟨("fresh_names", none), "fresh_names", "fresh_names", defArgs (topS 38), defBody (topS 38), defScope (topS 38), [], []⟩
def d_renamed_row : He.DefD := ⟨("renamed_row", none), "renamed_row", "renamed_row", defArgs (topS 39), defBody (topS 39), defScope (topS 39), [], []⟩
def d_renamed_tie : He.DefD := ⟨("renamed_tie", none), "renamed_tie", "renamed_tie", defArgs (topS 40), defBody (topS 40), defScope (topS 40), [], []⟩
def d_renamed : He.DefD := ⟨("renamed", none), "renamed", "renamed", defArgs (topS 41), defBody (topS 41), defScope (topS 41), [], []⟩
def d_later_row : He.DefD := ⟨("later_row", none), "later_row", "later_row", defArgs (topS 42), defBody (topS 42), defScope (topS 42), [], []⟩
def d_later : He.DefD := ⟨("later", none), "later", "later", defArgs (topS 43), defBody (topS 43), defScope (topS 43), [], []⟩
def d_number_or_none : He.DefD := ⟨("number_or_none", none), "number_or_none", "number_or_none", defArgs (topS 48), defBody (topS 48), defScope (topS 48), [], []⟩
def d_integer_or_none : He.DefD := ⟨("integer_or_none", none), "integer_or_none", "integer_or_none", defArgs (topS 49), defBody (topS 49), defScope (topS 49), [], []⟩
def d_minutes_or_none : He.DefD := ⟨("minutes_or_none", none), "minutes_or_none", "minutes_or_none", defArgs (topS 50), defBody (topS 50), defScope (topS 50), [], []⟩
def d_name_or_none : He.DefD := ⟨("name_or_none", none), "name_or_none", "name_or_none", defArgs (topS 51), defBody (topS 51), defScope (topS 51), [], []⟩
def d_people_or_none : He.DefD := ⟨("people_or_none", none), "people_or_none", "people_or_none", defArgs (topS 52), defBody (topS 52), defScope (topS 52), [], []⟩
def d_people_word : He.DefD := ⟨("people_word", none), "people_word", "people_word", defArgs (topS 53), defBody (topS 53), defScope (topS 53), [], []⟩
def d_kind_or_none : He.DefD := ⟨("kind_or_none", none), "kind_or_none", "kind_or_none", defArgs (topS 55), defBody (topS 55), defScope (topS 55), [], []⟩
def d_values_read : He.DefD := ⟨("values_read", none), "values_read", "values_read", defArgs (topS 59), defBody (topS 59), defScope (topS 59), [.int 1], []⟩
def d_person_read : He.DefD := ⟨("person_read", none), "person_read", "person_read", defArgs (topS 60), defBody (topS 60), defScope (topS 60), [], []⟩
def d_party_read : He.DefD := ⟨("party_read", none), "party_read", "party_read", defArgs (topS 61), defBody (topS 61), defScope (topS 61), [], []⟩
def d_person_cells : He.DefD := ⟨("person_cells", none), "person_cells", "person_cells", defArgs (topS 63), defBody (topS 63), defScope (topS 63), [], []⟩
def d_party_table : He.DefD := ⟨("party_table", none), "party_table", "party_table", defArgs (topS 64), defBody (topS 64), defScope (topS 64), [], []⟩
def d_person_line : He.DefD := ⟨("person_line", none), "person_line", "person_line", defArgs (topS 66), defBody (topS 66), defScope (topS 66), [], []⟩
def d_tie_line : He.DefD := ⟨("tie_line", none), "tie_line", "tie_line", defArgs (topS 67), defBody (topS 67), defScope (topS 67), [], []⟩
def d_party_text : He.DefD := ⟨("party_text", none), "party_text", "party_text", defArgs (topS 68), defBody (topS 68), defScope (topS 68), [], []⟩
def d_Window_init : He.DefD := ⟨("Window", some "__init__"), "__init__", "Window.__init__", defArgs (inClass (topS 70) 0), defBody (inClass (topS 70) 0), defScope (inClass (topS 70) 0), [], []⟩
def d_Visitor_init : He.DefD := ⟨("Visitor", some "__init__"), "__init__", "Visitor.__init__", defArgs (inClass (topS 72) 1), defBody (inClass (topS 72) 1), defScope (inClass (topS 72) 1), [], [("patience", .int 0)]⟩
def d_Visitor_prolongs : He.DefD := ⟨("Visitor", some "prolongs"), "prolongs", "Visitor.prolongs", defArgs (inClass (topS 72) 7), defBody (inClass (topS 72) 7), defScope (inClass (topS 72) 7), [], []⟩
def d_Visitor_end : He.DefD := ⟨("Visitor", some "end"), "end", "Visitor.end", defArgs (inClass (topS 72) 8), defBody (inClass (topS 72) 8), defScope (inClass (topS 72) 8), [], []⟩
def d_Guide_prolongs : He.DefD := ⟨("Guide", some "prolongs"), "prolongs", "Guide.prolongs", defArgs (inClass (topS 74) 2), defBody (inClass (topS 74) 2), defScope (inClass (topS 74) 2), [], []⟩
def d_Host_end : He.DefD := ⟨("Host", some "end"), "end", "Host.end", defArgs (inClass (topS 75) 3), defBody (inClass (topS 75) 3), defScope (inClass (topS 75) 3), [], []⟩
def d__law_reader : He.DefD := ⟨("_law_reader", none), "_law_reader", "_law_reader", defArgs (topS 77), defBody (topS 77), defScope (topS 77), [], []⟩
def d__law_draw : He.DefD := ⟨("_law_draw", none), "_law_draw", "_law_draw", defArgs (topS 78), defBody (topS 78), defScope (topS 78), [], []⟩
def d__law_least_case : He.DefD := ⟨("_law_least_case", none), "_law_least_case", "_law_least_case", defArgs (topS 79), defBody (topS 79), defScope (topS 79), [], []⟩
def d__law_random_rows : He.DefD := ⟨("_law_random_rows", none), "_law_random_rows", "_law_random_rows", defArgs (topS 80), defBody (topS 80), defScope (topS 80), [], []⟩
def d__law_random_bonds : He.DefD := ⟨("_law_random_bonds", none), "_law_random_bonds", "_law_random_bonds", defArgs (topS 81), defBody (topS 81), defScope (topS 81), [], []⟩
def d__law_random_party : He.DefD := ⟨("_law_random_party", none), "_law_random_party", "_law_random_party", defArgs (topS 82), defBody (topS 82), defScope (topS 82), [], []⟩
def d__law_made : He.DefD := ⟨("_law_made", none), "_law_made", "_law_made", defArgs (topS 83), defBody (topS 83), defScope (topS 83), [], []⟩
def d__law_rows_of : He.DefD := ⟨("_law_rows_of", none), "_law_rows_of", "_law_rows_of", defArgs (topS 84), defBody (topS 84), defScope (topS 84), [], []⟩
def d__law_ends : He.DefD := ⟨("_law_ends", none), "_law_ends", "_law_ends", defArgs (topS 85), defBody (topS 85), defScope (topS 85), [], []⟩
def d__law_check_renamed : He.DefD := ⟨("_law_check_renamed", none), "_law_check_renamed", "_law_check_renamed", defArgs (topS 86), defBody (topS 86), defScope (topS 86), [], []⟩
def d__law_check_names : He.DefD := ⟨("_law_check_names", none), "_law_check_names", "_law_check_names", defArgs (topS 87), defBody (topS 87), defScope (topS 87), [], []⟩
def d__law_check_later : He.DefD := ⟨("_law_check_later", none), "_law_check_later", "_law_check_later", defArgs (topS 88), defBody (topS 88), defScope (topS 88), [], []⟩
def d_law : He.DefD := ⟨("law", none), "law", "law", defArgs (topS 89), defBody (topS 89), defScope (topS 89), [], []⟩
def fn0 : List He.DefD := [d_is_integer, d_is_number, d_is_name, d_is_tuple_of, d_are_names, d_is_ascending, d_is_people, d_window_limits, d_tie_limits, d_shortest, d_tightest, d_require, d_is_row, d_is_tie, d_are_waits, d_check_rows]
def fn1 : List He.DefD := [d_check_ties, d_lets_party, d_lets_case, d_people_of, d_fresh_names, d_renamed_row, d_renamed_tie, d_renamed, d_later_row, d_later, d_number_or_none, d_integer_or_none, d_minutes_or_none, d_name_or_none, d_people_or_none, d_people_word]
def fn2 : List He.DefD := [d_kind_or_none, d_values_read, d_person_read, d_party_read, d_person_cells, d_party_table, d_person_line, d_tie_line, d_party_text, d_Window_init, d_Visitor_init, d_Visitor_prolongs, d_Visitor_end, d_Guide_prolongs, d_Host_end, d__law_reader]
def fn3 : List He.DefD := [d__law_draw, d__law_least_case, d__law_random_rows, d__law_random_bonds, d__law_random_party, d__law_made, d__law_rows_of, d__law_ends, d__law_check_renamed, d__law_check_names, d__law_check_later, d_law]
def fn : List He.DefD := fn0 ++ fn1 ++ fn2 ++ fn3
-- builtins NotImplemented ValueError all any bool classmethod dict enumerate int isinstance len list max min property range sorted staticmethod str super tuple zip
def fa0 : List He.Fa := [.free "all", .free "any", .free "bool", .free "dict", .free "enumerate", .free "int", .free "isinstance", .free "len", .free "list", .free "max", .free "min", .free "range", .free "sorted", .free "str", .free "super", .free "tuple"]
def fa1 : List He.Fa := [.free "zip", .glo "is_integer", .glo "is_number", .glo "is_name", .glo "is_tuple_of", .glo "are_names", .glo "is_ascending", .glo "is_people", .glo "window_limits", .glo "tie_limits", .glo "shortest", .glo "tightest", .glo "require", .glo "is_row", .glo "is_tie", .glo "are_waits"]
def fa2 : List He.Fa := [.glo "check_rows", .glo "check_ties", .glo "lets_party", .glo "lets_case", .glo "people_of", .glo "fresh_names", .glo "renamed_row", .glo "renamed_tie", .glo "renamed", .glo "later_row", .glo "later", .glo "number_or_none", .glo "integer_or_none", .glo "minutes_or_none", .glo "name_or_none", .glo "people_or_none"]
def fa3 : List He.Fa := [.glo "people_word", .glo "kind_or_none", .glo "values_read", .glo "person_read", .glo "party_read", .glo "person_cells", .glo "party_table", .glo "person_line", .glo "tie_line", .glo "party_text", .glo "Window", .glo "Visitor", .glo "Waiter", .glo "Guide", .glo "Host", .glo "_law_reader"]
def fa4 : List He.Fa := [.glo "_law_draw", .glo "_law_least_case", .glo "_law_random_rows", .glo "_law_random_bonds", .glo "_law_random_party", .glo "_law_made", .glo "_law_rows_of", .glo "_law_ends", .glo "_law_check_renamed", .glo "_law_check_names", .glo "_law_check_later", .glo "law", .glo "KINDS", .glo "PERSON", .glo "TIE", .glo "CLOSING"]
def fa5 : List He.Fa := [.str "LETTERS" "abcdefghijklmnopqrstuvwxyz", .int "LONGEST_NAME" 8, .str "DIGITS" "0123456789", .int "MOST_DIGITS" 60, .str "EMPTY_WORD" "-", .cls "Window", .mkr "Window", .cls "Visitor", .mkr "Visitor", .cls "Waiter", .mkr "Waiter", .cls "Guide", .mkr "Guide", .cls "Host", .mkr "Host", .noat "Visitor" "called"]
def fa6 : List He.Fa := [.noat "Waiter" "called", .noat "Guide" "called", .noat "Host" "called", .noat "Visitor" "opening", .noat "Waiter" "opening", .noat "Guide" "opening", .noat "Host" "opening", .noat "Visitor" "endurance", .noat "Waiter" "endurance", .noat "Guide" "endurance", .noat "Host" "endurance", .noat "Visitor" "awaited", .noat "Waiter" "awaited", .noat "Guide" "awaited", .noat "Host" "awaited", .noat "Host" "leaving"]
def fa7 : List He.Fa := [.noat "Window" "span", .meth "Visitor" "end", .meth "Visitor" "prolongs", .meth "Waiter" "end", .meth "Waiter" "prolongs", .meth "Guide" "end", .meth "Guide" "prolongs", .meth "Host" "end", .meth "Host" "prolongs"]
def fa : List He.Fa := fa0 ++ fa1 ++ fa2 ++ fa3 ++ fa4 ++ fa5 ++ fa6 ++ fa7
def nm0 : List PySem.Str := ["_wall", "MeetingError", "PaperError", "PartyError", "TextError", "InvalidPaper", "UnknownPerson", "InvalidWindow", "InvalidText", "LETTERS", "LONGEST_NAME", "is_integer", "is_number", "is_name", "is_tuple_of", "are_names"]
def nm1 : List PySem.Str := ["is_ascending", "is_people", "window_limits", "tie_limits", "shortest", "tightest", "KINDS", "require", "is_row", "is_tie", "are_waits", "check_rows", "check_ties", "lets_party", "lets_case", "people_of"]
def nm2 : List PySem.Str := ["fresh_names", "renamed_row", "renamed_tie", "renamed", "later_row", "later", "DIGITS", "MOST_DIGITS", "EMPTY_WORD", "number_or_none", "integer_or_none", "minutes_or_none", "name_or_none", "people_or_none", "people_word", "kind_or_none"]
def nm3 : List PySem.Str := ["PERSON", "TIE", "CLOSING", "values_read", "person_read", "party_read", "person_cells", "party_table", "person_line", "tie_line", "party_text", "Window", "Visitor", "Waiter", "Guide", "Host"]
def nm4 : List PySem.Str := ["_law_reader", "_law_draw", "_law_least_case", "_law_random_rows", "_law_random_bonds", "_law_random_party", "_law_made", "_law_rows_of", "_law_ends", "_law_check_renamed", "_law_check_names", "_law_check_later"]
def nms : List PySem.Str := nm0 ++ nm1 ++ nm2 ++ nm3 ++ nm4

/-- the def at f closes over __class__, whose cell holds the class named x -/
def cloB (K : PySem.W.Frag) (f : Addr) (C : Addr) : Bool := match K.lookup f with
  | some ⟨_, _, .func fd, _⟩ => (match fd.closure with
    | [(n, c)] => decide (n = "__class__") && (match K.lookup c with
      | some ⟨_, _, .cell (some (.ref D)), _⟩ => decide (D = C)
      | _ => false)
    | _ => false)
  | _ => false
abbrev FnC : Type := Option (Str × Str × Arguments × FuncBody × Scope × Addr × List Str × Addr)
def fnC (K : PySem.W.Frag) (p : Str × Option Str) : FnC := match K.lookup (He.fAd K p) with
  | some ⟨_, _, .func fd, _⟩ => some (fd.name, fd.qualname, fd.params, fd.body, fd.scope, fd.globals, fd.closure.map (·.1), fd.builtins)
  | _ => none
def DefCval (d : He.DefD) : FnC := some (d.name, d.qual, d.params, .stmts d.body, d.scope, mainGlobals, ["__class__"], builtinsNs)
/-- the file's name of the code object -/
def fileB (K : PySem.W.Frag) (f : Addr) (file : Str) : Bool := match K.lookup f with
  | some ⟨_, _, .func fd, _⟩ => (match fd.code with
    | .ref c => (match K.lookup c with
      | some ⟨_, _, .fields vs, _⟩ => (match vs[2]? with
        | some (Value.str x _) => file == x
        | _ => false)
      | _ => false)
    | _ => false)
  | _ => false
def supB (K : PySem.W.Frag) (C D : Str) (m : Str) (E : Str) : Bool := decide (PySem.W.ks_superIn K (He.ga K C) (He.ga K D) m = some (some (.ref (He.ma K (He.ga K E) m))))

def c_Waiter_init : He.DefD := ⟨("Waiter", some "__init__"), "__init__", "Waiter.__init__", defArgs (inClass (topS 73) 1), defBody (inClass (topS 73) 1), defScope (inClass (topS 73) 1), [], [("patience", .int 0)]⟩
def c_Waiter_prolongs : He.DefD := ⟨("Waiter", some "prolongs"), "prolongs", "Waiter.prolongs", defArgs (inClass (topS 73) 2), defBody (inClass (topS 73) 2), defScope (inClass (topS 73) 2), [], []⟩
def c_Waiter_end : He.DefD := ⟨("Waiter", some "end"), "end", "Waiter.end", defArgs (inClass (topS 73) 3), defBody (inClass (topS 73) 3), defScope (inClass (topS 73) 3), [], []⟩
def c_Guide_init : He.DefD := ⟨("Guide", some "__init__"), "__init__", "Guide.__init__", defArgs (inClass (topS 74) 1), defBody (inClass (topS 74) 1), defScope (inClass (topS 74) 1), [], [("patience", .int 0)]⟩
def c_Guide_end : He.DefD := ⟨("Guide", some "end"), "end", "Guide.end", defArgs (inClass (topS 74) 3), defBody (inClass (topS 74) 3), defScope (inClass (topS 74) 3), [], []⟩
def c_Host_init : He.DefD := ⟨("Host", some "__init__"), "__init__", "Host.__init__", defArgs (inClass (topS 75) 1), defBody (inClass (topS 75) 1), defScope (inClass (topS 75) 1), [], []⟩
def fc : List He.DefD := [c_Waiter_init, c_Waiter_prolongs, c_Waiter_end, c_Guide_init, c_Guide_end, c_Host_init]

def ex (K : PySem.W.Frag) : Bool :=
  (fc.all fun d => d.ok K && cloB K (He.fAd K d.at_) (He.ga K d.at_.1) && fileB K (He.fAd K d.at_) PySem.Challenge.pw_patience_k15_whole_renamed_and_later_par.main.file) &&
  (supB K "Waiter" "Waiter" "__init__" "Visitor" && supB K "Waiter" "Waiter" "prolongs" "Visitor" && supB K "Waiter" "Waiter" "end" "Visitor" && supB K "Guide" "Guide" "__init__" "Visitor" && supB K "Guide" "Guide" "end" "Visitor" && supB K "Host" "Host" "__init__" "Visitor") &&
  (He.tupB K "KINDS" [.str "guide", .str "host", .str "visitor", .str "waiter"] && He.tupB K "PERSON" [.glo "name_or_none", .glo "minutes_or_none", .glo "kind_or_none", .glo "number_or_none"] && He.tupB K "TIE" [.glo "name_or_none", .glo "name_or_none", .glo "integer_or_none"] && He.tupB K "CLOSING" [.glo "number_or_none"]) &&
  (match K.lookup (He.dflAt ("tightest", none) 0 K) with
    | some ⟨.type c, _, .seq its _, _⟩ => decide (c = "tuple") && its.isEmpty
    | _ => false) &&
  (["Waiter", "Guide", "Host"].all fun x => decide (PySem.W.mroIn K (He.ga K x) (.ref (He.ga K x)) = some true)) &&
  decide (PySem.W.nsIn K PySem.cStatics "thirdparty.any" = some none)
/-! ### the hook -/
/-- where the objects lie that are looked at -/
def asZ0 : List Addr := [3, 207, 350, 547, 546, 628, 627, 675, 674, 720, 719, 763, 762, 216, 347, 348, 349, 208, 559, 642, 686, 636, 681, 726, 2, 416, 415, 467, 466, 474, 473, 481, 480, 488, 487, 495, 494, 502, 501, 509, 508, 516]
def asZ1 : List Addr := [515, 523, 522, 530, 529, 537, 536, 544, 543, 566, 565, 613, 612, 618, 617, 625, 624, 648, 647, 656, 655, 664, 663, 672, 671, 694, 693, 701, 700, 709, 708, 717, 716, 738, 737, 745, 744, 752, 751, 760]
def asZ2 : List Addr := [759, 153, 152, 160, 159, 165, 164, 170, 169, 177, 176, 182, 181, 189, 188, 196, 195, 201, 200, 206, 205, 215, 214, 223, 222, 230, 229, 237, 236, 242, 241, 247, 246, 252, 251, 257, 256, 262, 261, 267]
def asZ3 : List Addr := [266, 272, 271, 277, 276, 284, 283, 289, 288, 296, 295, 301, 300, 306, 305, 313, 312, 318, 317, 325, 324, 332, 331, 339, 338, 346, 345, 357, 356, 364, 363, 371, 370, 378, 377, 383, 382, 390, 389, 397]
def asZ4 : List Addr := [396, 402, 401, 772, 771, 779, 778, 784, 783, 789, 788, 794, 793, 799, 798, 806, 805, 811, 810, 816, 815, 821, 820, 826, 825, 831, 830, 838, 837]
def asZ : List Addr := asZ0 ++ asZ1 ++ asZ2 ++ asZ3 ++ asZ4
abbrev AlZ : Type := He.AlD × List FnC × Bool
def obsZ (K : PySem.W.Frag) : AlZ := (He.obsD fa fn K, fc.map (fun d => fnC K d.at_), ex K)
def valZ : AlZ := (He.valD fn, fc.map DefCval, true)
def SaysZ (K : PySem.W.Frag) : Prop := obsZ K = valZ
def obsZG (n : Nat) (g : Addr → Option Obj) : AlZ := obsZ (He.frG g asZ)
def hookZ (n : Nat) : PySem.W.Hook where
  α := AlZ
  obs := fun s => obsZG n s.heap.get?
  val := fun _ => valZ
  says := fun _ h => ∃ K : PySem.W.Frag, K.In h ∧ SaysZ K
  of := fun _ _ e => ⟨_, He.frG_in, e⟩
  keeps := fun _ _ _ ⟨K, hK, c⟩ k => ⟨K, PySem.W.Frag.In.keeps hK k, c⟩
abbrev R : PySem.W.OpenRow := PySem.W.OpenLaw.row PySem.Challenge.rw_patience_k15_whole_renamed_and_later_par
def ob (s : PySem.W.SharedT) : AlZ := obsZG 5 (HandSHeadRun.getT s)
theorem ob_eq (s : PySem.W.SharedT) : ob s = (hookZ 5).obs s.abs := by
  have e : HandSHeadRun.getT s = s.abs.heap.get? := funext fun a => HandSHeadRun.getT_eq s a
  show obsZG 5 (HandSHeadRun.getT s) = obsZG 5 s.abs.heap.get?
  rw [e]

end Pa
set_option Elab.async false
set_option linter.all false
set_option maxRecDepth 100000
set_option maxHeartbeats 0
namespace Pa
open PySem PySem.Spec PyProof.Rows L2
theorem run (w : World) : HandSHeadRun.RunEq R (PySem.W.view R.prog [89]) (hookZ 5) ob 20000 nms w := by
  intro os
  kernel_rfl
end Pa
set_option Elab.async false
set_option linter.all false
set_option maxRecDepth 100000
set_option maxHeartbeats 4000000
/-! data as a whole: what a value stands for -/
namespace Pa
open PySem PySem.Spec PyProof.Rows L2 Evl

inductive D where
  | raw (v : V)
  | tup (ds : List D)
  | lst (ds : List D)
  | dic (kvs : List (Str × D))
abbrev dI (i : Int) : D := .raw (.int i)
abbrev dS (x : Str) : D := .raw (.str x)
abbrev dB (b : Bool) : D := .raw (.bl b)
abbrev dN : D := .raw .non

mutual
/-- tuples and plain values alone -/
def D.tu : D → Bool
  | .raw _ => true
  | .tup ds => D.tus ds
  | .lst _ => false
  | .dic _ => false
def D.tus : List D → Bool
  | [] => true
  | d :: ds => d.tu && D.tus ds
end
theorem tus_all : ∀ {ds : List D}, (∀ d ∈ ds, d.tu = true) → D.tus ds = true
  | [], _ => rfl
  | d :: ds, h => by
    simp only [D.tus, Bool.and_eq_true]
    exact ⟨h d List.mem_cons_self, tus_all fun e he => h e (List.mem_cons_of_mem _ he)⟩
mutual
inductive Rp (K : PySem.W.Frag) (H : Hp) : V → D → Prop
  | raw (v : V) : Rp K H v (.raw v)
  | tup {a : Addr} {xs : List V} {ds : List D} : SqT K H a xs → Rps K H xs ds → Rp K H (.ref a) (.tup ds)
  | lst {a : Addr} {xs : List V} {ds : List D} : H a = some (.lst xs) → Rps K H xs ds → Rp K H (.ref a) (.lst ds)
  | dic {a : Addr} {kvs : List (Key × V)} {ds : List (Str × D)} : Rd H a (.dK kvs) → Rkv K H kvs ds → Rp K H (.ref a) (.dic ds)
inductive Rps (K : PySem.W.Frag) (H : Hp) : List V → List D → Prop
  | nil : Rps K H [] []
  | cons {v : V} {vs : List V} {d : D} {ds : List D} : Rp K H v d → Rps K H vs ds → Rps K H (v :: vs) (d :: ds)
inductive Rkv (K : PySem.W.Frag) (H : Hp) : List (Key × V) → List (Str × D) → Prop
  | nil : Rkv K H [] []
  | cons {v : V} {k : Str} {vs : List (Key × V)} {d : D} {ds : List (Str × D)} : Rp K H v d → Rkv K H vs ds → Rkv K H ((.inr k, v) :: vs) ((k, d) :: ds)
end

section
variable {K : PySem.W.Frag} {H H' H1 H2 : Hp} {v x y z : V} {d : D} {ds es : List D} {xs ys : List V} {σ : L2.St}
mutual
theorem Rp.mono (e : Ex H H') : ∀ {v : V} {d : D}, Rp K H v d → Rp K H' v d
  | _, _, .raw v => .raw v
  | _, _, .tup h r => .tup (ex_t e h) (Rps.mono e r)
  | _, _, .lst h r => .lst (e _ _ h) (Rps.mono e r)
  | _, _, .dic h r => .dic (ex_rd e h) (Rkv.mono e r)
theorem Rps.mono (e : Ex H H') : ∀ {vs : List V} {ds : List D}, Rps K H vs ds → Rps K H' vs ds
  | _, _, .nil => .nil
  | _, _, .cons h r => .cons (Rp.mono e h) (Rps.mono e r)
theorem Rkv.mono (e : Ex H H') : ∀ {vs : List (Key × V)} {ds : List (Str × D)}, Rkv K H vs ds → Rkv K H' vs ds
  | _, _, .nil => .nil
  | _, _, .cons h r => .cons (Rp.mono e h) (Rkv.mono e r)
end
/-! nothing in it may change -/
mutual
theorem Rp.keepT (k : ∀ a xs, SqT K H a xs → SqT K H' a xs) : ∀ {v : V} {d : D}, d.tu = true → Rp K H v d → Rp K H' v d
  | _, _, _, .raw v => .raw v
  | _, _, t, .tup h r => .tup (k _ _ h) (Rps.keepT k (by simpa [D.tu] using t) r)
  | _, _, t, .lst h r => by simp [D.tu] at t
  | _, _, t, .dic h r => by simp [D.tu] at t
theorem Rps.keepT (k : ∀ a xs, SqT K H a xs → SqT K H' a xs) : ∀ {vs : List V} {ds : List D}, D.tus ds = true → Rps K H vs ds → Rps K H' vs ds
  | _, _, _, .nil => .nil
  | _, _, t, .cons h r => by
    have t' := Bool.and_eq_true_iff.mp (by simpa [D.tus] using t)
    exact .cons (Rp.keepT k t'.1 h) (Rps.keepT k t'.2 r)
end
theorem keepT_lst {a : Addr} {xs zs : List V} (h : H a = some (.lst xs)) : ∀ b ys, SqT K H b ys → SqT K (upd H a (.lst zs)) b ys := fun b ys q => by
  rcases q with q | q
  · rcases q with q | ⟨o, q⟩
    · exact .inl (.inl (by rw [upd_ne (ne_of q h (by intro z; cases z))]; exact q))
    · exact .inl (.inr ⟨o, by rw [upd_ne (ne_of q h (by intro z; cases z))]; exact q⟩)
  · exact .inr q
theorem Rp.raw_inv {u : V} (h : Rp K H v (.raw u)) : v = u := by cases h; rfl
theorem Rp.tup_inv (h : Rp K H v (.tup ds)) : ∃ a xs, v = .ref a ∧ SqT K H a xs ∧ Rps K H xs ds := by
  cases h with | tup h r => exact ⟨_, _, rfl, h, r⟩
theorem Rp.lst_inv (h : Rp K H v (.lst ds)) : ∃ a xs, v = .ref a ∧ H a = some (.lst xs) ∧ Rps K H xs ds := by
  cases h with | lst h r => exact ⟨_, _, rfl, h, r⟩
theorem Rp.dic_inv {kds : List (Str × D)} (h : Rp K H v (.dic kds)) : ∃ a kvs, v = .ref a ∧ Rd H a (.dK kvs) ∧ Rkv K H kvs kds := by
  cases h with | dic h r => exact ⟨_, _, rfl, h, r⟩
theorem Rps.len : ∀ {xs : List V} {ds : List D}, Rps K H xs ds → xs.length = ds.length
  | _, _, .nil => rfl
  | _, _, .cons _ r => congrArg Nat.succ (Rps.len r)
theorem Rps.get : ∀ {xs : List V} {ds : List D} {i : Nat} {d : D}, Rps K H xs ds → ds[i]? = some d → ∃ x, xs[i]? = some x ∧ Rp K H x d
  | _, _, _, _, .nil, e => by simp at e
  | _, _, 0, _, .cons h _, e => by simp at e; subst e; exact ⟨_, rfl, h⟩
  | _, _, i + 1, d, .cons _ r, e => by
    obtain ⟨x, h1, h2⟩ := Rps.get (i := i) (d := d) r (by simpa using e)
    exact ⟨x, by simpa using h1, h2⟩
theorem Rps.get' : ∀ {xs : List V} {ds : List D} {i : Nat} {x : V}, Rps K H xs ds → xs[i]? = some x → ∃ d, ds[i]? = some d ∧ Rp K H x d
  | _, _, _, _, .nil, e => by simp at e
  | _, _, 0, _, .cons h _, e => by simp at e; subst e; exact ⟨_, rfl, h⟩
  | _, _, i + 1, x, .cons _ r, e => by
    obtain ⟨d, h1, h2⟩ := Rps.get' (i := i) (x := x) r (by simpa using e)
    exact ⟨d, by simpa using h1, h2⟩
theorem Rps.app : ∀ {xs ys : List V} {ds es : List D}, Rps K H xs ds → Rps K H ys es → Rps K H (xs ++ ys) (ds ++ es)
  | _, _, _, _, .nil, s => s
  | _, _, _, _, .cons h r, s => .cons h (Rps.app r s)
theorem Rps.snoc (h : Rps K H xs ds) (r : Rp K H x d) : Rps K H (xs ++ [x]) (ds ++ [d]) := h.app (.cons r .nil)
theorem Rps.raws : ∀ {xs : List V}, Rps K H xs (xs.map .raw)
  | [] => .nil
  | x :: xs => .cons (.raw x) Rps.raws
theorem Rps.raws_inv : ∀ {xs ys : List V}, Rps K H xs (ys.map .raw) → xs = ys
  | _, [], h => by cases h; rfl
  | _, y :: ys, h => by
    cases h with
    | cons h r =>
      cases h
      rw [Rps.raws_inv r]
theorem Rps.take : ∀ {xs : List V} {ds : List D} (n : Nat), Rps K H xs ds → Rps K H (xs.take n) (ds.take n)
  | _, _, 0, _ => .nil
  | _, _, _ + 1, .nil => .nil
  | _, _, n + 1, .cons h r => .cons h (Rps.take n r)
theorem Rps.drop : ∀ {xs : List V} {ds : List D} (n : Nat), Rps K H xs ds → Rps K H (xs.drop n) (ds.drop n)
  | _, _, 0, r => r
  | _, _, _ + 1, .nil => .nil
  | _, _, n + 1, .cons _ r => Rps.drop n r
/-- the pairs of a dict, by key -/
theorem Rkv.look : ∀ {kvs : List (Key × V)} {kds : List (Str × D)} {k : Str} {d : D}, Rkv K H kvs kds → kds.lookup k = some d → ∃ v, valV kvs (Sum.inr k) = some v ∧ Rp K H v d
  | _, _, _, _, .nil, e => by simp at e
  | _, _, k, d, .cons (k := k0) (v := v) (vs := vs) (ds := ds) h r, e => by
    by_cases hk : k = k0
    · subst hk
      simp only [List.lookup_cons, beq_self_eq_true] at e
      cases e
      exact ⟨v, by simp [valV], h⟩
    · have hb : (k == k0) = false := beq_eq_false_iff_ne.mpr hk
      simp only [List.lookup_cons, hb] at e
      obtain ⟨v', h1, h2⟩ := Rkv.look r e
      refine ⟨v', ?_, h2⟩
      have hne : ¬ ((Sum.inr k0 : Key) = Sum.inr k) := fun q => hk (Sum.inr.inj q).symm
      unfold valV at h1 ⊢
      rw [List.find?_cons]
      simp only [hne, decide_false]
      exact h1
theorem Rkv.lookN : ∀ {kvs : List (Key × V)} {kds : List (Str × D)} {k : Str}, Rkv K H kvs kds → kds.lookup k = none → valV kvs (Sum.inr k) = none
  | _, _, _, .nil, e => rfl
  | _, _, k, .cons (k := k0) (v := v) (vs := vs) (ds := ds) h r, e => by
    by_cases hk : k = k0
    · subst hk
      simp only [List.lookup_cons, beq_self_eq_true] at e
      cases e
    · have hb : (k == k0) = false := beq_eq_false_iff_ne.mpr hk
      simp only [List.lookup_cons, hb] at e
      have h1 := Rkv.lookN r e
      have hne : ¬ ((Sum.inr k0 : Key) = Sum.inr k) := fun q => hk (Sum.inr.inj q).symm
      unfold valV at h1 ⊢
      rw [List.find?_cons]
      simp only [hne, decide_false]
      exact h1
theorem Rkv.keys : ∀ {kvs : List (Key × V)} {kds : List (Str × D)}, Rkv K H kvs kds → kvs.map (·.1) = (kds.map (·.1)).map Sum.inr
  | _, _, .nil => rfl
  | _, _, .cons _ r => by
    show _ :: _ = _ :: _
    rw [Rkv.keys r]
theorem Rkv.len {kvs : List (Key × V)} {kds : List (Str × D)} (r : Rkv K H kvs kds) : kvs.length = kds.length := by
  have := congrArg List.length r.keys
  simpa using this

/-! ### evaluation to data -/
def EvD (K : PySem.W.Frag) (te : TE) (σ : L2.St) (H : Hp) (d : D) : Prop := ∀ H1, Ex H H1 → ∀ Q : VK, (∀ v H2, Ex H1 H2 → Rp K H2 v d → Q v H2) → te σ H1 Q
def EvDs (K : PySem.W.Frag) (ta : TA) (σ : L2.St) (H : Hp) (ds : List D) : Prop := ∀ H1, Ex H H1 → ∀ Q : List V → Hp → Prop, (∀ vs H2, Ex H1 H2 → Rps K H2 vs ds → Q vs H2) → ta σ H1 Q
variable {ta tb te tx : TE} {t u : TT}
theorem EvD.mono (e : Ex H H') (h : EvD K te σ H d) : EvD K te σ H' d := fun H1 a Q q => h H1 (e.trans a) Q q
theorem EvDs.mono {ta : TA} (e : Ex H H') (h : EvDs K ta σ H ds) : EvDs K ta σ H' ds := fun H1 a Q q => h H1 (e.trans a) Q q
theorem dv_of (h : Ev te σ H v) : EvD K te σ H (.raw v) := fun H1 e Q q => h H1 e Q fun H2 e2 => q v H2 e2 (.raw v)
theorem EvD.val (h : EvD K te σ H (.raw v)) : Ev te σ H v := fun H1 e Q q => h H1 e Q fun w H2 e2 r => by
  rw [r.raw_inv]
  exact q H2 e2
theorem dv_var {i : Nat} (h : σ[i]? = some (some v)) (r : Rp K H v d) : EvD K (tVar i) σ H d := fun H1 e _ q => ⟨v, h, q v H1 (Ex.refl H1) (r.mono e)⟩
theorem dv_c : EvD K (tC v) σ H (.raw v) := dv_of ev_c
theorem dv_is {d' : D} (h : EvD K te σ H d) (e : d = d') : EvD K te σ H d' := e ▸ h
theorem ds_nil : EvDs K tNil σ H [] := fun H1 _ _ q => q [] H1 (Ex.refl H1) .nil
theorem ds_cons {tr : TA} (h : EvD K ta σ H d) (hr : EvDs K tr σ H ds) : EvDs K (tCons ta tr) σ H (d :: ds) := fun H1 e _ q =>
  h H1 e _ fun v H2 e2 r => hr H2 (e.trans e2) _ fun vs H3 e3 rs => q _ H3 (e2.trans e3) (.cons (r.mono e3) rs)
theorem dv_tup {ta : TA} (h : EvDs K ta σ H ds) (hl : ds.length ≤ 100000) : EvD K (tTup ta) σ H (.tup ds) := fun H1 e _ q =>
  h H1 e _ fun vs H2 e2 r => ⟨sz_of (by rw [r.len]; exact hl), fun p hp => q _ _ (e2.trans (Ex.new hp)) (.tup (SqT.of upd_same) (r.mono (Ex.new hp)))⟩
theorem dv_lst {ta : TA} (h : EvDs K ta σ H ds) (hl : ds.length ≤ 100000) : EvD K (tLst ta) σ H (.lst ds) := fun H1 e _ q =>
  h H1 e _ fun vs H2 e2 r => ⟨sz_of (by rw [r.len]; exact hl), fun p hp => q _ _ (e2.trans (Ex.new hp)) (.lst upd_same (r.mono (Ex.new hp)))⟩
/-- a two-place operation on data -/
def RD (K : PySem.W.Frag) (r : R2) (a b : D) (H : Hp) (z : D) : Prop := ∀ H1, Ex H H1 → ∀ x y, Rp K H1 x a → Rp K H1 y b → ∀ Q : VK, (∀ v H2, Ex H1 H2 → Rp K H2 v z → Q v H2) → r x y H1 Q
theorem dv_op {r : R2} {a b z : D} (ha : EvD K ta σ H a) (hb : EvD K tb σ H b) (hr : RD K r a b H z) : EvD K (tOp r ta tb) σ H z := fun H1 e Q q =>
  ha H1 e _ fun x H2 e2 r1 => hb H2 (e.trans e2) _ fun y H3 e3 r2 => hr H3 ((e.trans e2).trans e3) x y (r1.mono e3) r2 Q fun v H4 e4 r4 => q v H4 ((e2.trans e3).trans e4) r4
theorem rd_of {r : R2} (h : RV r x y H z) : RD K r (.raw x) (.raw y) H (.raw z) := fun H1 e a b ha hb Q q => by
  rw [ha.raw_inv, hb.raw_inv]
  exact h H1 e Q fun H2 e2 => q z H2 e2 (.raw z)
theorem rd_I0 {g : Int → Int → V} {i j : Int} : RD K (rI0 g) (dI i) (dI j) H (.raw (g i j)) := rd_of rv_I0
theorem rd_I {C : Int → Int → Prop} {g : Int → Int → V} {i j : Int} (hc : C i j) : RD K (rI C g) (dI i) (dI j) H (.raw (g i j)) := rd_of (rv_I hc)
theorem rd_eq (h : scal x y = true) : RD K rEq (.raw x) (.raw y) H (dB (decide (x = y))) := rd_of (rv_eq h)
theorem rd_ne (h : scal x y = true) : RD K rNe (.raw x) (.raw y) H (dB (!decide (x = y))) := rd_of (rv_ne h)
theorem rd_ixL {i : Int} {n : Nat} (e : i = (n : Int)) (h : ds[n]? = some d) : RD K (rIxL K) (.lst ds) (dI i) H d := fun H1 _ x y hx hy Q q => by
  obtain ⟨a, xs, rfl, hs, r⟩ := hx.lst_inv
  obtain ⟨w, hw, rw'⟩ := r.get h
  exact ⟨a, xs, i, w, rfl, hy.raw_inv, SqL.of hs, at_of e hw, q w H1 (Ex.refl H1) rw'⟩
theorem rd_ixT {i : Int} {n : Nat} (e : i = (n : Int)) (h : ds[n]? = some d) : RD K (rIxT K) (.tup ds) (dI i) H d := fun H1 _ x y hx hy Q q => by
  obtain ⟨a, xs, rfl, hs, r⟩ := hx.tup_inv
  obtain ⟨w, hw, rw'⟩ := r.get h
  exact ⟨a, xs, i, w, rfl, hy.raw_inv, hs, at_of e hw, q w H1 (Ex.refl H1) rw'⟩
/-- a test -/
theorem dt_test {b : Bool} (h : EvD K te σ H (dB b)) : EvT (tTest te) σ H b := et_test h.val
theorem dt_B {b : Bool} (h : EvD K te σ H (dB b)) : EvT (tB te) σ H b := et_B h.val
theorem dv_andV {a b : Bool} (h1 : EvD K ta σ H (dB a)) (h2 : a = true → EvD K tb σ H (dB b)) : EvD K (tAndV ta tb) σ H (dB (a && b)) := dv_of (ev_andV h1.val fun e => (h2 e).val)
theorem dv_notV {a : Bool} (h1 : EvD K ta σ H (dB a)) : EvD K (tNotV ta) σ H (dB (!a)) := dv_of (ev_notV h1.val)
theorem dv_if {b : Bool} (h : EvT t σ H b) (h1 : b = true → EvD K ta σ H d) (h2 : b = false → EvD K tb σ H d) : EvD K (tIf t ta tb) σ H d := fun H1 e Q q => h H1 e _ fun H2 e2 => by
  cases b with
  | true =>
    show ta σ H2 Q
    exact h1 rfl H2 (e.trans e2) Q fun v H3 e3 => q v H3 (e2.trans e3)
  | false =>
    show tb σ H2 Q
    exact h2 rfl H2 (e.trans e2) Q fun v H3 e3 => q v H3 (e2.trans e3)
/-- what a def hands back, as data -/
def Ret (K : PySem.W.Frag) (d : D) (H : Hp) (Q : VK) : Prop := ∀ v H2, Ex H H2 → Rp K H2 v d → Q v H2
theorem Ret.go {Q : VK} (k : Ret K d H Q) (e : Ex H H') {v : V} {H2 : Hp} (e2 : Ex H' H2) (r : Rp K H2 v d) : Q v H2 := k v H2 (e.trans e2) r
theorem Ret.mono {Q : VK} (k : Ret K d H Q) (e : Ex H H') : Ret K d H' Q := fun v H2 e2 r => k v H2 (e.trans e2) r
/-- a promise about data: whatever stands for the arguments -/
def SpD (K : PySem.W.Frag) (sp : Sp) (ds : List D) (H : Hp) (d : D) : Prop := ∀ H1, Ex H H1 → ∀ vs, Rps K H1 vs ds → ∀ (Q : VK) (E : XK), Ret K d H1 Q → sp vs H1 Q E
theorem dv_call {sp : Sp} {E : XK} {ta : TA} (h : EvDs K ta σ H ds) (hs : SpD K sp ds H d) : EvD K (tCall sp [] E ta) σ H d := fun H1 e Q q =>
  h H1 e _ fun vs H2 e2 r => hs H2 (e.trans e2) (vs ++ []) (by rw [List.append_nil]; exact r) Q E fun v H3 e3 r3 => q v H3 (e2.trans e3) r3
def RCD (K : PySem.W.Frag) (r : List V → Hp → VK → Prop) (ds : List D) (H : Hp) (d : D) : Prop := ∀ H1, Ex H H1 → ∀ vs, Rps K H1 vs ds → ∀ Q : VK, Ret K d H1 Q → r vs H1 Q
theorem dv_cb {r : List V → Hp → VK → Prop} {ta : TA} (h : EvDs K ta σ H ds) (hs : RCD K r ds H d) : EvD K (tCB r ta) σ H d := fun H1 e Q q =>
  h H1 e _ fun vs H2 e2 rr => hs H2 (e.trans e2) vs rr Q fun v H3 e3 r3 => q v H3 (e2.trans e3) r3

/-! ### statements -/
variable {Dn : Ends} {tu tw tz : TS} {g : TG}
theorem s_retD (h : EvD K te σ H d) (k : Ret K d H Dn.rt) : tRet te Dn σ H := h H (Ex.refl H) _ k
theorem q_set {i : Nat} (h : EvD K te σ H d) (k : ∀ v H1, Ex H H1 → Rp K H1 v d → tz Dn (σ.set i (some v)) H1) : tSeq (tAsg te (gName i)) tz Dn σ H := h H (Ex.refl H) _ k
theorem s_set {i : Nat} (h : EvD K te σ H d) (k : ∀ v H1, Ex H H1 → Rp K H1 v d → Dn.nx (σ.set i (some v)) H1) : tAsg te (gName i) Dn σ H := h H (Ex.refl H) _ k
theorem q_drop (h : EvD K te σ H d) (k : ∀ H1, Ex H H1 → tz Dn σ H1) : tSeq (tDrop te) tz Dn σ H := h H (Ex.refl H) _ fun _ H1 e _ => k H1 e
theorem s_dropD (h : EvD K te σ H d) (k : ∀ H1, Ex H H1 → Dn.nx σ H1) : tDrop te Dn σ H := h H (Ex.refl H) _ fun _ H1 e _ => k H1 e
/-! ### several targets -/
/-- the names at places is take the values -/
def setAll : List Nat → List V → L2.St → L2.St
  | i :: is, v :: vs, σ => setAll is vs (σ.set i (some v))
  | _, _, σ => σ
def gNames : List Nat → TGs
  | [] => gNil
  | i :: is => gCons (gName i) (gNames is)
theorem gNames_run : ∀ {is : List Nat} {vs : List V} {σ : L2.St} {H : Hp} {Q : L2.St → Hp → Prop}, is.length = vs.length → Q (setAll is vs σ) H → gNames is vs σ H Q
  | [], [], _, _, _, _, h => ⟨rfl, h⟩
  | _ :: is, v :: vs, σ, H, Q, l, h => ⟨v, vs, rfl, gNames_run (is := is) (vs := vs) (by simpa using l) h⟩
theorem g_tup {n : Nat} {is : List Nat} {Q : L2.St → Hp → Prop} (r : Rp K H v (.tup ds)) (hn : ds.length = n) (hl : is.length = n) (k : ∀ vs, Rps K H vs ds → Q (setAll is vs σ) H) : gTup K n (gNames is) v σ H Q := by
  obtain ⟨a, xs, rfl, hs, rr⟩ := r.tup_inv
  exact ⟨a, xs, rfl, hs, by rw [rr.len]; exact hn, gNames_run (by rw [rr.len, hl, hn]) (k xs rr)⟩
theorem q_un {n : Nat} {is : List Nat} (h : EvD K te σ H (.tup ds)) (hn : ds.length = n) (hl : is.length = n) (k : ∀ vs H1, Ex H H1 → Rps K H1 vs ds → tz Dn (setAll is vs σ) H1) : tSeq (tAsg te (gTup K n (gNames is))) tz Dn σ H :=
  h H (Ex.refl H) _ fun v H1 e r => g_tup r hn hl fun vs rr => k vs H1 e rr

/-! ### what is walked -/
/-- J walks data ds, wherever what H knows still stands -/
structure JOk (K : PySem.W.Frag) (J : It) (H : Hp) (ds : List D) : Prop where
  go : ∀ i H', Ex H H' → i < ds.length → J.go i H'
  stop : ∀ H', Ex H H' → J.stop ds.length H'
  yld : ∀ i H' x H'', Ex H H' → i < ds.length → J.yld i H' x H'' → ∃ d, ds[i]? = some d ∧ Ex H' H'' ∧ Rp K H'' x d
theorem JOk.mono {J : It} (e : Ex H H') (j : JOk K J H ds) : JOk K J H' ds := ⟨fun i H1 e1 => j.go i H1 (e.trans e1), fun H1 e1 => j.stop H1 (e.trans e1), fun i H1 x H2 e1 => j.yld i H1 x H2 (e.trans e1)⟩
def Wk (wi : TI) (σ : L2.St) (H : Hp) (P : It → Hp → Prop) : Prop := ∀ H1, Ex H H1 → ∀ R, (∀ J H2, Ex H1 H2 → P J H2 → R J H2) → wi σ H1 R
theorem jok_t {a : Addr} (h : SqT K H a xs) (r : Rps K H xs ds) : JOk K (Itt K a) H ds := by
  refine ⟨fun i H' e hi => ?_, fun H' e => ⟨xs, ex_t e h, by rw [r.len]; exact Nat.le_refl _⟩, fun i H' x H'' e hi y => ?_⟩
  · obtain ⟨x, hx, _⟩ := r.get (i := i) (d := ds[i]) (by simp [hi])
    exact ⟨xs, x, ex_t e h, hx⟩
  · obtain ⟨rfl, hy⟩ := y
    obtain ⟨d, hd, rd⟩ := r.get' (hy xs (ex_t e h))
    exact ⟨d, hd, Ex.refl _, rd.mono e⟩
theorem jok_l {a : Addr} (h : SqL K H a xs) (r : Rps K H xs ds) : JOk K (Itl K a) H ds := by
  refine ⟨fun i H' e hi => ?_, fun H' e => ⟨xs, ex_l e h, by rw [r.len]; exact Nat.le_refl _⟩, fun i H' x H'' e hi y => ?_⟩
  · obtain ⟨x, hx, _⟩ := r.get (i := i) (d := ds[i]) (by simp [hi])
    exact ⟨xs, x, ex_l e h, hx⟩
  · obtain ⟨rfl, hy⟩ := y
    obtain ⟨d, hd, rd⟩ := r.get' (hy xs (ex_l e h))
    exact ⟨d, hd, Ex.refl _, rd.mono e⟩
theorem wk_t {tl : TE} (h : EvD K tl σ H (.tup ds)) : Wk (iTup K tl) σ H fun J H2 => JOk K J H2 ds := fun H1 e R q => h H1 e _ fun v H2 e2 r => by
  obtain ⟨a, xs, rfl, hs, rr⟩ := r.tup_inv
  exact ⟨a, rfl, ⟨xs, hs⟩, q _ H2 e2 (jok_t hs rr)⟩
theorem wk_l {tl : TE} (h : EvD K tl σ H (.lst ds)) : Wk (iList K tl) σ H fun J H2 => JOk K J H2 ds := fun H1 e R q => h H1 e _ fun v H2 e2 r => by
  obtain ⟨a, xs, rfl, hs, rr⟩ := r.lst_inv
  exact ⟨a, rfl, ⟨xs, SqL.of hs⟩, q _ H2 e2 (jok_l (SqL.of hs) rr)⟩
/-- a name's tuple, list: it stood in H0 already -/
theorem wk_t0 {H0 : Hp} {tl : TE} (h : Ev tl σ H v) (r : Rp K H0 v (.tup ds)) (e0 : Ex H0 H) : Wk (iTup K tl) σ H fun J _ => JOk K J H0 ds := fun H1 e R q => h H1 e _ fun H2 e2 => by
  obtain ⟨a, xs, rfl, hs, rr⟩ := r.tup_inv
  exact ⟨a, rfl, ⟨xs, ex_t ((e0.trans e).trans e2) hs⟩, q _ H2 e2 (jok_t hs rr)⟩
theorem wk_l0 {H0 : Hp} {tl : TE} (h : Ev tl σ H v) (r : Rp K H0 v (.lst ds)) (e0 : Ex H0 H) : Wk (iList K tl) σ H fun J _ => JOk K J H0 ds := fun H1 e R q => h H1 e _ fun H2 e2 => by
  obtain ⟨a, xs, rfl, hs, rr⟩ := r.lst_inv
  exact ⟨a, rfl, ⟨xs, ex_l ((e0.trans e).trans e2) (SqL.of hs)⟩, q _ H2 e2 (jok_l (SqL.of hs) rr)⟩
def rngD (n : Nat) : List D := (List.range n).map fun (i : Nat) => dI (i : Int)
theorem rngD_len {n : Nat} : (rngD n).length = n := by simp [rngD]
theorem rngD_get {n i : Nat} (h : i < n) : (rngD n)[i]? = some (dI (i : Int)) := by simp [rngD, h]
theorem jok_r {n : Nat} : JOk K (Itr 0 n) H (rngD n) := by
  refine ⟨fun i H' _ hi => by rw [rngD_len] at hi; exact hi, fun H' _ => by rw [rngD_len]; exact Nat.le_refl _, fun i H' x H'' _ hi y => ?_⟩
  obtain ⟨rfl, rfl⟩ := y
  rw [rngD_len] at hi
  refine ⟨_, rngD_get hi, Ex.refl _, ?_⟩
  rw [Int.zero_add]
  exact .raw _
theorem wk_r1 {ta : TA} {n : Int} (h : EvDs K ta σ H [dI n]) (hn : 0 ≤ n ∧ n ≤ 100000) : Wk (iRng1 ta) σ H fun J _ => ∀ H0, JOk K J H0 (rngD n.toNat) := fun H1 e R q => h H1 e _ fun vs H2 e2 r => by
  have ev : vs = [.int n] := Rps.raws_inv (ys := [.int n]) r
  exact ⟨n, ev, by omega, by omega, q _ H2 e2 fun H0 => jok_r⟩
theorem Wk.imp {wi : TI} {P P' : It → Hp → Prop} (h : Wk wi σ H P) (i : ∀ J H2, Ex H H2 → P J H2 → P' J H2) : Wk wi σ H P' := fun H1 e R q => h H1 e R fun J H2 e2 p => q J H2 e2 (i J H2 (e.trans e2) p)
/-- THE LOOP: over data; H0 knows what is walked -/
theorem q_for {wi : TI} {H0 : Hp} (h : Wk wi σ H fun J _ => JOk K J H0 ds) (Pv : Nat → L2.St → Hp → Prop) (hE : ∀ i σ' H', Pv i σ' H' → Ex H0 H') (h0 : ∀ H1, Ex H H1 → Pv 0 σ H1)
    (hs : ∀ i d σ' H' x H'', ds[i]? = some d → Pv i σ' H' → Ex H' H'' → Rp K H'' x d → g x σ' H'' fun σ2 H2 => tu { Dn with nx := Pv (i + 1), ct := Pv (i + 1), bk := tz Dn } σ2 H2)
    (hd : ∀ σ' H', Pv ds.length σ' H' → tz Dn σ' H') : tSeq (tFor wi g tu) tz Dn σ H := by
  refine h H (Ex.refl H) _ fun J H2 e2 j => ?_
  refine ⟨fun i m σ H => m = ds.length - i ∧ i ≤ ds.length ∧ Pv i σ H, ⟨ds.length, by simp, Nat.zero_le _, h0 H2 e2⟩, ?_⟩
  rintro i m σ H ⟨rfl, hi, p⟩
  by_cases hlt : i < ds.length
  · refine .inr ⟨j.go i H (hE _ _ _ p) hlt, Pv (i + 1), fun σ' H' p' => ⟨ds.length - (i + 1), by omega, rfl, hlt, p'⟩, fun x H' y => ?_⟩
    obtain ⟨d, hd', e', r'⟩ := j.yld i H x H' (hE _ _ _ p) hlt y
    exact hs i d σ H x H' hd' p e' r'
  · have e : i = ds.length := by omega
    subst e
    exact .inl ⟨j.stop H (hE _ _ _ p), hd σ H p⟩
theorem s_for {wi : TI} {H0 : Hp} (h : Wk wi σ H fun J _ => JOk K J H0 ds) (Pv : Nat → L2.St → Hp → Prop) (hE : ∀ i σ' H', Pv i σ' H' → Ex H0 H') (h0 : ∀ H1, Ex H H1 → Pv 0 σ H1)
    (hs : ∀ i d σ' H' x H'', ds[i]? = some d → Pv i σ' H' → Ex H' H'' → Rp K H'' x d → g x σ' H'' fun σ2 H2 => tu { Dn with nx := Pv (i + 1), ct := Pv (i + 1), bk := Dn.nx } σ2 H2)
    (hd : ∀ σ' H', Pv ds.length σ' H' → Dn.nx σ' H') : tFor wi g tu Dn σ H := q_for (tz := tNext) h Pv hE h0 hs hd
/-- THE COMPREHENSION: p which items, f what of them -/
def keep (p : Nat → Bool) (f : Nat → D) (n : Nat) : List D := ((List.range n).filter p).map f
theorem keep_yes {n : Nat} {p : Nat → Bool} {f : Nat → D} (h : p n = true) : keep p f (n + 1) = keep p f n ++ [f n] := by
  unfold keep
  rw [List.range_succ, List.filter_append, List.map_append, List.filter_cons, if_pos h] <;> rfl
theorem keep_no {n : Nat} {p : Nat → Bool} {f : Nat → D} (h : p n = false) : keep p f (n + 1) = keep p f n := by
  unfold keep
  rw [List.range_succ, List.filter_append, List.map_append, List.filter_cons, if_neg (by rw [h]; decide)]
  show _ ++ [] = _
  rw [List.append_nil]
theorem keep_len {n : Nat} {p : Nat → Bool} {f : Nat → D} : (keep p f n).length ≤ n := by
  unfold keep
  rw [List.length_map]
  have h := List.length_filter_le p (List.range n)
  rw [List.length_range] at h
  exact h
theorem keep_tu {n : Nat} {p : Nat → Bool} {f : Nat → D} (h : ∀ i, i < n → p i = true → (f i).tu = true) : D.tus (keep p f n) = true := tus_all fun d hd => by
  obtain ⟨i, hi, rfl⟩ := List.mem_map.mp hd
  obtain ⟨h1, h2⟩ := List.mem_filter.mp hi
  exact h i (List.mem_range.mp h1) h2
theorem dv_lc {wi : TI} {vs : List Nat} (p : Nat → Bool) (f : Nat → D) (h : Wk wi σ H fun J H2 => JOk K J H2 ds) (hz : ds.length ≤ 50000) (hT : ∀ i d, ds[i]? = some d → p i = true → (f i).tu = true)
    (hs : ∀ i d x H', ds[i]? = some d → Ex H H' → Rp K H' x d → ∀ k : L2.St → Hp → Prop, (∀ σ2 H2, Ex H' H2 → wipe σ2 vs = wipe σ vs → EvT t σ2 H2 (p i) → (p i = true → EvD K te σ2 H2 (f i)) → k σ2 H2) → g x (wipe σ vs) H' k) :
    EvD K (tLc wi g t te vs) σ H (.lst (keep p f ds.length)) := by
  intro H0 e0 Q q
  refine h H0 e0 _ fun J H1 e1 j => ?_
  intro Dl hD
  refine ⟨fun i m H => m = ds.length - i ∧ i ≤ ds.length ∧ Ex H1 H ∧ ∃ ys, H Dl = some (.lst ys) ∧ Rps K H ys (keep p f i), ⟨ds.length, by simp, Nat.zero_le _, Ex.new hD, [], upd_same, .nil⟩, ?_⟩
  rintro i m H2 ⟨rfl, hi, e2, ys, hl, rr⟩
  by_cases hlt : i < ds.length
  · refine .inr ⟨j.go i H2 e2 hlt, fun H => i + 1 ≤ ds.length ∧ Ex H1 H ∧ ∃ ys, H Dl = some (.lst ys) ∧ Rps K H ys (keep p f (i + 1)), fun H' p' => ⟨ds.length - (i + 1), by omega, rfl, p'⟩, fun x H3 y => ?_⟩
    obtain ⟨d, hd, e3, r3⟩ := j.yld i H2 x H3 e2 hlt y
    refine hs i d x H3 hd (((e0.trans e1).trans e2).trans e3) r3 _ fun σ2 H4 e4 hw ht he => ⟨hw, ?_⟩
    refine ht H4 (Ex.refl _) _ fun H5 e5 => ?_
    have e15 : Ex H1 H5 := ((e2.trans e3).trans e4).trans e5
    have e25 : Ex H2 H5 := (e3.trans e4).trans e5
    cases hp : p i with
    | false =>
      show _ ∧ _
      refine ⟨hlt, e15, ys, e25 Dl _ hl, ?_⟩
      rw [keep_no hp]
      exact rr.mono e25
    | true =>
      refine he hp H5 e5 _ fun v H6 e6 r6 => ?_
      refine ⟨ys, e6 Dl _ (e25 Dl _ hl), ?_, hlt, Ex.mut (e15.trans e6) hD, ys ++ [v], upd_same, ?_⟩
      · rw [rr.len]
        have := keep_len (n := i) (p := p) (f := f)
        exact sz_lt (by omega)
      · rw [keep_yes hp]
        have kt := keepT_lst (K := K) (zs := ys ++ [v]) (e6 Dl _ (e25 Dl _ hl))
        refine ((rr.mono (e25.trans e6)).keepT kt (keep_tu fun j hj hpj => ?_)).snoc (r6.keepT kt (hT i d hd hp))
        obtain ⟨dj, hdj⟩ : ∃ dj, ds[j]? = some dj := ⟨ds[j], by simp [Nat.lt_trans hj hlt]⟩
        exact hT j dj hdj hpj
  · have e : i = ds.length := by omega
    subst e
    exact .inl ⟨j.stop H2 e2, q _ H2 (e1.trans e2) (.lst hl rr)⟩
end
end Pa
set_option Elab.async false
set_option linter.all false
set_option maxRecDepth 100000
set_option maxHeartbeats 4000000
namespace Pa
open PySem PySem.Spec PyProof.Rows L2 Evl

/-! ### data, as the library has it -/
mutual
def D.py : D → PyData
  | .raw v => (match v with
    | .bl b => .bool b
    | .int i => .int i
    | .str x => .str x
    | _ => .none)
  | .tup ds => .tuple (D.pys ds)
  | .lst ds => .list (D.pys ds)
  | .dic _ => .none
def D.pys : List D → List PyData
  | [] => []
  | d :: ds => d.py :: D.pys ds
end
/-- plain values, texts of real signs, nested at most so deep -/
def okV : V → Bool
  | .non => true
  | .bl _ => true
  | .int _ => true
  | .str x => PyData.strOk x
  | _ => false
mutual
def D.ok : Nat → D → Bool
  | _, .raw v => okV v
  | 0, _ => false
  | n + 1, .tup ds => D.oks n ds
  | n + 1, .lst ds => D.oks n ds
  | _, .dic _ => false
def D.oks : Nat → List D → Bool
  | _, [] => true
  | n, d :: ds => D.ok n d && D.oks n ds
end
theorem pys_map : ∀ ds : List D, D.pys ds = ds.map D.py
  | [] => rfl
  | d :: ds => by rw [D.pys, pys_map ds]; rfl
theorem oks_all {n : Nat} : ∀ {ds : List D}, (∀ d ∈ ds, D.ok n d = true) → D.oks n ds = true
  | [], _ => by rw [D.oks]
  | d :: ds, h => by
    rw [D.oks, h d List.mem_cons_self, oks_all fun e he => h e (List.mem_cons_of_mem _ he)]
    rfl
theorem oks_mem {n : Nat} : ∀ {ds : List D}, D.oks n ds = true → ∀ d ∈ ds, D.ok n d = true
  | d :: ds, h, e, he => by
    rw [D.oks, Bool.and_eq_true] at h
    rcases List.mem_cons.mp he with rfl | he
    · exact h.1
    · exact oks_mem h.2 e he
section
variable {K : PySem.W.Frag} {H : Hp}
mutual
theorem dp_ofA : ∀ {v : V} {d : D}, Rp K H v d → ∀ {n : Nat}, D.ok n d = true → Dp K H v d.py
  | _, _, .raw v, n, o => by
    have o : okV v = true := by cases n <;> simpa [D.ok] using o
    cases v with
    | non => exact .non
    | bl b => exact .bl b
    | int i => exact .int i
    | str x => exact .str x
    | _ => simp [okV] at o
  | _, _, .tup h r, 0, o => by simp [D.ok] at o
  | _, _, .tup h r, n + 1, o => by
    rw [D.py]
    exact .tup h (dps_ofA r (n := n) (by simpa [D.ok] using o))
  | _, _, .lst h r, 0, o => by simp [D.ok] at o
  | _, _, .lst h r, n + 1, o => by
    rw [D.py]
    exact .lst (SqL.of h) (dps_ofA r (n := n) (by simpa [D.ok] using o))
  | _, _, .dic h r, n, o => by cases n <;> simp [D.ok] at o
theorem dps_ofA : ∀ {vs : List V} {ds : List D}, Rps K H vs ds → ∀ {n : Nat}, D.oks n ds = true → DpAll K H vs (D.pys ds)
  | _, _, .nil, _, _ => by rw [D.pys]; exact .nil
  | _, _, .cons h r, n, o => by
    rw [D.oks, Bool.and_eq_true] at o
    rw [D.pys]
    exact .cons (dp_ofA h (n := n) o.1) (dps_ofA r (n := n) o.2)
end
theorem dp_of {n : Nat} {v : V} {d : D} (o : D.ok n d = true) (h : Rp K H v d) : Dp K H v d.py := dp_ofA h o
end
mutual
theorem canLay_ok : ∀ {n : Nat} {d : D}, D.ok n d = true → d.py.canLay0 = true ∧ d.py.depth ≤ n
  | n, .raw v, o => by
    have o : okV v = true := by cases n <;> simpa [D.ok] using o
    cases v with
    | str x => exact ⟨by simpa [D.py, PyData.canLay0, okV] using o, by simp [D.py, PyData.depth]⟩
    | _ => first
      | exact ⟨by simp [D.py, PyData.canLay0], by simp [D.py, PyData.depth]⟩
      | simp [okV] at o
  | 0, .tup ds, o => by simp [D.ok] at o
  | n + 1, .tup ds, o => by
    obtain ⟨h1, h2⟩ := canLays_ok (n := n) (ds := ds) (by simpa [D.ok] using o)
    exact ⟨by simpa [D.py, PyData.canLay0] using h1, by simp [D.py, PyData.depth]; omega⟩
  | 0, .lst ds, o => by simp [D.ok] at o
  | n + 1, .lst ds, o => by
    obtain ⟨h1, h2⟩ := canLays_ok (n := n) (ds := ds) (by simpa [D.ok] using o)
    exact ⟨by simpa [D.py, PyData.canLay0] using h1, by simp [D.py, PyData.depth]; omega⟩
  | n, .dic _, o => by cases n <;> simp [D.ok] at o
theorem canLays_ok : ∀ {n : Nat} {ds : List D}, D.oks n ds = true → PyData.canLayAll0 (D.pys ds) = true ∧ PyData.depthAll (D.pys ds) ≤ n
  | _, [], _ => by simp [D.pys, PyData.canLayAll0, PyData.depthAll]
  | n, d :: ds, o => by
    rw [D.oks, Bool.and_eq_true] at o
    obtain ⟨h1, h2⟩ := canLay_ok (n := n) (d := d) o.1
    obtain ⟨h3, h4⟩ := canLays_ok (n := n) (ds := ds) o.2
    exact ⟨by simp [D.pys, PyData.canLayAll0, h1, h3], by simp [D.pys, PyData.depthAll]; omega⟩
end
theorem shaped_ok {n : Nat} {d : D} (o : D.ok n d = true) (hn : n ≤ 64) : SeqAt.shaped d.py = true := by
  obtain ⟨h1, h2⟩ := canLay_ok o
  unfold SeqAt.shaped
  rw [h1, decide_eq_true (Nat.le_trans h2 hn)]
  rfl
theorem eqv_same {n : Nat} {d : D} (o : D.ok n d = true) : PyData.eqv d.py d.py = true := PySem.SeqAt.eqv_refl d.py (canLay_ok o).1

section
variable {X : Cx} {K : PySem.W.Frag} {H : Hp} {d e : D} {ds es : List D} {σ : L2.St}

/-! ### == and != -/
def rEqX (K : PySem.W.Frag) : R2 := fun x y H Q => rEq x y H Q ∨ rEqD K x y H Q
def rNeX (K : PySem.W.Frag) : R2 := fun x y H Q => rNe x y H Q ∨ rNeD K x y H Q
theorem op_eqX (hu : X.A.units + 64 < cLine) : OpR X (compareOp .Eq) (rEqX X.K) := op_eq.or (op_eqD hu)
theorem op_neX (hu : X.A.units + 64 < cLine) : OpR X (compareOp .NotEq) (rNeX X.K) := op_ne.or (op_neD hu)
theorem rd_eqX {x y : V} (h : scal x y = true) : RD K (rEqX K) (.raw x) (.raw y) H (dB (decide (x = y))) := fun H1 e a b ha hb Q q => .inl (rd_eq (K := K) h H1 e a b ha hb Q q)
theorem rd_neX {x y : V} (h : scal x y = true) : RD K (rNeX K) (.raw x) (.raw y) H (dB (!decide (x = y))) := fun H1 e a b ha hb Q q => .inl (rd_ne (K := K) h H1 e a b ha hb Q q)
theorem rd_eqP {n m : Nat} (o : D.ok n d = true) (o' : D.ok m e = true) (hn : n ≤ 64) (hm : m ≤ 64) : RD K (rEqX K) d e H (dB (PyData.eqv d.py e.py)) := fun H1 _ a b ha hb Q q =>
  .inr ⟨_, _, dp_of o ha, dp_of o' hb, shaped_ok o hn, shaped_ok o' hm, q _ H1 (Ex.refl _) (.raw _)⟩
theorem rd_neP {n m : Nat} (o : D.ok n d = true) (o' : D.ok m e = true) (hn : n ≤ 64) (hm : m ≤ 64) : RD K (rNeX K) d e H (dB (!PyData.eqv d.py e.py)) := fun H1 _ a b ha hb Q q =>
  .inr ⟨_, _, dp_of o ha, dp_of o' hb, shaped_ok o hn, shaped_ok o' hm, q _ H1 (Ex.refl _) (.raw _)⟩
theorem rd_eqS {n : Nat} (o : D.ok n d = true) (hn : n ≤ 64) : RD K (rEqX K) d d H (dB true) := by
  have h := rd_eqP (K := K) (H := H) o o hn hn
  rw [eqv_same o] at h
  exact h
theorem rd_neS {n : Nat} (o : D.ok n d = true) (hn : n ≤ 64) : RD K (rNeX K) d d H (dB false) := by
  have h := rd_neP (K := K) (H := H) o o hn hn
  rw [eqv_same o] at h
  exact h

/-! ### + -/
def rAddS' : R2 := fun x y H Q => ∃ i j, x = .str i ∧ y = .str j ∧ i.length + j.length ≤ sizeLine ∧ Q (.str (i ++ j)) H
def rAddX (K : PySem.W.Frag) : R2 := fun x y H Q => rI0 (fun i j => .int (i + j)) x y H Q ∨ rAddS' x y H Q ∨ rCat x y H Q ∨ rCatA K x y H Q
theorem op_addX : OpR X (binaryOp .Add) (rAddX X.K) := op_add.or (op_add_str.or (op_cat.or op_catA))
theorem rd_addI {i j : Int} : RD K (rAddX K) (dI i) (dI j) H (dI (i + j)) := fun H1 e a b ha hb Q q => .inl (rd_I0 (K := K) H1 e a b ha hb Q q)
theorem rd_addL (hz : ds.length + es.length ≤ 100000) : RD K (rAddX K) (.lst ds) (.lst es) H (.lst (ds ++ es)) := fun H1 _ a b ha hb Q q => by
  obtain ⟨p, xs, rfl, hp, r1⟩ := ha.lst_inv
  obtain ⟨p', ys, rfl, hp', r2⟩ := hb.lst_inv
  refine .inr (.inr (.inl ⟨p, p', xs, ys, rfl, rfl, hp, hp', sz_of (by rw [r1.len, r2.len]; exact hz), fun l hl => q _ _ (Ex.new hl) (.lst upd_same ((r1.app r2).mono (Ex.new hl)))⟩))
theorem rd_addT (hz : ds.length + es.length ≤ 100000) : RD K (rAddX K) (.tup ds) (.tup es) H (.tup (ds ++ es)) := fun H1 _ a b ha hb Q q => by
  obtain ⟨p, xs, rfl, hp, r1⟩ := ha.tup_inv
  obtain ⟨p', ys, rfl, hp', r2⟩ := hb.tup_inv
  refine .inr (.inr (.inr ⟨p, p', xs, ys, rfl, rfl, hp, hp', sz_of (by rw [r1.len, r2.len]; exact hz), fun e => ?_, fun _ e => ?_, fun _ _ l hl => q _ _ (Ex.new hl) (.tup (SqT.of upd_same) ((r1.app r2).mono (Ex.new hl)))⟩))
  · subst e
    cases r1
    exact q _ H1 (Ex.refl _) (.tup hp' r2)
  · subst e
    cases r2
    rw [List.append_nil] at q
    exact q _ H1 (Ex.refl _) (.tup hp r1)
/-! ### < -/
def rLtS' : R2 := fun x y H Q => ∃ i j, x = .str i ∧ y = .str j ∧ Q (.bl (decide (i.cps.toList < j.cps.toList))) H
def rLtD (K : PySem.W.Frag) : R2 := fun x y H Q => ∃ (d e : D) (n m : Nat), Rp K H x d ∧ Rp K H y e ∧ D.ok n d = true ∧ D.ok m e = true ∧ n ≤ 60 ∧ PySem.W.alike d.py e.py = true ∧ (∃ ds, d = .tup ds) ∧ Q (.bl (PySem.W.dataLt d.py e.py)) H
theorem op_ltD (hu : X.A.units + 64 < cLine) : OpR X (compareOp .Lt) (rLtD X.K) := by
  intro pins s σ H x y v u Q I rx ry h
  obtain ⟨d, e, n, m, hd, he, od, oe, hn, al, ⟨ds, hds⟩, q⟩ := h
  obtain ⟨as, r1⟩ := Dp.reads I d.py x v (dp_of od hd) rx
  obtain ⟨bs, r2⟩ := Dp.reads I e.py y u (dp_of oe he) ry
  have h1 := (canLay_ok od).2
  refine PySem.W.rcLt_alike d.py e.py X.A s v u as bs r1 r2 al ?_ ?_ X.prog X.w X.xe _ ⟨.bl _, H, I, rfl, q⟩
  · rw [hds, D.py]; intro z; cases z
  · have h2 : min d.py.depth e.py.depth ≤ d.py.depth := Nat.min_le_left _ _
    omega
def rLtX (K : PySem.W.Frag) : R2 := fun x y H Q => rI0 (fun i j => .bl (decide (i < j))) x y H Q ∨ rLtS' x y H Q ∨ rLtD K x y H Q
theorem op_ltX (hu : X.A.units + 64 < cLine) : OpR X (compareOp .Lt) (rLtX X.K) := op_lt.or (op_lt_str.or (op_ltD hu))
theorem rd_ltI {i j : Int} : RD K (rLtX K) (dI i) (dI j) H (dB (decide (i < j))) := fun H1 e a b ha hb Q q => .inl (rd_I0 (K := K) (g := fun i j => .bl (decide (i < j))) H1 e a b ha hb Q q)
theorem rd_ltS {i j : Str} : RD K (rLtX K) (dS i) (dS j) H (dB (decide (i.cps.toList < j.cps.toList))) := fun H1 e a b ha hb Q q => .inr (.inl ⟨i, j, ha.raw_inv, hb.raw_inv, q _ H1 (Ex.refl _) (.raw _)⟩)
theorem rd_ltT {n m : Nat} (o : D.ok n (.tup ds) = true) (o' : D.ok m e = true) (hn : n ≤ 60) (al : PySem.W.alike (D.tup ds).py e.py = true) : RD K (rLtX K) (.tup ds) e H (dB (PySem.W.dataLt (D.tup ds).py e.py)) := fun H1 _ a b ha hb Q q =>
  .inr (.inr ⟨_, _, n, m, ha, hb, o, o', hn, al, ⟨_, rfl⟩, q _ H1 (Ex.refl _) (.raw _)⟩)
/-! ### in, not in -/
def rInC : R2 := fun x y H Q => ∃ (c : Nat) (z : Str), x = .str ⟨#[c]⟩ ∧ y = .str z ∧ Q (.bl (decide (c ∈ z.cps.toList))) H
def rInX (K : PySem.W.Frag) : R2 := fun x y H Q => rInC x y H Q ∨ rIn K false x y H Q
theorem op_inX : OpR X (compareOp .In) (rInX X.K) := op_in_sign.or op_in_seq
theorem rd_inC {c : Nat} {z : Str} : RD K (rInX K) (dS ⟨#[c]⟩) (dS z) H (dB (decide (c ∈ z.cps.toList))) := fun H1 _ a b ha hb Q q => .inl ⟨c, z, ha.raw_inv, hb.raw_inv, q _ H1 (Ex.refl _) (.raw _)⟩
theorem eqV_str {x y : Str} : eqV (.str x) (.str y) = decide (x = y) := by
  first | rfl | simp [eqV]
theorem inV_strs {x : Str} {xs : List Str} : inV (.str x) (xs.map V.str) = decide (x ∈ xs) := by
  induction xs with
  | nil => rfl
  | cons y ys ih =>
    have e : inV (.str x) ((y :: ys).map V.str) = (eqV (.str y) (.str x) || inV (.str x) (ys.map V.str)) := rfl
    rw [e, ih, eqV_str]
    by_cases h : y = x
    · subst h; simp
    · have h' : ¬ x = y := fun q => h q.symm
      simp [h, h']
theorem flat_strs {xs : List Str} : (xs.map V.str).all flatV = true := by
  induction xs with
  | nil => rfl
  | cons y ys ih => rw [List.map_cons, List.all_cons, ih]; rfl
theorem strs_raw {xs : List Str} : xs.map dS = (xs.map V.str).map D.raw := by rw [List.map_map]; rfl
theorem rd_inT {x : Str} {xs : List Str} : RD K (rInX K) (dS x) (.tup (xs.map dS)) H (dB (decide (x ∈ xs))) := fun H1 _ a b ha hb Q q => by
  obtain ⟨p, ys, rfl, hp, r⟩ := hb.tup_inv
  rw [strs_raw] at r
  have e := r.raws_inv
  subst e
  rw [ha.raw_inv]
  refine .inr ⟨p, _, rfl, .inr hp, rfl, flat_strs, ?_⟩
  show Q (.bl (inV (.str x) (xs.map V.str))) H1
  rw [inV_strs]
  exact q _ H1 (Ex.refl _) (.raw _)
theorem rd_inL {x : Str} {xs : List Str} : RD K (rInX K) (dS x) (.lst (xs.map dS)) H (dB (decide (x ∈ xs))) := fun H1 _ a b ha hb Q q => by
  obtain ⟨p, ys, rfl, hp, r⟩ := hb.lst_inv
  rw [strs_raw] at r
  have e := r.raws_inv
  subst e
  rw [ha.raw_inv]
  refine .inr ⟨p, _, rfl, .inl (SqL.of hp), rfl, flat_strs, ?_⟩
  show Q (.bl (inV (.str x) (xs.map V.str))) H1
  rw [inV_strs]
  exact q _ H1 (Ex.refl _) (.raw _)
/-! ### subscripts -/
theorem rd_ixX {i : Int} {n : Nat} (e : i = (n : Int)) (h : ds[n]? = some d) : RD K (rIx K) (.tup ds) (dI i) H d := fun H1 e1 x y hx hy Q q => .inr (.inl (rd_ixT (K := K) e h H1 e1 x y hx hy Q q))
theorem rd_ixXL {i : Int} {n : Nat} (e : i = (n : Int)) (h : ds[n]? = some d) : RD K (rIx K) (.lst ds) (dI i) H d := fun H1 e1 x y hx hy Q q => .inl (rd_ixL (K := K) e h H1 e1 x y hx hy Q q)
theorem rd_ixS {z : Str} {i : Int} {c : Nat} (hz : z.length ≤ 100000) (h : atI z.cps.toList i = some c) : RD K (rIx K) (dS z) (dI i) H (dS ⟨#[c]⟩) := fun H1 e1 x y hx hy Q q => .inr (.inr (by
  rw [hx.raw_inv, hy.raw_inv]
  exact rv_ixS (H := H) hz h H1 e1 Q fun H2 e2 => q _ H2 e2 (.raw _)))
/-! ### slices -/
def rSlX (K : PySem.W.Frag) : V → Option Int → Option Int → Hp → VK → Prop := fun x lo hi H Q => rSlL K x lo hi H Q ∨ rSlA K x lo hi H Q ∨ C8.rSlX x lo hi H Q
theorem sl_any : SlR X (rSlX X.K) := sl_list.or (sl_tupA.or C8.sl_txt)
def cutD (ds : List D) (lo hi : Option Int) : List D := (ds.drop (HT.sIx ds.length 0 lo)).take (HT.sIx ds.length ds.length hi - HT.sIx ds.length 0 lo)
theorem Rps.cut {xs : List V} {lo hi : Option Int} (r : Rps K H xs ds) : Rps K H (cutV xs lo hi) (cutD ds lo hi) := by
  unfold cutV cutD
  rw [r.len]
  exact (r.drop _).take _
theorem dv_slL {te : TE} {tl th : TO} {lo hi : Option Int} (h : EvD K te σ H (.lst ds)) (h1 : EvO tl σ H lo) (h2 : EvO th σ H hi) : EvD K (tSl (rSlX K) te tl th) σ H (.lst (cutD ds lo hi)) := fun H1 e _ q =>
  h H1 e _ fun v H2 e2 r => h1 H2 (e.trans e2) _ fun H3 e3 => h2 H3 ((e.trans e2).trans e3) _ fun H4 e4 => by
    obtain ⟨a, xs, rfl, hs, rr⟩ := (r.mono (e3.trans e4)).lst_inv
    exact .inl ⟨a, xs, rfl, SqL.of hs, fun p hp => q _ _ (((e2.trans e3).trans e4).trans (Ex.new hp)) (.lst upd_same (rr.cut.mono (Ex.new hp)))⟩
theorem dv_slT {te : TE} {tl th : TO} {lo hi : Option Int} (h : EvD K te σ H (.tup ds)) (h1 : EvO tl σ H lo) (h2 : EvO th σ H hi) : EvD K (tSl (rSlX K) te tl th) σ H (.tup (cutD ds lo hi)) := fun H1 e _ q =>
  h H1 e _ fun v H2 e2 r => h1 H2 (e.trans e2) _ fun H3 e3 => h2 H3 ((e.trans e2).trans e3) _ fun H4 e4 => by
    obtain ⟨a, xs, rfl, hs, rr⟩ := (r.mono (e3.trans e4)).tup_inv
    refine .inr (.inl ⟨a, xs, rfl, hs, fun z => q _ H4 ((e2.trans e3).trans e4) ?_, fun z p hp => q _ _ (((e2.trans e3).trans e4).trans (Ex.new hp)) (.tup (SqT.of upd_same) (rr.cut.mono (Ex.new hp)))⟩)
    have ec : cutD ds lo hi = ds := by
      unfold cutD
      rw [← rr.len, z.1, z.2]
      simp [rr.len]
    rw [ec]
    exact .tup hs rr
theorem dv_slS {te : TE} {tl th : TO} {lo hi : Option Int} {z : Str} (hz : z.length ≤ 100000) (h : EvD K te σ H (dS z)) (h1 : EvO tl σ H lo) (h2 : EvO th σ H hi) : EvD K (tSl (rSlX K) te tl th) σ H (dS (Txt.slice z lo hi)) := fun H1 e _ q =>
  h H1 e _ fun v H2 e2 r => h1 H2 (e.trans e2) _ fun H3 e3 => h2 H3 ((e.trans e2).trans e3) _ fun H4 e4 => by
    rw [r.raw_inv]
    exact .inr (.inr ⟨z, rfl, sz_of hz, q _ H4 ((e2.trans e3).trans e4) (.raw _)⟩)
/-! ### sorted of a list -/
theorem each_of {H : Hp} {P : V → D → Prop} : ∀ {xs : List V} {us : List Value} {ds : List D}, Vals xs us → Rps K H xs ds → (∀ x d, Rp K H x d → P x d) → PySem.W.EachIs (fun u (p : V × D) => RelV p.1 u ∧ P p.1 p.2 ∧ Rp K H p.1 p.2) us (xs.zip ds)
  | _, _, _, .nil, .nil, _ => .nil
  | _, _, _, .cons r s, .cons h t, k => .cons ⟨r, k _ _ h, h⟩ (each_of s t k)
theorem each_back {H : Hp} : ∀ {us : List Value} {ps : List (V × D)}, PySem.W.EachIs (fun u (p : V × D) => RelV p.1 u ∧ True ∧ Rp K H p.1 p.2) us ps → Vals (ps.map (·.1)) us ∧ Rps K H (ps.map (·.1)) (ps.map (·.2))
  | _, _, .nil => ⟨.nil, .nil⟩
  | _, _, .cons h t => by
    obtain ⟨h1, h2⟩ := each_back t
    exact ⟨.cons h.1 h1, .cons h.2.2 h2⟩
theorem zip_fst_snd : ∀ {xs : List V} {ds : List D}, xs.length = ds.length → (xs.zip ds).map (·.2) = ds
  | [], [], _ => rfl
  | x :: xs, d :: ds, h => by
    rw [List.zip_cons_cons, List.map_cons, zip_fst_snd (by simpa using h)]
def rSortD (K : PySem.W.Frag) : List V → Hp → VK → Prop := fun vs H Q => ∃ (a : Addr) (xs : List V) (ds : List D) (n : Nat), vs = [.ref a] ∧ H a = some (.lst xs) ∧ Rps K H xs ds ∧ D.oks n ds = true ∧ n ≤ 40 ∧
  PySem.W.AllAlike (ds.map D.py) ∧ PySem.W.Sortable (ds.map D.py) ∧ ds.length ≤ 100000 ∧ ∀ p ys, H p = none → Rps K H ys (ds.mergeSort (PySem.W.dataLe false D.py)) → Q (.ref p) (upd H p (.lst ys))
theorem cr_sortD (hu : X.A.units + 64 < cLine) : CallR X (.builtin "sorted") (rSortD X.K) := by
  intro pins s σ H vs us Q I r h
  obtain ⟨a, xs, ds, n, rfl, ha, rr, ok, hn, al, so, hz, q⟩ := h
  obtain ⟨u, rfl, ru⟩ := vals1 r
  cases ru
  obtain ⟨its, rv, pl, hzl⟩ := I.list (SqL.of ha)
  have e1 := each_of (K := X.K) (P := fun _ _ => True) rv rr fun _ _ _ => trivial
  have er : PySem.W.EachIs (fun v (b : V × D) => ∃ as, Reads s.heap v b.2.py as) its (xs.zip ds) := by
    have hok := oks_mem ok
    clear e1 pl hzl al so hz q ha ok
    induction rv generalizing ds with
    | nil => cases rr; exact .nil
    | cons r0 r1 ih =>
      cases rr with
      | cons h0 h1 =>
        refine .cons ?_ (ih _ h1 fun d hd => hok d (List.mem_cons_of_mem _ hd))
        exact Dp.reads I _ _ _ (dp_of (hok _ List.mem_cons_self) h0) r0
  have hmap : (xs.zip ds).map (fun b : V × D => b.2.py) = ds.map D.py := by
    have e := List.map_map (f := fun p : V × D => p.2) (g := D.py) (l := xs.zip ds)
    rw [zip_fst_snd rr.len] at e
    exact e.symm
  refine PySem.W.sorted_data (vs := its) (bs := xs.zip ds) (enc := fun b => b.2.py) (R := fun u (p : V × D) => RelV p.1 u ∧ True ∧ Rp X.K H p.1 p.2) pl.isList e1 er (by rw [hmap]; exact al) (by rw [hmap]; exact so) ?_ ?_ fun out hl eo => ?_
  · rw [List.length_zip, rr.len, Nat.min_self]; exact sz_of hz
  · intro b hb
    have hm : b.2 ∈ ds := by
      have e := List.mem_map_of_mem (f := fun p : V × D => p.2) hb
      rwa [zip_fst_snd rr.len] at e
    have := (canLay_ok (oks_mem ok _ hm)).2
    omega
  · obtain ⟨v1, v2⟩ := each_back eo
    have es : ((xs.zip ds).mergeSort (PySem.W.dataLe false fun b : V × D => b.2.py)).map (·.2) = ds.mergeSort (PySem.W.dataLe false D.py) := by
      have e := PySem.W.sort_maps (fun p : V × D => p.2) (r := PySem.W.dataLe false fun b : V × D => b.2.py) (s := PySem.W.dataLe false D.py) (l := xs.zip ds) fun a _ b _ => rfl
      rw [zip_fst_snd rr.len] at e
      exact e
    rw [es] at v2
    obtain ⟨c, hc⟩ := sortedAll_at s.heap its out.toArray
    have hn : H (s.heap.objs.size + 1) = none := I.hok.fresh (Nat.le_succ _)
    refine ⟨.ref (s.heap.objs.size + 1), _, I.laid (t' := s.toks) (o := .lst _) (fun b o e => sortedAll_old e) (Nat.le_succ _) ⟨?_, out, c, v1, hc⟩, rfl, q _ _ hn v2⟩
    rw [v2.len, List.length_mergeSort]
    exact sz_of hz
end
end Pa
set_option Elab.async false
set_option linter.all false
set_option maxRecDepth 100000
set_option maxHeartbeats 4000000
namespace Pa
open PySem PySem.Spec PyProof.Rows L2 Evl
/-- what is known of the module -/
structure Wd (K : PySem.W.Frag) (mg : Str → Option Value) (base : Heap) : Prop where
  X : K.In base
  G : base.Ns mainGlobals mg
  z : SaysZ K
section
variable {P : Program} {w : World} {K : PySem.W.Frag} {mg : Str → Option Value} {base : Heap}
theorem Wd.d (T : Wd K mg base) : He.SaysD fa fn K := congrArg (fun z : AlZ => z.1) T.z
theorem Wd.c (T : Wd K mg base) : fc.map (fun d => fnC K d.at_) = fc.map DefCval := congrArg (fun z : AlZ => z.2.1) T.z
theorem Wd.ex (T : Wd K mg base) : Pa.ex K = true := congrArg (fun z : AlZ => z.2.2) T.z
theorem Wd.fact (T : Wd K mg base) (i : Nat) {f : He.Fa} (h : fa[i]? = some f) : f.ok K = true := T.d.fact i h
theorem Wd.free (T : Wd K mg base) (i : Nat) {x : Str} (h : fa[i]? = some (.free x)) : mg x = none := He.free_ok T.X T.G (T.fact i h)
theorem Wd.glo (T : Wd K mg base) (i : Nat) {x : Str} (h : fa[i]? = some (.glo x)) : mg x = some (.ref (He.ga K x)) := He.glo_ok T.X T.G (T.fact i h)
theorem Wd.gloK (T : Wd K mg base) (i : Nat) {x : Str} (h : fa[i]? = some (.glo x)) : ∃ u, mg x = some u ∧ RelV (.ref (He.ga K x)) u := ⟨_, T.glo i h, rfl⟩
theorem Wd.str (T : Wd K mg base) (i : Nat) {x y : Str} (h : fa[i]? = some (.str x y)) : ∃ u, mg x = some u ∧ RelV (.str y) u := by
  obtain ⟨t, e⟩ := He.str_ok T.X T.G (T.fact i h)
  exact ⟨_, e, t, rfl⟩
theorem Wd.int (T : Wd K mg base) (i : Nat) {x : Str} {n : Int} (h : fa[i]? = some (.int x n)) : ∃ u, mg x = some u ∧ RelV (.int n) u := by
  obtain ⟨t, e⟩ := He.int_ok T.X T.G (T.fact i h)
  exact ⟨_, e, t, rfl⟩
theorem Wd.cls (T : Wd K mg base) (i : Nat) {x : Str} (h : fa[i]? = some (.cls x)) : Cls K (He.ga K x) := He.cls_ok (T.fact i h)
theorem Wd.mkr (T : Wd K mg base) (i : Nat) {x : Str} (h : fa[i]? = some (.mkr x)) : Mk K (He.ga K x) (He.ma K (He.ga K x) "__init__") := He.mkr_ok (T.fact i h)
theorem Wd.noat (T : Wd K mg base) (i : Nat) {x f : Str} (h : fa[i]? = some (.noat x f)) : NoAttr K (He.ga K x) f := He.noat_ok (T.fact i h)
theorem Wd.meth (T : Wd K mg base) (i : Nat) {x m : Str} (h : fa[i]? = some (.meth x m)) : Meth K (He.ga K x) m (He.ma K (He.ga K x) m) := He.meth_ok (T.fact i h)
/-- THE RULE for a def of the module -/
theorem cal_of (T : Wd K mg base) (i j : Nat) {d : He.DefD} {x : Str} {N ps : List Str} {k : Nat} {sp : Sp} (hd : fn[i]? = some d) (hx : fa[j]? = some (.glo x)) (ha : d.at_ = (x, none)) (h0 : d.dfl = []) (h1 : d.kwd = [])
    (S : FnScope N ps d.scope) (len : ∀ vs H Q E, sp vs H Q E → vs.length = ps.length)
    (hb : ∀ (kV doc pm : Value) (an : Option Addr) (cdv ct : Value) (us : List Value), us.length = ps.length → bindArgs (PySem.W.fnOf d.name d.qual d.params d.body d.scope .none kV doc pm an cdv ct) ⟨us, []⟩ = pure (ps.zip us))
    (hbody : ∀ (cdv : Value) (A : Around) (outer : List Env) (s : Shared) (H : Hp) (vs : List V) (Q : VK) (E : XK), Room k (A.deeper (envOfC d.qual d.scope s.heap.objs.size (He.ga K x) cdv)) → sp vs H Q E →
      ∃ t, PSs (cxOf CX0 P w K mg base N d.qual d.scope (He.ga K x) cdv A outer s H E).nox d.body t ∧ t { nx := fun _ H' => Q .non H', rt := Q } (start N vs) H) : C8.Cal P w K mg base (k + 1) x sp [] := by
  obtain ⟨fd, F⟩ := T.d.def_ i hd
  have e0 : d.dvs K = [] := by unfold He.DefD.dvs; rw [h0]; rfl
  have e1 : d.kws K = [] := by unfold He.DefD.kws; rw [h1]; rfl
  have ea : He.fAd K d.at_ = He.ga K x := by rw [ha]; rfl
  rw [e0, e1, ea] at F
  have b : Binds K fd ps [] := F.bindsN hb
  refine ⟨He.ga K x, fd, ps, [], F.ok S len (fun cdv A outer s H vs Q E hr h => ?_), T.glo j hx, F.kp, b, .nil⟩
  obtain ⟨t, ht, q⟩ := hbody cdv A outer s H vs Q E hr h
  exact ⟨t, ht.nox, q⟩
/-- a name that holds a def, called -/
def tCallH (P : Program) (w : World) (K : PySem.W.Frag) (mg : Str → Option Value) (base : Heap) (j i : Nat) (t : TA) : TE := fun σ H Q => ∃ f sp, σ[i]? = some (some (.ref f)) ∧ C8.CalAt P w K mg base j f sp ∧ t σ H fun vs H1 => sp vs H1 Q E0
end
section
variable {X : Cx} {k j : Nat} {x : Str} {sp : Sp} {p pos : Pos} {e : Expr} {es : List Expr} {t : TA}
theorem pe_callH {i : Nat} (hr : Room j X.A) (hN : X.N[i]? = some x) (hv : Vis X.env.scope x) (ha : PA X (e :: es) t)
    (hd : (x == ("__debug__" : Str)) = false := by decide) (hcd : (x == ("__classdict__" : Str)) = false := by decide)
    (he : starEach (e :: es) X.env = (false, eval e X.env) :: starEach es X.env := by rfl) (hpl : (backTo pos (starEach es X.env)).any (·.1) = false := by rfl) :
    PE X (.Call (.Name x p) (e :: es) [] pos) (tCallH X.prog X.w X.K X.mg X.base j i t) := by
  refine ⟨fun pins s σ H Q I h => ?_⟩
  obtain ⟨f, sp, hs, hc, ht⟩ := h
  obtain ⟨fd, ps, F, kp, b⟩ := hc.ex
  refine wpAny_Call_Name_kw (thn ((pe_var (pos := p) hN hv hd hcd).run pins s σ H (fun v H1 => v = .ref f ∧ H1 = H) I ⟨.ref f, hs, rfl, rfl⟩) fun u s1 ⟨v, H1, I1, r1, q1⟩ => ?_)
  obtain ⟨rfl, rfl⟩ := q1
  cases r1
  refine PySem.W.callWith_K (h₀ := X.base) I.ok.mod.kin kp (thn (ha.run pos pins s1 σ _ _ I1 ht) fun us s2 ⟨vs, H2, I2, r, q⟩ => ⟨I2.kIn, ?_⟩) he hpl
  exact run_fn F hr b .nil pass0 I2 r (by rw [List.append_nil]; exact q)
theorem at_of_cal {P : Program} {w : World} {K : PySem.W.Frag} {mg : Str → Option Value} {base : Heap} (c : C8.Cal P w K mg base k x sp []) (hk : k ≤ j) {f : Addr} (hm : mg x = some (.ref f)) : C8.CalAt P w K mg base j f sp := by
  obtain ⟨f', fd, ps, ds, F, hm', kp, b, d⟩ := c.ex
  rw [hm] at hm'
  cases hm'
  cases d
  exact ⟨fd, ps, F.mono hk, kp, b⟩
end
section
variable {K : PySem.W.Frag} {mg : Str → Option Value} {base : Heap}

theorem Wd.g_all (T : Wd K mg base) : mg "all" = none := T.free 0 rfl
theorem Wd.g_any (T : Wd K mg base) : mg "any" = none := T.free 1 rfl
theorem Wd.g_bool (T : Wd K mg base) : mg "bool" = none := T.free 2 rfl
theorem Wd.g_dict (T : Wd K mg base) : mg "dict" = none := T.free 3 rfl
theorem Wd.g_enumerate (T : Wd K mg base) : mg "enumerate" = none := T.free 4 rfl
theorem Wd.g_int (T : Wd K mg base) : mg "int" = none := T.free 5 rfl
theorem Wd.g_isinstance (T : Wd K mg base) : mg "isinstance" = none := T.free 6 rfl
theorem Wd.g_len (T : Wd K mg base) : mg "len" = none := T.free 7 rfl
theorem Wd.g_list (T : Wd K mg base) : mg "list" = none := T.free 8 rfl
theorem Wd.g_max (T : Wd K mg base) : mg "max" = none := T.free 9 rfl
theorem Wd.g_min (T : Wd K mg base) : mg "min" = none := T.free 10 rfl
theorem Wd.g_range (T : Wd K mg base) : mg "range" = none := T.free 11 rfl
theorem Wd.g_sorted (T : Wd K mg base) : mg "sorted" = none := T.free 12 rfl
theorem Wd.g_str (T : Wd K mg base) : mg "str" = none := T.free 13 rfl
theorem Wd.g_super (T : Wd K mg base) : mg "super" = none := T.free 14 rfl
theorem Wd.g_tuple (T : Wd K mg base) : mg "tuple" = none := T.free 15 rfl
theorem Wd.g_zip (T : Wd K mg base) : mg "zip" = none := T.free 16 rfl
theorem Wd.m_is_integer (T : Wd K mg base) : mg "is_integer" = some (.ref (He.ga K "is_integer")) := T.glo 17 rfl
theorem Wd.k_is_integer (T : Wd K mg base) : ∃ u, mg "is_integer" = some u ∧ RelV (.ref (He.ga K "is_integer")) u := T.gloK 17 rfl
theorem Wd.m_is_number (T : Wd K mg base) : mg "is_number" = some (.ref (He.ga K "is_number")) := T.glo 18 rfl
theorem Wd.k_is_number (T : Wd K mg base) : ∃ u, mg "is_number" = some u ∧ RelV (.ref (He.ga K "is_number")) u := T.gloK 18 rfl
theorem Wd.m_is_name (T : Wd K mg base) : mg "is_name" = some (.ref (He.ga K "is_name")) := T.glo 19 rfl
theorem Wd.k_is_name (T : Wd K mg base) : ∃ u, mg "is_name" = some u ∧ RelV (.ref (He.ga K "is_name")) u := T.gloK 19 rfl
theorem Wd.m_is_tuple_of (T : Wd K mg base) : mg "is_tuple_of" = some (.ref (He.ga K "is_tuple_of")) := T.glo 20 rfl
theorem Wd.k_is_tuple_of (T : Wd K mg base) : ∃ u, mg "is_tuple_of" = some u ∧ RelV (.ref (He.ga K "is_tuple_of")) u := T.gloK 20 rfl
theorem Wd.m_are_names (T : Wd K mg base) : mg "are_names" = some (.ref (He.ga K "are_names")) := T.glo 21 rfl
theorem Wd.k_are_names (T : Wd K mg base) : ∃ u, mg "are_names" = some u ∧ RelV (.ref (He.ga K "are_names")) u := T.gloK 21 rfl
theorem Wd.m_is_ascending (T : Wd K mg base) : mg "is_ascending" = some (.ref (He.ga K "is_ascending")) := T.glo 22 rfl
theorem Wd.k_is_ascending (T : Wd K mg base) : ∃ u, mg "is_ascending" = some u ∧ RelV (.ref (He.ga K "is_ascending")) u := T.gloK 22 rfl
theorem Wd.m_is_people (T : Wd K mg base) : mg "is_people" = some (.ref (He.ga K "is_people")) := T.glo 23 rfl
theorem Wd.k_is_people (T : Wd K mg base) : ∃ u, mg "is_people" = some u ∧ RelV (.ref (He.ga K "is_people")) u := T.gloK 23 rfl
theorem Wd.m_window_limits (T : Wd K mg base) : mg "window_limits" = some (.ref (He.ga K "window_limits")) := T.glo 24 rfl
theorem Wd.k_window_limits (T : Wd K mg base) : ∃ u, mg "window_limits" = some u ∧ RelV (.ref (He.ga K "window_limits")) u := T.gloK 24 rfl
theorem Wd.m_tie_limits (T : Wd K mg base) : mg "tie_limits" = some (.ref (He.ga K "tie_limits")) := T.glo 25 rfl
theorem Wd.k_tie_limits (T : Wd K mg base) : ∃ u, mg "tie_limits" = some u ∧ RelV (.ref (He.ga K "tie_limits")) u := T.gloK 25 rfl
theorem Wd.m_shortest (T : Wd K mg base) : mg "shortest" = some (.ref (He.ga K "shortest")) := T.glo 26 rfl
theorem Wd.k_shortest (T : Wd K mg base) : ∃ u, mg "shortest" = some u ∧ RelV (.ref (He.ga K "shortest")) u := T.gloK 26 rfl
theorem Wd.m_tightest (T : Wd K mg base) : mg "tightest" = some (.ref (He.ga K "tightest")) := T.glo 27 rfl
theorem Wd.k_tightest (T : Wd K mg base) : ∃ u, mg "tightest" = some u ∧ RelV (.ref (He.ga K "tightest")) u := T.gloK 27 rfl
theorem Wd.m_require (T : Wd K mg base) : mg "require" = some (.ref (He.ga K "require")) := T.glo 28 rfl
theorem Wd.k_require (T : Wd K mg base) : ∃ u, mg "require" = some u ∧ RelV (.ref (He.ga K "require")) u := T.gloK 28 rfl
theorem Wd.m_is_row (T : Wd K mg base) : mg "is_row" = some (.ref (He.ga K "is_row")) := T.glo 29 rfl
theorem Wd.k_is_row (T : Wd K mg base) : ∃ u, mg "is_row" = some u ∧ RelV (.ref (He.ga K "is_row")) u := T.gloK 29 rfl
theorem Wd.m_is_tie (T : Wd K mg base) : mg "is_tie" = some (.ref (He.ga K "is_tie")) := T.glo 30 rfl
theorem Wd.k_is_tie (T : Wd K mg base) : ∃ u, mg "is_tie" = some u ∧ RelV (.ref (He.ga K "is_tie")) u := T.gloK 30 rfl
theorem Wd.m_are_waits (T : Wd K mg base) : mg "are_waits" = some (.ref (He.ga K "are_waits")) := T.glo 31 rfl
theorem Wd.k_are_waits (T : Wd K mg base) : ∃ u, mg "are_waits" = some u ∧ RelV (.ref (He.ga K "are_waits")) u := T.gloK 31 rfl
theorem Wd.m_check_rows (T : Wd K mg base) : mg "check_rows" = some (.ref (He.ga K "check_rows")) := T.glo 32 rfl
theorem Wd.k_check_rows (T : Wd K mg base) : ∃ u, mg "check_rows" = some u ∧ RelV (.ref (He.ga K "check_rows")) u := T.gloK 32 rfl
theorem Wd.m_check_ties (T : Wd K mg base) : mg "check_ties" = some (.ref (He.ga K "check_ties")) := T.glo 33 rfl
theorem Wd.k_check_ties (T : Wd K mg base) : ∃ u, mg "check_ties" = some u ∧ RelV (.ref (He.ga K "check_ties")) u := T.gloK 33 rfl
theorem Wd.m_lets_party (T : Wd K mg base) : mg "lets_party" = some (.ref (He.ga K "lets_party")) := T.glo 34 rfl
theorem Wd.k_lets_party (T : Wd K mg base) : ∃ u, mg "lets_party" = some u ∧ RelV (.ref (He.ga K "lets_party")) u := T.gloK 34 rfl
theorem Wd.m_lets_case (T : Wd K mg base) : mg "lets_case" = some (.ref (He.ga K "lets_case")) := T.glo 35 rfl
theorem Wd.k_lets_case (T : Wd K mg base) : ∃ u, mg "lets_case" = some u ∧ RelV (.ref (He.ga K "lets_case")) u := T.gloK 35 rfl
theorem Wd.m_people_of (T : Wd K mg base) : mg "people_of" = some (.ref (He.ga K "people_of")) := T.glo 36 rfl
theorem Wd.k_people_of (T : Wd K mg base) : ∃ u, mg "people_of" = some u ∧ RelV (.ref (He.ga K "people_of")) u := T.gloK 36 rfl
theorem Wd.m_fresh_names (T : Wd K mg base) : mg "fresh_names" = some (.ref (He.ga K "fresh_names")) := T.glo 37 rfl
theorem Wd.k_fresh_names (T : Wd K mg base) : ∃ u, mg "fresh_names" = some u ∧ RelV (.ref (He.ga K "fresh_names")) u := T.gloK 37 rfl
theorem Wd.m_renamed_row (T : Wd K mg base) : mg "renamed_row" = some (.ref (He.ga K "renamed_row")) := T.glo 38 rfl
theorem Wd.k_renamed_row (T : Wd K mg base) : ∃ u, mg "renamed_row" = some u ∧ RelV (.ref (He.ga K "renamed_row")) u := T.gloK 38 rfl
theorem Wd.m_renamed_tie (T : Wd K mg base) : mg "renamed_tie" = some (.ref (He.ga K "renamed_tie")) := T.glo 39 rfl
theorem Wd.k_renamed_tie (T : Wd K mg base) : ∃ u, mg "renamed_tie" = some u ∧ RelV (.ref (He.ga K "renamed_tie")) u := T.gloK 39 rfl
theorem Wd.m_renamed (T : Wd K mg base) : mg "renamed" = some (.ref (He.ga K "renamed")) := T.glo 40 rfl
theorem Wd.k_renamed (T : Wd K mg base) : ∃ u, mg "renamed" = some u ∧ RelV (.ref (He.ga K "renamed")) u := T.gloK 40 rfl
theorem Wd.m_later_row (T : Wd K mg base) : mg "later_row" = some (.ref (He.ga K "later_row")) := T.glo 41 rfl
theorem Wd.k_later_row (T : Wd K mg base) : ∃ u, mg "later_row" = some u ∧ RelV (.ref (He.ga K "later_row")) u := T.gloK 41 rfl
theorem Wd.m_later (T : Wd K mg base) : mg "later" = some (.ref (He.ga K "later")) := T.glo 42 rfl
theorem Wd.k_later (T : Wd K mg base) : ∃ u, mg "later" = some u ∧ RelV (.ref (He.ga K "later")) u := T.gloK 42 rfl
theorem Wd.m_number_or_none (T : Wd K mg base) : mg "number_or_none" = some (.ref (He.ga K "number_or_none")) := T.glo 43 rfl
theorem Wd.k_number_or_none (T : Wd K mg base) : ∃ u, mg "number_or_none" = some u ∧ RelV (.ref (He.ga K "number_or_none")) u := T.gloK 43 rfl
theorem Wd.m_integer_or_none (T : Wd K mg base) : mg "integer_or_none" = some (.ref (He.ga K "integer_or_none")) := T.glo 44 rfl
theorem Wd.k_integer_or_none (T : Wd K mg base) : ∃ u, mg "integer_or_none" = some u ∧ RelV (.ref (He.ga K "integer_or_none")) u := T.gloK 44 rfl
theorem Wd.m_minutes_or_none (T : Wd K mg base) : mg "minutes_or_none" = some (.ref (He.ga K "minutes_or_none")) := T.glo 45 rfl
theorem Wd.k_minutes_or_none (T : Wd K mg base) : ∃ u, mg "minutes_or_none" = some u ∧ RelV (.ref (He.ga K "minutes_or_none")) u := T.gloK 45 rfl
theorem Wd.m_name_or_none (T : Wd K mg base) : mg "name_or_none" = some (.ref (He.ga K "name_or_none")) := T.glo 46 rfl
theorem Wd.k_name_or_none (T : Wd K mg base) : ∃ u, mg "name_or_none" = some u ∧ RelV (.ref (He.ga K "name_or_none")) u := T.gloK 46 rfl
theorem Wd.m_people_or_none (T : Wd K mg base) : mg "people_or_none" = some (.ref (He.ga K "people_or_none")) := T.glo 47 rfl
theorem Wd.k_people_or_none (T : Wd K mg base) : ∃ u, mg "people_or_none" = some u ∧ RelV (.ref (He.ga K "people_or_none")) u := T.gloK 47 rfl
theorem Wd.m_people_word (T : Wd K mg base) : mg "people_word" = some (.ref (He.ga K "people_word")) := T.glo 48 rfl
theorem Wd.k_people_word (T : Wd K mg base) : ∃ u, mg "people_word" = some u ∧ RelV (.ref (He.ga K "people_word")) u := T.gloK 48 rfl
theorem Wd.m_kind_or_none (T : Wd K mg base) : mg "kind_or_none" = some (.ref (He.ga K "kind_or_none")) := T.glo 49 rfl
theorem Wd.k_kind_or_none (T : Wd K mg base) : ∃ u, mg "kind_or_none" = some u ∧ RelV (.ref (He.ga K "kind_or_none")) u := T.gloK 49 rfl
theorem Wd.m_values_read (T : Wd K mg base) : mg "values_read" = some (.ref (He.ga K "values_read")) := T.glo 50 rfl
theorem Wd.k_values_read (T : Wd K mg base) : ∃ u, mg "values_read" = some u ∧ RelV (.ref (He.ga K "values_read")) u := T.gloK 50 rfl
theorem Wd.m_person_read (T : Wd K mg base) : mg "person_read" = some (.ref (He.ga K "person_read")) := T.glo 51 rfl
theorem Wd.k_person_read (T : Wd K mg base) : ∃ u, mg "person_read" = some u ∧ RelV (.ref (He.ga K "person_read")) u := T.gloK 51 rfl
theorem Wd.m_party_read (T : Wd K mg base) : mg "party_read" = some (.ref (He.ga K "party_read")) := T.glo 52 rfl
theorem Wd.k_party_read (T : Wd K mg base) : ∃ u, mg "party_read" = some u ∧ RelV (.ref (He.ga K "party_read")) u := T.gloK 52 rfl
theorem Wd.m_person_cells (T : Wd K mg base) : mg "person_cells" = some (.ref (He.ga K "person_cells")) := T.glo 53 rfl
theorem Wd.k_person_cells (T : Wd K mg base) : ∃ u, mg "person_cells" = some u ∧ RelV (.ref (He.ga K "person_cells")) u := T.gloK 53 rfl
theorem Wd.m_party_table (T : Wd K mg base) : mg "party_table" = some (.ref (He.ga K "party_table")) := T.glo 54 rfl
theorem Wd.k_party_table (T : Wd K mg base) : ∃ u, mg "party_table" = some u ∧ RelV (.ref (He.ga K "party_table")) u := T.gloK 54 rfl
theorem Wd.m_person_line (T : Wd K mg base) : mg "person_line" = some (.ref (He.ga K "person_line")) := T.glo 55 rfl
theorem Wd.k_person_line (T : Wd K mg base) : ∃ u, mg "person_line" = some u ∧ RelV (.ref (He.ga K "person_line")) u := T.gloK 55 rfl
theorem Wd.m_tie_line (T : Wd K mg base) : mg "tie_line" = some (.ref (He.ga K "tie_line")) := T.glo 56 rfl
theorem Wd.k_tie_line (T : Wd K mg base) : ∃ u, mg "tie_line" = some u ∧ RelV (.ref (He.ga K "tie_line")) u := T.gloK 56 rfl
theorem Wd.m_party_text (T : Wd K mg base) : mg "party_text" = some (.ref (He.ga K "party_text")) := T.glo 57 rfl
theorem Wd.k_party_text (T : Wd K mg base) : ∃ u, mg "party_text" = some u ∧ RelV (.ref (He.ga K "party_text")) u := T.gloK 57 rfl
theorem Wd.m_Window (T : Wd K mg base) : mg "Window" = some (.ref (He.ga K "Window")) := T.glo 58 rfl
theorem Wd.k_Window (T : Wd K mg base) : ∃ u, mg "Window" = some u ∧ RelV (.ref (He.ga K "Window")) u := T.gloK 58 rfl
theorem Wd.m_Visitor (T : Wd K mg base) : mg "Visitor" = some (.ref (He.ga K "Visitor")) := T.glo 59 rfl
theorem Wd.k_Visitor (T : Wd K mg base) : ∃ u, mg "Visitor" = some u ∧ RelV (.ref (He.ga K "Visitor")) u := T.gloK 59 rfl
theorem Wd.m_Waiter (T : Wd K mg base) : mg "Waiter" = some (.ref (He.ga K "Waiter")) := T.glo 60 rfl
theorem Wd.k_Waiter (T : Wd K mg base) : ∃ u, mg "Waiter" = some u ∧ RelV (.ref (He.ga K "Waiter")) u := T.gloK 60 rfl
theorem Wd.m_Guide (T : Wd K mg base) : mg "Guide" = some (.ref (He.ga K "Guide")) := T.glo 61 rfl
theorem Wd.k_Guide (T : Wd K mg base) : ∃ u, mg "Guide" = some u ∧ RelV (.ref (He.ga K "Guide")) u := T.gloK 61 rfl
theorem Wd.m_Host (T : Wd K mg base) : mg "Host" = some (.ref (He.ga K "Host")) := T.glo 62 rfl
theorem Wd.k_Host (T : Wd K mg base) : ∃ u, mg "Host" = some u ∧ RelV (.ref (He.ga K "Host")) u := T.gloK 62 rfl
theorem Wd.m__law_reader (T : Wd K mg base) : mg "_law_reader" = some (.ref (He.ga K "_law_reader")) := T.glo 63 rfl
theorem Wd.k__law_reader (T : Wd K mg base) : ∃ u, mg "_law_reader" = some u ∧ RelV (.ref (He.ga K "_law_reader")) u := T.gloK 63 rfl
theorem Wd.m__law_draw (T : Wd K mg base) : mg "_law_draw" = some (.ref (He.ga K "_law_draw")) := T.glo 64 rfl
theorem Wd.k__law_draw (T : Wd K mg base) : ∃ u, mg "_law_draw" = some u ∧ RelV (.ref (He.ga K "_law_draw")) u := T.gloK 64 rfl
theorem Wd.m__law_least_case (T : Wd K mg base) : mg "_law_least_case" = some (.ref (He.ga K "_law_least_case")) := T.glo 65 rfl
theorem Wd.k__law_least_case (T : Wd K mg base) : ∃ u, mg "_law_least_case" = some u ∧ RelV (.ref (He.ga K "_law_least_case")) u := T.gloK 65 rfl
theorem Wd.m__law_random_rows (T : Wd K mg base) : mg "_law_random_rows" = some (.ref (He.ga K "_law_random_rows")) := T.glo 66 rfl
theorem Wd.k__law_random_rows (T : Wd K mg base) : ∃ u, mg "_law_random_rows" = some u ∧ RelV (.ref (He.ga K "_law_random_rows")) u := T.gloK 66 rfl
theorem Wd.m__law_random_bonds (T : Wd K mg base) : mg "_law_random_bonds" = some (.ref (He.ga K "_law_random_bonds")) := T.glo 67 rfl
theorem Wd.k__law_random_bonds (T : Wd K mg base) : ∃ u, mg "_law_random_bonds" = some u ∧ RelV (.ref (He.ga K "_law_random_bonds")) u := T.gloK 67 rfl
theorem Wd.m__law_random_party (T : Wd K mg base) : mg "_law_random_party" = some (.ref (He.ga K "_law_random_party")) := T.glo 68 rfl
theorem Wd.k__law_random_party (T : Wd K mg base) : ∃ u, mg "_law_random_party" = some u ∧ RelV (.ref (He.ga K "_law_random_party")) u := T.gloK 68 rfl
theorem Wd.m__law_made (T : Wd K mg base) : mg "_law_made" = some (.ref (He.ga K "_law_made")) := T.glo 69 rfl
theorem Wd.k__law_made (T : Wd K mg base) : ∃ u, mg "_law_made" = some u ∧ RelV (.ref (He.ga K "_law_made")) u := T.gloK 69 rfl
theorem Wd.m__law_rows_of (T : Wd K mg base) : mg "_law_rows_of" = some (.ref (He.ga K "_law_rows_of")) := T.glo 70 rfl
theorem Wd.k__law_rows_of (T : Wd K mg base) : ∃ u, mg "_law_rows_of" = some u ∧ RelV (.ref (He.ga K "_law_rows_of")) u := T.gloK 70 rfl
theorem Wd.m__law_ends (T : Wd K mg base) : mg "_law_ends" = some (.ref (He.ga K "_law_ends")) := T.glo 71 rfl
theorem Wd.k__law_ends (T : Wd K mg base) : ∃ u, mg "_law_ends" = some u ∧ RelV (.ref (He.ga K "_law_ends")) u := T.gloK 71 rfl
theorem Wd.m__law_check_renamed (T : Wd K mg base) : mg "_law_check_renamed" = some (.ref (He.ga K "_law_check_renamed")) := T.glo 72 rfl
theorem Wd.k__law_check_renamed (T : Wd K mg base) : ∃ u, mg "_law_check_renamed" = some u ∧ RelV (.ref (He.ga K "_law_check_renamed")) u := T.gloK 72 rfl
theorem Wd.m__law_check_names (T : Wd K mg base) : mg "_law_check_names" = some (.ref (He.ga K "_law_check_names")) := T.glo 73 rfl
theorem Wd.k__law_check_names (T : Wd K mg base) : ∃ u, mg "_law_check_names" = some u ∧ RelV (.ref (He.ga K "_law_check_names")) u := T.gloK 73 rfl
theorem Wd.m__law_check_later (T : Wd K mg base) : mg "_law_check_later" = some (.ref (He.ga K "_law_check_later")) := T.glo 74 rfl
theorem Wd.k__law_check_later (T : Wd K mg base) : ∃ u, mg "_law_check_later" = some u ∧ RelV (.ref (He.ga K "_law_check_later")) u := T.gloK 74 rfl
theorem Wd.m_law (T : Wd K mg base) : mg "law" = some (.ref (He.ga K "law")) := T.glo 75 rfl
theorem Wd.k_law (T : Wd K mg base) : ∃ u, mg "law" = some u ∧ RelV (.ref (He.ga K "law")) u := T.gloK 75 rfl
theorem Wd.m_KINDS (T : Wd K mg base) : mg "KINDS" = some (.ref (He.ga K "KINDS")) := T.glo 76 rfl
theorem Wd.k_KINDS (T : Wd K mg base) : ∃ u, mg "KINDS" = some u ∧ RelV (.ref (He.ga K "KINDS")) u := T.gloK 76 rfl
theorem Wd.m_PERSON (T : Wd K mg base) : mg "PERSON" = some (.ref (He.ga K "PERSON")) := T.glo 77 rfl
theorem Wd.k_PERSON (T : Wd K mg base) : ∃ u, mg "PERSON" = some u ∧ RelV (.ref (He.ga K "PERSON")) u := T.gloK 77 rfl
theorem Wd.m_TIE (T : Wd K mg base) : mg "TIE" = some (.ref (He.ga K "TIE")) := T.glo 78 rfl
theorem Wd.k_TIE (T : Wd K mg base) : ∃ u, mg "TIE" = some u ∧ RelV (.ref (He.ga K "TIE")) u := T.gloK 78 rfl
theorem Wd.m_CLOSING (T : Wd K mg base) : mg "CLOSING" = some (.ref (He.ga K "CLOSING")) := T.glo 79 rfl
theorem Wd.k_CLOSING (T : Wd K mg base) : ∃ u, mg "CLOSING" = some u ∧ RelV (.ref (He.ga K "CLOSING")) u := T.gloK 79 rfl
theorem Wd.k_LETTERS (T : Wd K mg base) : ∃ u, mg "LETTERS" = some u ∧ RelV (.str "abcdefghijklmnopqrstuvwxyz") u := T.str 80 rfl
theorem Wd.k_LONGEST_NAME (T : Wd K mg base) : ∃ u, mg "LONGEST_NAME" = some u ∧ RelV (.int 8) u := T.int 81 rfl
theorem Wd.k_DIGITS (T : Wd K mg base) : ∃ u, mg "DIGITS" = some u ∧ RelV (.str "0123456789") u := T.str 82 rfl
theorem Wd.k_MOST_DIGITS (T : Wd K mg base) : ∃ u, mg "MOST_DIGITS" = some u ∧ RelV (.int 60) u := T.int 83 rfl
theorem Wd.k_EMPTY_WORD (T : Wd K mg base) : ∃ u, mg "EMPTY_WORD" = some u ∧ RelV (.str "-") u := T.str 84 rfl
theorem Wd.c_Window (T : Wd K mg base) : Cls K (He.ga K "Window") := T.cls 85 rfl
theorem Wd.mk_Window (T : Wd K mg base) : Mk K (He.ga K "Window") (He.ma K (He.ga K "Window") "__init__") := T.mkr 86 rfl
theorem Wd.c_Visitor (T : Wd K mg base) : Cls K (He.ga K "Visitor") := T.cls 87 rfl
theorem Wd.mk_Visitor (T : Wd K mg base) : Mk K (He.ga K "Visitor") (He.ma K (He.ga K "Visitor") "__init__") := T.mkr 88 rfl
theorem Wd.c_Waiter (T : Wd K mg base) : Cls K (He.ga K "Waiter") := T.cls 89 rfl
theorem Wd.mk_Waiter (T : Wd K mg base) : Mk K (He.ga K "Waiter") (He.ma K (He.ga K "Waiter") "__init__") := T.mkr 90 rfl
theorem Wd.c_Guide (T : Wd K mg base) : Cls K (He.ga K "Guide") := T.cls 91 rfl
theorem Wd.mk_Guide (T : Wd K mg base) : Mk K (He.ga K "Guide") (He.ma K (He.ga K "Guide") "__init__") := T.mkr 92 rfl
theorem Wd.c_Host (T : Wd K mg base) : Cls K (He.ga K "Host") := T.cls 93 rfl
theorem Wd.mk_Host (T : Wd K mg base) : Mk K (He.ga K "Host") (He.ma K (He.ga K "Host") "__init__") := T.mkr 94 rfl
theorem Wd.na_Visitor_called (T : Wd K mg base) : NoAttr K (He.ga K "Visitor") "called" := T.noat 95 rfl
theorem Wd.na_Waiter_called (T : Wd K mg base) : NoAttr K (He.ga K "Waiter") "called" := T.noat 96 rfl
theorem Wd.na_Guide_called (T : Wd K mg base) : NoAttr K (He.ga K "Guide") "called" := T.noat 97 rfl
theorem Wd.na_Host_called (T : Wd K mg base) : NoAttr K (He.ga K "Host") "called" := T.noat 98 rfl
theorem Wd.na_Visitor_opening (T : Wd K mg base) : NoAttr K (He.ga K "Visitor") "opening" := T.noat 99 rfl
theorem Wd.na_Waiter_opening (T : Wd K mg base) : NoAttr K (He.ga K "Waiter") "opening" := T.noat 100 rfl
theorem Wd.na_Guide_opening (T : Wd K mg base) : NoAttr K (He.ga K "Guide") "opening" := T.noat 101 rfl
theorem Wd.na_Host_opening (T : Wd K mg base) : NoAttr K (He.ga K "Host") "opening" := T.noat 102 rfl
theorem Wd.na_Visitor_endurance (T : Wd K mg base) : NoAttr K (He.ga K "Visitor") "endurance" := T.noat 103 rfl
theorem Wd.na_Waiter_endurance (T : Wd K mg base) : NoAttr K (He.ga K "Waiter") "endurance" := T.noat 104 rfl
theorem Wd.na_Guide_endurance (T : Wd K mg base) : NoAttr K (He.ga K "Guide") "endurance" := T.noat 105 rfl
theorem Wd.na_Host_endurance (T : Wd K mg base) : NoAttr K (He.ga K "Host") "endurance" := T.noat 106 rfl
theorem Wd.na_Visitor_awaited (T : Wd K mg base) : NoAttr K (He.ga K "Visitor") "awaited" := T.noat 107 rfl
theorem Wd.na_Waiter_awaited (T : Wd K mg base) : NoAttr K (He.ga K "Waiter") "awaited" := T.noat 108 rfl
theorem Wd.na_Guide_awaited (T : Wd K mg base) : NoAttr K (He.ga K "Guide") "awaited" := T.noat 109 rfl
theorem Wd.na_Host_awaited (T : Wd K mg base) : NoAttr K (He.ga K "Host") "awaited" := T.noat 110 rfl
theorem Wd.na_Host_leaving (T : Wd K mg base) : NoAttr K (He.ga K "Host") "leaving" := T.noat 111 rfl
theorem Wd.na_Window_span (T : Wd K mg base) : NoAttr K (He.ga K "Window") "span" := T.noat 112 rfl
theorem Wd.me_Visitor_end (T : Wd K mg base) : Meth K (He.ga K "Visitor") "end" (He.ma K (He.ga K "Visitor") "end") := T.meth 113 rfl
theorem Wd.me_Visitor_prolongs (T : Wd K mg base) : Meth K (He.ga K "Visitor") "prolongs" (He.ma K (He.ga K "Visitor") "prolongs") := T.meth 114 rfl
theorem Wd.me_Waiter_end (T : Wd K mg base) : Meth K (He.ga K "Waiter") "end" (He.ma K (He.ga K "Waiter") "end") := T.meth 115 rfl
theorem Wd.me_Waiter_prolongs (T : Wd K mg base) : Meth K (He.ga K "Waiter") "prolongs" (He.ma K (He.ga K "Waiter") "prolongs") := T.meth 116 rfl
theorem Wd.me_Guide_end (T : Wd K mg base) : Meth K (He.ga K "Guide") "end" (He.ma K (He.ga K "Guide") "end") := T.meth 117 rfl
theorem Wd.me_Guide_prolongs (T : Wd K mg base) : Meth K (He.ga K "Guide") "prolongs" (He.ma K (He.ga K "Guide") "prolongs") := T.meth 118 rfl
theorem Wd.me_Host_end (T : Wd K mg base) : Meth K (He.ga K "Host") "end" (He.ma K (He.ga K "Host") "end") := T.meth 119 rfl
theorem Wd.me_Host_prolongs (T : Wd K mg base) : Meth K (He.ga K "Host") "prolongs" (He.ma K (He.ga K "Host") "prolongs") := T.meth 120 rfl
end
end Pa
set_option Elab.async false
set_option linter.all false
set_option maxRecDepth 100000
set_option maxHeartbeats 4000000
namespace Pa
open PySem PySem.Spec PyProof.Rows L2 Evl
section
variable {X : Cx} {tg e : Expr} {te : TE}
theorem pi_or {wi wi' : TI} (h : PI X tg e wi) (h' : PI X tg e wi') : PI X tg e (fun σ H R => wi σ H R ∨ wi' σ H R) := ⟨fun pins s σ H R I q => by
  rcases q with q | q
  · exact h.run pins s σ H R I q
  · exact h'.run pins s σ H R I q⟩
/-- a list, a tuple, a text -/
def iAny (K : PySem.W.Frag) (te : TE) : TI := fun σ H R => iList K te σ H R ∨ iTup K te σ H R ∨ iStr te σ H R
theorem pi_any (he : PE X e te) : PI X tg e (iAny X.K te) := pi_or (pi_list he) (pi_or (pi_tup he) (pi_str he))
end
section
variable {K : PySem.W.Frag} {H H0 : Hp} {σ : L2.St} {ds es : List D} {d : D} {tl te : TE} {v : V}
/-- the signs of a text -/
def signs (z : Str) : List D := z.cps.toList.map fun c => dS ⟨#[c]⟩
theorem signs_len {z : Str} : (signs z).length = z.length := by simp [signs, Str.length]
theorem jok_s {z : Str} : JOk K (Its z) H (signs z) := by
  refine ⟨fun i H' _ hi => by rw [signs_len] at hi; exact hi, fun H' _ => by rw [signs_len]; exact Nat.le_refl _, fun i H' x H'' _ hi y => ?_⟩
  obtain ⟨rfl, c, hc, rfl⟩ := y
  refine ⟨dS ⟨#[c]⟩, ?_, Ex.refl _, .raw _⟩
  unfold signs
  rw [List.getElem?_map, Array.getElem?_toList, hc]
  rfl
theorem wk_at (h : EvD K tl σ H (.tup ds)) : Wk (iAny K tl) σ H fun J H2 => JOk K J H2 ds := fun H1 e R q => .inr (.inl (wk_t h H1 e R q))
theorem wk_al (h : EvD K tl σ H (.lst ds)) : Wk (iAny K tl) σ H fun J H2 => JOk K J H2 ds := fun H1 e R q => .inl (wk_l h H1 e R q)
theorem wk_at0 (h : Ev tl σ H v) (r : Rp K H0 v (.tup ds)) (e0 : Ex H0 H) : Wk (iAny K tl) σ H fun J _ => JOk K J H0 ds := fun H1 e R q => .inr (.inl (wk_t0 h r e0 H1 e R q))
theorem wk_al0 (h : Ev tl σ H v) (r : Rp K H0 v (.lst ds)) (e0 : Ex H0 H) : Wk (iAny K tl) σ H fun J _ => JOk K J H0 ds := fun H1 e R q => .inl (wk_l0 h r e0 H1 e R q)
theorem wk_as {z : Str} (h : EvD K tl σ H (dS z)) : Wk (iAny K tl) σ H fun J _ => ∀ H0, JOk K J H0 (signs z) := fun H1 e R q => .inr (.inr (h H1 e _ fun v H2 e2 r => ⟨z, r.raw_inv, q _ H2 e2 fun _ => jok_s⟩))
theorem Wk.here {wi : TI} (h : Wk wi σ H fun J _ => ∀ H0, JOk K J H0 ds) : Wk wi σ H fun J H2 => JOk K J H2 ds := h.imp fun J H2 _ j => j H2
/-- a comprehension over data whose target is one name -/
theorem dv_lcN {wi : TI} {t : TT} {vs : List Nat} {j : Nat} (p : Nat → Bool) (f : Nat → D) (h : Wk wi σ H fun J H2 => JOk K J H2 ds) (hz : ds.length ≤ 50000) (hT : ∀ i d, ds[i]? = some d → p i = true → (f i).tu = true)
    (hw : ∀ x, wipe ((wipe σ vs).set j (some x)) vs = wipe σ vs)
    (ht : ∀ i d x H', ds[i]? = some d → Ex H H' → Rp K H' x d → EvT t ((wipe σ vs).set j (some x)) H' (p i))
    (he : ∀ i d x H', ds[i]? = some d → Ex H H' → Rp K H' x d → p i = true → EvD K te ((wipe σ vs).set j (some x)) H' (f i)) :
    EvD K (tLc wi (gName j) t te vs) σ H (.lst (keep p f ds.length)) :=
  dv_lc p f h hz hT fun i d x H' hd e r k hk => hk _ H' (Ex.refl _) (hw x) (ht i d x H' hd e r) (he i d x H' hd e r)
def tTrue : TT := tB (tC (.bl true))
/-- all items, without a test -/
theorem keep_all {n : Nat} {f : Nat → D} : keep (fun _ => true) f n = (List.range n).map f := by
  unfold keep
  rw [List.filter_eq_self.mpr fun _ _ => rfl]
theorem keep_map {g : D → D} {f : Nat → D} {ds : List D} (h : ∀ (i : Nat) d, ds[i]? = some d → f i = g d) : keep (fun _ => true) f ds.length = ds.map g := by
  rw [keep_all]
  refine List.ext_getElem? fun i => ?_
  by_cases hi : i < ds.length
  · simp [hi, h i ds[i] (by simp [hi])]
  · simp [hi]
/-! ### all, any of flags -/
theorem bls_raw {bs : List Bool} : bs.map dB = (bs.map V.bl).map D.raw := by rw [List.map_map]; rfl
theorem rc_all {bs : List Bool} : RCD K (rAll K) [.lst (bs.map dB)] H (dB (bs.all id)) := fun H1 _ vs r Q q => by
  cases r with
  | cons r1 r2 =>
    cases r2
    obtain ⟨a, xs, rfl, ha, rr⟩ := r1.lst_inv
    rw [bls_raw] at rr
    have e := rr.raws_inv
    subst e
    exact ⟨a, bs, rfl, SqL.of ha, q _ H1 (Ex.refl _) (.raw _)⟩
theorem rc_any {bs : List Bool} : RCD K (rAny K) [.lst (bs.map dB)] H (dB (bs.any id)) := fun H1 _ vs r Q q => by
  cases r with
  | cons r1 r2 =>
    cases r2
    obtain ⟨a, xs, rfl, ha, rr⟩ := r1.lst_inv
    rw [bls_raw] at rr
    have e := rr.raws_inv
    subst e
    exact ⟨a, bs, rfl, SqL.of ha, q _ H1 (Ex.refl _) (.raw _)⟩
/-! ### isinstance -/
def tyOf : D → Value
  | .raw .non => .type "NoneType"
  | .raw (.bl _) => .type "bool"
  | .raw (.int _) => .type "int"
  | .raw (.str _) => .type "str"
  | .tup _ => .type "tuple"
  | .lst _ => .type "list"
  | .dic _ => .none
  | .raw _ => .none
theorem tyX_of {x : V} (h : Rp K H x d) (hd : tyOf d ≠ .none) : TyX K H x (tyOf d) := by
  cases h with
  | raw _ =>
    cases x with
    | non => exact .base .non
    | bl b => exact .base (.bl b)
    | int i => exact .base (.int i)
    | str x => exact .base (.str x)
    | _ => exact absurd rfl hd
  | tup h r =>
    rcases h with (h | ⟨o, h⟩) | ⟨o, its, n, h, c, _⟩
    · exact .base (.tup h)
    · exact .fTuple h
    · exact .kTuple h c
  | lst h r => exact .base (.lst h)
  | dic h r => exact absurd rfl hd
theorem rc_isi {T : String} {b : Bool} (hd : tyOf d ≠ .none) (hk : PySem.W.kitOne K (tyOf d) (.type T) = some b) : RCD K (rIsi K) [d, .raw (.ty T)] H (dB b) := fun H1 _ vs r Q q => by
  cases r with
  | cons r1 r2 =>
    cases r2 with
    | cons r2 r3 =>
      cases r3
      rw [r2.raw_inv]
      exact ⟨_, .ty T, tyOf d, .type T, b, rfl, .ty T, tyX_of r1 hd, hk, q _ H1 (Ex.refl _) (.raw _)⟩
/-! ### len -/
theorem rc_lenS {z : Str} (hz : z.length ≤ 100000) : RCD K (fun xs H Q => ∃ x n, xs = [x] ∧ LenV K x H n ∧ Q (.int n) H) [dS z] H (dI (z.length : Int)) := fun H1 _ vs r Q q => by
  cases r with
  | cons r1 r2 =>
    cases r2
    rw [r1.raw_inv]
    exact ⟨_, z.length, rfl, ⟨sz_of hz, rfl⟩, q _ H1 (Ex.refl _) (.raw _)⟩
theorem rc_lenL : RCD K (fun xs H Q => ∃ x n, xs = [x] ∧ LenV K x H n ∧ Q (.int n) H) [.lst ds] H (dI (ds.length : Int)) := fun H1 _ vs r Q q => by
  cases r with
  | cons r1 r2 =>
    cases r2
    obtain ⟨a, xs, rfl, ha, rr⟩ := r1.lst_inv
    exact ⟨_, ds.length, rfl, .inl ⟨xs, SqL.of ha, rr.len.symm⟩, q _ H1 (Ex.refl _) (.raw _)⟩
theorem rc_lenT : RCD K (fun xs H Q => ∃ x n, xs = [x] ∧ LenV K x H n ∧ Q (.int n) H) [.tup ds] H (dI (ds.length : Int)) := fun H1 _ vs r Q q => by
  cases r with
  | cons r1 r2 =>
    cases r2
    obtain ⟨a, xs, rfl, ha, rr⟩ := r1.tup_inv
    exact ⟨_, ds.length, rfl, .inr ⟨xs, ha, rr.len.symm⟩, q _ H1 (Ex.refl _) (.raw _)⟩
theorem rc_tupL : RCD K (fun xs H Q => ∃ p ys, xs = [.ref p] ∧ ((SqL K H p ys ∧ ∀ l, H l = none → Q (.ref l) (upd H l (.tup ys))) ∨ (SqT K H p ys ∧ Q (.ref p) H))) [.lst ds] H (.tup ds) := fun H1 _ vs r Q q => by
  cases r with
  | cons r1 r2 =>
    cases r2
    obtain ⟨a, xs, rfl, ha, rr⟩ := r1.lst_inv
    exact ⟨a, xs, rfl, .inl ⟨SqL.of ha, fun l hl => q _ _ (Ex.new hl) (.tup (SqT.of upd_same) (rr.mono (Ex.new hl)))⟩⟩
theorem rc_listT : RCD K (fun xs H Q => ∃ p ys, xs = [.ref p] ∧ (SqL K H p ys ∨ SqT K H p ys) ∧ ∀ l, H l = none → Q (.ref l) (upd H l (.lst ys))) [.tup ds] H (.lst ds) := fun H1 _ vs r Q q => by
  cases r with
  | cons r1 r2 =>
    cases r2
    obtain ⟨a, xs, rfl, ha, rr⟩ := r1.tup_inv
    exact ⟨a, xs, rfl, .inr ha, fun l hl => q _ _ (Ex.new hl) (.lst upd_same (rr.mono (Ex.new hl)))⟩
theorem rc_sort {n : Nat} (ok : D.oks n ds = true) (hn : n ≤ 40) (al : PySem.W.AllAlike (ds.map D.py)) (so : PySem.W.Sortable (ds.map D.py)) (hz : ds.length ≤ 100000) (ht : D.tus ds = true) :
    RCD K (rSortD K) [.lst ds] H (.lst (ds.mergeSort (PySem.W.dataLe false D.py))) := fun H1 _ vs r Q q => by
  cases r with
  | cons r1 r2 =>
    cases r2
    obtain ⟨a, xs, rfl, ha, rr⟩ := r1.lst_inv
    exact ⟨a, xs, ds, n, rfl, ha, rr, ok, hn, al, so, hz, fun p ys hp r' => q _ _ (Ex.new hp) (.lst upd_same (r'.mono (Ex.new hp)))⟩
theorem ds1 {ta : TE} (h : EvD K ta σ H d) : EvDs K (tCons ta tNil) σ H [d] := ds_cons h ds_nil
theorem ds2 {ta tb : TE} {d' : D} (h : EvD K ta σ H d) (h' : EvD K tb σ H d') : EvDs K (tCons ta (tCons tb tNil)) σ H [d, d'] := ds_cons h (ds1 h')
theorem ds3 {ta tb tc : TE} {d' d'' : D} (h : EvD K ta σ H d) (h' : EvD K tb σ H d') (h'' : EvD K tc σ H d'') : EvDs K (tCons ta (tCons tb (tCons tc tNil))) σ H [d, d', d''] := ds_cons h (ds2 h' h'')
end
end Pa
namespace Pa
open PySem PySem.Spec PyProof.Rows L2 Evl
section
variable {K : PySem.W.Frag} {H : Hp} {σ : L2.St} {ds : List D} {d : D}
/-- a def that hands back data for data, as the graph says -/
def spD (K : PySem.W.Frag) (g : List D → D → Prop) : Sp := fun vs H Q _ => ∃ ds d, Rps K H vs ds ∧ g ds d ∧ Ret K d H Q
theorem spD_ok {g : List D → D → Prop} (h : g ds d) : SpD K (spD K g) ds H d := fun H1 _ vs r Q E q => ⟨ds, d, r, h, q⟩
theorem dv_callD {g : List D → D → Prop} {E : XK} {ta : TA} (h : EvDs K ta σ H ds) (hg : g ds d) : EvD K (tCall (spD K g) [] E ta) σ H d := dv_call h (spD_ok hg)
theorem spD_len {g : List D → D → Prop} {n : Nat} (h : ∀ ds d, g ds d → ds.length = n) (vs : List V) (H : Hp) (Q : VK) (E : XK) (hs : spD K g vs H Q E) : vs.length = n := by
  obtain ⟨ds, d, r, hg, _⟩ := hs
  rw [r.len]
  exact h ds d hg
theorem dv_callH {P : Program} {w : World} {mg : Str → Option Value} {base : Heap} {j i : Nat} {f : Addr} {g : List D → D → Prop} {ta : TA} (hs : σ[i]? = some (some (.ref f))) (c : C8.CalAt P w K mg base j f (spD K g)) (h : EvDs K ta σ H ds) (hg : g ds d) :
    EvD K (tCallH P w K mg base j i ta) σ H d := fun H1 e Q q => ⟨f, _, hs, c, h H1 e _ fun vs H2 e2 r => ⟨ds, d, r, hg, fun v H3 e3 r3 => q v H3 (e2.trans e3) r3⟩⟩
end
end Pa
namespace Pa
open PySem PySem.Spec PyProof.Rows L2 Evl
section
variable {X : Cx} {K : PySem.W.Frag}
/-! ### the rules, the written part named -/
theorem z_eq (hu : X.A.units + 64 < cLine) (h : X.K = K) : OpR X (compareOp .Eq) (rEqX K) := h ▸ op_eqX hu
theorem z_ne (hu : X.A.units + 64 < cLine) (h : X.K = K) : OpR X (compareOp .NotEq) (rNeX K) := h ▸ op_neX hu
theorem z_lt (hu : X.A.units + 64 < cLine) (h : X.K = K) : OpR X (compareOp .Lt) (rLtX K) := h ▸ op_ltX hu
theorem z_in (h : X.K = K) : OpR X (compareOp .In) (rInX K) := h ▸ op_inX
theorem z_add (h : X.K = K) : OpR X (binaryOp .Add) (rAddX K) := h ▸ op_addX
theorem z_ix (h : X.K = K) : IxR X (rIx K) := h ▸ ix_seq
theorem z_sl (h : X.K = K) : SlR X (rSlX K) := h ▸ sl_any
def rLenX (K : PySem.W.Frag) : List V → Hp → VK → Prop := fun xs H Q => ∃ x n, xs = [x] ∧ LenV K x H n ∧ Q (.int n) H
theorem z_len (h : X.K = K) : CallR X (.builtin "len") (rLenX K) := h ▸ call_len
theorem z_isi (h : X.K = K) : CallR X (.builtin "isinstance") (rIsi K) := h ▸ call_isi
theorem z_all (hc : X.calm = true) (h : X.K = K) : CallR X (.builtin "all") (rAll K) := h ▸ cr_all hc
theorem z_anyF (hc : X.calm = true) (h : X.K = K) : CallR X (.builtin "any") (rAny K) := h ▸ cr_any hc
theorem z_sorted (hu : X.A.units + 64 < cLine) (h : X.K = K) : CallR X (.builtin "sorted") (rSortD K) := h ▸ cr_sortD hu
theorem z_max (hc : X.calm = true) (h : X.K = K) : CallR X (.builtin "max") (rMax K) := h ▸ cr_max hc
def rTupX (K : PySem.W.Frag) : List V → Hp → VK → Prop := fun xs H Q => ∃ p ys, xs = [.ref p] ∧ ((SqL K H p ys ∧ ∀ l, H l = none → Q (.ref l) (upd H l (.tup ys))) ∨ (SqT K H p ys ∧ Q (.ref p) H))
theorem z_tup (h : X.K = K) : CallR X (.type "tuple") (rTupX K) := h ▸ call_tuple_of
def rListX (K : PySem.W.Frag) : List V → Hp → VK → Prop := fun xs H Q => ∃ p ys, xs = [.ref p] ∧ (SqL K H p ys ∨ SqT K H p ys) ∧ ∀ l, H l = none → Q (.ref l) (upd H l (.lst ys))
theorem z_list (h : X.K = K) : CallR X (.type "list") (rListX K) := h ▸ call_list_of
def rDicX (K : PySem.W.Frag) : List V → Hp → VK → Prop := fun xs H Q => ∃ (a : Addr) (ps : List Addr) (kvs : List (Key × V)), xs = [.ref a] ∧ SqL K H a (ps.map V.ref) ∧ Paired (fun p kv => SqT K H p [kV kv.1, kv.2]) ps kvs ∧ ∀ p, H p = none → Q (.ref p) (upd H p (.dK (mergeK [] kvs)))
theorem z_dict (hc : X.calm = true) (h : X.K = K) : CallR X (.type "dict") (rDicX K) := h ▸ call_dictP hc
theorem zi_any {tg e : Expr} {te : TE} (h : X.K = K) (he : PE X e te) : PI X tg e (iAny K te) := h ▸ pi_any he
theorem zg_tup {es : List Expr} {k : Nat} {t : TGs} {n : Nat} {pos : Pos} (hK : X.K = K) (hc : X.calm = true) (h : PGs X es t)
    (hn : (assignEach es X.env).length = n := by rfl) (hst : (assignEach es X.env).findIdx? (·.1) = none := by rfl) : PG X (.Tuple es k pos) (gTup K n t) := hK ▸ pg_tup hc h hn hst
theorem z_fld {e : Expr} {ta : TE} {f : Str} {pos : Pos} (hK : X.K = K) (he : PE X e ta) (hb : attributeBase e f X.env (eval e X.env) = eval e X.env) : PE X (.Attribute e f pos) (tFld K ta f) := hK ▸ pe_fld he hb
def rJoinX (K : PySem.W.Frag) : V → List V → Hp → VK → Prop := fun x xs H Q => ∃ a p, ∃ ys : List Str, x = .str a ∧ xs = [.ref p] ∧ (SqL K H p (ys.map V.str) ∨ SqT K H p (ys.map V.str)) ∧ (ys.map (·.length)).sum + ys.length * a.length ≤ 16777216 ∧ Q (.str (Txt.join a ys)) H
theorem z_join {o e : Expr} {to te : TE} {apos pos : Pos} (hK : X.K = K) (ho : PE X o to) (he : PE X e te) (hs : starEach [e] X.env = [(false, eval e X.env)] := by rfl) (hbase : attributeBase o "join" X.env (eval o X.env) = eval o X.env := by rfl) (hline : (apos.endLine == pos.line) = true := by rfl) :
    PE X (.Call (.Attribute o "join" apos) [e] [] pos) (tM1 (rJoinX K) to te) := hK ▸ pe_join ho he hs hbase hline
theorem z_callH {P : Program} {w : World} {mg : Str → Option Value} {base : Heap} {x : Str} {p pos : Pos} {e : Expr} {es : List Expr} {t : TA} {j i : Nat} (h1 : X.prog = P) (h2 : X.w = w) (h3 : X.K = K) (h4 : X.mg = mg) (h5 : X.base = base) (hr : Room j X.A) (hN : X.N[i]? = some x) (hv : Vis X.env.scope x) (ha : PA X (e :: es) t)
    (hd : (x == ("__debug__" : Str)) = false := by decide) (hcd : (x == ("__classdict__" : Str)) = false := by decide)
    (he : starEach (e :: es) X.env = (false, eval e X.env) :: starEach es X.env := by rfl) (hpl : (backTo pos (starEach es X.env)).any (·.1) = false := by rfl) :
    PE X (.Call (.Name x p) (e :: es) [] pos) (tCallH P w K mg base j i t) := by
  subst h1 h2 h3 h4 h5
  exact pe_callH hr hN hv ha hd hcd he hpl
theorem z_noneNot (hu : X.A.units + 64 < cLine) (h : X.K = K) : OpR X (compareOp .NotIn) (rNoneIn K true) := h ▸ op_noneNotIn hu
end
section
variable {K : PySem.W.Frag} {H : Hp} {σ : L2.St} {ds : List D} {a b c d : D} {ta tb tc : TE}
theorem dv_chain {r r' : R2} {k m : Bool} (ha : EvD K ta σ H a) (hb : EvD K tb σ H b) (h1 : RD K r a b H (dB k)) (hc : k = true → EvD K tc σ H c) (h2 : RD K r' b c H (dB m)) : EvD K (tChain r r' ta tb tc) σ H (dB (k && m)) := fun H1 e Q q =>
  ha H1 e _ fun x H2 e2 r1 => hb H2 (e.trans e2) _ fun y H3 e3 r2 => h1 H3 ((e.trans e2).trans e3) x y (r1.mono e3) r2 _ fun z H4 e4 rz => by
    refine ⟨k, rz.raw_inv, ?_⟩
    have e14 := ((e2.trans e3).trans e4)
    cases k with
    | true =>
      show tc σ H4 fun w' H5 => r' y w' H5 Q
      exact hc rfl H4 (e.trans e14) _ fun w' H5 e5 rw' => h2 H5 ((e.trans e14).trans e5) y w' (r2.mono (e4.trans e5)) rw' Q fun v H6 e6 r6 => q v H6 ((e14.trans e5).trans e6) r6
    | false =>
      show Q (.bl false) H4
      exact q _ H4 e14 (.raw _)
theorem signs_get {z : Str} {i : Nat} {d : D} (h : (signs z)[i]? = some d) : ∃ c, c ∈ z.cps.toList ∧ z.cps.toList[i]? = some c ∧ d = dS ⟨#[c]⟩ := by
  unfold signs at h
  rw [List.getElem?_map] at h
  cases e : z.cps.toList[i]? with
  | none => rw [e] at h; cases h
  | some c =>
    rw [e] at h
    exact ⟨c, List.mem_of_getElem? e, rfl, (Option.some.inj h).symm⟩
theorem yes_ok : EvT tYes σ H true := fun H1 _ Q q => q H1 (Ex.refl _)
theorem keep_true {n : Nat} : keep (fun _ => true) (fun _ => dB true) n = (List.replicate n true).map dB := by
  rw [keep_all]
  refine List.ext_getElem (by simp) fun i h1 h2 => by simp
theorem all_rep {n : Nat} : (List.replicate n true).all id = true := by simp
end
end Pa
set_option Elab.async false
set_option linter.all false
set_option maxRecDepth 100000
set_option maxHeartbeats 8000000
namespace Pa
open PySem PySem.Spec PyProof.Rows L2 Evl
section
variable {P : Program} {w : World} {K : PySem.W.Frag} {mg : Str → Option Value} {base : Heap}

def gInteger : List D → D → Prop := fun ds d => ∃ i, ds = [dI i] ∧ d = dB true
def gNumber : List D → D → Prop := fun ds d => ∃ i : Int, ds = [dI i] ∧ 0 ≤ i ∧ d = dB true
/-- a name: one to eight small letters -/
def isNm (z : Str) : Prop := 1 ≤ z.length ∧ z.length ≤ 8 ∧ ∀ c ∈ z.cps.toList, c ∈ ("abcdefghijklmnopqrstuvwxyz" : Str).cps.toList
def gName1 : List D → D → Prop := fun ds d => ∃ z, ds = [dS z] ∧ isNm z ∧ d = dB true

theorem sc_is_integer : FnScope ["thing"] ["thing"] d_is_integer.scope := ⟨rfl, rfl, rfl, by decide +kernel, rfl, by decide +kernel, by decide +kernel⟩
theorem ok_is_integer (T : Wd K mg base) : C8.Cal P w K mg base (0 + 1) "is_integer" (spD K gInteger) [] := by
  refine cal_of T 0 17 (d := d_is_integer) rfl rfl rfl rfl rfl sc_is_integer (spD_len fun ds d ⟨i, e, _⟩ => by rw [e]; rfl) (fun _ _ _ _ _ _ us hl => match us, hl with | [_], _ => rfl) fun cdv A outer s H vs Q E hr h => ?_
  refine ⟨_, (pss_one (ps_ret (pe_and (pe_callB (z_isi (K := K) rfl) (by rfl) T.g_isinstance (by decide +kernel) (pa_cons (pv 0) (pa_cons (pe_bltn (v := .ty "int") (by rfl) T.g_int (by decide +kernel) rfl) pa_nil))) (pe_one (pe_not (pe_callB (z_isi (K := K) rfl) (by rfl) T.g_isinstance (by decide +kernel) (pa_cons (pv 0) (pa_cons (pe_bltn (v := .ty "bool") (by rfl) T.g_bool (by decide +kernel) rfl) pa_nil)))))))), ?_⟩
  obtain ⟨ds, d, rr, ⟨i, rfl, rfl⟩, q⟩ := h
  cases rr with | cons r1 rr =>
  cases rr
  refine s_retD (d := dB true) ?_ q
  exact dv_is (dv_andV (dv_cb (ds2 (dv_var rfl r1) dv_c) (rc_isi (b := true) (by intro z; cases z) (kit_ty (by decide +kernel)))) fun _ => dv_notV (dv_cb (ds2 (dv_var rfl r1) dv_c) (rc_isi (b := false) (by intro z; cases z) (kit_ty (by decide +kernel))))) rfl
theorem sc_is_number : FnScope ["thing"] ["thing"] d_is_number.scope := ⟨rfl, rfl, rfl, by decide +kernel, rfl, by decide +kernel, by decide +kernel⟩
theorem ok_is_number (T : Wd K mg base) : C8.Cal P w K mg base (1 + 1) "is_number" (spD K gNumber) [] := by
  refine cal_of T 1 18 (d := d_is_number) rfl rfl rfl rfl rfl sc_is_number (spD_len fun ds d ⟨i, e, _⟩ => by rw [e]; rfl) (fun _ _ _ _ _ _ us hl => match us, hl with | [_], _ => rfl) fun cdv A outer s H vs Q E hr h => ?_
  refine ⟨_, (pss_one (ps_ret (pe_and (C8.pe_c (ok_is_integer T) hr (by decide) rfl (pa_cons (pv 0) pa_nil)) (pe_one (pe_cmpR op_ge (pv 0) pe_int (nomark _)))))), ?_⟩
  obtain ⟨ds, d, rr, ⟨i, rfl, hi, rfl⟩, q⟩ := h
  cases rr with | cons r1 rr =>
  cases rr
  refine s_retD (d := dB true) ?_ q
  exact dv_is (dv_andV (dv_callD (ds1 (dv_var rfl r1)) ⟨i, rfl, rfl⟩) fun _ => dv_op (dv_var rfl r1) dv_c rd_I0) (by simp [hi])
theorem sc_is_name : FnScope ["thing", "char"] ["thing"] d_is_name.scope := ⟨rfl, rfl, rfl, by decide +kernel, rfl, by decide +kernel, by decide +kernel⟩
theorem ok_is_name (T : Wd K mg base) : C8.Cal P w K mg base (0 + 1) "is_name" (spD K gName1) [] := by
  refine cal_of T 2 19 (d := d_is_name) rfl rfl rfl rfl rfl sc_is_name (spD_len fun ds d ⟨i, e, _⟩ => by rw [e]; rfl) (fun _ _ _ _ _ _ us hl => match us, hl with | [_], _ => rfl) fun cdv A outer s H vs Q E hr h => ?_
  refine ⟨_, (pss_cons (ps_if (PW.pt (pw_or (pt_not (pt_val (pe_callB (z_isi (K := K) rfl) (by rfl) T.g_isinstance (by decide +kernel) (pa_cons (pv 0) (pa_cons (pe_bltn (v := .ty "str") (by rfl) T.g_str (by decide +kernel) rfl) pa_nil))))) (pw_or1 (pt_not (pt_chain op_le op_le pe_int (pe_callB (z_len (K := K) rfl) (by rfl) T.g_len (by decide +kernel) (pa_cons (pv 0) pa_nil)) (C8.pe_gc (v := .int 8) rfl T.k_LONGEST_NAME)))))) (pss_one (ps_ret pe_bl)) pss_nil)
    (pss_one (ps_ret (pe_callB (z_all (K := K) rfl rfl) (by rfl) T.g_all (by decide +kernel) (pa_cons (pe_lc (own := [("char", 1)]) (by rfl) sc_is_name.nd (zi_any (K := K) rfl (pv 0)) (blkOk_by (own := [("char", 1)]) (N := ["thing", "char"]) (sc := d_is_name.scope) (by decide +kernel)) (fun _ _ _ _ _ => (pg_name (i := 1) sc_is_name.nd rfl (by first | exact Or.inl rfl | exact Or.inr rfl))) (fun _ _ _ _ _ => pts_nil) (fun _ _ _ _ _ => (pe_cmpR (z_in (K := K) rfl) (pv 1) (C8.pe_gc (v := .str "abcdefghijklmnopqrstuvwxyz") rfl T.k_LETTERS) (by first | rfl | with_unfolding_all rfl)))) pa_nil))))), ?_⟩
  obtain ⟨ds, d, rr, ⟨z, rfl, ⟨h1, h2, h3⟩, rfl⟩, q⟩ := h
  cases rr with | cons r1 rr =>
  cases rr
  refine q_when (b := false) ?_ (fun b => by cases b) fun _ H1 e1 => ?_
  · refine et_is (et_or (et_not (dt_B (dv_cb (ds2 (dv_var rfl r1) dv_c) (rc_isi (b := true) (by intro z; cases z) (kit_ty (by decide +kernel)))))) fun _ => et_not (dt_test (dv_chain (dv_c (v := .int 1)) (dv_cb (ds1 (dv_var rfl r1)) (rc_lenS (by omega))) (rd_I0 (g := fun i j => .bl (decide (i ≤ j)))) (fun _ => dv_c) (rd_I0 (g := fun i j => .bl (decide (i ≤ j))))))) ?_
    simp; omega
  · refine s_retD (d := dB true) ?_ (q.mono e1)
    refine dv_is (dv_cb (ds1 (dv_is (dv_lcN (p := fun _ => true) (f := fun _ => dB true) (Wk.here (wk_as (z := z) (dv_var rfl (r1.mono e1)))) ?_ (fun _ _ _ _ => rfl) (fun _ => rfl) ?_ ?_) (congrArg D.lst keep_true))) rc_all) (by rw [all_rep])
    · rw [signs_len]; omega
    · intro i d x H' hd e r
      exact yes_ok
    · intro i d x H' hd e r _
      obtain ⟨c, hc, _, rfl⟩ := signs_get hd
      exact dv_is (dv_op (dv_var rfl r) dv_c rd_inC) (by simp [h3 c hc])
end
end Pa
set_option Elab.async false
set_option linter.all false
set_option maxRecDepth 100000
set_option maxHeartbeats 4000000
/-! enumerate and zip over lists and tuples, in any mix -/
namespace Pa
open PySem PySem.Spec PyProof.Rows L2 Evl

/-- an iterator `it` over what stands at a: its own record turns, items by go, val, stop -/
structure Drw (P : Program) (w : World) (K : PySem.W.Frag) (a it : Addr) (tn : Nat → Heap → Prop) (go : Nat → Hp → Prop) (val : Nat → Hp → V → Prop) (stop : Nat → Hp → Prop) : Prop where
  obj : ∀ i h, tn i h → ∃ o, h.get? it = some o ∧ ∀ v, o.data ≠ .cell v
  keep : ∀ i h h', tn i h → (∀ o, h.get? it = some o → h'.get? it = some o) → tn i h'
  draw : ∀ (X : Cx), X.prog = P → X.w = w → X.K = K → X.calm = true → ∀ (A : Around) (i : Nat) (pins : List (Addr × Obj)) (s : Shared) (σ : L2.St) (H : Hp), A.handled = none → Inv X pins σ H s → a ≠ it → tn i s.heap → go i H →
    ∃ (n : Nat) (Pp : Nat → Value → Prop) (Sx : Nat → Heap → Prop), Draws P w A it [it, a] n Pp Sx ∧ Sx i s.heap ∧ i < n ∧ (∀ u, Pp i u → ∃ x, RelV x u ∧ val i H x) ∧ ∀ h', Sx (i + 1) h' → tn (i + 1) h'
  fin : ∀ (X : Cx), X.prog = P → X.w = w → X.K = K → X.calm = true → ∀ (A : Around) (i : Nat) (pins : List (Addr × Obj)) (s : Shared) (σ : L2.St) (H : Hp), A.handled = none → Inv X pins σ H s → a ≠ it → tn i s.heap → stop i H →
    ∃ (Pp : Nat → Value → Prop) (Sx : Nat → Heap → Prop), Draws P w A it [it, a] i Pp Sx ∧ Sx i s.heap
def goL (K : PySem.W.Frag) (a : Addr) (i : Nat) (H : Hp) : Prop := ∃ xs x, SqL K H a xs ∧ xs[i]? = some x
def valL (K : PySem.W.Frag) (a : Addr) (i : Nat) (H : Hp) (x : V) : Prop := ∀ xs, SqL K H a xs → xs[i]? = some x
def stopL (K : PySem.W.Frag) (a : Addr) (i : Nat) (H : Hp) : Prop := ∃ xs, SqL K H a xs ∧ xs.length = i
def goT (K : PySem.W.Frag) (a : Addr) (i : Nat) (H : Hp) : Prop := ∃ xs x, SqT K H a xs ∧ xs[i]? = some x
def valT (K : PySem.W.Frag) (a : Addr) (i : Nat) (H : Hp) (x : V) : Prop := ∀ xs, SqT K H a xs → xs[i]? = some x
def stopT (K : PySem.W.Frag) (a : Addr) (i : Nat) (H : Hp) : Prop := ∃ xs, SqT K H a xs ∧ xs.length = i
section
variable {P : Program} {w : World} {K : PySem.W.Frag} {a it : Addr}
theorem drw_l : Drw P w K a it (fun i h => h.IsListIter it a i) (goL K a) (valL K a) (stopL K a) where
  obj := fun i h st => by
    obtain ⟨o, e, _, d⟩ := st
    exact ⟨o, e, fun v z => by rw [d] at z; cases z⟩
  keep := fun i h h' st k => st.at k
  draw := by
    intro X hP hw hK hc A i pins s σ H hh I ne st hg
    subst hP hw hK
    obtain ⟨xs, x, hq, hx⟩ := hg
    obtain ⟨its, rv, p, hz⟩ := I.list hq
    obtain ⟨u, hu, ru⟩ := rv.get hx
    refine ⟨_, _, _, Draws.list hh it a ne its.toArray, ⟨st, p.isList⟩, ?_, fun v hv => ?_, fun h' q => q.1⟩
    · have := (List.getElem?_eq_some_iff.mp hu).1
      simpa using this
    · have ev : v = u := by
        have h1 : its.toArray[i]? = some v := hv
        rw [List.getElem?_toArray, hu] at h1
        exact (Option.some.inj h1).symm
      subst ev
      exact ⟨x, ru, fun ys hy => by rw [I.list_inj hy hq]; exact hx⟩
  fin := by
    intro X hP hw hK hc A i pins s σ H hh I ne st hg
    subst hP hw hK
    obtain ⟨xs, hq, rfl⟩ := hg
    obtain ⟨its, rv, p, hz⟩ := I.list hq
    have e : its.toArray.size = xs.length := by rw [List.size_toArray, rv.length]
    refine ⟨_, _, e ▸ Draws.list hh it a ne its.toArray, st, p.isList⟩
theorem drw_t : Drw P w K a it (fun i h => h.IsTupleIter it a i) (goT K a) (valT K a) (stopT K a) where
  obj := fun i h st => by
    obtain ⟨o, e, _, d⟩ := st
    exact ⟨o, e, fun v z => by rw [d] at z; cases z⟩
  keep := fun i h h' st k => st.at k
  draw := by
    intro X hP hw hK hc A i pins s σ H hh I ne st hg
    subst hP hw hK
    obtain ⟨xs, x, hq, hx⟩ := hg
    obtain ⟨its, rv, p, hz⟩ := I.tuple hq
    obtain ⟨u, hu, ru⟩ := rv.get hx
    refine ⟨_, _, _, Draws.tuple hh it a ne its.toArray, ⟨st, show s.heap.IsTuple a its.toArray from p⟩, ?_, fun v hv => ?_, fun h' q => q.1⟩
    · have := (List.getElem?_eq_some_iff.mp hu).1
      simpa using this
    · have ev : v = u := by
        have h1 : its.toArray[i]? = some v := hv
        rw [List.getElem?_toArray, hu] at h1
        exact (Option.some.inj h1).symm
      subst ev
      exact ⟨x, ru, fun ys hy => by rw [I.tuple_inj hy hq]; exact hx⟩
  fin := by
    intro X hP hw hK hc A i pins s σ H hh I ne st hg
    subst hP hw hK
    obtain ⟨xs, hq, rfl⟩ := hg
    obtain ⟨its, rv, p, hz⟩ := I.tuple hq
    have e : its.toArray.size = xs.length := by rw [List.size_toArray, rv.length]
    refine ⟨_, _, e ▸ Draws.tuple hh it a ne its.toArray, st, show s.heap.IsTuple a its.toArray from p⟩
end
/-! ### enumerate -/
def ItE (go : Nat → Hp → Prop) (val : Nat → Hp → V → Prop) (stop : Nat → Hp → Prop) : It :=
  ⟨go, fun i H v H' => ∃ T x, v = .ref T ∧ H T = none ∧ H' = upd H T (.tup [.int (i : Nat), x]) ∧ val i H x, stop⟩
theorem turn_enumD {P : Program} {w : World} {K : PySem.W.Frag} {elts : List Expr} {kk : Nat} {tpos : Pos} {a it e : Addr} {tn : Nat → Heap → Prop} {go : Nat → Hp → Prop} {val : Nat → Hp → V → Prop} {stop : Nat → Hp → Prop}
    (D : Drw P w K a it tn go val stop) (hei : e ≠ it) (hea : e ≠ a) (hai : a ≠ it) :
    Turn P w K (.Tuple elts kk tpos) (ItE go val stop) [e, it] e (fun i h => (∃ old, IsEnum h e it ((i : Nat) : Int) old) ∧ tn i h) where
  mem := by simp
  obj := fun i h st b hb => by
    obtain ⟨⟨old, he⟩, ht⟩ := st
    have e' : b = e ∨ b = it := by simpa using hb
    rcases e' with z | z
    · rw [z]; exact ⟨_, he, fun v q => nomatch q⟩
    · rw [z]; exact D.obj i h ht
  keep := fun i h h' st k => let ⟨⟨old, he⟩, hi⟩ := st; ⟨⟨old, k e (by simp) _ he⟩, D.keep i h h' hi fun o q => k it (by simp) o q⟩
  item := by
    intro X hP hw hK hc i pins s σ H E I hf st hg
    obtain ⟨⟨old, he⟩, hit⟩ := st
    obtain ⟨n, Pp, Sx, Dr, hs, hlt, hv, hn⟩ := D.draw X hP hw hK hc X.A.in1 i pins s σ H (I.ok.hd hc) I hai hit hg
    subst hP hw hK
    have hel : e < s.heap.objs.size := Heap.lt_size he
    have hil : it < s.heap.objs.size := by obtain ⟨_, q, _⟩ := D.obj i _ hit; exact Heap.lt_size q
    have hef : e ∉ [it, a] := by simp [hei, hea]
    refine wpAny_pyNext_enum_itemD Dr he hs hlt hei hef fun u h' tk hP1 ho hs' hT hsz hk => ?_
    obtain ⟨x, ru, vx⟩ := hv u hP1
    refine ⟨_, rfl, wpAny_letOwnedTupleGo_enum (s := { s with heap := h', toks := tk + 1 }) ho fun h'' he' sb => ?_⟩
    have hT2 : h''.get? s.heap.objs.size = some { cls := .type "tuple", data := .seq #[.int i tk, u] } := (sb.2 _ (Nat.ne_of_gt hel)).trans hT
    have new : ObjOk X.prog X.w (upd H s.heap.objs.size (.tup [.int (i : Nat), x])) h'' s.heap.objs.size (.tup [.int (i : Nat), x]) :=
      ⟨by show 2 ≤ sizeLine; decide, [.int i tk, u], .cons ⟨_, rfl⟩ (.cons ru .nil), ⟨_, hT2, rfl, _, rfl⟩⟩
    have I1 : Inv X pins σ (upd H s.heap.objs.size (.tup [.int (i : Nat), x])) { s with heap := h'', toks := tk + 1 } :=
      I.turnedNew (ch := [e, it]) (fun b ob hb q => (sb.2 b (fun z => hb (by simp [z]))).trans (hk b ob (fun z => hb (by simp [z])) (fun z => hb (by simp [z])) q)) hf (Nat.le_refl _) new
    refine ⟨.ref s.heap.objs.size, _, I1, rfl, ⟨_, x, rfl, I.hok.fresh (Nat.le_refl _), rfl, vx⟩, ⟨⟨u, ?_⟩, D.keep _ _ _ (hn _ hs') fun o q => (sb.2 it (Ne.symm hei)).trans q⟩, fun b hb => ?_⟩
    · have e1 : ((i + 1 : Nat) : Int) = (i : Int) + 1 := by omega
      rw [e1]; exact he'
    · have hb' : b < s.heap.objs.size := by
        have e' : b = e ∨ b = it := by simpa using hb
        rcases e' with z | z
        · rw [z]; exact hel
        · rw [z]; exact hil
      rw [upd_ne (Nat.ne_of_lt hb')]
      exact (hf b hb).1
  done := by
    intro X hP hw hK hc i pins s σ H E I hf st hg
    obtain ⟨⟨old, he⟩, hit⟩ := st
    obtain ⟨Pp, Sx, Dr, hs⟩ := D.fin X hP hw hK hc X.A.in1 i pins s σ H (I.ok.hd hc) I hai hit hg
    subst hP hw hK
    obtain ⟨f0, f1, f2, f3, f4, f5⟩ := hf it (by simp)
    exact wpAny_pyNext_enum_endD Dr he hs fun h' eb => ⟨rfl, I.turned (t' := s.toks) (fun b o hb q => eb b o hb q) f0 f1 f3 f4 f5⟩
  self := fun A i s Q E st h => let ⟨⟨_, he⟩, _⟩ := st; wpAny_pyIter_enum he h
/-! enumerate(v) begins, whatever iter(v) is -/
section
open AutoSeq1 (wpAny_loadPart')
set_option maxHeartbeats 1000000 in
theorem meets_enumerate_new1 {v : Value} {o : Obj} {H : Heap → Prop} (B : Begins v o H) :
    Meets (Builtin.«enumerate.__new__» ⟨[.type "enumerate", v], []⟩) (fun _ R s => H s.heap ∧
      R (.ok (.ret (.ref (s.heap.push o).objs.size))) { s with heap := (s.heap.push o).push { cls := .type "enumerate", data := .fields #[.none, .bool false, .ref s.heap.objs.size, rawInt 0, .none, .none] } }) :=
  .of_wp fun prog w A R s h => by
    obtain ⟨hp, g, d, tk, os⟩ := s; obtain ⟨h1, h⟩ := h
    have hsub := sub_enumerate
    have q1 : ∀ {A' : Around} {E : Value → Shared → Prop} {Q : Value → Shared → Prop}, Q (.ref hp.objs.size) ⟨hp.push o, g, d, tk, os⟩ → wpAny (model prog w) A' (pyIter v) Q E ⟨hp, g, d, tk, os⟩ :=
      fun q => B.iter prog w _ _ ⟨hp, g, d, tk, os⟩ _ h1 q
    wp_walk using q1
    refine wpAny_stack_any fun st => wpAny_pure ?_
    split
    · rename_i c _ _ _ _ _
      cases (c == Value.type "enumerate")
      · wp_walk using q1
        exact ⟨_, rfl, h⟩
      · wp_walk using q1
        exact ⟨_, rfl, h⟩
    · wp_walk using q1
      exact ⟨_, rfl, h⟩
variable {prog : Program} {w : World} {A : Around} {E : Value → Shared → Prop} {s : Shared}
theorem enum_begins1 {v : Value} {o : Obj} {H : Heap → Prop} {Q : Value → Shared → Prop} (B : Begins v o H) (h1 : H s.heap)
    (h : ∀ h', IsEnum h' (s.heap.objs.size + 1) s.heap.objs.size 0 .none → h'.get? s.heap.objs.size = some o → h'.objs.size = s.heap.objs.size + 2 →
      (∀ b o, s.heap.get? b = some o → h'.get? b = some o) → Q (.ref (s.heap.objs.size + 1)) { s with heap := h' }) :
    wpAny (model prog w) A (call (.type "enumerate") [v]) Q E s := by
  refine callType_new F.called_enumerate (by decide) (F.typeCall_enumerate_1 _) (F.newCall_enumerate_1 _) (fun obj => F.args_object_init_2 obj _) F.entry_enumerate_new
    (meets_enumerate_new1 B) ⟨h1, ?_⟩
  have hz : (s.heap.push o).objs.size = s.heap.objs.size + 1 := Heap.size_push ..
  show _ ∧ _
  rw [hz]
  have he : IsEnum ((s.heap.push o).push { cls := .type "enumerate", data := .fields #[.none, .bool false, .ref s.heap.objs.size, rawInt 0, .none, .none] }) (s.heap.objs.size + 1) s.heap.objs.size 0 .none := by
    have := Heap.get?_push_size (s.heap.push o) (o := { cls := .type "enumerate", data := .fields #[.none, .bool false, .ref s.heap.objs.size, rawInt 0, .none, .none] }) rfl
    rw [hz] at this; exact this
  refine ⟨⟨_, he, rfl⟩, h _ he (Heap.get?_push_of_some _ (Heap.get?_push_size _ B.free)) (by rw [Heap.size_push, hz]) fun b o x => Heap.get?_push_of_some _ (Heap.get?_push_of_some _ x)⟩
end
def iEnumX (K : PySem.W.Frag) (ta : TA) : TI := fun σ H R => ta σ H fun vs H1 => ∃ a xs, vs = [.ref a] ∧ ((SqL K H1 a xs ∧ R (ItE (goL K a) (valL K a) (stopL K a)) H1) ∨ (SqT K H1 a xs ∧ R (ItE (goT K a) (valT K a) (stopT K a)) H1))
theorem pi_enumX {X : Cx} {K : PySem.W.Frag} {e : Expr} {ta : TA} {p pos tpos : Pos} {elts : List Expr} {kk : Nat} (hK : X.K = K) (hg : Gl X "enumerate") (hm : X.mg "enumerate" = none) (ha : PA X [e] ta) (hs : starEach [e] X.env = [(false, eval e X.env)] := by rfl) :
    PI X (.Tuple elts kk tpos) (.Call (.Name "enumerate" p) [e] [] pos) (iEnumX K ta) := by
  subst hK
  refine ⟨fun pins s σ H R I h => ?_⟩
  refine Call_ (ld_blt I hg hm boot_enumerate (PyProof.Rows.callWith_type1 (thn (ha.run pos pins s σ H _ I h) fun us s1 ⟨vs, H1, I1, r1, q1⟩ => ?_) hs rfl))
  obtain ⟨a, xs, ex, q⟩ := q1
  subst ex
  cases r1 with
  | cons r rr =>
    cases rr
    cases r
    have fp2 : ∀ b ∈ [s1.heap.objs.size + 1, s1.heap.objs.size], FpOk X pins H1 b := fun b hb => by
      have e' : b = s1.heap.objs.size + 1 ∨ b = s1.heap.objs.size := by simpa using hb
      have hle : s1.heap.objs.size ≤ b := by
        rcases e' with z | z
        · rw [z]; exact Nat.le_add_right _ _
        · rw [z]; exact Nat.le_refl _
      exact I1.fpOk hle (I1.hok.fresh hle)
    rcases q with ⟨hq, q⟩ | ⟨hq, q⟩
    · obtain ⟨its, rv, p', hz⟩ := I1.list hq
      refine enum_begins1 (begins_list a its.toArray) p'.isList fun h' he hit hsz hk => wpAny_pyIter_enum he ?_
      have I2 : Inv X pins σ H1 { s1 with heap := h' } := I1.kept (t' := s1.toks) hk
      have hlt : a < s1.heap.objs.size := p'.lt
      exact ⟨s1.heap.objs.size + 1, [s1.heap.objs.size + 1, s1.heap.objs.size], _, _, H1, rfl, I2, turn_enumD drw_l (Nat.succ_ne_self _) (Nat.ne_of_gt (Nat.lt_succ_of_lt hlt)) (Nat.ne_of_lt hlt), ⟨⟨.none, he⟩, ⟨_, hit, rfl, rfl⟩⟩, fp2, q⟩
    · obtain ⟨its, rv, p', hz⟩ := I1.tuple hq
      refine enum_begins1 (begins_tuple a its.toArray) (show s1.heap.IsTuple a its.toArray from p') fun h' he hit hsz hk => wpAny_pyIter_enum he ?_
      have I2 : Inv X pins σ H1 { s1 with heap := h' } := I1.kept (t' := s1.toks) hk
      have hlt : a < s1.heap.objs.size := p'.lt
      exact ⟨s1.heap.objs.size + 1, [s1.heap.objs.size + 1, s1.heap.objs.size], _, _, H1, rfl, I2, turn_enumD drw_t (Nat.succ_ne_self _) (Nat.ne_of_gt (Nat.lt_succ_of_lt hlt)) (Nat.ne_of_lt hlt), ⟨⟨.none, he⟩, ⟨_, hit, rfl, rfl⟩⟩, fp2, q⟩
/-! ### zip -/
def ItZ (g1 g2 : Nat → Hp → Prop) (v1 v2 : Nat → Hp → V → Prop) (s1 s2 : Nat → Hp → Prop) : It :=
  ⟨fun i H => g1 i H ∧ g2 i H, fun i H v H' => ∃ T x y, v = .ref T ∧ H T = none ∧ H' = upd H T (.tup [x, y]) ∧ v1 i H x ∧ v2 i H y, fun i H => (s1 i H ∧ (g2 i H ∨ s2 i H)) ∨ (g1 i H ∧ s2 i H)⟩
section
variable {P : Program} {w : World} {K : PySem.W.Frag} {elts : List Expr} {kk : Nat} {tpos : Pos} {a b i1 i2 z TI TO : Addr} {t1 t2 : Nat → Heap → Prop} {g1 g2 : Nat → Hp → Prop} {v1 v2 : Nat → Hp → V → Prop} {p1 p2 : Nat → Hp → Prop}
theorem draws_cast {A : Around} {it : Addr} {fp : List Addr} {n m : Nat} {Pp : Nat → Value → Prop} {Sx : Nat → Heap → Prop} (D : Draws P w A it fp n Pp Sx) (e : n = m) : Draws P w A it fp m Pp Sx := e ▸ D
theorem turn_zipD (D1 : Drw P w K a i1 t1 g1 v1 p1) (D2 : Drw P w K b i2 t2 g2 v2 p2) (S : ZipSep2 z TI TO i1 i2 [i1, a] [i2, b]) (hai : a ≠ i1) (hbi : b ≠ i2) :
    Turn P w K (.Tuple elts kk tpos) (ItZ g1 g2 v1 v2 p1 p2) [z, TI, TO, i1, i2] z (fun i h => IsZip h z TI TO .none ∧ IsTupOf2 h TI (.ref i1) (.ref i2) ∧ (∃ x y, IsTupOf2 h TO x y) ∧ t1 i h ∧ t2 i h) where
  mem := by simp
  obj := fun i h st c hc => by
    obtain ⟨hz, hTI, ⟨x, y, hTO⟩, h1, h2⟩ := st
    have e' : c = z ∨ c = TI ∨ c = TO ∨ c = i1 ∨ c = i2 := by simpa using hc
    rcases e' with q | q | q | q | q
    · rw [q]; exact ⟨_, hz, fun v q => nomatch q⟩
    · rw [q]; exact ⟨_, hTI, fun v q => nomatch q⟩
    · rw [q]; exact ⟨_, hTO, fun v q => nomatch q⟩
    · rw [q]; exact D1.obj i h h1
    · rw [q]; exact D2.obj i h h2
  keep := fun i h h' st k => by
    obtain ⟨hz, hTI, ⟨x, y, hTO⟩, h1, h2⟩ := st
    exact ⟨k z (by simp) _ hz, k TI (by simp) _ hTI, ⟨x, y, k TO (by simp) _ hTO⟩, D1.keep _ _ _ h1 fun o q => k i1 (by simp) o q, D2.keep _ _ _ h2 fun o q => k i2 (by simp) o q⟩
  item := by
    intro X hP hw hK hc i pins s σ H E I hf st hg
    obtain ⟨hz, hTI, ⟨x0, y0, hTO⟩, h1, h2⟩ := st
    obtain ⟨n1, P1, S1, Dr1, s1, l1, hv1, hn1⟩ := D1.draw X hP hw hK hc X.A.in1 i pins s σ H (I.ok.hd hc) I hai h1 hg.1
    obtain ⟨n2, P2, S2, Dr2, s2, l2, hv2, hn2⟩ := D2.draw X hP hw hK hc X.A.in1 i pins s σ H (I.ok.hd hc) I hbi h2 hg.2
    subst hP hw hK
    have hzl : z < s.heap.objs.size := Heap.lt_size hz
    refine wpAny_pyNext_zipD2_item S Dr1 Dr2 hz hTI hTO s1 s2 l1 l2 fun u1 u2 h' tk y1 y2 z' TO' s1' s2' hT hsz hk => ?_
    obtain ⟨x, ru, vx⟩ := hv1 u1 y1
    obtain ⟨y, ru2, vy⟩ := hv2 u2 y2
    refine ⟨_, rfl, wpAny_letOwnedTupleGo_zip (s := { s with heap := h', toks := tk }) z' fun h'' z'' sb => ?_⟩
    have hT2 : h''.get? s.heap.objs.size = some { cls := .type "tuple", data := .seq #[u1, u2] } := (sb.2 _ (Nat.ne_of_gt hzl)).trans hT
    have new : ObjOk X.prog X.w (upd H s.heap.objs.size (.tup [x, y])) h'' s.heap.objs.size (.tup [x, y]) :=
      ⟨by show 2 ≤ sizeLine; decide, [u1, u2], .cons ru (.cons ru2 .nil), ⟨_, hT2, rfl, _, rfl⟩⟩
    have I1 : Inv X pins σ (upd H s.heap.objs.size (.tup [x, y])) { s with heap := h'', toks := tk } :=
      I.turnedNew (ch := [z, TI, TO, i1, i2]) (fun c o hb q => (sb.2 c (fun q' => hb (by simp [q']))).trans (hk c o (fun q' => hb (by simp [q'])) (fun q' => hb (by simp [q'])) (fun q' => hb (by simp [q'])) (fun q' => hb (by simp [q'])) q)) hf (Nat.le_refl _) new
    refine ⟨.ref s.heap.objs.size, _, I1, rfl, ⟨_, x, y, rfl, I.hok.fresh (Nat.le_refl _), rfl, vx, vy⟩, ⟨z'', ?_, ⟨u1, u2, ?_⟩, ?_, ?_⟩, fun c hcm => ?_⟩
    · exact (sb.2 _ S.TIz).trans (hk _ _ S.TIz S.TITO S.TIi1 S.TIi2 hTI)
    · exact (sb.2 _ S.TOz).trans TO'
    · exact D1.keep _ _ _ (hn1 _ s1') fun o q => (sb.2 _ (Ne.symm S.zi1)).trans q
    · exact D2.keep _ _ _ (hn2 _ s2') fun o q => (sb.2 _ (Ne.symm S.zi2)).trans q
    · have hlt : c < s.heap.objs.size := by
        have e' : c = z ∨ c = TI ∨ c = TO ∨ c = i1 ∨ c = i2 := by simpa using hcm
        rcases e' with q | q | q | q | q
        · rw [q]; exact hzl
        · rw [q]; exact Heap.lt_size hTI
        · rw [q]; exact Heap.lt_size hTO
        · rw [q]; obtain ⟨_, e1, _⟩ := D1.obj _ _ h1; exact Heap.lt_size e1
        · rw [q]; obtain ⟨_, e2, _⟩ := D2.obj _ _ h2; exact Heap.lt_size e2
      rw [upd_ne (Nat.ne_of_lt hlt)]
      exact (hf c hcm).1
  done := by
    intro X hP hw hK hc i pins s σ H E I hf st hg
    obtain ⟨hz, hTI, ⟨x0, y0, hTO⟩, h1, h2⟩ := st
    have ends : ∃ (n1 n2 : Nat) (P1 P2 : Nat → Value → Prop) (S1 S2 : Nat → Heap → Prop), Draws P w X.A.in1 i1 [i1, a] n1 P1 S1 ∧ Draws P w X.A.in1 i2 [i2, b] n2 P2 S2 ∧ S1 i s.heap ∧ S2 i s.heap ∧ i ≤ n1 ∧ i ≤ n2 ∧ (i = n1 ∨ i = n2) := by
      rcases hg with ⟨q1, q2⟩ | ⟨q1, q2⟩
      · obtain ⟨P1, S1, Dr1, s1⟩ := D1.fin X hP hw hK hc X.A.in1 i pins s σ H (I.ok.hd hc) I hai h1 q1
        rcases q2 with q2 | q2
        · obtain ⟨n2, P2, S2, Dr2, s2, l2, _, _⟩ := D2.draw X hP hw hK hc X.A.in1 i pins s σ H (I.ok.hd hc) I hbi h2 q2
          exact ⟨i, n2, P1, P2, S1, S2, Dr1, Dr2, s1, s2, Nat.le_refl _, Nat.le_of_lt l2, .inl rfl⟩
        · obtain ⟨P2, S2, Dr2, s2⟩ := D2.fin X hP hw hK hc X.A.in1 i pins s σ H (I.ok.hd hc) I hbi h2 q2
          exact ⟨i, i, P1, P2, S1, S2, Dr1, Dr2, s1, s2, Nat.le_refl _, Nat.le_refl _, .inl rfl⟩
      · obtain ⟨n1, P1, S1, Dr1, s1, l1, _, _⟩ := D1.draw X hP hw hK hc X.A.in1 i pins s σ H (I.ok.hd hc) I hai h1 q1
        obtain ⟨P2, S2, Dr2, s2⟩ := D2.fin X hP hw hK hc X.A.in1 i pins s σ H (I.ok.hd hc) I hbi h2 q2
        exact ⟨n1, i, P1, P2, S1, S2, Dr1, Dr2, s1, s2, Nat.le_of_lt l1, Nat.le_refl _, .inr rfl⟩
    obtain ⟨n1, n2, P1, P2, S1, S2, Dr1, Dr2, s1, s2, l1, l2, le⟩ := ends
    subst hP hw hK
    exact wpAny_pyNext_zipD2_end S Dr1 Dr2 hz hTI hTO s1 s2 l1 l2 le fun h' tk hk => ⟨rfl, I.turnedL (t' := tk) (ch := [z, TI, TO, i1, i2]) (fun c o hb q =>
      hk c o (fun q' => hb (by simp [q'])) (fun q' => hb (by simp [q'])) (fun q' => hb (by simp [q'])) (fun q' => hb (by simp [q'])) q) hf⟩
  self := fun A i s Q E st h => wpAny_pyIter_zip st.1 h
end
def iZipX (K : PySem.W.Frag) (ta : TA) : TI := fun σ H R => ta σ H fun vs H1 => ∃ a b xs ys, vs = [.ref a, .ref b] ∧ (
  (SqL K H1 a xs ∧ SqL K H1 b ys ∧ R (ItZ (goL K a) (goL K b) (valL K a) (valL K b) (stopL K a) (stopL K b)) H1) ∨
  (SqT K H1 a xs ∧ SqT K H1 b ys ∧ R (ItZ (goT K a) (goT K b) (valT K a) (valT K b) (stopT K a) (stopT K b)) H1) ∨
  (SqT K H1 a xs ∧ SqL K H1 b ys ∧ R (ItZ (goT K a) (goL K b) (valT K a) (valL K b) (stopT K a) (stopL K b)) H1))
theorem pi_zipX {X : Cx} {K : PySem.W.Frag} {e e2 : Expr} {ta : TA} {p pos tpos : Pos} {elts : List Expr} {kk : Nat} (hK : X.K = K) (hg : Gl X "zip") (hm : X.mg "zip" = none) (ha : PA X [e, e2] ta)
    (hs : starEach [e, e2] X.env = (false, eval e X.env) :: starEach [e2] X.env := by rfl) (hpl : (backTo pos (starEach [e2] X.env)).any (·.1) = false := by rfl) :
    PI X (.Tuple elts kk tpos) (.Call (.Name "zip" p) [e, e2] [] pos) (iZipX K ta) := by
  subst hK
  refine ⟨fun pins s σ H R I h => ?_⟩
  refine Call_ (ld_blt I hg hm PyProof.Rows.boot_zip (PyProof.Rows.callWith_type1 (thn (ha.run pos pins s σ H _ I h) fun us s1 ⟨vs, H1, I1, r1, q1⟩ => ?_) hs hpl))
  obtain ⟨a, b, xs, ys, ex, q1⟩ := q1
  subst ex
  cases r1 with
  | cons r rr =>
    cases rr with
    | cons r' rr =>
      cases rr
      cases r
      cases r'
      have fresh5 : ∀ c, c ∈ [s1.heap.objs.size + 4, s1.heap.objs.size + 2, s1.heap.objs.size + 3, s1.heap.objs.size, s1.heap.objs.size + 1] → FpOk X pins H1 c := fun c hcm => by
        have e' : c = s1.heap.objs.size + 4 ∨ c = s1.heap.objs.size + 2 ∨ c = s1.heap.objs.size + 3 ∨ c = s1.heap.objs.size ∨ c = s1.heap.objs.size + 1 := by simpa using hcm
        have hle : s1.heap.objs.size ≤ c := by
          rcases e' with z | z | z | z | z
          · rw [z]; exact Nat.le_add_right _ _
          · rw [z]; exact Nat.le_add_right _ _
          · rw [z]; exact Nat.le_add_right _ _
          · rw [z]; exact Nat.le_refl _
          · rw [z]; exact Nat.le_add_right _ _
        exact I1.fpOk hle (I1.hok.fresh hle)
      have sep : ∀ {a b : Addr}, a < s1.heap.objs.size → b < s1.heap.objs.size → ZipSep2 (s1.heap.objs.size + 4) (s1.heap.objs.size + 2) (s1.heap.objs.size + 3) s1.heap.objs.size (s1.heap.objs.size + 1) [s1.heap.objs.size, a] [s1.heap.objs.size + 1, b] := fun {a b} ha hb =>
        zip_sep2 (fun c hc => by rw [List.mem_singleton.mp hc]; exact ha) (fun c hc => by rw [List.mem_singleton.mp hc]; exact hb)
      rcases q1 with ⟨hqx, hqy, q⟩ | ⟨hqx, hqy, q⟩ | ⟨hqx, hqy, q⟩
      · obtain ⟨its, rv, p1, _⟩ := I1.list hqx
        obtain ⟨its2, rv2, p2, _⟩ := I1.list hqy
        refine zip_begins2 (begins_list a its.toArray) (begins_list b its2.toArray) p1.isList p2.isList fun h' hz hTI hTO h1 h2 hsz hk => wpAny_pyIter_zip hz ?_
        have I2 : Inv X pins σ H1 { s1 with heap := h' } := I1.kept (t' := s1.toks) hk
        exact ⟨s1.heap.objs.size + 4, [s1.heap.objs.size + 4, s1.heap.objs.size + 2, s1.heap.objs.size + 3, s1.heap.objs.size, s1.heap.objs.size + 1], _, _, H1, rfl, I2, turn_zipD drw_l drw_l (sep p1.lt p2.lt) (Nat.ne_of_lt p1.lt) (Nat.ne_of_lt (Nat.lt_succ_of_lt p2.lt)), ⟨hz, hTI, ⟨_, _, hTO⟩, ⟨_, h1, rfl, rfl⟩, ⟨_, h2, rfl, rfl⟩⟩, fresh5, q⟩
      · obtain ⟨its, rv, p1, _⟩ := I1.tuple hqx
        obtain ⟨its2, rv2, p2, _⟩ := I1.tuple hqy
        refine zip_begins2 (begins_tuple a its.toArray) (begins_tuple b its2.toArray) (show s1.heap.IsTuple a its.toArray from p1) (show s1.heap.IsTuple b its2.toArray from p2) fun h' hz hTI hTO h1 h2 hsz hk => wpAny_pyIter_zip hz ?_
        have I2 : Inv X pins σ H1 { s1 with heap := h' } := I1.kept (t' := s1.toks) hk
        exact ⟨s1.heap.objs.size + 4, [s1.heap.objs.size + 4, s1.heap.objs.size + 2, s1.heap.objs.size + 3, s1.heap.objs.size, s1.heap.objs.size + 1], _, _, H1, rfl, I2, turn_zipD drw_t drw_t (sep p1.lt p2.lt) (Nat.ne_of_lt p1.lt) (Nat.ne_of_lt (Nat.lt_succ_of_lt p2.lt)), ⟨hz, hTI, ⟨_, _, hTO⟩, ⟨_, h1, rfl, rfl⟩, ⟨_, h2, rfl, rfl⟩⟩, fresh5, q⟩
      · obtain ⟨its, rv, p1, _⟩ := I1.tuple hqx
        obtain ⟨its2, rv2, p2, _⟩ := I1.list hqy
        refine zip_begins2 (begins_tuple a its.toArray) (begins_list b its2.toArray) (show s1.heap.IsTuple a its.toArray from p1) p2.isList fun h' hz hTI hTO h1 h2 hsz hk => wpAny_pyIter_zip hz ?_
        have I2 : Inv X pins σ H1 { s1 with heap := h' } := I1.kept (t' := s1.toks) hk
        exact ⟨s1.heap.objs.size + 4, [s1.heap.objs.size + 4, s1.heap.objs.size + 2, s1.heap.objs.size + 3, s1.heap.objs.size, s1.heap.objs.size + 1], _, _, H1, rfl, I2, turn_zipD drw_t drw_l (sep p1.lt p2.lt) (Nat.ne_of_lt p1.lt) (Nat.ne_of_lt (Nat.lt_succ_of_lt p2.lt)), ⟨hz, hTI, ⟨_, _, hTO⟩, ⟨_, h1, rfl, rfl⟩, ⟨_, h2, rfl, rfl⟩⟩, fresh5, q⟩
end Pa
set_option Elab.async false
set_option linter.all false
set_option maxRecDepth 100000
set_option maxHeartbeats 4000000
/-! names that hold data: reading without the heap -/
namespace Pa
open PySem PySem.Spec PyProof.Rows L2 Evl

abbrev Env := List (Option D)
def EnvD (K : PySem.W.Frag) (ρ : Env) (σ : L2.St) (H : Hp) : Prop := σ.length = ρ.length ∧ ∀ (i : Nat) d, ρ[i]? = some (some d) → ∃ v, σ[i]? = some (some v) ∧ Rp K H v d
def wipeE (ρ : Env) : List Nat → Env
  | [] => ρ
  | v :: vs => (wipeE ρ vs).set v none
section
variable {K : PySem.W.Frag} {ρ ρ' ρ1 ρ2 : Env} {σ σ' : L2.St} {H H' : Hp} {v : V} {d d' : D} {ds es : List D} {vs : List Nat} {i j : Nat}
theorem EnvD.mono (e : Ex H H') (h : EnvD K ρ σ H) : EnvD K ρ σ H' := ⟨h.1, fun i d hi => by
  obtain ⟨v, h1, h2⟩ := h.2 i d hi
  exact ⟨v, h1, h2.mono e⟩⟩
theorem EnvD.set (h : EnvD K ρ σ H) (r : Rp K H v d) : EnvD K (ρ.set i (some d)) (σ.set i (some v)) H := by
  refine ⟨by simp [h.1], fun j e hj => ?_⟩
  by_cases hij : i = j
  · subst hij
    have hl : i < ρ.length := by
      by_cases hl : i < ρ.length
      · exact hl
      · rw [List.getElem?_eq_none (by simpa using Nat.le_of_not_lt hl)] at hj; cases hj
    rw [List.getElem?_set_self hl] at hj
    cases hj
    exact ⟨v, by rw [List.getElem?_set_self (by rw [h.1]; exact hl)], r⟩
  · rw [List.getElem?_set_ne hij] at hj
    obtain ⟨w, h1, h2⟩ := h.2 j e hj
    exact ⟨w, by rw [List.getElem?_set_ne hij]; exact h1, h2⟩
theorem EnvD.off (h : EnvD K ρ σ H) {o : Option V} : EnvD K (ρ.set i none) (σ.set i o) H := by
  refine ⟨by simp [h.1], fun j e hj => ?_⟩
  by_cases hij : i = j
  · subst hij
    by_cases hl : i < ρ.length
    · rw [List.getElem?_set_self hl] at hj; cases hj
    · rw [List.getElem?_eq_none (by simpa using Nat.le_of_not_lt hl)] at hj; cases hj
  · rw [List.getElem?_set_ne hij] at hj
    obtain ⟨w, h1, h2⟩ := h.2 j e hj
    exact ⟨w, by rw [List.getElem?_set_ne hij]; exact h1, h2⟩
theorem EnvD.wipe (h : EnvD K ρ σ H) : ∀ vs : List Nat, EnvD K (wipeE ρ vs) (L2.wipe σ vs) H
  | [] => h
  | v :: vs => (EnvD.wipe h vs).off
theorem wipe_get (σ : L2.St) : ∀ (vs : List Nat) (j : Nat), (L2.wipe σ vs)[j]? = if j ∈ vs then (if j < σ.length then some none else none) else σ[j]?
  | [], j => by simp [L2.wipe]
  | v :: vs, j => by
    unfold L2.wipe
    by_cases hv : v = j
    · subst hv
      by_cases hl : v < σ.length
      · rw [List.getElem?_set_self (by rw [wipe_length]; exact hl)]
        simp [hl]
      · rw [List.getElem?_eq_none (by rw [List.length_set, wipe_length]; exact Nat.le_of_not_lt hl)]
        simp [hl]
    · rw [List.getElem?_set_ne hv, wipe_get σ vs j]
      have : ¬ j = v := fun q => hv q.symm
      simp [this]
theorem wipe_set {o : Option V} (h : i ∈ vs) : L2.wipe (σ.set i o) vs = L2.wipe σ vs := by
  refine List.ext_getElem? fun j => ?_
  rw [wipe_get, wipe_get]
  by_cases hj : j ∈ vs
  · simp [hj]
  · have hij : i ≠ j := fun q => hj (q ▸ h)
    simp [hj, List.getElem?_set_ne hij]
theorem wipe_wipe : L2.wipe (L2.wipe σ vs) vs = L2.wipe σ vs := by
  refine List.ext_getElem? fun j => ?_
  rw [wipe_get, wipe_get]
  by_cases hj : j ∈ vs
  · simp [hj, wipe_length]
  · simp [hj]
/-! ### expressions -/
def EvE (K : PySem.W.Frag) (te : TE) (ρ : Env) (d : D) : Prop := ∀ σ H, EnvD K ρ σ H → EvD K te σ H d
def EvEs (K : PySem.W.Frag) (ta : TA) (ρ : Env) (ds : List D) : Prop := ∀ σ H, EnvD K ρ σ H → EvDs K ta σ H ds
def EvTE (K : PySem.W.Frag) (t : TT) (ρ : Env) (b : Bool) : Prop := ∀ σ H, EnvD K ρ σ H → EvT t σ H b
def EvOE (K : PySem.W.Frag) (t : TO) (ρ : Env) (o : Option Int) : Prop := ∀ σ H, EnvD K ρ σ H → EvO t σ H o
variable {ta tb tc te tk : TE} {tt tu : TT} {tx : TA} {x y v : V} {a b c z : D} {k m : Bool} {r r' : R2}
theorem ee_var (h : ρ[i]? = some (some d)) : EvE K (tVar i) ρ d := fun σ H e => by
  obtain ⟨v, h1, h2⟩ := e.2 i d h
  exact dv_var h1 h2
theorem ee_c : EvE K (tC v) ρ (.raw v) := fun _ _ _ => dv_c
theorem ee_is (h : EvE K te ρ d) (e : d = d') : EvE K te ρ d' := e ▸ h
theorem te_is (h : EvTE K tt ρ k) (e : k = m) : EvTE K tt ρ m := e ▸ h
theorem es_is (h : EvEs K tx ρ ds) (e : ds = es) : EvEs K tx ρ es := e ▸ h
theorem ee_op (ha : EvE K ta ρ a) (hb : EvE K tb ρ b) (hr : ∀ H, RD K r a b H z) : EvE K (tOp r ta tb) ρ z := fun σ H e => dv_op (ha σ H e) (hb σ H e) (hr H)
theorem ee_un {r : V → Hp → VK → Prop} {x y : V} (ha : EvE K ta ρ (.raw x)) (hr : ∀ H, RU r x H y) : EvE K (tUn r ta) ρ (.raw y) := fun σ H e => dv_of (ev_un (ha σ H e).val (hr H))
theorem es_nil : EvEs K tNil ρ [] := fun _ _ _ => ds_nil
theorem es_cons {tr : TA} (h : EvE K ta ρ d) (hr : EvEs K tr ρ ds) : EvEs K (tCons ta tr) ρ (d :: ds) := fun σ H e => ds_cons (h σ H e) (hr σ H e)
theorem ee_tup (h : EvEs K tx ρ ds) (hl : ds.length ≤ 100000) : EvE K (tTup tx) ρ (.tup ds) := fun σ H e => dv_tup (h σ H e) hl
theorem ee_lst (h : EvEs K tx ρ ds) (hl : ds.length ≤ 100000) : EvE K (tLst tx) ρ (.lst ds) := fun σ H e => dv_lst (h σ H e) hl
theorem ee_cb {rc : List V → Hp → VK → Prop} (h : EvEs K tx ρ ds) (hs : ∀ H, RCD K rc ds H d) : EvE K (tCB rc tx) ρ d := fun σ H e => dv_cb (h σ H e) (hs H)
theorem ee_call {g : List D → D → Prop} {E : XK} (h : EvEs K tx ρ ds) (hg : g ds d) : EvE K (tCall (spD K g) [] E tx) ρ d := fun σ H e => dv_callD (h σ H e) hg
theorem te_test (h : EvE K te ρ (dB k)) : EvTE K (tTest te) ρ k := fun σ H e => dt_test (h σ H e)
theorem te_B (h : EvE K te ρ (dB k)) : EvTE K (tB te) ρ k := fun σ H e => dt_B (h σ H e)
theorem te_and (h1 : EvTE K tt ρ k) (h2 : k = true → EvTE K tu ρ m) : EvTE K (tAnd tt tu) ρ (k && m) := fun σ H e => et_and (h1 σ H e) fun q => h2 q σ H e
theorem te_or (h1 : EvTE K tt ρ k) (h2 : k = false → EvTE K tu ρ m) : EvTE K (tOr tt tu) ρ (k || m) := fun σ H e => et_or (h1 σ H e) fun q => h2 q σ H e
theorem te_not (h1 : EvTE K tt ρ k) : EvTE K (tNot tt) ρ (!k) := fun σ H e => et_not (h1 σ H e)
theorem te_yes : EvTE K tYes ρ true := fun _ _ _ => yes_ok
theorem ee_and (h1 : EvE K ta ρ (dB k)) (h2 : k = true → EvE K tb ρ (dB m)) : EvE K (tAndV ta tb) ρ (dB (k && m)) := fun σ H e => dv_andV (h1 σ H e) fun q => h2 q σ H e
theorem ee_not (h1 : EvE K ta ρ (dB k)) : EvE K (tNotV ta) ρ (dB (!k)) := fun σ H e => dv_notV (h1 σ H e)
theorem ee_or (h1 : EvE K ta ρ (dB k)) (h2 : k = false → EvE K tb ρ (dB m)) : EvE K (tOrV ta tb) ρ (dB (k || m)) := fun σ H e => dv_of (ev_orV (h1 σ H e).val fun q => (h2 q σ H e).val)
theorem ee_if (h : EvTE K tt ρ k) (h1 : k = true → EvE K ta ρ d) (h2 : k = false → EvE K tb ρ d) : EvE K (tIf tt ta tb) ρ d := fun σ H e => dv_if (h σ H e) (fun q => h1 q σ H e) fun q => h2 q σ H e
theorem ee_chain (ha : EvE K ta ρ a) (hb : EvE K tb ρ b) (h1 : ∀ H, RD K r a b H (dB k)) (hc : k = true → EvE K tc ρ c) (h2 : ∀ H, RD K r' b c H (dB m)) : EvE K (tChain r r' ta tb tc) ρ (dB (k && m)) := fun σ H e => dv_chain (ha σ H e) (hb σ H e) (h1 H) (fun q => hc q σ H e) (h2 H)
theorem eo_non : EvOE K tNoPart ρ none := fun _ _ _ H1 _ Q q => q H1 (Ex.refl _)
theorem eo_some {n : Int} (h : EvE K te ρ (dI n)) : EvOE K (tPart te) ρ (some n) := fun σ H e H1 e1 Q q => (h σ H e).val H1 e1 _ fun H2 e2 => ⟨n, rfl, q H2 e2⟩
theorem ee_slL {tl th : TO} {lo hi : Option Int} (h : EvE K te ρ (.lst ds)) (h1 : EvOE K tl ρ lo) (h2 : EvOE K th ρ hi) : EvE K (tSl (rSlX K) te tl th) ρ (.lst (cutD ds lo hi)) := fun σ H e => dv_slL (h σ H e) (h1 σ H e) (h2 σ H e)
theorem ee_slT {tl th : TO} {lo hi : Option Int} (h : EvE K te ρ (.tup ds)) (h1 : EvOE K tl ρ lo) (h2 : EvOE K th ρ hi) : EvE K (tSl (rSlX K) te tl th) ρ (.tup (cutD ds lo hi)) := fun σ H e => dv_slT (h σ H e) (h1 σ H e) (h2 σ H e)
theorem ee_slS {tl th : TO} {lo hi : Option Int} {w : Str} (h : EvE K te ρ (dS w)) (h1 : EvOE K tl ρ lo) (h2 : EvOE K th ρ hi) (hz : w.length ≤ 100000) : EvE K (tSl (rSlX K) te tl th) ρ (dS (Txt.slice w lo hi)) := fun σ H e => dv_slS hz (h σ H e) (h1 σ H e) (h2 σ H e)
/-! ### targets, walks, comprehensions -/
/-- the target takes data d; its names lie at js -/
def GE (K : PySem.W.Frag) (g : TG) (js : List Nat) (d : D) (ρ ρ' : Env) : Prop := ∀ σ H v, EnvD K ρ σ H → Rp K H v d → ∀ Q : L2.St → Hp → Prop,
  (∀ σ' H', Ex H H' → EnvD K ρ' σ' H' → (∀ vs : List Nat, (∀ j ∈ js, j ∈ vs) → L2.wipe σ' vs = L2.wipe σ vs) → Q σ' H') → g v σ H Q
def GEs (K : PySem.W.Frag) (g : TGs) (js : List Nat) (ds : List D) (ρ ρ' : Env) : Prop := ∀ σ H vs, EnvD K ρ σ H → Rps K H vs ds → ∀ Q : L2.St → Hp → Prop,
  (∀ σ' H', Ex H H' → EnvD K ρ' σ' H' → (∀ vs : List Nat, (∀ j ∈ js, j ∈ vs) → L2.wipe σ' vs = L2.wipe σ vs) → Q σ' H') → g vs σ H Q
theorem ge_name : GE K (gName i) [i] d ρ (ρ.set i (some d)) := fun σ H v e r Q q => q _ H (Ex.refl _) (e.set r) fun vs h => wipe_set (h i (by simp))
theorem ges_nil : GEs K gNil [] [] ρ ρ := fun σ H vs e r Q q => by
  cases r
  exact ⟨rfl, q _ H (Ex.refl _) e fun _ _ => rfl⟩
theorem ges_cons {g : TG} {gs : TGs} {js ks : List Nat} (h : GE K g js d ρ ρ1) (hs : GEs K gs ks ds ρ1 ρ2) : GEs K (gCons g gs) (js ++ ks) (d :: ds) ρ ρ2 := fun σ H vs e r Q q => by
  cases r with
  | cons r rr =>
    refine ⟨_, _, rfl, h σ H _ e r _ fun σ1 H1 e1 E1 w1 => ?_⟩
    refine hs σ1 H1 _ E1 (rr.mono e1) Q fun σ2 H2 e2 E2 w2 => q _ _ (e1.trans e2) E2 fun vs hv => ?_
    rw [w2 vs fun j hj => hv j (by simp [hj]), w1 vs fun j hj => hv j (by simp [hj])]
theorem ge_tup {gs : TGs} {js : List Nat} {n : Nat} (h : GEs K gs js ds ρ ρ') (hn : ds.length = n) : GE K (gTup K n gs) js (.tup ds) ρ ρ' := fun σ H v e r Q q => by
  obtain ⟨a, xs, rfl, hs, rr⟩ := r.tup_inv
  exact ⟨a, xs, rfl, hs, by rw [rr.len]; exact hn, h σ H xs e rr Q q⟩
def WkE (K : PySem.W.Frag) (wi : TI) (ρ : Env) (ds : List D) : Prop := ∀ σ H, EnvD K ρ σ H → Wk wi σ H fun J H2 => JOk K J H2 ds
theorem wke_t (h : EvE K te ρ (.tup ds)) : WkE K (iAny K te) ρ ds := fun σ H e => wk_at (h σ H e)
theorem wke_l (h : EvE K te ρ (.lst ds)) : WkE K (iAny K te) ρ ds := fun σ H e => wk_al (h σ H e)
theorem wke_s {w : Str} (h : EvE K te ρ (dS w)) : WkE K (iAny K te) ρ (signs w) := fun σ H e => Wk.here (wk_as (h σ H e))
theorem wke_r {n : Int} (h : EvEs K tx ρ [dI n]) (hn : 0 ≤ n ∧ n ≤ 100000) : WkE K (iRng1 tx) ρ (rngD n.toNat) := fun σ H e => (wk_r1 (h σ H e) hn).imp fun J H2 _ j => j H2
/-- enumerate -/
def enumD (ds : List D) : List D := (List.range ds.length).map fun (i : Nat) => D.tup [dI (i : Int), ds.getD i dN]
theorem enumD_len : (enumD ds).length = ds.length := by simp [enumD]
theorem enumD_get (h : ds[i]? = some d) : (enumD ds)[i]? = some (.tup [dI (i : Int), d]) := by
  have hi : i < ds.length := (List.getElem?_eq_some_iff.mp h).1
  have e := (List.getElem?_eq_some_iff.mp h).2
  simp [enumD, hi, h, e]
theorem jok_eT {p : Addr} {xs : List V} (h : SqT K H p xs) (r : Rps K H xs ds) : JOk K (ItE (goT K p) (valT K p) (stopT K p)) H (enumD ds) := by
  refine ⟨fun i H' e hi => ?_, fun H' e => ⟨xs, ex_t e h, by rw [r.len, enumD_len]⟩, fun i H' x H'' e hi y => ?_⟩
  · rw [enumD_len] at hi
    obtain ⟨x, hx, _⟩ := r.get (i := i) (d := ds[i]) (by simp [hi])
    exact ⟨xs, x, ex_t e h, hx⟩
  · obtain ⟨T, x, rfl, hT, rfl, hx⟩ := y
    obtain ⟨d, hd, rd⟩ := r.get' (hx xs (ex_t e h))
    exact ⟨_, enumD_get hd, Ex.new hT, .tup (SqT.of upd_same) (.cons (.raw _) (.cons (rd.mono (e.trans (Ex.new hT))) .nil))⟩
theorem jok_eL {p : Addr} {xs : List V} (h : SqL K H p xs) (r : Rps K H xs ds) : JOk K (ItE (goL K p) (valL K p) (stopL K p)) H (enumD ds) := by
  refine ⟨fun i H' e hi => ?_, fun H' e => ⟨xs, ex_l e h, by rw [r.len, enumD_len]⟩, fun i H' x H'' e hi y => ?_⟩
  · rw [enumD_len] at hi
    obtain ⟨x, hx, _⟩ := r.get (i := i) (d := ds[i]) (by simp [hi])
    exact ⟨xs, x, ex_l e h, hx⟩
  · obtain ⟨T, x, rfl, hT, rfl, hx⟩ := y
    obtain ⟨d, hd, rd⟩ := r.get' (hx xs (ex_l e h))
    exact ⟨_, enumD_get hd, Ex.new hT, .tup (SqT.of upd_same) (.cons (.raw _) (.cons (rd.mono (e.trans (Ex.new hT))) .nil))⟩
theorem wke_eT (h : EvEs K tx ρ [.tup ds]) : WkE K (iEnumX K tx) ρ (enumD ds) := fun σ H e H1 e1 R q => h σ H e H1 e1 _ fun vs H2 e2 r => by
  cases r with
  | cons r rr =>
    cases rr
    obtain ⟨p, xs, rfl, hs, rs⟩ := r.tup_inv
    exact ⟨p, xs, rfl, .inr ⟨hs, q _ H2 e2 (jok_eT hs rs)⟩⟩
theorem wke_eL (h : EvEs K tx ρ [.lst ds]) : WkE K (iEnumX K tx) ρ (enumD ds) := fun σ H e H1 e1 R q => h σ H e H1 e1 _ fun vs H2 e2 r => by
  cases r with
  | cons r rr =>
    cases rr
    obtain ⟨p, xs, rfl, hs, rs⟩ := r.lst_inv
    exact ⟨p, xs, rfl, .inl ⟨SqL.of hs, q _ H2 e2 (jok_eL (SqL.of hs) rs)⟩⟩
/-- zip -/
def zipD (ds es : List D) : List D := (ds.zip es).map fun p => .tup [p.1, p.2]
theorem zipD_len : (zipD ds es).length = min ds.length es.length := by simp [zipD]
theorem zipD_get (h : ds[i]? = some a) (h' : es[i]? = some b) : (zipD ds es)[i]? = some (.tup [a, b]) := by
  unfold zipD
  rw [List.getElem?_map, (List.getElem?_zip_eq_some (z := (a, b))).mpr ⟨h, h'⟩]
  rfl
theorem jok_z {g1 g2 : Nat → Hp → Prop} {v1 v2 : Nat → Hp → V → Prop} {s1 s2 : Nat → Hp → Prop}
    (G1 : ∀ i H', Ex H H' → i < ds.length → g1 i H') (S1 : ∀ H', Ex H H' → s1 ds.length H') (V1 : ∀ i H' x, Ex H H' → v1 i H' x → ∃ d, ds[i]? = some d ∧ Rp K H' x d)
    (G2 : ∀ i H', Ex H H' → i < es.length → g2 i H') (S2 : ∀ H', Ex H H' → s2 es.length H') (V2 : ∀ i H' x, Ex H H' → v2 i H' x → ∃ d, es[i]? = some d ∧ Rp K H' x d) :
    JOk K (ItZ g1 g2 v1 v2 s1 s2) H (zipD ds es) := by
  refine ⟨fun i H' e hi => ?_, fun H' e => ?_, fun i H' x H'' e hi y => ?_⟩
  · rw [zipD_len] at hi
    exact ⟨G1 i H' e (by omega), G2 i H' e (by omega)⟩
  · rw [zipD_len]
    by_cases hl : ds.length ≤ es.length
    · rw [Nat.min_eq_left hl]
      refine .inl ⟨S1 H' e, ?_⟩
      by_cases h2 : ds.length = es.length
      · rw [h2]; exact .inr (S2 H' e)
      · exact .inl (G2 _ H' e (by omega))
    · rw [Nat.min_eq_right (by omega)]
      exact .inr ⟨G1 _ H' e (by omega), S2 H' e⟩
  · obtain ⟨T, x, y, rfl, hT, rfl, hx, hy⟩ := y
    obtain ⟨a, ha, ra⟩ := V1 i H' x e hx
    obtain ⟨b, hb, rb⟩ := V2 i H' y e hy
    exact ⟨_, zipD_get ha hb, Ex.new hT, .tup (SqT.of upd_same) (.cons (ra.mono (Ex.new hT)) (.cons (rb.mono (Ex.new hT)) .nil))⟩
theorem g_l {p : Addr} {xs : List V} (h : SqL K H p xs) (r : Rps K H xs ds) : ∀ i H', Ex H H' → i < ds.length → goL K p i H' := fun i H' e hi => by
  obtain ⟨x, hx, _⟩ := r.get (i := i) (d := ds[i]) (by simp [hi])
  exact ⟨xs, x, ex_l e h, hx⟩
theorem g_t {p : Addr} {xs : List V} (h : SqT K H p xs) (r : Rps K H xs ds) : ∀ i H', Ex H H' → i < ds.length → goT K p i H' := fun i H' e hi => by
  obtain ⟨x, hx, _⟩ := r.get (i := i) (d := ds[i]) (by simp [hi])
  exact ⟨xs, x, ex_t e h, hx⟩
theorem v_l {p : Addr} {xs : List V} (h : SqL K H p xs) (r : Rps K H xs ds) : ∀ i H' x, Ex H H' → valL K p i H' x → ∃ d, ds[i]? = some d ∧ Rp K H' x d := fun i H' x e hv => by
  obtain ⟨d, hd, rd⟩ := r.get' (hv xs (ex_l e h))
  exact ⟨d, hd, rd.mono e⟩
theorem v_t {p : Addr} {xs : List V} (h : SqT K H p xs) (r : Rps K H xs ds) : ∀ i H' x, Ex H H' → valT K p i H' x → ∃ d, ds[i]? = some d ∧ Rp K H' x d := fun i H' x e hv => by
  obtain ⟨d, hd, rd⟩ := r.get' (hv xs (ex_t e h))
  exact ⟨d, hd, rd.mono e⟩
theorem jok_zTT {p q : Addr} {xs ys : List V} (h : SqT K H p xs) (r : Rps K H xs ds) (h' : SqT K H q ys) (r' : Rps K H ys es) : JOk K (ItZ (goT K p) (goT K q) (valT K p) (valT K q) (stopT K p) (stopT K q)) H (zipD ds es) :=
  jok_z (g_t h r) (fun H' e => ⟨xs, ex_t e h, r.len⟩) (v_t h r) (g_t h' r') (fun H' e => ⟨ys, ex_t e h', r'.len⟩) (v_t h' r')
theorem jok_zLL {p q : Addr} {xs ys : List V} (h : SqL K H p xs) (r : Rps K H xs ds) (h' : SqL K H q ys) (r' : Rps K H ys es) : JOk K (ItZ (goL K p) (goL K q) (valL K p) (valL K q) (stopL K p) (stopL K q)) H (zipD ds es) :=
  jok_z (g_l h r) (fun H' e => ⟨xs, ex_l e h, r.len⟩) (v_l h r) (g_l h' r') (fun H' e => ⟨ys, ex_l e h', r'.len⟩) (v_l h' r')
theorem jok_zTL {p q : Addr} {xs ys : List V} (h : SqT K H p xs) (r : Rps K H xs ds) (h' : SqL K H q ys) (r' : Rps K H ys es) : JOk K (ItZ (goT K p) (goL K q) (valT K p) (valL K q) (stopT K p) (stopL K q)) H (zipD ds es) :=
  jok_z (g_t h r) (fun H' e => ⟨xs, ex_t e h, r.len⟩) (v_t h r) (g_l h' r') (fun H' e => ⟨ys, ex_l e h', r'.len⟩) (v_l h' r')
theorem wke_zT (h : EvEs K tx ρ [.tup ds, .tup es]) : WkE K (iZipX K tx) ρ (zipD ds es) := fun σ H e H1 e1 R q => h σ H e H1 e1 _ fun vs H2 e2 r => by
  cases r with
  | cons r rr =>
    cases rr with
    | cons r' rr =>
      cases rr
      obtain ⟨p, xs, rfl, hs, rs⟩ := r.tup_inv
      obtain ⟨p', xs', rfl, hs', rs'⟩ := r'.tup_inv
      exact ⟨p, p', xs, xs', rfl, .inr (.inl ⟨hs, hs', q _ H2 e2 (jok_zTT hs rs hs' rs')⟩)⟩
theorem wke_zL (h : EvEs K tx ρ [.lst ds, .lst es]) : WkE K (iZipX K tx) ρ (zipD ds es) := fun σ H e H1 e1 R q => h σ H e H1 e1 _ fun vs H2 e2 r => by
  cases r with
  | cons r rr =>
    cases rr with
    | cons r' rr =>
      cases rr
      obtain ⟨p, xs, rfl, hs, rs⟩ := r.lst_inv
      obtain ⟨p', xs', rfl, hs', rs'⟩ := r'.lst_inv
      exact ⟨p, p', xs, xs', rfl, .inl ⟨SqL.of hs, SqL.of hs', q _ H2 e2 (jok_zLL (SqL.of hs) rs (SqL.of hs') rs')⟩⟩
/-- a comprehension: what the target makes of the names, what is kept, what is made -/
theorem ee_lc {wi : TI} {g : TG} {js vs : List Nat} (ρs : Nat → Env) (p : Nat → Bool) (f : Nat → D) (h : WkE K wi ρ ds) (hz : ds.length ≤ 50000) (hj : ∀ j ∈ js, j ∈ vs) (hT : ∀ i d, ds[i]? = some d → p i = true → (f i).tu = true)
    (hg : ∀ i d, ds[i]? = some d → GE K g js d (wipeE ρ vs) (ρs i)) (ht : ∀ i d, ds[i]? = some d → EvTE K tt (ρs i) (p i)) (he : ∀ i d, ds[i]? = some d → p i = true → EvE K te (ρs i) (f i)) :
    EvE K (tLc wi g tt te vs) ρ (.lst (keep p f ds.length)) := fun σ H e =>
  dv_lc p f (h σ H e) hz hT fun i d x H' hd e' r k hk => hg i d hd _ H' x ((e.wipe vs).mono e') r k fun σ2 H2 e2 E2 w => hk σ2 H2 e2 (by rw [w vs hj, wipe_wipe]) (ht i d hd σ2 H2 E2) fun hp => he i d hd hp σ2 H2 E2
/-- all items, f of each -/
theorem ee_lcM {wi : TI} {g : TG} {js vs : List Nat} (ρs : D → Env) (f : D → D) (h : WkE K wi ρ ds) (hz : ds.length ≤ 50000) (hj : ∀ j ∈ js, j ∈ vs) (hT : ∀ d ∈ ds, (f d).tu = true)
    (hg : ∀ d ∈ ds, GE K g js d (wipeE ρ vs) (ρs d)) (he : ∀ d ∈ ds, EvE K te (ρs d) (f d)) :
    EvE K (tLc wi g tYes te vs) ρ (.lst (ds.map f)) := by
  have hm : ∀ (i : Nat) d, ds[i]? = some d → ds.getD i dN = d := fun i d hd => by simp [List.getD, hd]
  refine ee_is (ee_lc (fun i => ρs (ds.getD i dN)) (fun _ => true) (fun i => f (ds.getD i dN)) h hz hj (fun i d hd _ => ?_) (fun i d hd => ?_) (fun i d hd => te_yes) fun i d hd _ => ?_) (congrArg D.lst (keep_map fun i d hd => ?_))
  · rw [hm i d hd]; exact hT d (List.mem_of_getElem? hd)
  · rw [hm i d hd]; exact hg d (List.mem_of_getElem? hd)
  · rw [hm i d hd]; exact he d (List.mem_of_getElem? hd)
  · rw [hm i d hd]
/-- one name as the target -/
theorem ee_lcN {wi : TI} {vs : List Nat} (f : D → D) (h : WkE K wi ρ ds) (hz : ds.length ≤ 50000) (hj : j ∈ vs) (hT : ∀ d ∈ ds, (f d).tu = true)
    (he : ∀ d ∈ ds, EvE K te ((wipeE ρ vs).set j (some d)) (f d)) : EvE K (tLc wi (gName j) tYes te vs) ρ (.lst (ds.map f)) :=
  ee_lcM (fun d => (wipeE ρ vs).set j (some d)) f h hz (fun k hk => by rw [List.mem_singleton.mp hk]; exact hj) hT (fun d _ => ge_name) he
theorem keep_filter {p : D → Bool} {f : D → D} {pi : Nat → Bool} {fi : Nat → D} : ∀ {ds : List D}, (∀ (i : Nat) d, ds[i]? = some d → pi i = p d ∧ fi i = f d) → keep pi fi ds.length = (ds.filter p).map f := by
  intro ds h
  have go : ∀ n, n ≤ ds.length → keep pi fi n = ((ds.take n).filter p).map f := by
    intro n
    induction n with
    | zero => intro _; rfl
    | succ n ih =>
      intro hn
      obtain ⟨h1, h2⟩ := h n ds[n] (by simp [hn])
      have e : ds.take (n + 1) = ds.take n ++ [ds[n]] := (List.take_append_getElem (by omega)).symm
      cases hp : p ds[n] with
      | true => rw [keep_yes (by rw [h1]; exact hp), ih (by omega), h2, e, List.filter_append, List.map_append, List.filter_cons, if_pos hp]; rfl
      | false => rw [keep_no (by rw [h1]; exact hp), ih (by omega), e, List.filter_append, List.map_append, List.filter_cons, if_neg (by rw [hp]; decide)]; show _ = _ ++ []; rw [List.append_nil]
  rw [go _ (Nat.le_refl _), List.take_length]
/-- with a test -/
theorem ee_lcP {wi : TI} {vs : List Nat} (p : D → Bool) (f : D → D) (h : WkE K wi ρ ds) (hz : ds.length ≤ 50000) (hj : j ∈ vs) (hT : ∀ d ∈ ds, p d = true → (f d).tu = true)
    (ht : ∀ d ∈ ds, EvTE K tt ((wipeE ρ vs).set j (some d)) (p d)) (he : ∀ d ∈ ds, p d = true → EvE K te ((wipeE ρ vs).set j (some d)) (f d)) : EvE K (tLc wi (gName j) tt te vs) ρ (.lst ((ds.filter p).map f)) := by
  have hm : ∀ (i : Nat) d, ds[i]? = some d → ds.getD i dN = d := fun i d hd => by simp [List.getD, hd]
  refine ee_is (ee_lc (js := [j]) (fun i => (wipeE ρ vs).set j (some (ds.getD i dN))) (fun i => p (ds.getD i dN)) (fun i => f (ds.getD i dN)) h hz (fun k hk => by rw [List.mem_singleton.mp hk]; exact hj) (fun i d hd hp => ?_) (fun i d hd => ?_) (fun i d hd => ?_) fun i d hd hp => ?_) (congrArg D.lst (keep_filter fun i d hd => ?_))
  · rw [hm i d hd] at hp ⊢; exact hT d (List.mem_of_getElem? hd) hp
  · rw [hm i d hd]; exact ge_name
  · rw [hm i d hd]; exact ht d (List.mem_of_getElem? hd)
  · rw [hm i d hd] at hp ⊢; exact he d (List.mem_of_getElem? hd) hp
  · rw [hm i d hd]; exact ⟨rfl, rfl⟩
end
end Pa
set_option Elab.async false
set_option linter.all false
set_option maxRecDepth 100000
set_option maxHeartbeats 4000000
/-! statements over data: names that hold data, names that own a list or dict -/
namespace Pa
open PySem PySem.Spec PyProof.Rows L2 Evl

inductive En where
  | no
  | rd (d : D)
  | ow (a : Addr) (ds : List D)
  | od (a : Addr) (kvs : List (Str × D))
  | om (a : Addr) (rows : List (Addr × List V))
  | ra (a : Addr) (d : D)
  | gh (a : Addr) (ds : List D)
  | ot (a : Addr) (ks : List ((Str × Str) × Int))
  | rr (a : Addr) (x0 : V) (cs : List Int) (l m n : Int)
def En.vw : En → Option D
  | .no => none
  | .rd d => some d
  | .ow _ ds => some (.lst ds)
  | .od _ kvs => some (.dic kvs)
  | .om _ rows => some (.lst (rows.map fun r => .lst (r.2.map .raw)))
  | .ra _ d => some d
  | .gh _ _ => none
  | .ot _ _ => none
  | .rr _ _ _ _ _ _ => none
def En.ad : En → List Addr
  | .ow a _ => [a]
  | .od a _ => [a]
  | .om a rows => a :: rows.map (·.1)
  | .gh a _ => [a]
  | .ot a _ => [a]
  | .rr a _ _ _ _ _ => [a]
  | _ => []
abbrev Enw := List En
def vw (ρ : Enw) : Env := ρ.map En.vw
def ads (ρ : Enw) : List Addr := ρ.flatMap En.ad
def tE (p : (Str × Str) × Int) : List L2.Key × V := ([.inr p.1.1, .inr p.1.2], .int p.2)
def dD : List (Key × V) ⊕ List (List Key × V) → HO
  | .inl x => .dK x
  | .inr x => .dT x
theorem dD_tup {ys : List V} {x : List (Key × V) ⊕ List (List Key × V)} : HO.tup ys ≠ dD x := by cases x <;> (intro z; cases z)
theorem dD_frz {o : Obj} {u : HO} {x : List (Key × V) ⊕ List (List Key × V)} : HO.frz o u ≠ dD x := by cases x <;> (intro z; cases z)
def EnAt (K : PySem.W.Frag) (H0 H : Hp) (s : Option V) : En → Prop
  | .no => True
  | .rd d => ∃ v, s = some v ∧ Rp K H0 v d
  | .ow a ds => s = some (.ref a) ∧ ∃ xs, H a = some (.lst xs) ∧ Rps K H0 xs ds
  | .od a kvs => s = some (.ref a) ∧ ∃ xs, H a = some (.dK xs) ∧ Rkv K H0 xs kvs
  | .ra a d => s = some (.ref a) ∧ Rp K H0 (.ref a) d
  | .gh a ds => ∃ xs, H a = some (.lst xs) ∧ Rps K H0 xs ds
  | .ot a ks => s = some (.ref a) ∧ H a = some (.dT (ks.map tE))
  | .rr a x0 cs l m n => s = some (.ref a) ∧ H a = some (.lst [x0, .int l, .int m, .int n]) ∧ Rp K H0 x0 (.lst (cs.map dI))
  | .om a rows => s = some (.ref a) ∧ H a = some (.lst (rows.map fun r => .ref r.1)) ∧ ∀ r ∈ rows, H r.1 = some (.lst r.2)
structure StI (K : PySem.W.Frag) (H0 : Hp) (ρ : Enw) (tv : List V) (td : List D) (σ : L2.St) (H : Hp) : Prop where
  ex : Ex H0 H
  no : ∀ a ∈ ads ρ, H0 a = none
  nd : (ads ρ).Nodup
  len : σ.length = ρ.length
  at_ : ∀ (i : Nat) e, ρ[i]? = some e → ∃ s, σ[i]? = some s ∧ EnAt K H0 H s e
  tmp : Rps K H0 tv td
def StO (K : PySem.W.Frag) (Hs : Hp) (ρ : Enw) (tv : List V) (td : List D) (σ : L2.St) (H : Hp) : Prop := ∃ H0, Ex Hs H0 ∧ StI K H0 ρ tv td σ H
def minus (H : Hp) (as : List Addr) : Hp := fun a => if a ∈ as then none else H a
theorem minus_ex {H : Hp} {as : List Addr} : Ex (minus H as) H := fun a o h => by
  unfold minus at h
  split at h
  · cases h
  · exact h
theorem minus_in {H : Hp} {as : List Addr} {a : Addr} (h : a ∈ as) : minus H as a = none := by simp [minus, h]
theorem minus_out {H : Hp} {as : List Addr} {a : Addr} (h : a ∉ as) : minus H as a = H a := by simp [minus, h]
theorem ex_minus {H0 H : Hp} {as : List Addr} (e : Ex H0 H) (h : ∀ a ∈ as, H0 a = none) : Ex H0 (minus H as) := fun a o q => by
  have : a ∉ as := fun hm => by rw [h a hm] at q; cases q
  rw [minus_out this]
  exact e a o q
section
variable {K : PySem.W.Frag} {ρ ρ' ρ1 ρ2 : Enw} {tv : List V} {td : List D} {σ σ' : L2.St} {Hs H0 H H' H1 H2 : Hp} {v : V} {d d' : D} {ds es : List D} {i j n : Nat} {te : TE} {e : En} {a : Addr}
theorem vw_get (h : ρ[i]? = some e) : (vw ρ)[i]? = some e.vw := by simp [vw, h]
theorem vw_inv {o : Option D} (h : (vw ρ)[i]? = some o) : ∃ e, ρ[i]? = some e ∧ e.vw = o := by
  simpa [vw] using h
theorem ads_mem (h : ρ[i]? = some e) (ha : a ∈ e.ad) : a ∈ ads ρ := List.mem_flatMap.mpr ⟨e, List.mem_of_getElem? h, ha⟩
theorem rows_rp : ∀ {rows : List (Addr × List V)}, (∀ r ∈ rows, H r.1 = some (.lst r.2)) → Rps K H (rows.map fun r => .ref r.1) (rows.map fun r => .lst (r.2.map .raw))
  | [], _ => .nil
  | r :: rows, h => .cons (.lst (h r List.mem_cons_self) Rps.raws) (rows_rp fun q hq => h q (List.mem_cons_of_mem _ hq))
theorem StI.env (s : StI K H0 ρ tv td σ H) : EnvD K (vw ρ) σ H := by
  refine ⟨by rw [s.len]; simp [vw], fun i d hi => ?_⟩
  obtain ⟨e, he, hv⟩ := vw_inv hi
  obtain ⟨o, ho, ha⟩ := s.at_ i e he
  cases e with
  | no => cases hv
  | rd d' =>
    cases hv
    obtain ⟨v, rfl, r⟩ := ha
    exact ⟨v, ho, r.mono s.ex⟩
  | ow a ds =>
    cases hv
    obtain ⟨rfl, xs, hx, r⟩ := ha
    exact ⟨_, ho, .lst hx (r.mono s.ex)⟩
  | od a ds =>
    cases hv
    obtain ⟨rfl, xs, hx, r⟩ := ha
    exact ⟨_, ho, .dic (.inl hx) (r.mono s.ex)⟩
  | om a rows =>
    cases hv
    obtain ⟨rfl, hx, hr⟩ := ha
    exact ⟨_, ho, .lst hx (rows_rp hr)⟩
  | ra b d' =>
    cases hv
    obtain ⟨rfl, r⟩ := ha
    exact ⟨_, ho, r.mono s.ex⟩
  | gh b ds => cases hv
  | ot b ks => cases hv
  | rr b x0 cs l m n => cases hv
/-- an owned address holds a list or a dict -/
theorem StI.held (s : StI K H0 ρ tv td σ H) (h : a ∈ ads ρ) : (∃ xs, H a = some (.lst xs)) ∨ ∃ xs, H a = some (dD xs) := by
  obtain ⟨e, he, ha⟩ := List.mem_flatMap.mp h
  obtain ⟨i, hi⟩ := List.getElem?_of_mem he
  obtain ⟨o, ho, hat⟩ := s.at_ i e hi
  cases e with
  | no => cases ha
  | rd d => cases ha
  | ra b d => cases ha
  | ow b ds =>
    obtain ⟨_, xs, hx, _⟩ := hat
    rw [List.mem_singleton.mp ha]
    exact .inl ⟨xs, hx⟩
  | od b ds =>
    obtain ⟨_, xs, hx, _⟩ := hat
    rw [List.mem_singleton.mp ha]
    exact .inr ⟨.inl xs, hx⟩
  | gh b ds =>
    obtain ⟨xs, hx, _⟩ := hat
    rw [List.mem_singleton.mp ha]
    exact .inl ⟨xs, hx⟩
  | ot b ks =>
    obtain ⟨_, hx⟩ := hat
    rw [List.mem_singleton.mp ha]
    exact .inr ⟨.inr _, hx⟩
  | rr b x0 cs l m n =>
    obtain ⟨_, hx, _⟩ := hat
    rw [List.mem_singleton.mp ha]
    exact .inl ⟨_, hx⟩
  | om b rows =>
    obtain ⟨_, hx, hr⟩ := hat
    rcases List.mem_cons.mp ha with rfl | ha
    · exact .inl ⟨_, hx⟩
    · obtain ⟨r, hr', rfl⟩ := List.mem_map.mp ha
      exact .inl ⟨_, hr r hr'⟩
theorem StI.ne_of_fresh (s : StI K H0 ρ tv td σ H) (e : Ex H H1) (h : H1 a = none) : a ∉ ads ρ := fun hm => by
  rcases s.held hm with ⟨xs, hx⟩ | ⟨xs, hx⟩
  · rw [e a _ hx] at h; cases h
  · rw [e a _ hx] at h; cases h
/-- the heap has grown: H0 grows to what is not owned -/
theorem StI.grow (s : StI K H0 ρ tv td σ H) (e : Ex H H2) : StI K (minus H2 (ads ρ)) ρ tv td σ H2 where
  ex := minus_ex
  no := fun a ha => minus_in ha
  nd := s.nd
  len := s.len
  at_ := fun i en hi => by
    obtain ⟨o, ho, hat⟩ := s.at_ i en hi
    refine ⟨o, ho, ?_⟩
    have ee : Ex H0 (minus H2 (ads ρ)) := ex_minus (s.ex.trans e) s.no
    cases en with
    | no => trivial
    | rd d => obtain ⟨v, h1, h2⟩ := hat; exact ⟨v, h1, h2.mono ee⟩
    | ow a ds => obtain ⟨h1, xs, h2, h3⟩ := hat; exact ⟨h1, xs, e _ _ h2, h3.mono ee⟩
    | gh a ds => obtain ⟨xs, h2, h3⟩ := hat; exact ⟨xs, e _ _ h2, h3.mono ee⟩
    | ot a ks => obtain ⟨h1, h2⟩ := hat; exact ⟨h1, e _ _ h2⟩
    | rr a x0 cs l m n => obtain ⟨h1, h2, h3⟩ := hat; exact ⟨h1, e _ _ h2, h3.mono ee⟩
    | od a ds => obtain ⟨h1, xs, h2, h3⟩ := hat; exact ⟨h1, xs, e _ _ h2, h3.mono ee⟩
    | om a rows => obtain ⟨h1, h2, h3⟩ := hat; exact ⟨h1, e _ _ h2, fun r hr => e _ _ (h3 r hr)⟩
    | ra b d => obtain ⟨h1, h2⟩ := hat; exact ⟨h1, h2.mono ee⟩
  tmp := s.tmp.mono (ex_minus (s.ex.trans e) s.no)
theorem StI.growEx (s : StI K H0 ρ tv td σ H) (e : Ex H H2) : Ex H0 (minus H2 (ads ρ)) := ex_minus (s.ex.trans e) s.no
theorem keep_minus {as : List Addr} (h : ∀ b ∈ as, (∃ xs, H2 b = some (.lst xs)) ∨ ∃ xs, H2 b = some (dD xs)) : ∀ b ys, SqT K H2 b ys → SqT K (minus H2 as) b ys := fun b ys q => by
  have ne : ∀ o, H2 b = some o → (∀ xs, o ≠ .lst xs) → (∀ xs, o ≠ dD xs) → minus H2 as b = some o := fun o ho h1 h2 => by
    rw [minus_out]
    · exact ho
    · intro hm
      rcases h b hm with ⟨xs, hx⟩ | ⟨xs, hx⟩
      · rw [hx] at ho; exact h1 xs (Option.some.inj ho).symm
      · rw [hx] at ho; exact h2 xs (Option.some.inj ho).symm
  rcases q with q | q
  · rcases q with q | ⟨o, q⟩
    · exact .inl (.inl (ne _ q (by intro _ z; cases z) fun _ => by first | exact dD_tup | exact dD_frz))
    · exact .inl (.inr ⟨o, ne _ q (by intro _ z; cases z) fun _ => by first | exact dD_tup | exact dD_frz⟩)
  · exact .inr q
/-- data that may be kept: no lists inside, or nothing is owned -/
def Fit (ρ : Enw) (d : D) : Prop := d.tu = true ∨ ads ρ = []
theorem StI.fit (s : StI K H0 ρ tv td σ H) (e : Ex H H2) (r : Rp K H2 v d) (f : Fit ρ d) : Rp K (minus H2 (ads ρ)) v d := by
  rcases f with f | f
  · refine r.keepT (keep_minus fun b hb => ?_) f
    rcases s.held hb with ⟨xs, hx⟩ | ⟨xs, hx⟩
    · exact .inl ⟨xs, e _ _ hx⟩
    · exact .inr ⟨xs, e _ _ hx⟩
  · refine r.mono fun a o h => ?_
    rw [f, minus_out (by simp)]
    exact h
theorem StI.push (s : StI K H0 ρ tv td σ H) (r : Rp K H0 v d) : StI K H0 ρ (v :: tv) (d :: td) σ H := { s with tmp := .cons r s.tmp }
/-- THE VALUE of an expression, kept on the stack -/
theorem StO.ev (s : StO K Hs ρ tv td σ H) (h : EvE K te (vw ρ) d) (f : Fit ρ d) {Q : VK} (k : ∀ v H2, Ex H H2 → StO K Hs ρ (v :: tv) (d :: td) σ H2 → Q v H2) : te σ H Q := by
  obtain ⟨H0, eh, s⟩ := s
  exact h σ H s.env H (Ex.refl _) Q fun v H2 e2 r => k v H2 e2 ⟨_, eh.trans (s.growEx e2), (s.grow e2).push (s.fit e2 r f)⟩
theorem StO.var (s : StO K Hs ρ tv td σ H) (h : ρ[i]? = some (.rd d)) {Q : VK} (k : ∀ v, StO K Hs ρ (v :: tv) (d :: td) σ H → Q v H) : tVar i σ H Q := by
  obtain ⟨H0, eh, s⟩ := s
  obtain ⟨o, ho, v, rfl, r⟩ := s.at_ i _ h
  exact ⟨v, ho, k v ⟨H0, eh, s.push r⟩⟩
theorem StO.exs (s : StO K Hs ρ tv td σ H) : Ex Hs H := by
  obtain ⟨H0, eh, s⟩ := s
  exact eh.trans s.ex
theorem StO.from (s : StO K H0 ρ tv td σ H) (e : Ex Hs H0) : StO K Hs ρ tv td σ H := by
  obtain ⟨H1, eh, s⟩ := s
  exact ⟨H1, e.trans eh, s⟩
/-! ### a slot set -/
theorem ads_set_no : ads (ρ.set i .no) = ads (ρ.set i (.rd d)) := by
  unfold ads
  induction ρ generalizing i with
  | nil => rfl
  | cons e ρ ih => cases i with
    | zero => rfl
    | succ i => simp only [List.set_cons_succ, List.flatMap_cons, ih]
theorem ads_set_sub : ∀ {ρ : Enw} {i : Nat}, (∀ b, b ∈ ads (ρ.set i (.rd d)) → b ∈ ads ρ) ∧ ((ads ρ).Nodup → (ads (ρ.set i (.rd d))).Nodup)
  | [], i => ⟨fun b h => h, fun h => h⟩
  | e :: ρ, 0 => by
    refine ⟨fun b h => ?_, fun h => ?_⟩
    · simp only [ads, List.set_cons_zero, List.flatMap_cons, En.ad, List.nil_append] at h ⊢
      exact List.mem_append_right _ h
    · simp only [ads, List.set_cons_zero, List.flatMap_cons, En.ad, List.nil_append] at h ⊢
      exact (List.nodup_append.mp h).2.1
  | e :: ρ, i + 1 => by
    obtain ⟨h1, h2⟩ := ads_set_sub (ρ := ρ) (i := i)
    refine ⟨fun b h => ?_, fun h => ?_⟩
    · simp only [ads, List.set_cons_succ, List.flatMap_cons, List.mem_append] at h ⊢
      rcases h with h | h
      · exact .inl h
      · exact .inr (h1 b h)
    · simp only [ads, List.set_cons_succ, List.flatMap_cons] at h ⊢
      obtain ⟨a1, a2, a3⟩ := List.nodup_append.mp h
      exact List.nodup_append.mpr ⟨a1, h2 a2, fun x hx y hy => a3 x hx y (h1 y hy)⟩
theorem at_set {σ : L2.St} {x : V} {en : En} (hl : σ.length = ρ.length) (hn : EnAt K H0 H (some x) en) (h : ∀ (j : Nat) e, j ≠ i → ρ[j]? = some e → ∃ s, σ[j]? = some s ∧ EnAt K H0 H s e) :
    ∀ (j : Nat) e, (ρ.set i en)[j]? = some e → ∃ s, (σ.set i (some x))[j]? = some s ∧ EnAt K H0 H s e := fun j e hj => by
  by_cases hij : i = j
  · subst hij
    have hlt : i < ρ.length := by
      by_cases hlt : i < ρ.length
      · exact hlt
      · rw [List.getElem?_eq_none (by simpa using Nat.le_of_not_lt hlt)] at hj; cases hj
    rw [List.getElem?_set_self hlt] at hj
    cases hj
    exact ⟨some x, by rw [List.getElem?_set_self (by rw [hl]; exact hlt)], hn⟩
  · rw [List.getElem?_set_ne hij] at hj
    obtain ⟨s, h1, h2⟩ := h j e (fun q => hij q.symm) hj
    exact ⟨s, by rw [List.getElem?_set_ne hij]; exact h1, h2⟩
/-- a name takes the top of the stack -/
theorem StO.set (s : StO K Hs ρ (v :: tv) (d :: td) σ H) : StO K Hs (ρ.set i (.rd d)) tv td (σ.set i (some v)) H := by
  obtain ⟨H0, eh, s⟩ := s
  have t := s.tmp
  cases t with
  | cons r rr =>
    obtain ⟨h1, h2⟩ := ads_set_sub (d := d) (ρ := ρ) (i := i)
    exact ⟨H0, eh, ⟨s.ex, fun a ha => s.no a (h1 a ha), h2 s.nd, by simp [s.len], at_set s.len ⟨v, rfl, r⟩ fun j e _ hj => s.at_ j e hj, rr⟩⟩
theorem StO.pop (s : StO K Hs ρ (v :: tv) (d :: td) σ H) : StO K Hs ρ tv td σ H := by
  obtain ⟨H0, eh, s⟩ := s
  have t := s.tmp
  cases t with
  | cons r rr => exact ⟨H0, eh, { s with tmp := rr }⟩
theorem StO.top (s : StO K Hs ρ (v :: tv) (d :: td) σ H) : Rp K H v d := by
  obtain ⟨H0, eh, s⟩ := s
  have t := s.tmp
  cases t with
  | cons r rr => exact r.mono s.ex
theorem StO.topR {u : V} (s : StO K Hs ρ (v :: tv) (D.raw u :: td) σ H) : v = u := s.top.raw_inv
/-! ### statements -/
def RO (K : PySem.W.Frag) (t : TS) (ρ : Enw) (N : Enw → Prop) (R : D → Enw → Prop) : Prop := ∀ Hs (Dn : Ends) σ H, StO K Hs ρ [] [] σ H →
  (∀ ρ' σ' H', N ρ' → StO K Hs ρ' [] [] σ' H' → Dn.nx σ' H') → (∀ v d ρ' σ' H', R d ρ' → StO K Hs ρ' [v] [d] σ' H' → Dn.rt v H') → t Dn σ H
variable {N N' : Enw → Prop} {R R' : D → Enw → Prop} {t u tz ty : TS} {tt : TT} {b : Bool} {g : TG} {gs : TGs}
theorem RO.imp (h : RO K t ρ N' R') (hn : ∀ ρ', N' ρ' → N ρ') (hr : ∀ d ρ', R' d ρ' → R d ρ') : RO K t ρ N R := fun Hs Dn σ H s kn kr =>
  h Hs Dn σ H s (fun ρ' σ' H' q => kn ρ' σ' H' (hn _ q)) fun v d ρ' σ' H' q => kr v d ρ' σ' H' (hr _ _ q)
theorem ro_next (h : N ρ) : RO K tNext ρ N R := fun Hs Dn σ H s kn _ => kn ρ σ H h s
theorem ro_seq (N' : Enw → Prop) (h : RO K t ρ N' R) (h2 : ∀ ρ', N' ρ' → RO K u ρ' N R) : RO K (tSeq t u) ρ N R := fun Hs Dn σ H s kn kr =>
  h Hs { Dn with nx := u Dn } σ H s (fun ρ' σ' H' q s' => h2 ρ' q Hs Dn σ' H' s' kn kr) kr
/-- a statement after which the names stand so -/
theorem ro_s (h : RO K t ρ (fun q => q = ρ1) R) (h2 : RO K u ρ1 N R) : RO K (tSeq t u) ρ N R := ro_seq _ h fun ρ' e => e ▸ h2
theorem ro_retX (h : EvE K te (vw ρ) d) (f : Fit ρ d) (k : R d ρ) : RO K (tRet te) ρ N R := fun Hs Dn σ H s _ kr => s.ev h f fun v H2 e2 s2 => kr v d ρ σ H2 k s2
theorem ro_ret (h : EvE K te (vw ρ) d) (f : Fit ρ d) (k : R d ρ) : RO K (tRet te) ρ N R := ro_retX h f k
theorem ro_retN (k : R dN ρ) : RO K tRetN ρ N R := fun Hs Dn σ H s _ kr => by
  obtain ⟨H0, eh, s⟩ := s
  exact kr .non dN ρ σ H k ⟨H0, eh, s.push (.raw _)⟩
theorem ro_set (h : EvE K te (vw ρ) d) (f : Fit ρ d) (k : N (ρ.set i (.rd d))) : RO K (tAsg te (gName i)) ρ N R := fun Hs Dn σ H s kn _ => s.ev h f fun v H2 e2 s2 => kn _ _ _ k s2.set
theorem ro_drop (h : EvE K te (vw ρ) d) (f : Fit ρ d) (k : N ρ) : RO K (tDrop te) ρ N R := fun Hs Dn σ H s kn _ => s.ev h f fun v H2 e2 s2 => kn _ _ _ k s2.pop
theorem ro_if (h : EvTE K tt (vw ρ) b) (h1 : b = true → RO K t ρ N R) (h2 : b = false → RO K u ρ N R) : RO K (tIfS tt t u) ρ N R := fun Hs Dn σ H s kn kr => by
  obtain ⟨H0, eh, s⟩ := s
  refine h σ H s.env H (Ex.refl _) _ fun H2 e2 => ?_
  have s2 : StO K Hs ρ [] [] σ H2 := ⟨_, eh.trans (s.growEx e2), s.grow e2⟩
  cases b with
  | true => exact h1 rfl Hs Dn σ H2 s2 kn kr
  | false => exact h2 rfl Hs Dn σ H2 s2 kn kr
/-- if, the test known -/
theorem ro_ifT (h : EvTE K tt (vw ρ) true) (h1 : RO K t ρ N R) : RO K (tIfS tt t u) ρ N R := ro_if h (fun _ => h1) fun q => by cases q
theorem ro_ifF (h : EvTE K tt (vw ρ) false) (h1 : RO K u ρ N R) : RO K (tIfS tt t u) ρ N R := ro_if h (fun q => by cases q) fun _ => h1
/-! ### targets -/
def GO (K : PySem.W.Frag) (g : TG) (d : D) (ρ ρ' : Enw) : Prop := ∀ Hs σ H v tv td, StO K Hs ρ (v :: tv) (d :: td) σ H → ∀ Q : L2.St → Hp → Prop, (∀ σ' H', StO K Hs ρ' tv td σ' H' → Q σ' H') → g v σ H Q
def GOs (K : PySem.W.Frag) (g : TGs) (ds : List D) (ρ ρ' : Enw) : Prop := ∀ Hs σ H vs tv td, vs.length = ds.length → StO K Hs ρ (vs ++ tv) (ds ++ td) σ H → ∀ Q : L2.St → Hp → Prop, (∀ σ' H', StO K Hs ρ' tv td σ' H' → Q σ' H') → g vs σ H Q
theorem go_name : GO K (gName i) d ρ (ρ.set i (.rd d)) := fun Hs σ H v tv td s Q q => q _ _ s.set
theorem gos_nil : GOs K gNil [] ρ ρ := fun Hs σ H vs tv td l s Q q => by
  cases vs with
  | nil => exact ⟨rfl, q _ _ s⟩
  | cons _ _ => cases l
theorem gos_cons (h : GO K g d ρ ρ1) (hs : GOs K gs ds ρ1 ρ2) : GOs K (gCons g gs) (d :: ds) ρ ρ2 := fun Hs σ H vs tv td l s Q q => by
  cases vs with
  | nil => cases l
  | cons v vs => exact ⟨v, vs, rfl, h Hs σ H v (vs ++ tv) (ds ++ td) s _ fun σ1 H1 s1 => hs Hs σ1 H1 vs tv td (by simpa using l) s1 Q q⟩
theorem go_tup (h : GOs K gs ds ρ ρ') (hn : ds.length = n) : GO K (gTup K n gs) (.tup ds) ρ ρ' := fun Hs σ H v tv td s Q q => by
  obtain ⟨H0, eh, s⟩ := s
  have t := s.tmp
  cases t with
  | cons r rr =>
    obtain ⟨a, xs, rfl, hs, rs⟩ := r.tup_inv
    exact ⟨a, xs, rfl, ex_t s.ex hs, by rw [rs.len]; exact hn, h Hs σ H xs tv td rs.len ⟨H0, eh, { s with tmp := rs.app rr }⟩ Q q⟩
theorem ro_asg (h : EvE K te (vw ρ) d) (f : Fit ρ d) (hg : GO K g d ρ ρ1) (k : N ρ1) : RO K (tAsg te g) ρ N R := fun Hs Dn σ H s kn _ => s.ev h f fun v H2 e2 s2 => hg Hs σ H2 v [] [] s2 _ fun σ' H' s' => kn _ _ _ k s'
/-- a, b = x, y -/
theorem ro_par {ta tb : TE} {d2 : D} (h : EvE K ta (vw ρ) d) (f : Fit ρ d) (h2 : EvE K tb (vw ρ) d2) (f2 : Fit ρ d2) (k : N ((ρ.set i (.rd d)).set j (.rd d2))) : RO K (tPar i j (tCons ta (tCons tb tNil))) ρ N R := fun Hs Dn σ H s kn _ => by
  refine s.ev h f fun v H2 e2 s2 => ?_
  refine s2.ev h2 f2 fun w H3 e3 s3 => ⟨v, w, rfl, ?_⟩
  obtain ⟨H0, eh, s4⟩ := s3
  have t := s4.tmp
  cases t with
  | cons r rr =>
    cases rr with
    | cons r' rr =>
      have s5 : StO K Hs ρ [v, w] [d, d2] σ H3 := ⟨H0, eh, { s4 with tmp := .cons r' (.cons r rr) }⟩
      exact kn _ _ _ k s5.set.set
/-! ### loops -/
def WO (K : PySem.W.Frag) (wi : TI) (ρ : Enw) (ds : List D) : Prop := ∀ Hs σ H, StO K Hs ρ [] [] σ H → ∀ Q, (∀ J H0 H2, Ex Hs H0 → StO K H0 ρ [] [] σ H2 → JOk K J H0 ds → Q J H2) → wi σ H Q
theorem StO.cut (s : StO K Hs ρ (v :: tv) (d :: td) σ H) : ∃ H0, Ex Hs H0 ∧ StO K H0 ρ tv td σ H ∧ Rp K H0 v d := by
  obtain ⟨H0, eh, s⟩ := s
  have t := s.tmp
  cases t with
  | cons r rr => exact ⟨H0, eh, ⟨H0, Ex.refl _, { s with tmp := rr }⟩, r⟩
theorem wo_t (h : EvE K te (vw ρ) (.tup ds)) (f : Fit ρ (.tup ds)) : WO K (iAny K te) ρ ds := fun Hs σ H s Q q => .inr (.inl (s.ev h f fun v H2 e2 s2 => by
  obtain ⟨H0, eh, s3, r⟩ := s2.cut
  obtain ⟨a, xs, rfl, hs, rr⟩ := r.tup_inv
  exact ⟨a, rfl, ⟨xs, ex_t s3.exs hs⟩, q _ H0 H2 eh s3 (jok_t hs rr)⟩))
theorem wo_lv (h : ρ[i]? = some (.rd (.lst ds))) : WO K (iAny K (tVar i)) ρ ds := fun Hs σ H s Q q => .inl (s.var h fun v s2 => by
  obtain ⟨H0, eh, s3, r⟩ := s2.cut
  obtain ⟨a, xs, rfl, hs, rr⟩ := r.lst_inv
  exact ⟨a, rfl, ⟨xs, ex_l s3.exs (SqL.of hs)⟩, q _ H0 H eh s3 (jok_l (SqL.of hs) rr)⟩)
theorem wo_rng {tx : TA} {n : Int} (h : EvEs K tx (vw ρ) [dI n]) (hn : 0 ≤ n ∧ n ≤ 100000) : WO K (iRng1 tx) ρ (rngD n.toNat) := fun Hs σ H s Q q => by
  obtain ⟨H0, eh, s⟩ := s
  refine h σ H s.env H (Ex.refl _) _ fun vs H2 e2 r => ?_
  have ev : vs = [.int n] := Rps.raws_inv (ys := [.int n]) r
  exact ⟨n, ev, by omega, by omega, q _ _ H2 (eh.trans (s.growEx e2)) ⟨_, Ex.refl _, s.grow e2⟩ jok_r⟩
/-- any walk, nothing owned -/
theorem ads_nil_grow (s : StI K H0 ρ tv td σ H) (h : ads ρ = []) (e : Ex H H2) : StI K H2 ρ tv td σ H2 := by
  have t := s.grow e
  rw [h] at t
  have em : minus H2 [] = H2 := funext fun a => minus_out (by simp)
  rw [em] at t
  exact t
theorem wo_free {wi : TI} (h : WkE K wi (vw ρ) ds) (f : ads ρ = []) : WO K wi ρ ds := fun Hs σ H s Q q => by
  obtain ⟨H0, eh, s⟩ := s
  refine h σ H s.env H (Ex.refl _) _ fun J H2 e2 j => ?_
  exact q J H2 H2 (eh.trans (s.ex.trans e2)) ⟨H2, Ex.refl _, ads_nil_grow s f e2⟩ j
/-- THE LOOP -/
theorem ro_forX {wi : TI} (h : WO K wi ρ ds) (Pv : Nat → Enw → Prop) (h0 : Pv 0 ρ) (hf : ∀ d ∈ ds, d.tu = true)
    (hs : ∀ i d ρ', ds[i]? = some d → Pv i ρ' → ∃ ρ'', GO K g d ρ' ρ'' ∧ RO K t ρ'' (Pv (i + 1)) R)
    (hd : ∀ ρ', Pv ds.length ρ' → N ρ') : RO K (tFor wi g t) ρ N R := fun Hs Dn σ H s kn kr => by
  refine h Hs σ H s _ fun J H0 H2 eh s2 j => ?_
  refine ⟨fun i m σ H => m = ds.length - i ∧ i ≤ ds.length ∧ ∃ ρ', Pv i ρ' ∧ StO K H0 ρ' [] [] σ H, ⟨ds.length, by simp, Nat.zero_le _, ρ, h0, s2⟩, ?_⟩
  rintro i m σ H ⟨rfl, hi, ρ', p, s3⟩
  by_cases hlt : i < ds.length
  · refine .inr ⟨j.go i H s3.exs hlt, fun σ H => i + 1 ≤ ds.length ∧ ∃ ρ', Pv (i + 1) ρ' ∧ StO K H0 ρ' [] [] σ H, fun σ' H' p' => ⟨ds.length - (i + 1), by omega, rfl, p'⟩, fun x H' y => ?_⟩
    obtain ⟨d, hd', e', r'⟩ := j.yld i H x H' s3.exs hlt y
    obtain ⟨ρ'', hg, hb⟩ := hs i d ρ' hd' p
    obtain ⟨H3, e3, s3⟩ := s3
    have s4 : StO K H0 ρ' [x] [d] σ H' := ⟨_, e3.trans (s3.growEx e'), (s3.grow e').push (s3.fit e' r' (.inl (hf d (List.mem_of_getElem? hd'))))⟩
    refine hg H0 σ H' x [] [] s4 _ fun σ4 H4 s5 => ?_
    exact hb H0 { Dn with nx := _, ct := _, bk := _ } σ4 H4 s5 (fun ρ6 σ6 H6 p6 s6 => ⟨hlt, ρ6, p6, s6⟩) fun v d ρ6 σ6 H6 p6 s6 => kr v d ρ6 σ6 H6 p6 (s6.from eh)
  · have e : i = ds.length := by omega
    subst e
    exact .inl ⟨j.stop H s3.exs, kn ρ' σ H (hd ρ' p) (s3.from eh)⟩
/-! ### a def's start and end -/
def startE (n : Nat) (ds : List D) : Enw := ds.map En.rd ++ List.replicate (n - ds.length) .no
theorem ads_start {n : Nat} : ads (startE n ds) = [] := by
  unfold ads startE
  rw [List.flatMap_append]
  have h1 : (ds.map En.rd).flatMap En.ad = [] := by
    induction ds with
    | nil => rfl
    | cons d ds ih => simpa [En.ad] using ih
  have h2 : ∀ m, (List.replicate m En.no).flatMap En.ad = [] := fun m => by
    induction m with
    | zero => rfl
    | succ m ih => simpa [List.replicate_succ, En.ad] using ih
  rw [h1, h2]
  rfl
theorem start_ok {N : List Str} {vs : List V} (rr : Rps K H vs ds) : StO K H (startE N.length ds) [] [] (start N vs) H := by
  refine ⟨H, Ex.refl _, ⟨Ex.refl _, ?_, ?_, ?_, fun i e hi => ?_, .nil⟩⟩
  · rw [ads_start]; simp
  · rw [ads_start]; simp
  · simp [L2.start, startE, rr.len]
  · unfold startE at hi
    unfold L2.start
    by_cases hl : i < ds.length
    · rw [List.getElem?_append_left (by simpa using hl)] at hi
      rw [List.getElem?_append_left (by simpa [rr.len] using hl)]
      simp [hl] at hi
      subst hi
      obtain ⟨v, hv, r⟩ := rr.get (i := i) (d := ds[i]) (by simp [hl])
      exact ⟨some v, by simp [hv], v, rfl, r⟩
    · have hl' : ds.length ≤ i := by omega
      rw [List.getElem?_append_right (by simpa using hl')] at hi
      rw [List.getElem?_append_right (by simpa [rr.len] using hl')]
      simp [rr.len] at hi ⊢
      obtain ⟨h1, h2⟩ := List.getElem?_eq_some_iff.mp hi
      simp at h1 h2
      exact ⟨none, by simp [h1], by rw [← h2]; trivial⟩
/-- THE DEF: what its text does to the names is what the promise says -/
theorem ro_fun {N' : List Str} {vs : List V} {Q : VK} (h : RO K t (startE N'.length ds) (fun _ => d = dN) (fun d' _ => d' = d)) (rr : Rps K H vs ds) (q : Ret K d H Q) : t { nx := fun _ H' => Q .non H', rt := Q } (start N' vs) H :=
  h H _ _ H (start_ok rr) (fun ρ' σ' H' e s => q _ _ s.exs (e ▸ .raw _)) fun v d' ρ' σ' H' e s => q v H' s.exs (e ▸ s.top)
end
end Pa
set_option Elab.async false
set_option linter.all false
set_option maxRecDepth 100000
set_option maxHeartbeats 4000000
/-! a, b, *rest = a list or tuple -/
namespace Pa
open PySem PySem.Spec PyProof.Rows L2 Evl
section
variable {prog : Program} {w : World} {A : Around} {E : Value → Shared → Prop} {s : Shared}
theorem star_T {l : Addr} {items : Array Value} {i : Nat} {Q : List Value → Shared → Prop} (hl : IsTup s.heap l items) (hh : A.handled = none) (hi : i ≤ items.size) (hz : items.size ≤ sizeLine)
    (h : ∀ h' tk, Heap.ExtBut s.heap.objs.size s.heap h' → Q (items.toList.take i ++ [.ref h'.objs.size]) { s with heap := h'.push { cls := .type "list", data := .seq (items.toList.drop i).toArray }, toks := tk }) : wpAny (model prog w) A (unpackItems (.ref l) (i + 1) (some i)) Q E s := by
  have hlt : l ≠ s.heap.objs.size := by obtain ⟨o, ho, _⟩ := hl; exact Nat.ne_of_lt (Heap.lt_size ho)
  unfold unpackItems
  refine wpAny_bind ?_
  unfold notIterableAtAll
  refine wpAny_bind (wpAny_specialOf hl.typeIs slot_tuple_iter.lookup ?_)
  refine wpAny_pure ?_
  simp only [Bool.false_eq_true, if_false]
  refine wpAny_bind (wpAny_holding (iter_tuple hl ?_))
  refine wpAny_bind (wpAny_holding (draw_tuple hlt i 0 _ _ ⟨_, Heap.get?_push_size _ rfl, rfl, rfl⟩ (hl.push _) (by omega) fun h₁ hit₁ hs₁ => ?_))
  have hl₁ : IsTup h₁ l items := (hl.push _).extBut hs₁.extBut hlt
  rw [Nat.zero_add] at hit₁
  have hit₁' := hit₁
  obtain ⟨oi, hoi, _⟩ := hit₁'
  have hl₁' := hl₁
  obtain ⟨ol, hol, _⟩ := hl₁'
  rw [List.drop_zero]
  have hfl : (items.toList.take i).length = i := by rw [List.length_take, Array.length_toList]; omega
  rw [if_neg (show ¬ ((items.toList.take i).length < i) by rw [hfl]; omega)]
  refine wpAny_bind (wpAny_holding (PySem.W.kun_collect (s := { s with heap := h₁ }) (T := "tuple_iterator") (.inr (.inr (.inr rfl))) (Walks.tuple (A := A.in1) hh s.heap.objs.size l hlt items) (fun j u st => st.1.typeIs) (k := i) hi ⟨hit₁, hl₁⟩ (Heap.lt_size hoi) (Heap.lt_size hol) (fun h₂ tk hk => ?_) hz))
  have hm : (items.toList.drop i).length - (i + 1 - 1 - i) = (items.toList.drop i).length := by omega
  show wpAny _ _ (if (items.toList.drop i).length < i + 1 - 1 - i then _ else _) _ _ _
  rw [if_neg (by omega)]
  show wpAny _ _ (newList ((items.toList.drop i).take ((items.toList.drop i).length - (i + 1 - 1 - i))) >>= fun d => pure (items.toList.take i ++ [d] ++ (items.toList.drop i).drop ((items.toList.drop i).length - (i + 1 - 1 - i)))) _ _ _
  rw [hm, List.take_length, List.drop_length]
  have he : Heap.ExtBut s.heap.objs.size s.heap h₂ := fun b o hb e => hk b o hb (hs₁.extBut b o hb (Heap.get?_push_of_some _ e))
  refine wpAny_bind (wpAny_newObj_type ?_ ?_)
  · refine wpAny_pure ?_
    rw [List.append_nil]
    exact h h₂ tk he
  · have : (items.toList.drop i).length ≤ items.size := by rw [List.length_drop, Array.length_toList]; omega
    show (items.toList.drop i).toArray.size ≤ sizeLine
    rw [List.size_toArray]
    exact Nat.le_trans this hz
theorem star_L {l : Addr} {items : Array Value} {i : Nat} {Q : List Value → Shared → Prop} (hl : s.heap.IsList l items) (hh : A.handled = none) (hi : i ≤ items.size) (hz : items.size ≤ sizeLine)
    (h : ∀ h' tk, Heap.ExtBut s.heap.objs.size s.heap h' → Q (items.toList.take i ++ [.ref h'.objs.size]) { s with heap := h'.push { cls := .type "list", data := .seq (items.toList.drop i).toArray }, toks := tk }) : wpAny (model prog w) A (unpackItems (.ref l) (i + 1) (some i)) Q E s := by
  have hlt : l ≠ s.heap.objs.size := by obtain ⟨o, ho, _⟩ := hl; exact Nat.ne_of_lt (Heap.lt_size ho)
  unfold unpackItems
  refine wpAny_bind ?_
  unfold notIterableAtAll
  refine wpAny_bind (wpAny_specialOf hl.typeIs slot_list_iter.lookup ?_)
  refine wpAny_pure ?_
  simp only [Bool.false_eq_true, if_false]
  refine wpAny_bind (wpAny_holding (wpAny_pyIter_list hl ?_))
  refine wpAny_bind (wpAny_holding (PySem.W.kun_draw hlt i 0 _ _ ⟨_, Heap.get?_push_size _ rfl, rfl, rfl⟩ (hl.push _) (by omega) fun h₁ hit₁ hs₁ => ?_))
  have hl₁ : h₁.IsList l items := (hl.push _).extBut hs₁.extBut hlt
  rw [Nat.zero_add] at hit₁
  have hit₁' := hit₁
  obtain ⟨oi, hoi, _⟩ := hit₁'
  have hl₁' := hl₁
  obtain ⟨ol, hol, _⟩ := hl₁'
  rw [List.drop_zero]
  have hfl : (items.toList.take i).length = i := by rw [List.length_take, Array.length_toList]; omega
  rw [if_neg (show ¬ ((items.toList.take i).length < i) by rw [hfl]; omega)]
  refine wpAny_bind (wpAny_holding (PySem.W.kun_collect (s := { s with heap := h₁ }) (T := "list_iterator") (.inr (.inr (.inl rfl))) (Walks.list (A := A.in1) hh s.heap.objs.size l hlt items) (fun j u st => st.1.typeIs) (k := i) hi ⟨hit₁, hl₁⟩ (Heap.lt_size hoi) (Heap.lt_size hol) (fun h₂ tk hk => ?_) hz))
  have hm : (items.toList.drop i).length - (i + 1 - 1 - i) = (items.toList.drop i).length := by omega
  show wpAny _ _ (if (items.toList.drop i).length < i + 1 - 1 - i then _ else _) _ _ _
  rw [if_neg (by omega)]
  show wpAny _ _ (newList ((items.toList.drop i).take ((items.toList.drop i).length - (i + 1 - 1 - i))) >>= fun d => pure (items.toList.take i ++ [d] ++ (items.toList.drop i).drop ((items.toList.drop i).length - (i + 1 - 1 - i)))) _ _ _
  rw [hm, List.take_length, List.drop_length]
  have he : Heap.ExtBut s.heap.objs.size s.heap h₂ := fun b o hb e => hk b o hb (hs₁.extBut b o hb (Heap.get?_push_of_some _ e))
  refine wpAny_bind (wpAny_newObj_type ?_ ?_)
  · refine wpAny_pure ?_
    rw [List.append_nil]
    exact h h₂ tk he
  · have : (items.toList.drop i).length ≤ items.size := by rw [List.length_drop, Array.length_toList]; omega
    show (items.toList.drop i).toArray.size ≤ sizeLine
    rw [List.size_toArray]
    exact Nat.le_trans this hz
end
theorem vals_take : ∀ {xs : List V} {us : List Value} (n : Nat), Vals xs us → Vals (xs.take n) (us.take n)
  | _, _, 0, _ => .nil
  | _, _, _ + 1, .nil => .nil
  | _, _, n + 1, .cons h r => .cons h (vals_take n r)
theorem vals_drop : ∀ {xs : List V} {us : List Value} (n : Nat), Vals xs us → Vals (xs.drop n) (us.drop n)
  | _, _, 0, h => h
  | _, _, _ + 1, .nil => .nil
  | _, _, n + 1, .cons _ r => vals_drop n r
theorem vals_snoc : ∀ {xs : List V} {us : List Value} {x : V} {u : Value}, Vals xs us → RelV x u → Vals (xs ++ [x]) (us ++ [u])
  | _, _, _, _, .nil, r => .cons r .nil
  | _, _, _, _, .cons h t, r => .cons h (vals_snoc t r)
/-- names, then a starred one: i ahead of it -/
def gStar (K : PySem.W.Frag) (i : Nat) (t : TGs) : TG := fun v σ H Q => ∃ a xs, v = .ref a ∧ (SqT K H a xs ∨ SqL K H a xs) ∧ i ≤ xs.length ∧ ∀ p, H p = none → t (xs.take i ++ [.ref p]) σ (upd H p (.lst (xs.drop i))) Q
section
variable {X : Cx} {K : PySem.W.Frag} {pos : Pos}
theorem pgs_star {e : Expr} {t : TG} {p : Pos} (h : PG X e t) (hs : (assignEach [.Starred e p] X.env).map (·.2) = [assign e X.env] := by rfl) : PGs X [.Starred e p] (gCons t gNil) := by
  refine ⟨fun pins s σ H vs us Q I r hw => ?_⟩
  obtain ⟨v, vr, e1, hw⟩ := hw
  subst e1
  cases r with
  | cons r rr =>
    rw [hs]
    refine assignInOrder_cons (thn (h.run pins s σ H _ _ _ I r hw) fun _ s1 ⟨σ1, H1, I1, e2, q1⟩ => ?_)
    subst e2
    cases rr
    exact assignInOrder_nil ⟨σ1, H1, I1, q1⟩
theorem zg_star {es : List Expr} {k i : Nat} {t : TGs} (hK : X.K = K) (hc : X.calm = true) (h : PGs X es t)
    (hn : (assignEach es X.env).length = i + 1 := by rfl) (hst : (assignEach es X.env).findIdx? (·.1) = some i := by rfl) : PG X (.Tuple es k pos) (gStar K i t) := by
  subst hK
  refine ⟨fun pins s σ H v u Q I r hw => ?_⟩
  obtain ⟨a, xs, e1, hq, hl, hw⟩ := hw
  subst e1
  cases r
  rw [assign_Tuple]
  refine wpAny_bind (wpAny_standAt ?_)
  unfold unpack
  rw [hn, hst]
  rcases hq with hq | hq
  · obtain ⟨its, rv, ht, hz⟩ := I.tuple hq
    have hlen : its.length = xs.length := rv.length.symm
    refine wpAny_bind (wpAny_holding (star_T ht (I.ok.hd hc) (by simpa [hlen] using hl) (by simpa [hlen] using hz) fun h' tk hx => ?_))
    have I1 : Inv X pins σ H { s with heap := h', toks := tk } := I.kept (t' := tk) fun b o e => hx b o (Nat.ne_of_lt (Heap.lt_size e)) e
    have hf : H h'.objs.size = none := I1.hok.fresh (Nat.le_refl _)
    have I2 : Inv X pins σ (upd H h'.objs.size (.lst (xs.drop i))) { s with heap := h'.push { cls := .type "list", data := .seq (its.toArray.toList.drop i).toArray }, toks := tk } :=
      I1.laid (t' := tk) (o := .lst _) (fun b u e => Heap.get?_push_of_some _ e) (Nat.le_refl _) ⟨Nat.le_trans (by rw [List.length_drop]; omega) hz, its.drop i, 0, vals_drop i rv, Heap.get?_push_size _ rfl⟩
    refine h.run pins _ σ _ _ _ Q I2 (vals_snoc (x := .ref h'.objs.size) (vals_take i rv) rfl) (hw _ hf)
  · obtain ⟨its, rv, ht, hz⟩ := I.list hq
    have hlen : its.length = xs.length := rv.length.symm
    refine wpAny_bind (wpAny_holding (star_L ht.isList (I.ok.hd hc) (by simpa [hlen] using hl) (by simpa [hlen] using hz) fun h' tk hx => ?_))
    have I1 : Inv X pins σ H { s with heap := h', toks := tk } := I.kept (t' := tk) fun b o e => hx b o (Nat.ne_of_lt (Heap.lt_size e)) e
    have hf : H h'.objs.size = none := I1.hok.fresh (Nat.le_refl _)
    have I2 : Inv X pins σ (upd H h'.objs.size (.lst (xs.drop i))) { s with heap := h'.push { cls := .type "list", data := .seq (its.toArray.toList.drop i).toArray }, toks := tk } :=
      I1.laid (t' := tk) (o := .lst _) (fun b u e => Heap.get?_push_of_some _ e) (Nat.le_refl _) ⟨Nat.le_trans (by rw [List.length_drop]; omega) hz, its.drop i, 0, vals_drop i rv, Heap.get?_push_size _ rfl⟩
    refine h.run pins _ σ _ _ _ Q I2 (vals_snoc (x := .ref h'.objs.size) (vals_take i rv) rfl) (hw _ hf)
end
section
variable {K : PySem.W.Frag} {ρ ρ' : Enw} {d : D} {ds : List D} {i : Nat} {gs : TGs}
/-- the names ahead, the list behind -/
theorem go_star (h : GOs K gs (ds.take i ++ [.lst (ds.drop i)]) ρ ρ') (hn : i ≤ ds.length) : GO K (gStar K i gs) (.tup ds) ρ ρ' := fun Hs σ H v tv td s Q q => by
  obtain ⟨H0, eh, s⟩ := s
  have t := s.tmp
  cases t with
  | cons r rr =>
    obtain ⟨a, xs, rfl, hs, rs⟩ := r.tup_inv
    refine ⟨a, xs, rfl, .inl (ex_t s.ex hs), by rw [rs.len]; exact hn, fun p hp => ?_⟩
    have h0p : H0 p = none := fresh_back s.ex hp
    have s0 : StI K (upd H0 p (.lst (xs.drop i))) ρ ((xs.take i ++ [.ref p]) ++ tv) ((ds.take i ++ [.lst (ds.drop i)]) ++ td) σ (upd H p (.lst (xs.drop i))) := by
      have e0 : Ex H0 (upd H0 p (.lst (xs.drop i))) := Ex.new h0p
      have e1 : Ex H (upd H p (.lst (xs.drop i))) := Ex.new hp
      have hne : p ∉ ads ρ := s.ne_of_fresh (Ex.refl _) hp
      refine ⟨fun b o hb => ?_, fun b hb => ?_, s.nd, s.len, fun j en hj => ?_, ?_⟩
      · by_cases hbp : b = p
        · subst hbp; rw [upd_same] at hb ⊢; exact hb
        · rw [upd_ne hbp] at hb ⊢; exact s.ex b o hb
      · have : b ≠ p := fun e => hne (e ▸ hb)
        rw [upd_ne this]
        exact s.no b hb
      · obtain ⟨o, ho, hat⟩ := s.at_ j en hj
        refine ⟨o, ho, ?_⟩
        cases en with
        | no => trivial
        | rd d => obtain ⟨v, h1, h2⟩ := hat; exact ⟨v, h1, h2.mono e0⟩
        | ow a ds => obtain ⟨h1, xs, h2, h3⟩ := hat; exact ⟨h1, xs, e1 _ _ h2, h3.mono e0⟩
        | gh a ds => obtain ⟨xs, h2, h3⟩ := hat; exact ⟨xs, e1 _ _ h2, h3.mono e0⟩
        | ot a ks => obtain ⟨h1, h2⟩ := hat; exact ⟨h1, e1 _ _ h2⟩
        | rr a x0 cs l m n => obtain ⟨h1, h2, h3⟩ := hat; exact ⟨h1, e1 _ _ h2, h3.mono e0⟩
        | od a ds => obtain ⟨h1, xs, h2, h3⟩ := hat; exact ⟨h1, xs, e1 _ _ h2, h3.mono e0⟩
        | om a rows => obtain ⟨h1, h2, h3⟩ := hat; exact ⟨h1, e1 _ _ h2, fun r hr => e1 _ _ (h3 r hr)⟩
        | ra b d => obtain ⟨h1, h2⟩ := hat; exact ⟨h1, h2.mono e0⟩
      · exact (((rs.take i).mono e0).app (.cons (.lst upd_same ((rs.drop i).mono e0)) .nil)).app (rr.mono e0)
    exact h Hs σ _ _ tv td (by simp [rs.len]) ⟨_, eh.trans (Ex.new h0p), s0⟩ Q q
/-- of a list, nothing owned needed: it stands -/
theorem go_starL (h : GOs K gs (ds.take i ++ [.lst (ds.drop i)]) ρ ρ') (hn : i ≤ ds.length) : GO K (gStar K i gs) (.lst ds) ρ ρ' := fun Hs σ H v tv td s Q q => by
  obtain ⟨H0, eh, s⟩ := s
  have t := s.tmp
  cases t with
  | cons r rr =>
    obtain ⟨a, xs, rfl, hs, rs⟩ := r.lst_inv
    refine ⟨a, xs, rfl, .inr (SqL.of (s.ex _ _ hs)), by rw [rs.len]; exact hn, fun p hp => ?_⟩
    have h0p : H0 p = none := fresh_back s.ex hp
    have s0 : StI K (upd H0 p (.lst (xs.drop i))) ρ ((xs.take i ++ [.ref p]) ++ tv) ((ds.take i ++ [.lst (ds.drop i)]) ++ td) σ (upd H p (.lst (xs.drop i))) := by
      have e0 : Ex H0 (upd H0 p (.lst (xs.drop i))) := Ex.new h0p
      have e1 : Ex H (upd H p (.lst (xs.drop i))) := Ex.new hp
      have hne : p ∉ ads ρ := s.ne_of_fresh (Ex.refl _) hp
      refine ⟨fun b o hb => ?_, fun b hb => ?_, s.nd, s.len, fun j en hj => ?_, ?_⟩
      · by_cases hbp : b = p
        · subst hbp; rw [upd_same] at hb ⊢; exact hb
        · rw [upd_ne hbp] at hb ⊢; exact s.ex b o hb
      · have : b ≠ p := fun e => hne (e ▸ hb)
        rw [upd_ne this]
        exact s.no b hb
      · obtain ⟨o, ho, hat⟩ := s.at_ j en hj
        refine ⟨o, ho, ?_⟩
        cases en with
        | no => trivial
        | rd d => obtain ⟨v, h1, h2⟩ := hat; exact ⟨v, h1, h2.mono e0⟩
        | ow a ds => obtain ⟨h1, xs, h2, h3⟩ := hat; exact ⟨h1, xs, e1 _ _ h2, h3.mono e0⟩
        | gh a ds => obtain ⟨xs, h2, h3⟩ := hat; exact ⟨xs, e1 _ _ h2, h3.mono e0⟩
        | ot a ks => obtain ⟨h1, h2⟩ := hat; exact ⟨h1, e1 _ _ h2⟩
        | rr a x0 cs l m n => obtain ⟨h1, h2, h3⟩ := hat; exact ⟨h1, e1 _ _ h2, h3.mono e0⟩
        | od a ds => obtain ⟨h1, xs, h2, h3⟩ := hat; exact ⟨h1, xs, e1 _ _ h2, h3.mono e0⟩
        | om a rows => obtain ⟨h1, h2, h3⟩ := hat; exact ⟨h1, e1 _ _ h2, fun r hr => e1 _ _ (h3 r hr)⟩
        | ra b d => obtain ⟨h1, h2⟩ := hat; exact ⟨h1, h2.mono e0⟩
      · exact (((rs.take i).mono e0).app (.cons (.lst upd_same ((rs.drop i).mono e0)) .nil)).app (rr.mono e0)
    exact h Hs σ _ _ tv td (by simp [rs.len]) ⟨_, eh.trans (Ex.new h0p), s0⟩ Q q
end
end Pa
set_option Elab.async false
set_option linter.all false
set_option maxRecDepth 100000
set_option maxHeartbeats 4000000
/-! dicts by text, lists and dicts that a name owns -/
namespace Pa
open PySem PySem.Spec PyProof.Rows L2 Evl
def putD (kvs : List (Str × D)) (k : Str) (d : D) : List (Str × D) :=
  if (kvs.any fun kv => decide (kv.1 = k)) = true then kvs.map (fun kv => if kv.1 = k then (kv.1, d) else kv) else kvs ++ [(k, d)]
def dicOf (ps : List (Str × D)) : List (Str × D) := ps.foldl (fun acc p => putD acc p.1 p.2) []
theorem putD_new {kvs : List (Str × D)} {k : Str} {d : D} (h : k ∉ kvs.map (·.1)) : putD kvs k d = kvs ++ [(k, d)] := by
  unfold putD
  rw [if_neg]
  intro q
  obtain ⟨p, hp, e⟩ := List.any_eq_true.mp q
  exact h (List.mem_map.mpr ⟨p, hp, by simpa using e⟩)
theorem dicOf_nodup {ps : List (Str × D)} (h : (ps.map (·.1)).Nodup) : dicOf ps = ps := by
  have go : ∀ (qs acc : List (Str × D)), ((acc ++ qs).map (·.1)).Nodup → qs.foldl (fun acc p => putD acc p.1 p.2) acc = acc ++ qs := by
    intro qs
    induction qs with
    | nil => intro acc _; simp
    | cons q qs ih =>
      intro acc hn
      rw [List.foldl_cons, putD_new]
      · rw [ih]
        · simp
        · simpa using hn
      · intro hm
        rw [List.map_append, List.nodup_append] at hn
        exact hn.2.2 q.1 hm q.1 (by simp) rfl
  exact go ps [] (by simpa using h)
theorem lookup_putD {kvs : List (Str × D)} {k k' : Str} {d : D} : (putD kvs k d).lookup k' = if k' = k then some d else kvs.lookup k' := by
  unfold putD
  induction kvs with
  | nil => by_cases h : k' = k <;> simp [h]
  | cons p kvs ih =>
    obtain ⟨k0, d0⟩ := p
    by_cases h0 : k0 = k
    · subst h0
      simp only [List.any_cons, decide_true, Bool.true_or, if_true, List.map_cons]
      by_cases h : k' = k0
      · subst h; simp
      · have hb : (k' == k0) = false := beq_eq_false_iff_ne.mpr h
        simp only [List.lookup_cons, hb, h, if_false]
        clear ih hb
        induction kvs with
        | nil => rfl
        | cons p kvs ih2 =>
          by_cases hp : p.1 = k0
          · have hb : (k' == k0) = false := beq_eq_false_iff_ne.mpr h
            obtain ⟨a, b⟩ := p
            simp only at hp
            subst hp
            simp only [List.map_cons, if_true, List.lookup_cons, hb]
            exact ih2
          · obtain ⟨a, b⟩ := p
            simp only at hp
            simp only [List.map_cons, hp, if_false, List.lookup_cons]
            rw [ih2]
    · simp only [List.any_cons, h0, decide_false, Bool.false_or]
      by_cases ha : (kvs.any fun kv => decide (kv.1 = k)) = true
      · simp only [ha, if_true, List.map_cons, h0, if_false, List.lookup_cons] at ih ⊢
        by_cases h : k' = k0
        · subst h; simp [h0]
        · have hb : (k' == k0) = false := beq_eq_false_iff_ne.mpr h
          simp only [hb]
          exact ih
      · have ha' : (kvs.any fun kv => decide (kv.1 = k)) = false := Bool.not_eq_true _ ▸ ha
        simp only [ha', Bool.false_eq_true, if_false, List.cons_append, List.lookup_cons] at ih ⊢
        by_cases h : k' = k0
        · subst h; simp [h0]
        · have hb : (k' == k0) = false := beq_eq_false_iff_ne.mpr h
          simp only [hb]
          exact ih
section
variable {K : PySem.W.Frag} {H H' H0 : Hp} {v : V} {d d' : D} {ds es : List D} {kvs : List (Str × D)} {k : Str} {ρ : Env} {td ty tv te tx : TE} {σ : L2.St}
theorem Rkv.any : ∀ {xs : List (Key × V)} {kvs : List (Str × D)}, Rkv K H xs kvs → (xs.any fun kv => decide (kv.1 = Sum.inr k)) = (kvs.any fun kv => decide (kv.1 = k))
  | _, _, .nil => rfl
  | _, _, .cons (k := k0) _ r => by
    have e : decide ((Sum.inr k0 : Key) = Sum.inr k) = decide (k0 = k) := by
      by_cases h : k0 = k
      · subst h; simp
      · have : ¬ (Sum.inr k0 : Key) = Sum.inr k := fun q => h (Sum.inr.inj q)
        simp [h, this]
    rw [List.any_cons, List.any_cons, Rkv.any r, e]
theorem Rkv.snoc : ∀ {xs : List (Key × V)} {kvs : List (Str × D)}, Rkv K H xs kvs → Rp K H v d → Rkv K H (xs ++ [(.inr k, v)]) (kvs ++ [(k, d)])
  | _, _, .nil, q => .cons q .nil
  | _, _, .cons h r, q => .cons h (Rkv.snoc r q)
theorem Rkv.sub {K : PySem.W.Frag} {H : Hp} {v : V} {d : D} {k : Str} (q : Rp K H v d) : ∀ {xs : List (Key × V)} {kvs : List (Str × D)}, Rkv K H xs kvs → Rkv K H (xs.map fun kv => if kv.1 = Sum.inr k then (kv.1, v) else kv) (kvs.map fun kv => if kv.1 = k then (kv.1, d) else kv)
  | _, _, .nil => .nil
  | _, _, .cons (k := k0) h r => by
    by_cases e : k0 = k
    · subst e
      simp only [List.map_cons, if_true]
      exact .cons q (Rkv.sub q r)
    · have e' : ¬ (Sum.inr k0 : Key) = Sum.inr k := fun q => e (Sum.inr.inj q)
      simp only [List.map_cons, e, e', if_false]
      exact .cons h (Rkv.sub q r)
theorem Rkv.put {xs : List (Key × V)} (r : Rkv K H xs kvs) (q : Rp K H v d) : Rkv K H (putK xs (.inr k) v) (putD kvs k d) := by
  unfold putK putD
  rw [r.any]
  split
  · exact Rkv.sub q r
  · exact Rkv.snoc r q
theorem Rkv.keepT (kk : ∀ a xs, SqT K H a xs → SqT K H' a xs) : ∀ {vs : List (Key × V)} {ds : List (Str × D)}, (∀ p ∈ ds, p.2.tu = true) → Rkv K H vs ds → Rkv K H' vs ds
  | _, _, _, .nil => .nil
  | _, _, t, .cons h r => .cons (h.keepT kk (t _ List.mem_cons_self)) (Rkv.keepT kk (fun p hp => t p (List.mem_cons_of_mem _ hp)) r)
theorem dget_of (h : EvD K td σ H (.dic kvs)) (hk : EvD K ty σ H (dS k)) (hl : kvs.lookup k = some d) : EvD K (tDGet td ty) σ H d := fun H1 e Q q =>
  h H1 e _ fun v H2 e2 r => hk H2 (e.trans e2) _ fun y H3 e3 ry => by
    obtain ⟨a, xs, rfl, hx, rr⟩ := (r.mono e3).dic_inv
    obtain ⟨u, hu, ru⟩ := rr.look hl
    rw [ry.raw_inv]
    refine ⟨a, u, rfl, ?_, q u H3 (e2.trans e3) ru⟩
    have g : DGet H3 a (kV (Sum.inr k)) (valV xs (Sum.inr k)) := .inl ⟨xs, _, hx, rfl, rfl⟩
    rw [hu] at g
    exact g
theorem ee_dget (h : EvE K td ρ (.dic kvs)) (hk : EvE K ty ρ (dS k)) (hl : kvs.lookup k = some d) : EvE K (tDGet td ty) ρ d := fun σ H e => dget_of (h σ H e) (hk σ H e) hl
theorem ee_dget2 (h : EvE K td ρ (.dic kvs)) (hk : EvE K ty ρ (dS k)) (hx : EvE K tx ρ d) : EvE K (tDGet2 td ty tx) ρ ((kvs.lookup k).getD d) := fun σ H e H1 e1 Q q =>
  h σ H e H1 e1 _ fun v H2 e2 r => by
    obtain ⟨a, xs, rfl, hxs, rr⟩ := r.dic_inv
    refine ⟨a, rfl, .inl ⟨xs, hxs⟩, hk σ H e H2 (e1.trans e2) _ fun y H3 e3 ry => hx σ H e H3 ((e1.trans e2).trans e3) _ fun z H4 e4 rz => ?_⟩
    rw [ry.raw_inv]
    have g : DGet H4 a (kV (Sum.inr k)) (valV xs (Sum.inr k)) := .inl ⟨xs, _, ex_rd e4 (ex_rd e3 hxs), rfl, rfl⟩
    refine ⟨_, g, ?_⟩
    have rr' := rr.mono (e3.trans e4)
    cases hl : kvs.lookup k with
    | none =>
      rw [rr'.lookN hl]
      rw [hl] at q
      exact q z H4 ((e2.trans e3).trans e4) rz
    | some d' =>
      obtain ⟨u, hu, ru⟩ := rr'.look hl
      rw [hu]
      rw [hl] at q
      exact q u H4 ((e2.trans e3).trans e4) ru
theorem ee_din (hk : EvE K ty ρ (dS k)) (h : EvE K td ρ (.dic kvs)) : EvE K (tDIn ty td) ρ (dB (kvs.lookup k).isSome) := fun σ H e H1 e1 Q q =>
  hk σ H e H1 e1 _ fun y H2 e2 ry => h σ H e H2 (e1.trans e2) _ fun v H3 e3 r => by
    obtain ⟨a, xs, rfl, hxs, rr⟩ := r.dic_inv
    rw [ry.raw_inv]
    refine ⟨a, _, rfl, (.inl ⟨xs, Sum.inr k, hxs, rfl, rfl⟩ : DGet H3 a (kV (Sum.inr k)) (valV xs (Sum.inr k))), ?_⟩
    cases hl : kvs.lookup k with
    | none => rw [rr.lookN hl]; rw [hl] at q; exact q _ H3 (e2.trans e3) (.raw _)
    | some d' =>
      obtain ⟨u, hu, ru⟩ := rr.look hl
      rw [hu]; rw [hl] at q
      exact q _ H3 (e2.trans e3) (.raw _)
theorem te_din (hk : EvE K ty ρ (dS k)) (h : EvE K td ρ (.dic kvs)) : EvTE K (tB (tDIn ty td)) ρ (kvs.lookup k).isSome := te_B (ee_din hk h)
theorem ee_dnewK : EvE K tDNewK ρ (.dic []) := fun σ H e H1 e1 Q q p hp => q _ _ (Ex.new hp) (.dic (.inl upd_same) .nil)
theorem rkv_len : ∀ {xs : List (Key × V)} {kvs : List (Str × D)}, Rkv K H xs kvs → xs.length = kvs.length
  | _, _, .nil => rfl
  | _, _, .cons _ r => congrArg Nat.succ (rkv_len r)
theorem putD_len {kvs : List (Str × D)} : (putD kvs k d).length ≤ kvs.length + 1 := by
  unfold putD
  split <;> simp
theorem putD_mem {kvs : List (Str × D)} {p : Str × D} (h : p ∈ putD kvs k d) : p ∈ kvs ∨ p = (k, d) := by
  unfold putD at h
  split at h
  · obtain ⟨q, hq, e⟩ := List.mem_map.mp h
    by_cases hk : q.1 = k
    · rw [if_pos hk] at e; right; rw [← e, hk]
    · rw [if_neg hk] at e; left; rw [← e]; exact hq
  · rcases List.mem_append.mp h with h | h
    · exact .inl h
    · exact .inr (List.mem_singleton.mp h)
/-- {k: v for .. in ..}: the first n -/
def dcD (ks : Nat → Str) (f : Nat → D) : Nat → List (Str × D)
  | 0 => []
  | n + 1 => putD (dcD ks f n) (ks n) (f n)
theorem dcD_eq {ks : Nat → Str} {f : Nat → D} : ∀ n, dcD ks f n = dicOf ((List.range n).map fun i => (ks i, f i))
  | 0 => rfl
  | n + 1 => by
    rw [dcD, dcD_eq n, List.range_succ, List.map_append]
    unfold dicOf
    rw [List.foldl_append]
    rfl
theorem dcD_len {ks : Nat → Str} {f : Nat → D} : ∀ n, (dcD ks f n).length ≤ n
  | 0 => Nat.le_refl _
  | n + 1 => Nat.le_trans putD_len (Nat.succ_le_succ (dcD_len n))
theorem dcD_mem {ks : Nat → Str} {f : Nat → D} {p : Str × D} : ∀ n, p ∈ dcD ks f n → ∃ i, i < n ∧ p = (ks i, f i)
  | 0, h => by cases h
  | n + 1, h => by
    rcases putD_mem h with h | h
    · obtain ⟨i, hi, e⟩ := dcD_mem n h
      exact ⟨i, by omega, e⟩
    · exact ⟨n, by omega, h⟩
theorem keepT_dic {a : Addr} {xs zs : List (Key × V)} (h : H a = some (.dK xs)) : ∀ b ys, SqT K H b ys → SqT K (upd H a (.dK zs)) b ys := fun b ys q => by
  rcases q with q | q
  · rcases q with q | ⟨o, q⟩
    · exact .inl (.inl (by rw [upd_ne (ne_of q h (by intro z; cases z))]; exact q))
    · exact .inl (.inr ⟨o, by rw [upd_ne (ne_of q h (by intro z; cases z))]; exact q⟩)
  · exact .inr q
theorem ee_dc {wi : TI} {g : TG} {js vs : List Nat} {tk tv : TE} (ρs : Nat → Env) (ks : Nat → Str) (f : Nat → D) (h : WkE K wi ρ ds) (hz : ds.length ≤ 50000) (hj : ∀ j ∈ js, j ∈ vs) (hT : ∀ i d, ds[i]? = some d → (f i).tu = true)
    (hg : ∀ i d, ds[i]? = some d → GE K g js d (wipeE ρ vs) (ρs i)) (hk : ∀ i d, ds[i]? = some d → EvE K tk (ρs i) (dS (ks i))) (hv : ∀ i d, ds[i]? = some d → EvE K tv (ρs i) (f i)) :
    EvE K (tDc wi g tYes tk tv vs) ρ (.dic (dcD ks f ds.length)) := by
  intro σ H e H0 e0 Q q
  refine h σ H e H0 e0 _ fun J H1 e1 j => ?_
  intro Dl hD
  refine ⟨fun i m H => m = ds.length - i ∧ i ≤ ds.length ∧ Ex H1 H ∧ ∃ ys, H Dl = some (.dK ys) ∧ Rkv K H ys (dcD ks f i), ⟨ds.length, by simp, Nat.zero_le _, Ex.new hD, [], upd_same, .nil⟩, ?_⟩
  rintro i m H2 ⟨rfl, hi, e2, ys, hl, rr⟩
  by_cases hlt : i < ds.length
  · refine .inr ⟨j.go i H2 e2 hlt, fun H => i + 1 ≤ ds.length ∧ Ex H1 H ∧ ∃ ys, H Dl = some (.dK ys) ∧ Rkv K H ys (dcD ks f (i + 1)), fun H' p' => ⟨ds.length - (i + 1), by omega, rfl, p'⟩, fun x H3 y => ?_⟩
    obtain ⟨d, hd, e3, r3⟩ := j.yld i H2 x H3 e2 hlt y
    refine hg i d hd _ H3 x ((e.wipe vs).mono (((e0.trans e1).trans e2).trans e3)) r3 _ fun σ2 H4 e4 E4 w => ⟨by rw [w vs hj, wipe_wipe], ?_⟩
    show tk σ2 H4 _
    refine hk i d hd σ2 H4 E4 H4 (Ex.refl _) _ fun y5 H5 e5 r5 => ?_
    refine hv i d hd σ2 H4 E4 H5 e5 _ fun z H6 e6 r6 => ?_
    have e26 : Ex H2 H6 := ((e3.trans e4).trans e5).trans e6
    have hl6 := e26 Dl _ hl
    rw [r5.raw_inv]
    refine ⟨ys, .inr (ks i), rfl, hl6, ?_, hlt, Ex.mut (e2.trans e26) hD, _, upd_same, ?_⟩
    · rw [rkv_len rr]
      have := dcD_len (ks := ks) (f := f) i
      exact sz_lt (by omega)
    · have kt := keepT_dic (K := K) (zs := putK ys (.inr (ks i)) z) hl6
      refine Rkv.put (((rr.mono e26).keepT kt fun p hp => ?_)) (r6.keepT kt (hT i d hd))
      obtain ⟨k, hk', rfl⟩ := dcD_mem i hp
      obtain ⟨dj, hdj⟩ : ∃ dj, ds[k]? = some dj := ⟨ds[k], by simp [Nat.lt_trans hk' hlt]⟩
      exact hT k dj hdj
  · have e' : i = ds.length := by omega
    subst e'
    exact .inl ⟨j.stop H2 e2, q _ H2 (e1.trans e2) (.dic (.inl hl) rr)⟩
/-- dict([(k, v), ..]) -/
theorem rkv_merge : ∀ {ys : List (Key × V)} {ps : List (Str × D)} {xs : List (Key × V)} {acc : List (Str × D)}, Rkv K H ys ps → Rkv K H xs acc → Rkv K H (mergeK xs ys) (ps.foldl (fun acc p => putD acc p.1 p.2) acc)
  | _, _, _, _, .nil, q => q
  | _, _, _, _, .cons (k := k0) h r, q => by
    have t := rkv_merge r (q.put (k := k0) h)
    exact t
theorem pairs_of {ps : List (Str × D)} : ∀ {xs : List V}, Rps K H xs (ps.map fun p => .tup [dS p.1, p.2]) → ∃ (as : List Addr) (ys : List (Key × V)), xs = as.map V.ref ∧ Paired (fun p kv => SqT K H p [kV kv.1, kv.2]) as ys ∧ Rkv K H ys ps := by
  induction ps with
  | nil => intro xs r; cases r; exact ⟨[], [], rfl, .nil, .nil⟩
  | cons p ps ih =>
    intro xs r
    cases r with
    | cons r rr =>
      obtain ⟨as, ys, rfl, h1, h2⟩ := ih rr
      obtain ⟨a, zs, rfl, hs, rz⟩ := r.tup_inv
      cases rz with
      | cons r1 rz =>
        cases rz with
        | cons r2 rz =>
          cases rz
          rename_i v1 v2
          have e1 := r1.raw_inv
          subst e1
          exact ⟨a :: as, (.inr p.1, _) :: ys, rfl, .cons hs h1, .cons r2 h2⟩
theorem rc_dict {ps : List (Str × D)} : RCD K (rDicX K) [.lst (ps.map fun p => .tup [dS p.1, p.2])] H (.dic (dicOf ps)) := fun H1 _ vs r Q q => by
  cases r with
  | cons r1 r2 =>
    cases r2
    obtain ⟨a, xs, rfl, ha, rr⟩ := r1.lst_inv
    obtain ⟨as, ys, rfl, h1, h2⟩ := pairs_of rr
    exact ⟨a, as, ys, rfl, SqL.of ha, h1, fun p hp => q _ _ (Ex.new hp) (.dic (.inl upd_same) ((rkv_merge h2 .nil).mono (Ex.new hp)))⟩
end
end Pa
set_option Elab.async false
set_option linter.all false
set_option maxRecDepth 100000
set_option maxHeartbeats 4000000
/-! lists and dicts that a name owns -/
namespace Pa
open PySem PySem.Spec PyProof.Rows L2 Evl
section
variable {K : PySem.W.Frag} {ρ ρ' ρ1 ρ2 : Enw} {tv : List V} {td : List D} {σ σ' : L2.St} {Hs H0 H H' H1 H2 : Hp} {v : V} {d d' : D} {ds es : List D} {i j n : Nat} {te tk : TE} {ta : TA} {e e' : En} {a b : Addr} {kvs : List (Str × D)} {k : Str}
variable {N N' : Enw → Prop} {R R' : D → Enw → Prop} {t u tz ty : TS}
theorem ads_same (h : ρ[i]? = some e) (ha : e.ad = e'.ad) : ads (ρ.set i e') = ads ρ := by
  unfold ads
  induction ρ generalizing i with
  | nil => rfl
  | cons x ρ ih => cases i with
    | zero =>
      have : x = e := by simpa using h
      subst this
      simp [ha]
    | succ i =>
      simp only [List.set_cons_succ, List.flatMap_cons]
      rw [ih (by simpa using h)]
theorem ads_ne (nd : (ads ρ).Nodup) (h : ρ[i]? = some e) (h' : ρ[j]? = some e') (hij : i ≠ j) (ha : a ∈ e.ad) (hb : b ∈ e'.ad) : a ≠ b := by
  unfold ads at nd
  induction ρ generalizing i j with
  | nil => simp at h
  | cons x ρ ih =>
    simp only [List.flatMap_cons] at nd
    obtain ⟨n1, n2, n3⟩ := List.nodup_append.mp nd
    cases i with
    | zero =>
      have : x = e := by simpa using h
      subst this
      cases j with
      | zero => exact absurd rfl hij
      | succ j => exact n3 a ha b (List.mem_flatMap.mpr ⟨e', List.mem_of_getElem? (by simpa using h'), hb⟩)
    | succ i =>
      cases j with
      | zero =>
        have : x = e' := by simpa using h'
        subst this
        exact fun q => n3 b hb a (List.mem_flatMap.mpr ⟨e, List.mem_of_getElem? (by simpa using h), ha⟩) q.symm
      | succ j => exact ih n2 (by simpa using h) (by simpa using h') (fun q => hij (by rw [q]))
/-- what a owns is written -/
theorem StI.mut (s : StI K H0 ρ tv td σ H) (h : ρ[i]? = some e) (ha : a ∈ e.ad) (hsame : e.ad = e'.ad) {o : HO} (hn : ∀ x, EnAt K H0 H x e → EnAt K H0 (upd H a o) x e') : StI K H0 (ρ.set i e') tv td σ (upd H a o) := by
  have hno : H0 a = none := s.no a (ads_mem h ha)
  refine ⟨Ex.mut s.ex hno, by rw [ads_same h hsame]; exact s.no, by rw [ads_same h hsame]; exact s.nd, by simp [s.len], fun j en hj => ?_, s.tmp⟩
  by_cases hij : i = j
  · subst hij
    have hlt : i < ρ.length := (List.getElem?_eq_some_iff.mp h).1
    rw [List.getElem?_set_self hlt] at hj
    cases hj
    obtain ⟨x, hx, hat⟩ := s.at_ i e h
    exact ⟨x, hx, hn x hat⟩
  · rw [List.getElem?_set_ne hij] at hj
    obtain ⟨x, hx, hat⟩ := s.at_ j en hj
    refine ⟨x, hx, ?_⟩
    cases en with
    | no => trivial
    | rd d => exact hat
    | ra b d => exact hat
    | ow b ds =>
      obtain ⟨h1, xs, h2, h3⟩ := hat
      have hne : b ≠ a := (ads_ne s.nd h hj hij ha (List.mem_singleton.mpr rfl)).symm
      exact ⟨h1, xs, by rw [upd_ne hne]; exact h2, h3⟩
    | gh b ds =>
      obtain ⟨xs, h2, h3⟩ := hat
      have hne : b ≠ a := (ads_ne s.nd h hj hij ha (List.mem_singleton.mpr rfl)).symm
      exact ⟨xs, by rw [upd_ne hne]; exact h2, h3⟩
    | ot b ks =>
      obtain ⟨h1, h2⟩ := hat
      have hne : b ≠ a := (ads_ne s.nd h hj hij ha (List.mem_singleton.mpr rfl)).symm
      exact ⟨h1, by rw [upd_ne hne]; exact h2⟩
    | rr b x0 cs l m n =>
      obtain ⟨h1, h2, h3⟩ := hat
      have hne : b ≠ a := (ads_ne s.nd h hj hij ha (List.mem_singleton.mpr rfl)).symm
      exact ⟨h1, by rw [upd_ne hne]; exact h2, h3⟩
    | od b ds =>
      obtain ⟨h1, xs, h2, h3⟩ := hat
      have hne : b ≠ a := (ads_ne s.nd h hj hij ha (List.mem_singleton.mpr rfl)).symm
      exact ⟨h1, xs, by rw [upd_ne hne]; exact h2, h3⟩
    | om b rows =>
      obtain ⟨h1, h2, h3⟩ := hat
      have hne : b ≠ a := (ads_ne s.nd h hj hij ha List.mem_cons_self).symm
      refine ⟨h1, by rw [upd_ne hne]; exact h2, fun r hr => ?_⟩
      have hne : r.1 ≠ a := (ads_ne s.nd h hj hij ha (List.mem_cons_of_mem _ (List.mem_map.mpr ⟨r, hr, rfl⟩))).symm
      rw [upd_ne hne]
      exact h3 r hr
theorem StI.owned (s : StI K H0 ρ tv td σ H) (h : ρ[i]? = some (.ow a ds)) : σ[i]? = some (some (.ref a)) ∧ ∃ xs, H a = some (.lst xs) ∧ Rps K H0 xs ds := by
  obtain ⟨x, hx, rfl, xs, h1, h2⟩ := s.at_ i _ h
  exact ⟨hx, xs, h1, h2⟩
theorem StI.ownedD (s : StI K H0 ρ tv td σ H) (h : ρ[i]? = some (.od a kvs)) : σ[i]? = some (some (.ref a)) ∧ ∃ xs, H a = some (.dK xs) ∧ Rkv K H0 xs kvs := by
  obtain ⟨x, hx, rfl, xs, h1, h2⟩ := s.at_ i _ h
  exact ⟨hx, xs, h1, h2⟩
theorem StI.mutL (s : StI K H0 ρ tv td σ H) (h : ρ[i]? = some (.ow a ds)) {ys : List V} (r : Rps K H0 ys es) : StI K H0 (ρ.set i (.ow a es)) tv td σ (upd H a (.lst ys)) :=
  s.mut (e' := .ow a es) h (List.mem_singleton.mpr rfl) rfl fun x q => ⟨q.1, ys, upd_same, r⟩
theorem StI.mutD (s : StI K H0 ρ tv td σ H) (h : ρ[i]? = some (.od a kvs)) {ys : List (Key × V)} {kvs' : List (Str × D)} (r : Rkv K H0 ys kvs') : StI K H0 (ρ.set i (.od a kvs')) tv td σ (upd H a (.dK ys)) :=
  s.mut (e' := .od a kvs') h (List.mem_singleton.mpr rfl) rfl fun x q => ⟨q.1, ys, upd_same, r⟩
/-- found.append(e) -/
theorem ro_append (h : ρ[i]? = some (.ow a ds)) (he : EvE K te (vw ρ) d) (f : Fit ρ d) (hz : ds.length < 100000) (k : N (ρ.set i (.ow a (ds ++ [d])))) : RO K (tDrop (tBM K "list" rAppend (tVar i) (tCons te tNil))) ρ N R := fun Hs Dn σ H s kn _ => by
  obtain ⟨H0, eh, s0⟩ := id s
  obtain ⟨hv, xs, hx, r⟩ := s0.owned h
  refine ⟨.ref a, hv, .inl ⟨rfl, xs, SqL.of hx⟩, s.ev he f fun v H2 e2 s2 => ?_⟩
  obtain ⟨H3, e3, s3⟩ := s2
  obtain ⟨_, ys, hy, ry⟩ := s3.owned h
  have t := s3.tmp
  cases t with
  | cons r0 rr =>
    refine ⟨a, ys, v, rfl, rfl, hy, sz_lt (by rw [ry.len]; exact hz), kn _ _ _ k ⟨H3, e3, ?_⟩⟩
    have s4 : StI K H3 ρ [] [] σ H2 := { s3 with tmp := .nil }
    exact s4.mutL h (ry.snoc r0)
/-- found.extend(a new list) -/
theorem ro_extend (h : ρ[i]? = some (.ow a ds)) (he : EvE K te (vw ρ) (.lst es)) (f : D.tus es = true) (hz : ds.length + es.length ≤ 100000) (k : N (ρ.set i (.ow a (ds ++ es)))) : RO K (tDrop (tBM K "list" rExtend (tVar i) (tCons te tNil))) ρ N R := fun Hs Dn σ H s kn _ => by
  obtain ⟨H0, eh, s0⟩ := id s
  obtain ⟨hv, xs, hx, r⟩ := s0.owned h
  refine ⟨.ref a, hv, .inl ⟨rfl, xs, SqL.of hx⟩, he σ H s0.env H (Ex.refl _) _ fun v H2 e2 rv => ?_⟩
  obtain ⟨b, zs, rfl, hb, rz⟩ := rv.lst_inv
  have s3 := s0.grow e2
  obtain ⟨_, ys, hy, ry⟩ := s3.owned h
  refine ⟨a, b, ys, zs, rfl, rfl, hy, hb, sz_of (by rw [ry.len, rz.len]; exact hz), kn _ _ _ k ⟨_, eh.trans (s0.growEx e2), ?_⟩⟩
  refine s3.mutL h (ry.app (rz.keepT (keep_minus fun c hc => ?_) f))
  rcases s0.held hc with ⟨xs, hx⟩ | ⟨xs, hx⟩
  · exact .inl ⟨xs, e2 _ _ hx⟩
  · exact .inr ⟨xs, e2 _ _ hx⟩
/-- x[e] = v, x owned -/
theorem ro_setL {m : Nat} {ix : Int} (h : ρ[i]? = some (.ow a ds)) (he : EvE K te (vw ρ) d) (f : Fit ρ d) (hk : EvE K tk (vw ρ) (dI ix)) (hi : ixN ds.length ix = some m) (k : N (ρ.set i (.ow a (ds.set m d)))) : RO K (tAsg te (gSub (tVar i) tk rSetL)) ρ N R := fun Hs Dn σ H s kn _ => by
  refine s.ev he f fun v H2 e2 s2 => ?_
  obtain ⟨H3, e3, s3⟩ := id s2
  obtain ⟨hv, _⟩ := s3.owned h
  refine ⟨.ref a, hv, s2.ev hk (.inl rfl) fun w H4 e4 s4 => ?_⟩
  obtain ⟨H5, e5, s5⟩ := s4
  obtain ⟨_, ys, hy, ry⟩ := s5.owned h
  have t := s5.tmp
  cases t with
  | cons r1 rr =>
    cases rr with
    | cons r0 rr =>
      refine ⟨a, ys, ix, m, rfl, r1.raw_inv, hy, by rw [ry.len]; exact hi, kn _ _ _ k ⟨H5, e5, ?_⟩⟩
      have s6 : StI K H5 ρ [] [] σ H4 := { s5 with tmp := .nil }
      refine s6.mutL h ?_
      have go : ∀ {xs : List V} {ds : List D} {m : Nat}, Rps K H5 xs ds → Rps K H5 (xs.set m v) (ds.set m d) := by
        intro xs ds m r
        induction m generalizing xs ds with
        | zero => cases r with
          | nil => exact .nil
          | cons h t => exact .cons r0 t
        | succ m ih => cases r with
          | nil => exact .nil
          | cons h t => exact .cons h (ih t)
      exact go ry
/-- d[k] = v, d owned -/
theorem ro_dput (h : ρ[i]? = some (.od a kvs)) (he : EvE K te (vw ρ) d) (f : Fit ρ d) (hk : EvE K tk (vw ρ) (dS k)) (hz : kvs.length < 100000) (q : N (ρ.set i (.od a (putD kvs k d)))) : RO K (sDPut (tVar i) tk te) ρ N R := fun Hs Dn σ H s kn _ => by
  refine s.ev he f fun v H2 e2 s2 => ?_
  obtain ⟨H3, e3, s3⟩ := id s2
  obtain ⟨hv, _⟩ := s3.ownedD h
  refine ⟨.ref a, hv, s2.ev hk (.inl rfl) fun w H4 e4 s4 => ?_⟩
  obtain ⟨H5, e5, s5⟩ := s4
  obtain ⟨_, ys, hy, ry⟩ := s5.ownedD h
  have t := s5.tmp
  cases t with
  | cons r1 rr =>
    cases rr with
    | cons r0 rr =>
      refine ⟨a, upd H4 a (.dK (putK ys (.inr k) v)), rfl, ?_, kn _ _ _ q ⟨H5, e5, ?_⟩⟩
      · rw [r1.raw_inv]
        exact DPut.k (k := Sum.inr k) hy (sz_lt (by rw [rkv_len ry]; exact hz))
      · have s6 : StI K H5 ρ [] [] σ H4 := { s5 with tmp := .nil }
        exact s6.mutD h (ry.put r0)
/-! ### a name takes a new list, a new dict -/
theorem ads_new (h : ∀ e, ρ[i]? = some e → e.ad = []) : (∀ b ∈ ads (ρ.set i e'), b ∈ e'.ad ∨ b ∈ ads ρ) ∧ ((ads ρ).Nodup → e'.ad.Nodup → (∀ b ∈ e'.ad, b ∉ ads ρ) → (ads (ρ.set i e')).Nodup) := by
  unfold ads
  induction ρ generalizing i with
  | nil =>
    refine ⟨fun b hb => ?_, fun _ _ _ => List.nodup_nil⟩; simp at hb
  | cons x ρ ih => cases i with
    | zero =>
      have hx : x.ad = [] := h x rfl
      simp only [List.set_cons_zero, List.flatMap_cons, hx, List.nil_append]
      exact ⟨fun b hb => List.mem_append.mp hb, fun n1 n2 n3 => List.nodup_append.mpr ⟨n2, n1, fun x hx y hy q => n3 x hx (q ▸ hy)⟩⟩
    | succ i =>
      obtain ⟨h1, h2⟩ := ih (i := i) fun e he => h e (by simpa using he)
      simp only [List.set_cons_succ, List.flatMap_cons]
      refine ⟨fun b hb => ?_, fun n1 n2 n3 => ?_⟩
      · rcases List.mem_append.mp hb with hb | hb
        · exact .inr (List.mem_append_left _ hb)
        · rcases h1 b hb with h | h
          · exact .inl h
          · exact .inr (List.mem_append_right _ h)
      · obtain ⟨a1, a2, a3⟩ := List.nodup_append.mp n1
        refine List.nodup_append.mpr ⟨a1, h2 a2 n2 fun b hb q => n3 b hb (List.mem_append_right _ q), fun x hx y hy => ?_⟩
        rcases h1 y hy with h | h
        · exact fun q => n3 y h (List.mem_append_left _ (q ▸ hx))
        · exact a3 x hx y h
theorem StI.new (s : StI K H0 ρ tv td σ H) (hi : ∀ e, ρ[i]? = some e → e.ad = []) (he : e'.ad = [a]) (hf : a ∉ ads ρ) (hno : H0 a = none) (hn : EnAt K H0 H (some v) e') : StI K H0 (ρ.set i e') tv td (σ.set i (some v)) H := by
  obtain ⟨h1, h2⟩ := ads_new (ρ := ρ) (i := i) (e' := e') hi
  refine ⟨s.ex, fun b hb => ?_, h2 s.nd (by rw [he]; simp) (fun b hb => ?_), by simp [s.len], at_set s.len hn fun j e _ hj => s.at_ j e hj, s.tmp⟩
  · rcases h1 b hb with h | h
    · rw [he] at h; rw [List.mem_singleton.mp h]; exact hno
    · exact s.no b h
  · rw [he] at hb; rw [List.mem_singleton.mp hb]; exact hf
/-- H0 grown to all but the new one -/
theorem StI.grow1 (s : StI K H0 ρ tv td σ H) (e : Ex H H2) (hp : H a = none) : StI K (minus H2 (a :: ads ρ)) ρ tv td σ H2 := by
  have h0 : H0 a = none := fresh_back s.ex hp
  have ee : Ex H0 (minus H2 (a :: ads ρ)) := ex_minus (s.ex.trans e) fun b hb => by
    rcases List.mem_cons.mp hb with rfl | hb
    · exact h0
    · exact s.no b hb
  refine ⟨minus_ex, fun b hb => minus_in (List.mem_cons_of_mem _ hb), s.nd, s.len, fun i en hi => ?_, s.tmp.mono ee⟩
  obtain ⟨o, ho, hat⟩ := s.at_ i en hi
  refine ⟨o, ho, ?_⟩
  cases en with
  | no => trivial
  | rd d => obtain ⟨v, h1, h2⟩ := hat; exact ⟨v, h1, h2.mono ee⟩
  | ow a ds => obtain ⟨h1, xs, h2, h3⟩ := hat; exact ⟨h1, xs, e _ _ h2, h3.mono ee⟩
  | gh a ds => obtain ⟨xs, h2, h3⟩ := hat; exact ⟨xs, e _ _ h2, h3.mono ee⟩
  | ot a ks => obtain ⟨h1, h2⟩ := hat; exact ⟨h1, e _ _ h2⟩
  | rr a x0 cs l m n => obtain ⟨h1, h2, h3⟩ := hat; exact ⟨h1, e _ _ h2, h3.mono ee⟩
  | od a ds => obtain ⟨h1, xs, h2, h3⟩ := hat; exact ⟨h1, xs, e _ _ h2, h3.mono ee⟩
  | om a rows => obtain ⟨h1, h2, h3⟩ := hat; exact ⟨h1, e _ _ h2, fun r hr => e _ _ (h3 r hr)⟩
  | ra b d => obtain ⟨h1, h2⟩ := hat; exact ⟨h1, h2.mono ee⟩
theorem StI.growEx1 (s : StI K H0 ρ tv td σ H) (e : Ex H H2) (hp : H a = none) : Ex H0 (minus H2 (a :: ads ρ)) := ex_minus (s.ex.trans e) fun b hb => by
  rcases List.mem_cons.mp hb with rfl | hb
  · exact fresh_back s.ex hp
  · exact s.no b hb
theorem keep_minus1 (s : StI K H0 ρ tv td σ H) (e : Ex H H2) {o : HO} (ho : H2 a = some o) (ht : (∃ xs, o = .lst xs) ∨ ∃ xs, o = .dK xs) : ∀ b ys, SqT K H2 b ys → SqT K (minus H2 (a :: ads ρ)) b ys := keep_minus fun b hb => by
  rcases List.mem_cons.mp hb with rfl | hb
  · rcases ht with ⟨xs, rfl⟩ | ⟨xs, rfl⟩
    · exact .inl ⟨xs, ho⟩
    · exact .inr ⟨.inl xs, ho⟩
  · rcases s.held hb with ⟨xs, hx⟩ | ⟨xs, hx⟩
    · exact .inl ⟨xs, e _ _ hx⟩
    · exact .inr ⟨xs, e _ _ hx⟩
/-- name = [..]: owned from here -/
theorem ro_ownL (hi : ∀ e, ρ[i]? = some e → e.ad = []) (he : EvEs K ta (vw ρ) ds) (f : D.tus ds = true) (hz : ds.length ≤ 100000) (k : ∀ a, N (ρ.set i (.ow a ds))) : RO K (tAsg (tLst ta) (gName i)) ρ N R := fun Hs Dn σ H s kn _ => by
  obtain ⟨H0, eh, s0⟩ := s
  refine he σ H s0.env H (Ex.refl _) _ fun vs H2 e2 r => ⟨sz_of (by rw [r.len]; exact hz), fun p hp => ?_⟩
  have hpH : H p = none := fresh_back e2 hp
  have e3 : Ex H (upd H2 p (.lst vs)) := e2.trans (Ex.new hp)
  have s1 := s0.grow1 e3 hpH
  refine kn _ _ _ (k p) ⟨_, eh.trans (s0.growEx1 e3 hpH), s1.new hi rfl (s0.ne_of_fresh e2 hp) (minus_in List.mem_cons_self) ⟨rfl, vs, upd_same, ?_⟩⟩
  exact (r.mono (Ex.new hp)).keepT (keep_minus1 s0 e3 upd_same (.inl ⟨_, rfl⟩)) f
/-- name = a comprehension -/
theorem ro_ownD (hi : ∀ e, ρ[i]? = some e → e.ad = []) (k : ∀ a, N (ρ.set i (.od a []))) : RO K (tAsg tDNewK (gName i)) ρ N R := fun Hs Dn σ H s kn _ => by
  obtain ⟨H0, eh, s0⟩ := s
  intro p hp
  have e3 : Ex H (upd H p (.dK [])) := Ex.new hp
  have s1 := s0.grow1 e3 hp
  exact kn _ _ _ (k p) ⟨_, eh.trans (s0.growEx1 e3 hp), s1.new hi rfl (s0.ne_of_fresh (Ex.refl _) hp) (minus_in List.mem_cons_self) ⟨rfl, [], upd_same, .nil⟩⟩
/-- the owned list is handed out, or read as data from here -/
theorem StI.give (s : StI K H0 ρ tv td σ H) (h : ρ[i]? = some (.ow a ds)) (h1 : ads ρ = [a]) : StI K H (ρ.set i (.rd (.lst ds))) tv td σ H := by
  have hz := (ads_set_sub (ρ := ρ) (i := i) (d := .lst ds))
  have hnil : ads (ρ.set i (.rd (.lst ds))) = [] := by
    clear s hz
    unfold ads at h1 ⊢
    induction ρ generalizing i with
    | nil => simp at h
    | cons x ρ ih => cases i with
      | zero =>
        have : x = .ow a ds := by simpa using h
        subst this
        simpa [En.ad] using h1
      | succ i =>
        have hm : a ∈ ρ.flatMap En.ad := List.mem_flatMap.mpr ⟨_, List.mem_of_getElem? (i := i) (by simpa using h), List.mem_singleton.mpr rfl⟩
        simp only [List.flatMap_cons] at h1
        have hx : x.ad = [] := by
          have hl := congrArg List.length h1
          rw [List.length_append] at hl
          have hp := List.length_pos_of_mem hm
          refine List.eq_nil_of_length_eq_zero ?_
          simp only [List.length_cons, List.length_nil] at hl
          omega
        rw [hx] at h1
        simp only [List.set_cons_succ, List.flatMap_cons, hx, List.nil_append]
        exact ih (by simpa using h) (by simpa using h1)
  refine ⟨Ex.refl _, by rw [hnil]; simp, by rw [hnil]; exact List.nodup_nil, by simp [s.len], fun j en hj => ?_, s.tmp.mono s.ex⟩
  by_cases hij : i = j
  · subst hij
    have hlt : i < ρ.length := (List.getElem?_eq_some_iff.mp h).1
    rw [List.getElem?_set_self hlt] at hj
    cases hj
    obtain ⟨h1, xs, h2, h3⟩ := s.owned h
    exact ⟨_, h1, _, rfl, .lst h2 (h3.mono s.ex)⟩
  · have hj' := hj
    rw [List.getElem?_set_ne hij] at hj
    obtain ⟨o, ho, hat⟩ := s.at_ j en hj
    refine ⟨o, ho, ?_⟩
    have hnot : ∀ b, b ∉ en.ad := fun b hb => by
      have := ads_mem hj' hb
      rw [hnil] at this
      cases this
    cases en with
    | no => trivial
    | rd d => obtain ⟨v, h1, h2⟩ := hat; exact ⟨v, h1, h2.mono s.ex⟩
    | ow b ds => exact absurd (List.mem_singleton.mpr rfl) (hnot b)
    | gh b ds => exact absurd (List.mem_singleton.mpr rfl) (hnot b)
    | ot b ks => exact absurd (List.mem_singleton.mpr rfl) (hnot b)
    | rr b x0 cs l m n => exact absurd (List.mem_singleton.mpr rfl) (hnot b)
    | od b ds => exact absurd (List.mem_singleton.mpr rfl) (hnot b)
    | om b rows => exact absurd List.mem_cons_self (hnot b)
    | ra b d => obtain ⟨h1, h2⟩ := hat; exact ⟨h1, h2.mono s.ex⟩
/-- from here the one owned list is plain data -/
theorem ro_give (h : ρ[i]? = some (.ow a ds)) (h1 : ads ρ = [a]) (k : RO K t (ρ.set i (.rd (.lst ds))) N R) : RO K t ρ N R := fun Hs Dn σ H s kn kr => by
  obtain ⟨H0, eh, s0⟩ := s
  exact k Hs Dn σ H ⟨H, eh.trans s0.ex, s0.give h h1⟩ kn kr
end
end Pa
set_option Elab.async false
set_option linter.all false
set_option maxRecDepth 100000
set_option maxHeartbeats 4000000
namespace Pa
open PySem PySem.Spec PyProof.Rows L2 Evl
section
variable {X : Cx} {K : PySem.W.Frag}
def rMin2 : List V → Hp → VK → Prop := fun xs H Q => ∃ i j, xs = [.int i, .int j] ∧ Q (.int (if j < i then j else i)) H
theorem z_min2 (hc : X.calm = true) : CallR X (.builtin "min") rMin2 := call_min2 hc
theorem z_max2 (hc : X.calm = true) : CallR X (.builtin "max") rMax2 := call_max2 hc
theorem z_isN : OpR X (compareOp .Is) rIsN := op_isN
theorem z_notN : OpR X (compareOp .IsNot) rNotN := op_notN
end
section
variable {K : PySem.W.Frag} {H : Hp} {d : D} {ds : List D} {i j : Int} {v : V}
theorem rc_min2 : RCD K rMin2 [dI i, dI j] H (dI (min i j)) := fun H1 _ vs r Q q => by
  have e : vs = [.int i, .int j] := Rps.raws_inv (ys := [.int i, .int j]) r
  refine ⟨i, j, e, q _ H1 (Ex.refl _) ?_⟩
  have : (if j < i then j else i) = min i j := by split <;> omega
  rw [this]
  exact .raw _
theorem rc_max2 : RCD K rMax2 [dI i, dI j] H (dI (max i j)) := fun H1 _ vs r Q q => by
  have e : vs = [.int i, .int j] := Rps.raws_inv (ys := [.int i, .int j]) r
  refine ⟨i, j, e, q _ H1 (Ex.refl _) ?_⟩
  have : (if j > i then j else i) = max i j := by split <;> omega
  rw [this]
  exact .raw _
theorem rd_isN : RD K rIsN (.raw v) dN H (dB (decide (v = .non))) := fun H1 _ x y hx hy Q q => by
  rw [hx.raw_inv]
  exact ⟨hy.raw_inv, q _ H1 (Ex.refl _) (.raw _)⟩
theorem rd_notN : RD K rNotN (.raw v) dN H (dB (!decide (v = .non))) := fun H1 _ x y hx hy Q q => by
  rw [hx.raw_inv]
  exact ⟨hy.raw_inv, q _ H1 (Ex.refl _) (.raw _)⟩
theorem ref_non {a : Addr} : decide ((V.ref a : V) = .non) = false := by simp
theorem rd_isNt : RD K rIsN (.tup ds) dN H (dB false) := fun H1 _ x y hx hy Q q => by
  obtain ⟨a, xs, rfl, _, _⟩ := hx.tup_inv
  refine ⟨hy.raw_inv, ?_⟩
  rw [ref_non]
  exact q _ H1 (Ex.refl _) (.raw _)
theorem rd_notNt : RD K rNotN (.tup ds) dN H (dB true) := fun H1 _ x y hx hy Q q => by
  obtain ⟨a, xs, rfl, _, _⟩ := hx.tup_inv
  refine ⟨hy.raw_inv, ?_⟩
  rw [ref_non]
  exact q _ H1 (Ex.refl _) (.raw _)
theorem rd_notNl : RD K rNotN (.lst ds) dN H (dB true) := fun H1 _ x y hx hy Q q => by
  obtain ⟨a, xs, rfl, _, _⟩ := hx.lst_inv
  refine ⟨hy.raw_inv, ?_⟩
  rw [ref_non]
  exact q _ H1 (Ex.refl _) (.raw _)
end
/-! ### one of several results -/
section
variable {K : PySem.W.Frag} {ρ ρ' : Enw} {tv : List V} {td : List D} {σ σ' : L2.St} {Hs H0 H H' H1 H2 : Hp} {v : V} {d d' : D} {ds es : List D} {i j n m : Nat} {te tk ti tj : TE} {ta : TA} {e e' : En} {a b : Addr} {rows : List (Addr × List V)}
variable {N N' : Enw → Prop} {R R' : D → Enw → Prop} {t u tz ty : TS}
/-- a promise with a result that the caller does not know, but for P -/
def spP (K : PySem.W.Frag) (pre : List D → Prop) (post : List D → D → Prop) : Sp := fun vs H Q _ => ∃ ds, Rps K H vs ds ∧ pre ds ∧ ∀ d, post ds d → Ret K d H Q
def EvP (K : PySem.W.Frag) (te : TE) (ρ : Env) (P : D → Prop) : Prop := ∀ σ H, EnvD K ρ σ H → ∀ H1, Ex H H1 → ∀ Q : VK, (∀ v H2 d, P d → Ex H1 H2 → Rp K H2 v d → Q v H2) → te σ H1 Q
theorem ep_call {ρ : Env} {pre : List D → Prop} {post : List D → D → Prop} {E : XK} (h : EvEs K ta ρ ds) (hp : pre ds) : EvP K (tCall (spP K pre post) [] E ta) ρ (post ds) := fun σ H e H1 e1 Q q =>
  h σ H e H1 e1 _ fun vs H2 e2 r => ⟨ds, by rw [List.append_nil]; exact r, hp, fun d hd v H3 e3 r3 => q v H3 d hd (e2.trans e3) r3⟩
theorem ep_op {ρ : Env} {r : R2} {tb : TE} {P : D → Prop} {b z : D} (h : EvP K te ρ P) (hb : EvE K tb ρ b) (hr : ∀ d, P d → ∀ H, RD K r d b H z) : EvE K (tOp r te tb) ρ z := fun σ H e H1 e1 Q q =>
  h σ H e H1 e1 _ fun x H2 d hd e2 rx => hb σ H e H2 (e1.trans e2) _ fun y H3 e3 ry => hr d hd H3 H3 (Ex.refl _) x y (rx.mono e3) ry Q fun v H4 e4 r4 => q v H4 ((e2.trans e3).trans e4) r4
/-- a def's text, many results possible -/
theorem ro_funP {N' : List Str} {vs : List V} {Q : VK} {P : D → Prop} (h : RO K t (startE N'.length ds) (fun _ => P dN) (fun d' _ => P d')) (rr : Rps K H vs ds) (q : ∀ d, P d → Ret K d H Q) : t { nx := fun _ H' => Q .non H', rt := Q } (start N' vs) H :=
  h H _ _ H (start_ok rr) (fun ρ' σ' H' e s => q _ e _ _ s.exs (.raw _)) fun v d' ρ' σ' H' e s => q d' e v H' s.exs s.top
theorem spP_len {pre : List D → Prop} {post : List D → D → Prop} {n : Nat} (h : ∀ ds, pre ds → ds.length = n) (vs : List V) (H : Hp) (Q : VK) (E : XK) (hs : spP K pre post vs H Q E) : vs.length = n := by
  obtain ⟨ds, r, hp, _⟩ := hs
  rw [r.len]
  exact h ds hp
/-! ### a matrix that a name owns -/
theorem ads_nd (nd : (ads ρ).Nodup) (h : ρ[i]? = some e) : e.ad.Nodup := by
  unfold ads at nd
  induction ρ generalizing i with
  | nil => simp at h
  | cons x ρ ih =>
    simp only [List.flatMap_cons] at nd
    obtain ⟨n1, n2, n3⟩ := List.nodup_append.mp nd
    cases i with
    | zero =>
      have : x = e := by simpa using h
      subst this
      exact n1
    | succ i => exact ih n2 (by simpa using h)
theorem StI.ownedM (s : StI K H0 ρ tv td σ H) (h : ρ[i]? = some (.om a rows)) : σ[i]? = some (some (.ref a)) ∧ H a = some (.lst (rows.map fun r => .ref r.1)) ∧ ∀ r ∈ rows, H r.1 = some (.lst r.2) := by
  obtain ⟨x, hx, rfl, h1, h2⟩ := s.at_ i _ h
  exact ⟨hx, h1, h2⟩
theorem mem_set_ne {rows : List (Addr × List V)} {m : Nat} {p r : Addr × List V} (hm : rows[m]? = some p) (nd : (rows.map (·.1)).Nodup) (q : List V) (hr : r ∈ rows.set m (p.1, q)) : r = (p.1, q) ∨ (r ∈ rows ∧ r.1 ≠ p.1) := by
  obtain ⟨j, hj⟩ := List.getElem?_of_mem hr
  by_cases hjm : m = j
  · subst hjm
    have hlt : m < rows.length := (List.getElem?_eq_some_iff.mp hm).1
    rw [List.getElem?_set_self hlt] at hj
    exact .inl (Option.some.inj hj).symm
  · rw [List.getElem?_set_ne hjm] at hj
    refine .inr ⟨List.mem_of_getElem? hj, fun e => hjm ?_⟩
    exact nd_ix nd (x := p.1) (by rw [List.getElem?_map, hm]; rfl) (by rw [List.getElem?_map, hj]; simp [e])
/-- x[i][j] = v -/
theorem ro_setM {p : Addr × List V} (h : ρ[n]? = some (.om a rows)) (he : EvE K te (vw ρ) (.raw v)) (hi : EvE K ti (vw ρ) (dI (m : Int))) (hj : EvE K tj (vw ρ) (dI (j : Int))) (hm : rows[m]? = some p) (hl : j < p.2.length) (k : N (ρ.set n (.om a (rows.set m (p.1, p.2.set j v))))) :
    RO K (tAsg te (gSub (tOp (rIx K) (tVar n) ti) tj rSetL)) ρ N R := fun Hs Dn σ H s kn _ => by
  refine s.ev he (.inl rfl) fun v' H2 e2 s2 => ?_
  have ev := s2.topR.symm
  subst ev
  have s2 := s2.pop
  obtain ⟨H3, e3, s3⟩ := id s2
  obtain ⟨hv, hx, hr⟩ := s3.ownedM h
  refine ⟨.ref a, hv, s2.ev hi (.inl rfl) fun w H4 e4 s4 => ?_⟩
  have ew := s4.topR.symm
  subst ew
  have s4 := s4.pop
  obtain ⟨H5, e5, s5⟩ := id s4
  obtain ⟨_, hx4, hr4⟩ := s5.ownedM h
  have hmm : (rows.map fun r => V.ref r.1)[m]? = some (.ref p.1) := by simp [hm]
  refine .inl ⟨a, _, (m : Int), .ref p.1, rfl, rfl, SqL.of hx4, at_of rfl hmm, ?_⟩
  refine s4.ev hj (.inl rfl) fun y H6 e6 s6 => ?_
  have ey := s6.topR.symm
  subst ey
  have s6 := s6.pop
  obtain ⟨H7, e7, s7⟩ := id s6
  obtain ⟨_, hx7, hr7⟩ := s7.ownedM h
  have nd := ads_nd s7.nd h
  have hpm : p ∈ rows := List.mem_of_getElem? hm
  obtain ⟨na, nr⟩ := List.nodup_cons.mp nd
  have hpa : a ≠ p.1 := fun e => na (List.mem_map.mpr ⟨p, hpm, e.symm⟩)
  refine ⟨p.1, p.2, (j : Int), j, rfl, rfl, hr7 p hpm, ixN_nat hl, kn _ _ _ k ⟨H7, e7, ?_⟩⟩
  have hfst : (rows.set m (p.1, p.2.set j v)).map (·.1) = rows.map (·.1) := by
    rw [List.map_set]
    refine List.ext_getElem? fun q => ?_
    by_cases hq : m = q
    · subst hq
      have hlt : m < rows.length := (List.getElem?_eq_some_iff.mp hm).1
      rw [List.getElem?_set_self (by simpa using hlt)]
      simp [hm]
    · rw [List.getElem?_set_ne hq]
  refine s7.mut (e' := .om a (rows.set m (p.1, p.2.set j v))) h (List.mem_cons_of_mem _ (List.mem_map.mpr ⟨p, hpm, rfl⟩)) (by show a :: _ = a :: _; rw [hfst]) fun x hx => ?_
  obtain ⟨h1, h2, h3⟩ := hx
  refine ⟨h1, ?_, fun r hr => ?_⟩
  · rw [upd_ne hpa, h2]
    have e1 := congrArg (List.map V.ref) hfst
    rw [List.map_map, List.map_map] at e1
    exact congrArg (fun z => some (HO.lst z)) e1.symm
  · rcases mem_set_ne hm nr _ hr with rfl | ⟨h4, h5⟩
    · exact upd_same
    · rw [upd_ne h5]; exact h3 r h4
/-- what is owned is handed out, or read as data from here -/
theorem ads_len (h : ρ[i]? = some e) : (ads (ρ.set i (.rd d))).length + e.ad.length = (ads ρ).length := by
  unfold ads
  induction ρ generalizing i with
  | nil => simp at h
  | cons x ρ ih => cases i with
    | zero =>
      have : x = e := by simpa using h
      subst this
      simp only [List.set_cons_zero, List.flatMap_cons, List.length_append, En.ad, List.length_nil]
      omega
    | succ i =>
      have := ih (i := i) (by simpa using h)
      simp only [List.set_cons_succ, List.flatMap_cons, List.length_append]
      omega
theorem StI.give' (s : StI K H0 ρ tv td σ H) (h : ρ[i]? = some e) (hv : e.vw = some d) (h1 : (ads ρ).length = e.ad.length) : StI K H (ρ.set i (.rd d)) tv td σ H := by
  have hnil : ads (ρ.set i (.rd d)) = [] := by
    have := ads_len (d := d) h
    exact List.eq_nil_of_length_eq_zero (by omega)
  refine ⟨Ex.refl _, by rw [hnil]; simp, by rw [hnil]; exact List.nodup_nil, by simp [s.len], fun j en hj => ?_, s.tmp.mono s.ex⟩
  by_cases hij : i = j
  · subst hij
    have hlt : i < ρ.length := (List.getElem?_eq_some_iff.mp h).1
    rw [List.getElem?_set_self hlt] at hj
    cases hj
    obtain ⟨v, h1, h2⟩ := s.env.2 i d (by rw [vw_get h, hv])
    exact ⟨_, h1, _, rfl, h2⟩
  · have hj' := hj
    rw [List.getElem?_set_ne hij] at hj
    obtain ⟨o, ho, hat⟩ := s.at_ j en hj
    refine ⟨o, ho, ?_⟩
    have hnot : ∀ b, b ∉ en.ad := fun b hb => by
      have := ads_mem hj' hb
      rw [hnil] at this
      cases this
    cases en with
    | no => trivial
    | rd d => obtain ⟨v, h1, h2⟩ := hat; exact ⟨v, h1, h2.mono s.ex⟩
    | ow b ds => exact absurd (List.mem_singleton.mpr rfl) (hnot b)
    | gh b ds => exact absurd (List.mem_singleton.mpr rfl) (hnot b)
    | ot b ks => exact absurd (List.mem_singleton.mpr rfl) (hnot b)
    | rr b x0 cs l m n => exact absurd (List.mem_singleton.mpr rfl) (hnot b)
    | od b ds => exact absurd (List.mem_singleton.mpr rfl) (hnot b)
    | om b rows => exact absurd List.mem_cons_self (hnot b)
    | ra b d => obtain ⟨h1, h2⟩ := hat; exact ⟨h1, h2.mono s.ex⟩
theorem ro_give' (h : ρ[i]? = some e) (hv : e.vw = some d) (h1 : (ads ρ).length = e.ad.length) (k : RO K t (ρ.set i (.rd d)) N R) : RO K t ρ N R := fun Hs Dn σ H s kn kr => by
  obtain ⟨H0, eh, s0⟩ := s
  exact k Hs Dn σ H ⟨H, eh.trans s0.ex, s0.give' h hv h1⟩ kn kr
/-- name = [[..] for ..]: a matrix of plain values -/
theorem ro_ownM {wi : TI} {vs : List Nat} {cells : Nat → List V} (hi : ∀ e, ρ[i]? = some e → e.ad = []) (hw : WkE K wi (vw ρ) (rngD n)) (hz : n ≤ 1000) (hj : j ∈ vs)
    (hc : ∀ (m : Nat) σ H, m < n → EnvD K ((wipeE (vw ρ) vs).set j (some (dI (m : Int)))) σ H → EvL te σ H (cells m))
    (k : ∀ a (as : List Addr), as.length = n → N (ρ.set i (.om a ((List.range n).map fun m => (as.getD m 0, cells m))))) : RO K (tAsg (tLc wi (gName j) tYes te vs) (gName i)) ρ N R := fun Hs Dn σ H s kn _ => by
  obtain ⟨H0, eh, s0⟩ := s
  refine hw σ H s0.env H (Ex.refl _) _ fun J H1 e1 jk => ?_
  intro Dl hD
  refine ⟨fun m w H' => w = n - m ∧ m ≤ n ∧ Ex H1 H' ∧ ∃ as : List Addr, as.length = m ∧ H' Dl = some (.lst (as.map V.ref)) ∧ (Dl :: as).Nodup ∧ (∀ b ∈ as, H1 b = none) ∧ ∀ q b, as[q]? = some b → H' b = some (.lst (cells q)),
    ⟨n, by simp, Nat.zero_le _, Ex.new hD, [], rfl, upd_same, by simp, by simp, fun q b hb => by simp at hb⟩, ?_⟩
  rintro m w H2 ⟨rfl, hm, e2, as, hla, hl, nd, hf, hcs⟩
  have hln : (rngD n).length = n := rngD_len
  by_cases hlt : m < n
  · refine .inr ⟨jk.go m H2 e2 (by rw [hln]; exact hlt), fun H' => m + 1 ≤ n ∧ Ex H1 H' ∧ ∃ as : List Addr, as.length = m + 1 ∧ H' Dl = some (.lst (as.map V.ref)) ∧ (Dl :: as).Nodup ∧ (∀ b ∈ as, H1 b = none) ∧ ∀ q b, as[q]? = some b → H' b = some (.lst (cells q)),
      fun H' p' => ⟨n - (m + 1), by omega, rfl, p'⟩, fun x H3 y => ?_⟩
    obtain ⟨d, hd, e3, r3⟩ := jk.yld m H2 x H3 e2 (by rw [hln]; exact hlt) y
    rw [rngD_get hlt] at hd
    cases hd
    refine ⟨by rw [wipe_set hj, wipe_wipe], ?_⟩
    show te _ H3 _
    have E3 : EnvD K ((wipeE (vw ρ) vs).set j (some (dI (m : Int)))) ((L2.wipe σ vs).set j (some x)) H3 := (((s0.env.mono e1).wipe vs).mono (e2.trans e3)).set r3
    refine hc m _ H3 hlt E3 H3 (Ex.refl _) _ fun p H4 hp e4 h4 => ?_
    have e24 : Ex H2 H4 := e3.trans e4
    have e14 : Ex H1 H4 := e2.trans e24
    have hp1 : H1 p = none := fresh_back (e2.trans e3) hp
    have hp2 : H2 p = none := fresh_back e3 hp
    have hpD : p ≠ Dl := fun q => by rw [q] at hp2; rw [hl] at hp2; cases hp2
    have hpas : p ∉ as := fun hm => by
      obtain ⟨q, hq⟩ := List.getElem?_of_mem hm
      have := hcs q p hq
      rw [this] at hp2; cases hp2
    refine ⟨as.map V.ref, e24 Dl _ hl, by rw [List.length_map, hla]; exact sz_lt (by omega), hlt, Ex.mut e14 hD, as ++ [p], by simp [hla], by rw [upd_same]; simp, ?_, fun b hb => ?_, fun q b hb => ?_⟩
    · obtain ⟨n1, n2⟩ := List.nodup_cons.mp nd
      refine List.nodup_cons.mpr ⟨?_, List.nodup_append.mpr ⟨n2, by simp, fun x hx y hy => ?_⟩⟩
      · rw [List.mem_append]
        rintro (h | h)
        · exact n1 h
        · exact hpD (List.mem_singleton.mp h).symm
      · rw [List.mem_singleton.mp hy]
        exact fun q => hpas (q ▸ hx)
    · rcases List.mem_append.mp hb with h | h
      · exact hf b h
      · rw [List.mem_singleton.mp h]; exact hp1
    · by_cases hq : q < as.length
      · rw [List.getElem?_append_left hq] at hb
        have hbD : b ≠ Dl := fun e => (List.nodup_cons.mp nd).1 (e ▸ List.mem_of_getElem? hb)
        rw [upd_ne hbD]
        exact e24 _ _ (hcs q b hb)
      · rw [List.getElem?_append_right (by omega)] at hb
        have hq0 : q - as.length = 0 := by
          cases h : q - as.length with
          | zero => rfl
          | succ z => rw [h] at hb; simp at hb
        rw [hq0] at hb
        have hbp : b = p := by simpa using hb.symm
        subst hbp
        rw [upd_ne hpD, show q = m by omega]
        exact h4
  · have e' : m = n := by omega
    subst e'
    refine .inl ⟨by rw [← hln]; exact jk.stop H2 e2, ?_⟩
    show Dn.nx (σ.set i (some (.ref Dl))) H2
    have e02 : Ex H H2 := e1.trans e2
    let own := Dl :: as
    have hno : ∀ b ∈ own, H b = none := fun b hb => by
      rcases List.mem_cons.mp hb with rfl | hb
      · exact fresh_back e1 hD
      · exact fresh_back e1 (hf b hb)
    have hfr : ∀ b ∈ own, b ∉ ads ρ := fun b hb => s0.ne_of_fresh (Ex.refl _) (hno b hb)
    have hrows : ((List.range m).map fun q => (as.getD q 0, cells q)).map (·.1) = as := by
      refine List.ext_getElem? fun q => ?_
      by_cases hq : q < m
      · simp [hq, hla]
      · simp [hq, hla]
    have ee : Ex H0 (minus H2 (own ++ ads ρ)) := ex_minus (s0.ex.trans e02) fun b hb => by
      rcases List.mem_append.mp hb with h | h
      · exact fresh_back s0.ex (hno b h)
      · exact s0.no b h
    obtain ⟨g1, g2⟩ := ads_new (ρ := ρ) (i := i) (e' := .om Dl ((List.range m).map fun q => (as.getD q 0, cells q))) hi
    have had : (En.om Dl ((List.range m).map fun q => (as.getD q 0, cells q))).ad = own := by
      show Dl :: _ = Dl :: as
      rw [hrows]
    refine kn _ _ _ (k Dl as hla) ⟨minus H2 (own ++ ads ρ), eh.trans ee, ⟨minus_ex, fun b hb => ?_, g2 s0.nd (by rw [had]; exact nd) (by rw [had]; exact hfr), by simp [s0.len], at_set s0.len ⟨rfl, ?_, fun r hr => ?_⟩ fun q en _ hq => ?_, .nil⟩⟩
    · refine minus_in ?_
      rcases g1 b hb with h | h
      · rw [had] at h; exact List.mem_append_left _ h
      · exact List.mem_append_right _ h
    · rw [hl]
      have e1 := congrArg (List.map V.ref) hrows
      rw [List.map_map] at e1
      exact congrArg (fun z => some (HO.lst z)) e1.symm
    · obtain ⟨q, hq, rfl⟩ := List.mem_map.mp hr
      have hq' : q < as.length := by rw [hla]; exact List.mem_range.mp hq
      have : as[q]? = some (as.getD q 0) := by simp [hq']
      exact hcs q _ this
    · obtain ⟨o, ho, hat⟩ := s0.at_ q en hq
      refine ⟨o, ho, ?_⟩
      cases en with
      | no => trivial
      | rd d => obtain ⟨v, h1, h2⟩ := hat; exact ⟨v, h1, h2.mono ee⟩
      | ow a ds => obtain ⟨h1, xs, h2, h3⟩ := hat; exact ⟨h1, xs, e02 _ _ h2, h3.mono ee⟩
      | gh a ds => obtain ⟨xs, h2, h3⟩ := hat; exact ⟨xs, e02 _ _ h2, h3.mono ee⟩
      | ot a ks => obtain ⟨h1, h2⟩ := hat; exact ⟨h1, e02 _ _ h2⟩
      | rr a x0 cs l m n => obtain ⟨h1, h2, h3⟩ := hat; exact ⟨h1, e02 _ _ h2, h3.mono ee⟩
      | od a ds => obtain ⟨h1, xs, h2, h3⟩ := hat; exact ⟨h1, xs, e02 _ _ h2, h3.mono ee⟩
      | om a rows => obtain ⟨h1, h2, h3⟩ := hat; exact ⟨h1, e02 _ _ h2, fun r hr => e02 _ _ (h3 r hr)⟩
      | ra b d => obtain ⟨h1, h2⟩ := hat; exact ⟨h1, h2.mono ee⟩
end
end Pa
set_option Elab.async false
set_option linter.all false
set_option maxRecDepth 100000
set_option maxHeartbeats 4000000
namespace Pa
open PySem PySem.Spec PyProof.Rows L2 Evl
/-- less is known -/
inductive Weak : Enw → Enw → Prop
  | nil : Weak [] []
  | keep {e e' : En} {ρ ρ' : Enw} : e = e' → Weak ρ ρ' → Weak (e :: ρ) (e' :: ρ')
  | drop {e : En} {ρ ρ' : Enw} : Weak ρ ρ' → Weak (e :: ρ) (.no :: ρ')
theorem Weak.refl : ∀ {ρ : Enw}, Weak ρ ρ
  | [] => .nil
  | _ :: _ => .keep rfl Weak.refl
theorem Weak.len : ∀ {ρ ρ' : Enw}, Weak ρ ρ' → ρ.length = ρ'.length
  | _, _, .nil => rfl
  | _, _, .keep _ h => congrArg Nat.succ h.len
  | _, _, .drop h => congrArg Nat.succ h.len
theorem Weak.get : ∀ {ρ ρ' : Enw} {i : Nat} {e : En}, Weak ρ ρ' → ρ'[i]? = some e → e = .no ∧ (∃ e', ρ[i]? = some e') ∨ ρ[i]? = some e
  | _, _, _, _, .nil, h => by simp at h
  | _, _, 0, _, .keep q _, h => by simp at h; subst h; subst q; exact .inr rfl
  | _, _, i + 1, _, .keep _ w, h => by simpa using w.get (i := i) (by simpa using h)
  | _, _, 0, _, .drop _, h => by simp at h; subst h; exact .inl ⟨rfl, _, rfl⟩
  | _, _, i + 1, _, .drop w, h => by simpa using w.get (i := i) (by simpa using h)
theorem Weak.ads : ∀ {ρ ρ' : Enw}, Weak ρ ρ' → (∀ b ∈ ads ρ', b ∈ Pa.ads ρ) ∧ ((Pa.ads ρ).Nodup → (Pa.ads ρ').Nodup)
  | _, _, .nil => ⟨fun _ h => h, fun h => h⟩
  | _, _, .keep (e := e) (ρ := ρ) (ρ' := ρ') q w => by
    subst q
    obtain ⟨h1, h2⟩ := w.ads
    refine ⟨fun b hb => ?_, fun nd => ?_⟩
    · simp only [Pa.ads, List.flatMap_cons, List.mem_append] at hb ⊢
      exact hb.imp id (h1 b)
    · simp only [Pa.ads, List.flatMap_cons] at nd ⊢
      obtain ⟨a1, a2, a3⟩ := List.nodup_append.mp nd
      exact List.nodup_append.mpr ⟨a1, h2 a2, fun x hx y hy => a3 x hx y (h1 y hy)⟩
  | _, _, .drop (e := e) (ρ := ρ) (ρ' := ρ') w => by
    obtain ⟨h1, h2⟩ := w.ads
    refine ⟨fun b hb => ?_, fun nd => ?_⟩
    · simp only [Pa.ads, List.flatMap_cons, List.mem_append, En.ad, List.not_mem_nil, false_or] at hb ⊢
      exact .inr (h1 b hb)
    · simp only [Pa.ads, List.flatMap_cons, En.ad, List.nil_append] at nd ⊢
      exact h2 (List.nodup_append.mp nd).2.1
section
variable {K : PySem.W.Frag} {ρ ρ' ρ1 ρ2 : Enw} {tv : List V} {td : List D} {σ σ' : L2.St} {Hs H0 H H' H1 H2 : Hp} {v : V} {d d' : D} {ds es : List D} {i j n m : Nat} {te tk ti tj : TE} {ta : TA} {e e' : En} {a b : Addr} {wi : TI} {g : TG}
variable {N N' : Enw → Prop} {R R' : D → Enw → Prop} {t u tz ty : TS}
theorem StI.weak (s : StI K H0 ρ tv td σ H) (w : Weak ρ ρ') : StI K H0 ρ' tv td σ H := by
  obtain ⟨h1, h2⟩ := w.ads
  refine ⟨s.ex, fun b hb => s.no b (h1 b hb), h2 s.nd, by rw [s.len, w.len], fun i e he => ?_, s.tmp⟩
  rcases w.get he with ⟨rfl, e', h⟩ | h
  · obtain ⟨o, ho, _⟩ := s.at_ i e' h
    exact ⟨o, ho, trivial⟩
  · exact s.at_ i e h
theorem StO.weak (s : StO K Hs ρ tv td σ H) (w : Weak ρ ρ') : StO K Hs ρ' tv td σ H := let ⟨H0, h, s⟩ := s; ⟨H0, h, s.weak w⟩
theorem ro_weak (w : Weak ρ ρ') (h : RO K t ρ' N R) : RO K t ρ N R := fun Hs Dn σ H s kn kr => h Hs Dn σ H (s.weak w) kn kr
/-- what is known behind it may be weaker -/
theorem RO.fin (h : RO K t ρ (fun ρ1 => Weak ρ1 ρ2) R) : RO K t ρ (fun q => q = ρ2) R := fun Hs Dn σ H s kn kr =>
  h Hs Dn σ H s (fun ρ' σ' H' w s' => kn ρ2 σ' H' rfl (s'.weak w)) kr
/-- THE LOOP, the names known before each turn -/
theorem ro_for (F : Nat → Enw) (h : WO K wi ρ ds) (h0 : Weak ρ (F 0)) (hf : ∀ d ∈ ds, d.tu = true)
    (hs : ∀ i d, ds[i]? = some d → ∃ ρ'', GO K g d (F i) ρ'' ∧ RO K t ρ'' (fun ρ1 => Weak ρ1 (F (i + 1))) R) (hd : N (F ds.length)) : RO K (tFor wi g t) ρ N R :=
  fun Hs Dn σ H s kn kr => ro_forX (N := fun q => Weak q (F ds.length)) h (fun i ρ' => Weak ρ' (F i)) h0 hf (fun i d ρ' hd' w => by
      obtain ⟨ρ'', hg, hb⟩ := hs i d hd'
      exact ⟨ρ'', fun Hs σ H v tv td s Q q => hg Hs σ H v tv td (s.weak w) Q q, hb⟩) (fun ρ' w => w) Hs Dn σ H s (fun ρ' σ' H' e s' => kn _ σ' H' hd (s'.weak e)) kr
/-- .. with something chosen -/
theorem ro_forE {α : Type} (I : Nat → α → Prop) (F : Nat → α → Enw) (h : WO K wi ρ ds) (h0 : ∃ x, I 0 x ∧ Weak ρ (F 0 x)) (hf : ∀ d ∈ ds, d.tu = true)
    (hs : ∀ i d x, ds[i]? = some d → I i x → ∃ ρ'', GO K g d (F i x) ρ'' ∧ RO K t ρ'' (fun ρ1 => ∃ y, I (i + 1) y ∧ Weak ρ1 (F (i + 1) y)) R) (hd : ∀ x, I ds.length x → N (F ds.length x)) : RO K (tFor wi g t) ρ N R :=
  fun Hs Dn σ H s kn kr => ro_forX (N := fun q => ∃ y, I ds.length y ∧ Weak q (F ds.length y)) h (fun i ρ' => ∃ y, I i y ∧ Weak ρ' (F i y)) h0 hf (fun i d ρ' hd' w => by
      obtain ⟨y, hy, w⟩ := w
      obtain ⟨ρ'', hg, hb⟩ := hs i d y hd' hy
      exact ⟨ρ'', fun Hs σ H v tv td s Q q => hg Hs σ H v tv td (s.weak w) Q q, hb⟩) (fun ρ' w => w) Hs Dn σ H s (fun ρ' σ' H' ⟨y, hy, e⟩ s' => kn _ σ' H' (hd y hy) (s'.weak e)) kr
/-! ### walks -/
theorem wo_eT (h : EvE K te (vw ρ) (.tup ds)) (f : Fit ρ (.tup ds)) : WO K (iEnumX K (tCons te tNil)) ρ (enumD ds) := fun Hs σ H s Q q => s.ev h f fun v H2 e2 s2 => by
  obtain ⟨H0, eh, s3, r⟩ := s2.cut
  obtain ⟨a, xs, rfl, hs, rr⟩ := r.tup_inv
  exact ⟨a, xs, rfl, .inr ⟨ex_t s3.exs hs, q _ H0 H2 eh s3 (jok_eT hs rr)⟩⟩
theorem wo_eTv (h : ρ[i]? = some (.rd (.tup ds))) : WO K (iEnumX K (tCons (tVar i) tNil)) ρ (enumD ds) := fun Hs σ H s Q q => s.var h fun v s2 => by
  obtain ⟨H0, eh, s3, r⟩ := s2.cut
  obtain ⟨a, xs, rfl, hs, rr⟩ := r.tup_inv
  exact ⟨a, xs, rfl, .inr ⟨ex_t s3.exs hs, q _ H0 H eh s3 (jok_eT hs rr)⟩⟩
theorem wo_eLv (h : ρ[i]? = some (.rd (.lst ds))) : WO K (iEnumX K (tCons (tVar i) tNil)) ρ (enumD ds) := fun Hs σ H s Q q => s.var h fun v s2 => by
  obtain ⟨H0, eh, s3, r⟩ := s2.cut
  obtain ⟨a, xs, rfl, hs, rr⟩ := r.lst_inv
  exact ⟨a, xs, rfl, .inl ⟨ex_l s3.exs (SqL.of hs), q _ H0 H eh s3 (jok_eL (SqL.of hs) rr)⟩⟩
theorem wo_tv (h : ρ[i]? = some (.rd (.tup ds))) : WO K (iAny K (tVar i)) ρ ds := fun Hs σ H s Q q => .inr (.inl (s.var h fun v s2 => by
  obtain ⟨H0, eh, s3, r⟩ := s2.cut
  obtain ⟨a, xs, rfl, hs, rr⟩ := r.tup_inv
  exact ⟨a, rfl, ⟨xs, ex_t s3.exs hs⟩, q _ H0 H eh s3 (jok_t hs rr)⟩))
/-- zip of a tuple and a list, by name -/
theorem wo_zTLv (h : ρ[i]? = some (.rd (.tup ds))) (h' : ρ[j]? = some (.rd (.lst es))) : WO K (iZipX K (tCons (tVar i) (tCons (tVar j) tNil))) ρ (zipD ds es) := fun Hs σ H s Q q => by
  unfold iZipX tCons
  refine s.var h fun v s2 => ?_
  refine s2.var h' fun v' s3 => ?_
  obtain ⟨H0, eh, s4, r'⟩ := s3.cut
  obtain ⟨H1, e1, s5, r⟩ := s4.cut
  obtain ⟨a, xs, rfl, hs, rr⟩ := r.tup_inv
  obtain ⟨b, ys, rfl, hs', rr'⟩ := (r'.mono e1).lst_inv
  exact ⟨a, b, xs, ys, rfl, .inr (.inr ⟨ex_t s5.exs hs, ex_l s5.exs (SqL.of hs'), q _ H1 H (eh.trans e1) s5 (jok_zTL hs rr (SqL.of hs') rr')⟩)⟩
/-- the loop, at one ground -/
theorem for_at {wi : TI} (h : ∀ σ H, StO K Hs ρ [] [] σ H → ∀ Q, (∀ J H0 H2, Ex Hs H0 → StO K H0 ρ [] [] σ H2 → JOk K J H0 ds → Q J H2) → wi σ H Q) (Pv : Nat → Enw → Prop) (h0 : Pv 0 ρ) (hf : ∀ d ∈ ds, d.tu = true)
    (hs : ∀ i d ρ', ds[i]? = some d → Pv i ρ' → ∃ ρ'', GO K g d ρ' ρ'' ∧ RO K t ρ'' (Pv (i + 1)) R)
    (hd : ∀ ρ', Pv ds.length ρ' → N ρ') (Dn : Ends) (σ : L2.St) (H : Hp) (s : StO K Hs ρ [] [] σ H) (kn : ∀ ρ' σ' H', N ρ' → StO K Hs ρ' [] [] σ' H' → Dn.nx σ' H') (kr : ∀ v d ρ' σ' H', R d ρ' → StO K Hs ρ' [v] [d] σ' H' → Dn.rt v H') : tFor wi g t Dn σ H := by
  refine h σ H s _ fun J H0 H2 eh s2 j => ?_
  refine ⟨fun i m σ H => m = ds.length - i ∧ i ≤ ds.length ∧ ∃ ρ', Pv i ρ' ∧ StO K H0 ρ' [] [] σ H, ⟨ds.length, by simp, Nat.zero_le _, ρ, h0, s2⟩, ?_⟩
  rintro i m σ H ⟨rfl, hi, ρ', p, s3⟩
  by_cases hlt : i < ds.length
  · refine .inr ⟨j.go i H s3.exs hlt, fun σ H => i + 1 ≤ ds.length ∧ ∃ ρ', Pv (i + 1) ρ' ∧ StO K H0 ρ' [] [] σ H, fun σ' H' p' => ⟨ds.length - (i + 1), by omega, rfl, p'⟩, fun x H' y => ?_⟩
    obtain ⟨d, hd', e', r'⟩ := j.yld i H x H' s3.exs hlt y
    obtain ⟨ρ'', hg, hb⟩ := hs i d ρ' hd' p
    obtain ⟨H3, e3, s3⟩ := s3
    have s4 : StO K H0 ρ' [x] [d] σ H' := ⟨_, e3.trans (s3.growEx e'), (s3.grow e').push (s3.fit e' r' (.inl (hf d (List.mem_of_getElem? hd'))))⟩
    refine hg H0 σ H' x [] [] s4 _ fun σ4 H4 s5 => ?_
    exact hb H0 { Dn with nx := _, ct := _, bk := _ } σ4 H4 s5 (fun ρ6 σ6 H6 p6 s6 => ⟨hlt, ρ6, p6, s6⟩) fun v d ρ6 σ6 H6 p6 s6 => kr v d ρ6 σ6 H6 p6 (s6.from eh)
  · have e : i = ds.length := by omega
    subst e
    exact .inl ⟨j.stop H s3.exs, kn ρ' σ H (hd ρ' p) (s3.from eh)⟩
theorem map_get' {α : Type} {f : α → D} {xs : List α} {i : Nat} {d : D} (h : (xs.map f)[i]? = some d) : ∃ x, xs[i]? = some x ∧ d = f x := by
  rw [List.getElem?_map] at h
  cases e : xs[i]? with
  | none => rw [e] at h; cases h
  | some c => rw [e] at h; exact ⟨c, rfl, (Option.some.inj h).symm⟩
/-! ### a dict that is walked: locked -/
theorem jok_k {d : Addr} {o : Obj} {xs : List (Key × V)} {kvs : List (Str × D)} (h : H d = some (.frz o (.dK xs))) (r : Rkv K H xs kvs) : JOk K (Itk d o xs) H (kvs.map fun p => dS p.1) := by
  refine ⟨fun i H' e hi => ⟨e _ _ h, ?_⟩, fun H' e => ⟨e _ _ h, ?_⟩, fun i H' x H'' e hi y => ?_⟩
  · rw [rkv_len r]; simpa using hi
  · rw [rkv_len r]; simp
  · obtain ⟨rfl, k, v, hk, rfl⟩ := y
    have hks := r.keys
    have h1 : (xs.map (·.1))[i]? = some k := by rw [List.getElem?_map, hk]; rfl
    rw [hks, List.getElem?_map, List.getElem?_map] at h1
    have hi' : i < kvs.length := by simpa using hi
    have h2 : kvs[i]? = some kvs[i] := by simp [hi']
    rw [h2] at h1
    have h3 : Sum.inr kvs[i].1 = k := Option.some.inj h1
    subst h3
    exact ⟨_, by rw [List.getElem?_map, h2]; rfl, Ex.refl _, .raw _⟩
/-- all is plain but for d's own name -/
def Tuish (ρ : Enw) (i : Nat) : Prop := ∀ (j : Nat) e, j ≠ i → ρ[j]? = some e → e = .no ∨ ∃ x, e = .rd x ∧ x.tu = true
theorem ro_lock {d : Addr} {kvs : List (Str × D)} (h : ρ[i]? = some (.od d kvs)) (hown : ads ρ = [d]) (ht : ∀ p ∈ kvs, p.2.tu = true) (hw : Tuish ρ2 i) (hl : ρ2[i]? = some (.ra d (.dic kvs)))
    (hb : ∀ o, ∀ Hs (Dn : Ends) σ H, StO K Hs (ρ.set i (.ra d (.dic kvs))) [] [] σ H → (∃ xs, Hs d = some (.frz o (.dK xs)) ∧ Rkv K Hs xs kvs) → (∀ σ' H', StO K Hs ρ2 [] [] σ' H' → Dn.nx σ' H') → t Dn σ H)
    (k : N (ρ2.set i (.od d kvs))) : RO K (tLock t) ρ N R := fun Hs Dn σ H s kn kr => by
  obtain ⟨H0, eh, s0⟩ := s
  obtain ⟨hv, xs, hx, rx⟩ := s0.ownedD h
  have h0d : H0 d = none := s0.no d (by rw [hown]; simp)
  refine ⟨d, .dK xs, hx, trivial, fun o => ?_⟩
  have e0 : Ex H0 (upd H0 d (.frz o (.dK xs))) := Ex.new h0d
  have hlt : i < ρ.length := (List.getElem?_eq_some_iff.mp h).1
  have hads : ads (ρ.set i (.ra d (.dic kvs))) = [] := by
    have e1 : ads (ρ.set i (.ra d (.dic kvs))) = ads (ρ.set i (.rd (.dic kvs))) := by
      have := ads_same (ρ := ρ.set i (.rd (.dic kvs))) (i := i) (e := .rd (.dic kvs)) (e' := .ra d (.dic kvs)) (by rw [List.getElem?_set_self hlt]) rfl
      rw [List.set_set] at this
      exact this
    rw [e1]
    have := ads_len (d := .dic kvs) h
    rw [hown] at this
    simp only [En.ad, List.length_cons, List.length_nil] at this
    exact List.eq_nil_of_length_eq_zero (by omega)
  have s1 : StI K (upd H0 d (.frz o (.dK xs))) (ρ.set i (.ra d (.dic kvs))) [] [] σ (upd H d (.frz o (.dK xs))) := by
    refine ⟨fun a u ha => ?_, by rw [hads]; simp, by rw [hads]; exact List.nodup_nil, by simp [s0.len], fun j en hj => ?_, .nil⟩
    · by_cases had : a = d
      · subst had; rw [upd_same] at ha ⊢; exact ha
      · rw [upd_ne had] at ha ⊢; exact s0.ex a u ha
    · by_cases hij : i = j
      · subst hij
        rw [List.getElem?_set_self hlt] at hj
        cases hj
        exact ⟨_, hv, rfl, .dic (.inr ⟨o, upd_same⟩) (rx.mono e0)⟩
      · have hj0 := hj
        rw [List.getElem?_set_ne hij] at hj
        obtain ⟨u, hu, hat⟩ := s0.at_ j en hj
        refine ⟨u, hu, ?_⟩
        have hnot : ∀ b, b ∉ en.ad := fun b hb => by
          have := ads_mem hj0 hb
          rw [hads] at this
          cases this
        cases en with
        | no => trivial
        | rd x => obtain ⟨v, h1, h2⟩ := hat; exact ⟨v, h1, h2.mono e0⟩
        | ra b x => obtain ⟨h1, h2⟩ := hat; exact ⟨h1, h2.mono e0⟩
        | ow b ds => exact absurd (List.mem_singleton.mpr rfl) (hnot b)
        | gh b ds => exact absurd (List.mem_singleton.mpr rfl) (hnot b)
        | ot b ks => exact absurd (List.mem_singleton.mpr rfl) (hnot b)
        | rr b x0 cs l m n => exact absurd (List.mem_singleton.mpr rfl) (hnot b)
        | od b ds => exact absurd (List.mem_singleton.mpr rfl) (hnot b)
        | om b rows => exact absurd List.mem_cons_self (hnot b)
  refine hb o (upd H0 d (.frz o (.dK xs))) _ σ _ ⟨_, Ex.refl _, s1⟩ ⟨xs, upd_same, rx.mono e0⟩ fun σ' H' s2 => ?_
  obtain ⟨H1, e1, s2⟩ := s2
  have hfr : H' d = some (.frz o (.dK xs)) := s2.ex _ _ (e1 _ _ upd_same)
  refine ⟨hfr, kn _ σ' _ k ?_⟩
  -- the lock is off: H1 without d
  have keep : ∀ b ys, SqT K H1 b ys → SqT K (minus H1 [d]) b ys := fun b ys q => by
    have hd1 : H1 d = some (.frz o (.dK xs)) := e1 _ _ upd_same
    have ne : ∀ u, H1 b = some u → (∀ o xs, u ≠ .frz o (.dK xs)) → minus H1 [d] b = some u := fun u hu hne => by
      rw [minus_out]
      · exact hu
      · intro hm
        rw [List.mem_singleton.mp hm, hd1] at hu
        exact hne o xs (Option.some.inj hu).symm
    rcases q with q | q
    · rcases q with q | ⟨u, q⟩
      · exact .inl (.inl (ne _ q (by intro _ _ z; cases z)))
      · exact .inl (.inr ⟨u, ne _ q (by intro _ _ z; cases z)⟩)
    · exact .inr q
  have hlt2 : i < ρ2.length := (List.getElem?_eq_some_iff.mp hl).1
  have hex0 : Ex H0 (minus H1 [d]) := ex_minus (e0.trans e1) fun b hb => by rw [List.mem_singleton.mp hb]; exact h0d
  have hads2 : ∀ b ∈ ads (ρ2.set i (.od d kvs)), b = d := fun b hb => by
    obtain ⟨e, he, hbe⟩ := List.mem_flatMap.mp hb
    obtain ⟨j, hj⟩ := List.getElem?_of_mem he
    by_cases hij : i = j
    · subst hij
      rw [List.getElem?_set_self hlt2] at hj
      cases hj
      exact List.mem_singleton.mp hbe
    · rw [List.getElem?_set_ne hij] at hj
      rcases hw j e (fun q => hij q.symm) hj with rfl | ⟨x, rfl, _⟩ <;> cases hbe
  refine ⟨minus H1 [d], eh.trans hex0, ⟨fun a u ha => ?_, fun b hb => by rw [hads2 b hb]; exact minus_in (by simp), ?_, by simp [s2.len], fun j en hj => ?_, .nil⟩⟩
  · have had : a ≠ d := fun q => by rw [q, minus_in (by simp)] at ha; cases ha
    rw [upd_ne had]
    exact s2.ex _ _ (minus_ex _ _ ha)
  · have hs := ads_new (ρ := ρ2) (i := i) (e' := .od d kvs) (fun e he => by rw [hl] at he; cases he; rfl)
    refine hs.2 s2.nd (by simp [En.ad]) fun b hb hb2 => ?_
    obtain ⟨e, he, hbe⟩ := List.mem_flatMap.mp hb2
    obtain ⟨j, hj⟩ := List.getElem?_of_mem he
    by_cases hij : i = j
    · subst hij
      rw [hl] at hj
      cases hj
      cases hbe
    · rcases hw j e (fun q => hij q.symm) hj with rfl | ⟨x, rfl, _⟩ <;> cases hbe
  · by_cases hij : i = j
    · subst hij
      rw [List.getElem?_set_self hlt2] at hj
      cases hj
      obtain ⟨u, hu, hat⟩ := s2.at_ i _ hl
      obtain ⟨h1, h2⟩ := hat
      exact ⟨u, hu, h1, xs, upd_same, rx.mono hex0⟩
    · rw [List.getElem?_set_ne hij] at hj
      obtain ⟨u, hu, hat⟩ := s2.at_ j en hj
      refine ⟨u, hu, ?_⟩
      rcases hw j en (fun q => hij q.symm) hj with rfl | ⟨x, rfl, hx⟩
      · trivial
      · obtain ⟨v, h1, h2⟩ := hat
        exact ⟨v, h1, h2.keepT keep hx⟩
/-- for k in d: d, that a name owns, is only read within -/
theorem ro_forK {d : Addr} {kvs : List (Str × D)} (h : ρ[i]? = some (.od d kvs)) (hown : ads ρ = [d]) (ht : ∀ p ∈ kvs, p.2.tu = true) (hw : Tuish ρ i)
    (hs : ∀ p ∈ kvs, ∃ ρ'', GO K g (dS p.1) (ρ.set i (.ra d (.dic kvs))) ρ'' ∧ RO K t ρ'' (fun ρ1 => Weak ρ1 (ρ.set i (.ra d (.dic kvs)))) fun _ _ => False)
    (k : N ρ) : RO K (tLock (tFor (iKeys (tVar i)) g t)) ρ N R := by
  have hlt : i < ρ.length := (List.getElem?_eq_some_iff.mp h).1
  have hback : (ρ.set i (.ra d (.dic kvs))).set i (.od d kvs) = ρ := by
    rw [List.set_set]
    refine List.ext_getElem? fun j => ?_
    by_cases hij : i = j
    · subst hij; rw [List.getElem?_set_self hlt, h]
    · rw [List.getElem?_set_ne hij]
  refine ro_lock (ρ2 := ρ.set i (.ra d (.dic kvs))) h hown ht (fun j e hj he => ?_) (by rw [List.getElem?_set_self hlt]) (fun o Hs Dn σ H s hx kn => ?_) (by rw [hback]; exact k)
  · rw [List.getElem?_set_ne (fun q => hj q.symm)] at he
    exact hw j e hj he
  · obtain ⟨xs, hx, rx⟩ := hx
    refine for_at (N := fun q => Weak q (ρ.set i (.ra d (.dic kvs)))) (R := fun _ _ => False) (ds := kvs.map fun p => dS p.1) (fun σ' H' s' Q q => ?_) (fun _ ρ' => Weak ρ' (ρ.set i (.ra d (.dic kvs)))) Weak.refl (fun d' hd' => ?_) (fun m d' ρ' hd' w => ?_) (fun ρ' w => w) Dn σ H s (fun ρ' σ' H' w s' => kn σ' H' (s'.weak w)) fun _ _ _ _ _ z _ => z.elim
    · obtain ⟨H0, eh, s0⟩ := id s'
      obtain ⟨u, hu, hat⟩ := s0.at_ i (.ra d (.dic kvs)) (by rw [List.getElem?_set_self hlt])
      refine ⟨.ref d, by rw [hu, hat.1], d, o, rfl, .inl ⟨xs, s'.exs _ _ hx, q _ Hs H' (Ex.refl _) s' (jok_k hx rx)⟩⟩
    · obtain ⟨p, _, rfl⟩ := List.mem_map.mp hd'
      rfl
    · obtain ⟨p, hp, rfl⟩ := map_get' hd'
      obtain ⟨ρ'', hg, hb⟩ := hs p (List.mem_of_getElem? hp)
      exact ⟨ρ'', fun Hs σ H v tv td s Q q => hg Hs σ H v tv td (s.weak w) Q q, hb⟩
theorem RO.run {Dn : Ends} (h : RO K t ρ N R) (s : StO K Hs ρ [] [] σ H) (kn : ∀ ρ' σ' H', N ρ' → StO K Hs ρ' [] [] σ' H' → Dn.nx σ' H') (kr : ∀ v d ρ' σ' H', R d ρ' → StO K Hs ρ' [v] [d] σ' H' → Dn.rt v H') : t Dn σ H := h Hs Dn σ H s kn kr
/-- the one owned dict is data from here -/
theorem ro_giveD {d : Addr} {kvs : List (Str × D)} (h : ρ[i]? = some (.od d kvs)) (h1 : ads ρ = [d]) (k : RO K t (ρ.set i (.rd (.dic kvs))) N R) : RO K t ρ N R := ro_give' h rfl (by rw [h1]; rfl) k
end
end Pa
set_option Elab.async false
set_option linter.all false
set_option maxRecDepth 100000
set_option maxHeartbeats 4000000
/-! the parties, in plain Lean -/
namespace Pa
open PySem PySem.Spec PyProof.Rows L2 Evl
structure Row where
  nm : Str
  fst : Int
  lst : Int
  kind : Str
  pat : Int
  waits : List Str
structure Tie where
  one : Str
  oth : Str
  most : Int
structure Party where
  rows : List Row
  ties : List Tie
  closing : Int
def sD (xs : List Str) : List D := xs.map dS
abbrev Row.d (r : Row) : D := .tup [dS r.nm, dI r.fst, dI r.lst, dS r.kind, dI r.pat, .tup (sD r.waits)]
abbrev Tie.d (t : Tie) : D := .tup [dS t.one, dS t.oth, dI t.most]
abbrev rowsD (rs : List Row) : List D := rs.map Row.d
abbrev tiesD (ts : List Tie) : List D := ts.map Tie.d
abbrev Party.d (p : Party) : D := .tup [.tup (rowsD p.rows), .tup (tiesD p.ties), dI p.closing]
abbrev limD (l : Nat × Nat × Int) : D := .tup [dI (l.1 : Int), dI (l.2.1 : Int), dI l.2.2]
theorem sD_len {xs : List Str} : (sD xs).length = xs.length := by simp [sD]
theorem sD_tus {xs : List Str} : D.tus (sD xs) = true := tus_all fun d hd => by
  obtain ⟨x, _, rfl⟩ := List.mem_map.mp hd
  rfl
theorem Row.tu (r : Row) : r.d.tu = true := by simp [D.tu, D.tus, sD_tus]
theorem rowsD_tus {rs : List Row} : D.tus (rowsD rs) = true := tus_all fun d hd => by
  obtain ⟨x, _, rfl⟩ := List.mem_map.mp hd
  exact x.tu
theorem tiesD_tus {rs : List Tie} : D.tus (tiesD rs) = true := tus_all fun d hd => by
  obtain ⟨x, _, rfl⟩ := List.mem_map.mp hd
  rfl
theorem limD_tus {ls : List (Nat × Nat × Int)} : D.tus (ls.map limD) = true := tus_all fun d hd => by
  obtain ⟨x, _, rfl⟩ := List.mem_map.mp hd
  rfl
theorem Party.tu (p : Party) : p.d.tu = true := by simp [D.tu, D.tus, rowsD_tus, tiesD_tus]
theorem map_get {α : Type} {f : α → D} {xs : List α} {i : Nat} {d : D} (h : (xs.map f)[i]? = some d) : ∃ x, xs[i]? = some x ∧ d = f x := by
  rw [List.getElem?_map] at h
  cases e : xs[i]? with
  | none => rw [e] at h; cases h
  | some c => rw [e] at h; exact ⟨c, rfl, (Option.some.inj h).symm⟩
theorem sD_get {xs : List Str} {i : Nat} {d : D} (h : (sD xs)[i]? = some d) : ∃ x, xs[i]? = some x ∧ d = dS x := map_get h
theorem enumD_get' {ds : List D} {i : Nat} {d : D} (h : (enumD ds)[i]? = some d) : ∃ x, ds[i]? = some x ∧ d = .tup [dI (i : Int), x] := by
  have hi : i < ds.length := by
    have := (List.getElem?_eq_some_iff.mp h).1
    rwa [enumD_len] at this
  have h1 := enumD_get (ds := ds) (i := i) (d := ds[i]) (by simp [hi])
  rw [h1] at h
  exact ⟨_, by simp [hi], (Option.some.inj h).symm⟩
theorem enumD_tu {ds : List D} (h : D.tus ds = true) : ∀ d ∈ enumD ds, d.tu = true := fun d hd => by
  obtain ⟨i, hi⟩ := List.getElem?_of_mem hd
  obtain ⟨x, hx, rfl⟩ := enumD_get' hi
  have : ∀ {ds : List D}, D.tus ds = true → ∀ x ∈ ds, x.tu = true := fun {ds} => by
    induction ds with
    | nil => intro _ x hx; cases hx
    | cons d ds ih =>
      intro h x hx
      simp only [D.tus, Bool.and_eq_true] at h
      rcases List.mem_cons.mp hx with rfl | hx
      · exact h.1
      · exact ih h.2 x hx
  simp [D.tu, D.tus, this h x (List.mem_of_getElem? hx)]
/-- the limits of the windows of the first n rows -/
def winL (rows : List Row) (n : Nat) : List (Nat × Nat × Int) := (rows.take n).zipIdx.flatMap fun p => [(p.2 + 1, 0, p.1.lst), (0, p.2 + 1, -p.1.fst)]
theorem winL_succ {rows : List Row} {n : Nat} {r : Row} (h : rows[n]? = some r) : winL rows (n + 1) = winL rows n ++ [(n + 1, 0, r.lst), (0, n + 1, -r.fst)] := by
  have hn : n < rows.length := (List.getElem?_eq_some_iff.mp h).1
  have hr := (List.getElem?_eq_some_iff.mp h).2
  unfold winL
  rw [← List.take_append_getElem hn, List.zipIdx_append, List.flatMap_append]
  have : (rows.take n).length = n := by rw [List.length_take]; omega
  simp [this, hr, Nat.min_eq_left (Nat.le_of_lt hn)]
theorem winL_len {rows : List Row} : ∀ {n : Nat}, n ≤ rows.length → (winL rows n).length = 2 * n
  | 0, _ => rfl
  | n + 1, h => by
    rw [winL_succ (r := rows[n]) (by simp [h]), List.length_append, winL_len (by omega)]
    simp
    omega
end Pa
set_option Elab.async false
set_option linter.all false
set_option maxRecDepth 100000
set_option maxHeartbeats 8000000
namespace Pa
open PySem PySem.Spec PyProof.Rows L2 Evl
section
variable {P : Program} {w : World} {K : PySem.W.Frag} {mg : Str → Option Value} {base : Heap}

/-- a def held by a name, called -/
theorem ee_callH {ρ : Env} {j i : Nat} {f : Addr} {gg : List D → D → Prop} {ta : TA} {ds : List D} {d : D} (hs : ρ[i]? = some (some (.raw (.ref f)))) (c : C8.CalAt P w K mg base j f (spD K gg)) (h : EvEs K ta ρ ds) (hg : gg ds d) :
    EvE K (tCallH P w K mg base j i ta) ρ d := fun σ H e => by
  obtain ⟨v, h1, h2⟩ := e.2 i _ hs
  rw [h2.raw_inv] at h1
  exact dv_callH h1 c (h σ H e) hg
def gTupOf (P : Program) (w : World) (K : PySem.W.Frag) (mg : Str → Option Value) (base : Heap) (j : Nat) : List D → D → Prop := fun ds d => ∃ es f gg, ds = [.tup es, .raw (.ref f)] ∧ C8.CalAt P w K mg base j f (spD K gg) ∧ (∀ e ∈ es, gg [e] (dB true)) ∧ es.length ≤ 1000 ∧ d = dB true
theorem map_true {ds : List D} : ds.map (fun _ => dB true) = (List.replicate ds.length true).map dB := by
  induction ds with
  | nil => rfl
  | cons d ds ih => simp [ih, List.replicate_succ]
theorem rc_allT {H : Hp} {ds : List D} : RCD K (rAll K) [.lst (ds.map fun _ => dB true)] H (dB true) := by
  have h := rc_all (K := K) (H := H) (bs := List.replicate ds.length true)
  rw [← map_true, all_rep] at h
  exact h
def gNms : List D → D → Prop := fun ds d => ∃ xs : List Str, ds = [.tup (sD xs)] ∧ (∀ x ∈ xs, isNm x) ∧ xs.length ≤ 1000 ∧ d = dB true
def Asc (xs : List Str) : Prop := xs.Pairwise fun a b => a.cps.toList < b.cps.toList
def gAsc : List D → D → Prop := fun ds d => ∃ xs : List Str, (ds = [.tup (sD xs)] ∨ ds = [.lst (sD xs)]) ∧ Asc xs ∧ xs.length ≤ 1000 ∧ d = dB true
def gPeople : List D → D → Prop := fun ds d => ∃ xs : List Str, ds = [.tup (sD xs)] ∧ (∀ x ∈ xs, isNm x) ∧ Asc xs ∧ xs.length ≤ 1000 ∧ d = dB true
theorem asc_next {xs : List Str} (h : Asc xs) {i : Nat} {a b : Str} (ha : xs[i]? = some a) (hb : xs[i + 1]? = some b) : a.cps.toList < b.cps.toList := by
  obtain ⟨h1, e1⟩ := List.getElem?_eq_some_iff.mp ha
  obtain ⟨h2, e2⟩ := List.getElem?_eq_some_iff.mp hb
  have := List.pairwise_iff_getElem.mp h i (i + 1) h1 h2 (Nat.lt_succ_self i)
  rw [e1, e2] at this
  exact this
theorem zipD_get' {ds es : List D} {i : Nat} {d : D} (h : (zipD ds es)[i]? = some d) : ∃ a b, ds[i]? = some a ∧ es[i]? = some b ∧ d = .tup [a, b] := by
  unfold zipD at h
  rw [List.getElem?_map] at h
  cases e : (ds.zip es)[i]? with
  | none => rw [e] at h; cases h
  | some p =>
    rw [e] at h
    obtain ⟨h1, h2⟩ := List.getElem?_zip_eq_some.mp e
    exact ⟨_, _, h1, h2, (Option.some.inj h).symm⟩
theorem cut_tail {ds : List D} : cutD ds (some 1) none = ds.drop 1 := by
  unfold cutD HT.sIx
  cases ds with
  | nil => rfl
  | cons d ds =>
    simp

theorem sc_is_tuple_of : FnScope ["thing", "check", "one"] ["thing", "check"] d_is_tuple_of.scope := ⟨rfl, rfl, rfl, by decide +kernel, rfl, by decide +kernel, by decide +kernel⟩
theorem ok_is_tuple_of (j : Nat) (T : Wd K mg base) : C8.Cal P w K mg base (j + 1) "is_tuple_of" (spD K (gTupOf P w K mg base j)) [] := by
  refine cal_of T 3 20 (d := d_is_tuple_of) rfl rfl rfl rfl rfl sc_is_tuple_of (spD_len fun ds d ⟨_, _, _, e, _⟩ => by rw [e]; rfl) (fun _ _ _ _ _ _ us hl => match us, hl with | [_, _], _ => rfl) fun cdv A outer s H vs Q E hr h => ?_
  refine ⟨_, (pss_one (ps_ret (pe_and (pe_callB (z_isi (K := K) rfl) (by rfl) T.g_isinstance (by decide +kernel) (pa_cons (pv 0) (pa_cons (pe_bltn (v := .ty "tuple") (by rfl) T.g_tuple (by decide +kernel) rfl) pa_nil))) (pe_one (pe_callB (z_all (K := K) rfl rfl) (by rfl) T.g_all (by decide +kernel) (pa_cons (pe_lc (own := [("one", 2)]) (by rfl) sc_is_tuple_of.nd (zi_any (K := K) rfl (pv 0)) (blkOk_by (own := [("one", 2)]) (N := ["thing", "check", "one"]) (sc := d_is_tuple_of.scope) (by decide +kernel)) (fun _ _ _ _ _ => (pg_name (i := 2) sc_is_tuple_of.nd rfl (by first | exact Or.inl rfl | exact Or.inr rfl))) (fun _ _ _ _ _ => pts_nil) (fun _ _ _ _ _ => (z_callH (i := 1) (P := P) (w := w) (K := K) (mg := mg) (base := base) rfl rfl rfl rfl rfl hr rfl (by first | exact Or.inl rfl | exact Or.inr (Or.inl rfl) | exact Or.inr (Or.inr rfl)) (pa_cons (pv 2) pa_nil)))) pa_nil)))))), ?_⟩
  obtain ⟨ds, d, rr, ⟨es, f, gg, rfl, hc, hg, hl, rfl⟩, q⟩ := h
  refine ro_fun ?_ rr q
  refine ro_ret ?_ (.inr rfl) rfl
  refine ee_is (ee_and (k := true) (m := true) ?_ fun _ => ?_) rfl
  · (repeat' (first | with_reducible exact ee_c | ((with_reducible apply ee_var); rfl) | with_reducible apply ee_op | with_reducible exact es_nil | with_reducible apply es_cons | with_reducible apply ee_tup | with_reducible apply ee_lst | with_reducible apply ee_cb | with_reducible apply ee_chain | with_reducible apply ee_not | with_reducible apply te_not | with_reducible apply te_test | with_reducible apply te_B | with_reducible exact te_yes | with_reducible apply eo_some | with_reducible exact eo_non | with_reducible exact fun _ => rd_addI | with_reducible exact fun _ => rd_I0 | with_reducible exact fun _ => rd_eqX rfl | with_reducible exact fun _ => rd_neX rfl | with_reducible exact fun _ => rd_ltI | with_reducible exact fun _ => rd_ltS | with_reducible exact fun _ => rd_inC | exact fun _ => rd_ixX (n := 0) rfl rfl | exact fun _ => rd_ixX (n := 1) rfl rfl | exact fun _ => rd_ixX (n := 2) rfl rfl | exact fun _ => rd_ixX (n := 3) rfl rfl | exact fun _ => rd_ixX (n := 4) rfl rfl | exact fun _ => rd_ixX (n := 5) rfl rfl | with_reducible exact fun _ => rc_lenL | with_reducible exact fun _ => rc_lenT | with_reducible exact fun _ => rc_tupL | with_reducible exact fun _ => rc_listT | with_reducible exact fun _ => rc_all | with_reducible exact fun _ => rc_any | exact fun _ => rc_isi (by intro z; cases z) (kit_ty (by decide +kernel)) | with_reducible exact fun _ => rc_min2 | with_reducible exact fun _ => rc_max2 | with_reducible exact fun _ => rd_isN | with_reducible exact fun _ => rd_notN | with_reducible exact fun _ => rd_isNt | with_reducible exact fun _ => rd_notNt | with_reducible exact fun _ => rd_notNl | with_reducible exact wke_t (ee_var rfl) | with_reducible exact wke_l (ee_var rfl) | with_reducible apply ee_call | with_reducible exact ru_neg | with_reducible exact fun _ => ru_neg | with_reducible apply ee_un))
  · refine ee_cb (es_cons (ee_lcN (fun _ => dB true) (wke_t (ee_var rfl)) (by omega) (by simp) (fun _ _ => rfl) fun d hd => ?_) es_nil) fun _ => rc_allT
    exact ee_callH (i := 1) rfl hc (es_cons (ee_var rfl) es_nil) (hg d hd)
theorem sc_are_names : FnScope ["thing"] ["thing"] d_are_names.scope := ⟨rfl, rfl, rfl, by decide +kernel, rfl, by decide +kernel, by decide +kernel⟩
theorem ok_are_names (T : Wd K mg base) : C8.Cal P w K mg base (2 + 1) "are_names" (spD K gNms) [] := by
  refine cal_of T 4 21 (d := d_are_names) rfl rfl rfl rfl rfl sc_are_names (spD_len fun ds d ⟨i, e, _⟩ => by rw [e]; rfl) (fun _ _ _ _ _ _ us hl => match us, hl with | [_], _ => rfl) fun cdv A outer s H vs Q E hr h => ?_
  refine ⟨_, (pss_one (ps_ret (C8.pe_c (ok_is_tuple_of 1 T) hr (by decide) rfl (pa_cons (pv 0) (pa_cons (C8.pe_gc (v := .ref (He.ga K "is_name")) rfl T.k_is_name) pa_nil))))), ?_⟩
  obtain ⟨ds, d, rr, ⟨xs, rfl, hx, hl, rfl⟩, q⟩ := h
  refine ro_fun ?_ rr q
  refine ro_ret ?_ (.inr rfl) rfl
  refine ee_call (es_cons (ee_var rfl) (es_cons ee_c es_nil)) ⟨_, _, _, rfl, at_of_cal (ok_is_name T) (by decide) T.m_is_name, fun e he => ?_, by rw [sD_len]; exact hl, rfl⟩
  obtain ⟨x, hx', rfl⟩ := List.mem_map.mp he
  exact ⟨x, rfl, hx x hx', rfl⟩
theorem sc_is_ascending : FnScope ["values", "one", "other"] ["values"] d_is_ascending.scope := ⟨rfl, rfl, rfl, by decide +kernel, rfl, by decide +kernel, by decide +kernel⟩
theorem ok_is_ascending (T : Wd K mg base) : C8.Cal P w K mg base (0 + 1) "is_ascending" (spD K gAsc) [] := by
  refine cal_of T 5 22 (d := d_is_ascending) rfl rfl rfl rfl rfl sc_is_ascending (spD_len fun ds d ⟨i, e, _⟩ => by rcases e with e | e <;> (rw [e]; rfl)) (fun _ _ _ _ _ _ us hl => match us, hl with | [_], _ => rfl) fun cdv A outer s H vs Q E hr h => ?_
  refine ⟨_, (pss_one (ps_ret (pe_callB (z_all (K := K) rfl rfl) (by rfl) T.g_all (by decide +kernel) (pa_cons (pe_lc (own := [("one", 1), ("other", 2)]) (by rfl) sc_is_ascending.nd (pi_zipX (K := K) rfl (by rfl) T.g_zip (pa_cons (pv 0) (pa_cons (pe_slice (z_sl (K := K) rfl) (pv 0) (po_some pe_int) po_none) pa_nil))) (blkOk_by (own := [("one", 1), ("other", 2)]) (N := ["values", "one", "other"]) (sc := d_is_ascending.scope) (by decide +kernel)) (fun _ _ _ _ _ => (zg_tup (K := K) (n := 2) rfl rfl (pgs_cons (pg_name (i := 1) sc_is_ascending.nd rfl (by first | exact Or.inl rfl | exact Or.inr rfl)) (pgs_cons (pg_name (i := 2) sc_is_ascending.nd rfl (by first | exact Or.inl rfl | exact Or.inr rfl)) pgs_nil)))) (fun _ _ _ _ _ => pts_nil) (fun _ _ _ _ _ => (pe_cmpR (z_lt (K := K) hr.units rfl) (pv 1) (pv 2) (nomark _)))) pa_nil)))), ?_⟩
  obtain ⟨ds, d, rr, ⟨xs, hds, hx, hl, rfl⟩, q⟩ := h
  refine ro_fun ?_ rr q
  have key : ∀ i d, (zipD (sD xs) ((sD xs).drop 1))[i]? = some d → ∃ a b : Str, d = D.tup [dS a, dS b] ∧ a.cps.toList < b.cps.toList := fun i d hd => by
    obtain ⟨a, b, ha, hb, rfl⟩ := zipD_get' hd
    rw [List.getElem?_drop, Nat.add_comm] at hb
    obtain ⟨a', ha', rfl⟩ := sD_get ha
    obtain ⟨b', hb', rfl⟩ := sD_get hb
    exact ⟨a', b', rfl, asc_next hx ha' hb'⟩
  have hw : ∀ ρ ti, WkE K ti ρ (zipD (sD xs) ((sD xs).drop 1)) → ρ = vw (startE 3 ds) → EvE K (tCB (rAll K) (tCons (tLc ti (gTup K 2 (gCons (gName 1) (gCons (gName 2) gNil))) tYes (tOp (rLtX K) (tVar 1) (tVar 2)) [1, 2]) tNil)) ρ (dB true) := fun ρ ti W e => by
    subst e
    refine ee_cb (es_cons (ee_lcM (fun d => match d with | .tup [a, b] => ((wipeE (vw (startE 3 ds)) [1, 2]).set 1 (some a)).set 2 (some b) | _ => []) (fun _ => dB true) W ?_ (js := [1, 2]) (by simp) (fun _ _ => rfl) (fun d hd => ?_) fun d hd => ?_) es_nil) fun _ => rc_allT
    · rw [zipD_len, sD_len]; omega
    · obtain ⟨i, hi⟩ := List.getElem?_of_mem hd
      obtain ⟨a, b, rfl, hab⟩ := key i d hi
      exact ge_tup (ges_cons ge_name (ges_cons ge_name ges_nil)) rfl
    · obtain ⟨i, hi⟩ := List.getElem?_of_mem hd
      obtain ⟨a, b, rfl, hab⟩ := key i d hi
      have v1 : (((wipeE (vw (startE 3 ds)) [1, 2]).set 1 (some (dS a))).set 2 (some (dS b)))[1]? = some (some (dS a)) := by
        rcases hds with e | e <;> (rw [e]; rfl)
      have v2 : (((wipeE (vw (startE 3 ds)) [1, 2]).set 1 (some (dS a))).set 2 (some (dS b)))[2]? = some (some (dS b)) := by
        rcases hds with e | e <;> (rw [e]; rfl)
      exact ee_is (ee_op (ee_var v1) (ee_var v2) fun _ => rd_ltS) (by simp [hab])
  refine ro_ret (hw _ _ ?_ rfl) (.inl rfl) rfl
  rcases hds with e | e
  · subst e
    exact wke_zT (es_cons (ee_var rfl) (es_cons (ee_is (ee_slT (ee_var rfl) (eo_some ee_c) eo_non) (congrArg D.tup cut_tail)) es_nil))
  · subst e
    exact wke_zL (es_cons (ee_var rfl) (es_cons (ee_is (ee_slL (ee_var rfl) (eo_some ee_c) eo_non) (congrArg D.lst cut_tail)) es_nil))
theorem sc_is_people : FnScope ["thing"] ["thing"] d_is_people.scope := ⟨rfl, rfl, rfl, by decide +kernel, rfl, by decide +kernel, by decide +kernel⟩
theorem ok_is_people (T : Wd K mg base) : C8.Cal P w K mg base (3 + 1) "is_people" (spD K gPeople) [] := by
  refine cal_of T 6 23 (d := d_is_people) rfl rfl rfl rfl rfl sc_is_people (spD_len fun ds d ⟨i, e, _⟩ => by rw [e]; rfl) (fun _ _ _ _ _ _ us hl => match us, hl with | [_], _ => rfl) fun cdv A outer s H vs Q E hr h => ?_
  refine ⟨_, (pss_one (ps_ret (pe_and (C8.pe_c (ok_are_names T) hr (by decide) rfl (pa_cons (pv 0) pa_nil)) (pe_one (C8.pe_c (ok_is_ascending T) hr (by decide) rfl (pa_cons (pv 0) pa_nil)))))), ?_⟩
  obtain ⟨ds, d, rr, ⟨xs, rfl, hx, ha, hl, rfl⟩, q⟩ := h
  refine ro_fun ?_ rr q
  refine ro_ret ?_ (.inr rfl) rfl
  refine ee_is (ee_and (k := true) (m := true) ?_ fun _ => ?_) rfl
  · exact ee_call (es_cons (ee_var rfl) es_nil) ⟨xs, rfl, hx, hl, rfl⟩
  · exact ee_call (es_cons (ee_var rfl) es_nil) ⟨xs, .inl rfl, ha, hl, rfl⟩
end
end Pa
set_option Elab.async false
set_option linter.all false
set_option maxRecDepth 100000
set_option maxHeartbeats 8000000
namespace Pa
open PySem PySem.Spec PyProof.Rows L2 Evl
section
variable {P : Program} {w : World} {K : PySem.W.Frag} {mg : Str → Option Value} {base : Heap}

def gWin : List D → D → Prop := fun ds d => ∃ rows : List Row, ds = [.tup (rowsD rows)] ∧ rows.length ≤ 100 ∧ d = .lst ((winL rows rows.length).map limD)

theorem sc_window_limits : FnScope ["rows", "found", "k", "name", "first", "last", "others"] ["rows"] d_window_limits.scope := ⟨rfl, rfl, rfl, by decide +kernel, rfl, by decide +kernel, by decide +kernel⟩
theorem ok_window_limits (T : Wd K mg base) : C8.Cal P w K mg base (0 + 1) "window_limits" (spD K gWin) [] := by
  refine cal_of T 7 24 (d := d_window_limits) rfl rfl rfl rfl rfl sc_window_limits (spD_len fun ds d ⟨_, e, _⟩ => by rw [e]; rfl) (fun _ _ _ _ _ _ us hl => match us, hl with | [_], _ => rfl) fun cdv A outer s H vs Q E hr h => ?_
  refine ⟨_, (pss_cons (ps_set (i := 1) sc_window_limits.nd rfl (by first | exact Or.inl rfl | exact Or.inr rfl) (pe_lst pa_nil))
    (pss_cons (ps_for PassesOwn.never rfl (pi_enumX (K := K) rfl (by rfl) T.g_enumerate (pa_cons (pv 0) pa_nil)) (zg_tup (K := K) (n := 2) rfl rfl (pgs_cons (pg_name (i := 2) sc_window_limits.nd rfl (by first | exact Or.inl rfl | exact Or.inr rfl)) (pgs_cons (zg_star (K := K) (i := 3) rfl rfl (pgs_cons (pg_name (i := 3) sc_window_limits.nd rfl (by first | exact Or.inl rfl | exact Or.inr rfl)) (pgs_cons (pg_name (i := 4) sc_window_limits.nd rfl (by first | exact Or.inl rfl | exact Or.inr rfl)) (pgs_cons (pg_name (i := 5) sc_window_limits.nd rfl (by first | exact Or.inl rfl | exact Or.inr rfl)) (pgs_star (pg_name (i := 6) sc_window_limits.nd rfl (by first | exact Or.inl rfl | exact Or.inr rfl))))))) pgs_nil))) (pss_one (ps_expr (pe_bm PySem.F.plainAttrs_list PySem.F.slot_list_extend PySem.F.type_list_extend mt_extend (pv 1) (pa_cons (pe_lst (pa_cons (pe_tup (pa_cons (pe_op (z_add (K := K) rfl) (pv 2) pe_int) (pa_cons pe_int (pa_cons (pv 5) pa_nil)))) (pa_cons (pe_tup (pa_cons pe_int (pa_cons (pe_op (z_add (K := K) rfl) (pv 2) pe_int) (pa_cons (pe_un un_neg (pv 4)) pa_nil)))) pa_nil))) pa_nil)))))
    (pss_one (ps_ret (pv 1))))), ?_⟩
  obtain ⟨ds, d, rr, ⟨rows, rfl, hl, rfl⟩, q⟩ := h
  refine ro_fun ?_ rr q
  refine ro_seq (fun ρ => ∃ a, ρ = [.rd (.tup (rowsD rows)), .ow a [], .no, .no, .no, .no, .no]) (ro_ownL (fun e he => by cases he; rfl) es_nil rfl (by decide) fun a => ⟨a, rfl⟩) ?_
  rintro _ ⟨a, rfl⟩
  refine ro_s (ro_for (fun n => [.rd (.tup (rowsD rows)), .ow a ((winL rows n).map limD), .no, .no, .no, .no, .no]) (wo_eTv rfl) Weak.refl (enumD_tu rowsD_tus) (fun i d hd => ?_) rfl) ?_
  · obtain ⟨x, hx, rfl⟩ := enumD_get' hd
    obtain ⟨r, hr, rfl⟩ := map_get hx
    have hil := (List.getElem?_eq_some_iff.mp hr).1
    refine ⟨_, go_tup (gos_cons go_name (gos_cons (go_star (gos_cons go_name (gos_cons go_name (gos_cons go_name (gos_cons go_name gos_nil)))) (by decide : 3 ≤ 6)) gos_nil)) rfl, ?_⟩
    refine ro_extend (i := 1) (es := [.tup [dI (i + 1), dI 0, dI r.lst], .tup [dI 0, dI (i + 1), dI (-r.fst)]]) rfl ?_ rfl ?_ ?_
    · (repeat' (first | with_reducible exact ee_c | ((with_reducible apply ee_var); rfl) | with_reducible apply ee_op | with_reducible exact es_nil | with_reducible apply es_cons | with_reducible apply ee_tup | with_reducible apply ee_lst | with_reducible apply ee_cb | with_reducible apply ee_chain | with_reducible apply ee_not | with_reducible apply te_not | with_reducible apply te_test | with_reducible apply te_B | with_reducible exact te_yes | with_reducible apply eo_some | with_reducible exact eo_non | (show List.length _ ≤ 100000; simp; done) | with_reducible exact fun _ => rd_addI | with_reducible exact fun _ => rd_I0 | with_reducible exact fun _ => rd_eqX rfl | with_reducible exact fun _ => rd_neX rfl | with_reducible exact fun _ => rd_ltI | with_reducible exact fun _ => rd_ltS | with_reducible exact fun _ => rd_inC | exact fun _ => rd_ixX (n := 0) rfl rfl | exact fun _ => rd_ixX (n := 1) rfl rfl | exact fun _ => rd_ixX (n := 2) rfl rfl | exact fun _ => rd_ixX (n := 3) rfl rfl | exact fun _ => rd_ixX (n := 4) rfl rfl | exact fun _ => rd_ixX (n := 5) rfl rfl | with_reducible exact fun _ => rc_lenL | with_reducible exact fun _ => rc_lenT | with_reducible exact fun _ => rc_tupL | with_reducible exact fun _ => rc_listT | with_reducible exact fun _ => rc_all | with_reducible exact fun _ => rc_any | exact fun _ => rc_isi (by intro z; cases z) (kit_ty (by decide +kernel)) | with_reducible exact fun _ => rc_min2 | with_reducible exact fun _ => rc_max2 | with_reducible exact fun _ => rd_isN | with_reducible exact fun _ => rd_notN | with_reducible exact fun _ => rd_isNt | with_reducible exact fun _ => rd_notNt | with_reducible exact fun _ => rd_notNl | with_reducible exact wke_t (ee_var rfl) | with_reducible exact wke_l (ee_var rfl) | with_reducible apply ee_call | with_reducible exact ru_neg | with_reducible exact fun _ => ru_neg | with_reducible apply ee_un))
    · rw [List.length_map, winL_len (by omega)]
      simp
      omega
    · rw [winL_succ hr, List.map_append]
      exact .keep rfl (.keep rfl (.drop (.drop (.drop (.drop (.drop .nil))))))
  · rw [enumD_len, List.length_map]
    exact ro_give' (i := 1) rfl rfl rfl (ro_ret (ee_var rfl) (.inr rfl) rfl)
theorem lookup_nodup : ∀ {ps : List (Str × D)} {i : Nat} {k : Str} {d : D}, (ps.map (·.1)).Nodup → ps[i]? = some (k, d) → ps.lookup k = some d
  | [], _, _, _, _, h => by simp at h
  | p :: ps, 0, k, d, _, h => by
    have : p = (k, d) := by simpa using h
    subst this
    simp
  | p :: ps, i + 1, k, d, nd, h => by
    obtain ⟨n1, n2⟩ := List.nodup_cons.mp nd
    have hm : (k, d) ∈ ps := List.mem_of_getElem? (i := i) (by simpa using h)
    have hne : (k == p.1) = false := beq_eq_false_iff_ne.mpr fun e => n1 (List.mem_map.mpr ⟨(k, d), hm, e⟩)
    obtain ⟨p1, p2⟩ := p
    simp only [List.lookup_cons, hne]
    exact lookup_nodup (i := i) n2 (by simpa using h)
/-- the place of a name -/
def idx : List Row → Str → Nat
  | [], _ => 0
  | r :: rs, x => if r.nm = x then 0 else idx rs x + 1
theorem idx_get : ∀ {rows : List Row} {x : Str}, x ∈ rows.map Row.nm → ∃ r, rows[idx rows x]? = some r ∧ r.nm = x
  | [], x, h => by simp at h
  | r :: rs, x, h => by
    by_cases e : r.nm = x
    · exact ⟨r, by simp [idx, e], e⟩
    · have h' : x ∈ rs.map Row.nm := by
        rcases List.mem_cons.mp h with q | q
        · exact absurd q.symm e
        · exact q
      obtain ⟨r', h1, h2⟩ := idx_get h'
      exact ⟨r', by simp [idx, e, h1], h2⟩
def tieL (rows : List Row) (ties : List Tie) : List (Nat × Nat × Int) := ties.map fun t => (idx rows t.one + 1, idx rows t.oth + 1, t.most)
def TiesIn (rows : List Row) (ties : List Tie) : Prop := ∀ t ∈ ties, t.one ∈ rows.map Row.nm ∧ t.oth ∈ rows.map Row.nm
def gTieL : List D → D → Prop := fun ds d => ∃ (rows : List Row) (ties : List Tie), ds = [.tup (rowsD rows), .tup (tiesD ties)] ∧ (rows.map Row.nm).Nodup ∧ TiesIn rows ties ∧ rows.length ≤ 100 ∧ ties.length ≤ 1000 ∧ d = .lst ((tieL rows ties).map limD)
theorem rows_nm {rows : List Row} {i : Nat} {r : Row} (h : rows[i]? = some r) : (rows.map Row.nm).getD i "" = r.nm := by simp [List.getD, h]

theorem sc_tie_limits : FnScope ["rows", "ties", "places", "k", "row", "one", "other", "most"] ["rows", "ties"] d_tie_limits.scope := ⟨rfl, rfl, rfl, by decide +kernel, rfl, by decide +kernel, by decide +kernel⟩
theorem ok_tie_limits (T : Wd K mg base) : C8.Cal P w K mg base (0 + 1) "tie_limits" (spD K gTieL) [] := by
  refine cal_of T 8 25 (d := d_tie_limits) rfl rfl rfl rfl rfl sc_tie_limits (spD_len fun ds d ⟨_, _, e, _⟩ => by rw [e]; rfl) (fun _ _ _ _ _ _ us hl => match us, hl with | [_, _], _ => rfl) fun cdv A outer s H vs Q E hr h => ?_
  refine ⟨_, (pss_cons (ps_set (i := 2) sc_tie_limits.nd rfl (by first | exact Or.inl rfl | exact Or.inr rfl) (pe_dc (own := [("k", 3), ("row", 4)]) (by rfl) sc_tie_limits.nd (pi_enumX (K := K) rfl (by rfl) T.g_enumerate (pa_cons (pv 0) pa_nil)) (blkOk_by (own := [("k", 3), ("row", 4)]) (N := ["rows", "ties", "places", "k", "row", "one", "other", "most"]) (sc := d_tie_limits.scope) (by decide +kernel)) (fun _ _ _ _ _ => (zg_tup (K := K) (n := 2) rfl rfl (pgs_cons (pg_name (i := 3) sc_tie_limits.nd rfl (by first | exact Or.inl rfl | exact Or.inr rfl)) (pgs_cons (pg_name (i := 4) sc_tie_limits.nd rfl (by first | exact Or.inl rfl | exact Or.inr rfl)) pgs_nil)))) (fun _ _ _ _ _ => pts_nil) (fun _ _ _ _ _ => (pe_ix (z_ix (K := K) rfl) (pv 4) pe_int (fun _ _ => rfl))) (fun _ _ _ _ _ => (pe_op (z_add (K := K) rfl) (pv 3) pe_int))))
    (pss_one (ps_ret (pe_lc (own := [("one", 5), ("other", 6), ("most", 7)]) (by rfl) sc_tie_limits.nd (zi_any (K := K) rfl (pv 1)) (blkOk_by (own := [("one", 5), ("other", 6), ("most", 7)]) (N := ["rows", "ties", "places", "k", "row", "one", "other", "most"]) (sc := d_tie_limits.scope) (by decide +kernel)) (fun _ _ _ _ _ => (zg_tup (K := K) (n := 3) rfl rfl (pgs_cons (pg_name (i := 5) sc_tie_limits.nd rfl (by first | exact Or.inl rfl | exact Or.inr rfl)) (pgs_cons (pg_name (i := 6) sc_tie_limits.nd rfl (by first | exact Or.inl rfl | exact Or.inr rfl)) (pgs_cons (pg_name (i := 7) sc_tie_limits.nd rfl (by first | exact Or.inl rfl | exact Or.inr rfl)) pgs_nil))))) (fun _ _ _ _ _ => pts_nil) (fun _ _ _ _ _ => (pe_tup (pa_cons (pe_dget (hu_of hr) (pv 2) (pv 5) (fun _ _ => rfl)) (pa_cons (pe_dget (hu_of hr) (pv 2) (pv 6) (fun _ _ => rfl)) (pa_cons (pv 7) pa_nil))))))))), ?_⟩
  obtain ⟨ds, d, rr, ⟨rows, ties, rfl, nd, hin, hl, ht, rfl⟩, q⟩ := h
  refine ro_fun ?_ rr q
  refine ro_s (ro_set (d := .dic (dcD (fun i => (rows.map Row.nm).getD i "") (fun i => dI ((i : Int) + 1)) (enumD (rowsD rows)).length)) (ee_dc (js := [3, 4]) (fun i => [some (.tup (rowsD rows)), some (.tup (tiesD ties)), none, some (dI (i : Int)), (rowsD rows)[i]?, none, none, none]) _ _ (wke_eT (es_cons (ee_var rfl) es_nil)) ?_ (by simp) (fun _ _ _ => rfl) (fun i d hd => ?_) (fun i d hd => ?_) fun i d hd => ?_) (.inr rfl) rfl) ?_
  · rw [enumD_len, List.length_map]; omega
  · obtain ⟨x, hx, rfl⟩ := enumD_get' hd
    rw [hx]
    exact ge_tup (ges_cons ge_name (ges_cons ge_name ges_nil)) rfl
  · obtain ⟨x, hx, rfl⟩ := enumD_get' hd
    rw [hx]
    obtain ⟨r, hr, rfl⟩ := map_get hx
    rw [rows_nm hr]
    (repeat' (first | with_reducible exact ee_c | ((with_reducible apply ee_var); rfl) | with_reducible apply ee_op | with_reducible exact es_nil | with_reducible apply es_cons | with_reducible apply ee_tup | with_reducible apply ee_lst | with_reducible apply ee_cb | with_reducible apply ee_chain | with_reducible apply ee_not | with_reducible apply te_not | with_reducible apply te_test | with_reducible apply te_B | with_reducible exact te_yes | with_reducible apply eo_some | with_reducible exact eo_non | (show List.length _ ≤ 100000; simp; done) | with_reducible exact fun _ => rd_addI | with_reducible exact fun _ => rd_I0 | with_reducible exact fun _ => rd_eqX rfl | with_reducible exact fun _ => rd_neX rfl | with_reducible exact fun _ => rd_ltI | with_reducible exact fun _ => rd_ltS | with_reducible exact fun _ => rd_inC | exact fun _ => rd_ixX (n := 0) rfl rfl | exact fun _ => rd_ixX (n := 1) rfl rfl | exact fun _ => rd_ixX (n := 2) rfl rfl | exact fun _ => rd_ixX (n := 3) rfl rfl | exact fun _ => rd_ixX (n := 4) rfl rfl | exact fun _ => rd_ixX (n := 5) rfl rfl | with_reducible exact fun _ => rc_lenL | with_reducible exact fun _ => rc_lenT | with_reducible exact fun _ => rc_tupL | with_reducible exact fun _ => rc_listT | with_reducible exact fun _ => rc_all | with_reducible exact fun _ => rc_any | exact fun _ => rc_isi (by intro z; cases z) (kit_ty (by decide +kernel)) | with_reducible exact fun _ => rc_min2 | with_reducible exact fun _ => rc_max2 | with_reducible exact fun _ => rd_isN | with_reducible exact fun _ => rd_notN | with_reducible exact fun _ => rd_isNt | with_reducible exact fun _ => rd_notNt | with_reducible exact fun _ => rd_notNl | with_reducible exact wke_t (ee_var rfl) | with_reducible exact wke_l (ee_var rfl) | with_reducible apply ee_call | with_reducible exact ru_neg | with_reducible exact fun _ => ru_neg | with_reducible apply ee_un))
  · obtain ⟨x, hx, rfl⟩ := enumD_get' hd
    (repeat' (first | with_reducible exact ee_c | ((with_reducible apply ee_var); rfl) | with_reducible apply ee_op | with_reducible exact es_nil | with_reducible apply es_cons | with_reducible apply ee_tup | with_reducible apply ee_lst | with_reducible apply ee_cb | with_reducible apply ee_chain | with_reducible apply ee_not | with_reducible apply te_not | with_reducible apply te_test | with_reducible apply te_B | with_reducible exact te_yes | with_reducible apply eo_some | with_reducible exact eo_non | (show List.length _ ≤ 100000; simp; done) | with_reducible exact fun _ => rd_addI | with_reducible exact fun _ => rd_I0 | with_reducible exact fun _ => rd_eqX rfl | with_reducible exact fun _ => rd_neX rfl | with_reducible exact fun _ => rd_ltI | with_reducible exact fun _ => rd_ltS | with_reducible exact fun _ => rd_inC | exact fun _ => rd_ixX (n := 0) rfl rfl | exact fun _ => rd_ixX (n := 1) rfl rfl | exact fun _ => rd_ixX (n := 2) rfl rfl | exact fun _ => rd_ixX (n := 3) rfl rfl | exact fun _ => rd_ixX (n := 4) rfl rfl | exact fun _ => rd_ixX (n := 5) rfl rfl | with_reducible exact fun _ => rc_lenL | with_reducible exact fun _ => rc_lenT | with_reducible exact fun _ => rc_tupL | with_reducible exact fun _ => rc_listT | with_reducible exact fun _ => rc_all | with_reducible exact fun _ => rc_any | exact fun _ => rc_isi (by intro z; cases z) (kit_ty (by decide +kernel)) | with_reducible exact fun _ => rc_min2 | with_reducible exact fun _ => rc_max2 | with_reducible exact fun _ => rd_isN | with_reducible exact fun _ => rd_notN | with_reducible exact fun _ => rd_isNt | with_reducible exact fun _ => rd_notNt | with_reducible exact fun _ => rd_notNl | with_reducible exact wke_t (ee_var rfl) | with_reducible exact wke_l (ee_var rfl) | with_reducible apply ee_call | with_reducible exact ru_neg | with_reducible exact fun _ => ru_neg | with_reducible apply ee_un))
  refine ro_ret (ee_is (d := .lst (((tiesD ties).map (fun d => match d with | .tup [.raw (.str a), .raw (.str b), c] => D.tup [dI ((idx rows a + 1 : Nat) : Int), dI ((idx rows b + 1 : Nat) : Int), c] | _ => dN))) ) (ee_lcM (js := [5, 6, 7]) (fun d => match d with | .tup [a, b, c] => [some (.tup (rowsD rows)), some (.tup (tiesD ties)), some (.dic (dcD (fun i => (rows.map Row.nm).getD i "") (fun i => dI ((i : Int) + 1)) (enumD (rowsD rows)).length)), none, none, some a, some b, some c] | _ => []) _ (wke_t (ee_var rfl)) ?_ (by simp) (fun d hd => ?_) (fun d hd => ?_) fun d hd => ?_) ?_) (.inr rfl) rfl
  · rw [List.length_map]; omega
  · obtain ⟨t, _, rfl⟩ := List.mem_map.mp hd
    rfl
  · obtain ⟨t, _, rfl⟩ := List.mem_map.mp hd
    exact ge_tup (ges_cons ge_name (ges_cons ge_name (ges_cons ge_name ges_nil))) rfl
  · obtain ⟨t, hm, rfl⟩ := List.mem_map.mp hd
    have look : ∀ x, x ∈ rows.map Row.nm → (dcD (fun i => (rows.map Row.nm).getD i "") (fun i => dI ((i : Int) + 1)) (enumD (rowsD rows)).length).lookup x = some (dI ((idx rows x + 1 : Nat) : Int)) := fun x hx => by
      obtain ⟨r, hr, rfl⟩ := idx_get hx
      have hlt := (List.getElem?_eq_some_iff.mp hr).1
      have hk : ((List.range (enumD (rowsD rows)).length).map fun i => ((rows.map Row.nm).getD i "", dI ((i : Int) + 1))).map (·.1) = rows.map Row.nm := by
        rw [List.map_map, enumD_len, List.length_map]
        refine List.ext_getElem (by simp) fun i h1 h2 => ?_
        have : i < rows.length := by simpa using h2
        simp [this]
      rw [dcD_eq, dicOf_nodup (by rw [hk]; exact nd)]
      refine lookup_nodup (i := idx rows r.nm) (by rw [hk]; exact nd) ?_
      have hlt' : idx rows r.nm < (enumD (rowsD rows)).length := by rw [enumD_len, List.length_map]; exact hlt
      rw [List.getElem?_map, List.getElem?_range hlt']
      simp [hr]
    refine ee_tup (es_cons (ee_dget (ee_var rfl) (ee_var rfl) (look _ (hin t hm).1)) (es_cons (ee_dget (ee_var rfl) (ee_var rfl) (look _ (hin t hm).2)) (es_cons (ee_var rfl) es_nil))) (by simp)
  · unfold tieL tiesD
    rw [List.map_map, List.map_map]
    rfl
/-- a matrix of bounds: what stands at i, j is None, or at least x j - x i; on the diagonal a number -/
structure MOk (n : Nat) (x : Nat → Int) (M : List (Addr × List V)) : Prop where
  len : M.length = n
  row : ∀ (i : Nat) p, M[i]? = some p → p.2.length = n
  cell : ∀ (i : Nat) p (j : Nat) v, M[i]? = some p → p.2[j]? = some v → (v = .non ∧ i ≠ j) ∨ ∃ k : Int, v = .int k ∧ x j - x i ≤ k
theorem MOk.at_ {n : Nat} {x : Nat → Int} {M : List (Addr × List V)} (h : MOk n x M) {i j : Nat} (hi : i < n) (hj : j < n) : ∃ p v, M[i]? = some p ∧ p.2[j]? = some v ∧ j < p.2.length ∧ ((v = .non ∧ i ≠ j) ∨ ∃ k : Int, v = .int k ∧ x j - x i ≤ k) := by
  have hi' : i < M.length := by rw [h.len]; exact hi
  have h1 : M[i]? = some M[i] := by simp [hi']
  have hl := h.row i _ h1
  have hj' : j < M[i].2.length := by rw [hl]; exact hj
  have h2 : M[i].2[j]? = some M[i].2[j] := by simp [hj']
  exact ⟨_, _, h1, h2, hj', h.cell i _ j _ h1 h2⟩
theorem MOk.set {n : Nat} {x : Nat → Int} {M : List (Addr × List V)} (h : MOk n x M) {i j : Nat} {p : Addr × List V} {k : Int} (hp : M[i]? = some p) (hk : x j - x i ≤ k) : MOk n x (M.set i (p.1, p.2.set j (.int k))) := by
  have hi := (List.getElem?_eq_some_iff.mp hp).1
  refine ⟨by rw [List.length_set, h.len], fun a q hq => ?_, fun a q b v hq hv => ?_⟩
  · by_cases ha : i = a
    · subst ha
      rw [List.getElem?_set_self hi] at hq
      cases hq
      rw [List.length_set]
      exact h.row i p hp
    · rw [List.getElem?_set_ne ha] at hq
      exact h.row a q hq
  · by_cases ha : i = a
    · subst ha
      rw [List.getElem?_set_self hi] at hq
      cases hq
      by_cases hb : j = b
      · subst hb
        have hj : j < p.2.length := by
          by_cases hj : j < p.2.length
          · exact hj
          · rw [List.getElem?_eq_none (by simpa using Nat.le_of_not_lt hj)] at hv; cases hv
        rw [List.getElem?_set_self hj] at hv
        cases hv
        exact .inr ⟨k, rfl, hk⟩
      · rw [List.getElem?_set_ne hb] at hv
        exact h.cell i p b v hp hv
    · rw [List.getElem?_set_ne ha] at hq
      exact h.cell a q b v hq hv
abbrev matD (M : List (Addr × List V)) : D := .lst (M.map fun r => .lst (r.2.map .raw))
theorem ee_cell {K : PySem.W.Frag} {ρ : Env} {M : List (Addr × List V)} {ta ti tj : TE} {i j : Nat} {p : Addr × List V} {v : V} (h : EvE K ta ρ (matD M)) (hi : EvE K ti ρ (dI (i : Int))) (hj : EvE K tj ρ (dI (j : Int))) (hp : M[i]? = some p) (hv : p.2[j]? = some v) :
    EvE K (tOp (rIx K) (tOp (rIx K) ta ti) tj) ρ (.raw v) :=
  ee_op (ee_op h hi fun _ => rd_ixXL (d := .lst (p.2.map .raw)) rfl (by rw [List.getElem?_map, hp]; rfl)) hj fun _ => rd_ixXL rfl (by rw [List.getElem?_map, hv]; rfl)
def pShort : List D → Prop := fun ds => ∃ (n : Nat) (L : List (Nat × Nat × Int)) (x : Nat → Int), ds = [dI (n : Int), .lst (L.map limD)] ∧ n ≤ 1000 ∧ ∀ l ∈ L, l.1 < n ∧ l.2.1 < n ∧ x l.1 - x l.2.1 ≤ l.2.2
def qTab : D → Prop := fun d => ∃ T, d = .lst T
theorem rc_anyF {K : PySem.W.Frag} {H : Hp} {ds : List D} : RCD K (rAny K) [.lst (ds.map fun _ => dB false)] H (dB false) := by
  have h := rc_any (K := K) (H := H) (bs := List.replicate ds.length false)
  have e1 : (List.replicate ds.length false).map dB = ds.map fun _ => dB false := by
    simp [List.map_const']
  have e2 : (List.replicate ds.length false).any id = false := by simp
  rw [e1, e2] at h
  exact h

theorem sc_shortest : FnScope ["many", "limits", "table", "after", "before", "most", "known", "middle", "i", "j", "first", "second"] ["many", "limits"] d_shortest.scope := ⟨rfl, rfl, rfl, by decide +kernel, rfl, by decide +kernel, by decide +kernel⟩
theorem ok_shortest (T : Wd K mg base) : C8.Cal P w K mg base (0 + 1) "shortest" (spP K pShort fun _ => qTab) [] := by
  refine cal_of T 9 26 (d := d_shortest) rfl rfl rfl rfl rfl sc_shortest (spP_len fun ds ⟨_, _, _, e, _⟩ => by rw [e]; rfl) (fun _ _ _ _ _ _ us hl => match us, hl with | [_, _], _ => rfl) fun cdv A outer s H vs Q E hr h => ?_
  refine ⟨_, (pss_cons (ps_set (i := 2) sc_shortest.nd rfl (by first | exact Or.inl rfl | exact Or.inr rfl) (pe_lc (own := [("i", 8)]) (by rfl) sc_shortest.nd (pi_range1 (by rfl) T.g_range (pa_cons (pv 0) pa_nil)) (blkOk_by (own := [("i", 8)]) (N := ["many", "limits", "table", "after", "before", "most", "known", "middle", "i", "j", "first", "second"]) (sc := d_shortest.scope) (by decide +kernel)) (fun _ _ _ _ _ => (pg_name (i := 8) sc_shortest.nd rfl (by first | exact Or.inl rfl | exact Or.inr rfl))) (fun _ _ _ _ _ => pts_nil) (fun _ _ _ _ _ => (pe_lc (own := [("j", 9)]) (by rfl) sc_shortest.nd (pi_range1 (by rfl) T.g_range (pa_cons (pv 0) pa_nil)) (blkOk_by (own := [("j", 9)]) (N := ["many", "limits", "table", "after", "before", "most", "known", "middle", "i", "j", "first", "second"]) (sc := _) (by rfl)) (fun _ _ _ _ _ => (pg_name (i := 9) sc_shortest.nd rfl (by first | exact Or.inl rfl | exact Or.inr rfl))) (fun _ _ _ _ _ => pts_nil) (fun _ _ _ _ _ => (pe_ifExp (pt_cmpR (z_eq (K := K) hr.units rfl) (pv 8) (pv 9) (nomark _)) pe_int pe_non))))))
    (pss_cons (ps_for PassesOwn.never rfl (zi_any (K := K) rfl (pv 1)) (zg_tup (K := K) (n := 3) rfl rfl (pgs_cons (pg_name (i := 3) sc_shortest.nd rfl (by first | exact Or.inl rfl | exact Or.inr rfl)) (pgs_cons (pg_name (i := 4) sc_shortest.nd rfl (by first | exact Or.inl rfl | exact Or.inr rfl)) (pgs_cons (pg_name (i := 5) sc_shortest.nd rfl (by first | exact Or.inl rfl | exact Or.inr rfl)) pgs_nil)))) (pss_cons (ps_set (i := 6) sc_shortest.nd rfl (by first | exact Or.inl rfl | exact Or.inr rfl) (pe_ix (z_ix (K := K) rfl) (pe_ix (z_ix (K := K) rfl) (pv 2) (pv 4) (fun _ _ => rfl)) (pv 3) (fun _ _ => rfl)))
    (pss_one (ps_asg (pe_ifExp (pt_cmpR z_isN (pv 6) pe_non (nomark _)) (pv 5) (pe_callB (z_min2 rfl) (by rfl) T.g_min (by decide +kernel) (pa_cons (pv 6) (pa_cons (pv 5) pa_nil)))) (pg_sub (pe_ix (z_ix (K := K) rfl) (pv 2) (pv 4) (fun _ _ => rfl)) (pv 3) set_list)))))
    (pss_cons (ps_for PassesOwn.never rfl (pi_range1 (by rfl) T.g_range (pa_cons (pv 0) pa_nil)) (pg_name (i := 7) sc_shortest.nd rfl (by first | exact Or.inl rfl | exact Or.inr rfl)) (pss_one (ps_for PassesOwn.never rfl (pi_range1 (by rfl) T.g_range (pa_cons (pv 0) pa_nil)) (pg_name (i := 8) sc_shortest.nd rfl (by first | exact Or.inl rfl | exact Or.inr rfl)) (pss_one (ps_for PassesOwn.never rfl (pi_range1 (by rfl) T.g_range (pa_cons (pv 0) pa_nil)) (pg_name (i := 9) sc_shortest.nd rfl (by first | exact Or.inl rfl | exact Or.inr rfl)) (pss_cons (ps_par (i := 10) (j := 11) (by rfl) sc_shortest.nd rfl rfl (by decide) rfl rfl (pa_cons (pe_ix (z_ix (K := K) rfl) (pe_ix (z_ix (K := K) rfl) (pv 2) (pv 8) (fun _ _ => rfl)) (pv 7) (fun _ _ => rfl)) (pa_cons (pe_ix (z_ix (K := K) rfl) (pe_ix (z_ix (K := K) rfl) (pv 2) (pv 7) (fun _ _ => rfl)) (pv 9) (fun _ _ => rfl)) pa_nil)) (by rfl))
    (pss_one (ps_if (PW.pt (pw_and (pt_cmpR z_notN (pv 10) pe_non (nomark _)) (pw_and1 (pt_cmpR z_notN (pv 11) pe_non (nomark _))))) (pss_cons (ps_set (i := 6) sc_shortest.nd rfl (by first | exact Or.inl rfl | exact Or.inr rfl) (pe_ix (z_ix (K := K) rfl) (pe_ix (z_ix (K := K) rfl) (pv 2) (pv 8) (fun _ _ => rfl)) (pv 9) (fun _ _ => rfl)))
    (pss_one (ps_asg (pe_ifExp (pt_cmpR z_isN (pv 6) pe_non (nomark _)) (pe_op (z_add (K := K) rfl) (pv 10) (pv 11)) (pe_callB (z_min2 rfl) (by rfl) T.g_min (by decide +kernel) (pa_cons (pv 6) (pa_cons (pe_op (z_add (K := K) rfl) (pv 10) (pv 11)) pa_nil)))) (pg_sub (pe_ix (z_ix (K := K) rfl) (pv 2) (pv 8) (fun _ _ => rfl)) (pv 9) set_list)))) pss_nil))))))))
    (pss_one (ps_ret (pe_ifExp (pt_val (pe_callB (z_anyF (K := K) rfl rfl) (by rfl) T.g_any (by decide +kernel) (pa_cons (pe_lc (own := [("i", 8)]) (by rfl) sc_shortest.nd (pi_range1 (by rfl) T.g_range (pa_cons (pv 0) pa_nil)) (blkOk_by (own := [("i", 8)]) (N := ["many", "limits", "table", "after", "before", "most", "known", "middle", "i", "j", "first", "second"]) (sc := d_shortest.scope) (by decide +kernel)) (fun _ _ _ _ _ => (pg_name (i := 8) sc_shortest.nd rfl (by first | exact Or.inl rfl | exact Or.inr rfl))) (fun _ _ _ _ _ => pts_nil) (fun _ _ _ _ _ => (pe_cmpR (z_lt (K := K) hr.units rfl) (pe_ix (z_ix (K := K) rfl) (pe_ix (z_ix (K := K) rfl) (pv 2) (pv 8) (fun _ _ => rfl)) (pv 8) (fun _ _ => rfl)) pe_int (nomark _)))) pa_nil))) pe_non (pv 2))))))), ?_⟩
  obtain ⟨ds, rr, ⟨n, L, x, rfl, hn, hL⟩, q⟩ := h
  refine ro_funP ?_ rr q
  let B : List (Addr × List V) → Addr → Enw := fun M a => [.rd (dI (n : Int)), .rd (.lst (L.map limD)), .om a M, .no, .no, .no, .no, .no, .no, .no, .no, .no]
  refine ro_seq (fun ρ => ∃ (a : Addr) (M : List (Addr × List V)), MOk n x M ∧ ρ = B M a) (ro_ownM (n := n) (cells := fun i => given n (fun _ => true) fun j => if i = j then .int 0 else .non) (fun e he => by cases he; rfl) (wke_r (n := (n : Int)) (es_cons (ee_var rfl) es_nil) (by omega)) hn (by simp) (fun m σ H hm E => ?_) fun a as hla => ⟨a, _, ?_, rfl⟩) ?_
  · refine el_lcR1 (n := (n : Int)) _ _ (fun H1 e1 Q q => ?_) (by omega) (fun y => by rw [wipe_set (by simp), wipe_wipe]) (fun j H1 e1 hj => et_is (yes_ok) rfl) fun j H1 e1 hj _ => ?_
    · refine (es_cons (ee_var (i := 0) (d := dI (n : Int)) rfl) es_nil) σ H E H1 e1 _ fun vs H2 e2 r => ?_
      rw [Rps.raws_inv (ys := [.int (n : Int)]) r]
      exact q H2 e2
    · have E2 : EnvD K ((wipeE ((wipeE (vw (startE 12 [dI (n : Int), .lst (L.map limD)])) [8]).set 8 (some (dI (m : Int)))) [9]).set 9 (some (dI (j : Int)))) ((L2.wipe σ [9]).set 9 (some (.int (j : Int)))) H1 := ((E.mono e1).wipe [9]).set (.raw _)
      by_cases hmj : m = j
      · subst hmj
        exact (ee_is (ee_if (d := dI 0) (te_test (ee_op (ee_var (i := 8) rfl) (ee_var (i := 9) rfl) fun _ => rd_eqX rfl)) (fun _ => ee_c) (fun h => by simp at h)) (by simp) _ _ E2).val
      · exact (ee_is (ee_if (d := dN) (te_test (ee_op (ee_var (i := 8) rfl) (ee_var (i := 9) rfl) fun _ => rd_eqX rfl)) (fun h => by simp at h; omega) (fun _ => ee_c)) (by simp [hmj]) _ _ E2).val
  · have hg : ∀ i, (given n (fun _ => true) fun j => if i = j then (.int 0 : V) else .non) = (List.range n).map fun j => if i = j then .int 0 else .non := fun i => by
      unfold given
      rw [List.filter_eq_self.mpr fun _ _ => rfl]
    refine ⟨by simp, fun i p hp => ?_, fun i p j v hp hv => ?_⟩
    · obtain ⟨h1, h2⟩ := List.getElem?_eq_some_iff.mp hp
      rw [← h2]
      simp [hg]
    · obtain ⟨h1, h2⟩ := List.getElem?_eq_some_iff.mp hp
      rw [← h2] at hv
      simp only [List.getElem_map, List.getElem_range, hg] at hv
      obtain ⟨h3, h4⟩ := List.getElem?_eq_some_iff.mp hv
      simp at h4
      by_cases hij : i = j
      · subst hij
        rw [if_pos rfl] at h4
        exact .inr ⟨0, h4.symm, by omega⟩
      · rw [if_neg hij] at h4
        exact .inl ⟨h4.symm, hij⟩
  rintro _ ⟨a, M, hM, rfl⟩
  refine ro_seq (fun ρ => ∃ M, MOk n x M ∧ ρ = B M a) (ro_forE (fun _ M => MOk n x M) (fun _ M => B M a) (wo_lv rfl) ⟨M, hM, Weak.refl⟩ (fun d hd => ?_) (fun i d M hd hM => ?_) fun M hM => ⟨M, hM, rfl⟩) ?_
  · obtain ⟨l, _, rfl⟩ := List.mem_map.mp hd
    rfl
  · obtain ⟨l, hl, rfl⟩ := map_get hd
    obtain ⟨h1, h2, h3⟩ := hL l (List.mem_of_getElem? hl)
    obtain ⟨p, v, hp, hv, hlt, hc⟩ := hM.at_ h2 h1
    refine ⟨_, go_tup (gos_cons go_name (gos_cons go_name (gos_cons go_name gos_nil))) rfl, ?_⟩
    refine ro_s (ro_set (ee_cell (M := M) (ee_var rfl) (ee_var rfl) (ee_var rfl) hp hv) (.inl rfl) rfl) ?_
    rcases hc with ⟨rfl, _⟩ | ⟨k, rfl, hk⟩
    · refine ro_setM (v := .int l.2.2) rfl (ee_if (te_test (ee_op (ee_var rfl) ee_c fun _ => rd_isN)) (fun _ => ee_var rfl) fun h => by simp at h) (ee_var rfl) (ee_var rfl) hp hlt ⟨_, hM.set hp h3, ?_⟩
      exact .keep rfl (.keep rfl (.keep rfl (.drop (.drop (.drop (.drop (.drop (.drop (.drop (.drop (.drop .nil)))))))))))
    · refine ro_setM (v := .int (min k l.2.2)) rfl (ee_if (te_test (ee_op (ee_var rfl) ee_c fun _ => rd_isN)) (fun h => by simp at h) fun _ => ee_cb (es_cons (ee_var rfl) (es_cons (ee_var rfl) es_nil)) fun _ => rc_min2) (ee_var rfl) (ee_var rfl) hp hlt ⟨_, hM.set (j := l.1) (k := min k l.2.2) hp (by omega), ?_⟩
      exact .keep rfl (.keep rfl (.keep rfl (.drop (.drop (.drop (.drop (.drop (.drop (.drop (.drop (.drop .nil)))))))))))
  rintro _ ⟨M, hM, rfl⟩
  have rtu : ∀ d ∈ rngD ((n : Int)).toNat, d.tu = true := fun d hd => by
    obtain ⟨i, _, rfl⟩ := List.mem_map.mp hd
    rfl
  have rget : ∀ {i : Nat} {d : D}, (rngD ((n : Int)).toNat)[i]? = some d → i < n ∧ d = dI (i : Int) := fun {i d} h => by
    have hi := (List.getElem?_eq_some_iff.mp h).1
    rw [rngD_len] at hi
    rw [rngD_get hi] at h
    exact ⟨by simpa using hi, (Option.some.inj h).symm⟩
  have hn0 : (0 : Int) ≤ (n : Int) ∧ (n : Int) ≤ 100000 := by omega
  refine ro_seq (fun ρ => ∃ M, MOk n x M ∧ ρ = B M a) (ro_forE (fun _ M => MOk n x M) (fun _ M => B M a) (wo_rng (es_cons (ee_var rfl) es_nil) hn0) ⟨M, hM, Weak.refl⟩ rtu (fun mi d M hd hM => ?_) fun M hM => ⟨M, hM, rfl⟩) ?_
  · obtain ⟨hmi, rfl⟩ := rget hd
    refine ⟨_, go_name, ro_forE (fun _ M => MOk n x M) (fun _ M => (B M a).set 7 (.rd (dI (mi : Int)))) (wo_rng (es_cons (ee_var rfl) es_nil) hn0) ⟨M, hM, Weak.refl⟩ rtu (fun i d M hd hM => ?_) fun M hM => ⟨M, hM, .keep rfl (.keep rfl (.keep rfl (.drop (.drop (.drop (.drop (.drop (.drop (.drop (.drop (.drop .nil)))))))))))⟩⟩
    obtain ⟨hi, rfl⟩ := rget hd
    refine ⟨_, go_name, ro_forE (fun _ M => MOk n x M) (fun _ M => ((B M a).set 7 (.rd (dI (mi : Int)))).set 8 (.rd (dI (i : Int)))) (wo_rng (es_cons (ee_var rfl) es_nil) hn0) ⟨M, hM, Weak.refl⟩ rtu (fun j d M hd hM => ?_) fun M hM => ⟨M, hM, .keep rfl (.keep rfl (.keep rfl (.drop (.drop (.drop (.drop (.keep rfl (.drop (.drop (.drop (.drop .nil)))))))))))⟩⟩
    obtain ⟨hj, rfl⟩ := rget hd
    have fin : ∀ {ρ1 : Enw} {M : List (Addr × List V)}, ρ1 = (.rd (dI (n : Int)) :: .rd (.lst (L.map limD)) :: .om a M :: ρ1.drop 3) → True := fun _ => trivial
    obtain ⟨p1, v1, hp1, hv1, hl1, hc1⟩ := hM.at_ hi hmi
    obtain ⟨p2, v2, hp2, hv2, hl2, hc2⟩ := hM.at_ hmi hj
    obtain ⟨p3, v3, hp3, hv3, hl3, hc3⟩ := hM.at_ hi hj
    have wk0 : ∀ (e9 e10 e11 e6 : En) (M' : List (Addr × List V)), Weak [.rd (dI (n : Int)), .rd (.lst (L.map limD)), .om a M', .no, .no, .no, e6, .rd (dI (mi : Int)), .rd (dI (i : Int)), e9, e10, e11] (((B M' a).set 7 (.rd (dI (mi : Int)))).set 8 (.rd (dI (i : Int)))) := fun _ _ _ _ _ =>
      .keep rfl (.keep rfl (.keep rfl (.drop (.drop (.drop (.drop (.keep rfl (.keep rfl (.drop (.drop (.drop .nil)))))))))))
    refine ⟨_, go_name, ro_s (ro_par (ee_cell (M := M) (ee_var rfl) (ee_var rfl) (ee_var rfl) hp1 hv1) (.inl rfl) (ee_cell (M := M) (ee_var rfl) (ee_var rfl) (ee_var rfl) hp2 hv2) (.inl rfl) rfl) ?_⟩
    rcases hc1 with ⟨rfl, _⟩ | ⟨k1, rfl, hk1⟩
    · refine ro_ifF (te_is (te_and (te_test (ee_op (ee_var rfl) ee_c fun _ => rd_notN)) (m := true) (fun h => by simp at h)) (by simp)) (ro_next ⟨M, hM, wk0 _ _ _ _ _⟩)
    rcases hc2 with ⟨rfl, _⟩ | ⟨k2, rfl, hk2⟩
    · refine ro_ifF (te_is (te_and (te_test (ee_op (ee_var rfl) ee_c fun _ => rd_notN)) fun _ => te_test (ee_op (ee_var rfl) ee_c fun _ => rd_notN)) (by simp)) (ro_next ⟨M, hM, wk0 _ _ _ _ _⟩)
    refine ro_ifT (te_is (te_and (te_test (ee_op (ee_var rfl) ee_c fun _ => rd_notN)) fun _ => te_test (ee_op (ee_var rfl) ee_c fun _ => rd_notN)) (by simp)) ?_
    refine ro_s (ro_set (ee_cell (M := M) (ee_var rfl) (ee_var rfl) (ee_var rfl) hp3 hv3) (.inl rfl) rfl) ?_
    rcases hc3 with ⟨rfl, _⟩ | ⟨k3, rfl, hk3⟩
    · refine ro_setM (v := .int (k1 + k2)) rfl (ee_if (te_test (ee_op (ee_var rfl) ee_c fun _ => rd_isN)) (fun _ => ee_op (ee_var rfl) (ee_var rfl) fun _ => rd_addI) fun h => by simp at h) (ee_var rfl) (ee_var rfl) hp3 hl3 ⟨_, hM.set (j := j) (k := k1 + k2) hp3 (by omega), ?_⟩
      exact wk0 _ _ _ _ _
    · refine ro_setM (v := .int (min k3 (k1 + k2))) rfl (ee_if (te_test (ee_op (ee_var rfl) ee_c fun _ => rd_isN)) (fun h => by simp at h) fun _ => ee_cb (es_cons (ee_var rfl) (es_cons (ee_op (ee_var rfl) (ee_var rfl) fun _ => rd_addI) es_nil)) fun _ => rc_min2) (ee_var rfl) (ee_var rfl) hp3 hl3 ⟨_, hM.set (j := j) (k := min k3 (k1 + k2)) hp3 (by omega), ?_⟩
      exact wk0 _ _ _ _ _
  rintro _ ⟨M, hM, rfl⟩
  refine ro_give' (i := 2) (d := matD M) rfl rfl (by simp [B, ads, En.ad]) ?_
  refine ro_ret (d := matD M) (ee_if (te_B (k := false) (ee_cb (es_cons (ee_lcN (fun _ => dB false) (wke_r (es_cons (ee_var rfl) es_nil) hn0) ?_ (by simp) (fun _ _ => rfl) fun d hd => ?_) es_nil) fun _ => rc_anyF)) (fun h => by cases h) fun _ => ee_var rfl) (.inr ?_) ⟨_, rfl⟩
  · rw [rngD_len]; omega
  · obtain ⟨i, hi⟩ := List.getElem?_of_mem hd
    obtain ⟨hi', rfl⟩ := rget hi
    obtain ⟨p, v, hp, hv, hlt, hc⟩ := hM.at_ hi' hi'
    rcases hc with ⟨rfl, h⟩ | ⟨k, rfl, hk⟩
    · exact absurd rfl h
    · exact ee_is (ee_op (ee_cell (M := M) (ee_var rfl) (ee_var rfl) (ee_var rfl) hp hv) ee_c fun _ => rd_ltI) (by simp; omega)
  · rfl
end
end Pa
set_option Elab.async false
set_option linter.all false
set_option maxRecDepth 100000
set_option maxHeartbeats 4000000
/-! defs with defaults; the tuples of the module -/
namespace Pa
open PySem PySem.Spec PyProof.Rows L2 Evl
section
variable {P : Program} {w : World} {K : PySem.W.Frag} {mg : Str → Option Value} {base : Heap}
/-- THE RULE for a def whose last arguments stand by their defaults -/
theorem cal_ofD (T : Wd K mg base) (i j : Nat) {d : He.DefD} {x : Str} {N ps : List Str} {k : Nat} {sp : Sp} (n : Nat) (dvs : List V) (hd : fn[i]? = some d) (hx : fa[j]? = some (.glo x)) (ha : d.at_ = (x, none)) (h0 : d.dvs K = dvs) (hne : dvs ≠ []) (h1 : d.kwd = []) (hn : n + dvs.length = ps.length)
    (S : FnScope N ps d.scope) (len : ∀ vs H Q E, sp vs H Q E → vs.length = ps.length)
    (hb : ∀ (T : Addr) (kV doc pm : Value) (an : Option Addr) (cdv ct : Value) (us its : List Value), us.length = n → its.length = dvs.length →
      ∃ k, bindArgs (PySem.W.fnOf d.name d.qual d.params d.body d.scope (.ref T) kV doc pm an cdv ct) ⟨us, []⟩ = seqItems? (.ref T) >>= k ∧ k (some its.toArray) = pure (ps.zip (us ++ its.drop 0)))
    (hbody : ∀ (cdv : Value) (A : Around) (outer : List PySem.Env) (s : Shared) (H : Hp) (vs : List V) (Q : VK) (E : XK), Room k (A.deeper (envOfC d.qual d.scope s.heap.objs.size (He.ga K x) cdv)) → sp vs H Q E →
      ∃ t, PSs (cxOf CX0 P w K mg base N d.qual d.scope (He.ga K x) cdv A outer s H E).nox d.body t ∧ t { nx := fun _ H' => Q .non H', rt := Q } (start N vs) H) : C8.Cal P w K mg base (k + 1) x sp dvs := by
  obtain ⟨fd, F⟩ := T.d.def_ i hd
  have e1 : d.kws K = [] := by unfold He.DefD.kws; rw [h1]; rfl
  have ea : He.fAd K d.at_ = He.ga K x := by rw [ha]; rfl
  rw [h0, e1, ea] at F
  obtain ⟨ds, hv, b⟩ := F.binds1 (ps := ps) n 0 hne (by rw [Nat.sub_zero]; exact hn) hb
  rw [List.drop_zero] at hv
  refine ⟨He.ga K x, fd, ps, ds, F.ok S len (fun cdv A outer s H vs Q E hr h => ?_), T.glo j hx, F.kp, b, hv⟩
  obtain ⟨t, ht, q⟩ := hbody cdv A outer s H vs Q E hr h
  exact ⟨t, ht.nox, q⟩
/-- what the head tells besides -/
theorem Wd.exs (T : Wd K mg base) : ((fc.all fun d => d.ok K && cloB K (He.fAd K d.at_) (He.ga K d.at_.1) && fileB K (He.fAd K d.at_) PySem.Challenge.pw_patience_k15_whole_renamed_and_later_par.main.file) = true) ∧
  ((supB K "Waiter" "Waiter" "__init__" "Visitor" && supB K "Waiter" "Waiter" "prolongs" "Visitor" && supB K "Waiter" "Waiter" "end" "Visitor" && supB K "Guide" "Guide" "__init__" "Visitor" && supB K "Guide" "Guide" "end" "Visitor" && supB K "Host" "Host" "__init__" "Visitor") = true) ∧
  ((He.tupB K "KINDS" [.str "guide", .str "host", .str "visitor", .str "waiter"] && He.tupB K "PERSON" [.glo "name_or_none", .glo "minutes_or_none", .glo "kind_or_none", .glo "number_or_none"] && He.tupB K "TIE" [.glo "name_or_none", .glo "name_or_none", .glo "integer_or_none"] && He.tupB K "CLOSING" [.glo "number_or_none"]) = true) ∧
  ((match K.lookup (He.dflAt ("tightest", none) 0 K) with
    | some ⟨.type c, _, .seq its _, _⟩ => decide (c = "tuple") && its.isEmpty
    | _ => false) = true) ∧
  ((["Waiter", "Guide", "Host"].all fun x => decide (PySem.W.mroIn K (He.ga K x) (.ref (He.ga K x)) = some true)) = true) ∧
  (decide (PySem.W.nsIn K PySem.cStatics "thirdparty.any" = some none) = true) := by
  have h := T.ex
  unfold Pa.ex at h
  obtain ⟨h, h6⟩ := Bool.and_eq_true_iff.mp h
  obtain ⟨h, h5⟩ := Bool.and_eq_true_iff.mp h
  obtain ⟨h, h4⟩ := Bool.and_eq_true_iff.mp h
  obtain ⟨h, h3⟩ := Bool.and_eq_true_iff.mp h
  obtain ⟨h1, h2⟩ := Bool.and_eq_true_iff.mp h
  exact ⟨h1, h2, h3, h4, h5, h6⟩
theorem Wd.more0 (T : Wd K mg base) {H : Hp} : Rp K H (.ref (He.dflAt ("tightest", none) 0 K)) (.tup []) := by
  have h := T.exs.2.2.2.1
  split at h
  · rename_i c x its n y e
    obtain ⟨h1, h2⟩ := Bool.and_eq_true_iff.mp h
    have hc := of_decide_eq_true h1
    have hi : its = #[] := by simpa using h2
    subst hc hi
    exact .tup (.inr ⟨_, #[], n, e, rfl, rfl, Nat.zero_le _, .nil⟩) .nil
  · cases h
end
section
variable {K : PySem.W.Frag} {ta : TA} {ρ : Env} {ds es : List D} {dvs : List V}
theorem ep_callD {pre : List D → Prop} {post : List D → D → Prop} {E : XK} (h : EvEs K ta ρ ds) (hd : ∀ H, Rps K H dvs es) (hp : pre (ds ++ es)) : EvP K (tCall (spP K pre post) dvs E ta) ρ (post (ds ++ es)) := fun σ H e H1 e1 Q q =>
  h σ H e H1 e1 _ fun vs H2 e2 r => ⟨ds ++ es, r.app (hd H2), hp, fun d hd v H3 e3 r3 => q v H3 d hd (e2.trans e3) r3⟩
theorem ee_callD {g : List D → D → Prop} {E : XK} {d : D} (h : EvEs K ta ρ ds) (hd : ∀ H, Rps K H dvs es) (hg : g (ds ++ es) d) : EvE K (tCall (spD K g) dvs E ta) ρ d := fun σ H e H1 e1 Q q =>
  h σ H e H1 e1 _ fun vs H2 e2 r => ⟨ds ++ es, d, r.app (hd H2), hg, fun v H3 e3 r3 => q v H3 (e2.trans e3) r3⟩
theorem ro_retP {te : TE} {ρ : Enw} {N : Enw → Prop} {P : D → Prop} {R : D → Enw → Prop} (h : EvP K te (vw ρ) P) (f : ads ρ = []) (k : ∀ d, P d → R d ρ) : RO K (tRet te) ρ N R := fun Hs Dn σ H s _ kr => by
  obtain ⟨H0, eh, s⟩ := s
  refine h σ H s.env H (Ex.refl _) _ fun v H2 d hd e2 r => kr v d ρ σ H2 (k d hd) ⟨H2, eh.trans (s.ex.trans e2), (ads_nil_grow s f e2).push r⟩
theorem ee_cR {v : V} {d : D} (h : ∀ H, Rp K H v d) : EvE K (tC v) ρ d := fun σ H e H1 e1 Q q => q v H1 (Ex.refl _) (h H1)
end
section
variable {K : PySem.W.Frag} {mg : Str → Option Value} {base : Heap}
theorem Wd.tups (T : Wd K mg base) : He.tupB K "KINDS" [.str "guide", .str "host", .str "visitor", .str "waiter"] = true ∧ He.tupB K "PERSON" [.glo "name_or_none", .glo "minutes_or_none", .glo "kind_or_none", .glo "number_or_none"] = true ∧ He.tupB K "TIE" [.glo "name_or_none", .glo "name_or_none", .glo "integer_or_none"] = true ∧ He.tupB K "CLOSING" [.glo "number_or_none"] = true := by
  have h := T.exs.2.2.1
  obtain ⟨h, h4⟩ := Bool.and_eq_true_iff.mp h
  obtain ⟨h, h3⟩ := Bool.and_eq_true_iff.mp h
  obtain ⟨h1, h2⟩ := Bool.and_eq_true_iff.mp h
  exact ⟨h1, h2, h3, h4⟩
def kindsS : List Str := ["guide", "host", "visitor", "waiter"]
theorem Wd.KINDS (T : Wd K mg base) (H : Hp) : Rp K H (.ref (He.ga K "KINDS")) (.tup (sD kindsS)) := .tup (He.tupB_ok T.tups.1 H) (Rps.raws (xs := [.str "guide", .str "host", .str "visitor", .str "waiter"]))
def fD (K : PySem.W.Frag) (x : Str) : D := .raw (.ref (He.ga K x))
theorem Wd.PERSON (T : Wd K mg base) (H : Hp) : Rp K H (.ref (He.ga K "PERSON")) (.tup [fD K "name_or_none", fD K "minutes_or_none", fD K "kind_or_none", fD K "number_or_none"]) := .tup (He.tupB_ok T.tups.2.1 H) (.cons (.raw _) (.cons (.raw _) (.cons (.raw _) (.cons (.raw _) .nil))))
theorem Wd.TIE (T : Wd K mg base) (H : Hp) : Rp K H (.ref (He.ga K "TIE")) (.tup [fD K "name_or_none", fD K "name_or_none", fD K "integer_or_none"]) := .tup (He.tupB_ok T.tups.2.2.1 H) (.cons (.raw _) (.cons (.raw _) (.cons (.raw _) .nil)))
theorem Wd.CLOSING (T : Wd K mg base) (H : Hp) : Rp K H (.ref (He.ga K "CLOSING")) (.tup [fD K "number_or_none"]) := .tup (He.tupB_ok T.tups.2.2.2 H) (.cons (.raw _) .nil)
end
end Pa
set_option Elab.async false
set_option linter.all false
set_option maxRecDepth 100000
set_option maxHeartbeats 4000000
/-! well-formed parties -/
namespace Pa
open PySem PySem.Spec PyProof.Rows L2 Evl
def names (p : Party) : List Str := p.rows.map Row.nm
structure RowOk (ns : List Str) (cl : Int) (r : Row) : Prop where
  nm : isNm r.nm
  f0 : 0 ≤ r.fst
  fl : r.fst ≤ r.lst
  lc : r.lst ≤ cl
  kd : r.kind ∈ kindsS
  p0 : 0 ≤ r.pat
  hp : r.kind = "host" → r.pat = 0
  wn : r.kind ≠ "waiter" → r.waits = []
  wa : Asc r.waits
  wi : ∀ x ∈ r.waits, x ∈ ns ∧ x ≠ r.nm
  wl : r.waits.length ≤ 1000
def tieLt (s t : Tie) : Prop := s.one.cps.toList < t.one.cps.toList ∨ (s.one = t.one ∧ s.oth.cps.toList < t.oth.cps.toList)
structure IsCase (p : Party) (c : Str → Int) : Prop where
  win : ∀ r ∈ p.rows, r.fst ≤ c r.nm ∧ c r.nm ≤ r.lst
  tie : ∀ t ∈ p.ties, c t.one ≤ c t.oth + t.most
structure PartyOk (p : Party) : Prop where
  ne : p.rows ≠ []
  len : p.rows.length ≤ 100
  asc : Asc (names p)
  row : ∀ r ∈ p.rows, RowOk (names p) p.closing r
  tlen : p.ties.length ≤ 1000
  tin : ∀ t ∈ p.ties, t.one ∈ names p ∧ t.oth ∈ names p ∧ t.one ≠ t.oth
  tasc : p.ties.Pairwise tieLt
  case : ∃ c, IsCase p c
theorem lt_irr (l : List Nat) : ¬ l < l := List.lt_irrefl l
theorem Asc.nodup {xs : List Str} (h : Asc xs) : xs.Nodup := List.Pairwise.imp (fun {a b} q e => by subst e; exact lt_irr _ q) h
theorem PartyOk.nd {p : Party} (h : PartyOk p) : (p.rows.map Row.nm).Nodup := h.asc.nodup
/-- the potential of a case -/
def pot (p : Party) (c : Str → Int) : Nat → Int
  | 0 => 0
  | i + 1 => match p.rows[i]? with
    | some r => c r.nm
    | none => 0
theorem winL_mem {rows : List Row} {l : Nat × Nat × Int} {n : Nat} (h : l ∈ winL rows n) : ∃ (k : Nat) (r : Row), rows[k]? = some r ∧ (l = (k + 1, 0, r.lst) ∨ l = (0, k + 1, -r.fst)) := by
  unfold winL at h
  obtain ⟨p, hp, hl⟩ := List.mem_flatMap.mp h
  obtain ⟨i, hi⟩ := List.getElem?_of_mem hp
  rw [List.getElem?_zipIdx] at hi
  cases e : (rows.take n)[i]? with
  | none => rw [e] at hi; cases hi
  | some r =>
    rw [e] at hi
    have e2 : p = (r, 0 + i) := (Option.some.inj hi).symm
    subst e2
    rw [List.getElem?_take] at e
    split at e
    · refine ⟨i, r, e, ?_⟩
      simpa using hl
    · cases e
theorem limits_ok {p : Party} {c : Str → Int} (h : PartyOk p) (hc : IsCase p c) : ∀ l ∈ winL p.rows p.rows.length ++ tieL p.rows p.ties, l.1 < p.rows.length + 1 ∧ l.2.1 < p.rows.length + 1 ∧ pot p c l.1 - pot p c l.2.1 ≤ l.2.2 := fun l hl => by
  rcases List.mem_append.mp hl with hl | hl
  · obtain ⟨k, r, hr, e⟩ := winL_mem hl
    have hk := (List.getElem?_eq_some_iff.mp hr).1
    obtain ⟨w1, w2⟩ := hc.win r (List.mem_of_getElem? hr)
    have hp : pot p c (k + 1) = c r.nm := by simp only [pot]; rw [hr]
    have h0 : pot p c 0 = 0 := rfl
    rcases e with rfl | rfl
    · refine ⟨by show k + 1 < _; omega, by show 0 < _; omega, ?_⟩
      show pot p c (k + 1) - pot p c 0 ≤ r.lst
      omega
    · refine ⟨by show 0 < _; omega, by show k + 1 < _; omega, ?_⟩
      show pot p c 0 - pot p c (k + 1) ≤ -r.fst
      omega
  · obtain ⟨t, ht, rfl⟩ := List.mem_map.mp hl
    obtain ⟨t1, t2, _⟩ := h.tin t ht
    obtain ⟨r1, g1, e1⟩ := idx_get t1
    obtain ⟨r2, g2, e2⟩ := idx_get t2
    have k1 := (List.getElem?_eq_some_iff.mp g1).1
    have k2 := (List.getElem?_eq_some_iff.mp g2).1
    have hp1 : pot p c (idx p.rows t.one + 1) = c t.one := by simp only [pot]; rw [g1]; simp [e1]
    have hp2 : pot p c (idx p.rows t.oth + 1) = c t.oth := by simp only [pot]; rw [g2]; simp [e2]
    have := hc.tie t ht
    refine ⟨by show idx p.rows t.one + 1 < _; omega, by show idx p.rows t.oth + 1 < _; omega, ?_⟩
    show pot p c (idx p.rows t.one + 1) - pot p c (idx p.rows t.oth + 1) ≤ t.most
    omega
theorem tieL_len {rows : List Row} {ties : List Tie} : (tieL rows ties).length = ties.length := by simp [tieL]
end Pa
set_option Elab.async false
set_option linter.all false
set_option maxRecDepth 100000
set_option maxHeartbeats 8000000
namespace Pa
open PySem PySem.Spec PyProof.Rows L2 Evl
section
variable {P : Program} {w : World} {K : PySem.W.Frag} {mg : Str → Option Value} {base : Heap}

def pTight : List D → Prop := fun ds => ∃ p : Party, ds = [p.d, .tup []] ∧ PartyOk p

theorem sc_tightest : FnScope ["party", "more", "rows", "ties", "closing", "limits"] ["party", "more"] d_tightest.scope := ⟨rfl, rfl, rfl, by decide +kernel, rfl, by decide +kernel, by decide +kernel⟩
theorem ok_tightest (T : Wd K mg base) : C8.Cal P w K mg base (1 + 1) "tightest" (spP K pTight fun _ => qTab) [.ref (He.dflAt ("tightest", none) 0 K)] := by
  refine cal_ofD T 10 27 (d := d_tightest) 1 [.ref (He.dflAt ("tightest", none) 0 K)] rfl rfl rfl rfl (by simp) rfl rfl sc_tightest (spP_len fun ds ⟨_, e, _⟩ => by rw [e]; rfl) (fun _ _ _ _ _ _ _ us its hl hm => match us, hl, its, hm with | [_], _, [_], _ => ⟨_, rfl, rfl⟩) fun cdv A outer s H vs Q E hr h => ?_
  refine ⟨_, (pss_cons (ps_asg (pv 0) (zg_tup (K := K) (n := 3) rfl rfl (pgs_cons (pg_name (i := 2) sc_tightest.nd rfl (by first | exact Or.inl rfl | exact Or.inr rfl)) (pgs_cons (pg_name (i := 3) sc_tightest.nd rfl (by first | exact Or.inl rfl | exact Or.inr rfl)) (pgs_cons (pg_name (i := 4) sc_tightest.nd rfl (by first | exact Or.inl rfl | exact Or.inr rfl)) pgs_nil)))))
    (pss_cons (ps_set (i := 5) sc_tightest.nd rfl (by first | exact Or.inl rfl | exact Or.inr rfl) (pe_op (z_add (K := K) rfl) (pe_op (z_add (K := K) rfl) (C8.pe_c (ok_window_limits T) hr (by decide) rfl (pa_cons (pv 2) pa_nil)) (C8.pe_c (ok_tie_limits T) hr (by decide) rfl (pa_cons (pv 2) (pa_cons (pv 3) pa_nil)))) (pe_callTy (z_list (K := K) rfl) (by rfl) T.g_list (by decide +kernel) (pa_cons (pv 1) pa_nil))))
    (pss_one (ps_ret (C8.pe_c (ok_shortest T) hr (by decide) rfl (pa_cons (pe_op (z_add (K := K) rfl) (pe_callB (z_len (K := K) rfl) (by rfl) T.g_len (by decide +kernel) (pa_cons (pv 2) pa_nil)) pe_int) (pa_cons (pv 5) pa_nil))))))), ?_⟩
  obtain ⟨ds, rr, ⟨p, rfl, hp⟩, q⟩ := h
  refine ro_funP ?_ rr q
  refine ro_s (ro_asg (ee_var rfl) (.inr rfl) (go_tup (gos_cons go_name (gos_cons go_name (gos_cons go_name gos_nil))) rfl) rfl) ?_
  refine ro_s (ro_set (d := .lst ((winL p.rows p.rows.length ++ tieL p.rows p.ties).map limD)) (ee_is (ee_op (ee_op (ee_call (es_cons (ee_var rfl) es_nil) ⟨p.rows, rfl, hp.len, rfl⟩) (ee_call (es_cons (ee_var rfl) (es_cons (ee_var rfl) es_nil)) ⟨p.rows, p.ties, rfl, hp.nd, fun t ht => ⟨(hp.tin t ht).1, (hp.tin t ht).2.1⟩, hp.len, hp.tlen, rfl⟩) fun _ => rd_addL ?_) (ee_cb (es_cons (ee_var rfl) es_nil) fun _ => rc_listT) fun _ => rd_addL ?_) ?_) (.inr rfl) rfl) ?_
  · rw [List.length_map, List.length_map, winL_len (Nat.le_refl _), tieL_len]
    have := hp.len
    have := hp.tlen
    omega
  · rw [List.length_append, List.length_map, List.length_map, winL_len (Nat.le_refl _), tieL_len]
    have := hp.len
    have := hp.tlen
    simp
    omega
  · rw [List.append_nil, List.map_append]
  obtain ⟨c, hc⟩ := hp.case
  refine ro_retP (ep_call (es_cons (ee_is (ee_op (ee_cb (es_cons (ee_var rfl) es_nil) fun _ => rc_lenT) ee_c fun _ => rd_addI) (by simp; rfl)) (es_cons (ee_var rfl) es_nil)) ⟨p.rows.length + 1, winL p.rows p.rows.length ++ tieL p.rows p.ties, pot p c, by simp, by have := hp.len; omega, limits_ok hp hc⟩) rfl fun d hd => hd
end
end Pa
set_option Elab.async false
set_option linter.all false
set_option maxRecDepth 100000
set_option maxHeartbeats 8000000
namespace Pa
open PySem PySem.Spec PyProof.Rows L2 Evl
section
variable {P : Program} {w : World} {K : PySem.W.Frag} {mg : Str → Option Value} {base : Heap}

def gReq : List D → D → Prop := fun ds d => ∃ w a, ds = [dB true, w, a] ∧ d = dN
def gIsRow : List D → D → Prop := fun ds d => ∃ r : Row, ds = [r.d] ∧ isNm r.nm ∧ 0 ≤ r.fst ∧ 0 ≤ r.lst ∧ 0 ≤ r.pat ∧ (∀ x ∈ r.waits, isNm x) ∧ r.waits.length ≤ 1000 ∧ d = dB true
def gIsTie : List D → D → Prop := fun ds d => ∃ t : Tie, ds = [t.d] ∧ isNm t.one ∧ isNm t.oth ∧ d = dB true
theorem isNm_ok {x : Str} (h : isNm x) : PyData.strOk x = true := by
  obtain ⟨h1, h2, h3⟩ := h
  unfold PyData.strOk
  rw [← Array.all_toList, List.all_eq_true]
  intro c hc
  have hl : ∀ c ∈ ("abcdefghijklmnopqrstuvwxyz" : Str).cps.toList, c < 0x110000 := by decide +kernel
  simpa using hl c (h3 c hc)

theorem sc_require : FnScope ["condition", "word", "at"] ["condition", "word", "at"] d_require.scope := ⟨rfl, rfl, rfl, by decide +kernel, rfl, by decide +kernel, by decide +kernel⟩
theorem ok_require (T : Wd K mg base) : C8.Cal P w K mg base (0 + 1) "require" (spD K gReq) [] := by
  refine cal_of T 11 28 (d := d_require) rfl rfl rfl rfl rfl sc_require (spD_len fun ds d ⟨_, _, e, _⟩ => by rw [e]; rfl) (fun _ _ _ _ _ _ us hl => match us, hl with | [_, _, _], _ => rfl) fun cdv A outer s H vs Q E hr h => ?_
  refine ⟨_, (pss_one (ps_if (pt_not (pt_val (pv 0))) (pss_one ps_never) pss_nil)), ?_⟩
  obtain ⟨ds, d, rr, ⟨wo, a, rfl, rfl⟩, q⟩ := h
  refine ro_fun ?_ rr q
  refine ro_ifF (te_is (te_not (te_B (ee_var rfl))) rfl) (ro_next rfl)
theorem sc_is_row : FnScope ["thing", "name", "first", "last", "kind", "patience", "waits"] ["thing"] d_is_row.scope := ⟨rfl, rfl, rfl, by decide +kernel, rfl, by decide +kernel, by decide +kernel⟩
theorem ok_is_row (T : Wd K mg base) : C8.Cal P w K mg base (3 + 1) "is_row" (spD K gIsRow) [] := by
  refine cal_of T 12 29 (d := d_is_row) rfl rfl rfl rfl rfl sc_is_row (spD_len fun ds d ⟨_, e, _⟩ => by rw [e]; rfl) (fun _ _ _ _ _ _ us hl => match us, hl with | [_], _ => rfl) fun cdv A outer s H vs Q E hr h => ?_
  refine ⟨_, (pss_cons (ps_if (PW.pt (pw_or (pt_not (pt_val (pe_callB (z_isi (K := K) rfl) (by rfl) T.g_isinstance (by decide +kernel) (pa_cons (pv 0) (pa_cons (pe_bltn (v := .ty "tuple") (by rfl) T.g_tuple (by decide +kernel) rfl) pa_nil))))) (pw_or1 (pt_cmpR (z_ne (K := K) hr.units rfl) (pe_callB (z_len (K := K) rfl) (by rfl) T.g_len (by decide +kernel) (pa_cons (pv 0) pa_nil)) pe_int (nomark _))))) (pss_one (ps_ret pe_bl)) pss_nil)
    (pss_cons (ps_asg (pv 0) (zg_tup (K := K) (n := 6) rfl rfl (pgs_cons (pg_name (i := 1) sc_is_row.nd rfl (by first | exact Or.inl rfl | exact Or.inr rfl)) (pgs_cons (pg_name (i := 2) sc_is_row.nd rfl (by first | exact Or.inl rfl | exact Or.inr rfl)) (pgs_cons (pg_name (i := 3) sc_is_row.nd rfl (by first | exact Or.inl rfl | exact Or.inr rfl)) (pgs_cons (pg_name (i := 4) sc_is_row.nd rfl (by first | exact Or.inl rfl | exact Or.inr rfl)) (pgs_cons (pg_name (i := 5) sc_is_row.nd rfl (by first | exact Or.inl rfl | exact Or.inr rfl)) (pgs_cons (pg_name (i := 6) sc_is_row.nd rfl (by first | exact Or.inl rfl | exact Or.inr rfl)) pgs_nil))))))))
    (pss_cons (ps_if (PW.pt (pw_or (pt_not (pt_val (C8.pe_c (ok_is_name T) hr (by decide) rfl (pa_cons (pv 1) pa_nil)))) (pw_or1 (pt_not (pt_val (C8.pe_c (ok_is_tuple_of 2 T) hr (by decide) rfl (pa_cons (pe_tup (pa_cons (pv 2) (pa_cons (pv 3) (pa_cons (pv 5) pa_nil)))) (pa_cons (C8.pe_gc (v := .ref (He.ga K "is_number")) rfl T.k_is_number) pa_nil)))))))) (pss_one (ps_ret pe_bl)) pss_nil)
    (pss_one (ps_ret (pe_and (pe_callB (z_isi (K := K) rfl) (by rfl) T.g_isinstance (by decide +kernel) (pa_cons (pv 4) (pa_cons (pe_bltn (v := .ty "str") (by rfl) T.g_str (by decide +kernel) rfl) pa_nil))) (pe_one (C8.pe_c (ok_are_names T) hr (by decide) rfl (pa_cons (pv 6) pa_nil))))))))), ?_⟩
  obtain ⟨ds, d, rr, ⟨r, rfl, h1, h2, h3, h4, h5, h6, rfl⟩, q⟩ := h
  refine ro_fun ?_ rr q
  refine ro_s (ro_ifF (te_is (te_or (k := false) (m := false) ?_ fun _ => ?_) rfl) (ro_next rfl)) ?_
  · refine te_is (te_not (te_B (k := true) ?_)) rfl
    (repeat' (first | with_reducible exact ee_c | ((with_reducible apply ee_var); rfl) | with_reducible apply ee_op | with_reducible exact es_nil | with_reducible apply es_cons | with_reducible apply ee_tup | with_reducible apply ee_lst | with_reducible apply ee_cb | with_reducible apply ee_chain | with_reducible apply ee_not | with_reducible apply te_not | with_reducible apply te_test | with_reducible apply te_B | with_reducible exact te_yes | with_reducible apply eo_some | with_reducible exact eo_non | (show List.length _ ≤ 100000; simp; done) | with_reducible exact fun _ => rd_addI | with_reducible exact fun _ => rd_I0 | with_reducible exact fun _ => rd_eqX rfl | with_reducible exact fun _ => rd_neX rfl | with_reducible exact fun _ => rd_ltI | with_reducible exact fun _ => rd_ltS | with_reducible exact fun _ => rd_inC | exact fun _ => rd_ixX (n := 0) rfl rfl | exact fun _ => rd_ixX (n := 1) rfl rfl | exact fun _ => rd_ixX (n := 2) rfl rfl | exact fun _ => rd_ixX (n := 3) rfl rfl | exact fun _ => rd_ixX (n := 4) rfl rfl | exact fun _ => rd_ixX (n := 5) rfl rfl | with_reducible exact fun _ => rc_lenL | with_reducible exact fun _ => rc_lenT | with_reducible exact fun _ => rc_tupL | with_reducible exact fun _ => rc_listT | with_reducible exact fun _ => rc_all | with_reducible exact fun _ => rc_any | exact fun _ => rc_isi (by intro z; cases z) (kit_ty (by decide +kernel)) | with_reducible exact fun _ => rc_min2 | with_reducible exact fun _ => rc_max2 | with_reducible exact fun _ => rd_isN | with_reducible exact fun _ => rd_notN | with_reducible exact fun _ => rd_isNt | with_reducible exact fun _ => rd_notNt | with_reducible exact fun _ => rd_notNl | with_reducible exact wke_t (ee_var rfl) | with_reducible exact wke_l (ee_var rfl) | with_reducible apply ee_call | with_reducible exact ru_neg | with_reducible exact fun _ => ru_neg | with_reducible apply ee_un))
  · exact te_is (te_test (ee_op (ee_cb (es_cons (ee_var rfl) es_nil) fun _ => rc_lenT) ee_c fun _ => rd_neX rfl)) (by simp)
  refine ro_s (ro_asg (ee_var rfl) (.inr rfl) (go_tup (gos_cons go_name (gos_cons go_name (gos_cons go_name (gos_cons go_name (gos_cons go_name (gos_cons go_name gos_nil)))))) rfl) rfl) ?_
  refine ro_s (ro_ifF (te_is (te_or (te_is (te_not (te_B (ee_call (es_cons (ee_var rfl) es_nil) ⟨_, rfl, h1, rfl⟩))) (m := false) rfl) fun _ => te_is (te_not (te_B (ee_call (es_cons (ee_tup (es_cons (ee_var rfl) (es_cons (ee_var rfl) (es_cons (ee_var rfl) es_nil))) (by simp)) (es_cons ee_c es_nil)) ⟨_, _, _, rfl, at_of_cal (ok_is_number T) (by decide) T.m_is_number, fun e he => ?_, by simp, rfl⟩))) (m := false) rfl) rfl) (ro_next rfl)) ?_
  · have e' : e = dI r.fst ∨ e = dI r.lst ∨ e = dI r.pat := by simpa using he
    rcases e' with rfl | rfl | rfl
    · exact ⟨_, rfl, h2, rfl⟩
    · exact ⟨_, rfl, h3, rfl⟩
    · exact ⟨_, rfl, h4, rfl⟩
  refine ro_ret (ee_is (ee_and (k := true) (m := true) ?_ fun _ => ?_) rfl) (.inr rfl) rfl
  · (repeat' (first | with_reducible exact ee_c | ((with_reducible apply ee_var); rfl) | with_reducible apply ee_op | with_reducible exact es_nil | with_reducible apply es_cons | with_reducible apply ee_tup | with_reducible apply ee_lst | with_reducible apply ee_cb | with_reducible apply ee_chain | with_reducible apply ee_not | with_reducible apply te_not | with_reducible apply te_test | with_reducible apply te_B | with_reducible exact te_yes | with_reducible apply eo_some | with_reducible exact eo_non | (show List.length _ ≤ 100000; simp; done) | with_reducible exact fun _ => rd_addI | with_reducible exact fun _ => rd_I0 | with_reducible exact fun _ => rd_eqX rfl | with_reducible exact fun _ => rd_neX rfl | with_reducible exact fun _ => rd_ltI | with_reducible exact fun _ => rd_ltS | with_reducible exact fun _ => rd_inC | exact fun _ => rd_ixX (n := 0) rfl rfl | exact fun _ => rd_ixX (n := 1) rfl rfl | exact fun _ => rd_ixX (n := 2) rfl rfl | exact fun _ => rd_ixX (n := 3) rfl rfl | exact fun _ => rd_ixX (n := 4) rfl rfl | exact fun _ => rd_ixX (n := 5) rfl rfl | with_reducible exact fun _ => rc_lenL | with_reducible exact fun _ => rc_lenT | with_reducible exact fun _ => rc_tupL | with_reducible exact fun _ => rc_listT | with_reducible exact fun _ => rc_all | with_reducible exact fun _ => rc_any | exact fun _ => rc_isi (by intro z; cases z) (kit_ty (by decide +kernel)) | with_reducible exact fun _ => rc_min2 | with_reducible exact fun _ => rc_max2 | with_reducible exact fun _ => rd_isN | with_reducible exact fun _ => rd_notN | with_reducible exact fun _ => rd_isNt | with_reducible exact fun _ => rd_notNt | with_reducible exact fun _ => rd_notNl | with_reducible exact wke_t (ee_var rfl) | with_reducible exact wke_l (ee_var rfl) | with_reducible apply ee_call | with_reducible exact ru_neg | with_reducible exact fun _ => ru_neg | with_reducible apply ee_un))
  · exact ee_call (es_cons (ee_var rfl) es_nil) ⟨_, rfl, h5, h6, rfl⟩
theorem sc_is_tie : FnScope ["thing"] ["thing"] d_is_tie.scope := ⟨rfl, rfl, rfl, by decide +kernel, rfl, by decide +kernel, by decide +kernel⟩
theorem ok_is_tie (T : Wd K mg base) : C8.Cal P w K mg base (1 + 1) "is_tie" (spD K gIsTie) [] := by
  refine cal_of T 13 30 (d := d_is_tie) rfl rfl rfl rfl rfl sc_is_tie (spD_len fun ds d ⟨_, e, _⟩ => by rw [e]; rfl) (fun _ _ _ _ _ _ us hl => match us, hl with | [_], _ => rfl) fun cdv A outer s H vs Q E hr h => ?_
  refine ⟨_, (pss_cons (ps_if (PW.pt (pw_or (pt_not (pt_val (pe_callB (z_isi (K := K) rfl) (by rfl) T.g_isinstance (by decide +kernel) (pa_cons (pv 0) (pa_cons (pe_bltn (v := .ty "tuple") (by rfl) T.g_tuple (by decide +kernel) rfl) pa_nil))))) (pw_or1 (pt_cmpR (z_ne (K := K) hr.units rfl) (pe_callB (z_len (K := K) rfl) (by rfl) T.g_len (by decide +kernel) (pa_cons (pv 0) pa_nil)) pe_int (nomark _))))) (pss_one (ps_ret pe_bl)) pss_nil)
    (pss_one (ps_ret (pe_and (C8.pe_c (ok_is_name T) hr (by decide) rfl (pa_cons (pe_ix (z_ix (K := K) rfl) (pv 0) pe_int (fun _ _ => rfl)) pa_nil)) (pe_and (C8.pe_c (ok_is_name T) hr (by decide) rfl (pa_cons (pe_ix (z_ix (K := K) rfl) (pv 0) pe_int (fun _ _ => rfl)) pa_nil)) (pe_one (C8.pe_c (ok_is_integer T) hr (by decide) rfl (pa_cons (pe_ix (z_ix (K := K) rfl) (pv 0) pe_int (fun _ _ => rfl)) pa_nil)))))))), ?_⟩
  obtain ⟨ds, d, rr, ⟨t, rfl, h1, h2, rfl⟩, q⟩ := h
  refine ro_fun ?_ rr q
  refine ro_s (ro_ifF (te_is (te_or (k := false) (m := false) ?_ fun _ => ?_) rfl) (ro_next rfl)) ?_
  · refine te_is (te_not (te_B (k := true) ?_)) rfl
    (repeat' (first | with_reducible exact ee_c | ((with_reducible apply ee_var); rfl) | with_reducible apply ee_op | with_reducible exact es_nil | with_reducible apply es_cons | with_reducible apply ee_tup | with_reducible apply ee_lst | with_reducible apply ee_cb | with_reducible apply ee_chain | with_reducible apply ee_not | with_reducible apply te_not | with_reducible apply te_test | with_reducible apply te_B | with_reducible exact te_yes | with_reducible apply eo_some | with_reducible exact eo_non | (show List.length _ ≤ 100000; simp; done) | with_reducible exact fun _ => rd_addI | with_reducible exact fun _ => rd_I0 | with_reducible exact fun _ => rd_eqX rfl | with_reducible exact fun _ => rd_neX rfl | with_reducible exact fun _ => rd_ltI | with_reducible exact fun _ => rd_ltS | with_reducible exact fun _ => rd_inC | exact fun _ => rd_ixX (n := 0) rfl rfl | exact fun _ => rd_ixX (n := 1) rfl rfl | exact fun _ => rd_ixX (n := 2) rfl rfl | exact fun _ => rd_ixX (n := 3) rfl rfl | exact fun _ => rd_ixX (n := 4) rfl rfl | exact fun _ => rd_ixX (n := 5) rfl rfl | with_reducible exact fun _ => rc_lenL | with_reducible exact fun _ => rc_lenT | with_reducible exact fun _ => rc_tupL | with_reducible exact fun _ => rc_listT | with_reducible exact fun _ => rc_all | with_reducible exact fun _ => rc_any | exact fun _ => rc_isi (by intro z; cases z) (kit_ty (by decide +kernel)) | with_reducible exact fun _ => rc_min2 | with_reducible exact fun _ => rc_max2 | with_reducible exact fun _ => rd_isN | with_reducible exact fun _ => rd_notN | with_reducible exact fun _ => rd_isNt | with_reducible exact fun _ => rd_notNt | with_reducible exact fun _ => rd_notNl | with_reducible exact wke_t (ee_var rfl) | with_reducible exact wke_l (ee_var rfl) | with_reducible apply ee_call | with_reducible exact ru_neg | with_reducible exact fun _ => ru_neg | with_reducible apply ee_un))
  · exact te_is (te_test (ee_op (ee_cb (es_cons (ee_var rfl) es_nil) fun _ => rc_lenT) ee_c fun _ => rd_neX rfl)) (by simp)
  refine ro_ret (ee_is (ee_and (k := true) (m := true) ?_ fun _ => ee_is (ee_and (k := true) (m := true) ?_ fun _ => ?_) rfl) rfl) (.inr rfl) rfl
  · exact ee_call (es_cons (ee_op (ee_var rfl) ee_c fun _ => rd_ixX (n := 0) rfl rfl) es_nil) ⟨_, rfl, h1, rfl⟩
  · exact ee_call (es_cons (ee_op (ee_var rfl) ee_c fun _ => rd_ixX (n := 1) rfl rfl) es_nil) ⟨_, rfl, h2, rfl⟩
  · exact ee_call (es_cons (ee_op (ee_var rfl) ee_c fun _ => rd_ixX (n := 2) rfl rfl) es_nil) ⟨_, rfl, rfl⟩
def gWaits : List D → D → Prop := fun ds d => ∃ (ns : List Str) (cl : Int) (r : Row), ds = [.lst (sD ns), r.d] ∧ RowOk ns cl r ∧ (∀ x ∈ ns, isNm x) ∧ d = dB true

theorem sc_are_waits : FnScope ["people", "row", "name", "first", "last", "kind", "patience", "waits", "other"] ["people", "row"] d_are_waits.scope := ⟨rfl, rfl, rfl, by decide +kernel, rfl, by decide +kernel, by decide +kernel⟩
theorem ok_are_waits (T : Wd K mg base) : C8.Cal P w K mg base (4 + 1) "are_waits" (spD K gWaits) [] := by
  refine cal_of T 14 31 (d := d_are_waits) rfl rfl rfl rfl rfl sc_are_waits (spD_len fun ds d ⟨_, _, _, e, _⟩ => by rw [e]; rfl) (fun _ _ _ _ _ _ us hl => match us, hl with | [_, _], _ => rfl) fun cdv A outer s H vs Q E hr h => ?_
  refine ⟨_, (pss_cons (ps_asg (pv 1) (zg_tup (K := K) (n := 6) rfl rfl (pgs_cons (pg_name (i := 2) sc_are_waits.nd rfl (by first | exact Or.inl rfl | exact Or.inr rfl)) (pgs_cons (pg_name (i := 3) sc_are_waits.nd rfl (by first | exact Or.inl rfl | exact Or.inr rfl)) (pgs_cons (pg_name (i := 4) sc_are_waits.nd rfl (by first | exact Or.inl rfl | exact Or.inr rfl)) (pgs_cons (pg_name (i := 5) sc_are_waits.nd rfl (by first | exact Or.inl rfl | exact Or.inr rfl)) (pgs_cons (pg_name (i := 6) sc_are_waits.nd rfl (by first | exact Or.inl rfl | exact Or.inr rfl)) (pgs_cons (pg_name (i := 7) sc_are_waits.nd rfl (by first | exact Or.inl rfl | exact Or.inr rfl)) pgs_nil))))))))
    (pss_cons (ps_if (pt_cmpR (z_ne (K := K) hr.units rfl) (pv 5) pe_str (nomark _)) (pss_one (ps_ret (pe_cmpR (z_eq (K := K) hr.units rfl) (pv 7) (pe_tup pa_nil) (nomark _)))) pss_nil)
    (pss_one (ps_ret (pe_and (C8.pe_c (ok_is_people T) hr (by decide) rfl (pa_cons (pv 7) pa_nil)) (pe_one (pe_callB (z_all (K := K) rfl rfl) (by rfl) T.g_all (by decide +kernel) (pa_cons (pe_lc (own := [("other", 8)]) (by rfl) sc_are_waits.nd (zi_any (K := K) rfl (pv 7)) (blkOk_by (own := [("other", 8)]) (N := ["people", "row", "name", "first", "last", "kind", "patience", "waits", "other"]) (sc := d_are_waits.scope) (by decide +kernel)) (fun _ _ _ _ _ => (pg_name (i := 8) sc_are_waits.nd rfl (by first | exact Or.inl rfl | exact Or.inr rfl))) (fun _ _ _ _ _ => pts_nil) (fun _ _ _ _ _ => (pe_and (pe_cmpR (z_in (K := K) rfl) (pv 8) (pv 0) (by first | rfl | with_unfolding_all rfl)) (pe_one (pe_cmpR (z_ne (K := K) hr.units rfl) (pv 8) (pv 2) (nomark _)))))) pa_nil)))))))), ?_⟩
  obtain ⟨ds, d, rr, ⟨ns, cl, r, rfl, h, hns, rfl⟩, q⟩ := h
  refine ro_fun ?_ rr q
  refine ro_s (ro_asg (ee_var rfl) (.inr rfl) (go_tup (gos_cons go_name (gos_cons go_name (gos_cons go_name (gos_cons go_name (gos_cons go_name (gos_cons go_name gos_nil)))))) rfl) rfl) ?_
  refine ro_seq (fun q => q = _ ∧ r.kind = "waiter") (ro_if (te_test (ee_op (ee_var rfl) ee_c fun _ => rd_neX rfl)) (fun hk => ?_) fun hk => ro_next ⟨rfl, by simpa using hk⟩) ?_
  · have hw := h.wn (by simpa using hk)
    refine ro_ret (ee_is (ee_op (ee_var (d := .tup []) (by show some (some (D.tup (sD r.waits))) = _; rw [hw]; rfl)) (ee_tup es_nil (by simp)) fun _ => rd_eqS (n := 1) (by rfl) (by decide)) rfl) (.inr rfl) rfl
  rintro _ ⟨rfl, hk⟩
  refine ro_ret (ee_is (ee_and (k := true) (m := true) ?_ fun _ => ?_) rfl) (.inr rfl) rfl
  · exact ee_call (es_cons (ee_var rfl) es_nil) ⟨_, rfl, fun x hx => hns x (h.wi x hx).1, h.wa, h.wl, rfl⟩
  · refine ee_cb (es_cons (ee_lcN (fun _ => dB true) (wke_t (ee_var rfl)) (by rw [sD_len]; have := h.wl; omega) (by simp) (fun _ _ => rfl) fun d hd => ?_) es_nil) fun _ => rc_allT
    obtain ⟨x, hx, rfl⟩ := List.mem_map.mp hd
    obtain ⟨w1, w2⟩ := h.wi x hx
    refine ee_is (ee_and (k := true) (m := true) (ee_is (ee_op (ee_var rfl) (ee_var rfl) fun _ => rd_inL) (by simp [w1])) fun _ => ee_is (ee_op (ee_var rfl) (ee_var rfl) fun _ => rd_neX rfl) (by simp [w2])) rfl
def gChRows : List D → D → Prop := fun ds d => ∃ p : Party, ds = [.tup (rowsD p.rows)] ∧ PartyOk p ∧ d = dN
theorem ee_names {K : PySem.W.Frag} {ρ : Env} {tl : TE} {i : Nat} {vs : List Nat} {rows : List Row} (h : EvE K tl ρ (.tup (rowsD rows))) (hi : i < ρ.length) (hj : i ∈ vs) (hl : rows.length ≤ 1000) : EvE K (tLc (iAny K tl) (gName i) tYes (tOp (rIx K) (tVar i) (tC (.int 0))) vs) ρ (.lst (sD (rows.map Row.nm))) := by
  refine ee_is (ee_lcN (fun d => match d with | .tup (a :: _) => a | _ => dN) (wke_t h) (by rw [List.length_map]; omega) hj (fun d hd => ?_) fun d hd => ?_) ?_
  · obtain ⟨r, _, rfl⟩ := List.mem_map.mp hd
    rfl
  · obtain ⟨r, _, rfl⟩ := List.mem_map.mp hd
    have hlen : ∀ vs : List Nat, (wipeE ρ vs).length = ρ.length := fun vs => by
      induction vs with
      | nil => rfl
      | cons v vs ih => simp [wipeE, ih]
    exact ee_op (ee_var (d := r.d) (by rw [List.getElem?_set_self (by rw [hlen]; exact hi)])) ee_c fun _ => rd_ixX (n := 0) rfl rfl
  · rw [List.map_map, sD, List.map_map]
    rfl
theorem cut_sD {xs : List Str} {lo hi : Option Int} : ∃ ys, cutD (sD xs) lo hi = sD ys ∧ ys.Sublist xs := by
  unfold cutD sD
  rw [← List.map_drop, ← List.map_take]
  exact ⟨_, rfl, (List.take_sublist _ _).trans (List.drop_sublist _ _)⟩
theorem PartyOk.nms {p : Party} (h : PartyOk p) : ∀ x ∈ names p, isNm x := fun x hx => by
  obtain ⟨r, hr, rfl⟩ := List.mem_map.mp hx
  exact (h.row r hr).nm

theorem sc_check_rows : FnScope ["rows", "people", "k", "row", "name", "first", "last", "kind", "patience", "waits"] ["rows"] d_check_rows.scope := ⟨rfl, rfl, rfl, by decide +kernel, rfl, by decide +kernel, by decide +kernel⟩
theorem ok_check_rows (T : Wd K mg base) : C8.Cal P w K mg base (5 + 1) "check_rows" (spD K gChRows) [] := by
  refine cal_of T 15 32 (d := d_check_rows) rfl rfl rfl rfl rfl sc_check_rows (spD_len fun ds d ⟨_, e, _⟩ => by rw [e]; rfl) (fun _ _ _ _ _ _ us hl => match us, hl with | [_], _ => rfl) fun cdv A outer s H vs Q E hr h => ?_
  refine ⟨_, (pss_cons (ps_setLc (i := 1) (own := [("row", 3)]) (by rfl) sc_check_rows.nd rfl rfl (sw_true rfl rfl rfl (by decide +kernel)) (zi_any (K := K) rfl (pv 0)) (blkOk_by (own := [("row", 3)]) (N := ["rows", "people", "k", "row", "name", "first", "last", "kind", "patience", "waits"]) (sc := d_check_rows.scope) (by decide +kernel)) (fun _ _ _ _ _ => (pg_name (i := 3) sc_check_rows.nd rfl (by first | exact Or.inl rfl | exact Or.inr rfl))) (fun _ _ _ _ _ => pts_nil) (fun _ _ _ _ _ => (pe_ix (z_ix (K := K) rfl) (pv 3) pe_int (fun _ _ => rfl))))
    (pss_one (ps_for PassesOwn.never rfl (pi_enumX (K := K) rfl (by rfl) T.g_enumerate (pa_cons (pv 0) pa_nil)) (zg_tup (K := K) (n := 2) rfl rfl (pgs_cons (pg_name (i := 2) sc_check_rows.nd rfl (by first | exact Or.inl rfl | exact Or.inr rfl)) (pgs_cons (pg_name (i := 3) sc_check_rows.nd rfl (by first | exact Or.inl rfl | exact Or.inr rfl)) pgs_nil))) (pss_cons (ps_asg (pv 3) (zg_tup (K := K) (n := 6) rfl rfl (pgs_cons (pg_name (i := 4) sc_check_rows.nd rfl (by first | exact Or.inl rfl | exact Or.inr rfl)) (pgs_cons (pg_name (i := 5) sc_check_rows.nd rfl (by first | exact Or.inl rfl | exact Or.inr rfl)) (pgs_cons (pg_name (i := 6) sc_check_rows.nd rfl (by first | exact Or.inl rfl | exact Or.inr rfl)) (pgs_cons (pg_name (i := 7) sc_check_rows.nd rfl (by first | exact Or.inl rfl | exact Or.inr rfl)) (pgs_cons (pg_name (i := 8) sc_check_rows.nd rfl (by first | exact Or.inl rfl | exact Or.inr rfl)) (pgs_cons (pg_name (i := 9) sc_check_rows.nd rfl (by first | exact Or.inl rfl | exact Or.inr rfl)) pgs_nil))))))))
    (pss_cons (ps_expr (C8.pe_c (ok_require T) hr (by decide) rfl (pa_cons (C8.pe_c (ok_is_ascending T) hr (by decide) rfl (pa_cons (pe_slice (z_sl (K := K) rfl) (pv 1) (po_some (pe_callB (z_max2 rfl) (by rfl) T.g_max (by decide +kernel) (pa_cons pe_int (pa_cons (pe_op op_sub (pv 2) pe_int) pa_nil)))) (po_some (pe_op (z_add (K := K) rfl) (pv 2) pe_int))) pa_nil)) (pa_cons pe_str (pa_cons (pv 2) pa_nil)))))
    (pss_cons (ps_expr (C8.pe_c (ok_require T) hr (by decide) rfl (pa_cons (pe_cmpR op_le (pv 5) (pv 6) (nomark _)) (pa_cons pe_str (pa_cons (pv 2) pa_nil)))))
    (pss_cons (ps_expr (C8.pe_c (ok_require T) hr (by decide) rfl (pa_cons (pe_cmpR (z_in (K := K) rfl) (pv 7) (C8.pe_gc (v := .ref (He.ga K "KINDS")) rfl T.k_KINDS) (by first | rfl | with_unfolding_all rfl)) (pa_cons pe_str (pa_cons (pv 2) pa_nil)))))
    (pss_cons (ps_expr (C8.pe_c (ok_require T) hr (by decide) rfl (pa_cons (pe_or (pe_cmpR (z_ne (K := K) hr.units rfl) (pv 7) pe_str (nomark _)) (pe_one (pe_cmpR (z_eq (K := K) hr.units rfl) (pv 8) pe_int (nomark _)))) (pa_cons pe_str (pa_cons (pv 2) pa_nil)))))
    (pss_one (ps_expr (C8.pe_c (ok_require T) hr (by decide) rfl (pa_cons (C8.pe_c (ok_are_waits T) hr (by decide) rfl (pa_cons (pv 1) (pa_cons (pv 3) pa_nil))) (pa_cons pe_str (pa_cons (pv 2) pa_nil)))))))))))))), ?_⟩
  obtain ⟨ds, d, rr, ⟨p, rfl, h, rfl⟩, q⟩ := h
  refine ro_fun ?_ rr q
  have hl := h.len
  refine ro_s (ro_set (d := .lst (sD (names p))) (ee_names (ee_var rfl) (by show 3 < 10; omega) (by simp) (by omega)) (.inr rfl) rfl) ?_
  refine ro_for (fun _ => [.rd (.tup (rowsD p.rows)), .rd (.lst (sD (names p))), .no, .no, .no, .no, .no, .no, .no, .no]) (wo_eTv rfl) Weak.refl (enumD_tu rowsD_tus) (fun i d hd => ?_) rfl
  obtain ⟨x, hx, rfl⟩ := enumD_get' hd
  obtain ⟨r, hr, rfl⟩ := map_get hx
  have ok := h.row r (List.mem_of_getElem? hr)
  refine ⟨_, go_tup (gos_cons go_name (gos_cons go_name gos_nil)) rfl, ?_⟩
  refine ro_s (ro_asg (ee_var rfl) (.inr rfl) (go_tup (gos_cons go_name (gos_cons go_name (gos_cons go_name (gos_cons go_name (gos_cons go_name (gos_cons go_name gos_nil)))))) rfl) rfl) ?_
  obtain ⟨ys, hy, hs⟩ := cut_sD (xs := names p) (lo := some (max 0 ((i : Int) - 1))) (hi := some ((i : Int) + 1))
  refine ro_s (ro_drop (ee_call (es_cons (ee_call (d := dB true) (es_cons (ee_is (ee_slL (ee_var rfl) (eo_some (ee_cb (es_cons ee_c (es_cons (ee_op (ee_var rfl) ee_c fun _ => rd_I0) es_nil)) fun _ => rc_max2)) (eo_some (ee_op (ee_var rfl) ee_c fun _ => rd_addI))) (congrArg D.lst hy)) es_nil) ⟨ys, .inr rfl, h.asc.sublist hs, ?_, rfl⟩) (es_cons ee_c (es_cons (ee_var rfl) es_nil))) ⟨_, _, rfl, rfl⟩) (.inr rfl) rfl) ?_
  · have := hs.length_le
    have e : (names p).length = p.rows.length := by simp [names]
    omega
  refine ro_s (ro_drop (ee_call (es_cons (ee_is (ee_op (ee_var rfl) (ee_var rfl) fun _ => rd_I0) (d' := dB true) (by simp [ok.fl])) (es_cons ee_c (es_cons (ee_var rfl) es_nil))) ⟨_, _, rfl, rfl⟩) (.inr rfl) rfl) ?_
  refine ro_s (ro_drop (ee_call (es_cons (ee_is (ee_op (ee_var rfl) (ee_cR T.KINDS) fun _ => rd_inT) (d' := dB true) (by simp [ok.kd])) (es_cons ee_c (es_cons (ee_var rfl) es_nil))) ⟨_, _, rfl, rfl⟩) (.inr rfl) rfl) ?_
  refine ro_s (ro_drop (ee_call (es_cons (ee_is (ee_or (ee_op (ee_var rfl) ee_c fun _ => rd_neX rfl) fun _ => ee_op (ee_var rfl) ee_c fun _ => rd_eqX rfl) (d' := dB true) ?_) (es_cons ee_c (es_cons (ee_var rfl) es_nil))) ⟨_, _, rfl, rfl⟩) (.inr rfl) rfl) ?_
  · by_cases hk : r.kind = "host"
    · simp [ok.hp hk]
    · simp [hk]
  refine ro_drop (ee_call (es_cons (ee_call (d := dB true) (es_cons (ee_var rfl) (es_cons (ee_var rfl) es_nil)) ⟨names p, p.closing, r, rfl, ok, h.nms, rfl⟩) (es_cons ee_c (es_cons (ee_var rfl) es_nil))) ⟨_, _, rfl, rfl⟩) (.inr rfl) ?_
  exact .keep rfl (.keep rfl (.drop (.drop (.drop (.drop (.drop (.drop (.drop (.drop .nil)))))))))
end
end Pa
set_option Elab.async false
set_option linter.all false
set_option maxRecDepth 100000
set_option maxHeartbeats 4000000
/-! the order of data -/
namespace Pa
open PySem PySem.Spec PyProof.Rows L2 Evl
open PySem.W (dataLt dataLe alike alikeAll keyToks keyToksAll)
def sLt (a b : Str) : Prop := a.cps.toList < b.cps.toList
theorem lt_tup_lt {a b : Str} {xs ys : List PyData} (h : sLt a b) : dataLt (.tuple (.str a :: xs)) (.tuple (.str b :: ys)) = true := by
  unfold dataLt
  rw [keyToks, keyToks, keyToksAll, keyToksAll, keyToks, keyToks]
  rw [PyProof.Rows.lex_self]
  refine PyProof.Rows.lex_true.mpr (.inl ?_)
  show decide (a.cps.toList < b.cps.toList) = true
  exact decide_eq_true h
theorem lt_tup_eq {x : PyData} {xs ys : List PyData} : dataLt (.tuple (x :: xs)) (.tuple (x :: ys)) = dataLt (.tuple xs) (.tuple ys) := by
  unfold dataLt
  rw [keyToks, keyToks, keyToksAll, keyToksAll, keyToks, keyToks]
  rw [PyProof.Rows.lex_self, PySem.W.lex_pre]
theorem lt_str {a b : Str} (h : sLt a b) : dataLt (.str a) (.str b) = true := by
  unfold dataLt
  rw [keyToks, keyToks]
  refine PyProof.Rows.lex_true.mpr (.inl ?_)
  show decide (a.cps.toList < b.cps.toList) = true
  exact decide_eq_true h
theorem lt_int {a b : Int} (h : a < b) : dataLt (.int a) (.int b) = true := by
  unfold dataLt
  rw [keyToks, keyToks]
  refine PyProof.Rows.lex_true.mpr (.inl ?_)
  show decide (a < b) = true
  exact decide_eq_true h
theorem le_of_lt {a b : D} (h : dataLt a.py b.py = true) : dataLe false D.py a b = true := by
  show (!PyProof.Rows.lexLt itemOrd (keyToks b.py) (keyToks a.py)) = true
  have h' : PyProof.Rows.lexLt itemOrd (keyToks a.py) (keyToks b.py) = true := h
  cases e : PyProof.Rows.lexLt itemOrd (keyToks b.py) (keyToks a.py) with
  | false => rfl
  | true =>
    have t := PyProof.Rows.lex_trans _ _ _ h' e
    rw [PyProof.Rows.lex_irrefl] at t
    cases t
theorem not_le_of_lt {a b : D} (h : dataLt a.py b.py = true) : dataLe false D.py b a = false := by
  show (!PyProof.Rows.lexLt itemOrd (keyToks a.py) (keyToks b.py)) = false
  rw [show PyProof.Rows.lexLt itemOrd (keyToks a.py) (keyToks b.py) = true from h]
  rfl
/-- what sorted makes of a list: the one strictly rising list of the same items -/
theorem sort_is {ds es : List D} (hp : ds.Perm es) (hs : es.Pairwise fun a b => dataLt a.py b.py = true) : ds.mergeSort (dataLe false D.py) = es := by
  have tl := PySem.W.sortLe_total (PyProof.Rows.listOrd itemOrd) false fun b : D => keyToks b.py
  refine List.Perm.eq_of_pairwise (le := fun a b => dataLe false D.py a b = true) (fun a b ha hb h1 h2 => ?_) (List.pairwise_mergeSort tl.trans (fun a b => ?_) ds) (hs.imp fun h => le_of_lt h) ((List.mergeSort_perm _ _).trans hp)
  · have ha' : a ∈ es := hp.mem_iff.mp ((List.mergeSort_perm _ _).mem_iff.mp ha)
    obtain ⟨i, hi⟩ := List.getElem?_of_mem ha'
    obtain ⟨j, hj⟩ := List.getElem?_of_mem hb
    obtain ⟨i1, i2⟩ := List.getElem?_eq_some_iff.mp hi
    obtain ⟨j1, j2⟩ := List.getElem?_eq_some_iff.mp hj
    have hpw := List.pairwise_iff_getElem.mp hs
    rcases Nat.lt_trichotomy i j with h | h | h
    · have := not_le_of_lt (hpw i j i1 j1 h)
      rw [i2, j2, h2] at this
      cases this
    · subst h
      rw [← i2, ← j2]
    · have := not_le_of_lt (hpw j i j1 i1 h)
      rw [i2, j2, h1] at this
      cases this
  · rcases tl.total a b with h | h
    · rw [h]; rfl
    · rw [h, Bool.or_true]
theorem alike_strs : ∀ {xs ys : List Str}, alikeAll (D.pys (sD xs)) (D.pys (sD ys)) = true
  | [], _ => by
    show alikeAll (D.pys []) _ = true
    rw [D.pys, alikeAll]
  | _ :: _, [] => by
    show alikeAll (D.pys (_ :: _)) (D.pys []) = true
    rw [D.pys, D.pys, alikeAll]
  | x :: xs, y :: ys => by
    show alikeAll (D.pys (dS x :: sD xs)) (D.pys (dS y :: sD ys)) = true
    rw [D.pys, D.pys, alikeAll, alike_strs (xs := xs) (ys := ys)]
    rfl
theorem alike_row {r s : Row} : alike r.d.py s.d.py = true := by
  simp [D.py, D.pys, alike, alikeAll, alike_strs]
theorem alike_tie {r s : Tie} : alike r.d.py s.d.py = true := by
  simp [D.py, D.pys, alike, alikeAll]
theorem row_lt {r s : Row} (h : sLt r.nm s.nm) : dataLt r.d.py s.d.py = true := by
  rw [D.py, D.py, D.pys, D.pys]
  exact lt_tup_lt h
theorem tie_lt {r s : Tie} (h : tieLt r s) : dataLt r.d.py s.d.py = true := by
  rw [D.py, D.py, D.pys, D.pys, D.pys, D.pys]
  rcases h with h | ⟨e, h⟩
  · exact lt_tup_lt h
  · show dataLt (.tuple (.str r.one :: .str r.oth :: _)) (.tuple (.str s.one :: .str s.oth :: _)) = true
    rw [e, lt_tup_eq]
    exact lt_tup_lt h
theorem tie2_lt {r s : Tie} (h : tieLt r s) : dataLt (D.tup [dS r.one, dS r.oth]).py (D.tup [dS s.one, dS s.oth]).py = true := by
  rw [D.py, D.py, D.pys, D.pys, D.pys, D.pys]
  rcases h with h | ⟨e, h⟩
  · exact lt_tup_lt h
  · show dataLt (.tuple (.str r.one :: .str r.oth :: _)) (.tuple (.str s.one :: .str s.oth :: _)) = true
    rw [e, lt_tup_eq]
    exact lt_tup_lt h
theorem oks_strs {n : Nat} {xs : List Str} (h : ∀ x ∈ xs, isNm x) : D.oks n (sD xs) = true := oks_all fun d hd => by
  obtain ⟨x, hx, rfl⟩ := List.mem_map.mp hd
  cases n <;> exact isNm_ok (h x hx)
end Pa
set_option Elab.async false
set_option linter.all false
set_option maxRecDepth 100000
set_option maxHeartbeats 8000000
namespace Pa
open PySem PySem.Spec PyProof.Rows L2 Evl
section
variable {P : Program} {w : World} {K : PySem.W.Frag} {mg : Str → Option Value} {base : Heap}

def gChTies : List D → D → Prop := fun ds d => ∃ p : Party, ds = [.tup (rowsD p.rows), .tup (tiesD p.ties)] ∧ PartyOk p ∧ d = dN
theorem cut2 {a b c : D} : cutD [a, b, c] none (some 2) = [a, b] := rfl
theorem PartyOk.tie_nm {p : Party} (h : PartyOk p) {t : Tie} (ht : t ∈ p.ties) : isNm t.one ∧ isNm t.oth := ⟨h.nms _ (h.tin t ht).1, h.nms _ (h.tin t ht).2.1⟩
theorem pair_ok {a b : Str} (h : isNm a) (h' : isNm b) : D.ok 1 (.tup [dS a, dS b]) = true := by
  simp [D.ok, D.oks, okV, isNm_ok h, isNm_ok h']

theorem sc_check_ties : FnScope ["rows", "ties", "people", "k", "one", "other", "most", "row"] ["rows", "ties"] d_check_ties.scope := ⟨rfl, rfl, rfl, by decide +kernel, rfl, by decide +kernel, by decide +kernel⟩
theorem ok_check_ties (T : Wd K mg base) : C8.Cal P w K mg base (1 + 1) "check_ties" (spD K gChTies) [] := by
  refine cal_of T 16 33 (d := d_check_ties) rfl rfl rfl rfl rfl sc_check_ties (spD_len fun ds d ⟨_, e, _⟩ => by rw [e]; rfl) (fun _ _ _ _ _ _ us hl => match us, hl with | [_, _], _ => rfl) fun cdv A outer s H vs Q E hr h => ?_
  refine ⟨_, (pss_cons (ps_setLc (i := 2) (own := [("row", 7)]) (by rfl) sc_check_ties.nd rfl rfl (sw_true rfl rfl rfl (by decide +kernel)) (zi_any (K := K) rfl (pv 0)) (blkOk_by (own := [("row", 7)]) (N := ["rows", "ties", "people", "k", "one", "other", "most", "row"]) (sc := d_check_ties.scope) (by decide +kernel)) (fun _ _ _ _ _ => (pg_name (i := 7) sc_check_ties.nd rfl (by first | exact Or.inl rfl | exact Or.inr rfl))) (fun _ _ _ _ _ => pts_nil) (fun _ _ _ _ _ => (pe_ix (z_ix (K := K) rfl) (pv 7) pe_int (fun _ _ => rfl))))
    (pss_one (ps_for PassesOwn.never rfl (pi_enumX (K := K) rfl (by rfl) T.g_enumerate (pa_cons (pv 1) pa_nil)) (zg_tup (K := K) (n := 2) rfl rfl (pgs_cons (pg_name (i := 3) sc_check_ties.nd rfl (by first | exact Or.inl rfl | exact Or.inr rfl)) (pgs_cons (zg_tup (K := K) (n := 3) rfl rfl (pgs_cons (pg_name (i := 4) sc_check_ties.nd rfl (by first | exact Or.inl rfl | exact Or.inr rfl)) (pgs_cons (pg_name (i := 5) sc_check_ties.nd rfl (by first | exact Or.inl rfl | exact Or.inr rfl)) (pgs_cons (pg_name (i := 6) sc_check_ties.nd rfl (by first | exact Or.inl rfl | exact Or.inr rfl)) pgs_nil)))) pgs_nil))) (pss_cons (ps_expr (C8.pe_c (ok_require T) hr (by decide) rfl (pa_cons (pe_and (pe_cmpR (z_in (K := K) rfl) (pv 4) (pv 2) (by first | rfl | with_unfolding_all rfl)) (pe_and (pe_cmpR (z_in (K := K) rfl) (pv 5) (pv 2) (by first | rfl | with_unfolding_all rfl)) (pe_one (pe_cmpR (z_ne (K := K) hr.units rfl) (pv 4) (pv 5) (nomark _))))) (pa_cons pe_str (pa_cons (pv 3) pa_nil)))))
    (pss_one (ps_expr (C8.pe_c (ok_require T) hr (by decide) rfl (pa_cons (pe_or (pe_cmpR (z_eq (K := K) hr.units rfl) (pv 3) pe_int (nomark _)) (pe_one (pe_cmpR (z_lt (K := K) hr.units rfl) (pe_slice (z_sl (K := K) rfl) (pe_ix (z_ix (K := K) rfl) (pv 1) (pe_op op_sub (pv 3) pe_int) (fun _ _ => rfl)) po_none (po_some pe_int)) (pe_tup (pa_cons (pv 4) (pa_cons (pv 5) pa_nil))) (nomark _)))) (pa_cons pe_str (pa_cons (pv 3) pa_nil)))))))))), ?_⟩
  obtain ⟨ds, d, rr, ⟨p, rfl, h, rfl⟩, q⟩ := h
  refine ro_fun ?_ rr q
  have hl := h.len
  have htl := h.tlen
  refine ro_s (ro_set (d := .lst (sD (names p))) (ee_names (ee_var rfl) (by show 7 < 8; omega) (by simp) (by omega)) (.inr rfl) rfl) ?_
  refine ro_for (fun _ => [.rd (.tup (rowsD p.rows)), .rd (.tup (tiesD p.ties)), .rd (.lst (sD (names p))), .no, .no, .no, .no, .no]) (wo_eTv rfl) Weak.refl (enumD_tu tiesD_tus) (fun i d hd => ?_) rfl
  obtain ⟨x, hx, rfl⟩ := enumD_get' hd
  obtain ⟨t, ht, rfl⟩ := map_get hx
  have hm := List.mem_of_getElem? ht
  obtain ⟨t1, t2, t3⟩ := h.tin t hm
  refine ⟨_, go_tup (gos_cons go_name (gos_cons (go_tup (gos_cons go_name (gos_cons go_name (gos_cons go_name gos_nil))) rfl) gos_nil)) rfl, ?_⟩
  refine ro_s (ro_drop (ee_call (es_cons (ee_is (ee_and (ee_op (ee_var rfl) (ee_var rfl) fun _ => rd_inL) fun _ => ee_and (ee_op (ee_var rfl) (ee_var rfl) fun _ => rd_inL) fun _ => ee_op (ee_var rfl) (ee_var rfl) fun _ => rd_neX rfl) (d' := dB true) (by simp [t1, t2, t3])) (es_cons ee_c (es_cons (ee_var rfl) es_nil))) ⟨_, _, rfl, rfl⟩) (.inr rfl) rfl) ?_
  have key : EvE K (tOrV (tOp (rEqX K) (tVar 3) (tC (.int 0))) (tOp (rLtX K) (tSl (rSlX K) (tOp (rIx K) (tVar 1) (tOp (rI0 fun i j => .int (i - j)) (tVar 3) (tC (.int 1)))) tNoPart (tPart (tC (.int 2)))) (tTup (tCons (tVar 4) (tCons (tVar 5) tNil))))) (vw [.rd (.tup (rowsD p.rows)), .rd (.tup (tiesD p.ties)), .rd (.lst (sD (names p))), .rd (dI (i : Int)), .rd (dS t.one), .rd (dS t.oth), .rd (dI t.most), .no]) (dB true) := by
    refine ee_is (ee_or (m := true) (ee_op (ee_var rfl) ee_c fun _ => rd_eqX rfl) fun hk => ?_) (by simp)
    have hi : i ≠ 0 := by simpa using hk
    obtain ⟨j, rfl⟩ : ∃ j, i = j + 1 := ⟨i - 1, by omega⟩
    have hjl : j + 1 < p.ties.length := (List.getElem?_eq_some_iff.mp ht).1
    have hj : p.ties[j]? = some p.ties[j] := by simp [Nat.lt_of_succ_lt hjl]
    have hlt : tieLt p.ties[j] t := by
      have := List.pairwise_iff_getElem.mp h.tasc j (j + 1) (Nat.lt_of_succ_lt hjl) hjl (Nat.lt_succ_self _)
      rwa [(List.getElem?_eq_some_iff.mp ht).2] at this
    have n1 := h.tie_nm (List.mem_of_getElem? hj)
    have n2 := h.tie_nm hm
    refine ee_is (ee_op (ee_is (ee_slT (ee_op (ee_var rfl) (ee_is (ee_op (ee_var rfl) ee_c fun _ => rd_I0) (d' := dI (j : Int)) (by congr 2; omega)) fun _ => rd_ixX (n := j) (d := p.ties[j].d) rfl (by rw [List.getElem?_map, hj]; rfl)) eo_non (eo_some ee_c)) (congrArg D.tup cut2)) (ee_tup (es_cons (ee_var rfl) (es_cons (ee_var rfl) es_nil)) (by simp)) fun _ => rd_ltT (pair_ok n1.1 n1.2) (pair_ok n2.1 n2.2) (by decide) (by simp [D.py, D.pys, PySem.W.alike, PySem.W.alikeAll])) (by rw [tie2_lt hlt])
  refine ro_drop (ee_call (es_cons key (es_cons ee_c (es_cons (ee_var rfl) es_nil))) ⟨_, _, rfl, rfl⟩) (.inr rfl) ?_
  exact .keep rfl (.keep rfl (.keep rfl (.drop (.drop (.drop (.drop (.drop .nil)))))))
def gLets : List D → D → Prop := fun ds d => ∃ p : Party, ds = [p.d] ∧ PartyOk p ∧ 0 ≤ p.closing ∧ d = dI (p.rows.length : Int)
theorem rows_ne {p : Party} (h : PartyOk p) : PyData.eqv (D.tup (rowsD p.rows)).py (D.tup []).py = false := by
  cases e : p.rows with
  | nil => exact absurd e h.ne
  | cons r rs =>
    rw [D.py, D.py, D.pys]
    show PyData.eqv (.tuple (D.pys (_ :: _))) (.tuple []) = false
    rw [D.pys, PyData.eqv, PyData.eqvAll]
theorem rows_ok {p : Party} (h : PartyOk p) : D.ok 3 (.tup (rowsD p.rows)) = true := by
  rw [D.ok]
  refine oks_all fun d hd => ?_
  obtain ⟨r, hr, rfl⟩ := List.mem_map.mp hd
  have ok := h.row r hr
  have hk : PyData.strOk r.kind = true := by
    have := ok.kd
    simp [kindsS] at this
    rcases this with e | e | e | e <;> rw [e] <;> decide +kernel
  have hw := oks_strs (n := 0) (xs := r.waits) fun x hx => h.nms x (ok.wi x hx).1
  simp [D.ok, D.oks, okV, isNm_ok ok.nm, hk, hw]

theorem sc_lets_party : FnScope ["thing", "rows", "ties", "closing", "row"] ["thing"] d_lets_party.scope := ⟨rfl, rfl, rfl, by decide +kernel, rfl, by decide +kernel, by decide +kernel⟩
theorem ok_lets_party (T : Wd K mg base) : C8.Cal P w K mg base (6 + 1) "lets_party" (spD K gLets) [] := by
  refine cal_of T 17 34 (d := d_lets_party) rfl rfl rfl rfl rfl sc_lets_party (spD_len fun ds d ⟨_, e, _⟩ => by rw [e]; rfl) (fun _ _ _ _ _ _ us hl => match us, hl with | [_], _ => rfl) fun cdv A outer s H vs Q E hr h => ?_
  refine ⟨_, (pss_cons (ps_expr (C8.pe_c (ok_require T) hr (by decide) rfl (pa_cons (pe_and (pe_callB (z_isi (K := K) rfl) (by rfl) T.g_isinstance (by decide +kernel) (pa_cons (pv 0) (pa_cons (pe_bltn (v := .ty "tuple") (by rfl) T.g_tuple (by decide +kernel) rfl) pa_nil))) (pe_one (pe_cmpR (z_eq (K := K) hr.units rfl) (pe_callB (z_len (K := K) rfl) (by rfl) T.g_len (by decide +kernel) (pa_cons (pv 0) pa_nil)) pe_int (nomark _)))) (pa_cons pe_str (pa_cons (pe_un un_neg pe_int) pa_nil)))))
    (pss_cons (ps_asg (pv 0) (zg_tup (K := K) (n := 3) rfl rfl (pgs_cons (pg_name (i := 1) sc_lets_party.nd rfl (by first | exact Or.inl rfl | exact Or.inr rfl)) (pgs_cons (pg_name (i := 2) sc_lets_party.nd rfl (by first | exact Or.inl rfl | exact Or.inr rfl)) (pgs_cons (pg_name (i := 3) sc_lets_party.nd rfl (by first | exact Or.inl rfl | exact Or.inr rfl)) pgs_nil)))))
    (pss_cons (ps_expr (C8.pe_c (ok_require T) hr (by decide) rfl (pa_cons (pe_and (C8.pe_c (ok_is_tuple_of 5 T) hr (by decide) rfl (pa_cons (pv 1) (pa_cons (C8.pe_gc (v := .ref (He.ga K "is_row")) rfl T.k_is_row) pa_nil))) (pe_and (C8.pe_c (ok_is_tuple_of 5 T) hr (by decide) rfl (pa_cons (pv 2) (pa_cons (C8.pe_gc (v := .ref (He.ga K "is_tie")) rfl T.k_is_tie) pa_nil))) (pe_one (C8.pe_c (ok_is_number T) hr (by decide) rfl (pa_cons (pv 3) pa_nil))))) (pa_cons pe_str (pa_cons (pe_un un_neg pe_int) pa_nil)))))
    (pss_cons (ps_expr (C8.pe_c (ok_require T) hr (by decide) rfl (pa_cons (pe_cmpR (z_ne (K := K) hr.units rfl) (pv 1) (pe_tup pa_nil) (nomark _)) (pa_cons pe_str (pa_cons (pe_un un_neg pe_int) pa_nil)))))
    (pss_cons (ps_expr (C8.pe_c (ok_check_rows T) hr (by decide) rfl (pa_cons (pv 1) pa_nil)))
    (pss_cons (ps_expr (C8.pe_c (ok_check_ties T) hr (by decide) rfl (pa_cons (pv 1) (pa_cons (pv 2) pa_nil))))
    (pss_cons (ps_expr (C8.pe_c (ok_require T) hr (by decide) rfl (pa_cons (pe_callB (z_all (K := K) rfl rfl) (by rfl) T.g_all (by decide +kernel) (pa_cons (pe_lc (own := [("row", 4)]) (by rfl) sc_lets_party.nd (zi_any (K := K) rfl (pv 1)) (blkOk_by (own := [("row", 4)]) (N := ["thing", "rows", "ties", "closing", "row"]) (sc := d_lets_party.scope) (by decide +kernel)) (fun _ _ _ _ _ => (pg_name (i := 4) sc_lets_party.nd rfl (by first | exact Or.inl rfl | exact Or.inr rfl))) (fun _ _ _ _ _ => pts_nil) (fun _ _ _ _ _ => (pe_cmpR op_le (pe_ix (z_ix (K := K) rfl) (pv 4) pe_int (fun _ _ => rfl)) (pv 3) (nomark _)))) pa_nil)) (pa_cons pe_str (pa_cons (pe_un un_neg pe_int) pa_nil)))))
    (pss_cons (ps_expr (C8.pe_c (ok_require T) hr (by decide) rfl (pa_cons (pe_cmpR z_notN (C8.pe_c (ok_tightest T) hr (by decide) rfl (pa_cons (pv 0) pa_nil)) pe_non (nomark _)) (pa_cons pe_str (pa_cons (pe_un un_neg pe_int) pa_nil)))))
    (pss_one (ps_ret (pe_callB (z_len (K := K) rfl) (by rfl) T.g_len (by decide +kernel) (pa_cons (pv 1) pa_nil)))))))))))), ?_⟩
  obtain ⟨ds, d, rr, ⟨p, rfl, h, hcl, rfl⟩, q⟩ := h
  refine ro_fun ?_ rr q
  have hl := h.len
  have htl := h.tlen
  have at1 : ∀ {ρ : Env}, EvEs K (tCons (tC (.str "shape")) (tCons (tUn (rU fun i => .int (-i)) (tC (.int 1))) tNil)) ρ [dS "shape", dI (-1)] := es_cons ee_c (es_cons (ee_un ee_c fun _ => ru_neg) es_nil)
  refine ro_s (ro_drop (ee_call (es_cons (ee_is (ee_and (k := true) ?_ fun _ => ee_op (ee_cb (es_cons (ee_var rfl) es_nil) fun _ => rc_lenT) ee_c fun _ => rd_eqX rfl) (d' := dB true) (by simp)) at1) ⟨_, _, rfl, rfl⟩) (.inr rfl) rfl) ?_
  · (repeat' (first | with_reducible exact ee_c | ((with_reducible apply ee_var); rfl) | with_reducible apply ee_op | with_reducible exact es_nil | with_reducible apply es_cons | with_reducible apply ee_tup | with_reducible apply ee_lst | with_reducible apply ee_cb | with_reducible apply ee_chain | with_reducible apply ee_not | with_reducible apply te_not | with_reducible apply te_test | with_reducible apply te_B | with_reducible exact te_yes | with_reducible apply eo_some | with_reducible exact eo_non | (show List.length _ ≤ 100000; simp; done) | with_reducible exact fun _ => rd_addI | with_reducible exact fun _ => rd_I0 | with_reducible exact fun _ => rd_eqX rfl | with_reducible exact fun _ => rd_neX rfl | with_reducible exact fun _ => rd_ltI | with_reducible exact fun _ => rd_ltS | with_reducible exact fun _ => rd_inC | exact fun _ => rd_ixX (n := 0) rfl rfl | exact fun _ => rd_ixX (n := 1) rfl rfl | exact fun _ => rd_ixX (n := 2) rfl rfl | exact fun _ => rd_ixX (n := 3) rfl rfl | exact fun _ => rd_ixX (n := 4) rfl rfl | exact fun _ => rd_ixX (n := 5) rfl rfl | with_reducible exact fun _ => rc_lenL | with_reducible exact fun _ => rc_lenT | with_reducible exact fun _ => rc_tupL | with_reducible exact fun _ => rc_listT | with_reducible exact fun _ => rc_all | with_reducible exact fun _ => rc_any | exact fun _ => rc_isi (by intro z; cases z) (kit_ty (by decide +kernel)) | with_reducible exact fun _ => rc_min2 | with_reducible exact fun _ => rc_max2 | with_reducible exact fun _ => rd_isN | with_reducible exact fun _ => rd_notN | with_reducible exact fun _ => rd_isNt | with_reducible exact fun _ => rd_notNt | with_reducible exact fun _ => rd_notNl | with_reducible exact wke_t (ee_var rfl) | with_reducible exact wke_l (ee_var rfl) | with_reducible apply ee_call | with_reducible exact ru_neg | with_reducible exact fun _ => ru_neg | with_reducible apply ee_un))
  refine ro_s (ro_asg (ee_var rfl) (.inr rfl) (go_tup (gos_cons go_name (gos_cons go_name (gos_cons go_name gos_nil))) rfl) rfl) ?_
  refine ro_s (ro_drop (ee_call (es_cons (ee_is (ee_and (k := true) (m := true) ?_ fun _ => ee_is (ee_and (k := true) (m := true) ?_ fun _ => ?_) rfl) (d' := dB true) rfl) at1) ⟨_, _, rfl, rfl⟩) (.inr rfl) rfl) ?_
  · refine ee_call (es_cons (ee_var rfl) (es_cons ee_c es_nil)) ⟨_, _, _, rfl, at_of_cal (ok_is_row T) (by decide) T.m_is_row, fun e he => ?_, by rw [List.length_map]; omega, rfl⟩
    obtain ⟨r, hr, rfl⟩ := List.mem_map.mp he
    have ok := h.row r hr
    have := ok.f0
    have := ok.fl
    exact ⟨r, rfl, ok.nm, ok.f0, by omega, ok.p0, fun x hx => h.nms x (ok.wi x hx).1, ok.wl, rfl⟩
  · refine ee_call (es_cons (ee_var rfl) (es_cons ee_c es_nil)) ⟨_, _, _, rfl, at_of_cal (ok_is_tie T) (by decide) T.m_is_tie, fun e he => ?_, by rw [List.length_map]; omega, rfl⟩
    obtain ⟨t, ht, rfl⟩ := List.mem_map.mp he
    exact ⟨t, rfl, (h.tie_nm ht).1, (h.tie_nm ht).2, rfl⟩
  · exact ee_call (es_cons (ee_var rfl) es_nil) ⟨_, rfl, hcl, rfl⟩
  refine ro_s (ro_drop (ee_call (es_cons (ee_is (ee_op (ee_var rfl) (ee_tup es_nil (by simp)) fun _ => rd_neP (rows_ok h) (m := 1) rfl (by decide) (by decide)) (d' := dB true) (by rw [rows_ne h]; rfl)) (es_cons ee_c (es_cons (ee_un ee_c fun _ => ru_neg) es_nil))) ⟨_, _, rfl, rfl⟩) (.inr rfl) rfl) ?_
  refine ro_s (ro_drop (ee_call (d := dN) (es_cons (ee_var rfl) es_nil) ⟨p, rfl, h, rfl⟩) (.inr rfl) rfl) ?_
  refine ro_s (ro_drop (ee_call (d := dN) (es_cons (ee_var rfl) (es_cons (ee_var rfl) es_nil)) ⟨p, rfl, h, rfl⟩) (.inr rfl) rfl) ?_
  refine ro_s (ro_drop (ee_call (es_cons (ee_cb (d := dB true) (es_cons (ee_lcN (fun _ => dB true) (wke_t (ee_var rfl)) (by rw [List.length_map]; omega) (by simp) (fun _ _ => rfl) fun d hd => ?_) es_nil) fun _ => rc_allT) (es_cons ee_c (es_cons (ee_un ee_c fun _ => ru_neg) es_nil))) ⟨_, _, rfl, rfl⟩) (.inr rfl) rfl) ?_
  · obtain ⟨r, hr, rfl⟩ := List.mem_map.mp hd
    have ok := h.row r hr
    exact ee_is (ee_op (ee_op (ee_var rfl) ee_c fun _ => rd_ixX (n := 2) rfl rfl) (ee_var rfl) fun _ => rd_I0) (by simp [ok.lc])
  refine ro_s (ro_drop (ee_call (es_cons (ep_op (P := qTab) (ep_callD (es := [.tup []]) (es_cons (ee_var rfl) es_nil) (fun H => .cons T.more0 .nil) ⟨p, rfl, h⟩) ee_c (z := dB true) fun d hd H => ?_) (es_cons ee_c (es_cons (ee_un ee_c fun _ => ru_neg) es_nil))) ⟨_, _, rfl, rfl⟩) (.inr rfl) rfl) ?_
  · obtain ⟨ts, rfl⟩ := hd
    exact rd_notNl
  refine ro_ret (ee_is (ee_cb (es_cons (ee_var rfl) es_nil) fun _ => rc_lenT) (by simp)) (.inr rfl) rfl
end
end Pa
set_option Elab.async false
set_option linter.all false
set_option maxRecDepth 100000
set_option maxHeartbeats 4000000
/-! sorting, renaming, later: in plain Lean -/
namespace Pa
open PySem PySem.Spec PyProof.Rows L2 Evl
open PySem.W (dataLt dataLe alike alikeAll keyToks keyToksAll)
def sortD {α : Type} (enc : α → D) (l : List α) : List α := l.mergeSort (dataLe false fun a => (enc a).py)
section
variable {α : Type} {enc : α → D} {l m : List α}
theorem sort_enc : (l.map enc).mergeSort (dataLe false D.py) = (sortD enc l).map enc := (PySem.W.sort_maps enc (r := dataLe false fun a => (enc a).py) (s := dataLe false D.py) (l := l) fun a _ b _ => rfl).symm
theorem sortD_perm : (sortD enc l).Perm l := List.mergeSort_perm _ _
theorem sortD_mem {a : α} : a ∈ sortD enc l ↔ a ∈ l := sortD_perm.mem_iff
theorem sortD_len : (sortD enc l).length = l.length := sortD_perm.length_eq
theorem sortD_le : (sortD enc l).Pairwise fun a b => dataLt (enc b).py (enc a).py = false := by
  have tl := PySem.W.sortLe_total (PyProof.Rows.listOrd itemOrd) false fun a : α => keyToks (enc a).py
  refine (List.pairwise_mergeSort tl.trans (fun a b => ?_) l).imp fun {a b} h => ?_
  · rcases tl.total a b with h | h
    · rw [h]; rfl
    · rw [h, Bool.or_true]
  · have h' : (!PyProof.Rows.lexLt itemOrd (keyToks (enc b).py) (keyToks (enc a).py)) = true := h
    show PyProof.Rows.lexLt itemOrd (keyToks (enc b).py) (keyToks (enc a).py) = false
    cases e : PyProof.Rows.lexLt itemOrd (keyToks (enc b).py) (keyToks (enc a).py) with
    | false => rfl
    | true => rw [e] at h'; cases h'
/-- a strict order that the encoding shows, total on the list: sorted strictly -/
theorem sortD_lt (lt : α → α → Prop) (h1 : ∀ a b, lt a b → dataLt (enc a).py (enc b).py = true) (h2 : l.Pairwise fun a b => lt a b ∨ lt b a) : (sortD enc l).Pairwise lt := by
  have hs : (sortD enc l).Pairwise fun a b => lt a b ∨ lt b a := (sortD_perm.pairwise_iff fun {a b} h => h.symm).mpr h2
  refine (hs.and sortD_le).imp fun {a b} h => ?_
  rcases h.1 with q | q
  · exact q
  · have := h1 _ _ q
    rw [h.2] at this
    cases this
/-- two lists that rise strictly, of the same items -/
theorem rise_eq {lt : α → α → Prop} (irr : ∀ a b, lt a b → lt b a → False) (h1 : l.Pairwise lt) (h2 : m.Pairwise lt) (p : l.Perm m) : l = m :=
  List.Perm.eq_of_pairwise (le := lt) (fun a b _ _ q r => (irr a b q r).elim) h1 h2 p
end
theorem sLt_tri (a b : Str) : sLt a b ∨ a = b ∨ sLt b a := by
  unfold sLt
  by_cases h : a.cps.toList < b.cps.toList
  · exact .inl h
  · by_cases h' : b.cps.toList < a.cps.toList
    · exact .inr (.inr h')
    · refine .inr (.inl (PySem.W.str_of_cps ?_))
      exact List.le_antisymm (List.not_lt.mp h') (List.not_lt.mp h)
theorem sLt_irr {a b : Str} (h : sLt a b) (h' : sLt b a) : False := lt_irr _ (List.lt_trans h h')
theorem sLt_self {a : Str} (h : sLt a a) : False := lt_irr _ h
/-! ### sorted names -/
def sortS (xs : List Str) : List Str := sortD dS xs
theorem nodup_ne {α : Type} {l : List α} (h : l.Nodup) : l.Pairwise fun a b => a ≠ b := h
theorem sortS_asc {xs : List Str} (h : xs.Nodup) : Asc (sortS xs) := sortD_lt (enc := dS) sLt (fun a b q => lt_str q) (h.imp fun {a b} q => by
  rcases sLt_tri a b with t | t | t
  · exact .inl t
  · exact absurd t q
  · exact .inr t)
theorem asc_eq {xs ys : List Str} (h1 : Asc xs) (h2 : Asc ys) (p : xs.Perm ys) : xs = ys := rise_eq (lt := sLt) (fun a b => sLt_irr) h1 h2 p
theorem sortS_perm {xs : List Str} : (sortS xs).Perm xs := sortD_perm
theorem sortS_self {xs : List Str} (h : Asc xs) : sortS xs = xs := asc_eq (sortS_asc h.nodup) h sortS_perm
/-! ### renaming -/
def Row.ren (f : Str → Str) (r : Row) : Row := { r with nm := f r.nm, waits := sortS (r.waits.map f) }
def Tie.ren (f : Str → Str) (t : Tie) : Tie := ⟨f t.one, f t.oth, t.most⟩
def sortR (rs : List Row) : List Row := sortD Row.d rs
def sortT (ts : List Tie) : List Tie := sortD Tie.d ts
def Party.ren (f : Str → Str) (p : Party) : Party := ⟨sortR (p.rows.map (Row.ren f)), sortT (p.ties.map (Tie.ren f)), p.closing⟩
def rowLt (r s : Row) : Prop := sLt r.nm s.nm
theorem sortR_asc {rs : List Row} (h : (rs.map Row.nm).Nodup) : (sortR rs).Pairwise rowLt := sortD_lt rowLt (fun a b q => row_lt q) ((List.pairwise_map.mp h).imp fun {a b} q => by
  rcases sLt_tri a.nm b.nm with t | t | t
  · exact .inl t
  · exact absurd t q
  · exact .inr t)
theorem rows_eq {rs ss : List Row} (h1 : rs.Pairwise rowLt) (h2 : ss.Pairwise rowLt) (p : rs.Perm ss) : rs = ss := rise_eq (fun a b => sLt_irr) h1 h2 p
theorem asc_rows {rs : List Row} : Asc (rs.map Row.nm) ↔ rs.Pairwise rowLt := List.pairwise_map
def tieKey (t : Tie) : Str × Str := (t.one, t.oth)
theorem tieLt_irr {a b : Tie} (h : tieLt a b) (h' : tieLt b a) : False := by
  rcases h with h | ⟨e, h⟩ <;> rcases h' with h' | ⟨e', h'⟩
  · exact sLt_irr h h'
  · rw [e'] at h; exact sLt_self h
  · rw [e] at h'; exact sLt_self h'
  · exact sLt_irr h h'
theorem tieLt_tri (a b : Tie) (h : tieKey a ≠ tieKey b) : tieLt a b ∨ tieLt b a := by
  rcases sLt_tri a.one b.one with t | t | t
  · exact .inl (.inl t)
  · rcases sLt_tri a.oth b.oth with u | u | u
    · exact .inl (.inr ⟨t, u⟩)
    · exact absurd (by unfold tieKey; rw [t, u]) h
    · exact .inr (.inr ⟨t.symm, u⟩)
  · exact .inr (.inl t)
theorem sortT_asc {ts : List Tie} (h : (ts.map tieKey).Nodup) : (sortT ts).Pairwise tieLt := sortD_lt tieLt (fun a b q => tie_lt q) ((List.pairwise_map.mp h).imp fun {a b} q => tieLt_tri a b q)
theorem ties_eq {rs ss : List Tie} (h1 : rs.Pairwise tieLt) (h2 : ss.Pairwise tieLt) (p : rs.Perm ss) : rs = ss := rise_eq (fun a b => tieLt_irr) h1 h2 p
theorem asc_keys {ts : List Tie} (h : ts.Pairwise tieLt) : (ts.map tieKey).Nodup := List.pairwise_map.mpr (h.imp fun {a b} q e => by
  have e1 : a.one = b.one := congrArg Prod.fst e
  have e2 : a.oth = b.oth := congrArg Prod.snd e
  rcases q with q | ⟨_, q⟩
  · rw [e1] at q; exact lt_irr _ q
  · rw [e2] at q; exact lt_irr _ q)
/-- f renames the people of p -/
structure Ren (p : Party) (f : Str → Str) : Prop where
  inj : ∀ x ∈ names p, ∀ y ∈ names p, f x = f y → x = y
  nm : ∀ x ∈ names p, isNm (f x)
theorem nodup_map {α β : Type} {f : α → β} {l : List α} (h : l.Nodup) (inj : ∀ x ∈ l, ∀ y ∈ l, f x = f y → x = y) : (l.map f).Nodup := by
  refine List.pairwise_map.mpr ?_
  refine List.Pairwise.imp_of_mem ?_ h
  intro a b ha hb q e
  exact q (inj a ha b hb e)
section
variable {p : Party} {f g : Str → Str}
theorem Ren.rows (h : PartyOk p) (r : Ren p f) : ((p.rows.map (Row.ren f)).map Row.nm).Nodup := by
  have e : (p.rows.map (Row.ren f)).map Row.nm = (names p).map f := by simp [names, Row.ren]
  rw [e]
  exact nodup_map h.nd r.inj
theorem Ren.ties (h : PartyOk p) (r : Ren p f) : ((p.ties.map (Tie.ren f)).map tieKey).Nodup := by
  have e : (p.ties.map (Tie.ren f)).map tieKey = (p.ties.map tieKey).map fun k => (f k.1, f k.2) := by simp [Tie.ren, tieKey]
  rw [e]
  refine nodup_map (asc_keys h.tasc) fun x hx y hy q => ?_
  obtain ⟨t, ht, rfl⟩ := List.mem_map.mp hx
  obtain ⟨s, hs, rfl⟩ := List.mem_map.mp hy
  have h1 := h.tin t ht
  have h2 := h.tin s hs
  have q1 := r.inj _ h1.1 _ h2.1 (congrArg Prod.fst q)
  have q2 := r.inj _ h1.2.1 _ h2.2.1 (congrArg Prod.snd q)
  exact Prod.ext q1 q2
theorem ren_names (h : PartyOk p) (r : Ren p f) : (names (p.ren f)).Perm ((names p).map f) := by
  have e : (p.rows.map (Row.ren f)).map Row.nm = (names p).map f := by simp [names, Row.ren]
  rw [← e]
  exact sortD_perm.map Row.nm
theorem ren_mem (h : PartyOk p) (r : Ren p f) {y : Str} : y ∈ names (p.ren f) ↔ ∃ x ∈ names p, f x = y := by
  rw [(ren_names h r).mem_iff, List.mem_map]
theorem waits_nd (h : PartyOk p) (r : Ren p f) {x : Row} (hx : x ∈ p.rows) : (x.waits.map f).Nodup := by
  have ok := h.row x hx
  exact nodup_map ok.wa.nodup fun a ha b hb q => r.inj a (ok.wi a ha).1 b (ok.wi b hb).1 q
/-- the case moved by the names -/
def moved (p : Party) (f : Str → Str) (c : Str → Int) (y : Str) : Int := match (names p).find? fun x => decide (f x = y) with
  | some x => c x
  | none => 0
theorem moved_at (r : Ren p f) (c : Str → Int) {x : Str} (hx : x ∈ names p) : moved p f c (f x) = c x := by
  unfold moved
  cases e : (names p).find? fun z => decide (f z = f x) with
  | none =>
    have := List.find?_eq_none.mp e x hx
    simp at this
  | some z =>
    have h1 := List.find?_some e
    have h2 := List.mem_of_find?_eq_some e
    show c z = c x
    rw [r.inj z h2 x hx (by simpa using h1)]
theorem nm_mem {r : Row} (h : r ∈ p.rows) : r.nm ∈ names p := List.mem_map.mpr ⟨r, h, rfl⟩
theorem case_ren (h : PartyOk p) (r : Ren p f) {c : Str → Int} (hc : IsCase p c) : IsCase (p.ren f) (moved p f c) where
  win := fun x hx => by
    obtain ⟨y, hy, rfl⟩ := List.mem_map.mp (sortD_mem.mp hx)
    show y.fst ≤ moved p f c (f y.nm) ∧ moved p f c (f y.nm) ≤ y.lst
    rw [moved_at r c (nm_mem hy)]
    exact hc.win y hy
  tie := fun t ht => by
    obtain ⟨s, hs, rfl⟩ := List.mem_map.mp (sortD_mem.mp ht)
    obtain ⟨h1, h2, _⟩ := h.tin s hs
    show moved p f c (f s.one) ≤ moved p f c (f s.oth) + s.most
    rw [moved_at r c h1, moved_at r c h2]
    exact hc.tie s hs
theorem ren_ok (h : PartyOk p) (r : Ren p f) : PartyOk (p.ren f) where
  ne := fun e => by
    have := congrArg List.length (show sortR (p.rows.map (Row.ren f)) = [] from e)
    unfold sortR at this
    rw [sortD_len, List.length_map] at this
    exact h.ne (List.eq_nil_of_length_eq_zero this)
  len := by
    show (sortR _).length ≤ 100
    unfold sortR
    rw [sortD_len, List.length_map]
    exact h.len
  asc := asc_rows.mpr (sortR_asc (r.rows h))
  row := fun x hx => by
    obtain ⟨y, hy, rfl⟩ := List.mem_map.mp (sortD_mem.mp hx)
    have ok := h.row y hy
    refine ⟨r.nm _ (nm_mem hy), ok.f0, ok.fl, ok.lc, ok.kd, ok.p0, ok.hp, fun hk => ?_, sortS_asc (waits_nd h r hy), fun z hz => ?_, ?_⟩
    · show sortS (y.waits.map f) = []
      rw [ok.wn hk]
      exact List.eq_nil_of_length_eq_zero (by show (sortD _ _).length = 0; rw [sortD_len]; rfl)
    · obtain ⟨u, hu, rfl⟩ := List.mem_map.mp (sortD_mem.mp hz)
      obtain ⟨w1, w2⟩ := ok.wi u hu
      exact ⟨(ren_mem h r).mpr ⟨u, w1, rfl⟩, fun e => w2 (r.inj _ w1 _ (nm_mem hy) e)⟩
    · show (sortD _ _).length ≤ 1000
      rw [sortD_len, List.length_map]
      exact ok.wl
  tlen := by
    show (sortT _).length ≤ 1000
    unfold sortT
    rw [sortD_len, List.length_map]
    exact h.tlen
  tin := fun t ht => by
    obtain ⟨s, hs, rfl⟩ := List.mem_map.mp (sortD_mem.mp ht)
    obtain ⟨h1, h2, h3⟩ := h.tin s hs
    exact ⟨(ren_mem h r).mpr ⟨_, h1, rfl⟩, (ren_mem h r).mpr ⟨_, h2, rfl⟩, fun e => h3 (r.inj _ h1 _ h2 e)⟩
  tasc := sortT_asc (r.ties h)
  case := let ⟨c, hc⟩ := h.case; ⟨_, case_ren h r hc⟩
theorem row_ren_congr {r : Row} (h1 : f r.nm = g r.nm) (h2 : ∀ x ∈ r.waits, f x = g x) : r.ren f = r.ren g := by
  unfold Row.ren
  rw [h1, List.map_congr_left h2]
theorem ren_congr (h : PartyOk p) (e : ∀ x ∈ names p, f x = g x) : p.ren f = p.ren g := by
  unfold Party.ren
  rw [List.map_congr_left (l := p.rows) (g := Row.ren g) fun r hr => row_ren_congr (e _ (nm_mem hr)) fun x hx => e x ((h.row r hr).wi x hx).1]
  rw [List.map_congr_left (l := p.ties) (g := Tie.ren g) fun t ht => by unfold Tie.ren; rw [e _ (h.tin t ht).1, e _ (h.tin t ht).2.1]]
theorem ren_ren (h : PartyOk p) (r : Ren p f) (r2 : Ren (p.ren f) g) : (p.ren f).ren g = p.ren fun x => g (f x) := by
  have r3 : Ren p fun x => g (f x) := ⟨fun x hx y hy q => r.inj x hx y hy (r2.inj _ ((ren_mem h r).mpr ⟨x, hx, rfl⟩) _ ((ren_mem h r).mpr ⟨y, hy, rfl⟩) q), fun x hx => r2.nm _ ((ren_mem h r).mpr ⟨x, hx, rfl⟩)⟩
  have hok := ren_ok h r
  have e1 : sortR ((sortR (p.rows.map (Row.ren f))).map (Row.ren g)) = sortR (p.rows.map (Row.ren fun x => g (f x))) := by
    refine rows_eq (sortR_asc (r2.rows hok)) (sortR_asc (r3.rows h)) (sortD_perm.trans ?_)
    refine ((sortD_perm (enc := Row.d) (l := p.rows.map (Row.ren f))).map (Row.ren g)).trans (.trans (.of_eq ?_) sortD_perm.symm)
    rw [List.map_map]
    refine List.map_congr_left fun x hx => ?_
    show Row.ren g (Row.ren f x) = _
    unfold Row.ren
    have hw : sortS ((sortS (x.waits.map f)).map g) = sortS (x.waits.map fun z => g (f z)) := by
      have n2 := waits_nd h r3 hx
      have n1 : ((sortS (x.waits.map f)).map g).Nodup := by
        refine ((sortS_perm (xs := x.waits.map f)).map g).nodup_iff.mpr ?_
        rw [List.map_map]
        exact n2
      refine asc_eq (sortS_asc n1) (sortS_asc n2) (sortS_perm.trans (((sortS_perm (xs := x.waits.map f)).map g).trans (.trans (.of_eq ?_) sortS_perm.symm)))
      rw [List.map_map]
      rfl
    simp [hw]
  have e2 : sortT ((sortT (p.ties.map (Tie.ren f))).map (Tie.ren g)) = sortT (p.ties.map (Tie.ren fun x => g (f x))) := by
    refine ties_eq (sortT_asc (r2.ties hok)) (sortT_asc (r3.ties h)) (sortD_perm.trans ?_)
    refine ((sortD_perm (enc := Tie.d) (l := p.ties.map (Tie.ren f))).map (Tie.ren g)).trans (.trans (.of_eq ?_) sortD_perm.symm)
    rw [List.map_map]
    rfl
  unfold Party.ren
  show Party.mk (sortR ((sortR (p.rows.map (Row.ren f))).map (Row.ren g))) (sortT ((sortT (p.ties.map (Tie.ren f))).map (Tie.ren g))) p.closing = _
  rw [e1, e2]
theorem ren_id (h : PartyOk p) : p.ren id = p := by
  have e1 : p.rows.map (Row.ren id) = p.rows := by
    refine (List.map_congr_left fun r hr => ?_).trans (List.map_id _)
    unfold Row.ren
    rw [List.map_id, sortS_self (h.row r hr).wa]
    rfl
  have e2 : p.ties.map (Tie.ren id) = p.ties := (List.map_congr_left fun r hr => rfl).trans (List.map_id _)
  unfold Party.ren
  rw [e1, e2, rows_eq (sortR_asc h.nd) (asc_rows.mp h.asc) sortD_perm, ties_eq (sortT_asc (asc_keys h.tasc)) h.tasc sortD_perm]
theorem ren_same (h : PartyOk p) (e : ∀ x ∈ names p, f x = x) : p.ren f = p := (ren_congr (g := id) h e).trans (ren_id h)
end
/-! ### later -/
def Row.later (m : Int) (r : Row) : Row := { r with fst := r.fst + m, lst := r.lst + m }
def Party.later (m : Int) (p : Party) : Party := ⟨p.rows.map (Row.later m), p.ties, p.closing + m⟩
section
variable {p : Party} {f : Str → Str} {m n : Int}
theorem later_names : names (p.later m) = names p := by simp [names, Party.later, Row.later]
theorem case_later {c : Str → Int} (hc : IsCase p c) : IsCase (p.later m) fun x => c x + m where
  win := fun x hx => by
    obtain ⟨y, hy, rfl⟩ := List.mem_map.mp hx
    have := hc.win y hy
    show y.fst + m ≤ c y.nm + m ∧ c y.nm + m ≤ y.lst + m
    omega
  tie := fun t ht => by
    have := hc.tie t ht
    show c t.one + m ≤ c t.oth + m + t.most
    omega
theorem later_ok (h : PartyOk p) (hm : 0 ≤ m) : PartyOk (p.later m) where
  ne := fun e => h.ne (List.map_eq_nil_iff.mp e)
  len := by show (p.rows.map _).length ≤ 100; rw [List.length_map]; exact h.len
  asc := by rw [later_names]; exact h.asc
  row := fun x hx => by
    obtain ⟨y, hy, rfl⟩ := List.mem_map.mp hx
    have ok := h.row y hy
    rw [later_names]
    have h1 := ok.f0
    have h2 := ok.fl
    have h3 := ok.lc
    exact ⟨ok.nm, by show 0 ≤ y.fst + m; omega, by show y.fst + m ≤ y.lst + m; omega, by show y.lst + m ≤ p.closing + m; omega, ok.kd, ok.p0, ok.hp, ok.wn, ok.wa, ok.wi, ok.wl⟩
  tlen := h.tlen
  tin := by rw [later_names]; exact h.tin
  tasc := h.tasc
  case := let ⟨c, hc⟩ := h.case; ⟨_, case_later hc⟩
theorem later_zero : p.later 0 = p := by
  unfold Party.later
  have e : p.rows.map (Row.later 0) = p.rows := (List.map_congr_left fun r _ => by unfold Row.later; simp).trans (List.map_id _)
  rw [e, Int.add_zero]
theorem later_later : (p.later m).later n = p.later (n + m) := by
  unfold Party.later
  simp only [List.map_map]
  congr 1
  · refine List.map_congr_left fun r _ => ?_
    show Row.later n (Row.later m r) = Row.later (n + m) r
    unfold Row.later
    congr 1 <;> show _ + m + n = _ + (n + m) <;> omega
  · omega
theorem Ren.later (r : Ren p f) : Ren (p.later m) f := ⟨by rw [later_names]; exact r.inj, by rw [later_names]; exact r.nm⟩
theorem later_ren (h : PartyOk p) (hm : 0 ≤ m) (r : Ren p f) : (p.ren f).later m = (p.later m).ren f := by
  unfold Party.ren Party.later
  have e : (sortR (p.rows.map (Row.ren f))).map (Row.later m) = sortR ((p.rows.map (Row.later m)).map (Row.ren f)) := by
    refine rows_eq ?_ (sortR_asc ((r.later (m := m)).rows (later_ok h hm))) ?_
    · exact List.pairwise_map.mpr ((sortR_asc (r.rows h)).imp fun q => q)
    · refine ((sortD_perm (enc := Row.d) (l := p.rows.map (Row.ren f))).map (Row.later m)).trans (.trans (.of_eq ?_) sortD_perm.symm)
      rw [List.map_map, List.map_map]
      rfl
  show Party.mk _ _ _ = Party.mk _ _ _
  rw [e]
end
end Pa
set_option Elab.async false
set_option linter.all false
set_option maxRecDepth 100000
set_option maxHeartbeats 8000000
namespace Pa
open PySem PySem.Spec PyProof.Rows L2 Evl
section
variable {P : Program} {w : World} {K : PySem.W.Frag} {mg : Str → Option Value} {base : Heap}

theorem es_starL {K : PySem.W.Frag} {ρ : Env} {te : TE} {t : TA} {ds es : List D} (h : EvE K te ρ (.lst ds)) (hr : EvEs K t ρ es) : EvEs K (StX.tStar K te t) ρ (ds ++ es) := fun σ H e H1 e1 Q q =>
  h σ H e H1 e1 _ fun v H2 e2 r => by
    obtain ⟨a, xs, rfl, hs, rr⟩ := r.lst_inv
    exact ⟨a, xs, rfl, .inr (SqL.of hs), hr σ H e H2 (e1.trans e2) _ fun ys H3 e3 r3 => q _ H3 (e2.trans e3) ((rr.mono e3).app r3)⟩
theorem es_starT {K : PySem.W.Frag} {ρ : Env} {te : TE} {t : TA} {ds es : List D} (h : EvE K te ρ (.tup ds)) (hr : EvEs K t ρ es) : EvEs K (StX.tStar K te t) ρ (ds ++ es) := fun σ H e H1 e1 Q q =>
  h σ H e H1 e1 _ fun v H2 e2 r => by
    obtain ⟨a, xs, rfl, hs, rr⟩ := r.tup_inv
    exact ⟨a, xs, rfl, .inl hs, hr σ H e H2 (e1.trans e2) _ fun ys H3 e3 r3 => q _ H3 (e2.trans e3) ((rr.mono e3).app r3)⟩
theorem py_strs {xs : List Str} : (sD xs).map D.py = xs.map PyData.str := by
  unfold sD
  rw [List.map_map]
  rfl
theorem rc_sortS {K : PySem.W.Frag} {H : Hp} {xs : List Str} (h : ∀ x ∈ xs, isNm x) (hl : xs.length ≤ 1000) : RCD K (rSortD K) [.lst (sD xs)] H (.lst (sD (sortS xs))) := by
  have e : (sD xs).mergeSort (PySem.W.dataLe false D.py) = sD (sortS xs) := sort_enc
  rw [← e]
  refine rc_sort (n := 0) (oks_strs h) (by decide) (fun a ha b hb => ?_) (.inr fun a ha => ?_) (by rw [sD_len]; omega) sD_tus
  · rw [py_strs] at ha hb
    obtain ⟨x, _, rfl⟩ := List.mem_map.mp ha
    obtain ⟨y, _, rfl⟩ := List.mem_map.mp hb
    rfl
  · rw [py_strs] at ha
    obtain ⟨x, _, rfl⟩ := List.mem_map.mp ha
    exact ⟨(by intro z; cases z), (by intro _ z; cases z)⟩
theorem row_ok {r : Row} (h1 : isNm r.nm) (h2 : r.kind ∈ kindsS) (h3 : ∀ x ∈ r.waits, isNm x) {n : Nat} : D.ok (n + 2) r.d = true := by
  have hk : PyData.strOk r.kind = true := by
    simp [kindsS] at h2
    rcases h2 with e | e | e | e <;> rw [e] <;> decide +kernel
  have hw := oks_strs (n := n) (xs := r.waits) h3
  simp [D.ok, D.oks, okV, isNm_ok h1, hk, hw]
theorem rc_sortR {K : PySem.W.Frag} {H : Hp} {rs : List Row} (h : ∀ r ∈ rs, D.ok 2 r.d = true) (hl : rs.length ≤ 1000) : RCD K (rSortD K) [.lst (rowsD rs)] H (.lst (rowsD (sortR rs))) := by
  have e : (rowsD rs).mergeSort (PySem.W.dataLe false D.py) = rowsD (sortR rs) := sort_enc
  rw [← e]
  refine rc_sort (n := 2) (oks_all fun d hd => ?_) (by decide) (fun a ha b hb => ?_) (.inl fun a ha => ?_) (by rw [List.length_map]; omega) rowsD_tus
  · obtain ⟨r, hr, rfl⟩ := List.mem_map.mp hd
    exact h r hr
  · rw [List.map_map] at ha hb
    obtain ⟨x, _, rfl⟩ := List.mem_map.mp ha
    obtain ⟨y, _, rfl⟩ := List.mem_map.mp hb
    exact alike_row
  · rw [List.map_map] at ha
    obtain ⟨x, _, rfl⟩ := List.mem_map.mp ha
    exact ⟨_, _, by rw [Function.comp, D.py, D.pys]⟩
theorem tie_ok {t : Tie} (h : isNm t.one) (h' : isNm t.oth) : D.ok 1 t.d = true := by
  simp [D.ok, D.oks, okV, isNm_ok h, isNm_ok h']
theorem rc_sortT {K : PySem.W.Frag} {H : Hp} {ts : List Tie} (h : ∀ r ∈ ts, D.ok 1 r.d = true) (hl : ts.length ≤ 1000) : RCD K (rSortD K) [.lst (tiesD ts)] H (.lst (tiesD (sortT ts))) := by
  have e : (tiesD ts).mergeSort (PySem.W.dataLe false D.py) = tiesD (sortT ts) := sort_enc
  rw [← e]
  refine rc_sort (n := 1) (oks_all fun d hd => ?_) (by decide) (fun a ha b hb => ?_) (.inl fun a ha => ?_) (by rw [List.length_map]; omega) tiesD_tus
  · obtain ⟨r, hr, rfl⟩ := List.mem_map.mp hd
    exact h r hr
  · rw [List.map_map] at ha hb
    obtain ⟨x, _, rfl⟩ := List.mem_map.mp ha
    obtain ⟨y, _, rfl⟩ := List.mem_map.mp hb
    exact alike_tie
  · rw [List.map_map] at ha
    obtain ⟨x, _, rfl⟩ := List.mem_map.mp ha
    exact ⟨_, _, by rw [Function.comp, D.py, D.pys]⟩
def gPeopleOf : List D → D → Prop := fun ds d => ∃ p : Party, ds = [p.d] ∧ p.rows.length ≤ 100 ∧ d = .tup (sD (names p))
/-- the dict of fresh names: f of each -/
def Fresh (kvs : List (Str × D)) (f : Str → Str) (ns : List Str) : Prop := ∀ x ∈ ns, kvs.lookup x = some (dS (f x))
def gRenRow : List D → D → Prop := fun ds d => ∃ (r : Row) (kvs : List (Str × D)) (f : Str → Str), ds = [r.d, .dic kvs] ∧ Fresh kvs f (r.nm :: r.waits) ∧ (∀ x ∈ r.waits, isNm (f x)) ∧ r.waits.length ≤ 1000 ∧ d = (r.ren f).d
def gRenTie : List D → D → Prop := fun ds d => ∃ (t : Tie) (kvs : List (Str × D)) (f : Str → Str), ds = [t.d, .dic kvs] ∧ Fresh kvs f [t.one, t.oth] ∧ d = (t.ren f).d
def gLatRow : List D → D → Prop := fun ds d => ∃ (r : Row) (m : Int), ds = [r.d, dI m] ∧ d = (r.later m).d
def gLater : List D → D → Prop := fun ds d => ∃ (p : Party) (m : Int), ds = [p.d, dI m] ∧ p.rows.length ≤ 100 ∧ d = (p.later m).d

theorem sc_people_of : FnScope ["party", "row"] ["party"] d_people_of.scope := ⟨rfl, rfl, rfl, by decide +kernel, rfl, by decide +kernel, by decide +kernel⟩
theorem ok_people_of (T : Wd K mg base) : C8.Cal P w K mg base (0 + 1) "people_of" (spD K gPeopleOf) [] := by
  refine cal_of T 19 36 (d := d_people_of) rfl rfl rfl rfl rfl sc_people_of (spD_len fun ds d ⟨_, e, _⟩ => by rw [e]; rfl) (fun _ _ _ _ _ _ us hl => match us, hl with | [_], _ => rfl) fun cdv A outer s H vs Q E hr h => ?_
  refine ⟨_, (pss_one (ps_ret (pe_callTy (z_tup (K := K) rfl) (by rfl) T.g_tuple (by decide +kernel) (pa_cons (pe_lc (own := [("row", 1)]) (by rfl) sc_people_of.nd (zi_any (K := K) rfl (pe_ix (z_ix (K := K) rfl) (pv 0) pe_int (fun _ _ => rfl))) (blkOk_by (own := [("row", 1)]) (N := ["party", "row"]) (sc := d_people_of.scope) (by decide +kernel)) (fun _ _ _ _ _ => (pg_name (i := 1) sc_people_of.nd rfl (by first | exact Or.inl rfl | exact Or.inr rfl))) (fun _ _ _ _ _ => pts_nil) (fun _ _ _ _ _ => (pe_ix (z_ix (K := K) rfl) (pv 1) pe_int (fun _ _ => rfl)))) pa_nil)))), ?_⟩
  obtain ⟨ds, d, rr, ⟨p, rfl, hl, rfl⟩, q⟩ := h
  refine ro_fun ?_ rr q
  exact ro_ret (ee_cb (es_cons (ee_names (ee_op (ee_var rfl) ee_c fun _ => rd_ixX (n := 0) rfl rfl) (by show 1 < 2; omega) (by simp) (by omega)) es_nil) fun _ => rc_tupL) (.inr rfl) rfl
theorem sc_renamed_row : FnScope ["row", "fresh", "name", "first", "last", "kind", "patience", "waits", "other"] ["row", "fresh"] d_renamed_row.scope := ⟨rfl, rfl, rfl, by decide +kernel, rfl, by decide +kernel, by decide +kernel⟩
theorem ok_renamed_row (T : Wd K mg base) : C8.Cal P w K mg base (0 + 1) "renamed_row" (spD K gRenRow) [] := by
  refine cal_of T 21 38 (d := d_renamed_row) rfl rfl rfl rfl rfl sc_renamed_row (spD_len fun ds d ⟨_, _, _, e, _⟩ => by rw [e]; rfl) (fun _ _ _ _ _ _ us hl => match us, hl with | [_, _], _ => rfl) fun cdv A outer s H vs Q E hr h => ?_
  refine ⟨_, (pss_cons (ps_asg (pv 0) (zg_tup (K := K) (n := 6) rfl rfl (pgs_cons (pg_name (i := 2) sc_renamed_row.nd rfl (by first | exact Or.inl rfl | exact Or.inr rfl)) (pgs_cons (pg_name (i := 3) sc_renamed_row.nd rfl (by first | exact Or.inl rfl | exact Or.inr rfl)) (pgs_cons (pg_name (i := 4) sc_renamed_row.nd rfl (by first | exact Or.inl rfl | exact Or.inr rfl)) (pgs_cons (pg_name (i := 5) sc_renamed_row.nd rfl (by first | exact Or.inl rfl | exact Or.inr rfl)) (pgs_cons (pg_name (i := 6) sc_renamed_row.nd rfl (by first | exact Or.inl rfl | exact Or.inr rfl)) (pgs_cons (pg_name (i := 7) sc_renamed_row.nd rfl (by first | exact Or.inl rfl | exact Or.inr rfl)) pgs_nil))))))))
    (pss_one (ps_ret (pe_tup (pa_cons (pe_dget (hu_of hr) (pv 1) (pv 2) (fun _ _ => rfl)) (pa_cons (pv 3) (pa_cons (pv 4) (pa_cons (pv 5) (pa_cons (pv 6) (pa_cons (pe_callTy (z_tup (K := K) rfl) (by rfl) T.g_tuple (by decide +kernel) (pa_cons (pe_callB (z_sorted (K := K) hr.units rfl) (by rfl) T.g_sorted (by decide +kernel) (pa_cons (pe_lc (own := [("other", 8)]) (by rfl) sc_renamed_row.nd (zi_any (K := K) rfl (pv 7)) (blkOk_by (own := [("other", 8)]) (N := ["row", "fresh", "name", "first", "last", "kind", "patience", "waits", "other"]) (sc := d_renamed_row.scope) (by decide +kernel)) (fun _ _ _ _ _ => (pg_name (i := 8) sc_renamed_row.nd rfl (by first | exact Or.inl rfl | exact Or.inr rfl))) (fun _ _ _ _ _ => pts_nil) (fun _ _ _ _ _ => (pe_dget (hu_of hr) (pv 1) (pv 8) (fun _ _ => rfl)))) pa_nil)) pa_nil)) pa_nil)))))))))), ?_⟩
  obtain ⟨ds, d, rr, ⟨r, kvs, f, rfl, hf, hn, hl, rfl⟩, q⟩ := h
  refine ro_fun ?_ rr q
  refine ro_s (ro_asg (ee_var rfl) (.inr rfl) (go_tup (gos_cons go_name (gos_cons go_name (gos_cons go_name (gos_cons go_name (gos_cons go_name (gos_cons go_name gos_nil)))))) rfl) rfl) ?_
  refine ro_ret (ee_tup (es_cons (ee_dget (ee_var rfl) (ee_var rfl) (hf _ List.mem_cons_self)) (es_cons (ee_var rfl) (es_cons (ee_var rfl) (es_cons (ee_var rfl) (es_cons (ee_var rfl) (es_cons (ee_cb (es_cons (ee_cb (es_cons (ee_is (ee_lcN (fun d => match d with | .raw (.str x) => dS (f x) | _ => dN) (wke_t (ee_var rfl)) (by rw [sD_len]; omega) (by simp) (fun d hd => ?_) fun d hd => ?_) (d' := .lst (sD (r.waits.map f))) ?_) es_nil) fun _ => rc_sortS (fun x hx => ?_) ?_) es_nil) fun _ => rc_tupL) es_nil)))))) (by simp)) (.inr rfl) rfl
  · obtain ⟨x, hx, rfl⟩ := List.mem_map.mp hd
    rfl
  · obtain ⟨x, hx, rfl⟩ := List.mem_map.mp hd
    exact ee_dget (ee_var rfl) (ee_var rfl) (hf _ (List.mem_cons_of_mem _ hx))
  · unfold sD
    rw [List.map_map, List.map_map]
    rfl
  · obtain ⟨y, hy, rfl⟩ := List.mem_map.mp hx
    exact hn y hy
  · rw [List.length_map]
    exact hl
theorem sc_renamed_tie : FnScope ["tie", "fresh", "one", "other", "most"] ["tie", "fresh"] d_renamed_tie.scope := ⟨rfl, rfl, rfl, by decide +kernel, rfl, by decide +kernel, by decide +kernel⟩
theorem ok_renamed_tie (T : Wd K mg base) : C8.Cal P w K mg base (0 + 1) "renamed_tie" (spD K gRenTie) [] := by
  refine cal_of T 22 39 (d := d_renamed_tie) rfl rfl rfl rfl rfl sc_renamed_tie (spD_len fun ds d ⟨_, _, _, e, _⟩ => by rw [e]; rfl) (fun _ _ _ _ _ _ us hl => match us, hl with | [_, _], _ => rfl) fun cdv A outer s H vs Q E hr h => ?_
  refine ⟨_, (pss_cons (ps_asg (pv 0) (zg_tup (K := K) (n := 3) rfl rfl (pgs_cons (pg_name (i := 2) sc_renamed_tie.nd rfl (by first | exact Or.inl rfl | exact Or.inr rfl)) (pgs_cons (pg_name (i := 3) sc_renamed_tie.nd rfl (by first | exact Or.inl rfl | exact Or.inr rfl)) (pgs_cons (pg_name (i := 4) sc_renamed_tie.nd rfl (by first | exact Or.inl rfl | exact Or.inr rfl)) pgs_nil)))))
    (pss_one (ps_ret (pe_tup (pa_cons (pe_dget (hu_of hr) (pv 1) (pv 2) (fun _ _ => rfl)) (pa_cons (pe_dget (hu_of hr) (pv 1) (pv 3) (fun _ _ => rfl)) (pa_cons (pv 4) pa_nil))))))), ?_⟩
  obtain ⟨ds, d, rr, ⟨t, kvs, f, rfl, hf, rfl⟩, q⟩ := h
  refine ro_fun ?_ rr q
  refine ro_s (ro_asg (ee_var rfl) (.inr rfl) (go_tup (gos_cons go_name (gos_cons go_name (gos_cons go_name gos_nil))) rfl) rfl) ?_
  exact ro_ret (ee_tup (es_cons (ee_dget (ee_var rfl) (ee_var rfl) (hf _ (by simp))) (es_cons (ee_dget (ee_var rfl) (ee_var rfl) (hf _ (by simp))) (es_cons (ee_var rfl) es_nil))) (by simp)) (.inr rfl) rfl
theorem sc_later_row : FnScope ["row", "minutes", "name", "first", "last", "others"] ["row", "minutes"] d_later_row.scope := ⟨rfl, rfl, rfl, by decide +kernel, rfl, by decide +kernel, by decide +kernel⟩
theorem ok_later_row (T : Wd K mg base) : C8.Cal P w K mg base (0 + 1) "later_row" (spD K gLatRow) [] := by
  refine cal_of T 24 41 (d := d_later_row) rfl rfl rfl rfl rfl sc_later_row (spD_len fun ds d ⟨_, _, e, _⟩ => by rw [e]; rfl) (fun _ _ _ _ _ _ us hl => match us, hl with | [_, _], _ => rfl) fun cdv A outer s H vs Q E hr h => ?_
  refine ⟨_, (pss_cons (ps_asg (pv 0) (zg_star (K := K) (i := 3) rfl rfl (pgs_cons (pg_name (i := 2) sc_later_row.nd rfl (by first | exact Or.inl rfl | exact Or.inr rfl)) (pgs_cons (pg_name (i := 3) sc_later_row.nd rfl (by first | exact Or.inl rfl | exact Or.inr rfl)) (pgs_cons (pg_name (i := 4) sc_later_row.nd rfl (by first | exact Or.inl rfl | exact Or.inr rfl)) (pgs_star (pg_name (i := 5) sc_later_row.nd rfl (by first | exact Or.inl rfl | exact Or.inr rfl))))))))
    (pss_one (ps_ret (pe_tup (pa_cons (pv 2) (pa_cons (pe_op (z_add (K := K) rfl) (pv 3) (pv 1)) (pa_cons (pe_op (z_add (K := K) rfl) (pv 4) (pv 1)) (StX.pa_star (pv 5) pa_nil)))))))), ?_⟩
  obtain ⟨ds, d, rr, ⟨r, m, rfl, rfl⟩, q⟩ := h
  refine ro_fun ?_ rr q
  refine ro_s (ro_asg (ee_var rfl) (.inr rfl) (go_star (gos_cons go_name (gos_cons go_name (gos_cons go_name (gos_cons go_name gos_nil)))) (by decide : 3 ≤ 6)) rfl) ?_
  refine ro_ret (ee_tup (es_cons (ee_var rfl) (es_cons (ee_op (ee_var rfl) (ee_var rfl) fun _ => rd_addI) (es_cons (ee_op (ee_var rfl) (ee_var rfl) fun _ => rd_addI) (es_starL (ee_var rfl) es_nil)))) (by simp)) (.inr rfl) rfl
theorem sc_later : FnScope ["party", "minutes", "rows", "ties", "closing", "row"] ["party", "minutes"] d_later.scope := ⟨rfl, rfl, rfl, by decide +kernel, rfl, by decide +kernel, by decide +kernel⟩
theorem ok_later (T : Wd K mg base) : C8.Cal P w K mg base (1 + 1) "later" (spD K gLater) [] := by
  refine cal_of T 25 42 (d := d_later) rfl rfl rfl rfl rfl sc_later (spD_len fun ds d ⟨_, _, e, _⟩ => by rw [e]; rfl) (fun _ _ _ _ _ _ us hl => match us, hl with | [_, _], _ => rfl) fun cdv A outer s H vs Q E hr h => ?_
  refine ⟨_, (pss_cons (ps_asg (pv 0) (zg_tup (K := K) (n := 3) rfl rfl (pgs_cons (pg_name (i := 2) sc_later.nd rfl (by first | exact Or.inl rfl | exact Or.inr rfl)) (pgs_cons (pg_name (i := 3) sc_later.nd rfl (by first | exact Or.inl rfl | exact Or.inr rfl)) (pgs_cons (pg_name (i := 4) sc_later.nd rfl (by first | exact Or.inl rfl | exact Or.inr rfl)) pgs_nil)))))
    (pss_one (ps_ret (pe_tup (pa_cons (pe_callTy (z_tup (K := K) rfl) (by rfl) T.g_tuple (by decide +kernel) (pa_cons (pe_lc (own := [("row", 5)]) (by rfl) sc_later.nd (zi_any (K := K) rfl (pv 2)) (blkOk_by (own := [("row", 5)]) (N := ["party", "minutes", "rows", "ties", "closing", "row"]) (sc := d_later.scope) (by decide +kernel)) (fun _ _ _ _ _ => (pg_name (i := 5) sc_later.nd rfl (by first | exact Or.inl rfl | exact Or.inr rfl))) (fun _ _ _ _ _ => pts_nil) (fun _ _ _ _ _ => (C8.pe_c (ok_later_row T) hr (by decide) rfl (pa_cons (pv 5) (pa_cons (pv 1) pa_nil))))) pa_nil)) (pa_cons (pv 3) (pa_cons (pe_op (z_add (K := K) rfl) (pv 4) (pv 1)) pa_nil))))))), ?_⟩
  obtain ⟨ds, d, rr, ⟨p, m, rfl, hl, rfl⟩, q⟩ := h
  refine ro_fun ?_ rr q
  refine ro_s (ro_asg (ee_var rfl) (.inr rfl) (go_tup (gos_cons go_name (gos_cons go_name (gos_cons go_name gos_nil))) rfl) rfl) ?_
  refine ro_ret (ee_tup (es_cons (ee_cb (es_cons (ee_is (ee_lcN (fun d => match d with | .tup [a, .raw (.int b), .raw (.int c), e, f, g] => D.tup [a, dI (b + m), dI (c + m), e, f, g] | _ => dN) (wke_t (ee_var rfl)) (by rw [List.length_map]; omega) (by simp) (fun d hd => ?_) fun d hd => ?_) (d' := .lst (rowsD (p.rows.map (Row.later m)))) ?_) es_nil) fun _ => rc_tupL) (es_cons (ee_var rfl) (es_cons (ee_op (ee_var rfl) (ee_var rfl) fun _ => rd_addI) es_nil))) (by simp)) (.inr rfl) rfl
  · obtain ⟨r, hr, rfl⟩ := List.mem_map.mp hd
    exact (r.later m).tu
  · obtain ⟨r, hr, rfl⟩ := List.mem_map.mp hd
    exact ee_call (es_cons (ee_var rfl) (es_cons (ee_var rfl) es_nil)) ⟨r, m, rfl, rfl⟩
  · unfold rowsD
    rw [List.map_map, List.map_map]
    rfl
end
end Pa
set_option Elab.async false
set_option linter.all false
set_option maxRecDepth 100000
set_option maxHeartbeats 4000000
/-! sets of texts: made by a comprehension, len, sorted (the steps of the library's sets of truth values, turned to texts) -/
namespace Pa
open PySem PySem.Spec PyProof.Rows L2
abbrev strKind := PySem.strKind
def keyS (e : Int × Value) : Str := match e.2 with | .str k _ => k | _ => Str.empty
def GoodS (w : World) (e : Int × Value) : Prop := ∃ k u, e.2 = Value.str k u ∧ e.1 = hashStr w k
theorem strK_is (P : Program) (w : World) (k : Str) (u : Tok) : (strKind P w).is k (.str k u) = true := by simp [PySem.strKind, Value.isStrOf]
theorem is_iff {P : Program} {w : World} {k0 k : Str} {u : Tok} : (strKind P w).is k (.str k0 u) = true ↔ k0 = k := by
  simp [PySem.strKind, Value.isStrOf]
/-- at a lies a set whose members are the texts of S, n of them -/
def SetS (w : World) (h : Heap) (a : Addr) (S : Str → Bool) (n : Nat) : Prop :=
  ∃ o es ep t, h.get? a = some o ∧ o.ExactSet ∧ o.data = .set es ep t ∧ (∀ e ∈ es.toList, GoodS w e) ∧ (es.toList.map keyS).Nodup ∧ (∀ k, S k = true ↔ k ∈ es.toList.map keyS) ∧
    es.size < scanBound ∧ t.fits es.size = true ∧ es.size = n ∧ Ris t.place.toList ∧ (w.params.followText "set-order" = true ∨ t.led = true)

section
variable {P : Program} {w : World} {h h' : Heap} {a : Addr} {S : Str → Bool} {n : Nat}

theorem SetS.at (R : SetS w h a S n) (k : ∀ o, h.get? a = some o → h'.get? a = some o) : SetS w h' a S n := by
  obtain ⟨o, es, ep, t, ho, r⟩ := R
  exact ⟨o, es, ep, t, k o ho, r⟩
theorem SetS.lt (R : SetS w h a S n) : a < h.objs.size := by
  obtain ⟨o, es, ep, t, ho, r⟩ := R
  exact Heap.lt_size ho
theorem SetS.congr {S' : Str → Bool} (R : SetS w h a S n) (e : ∀ k, S' k = S k) : SetS w h a S' n := by
  have q : S' = S := funext e
  rw [q]; exact R
theorem goodS_elems {l : List (Int × Value)} (g : ∀ e ∈ l, GoodS w e) : ElemsOf (strKind P w) l := fun e he => by
  obtain ⟨k, u, h1, h2⟩ := g e he
  exact ⟨⟨k, by rw [h1]; exact strK_is P w k u, h2⟩, by rw [h1] <;> rfl⟩
theorem goodS_is {e : Int × Value} (g : GoodS w e) (k : Str) : (strKind P w).is k e.2 = true ↔ keyS e = k := by
  obtain ⟨k0, u0, h1, _⟩ := g
  unfold keyS
  rw [h1]
  exact is_iff
theorem goodS_mem {l : List (Int × Value)} (g : ∀ e ∈ l, GoodS w e) (k : Str) : k ∈ l.map keyS ↔ ∃ e ∈ l, (strKind P w).is k e.2 = true := by
  rw [List.mem_map]
  constructor
  · rintro ⟨e, he, q⟩
    exact ⟨e, he, (goodS_is (g e he) k).2 q⟩
  · rintro ⟨e, he, q⟩
    exact ⟨e, he, (goodS_is (g e he) k).1 q⟩
theorem SetS.setOf (R : SetS w h a S n) : h.SetOf (strKind P w) a S n := by
  obtain ⟨o, es, ep, t, ho, hx, hd, g, nd, hm, hb, hf, hn, _⟩ := R
  exact ⟨o, es, ep, t, ho, hx, hd, goodS_elems g, fun k => (hm k).trans (goodS_mem g k), hb, hf, hn⟩
end

section
variable {P : Program} {w : World} {A : Around} {E : Value → Shared → Prop} {s : Shared} {a : Addr} {S : Str → Bool} {n : Nat}

/-! ### one text more -/
theorem storeS_at {h : Heap} {a : Addr} {o : Obj} {es es' : Array (Int × Value)} {ep : Nat} {t t' : SetTable} (ho : h.get? a = some o) (hd : o.data = .set es ep t) :
    (h.update a (Obj.putSet es' t')).get? a = some { o with data := .set es' (ep + 1) t' } := by
  have q := Heap.get?_update_self (Obj.putSet es' t') ho (by rw [putSet_of es' t' hd]; rfl)
  rw [putSet_of es' t' hd] at q
  exact q

theorem setS_add_tail {g : Bool → Sem Unit} (hg : ∀ (b : Bool) (s₁ : Shared) (Q' : Unit → Shared → Prop), Q' () s₁ → wpAny (model P w) A (g b) Q' E s₁)
    {o : Obj} {es : Array (Int × Value)} {ep : Nat} {t : SetTable} (ho : s.heap.get? a = some o) (hex : o.ExactSet) (hd : o.data = .set es ep t)
    {es1 : Array (Int × Value)} {t2 : SetTable} {S' : Str → Bool} (g1 : ∀ e ∈ es1.toList, GoodS w e) (nd1 : (es1.toList.map keyS).Nodup) (m1 : ∀ k, S' k = true ↔ k ∈ es1.toList.map keyS)
    (hb1 : es1.size < scanBound) (hf2 : t2.fits es1.size = true) (hr : Ris t2.place.toList) (hl : w.params.followText "set-order" = true ∨ t2.led = true) {wasDummy : Bool} {R : Option Bool → Shared → Prop}
    (hR : ∀ h', Heap.SameBut a s.heap h' → SetS w h' a S' es1.size → R (some true) { s with heap := h' }) :
    wpAny (model P w) A (do
        storeSet a es1 t2
        if (!wasDummy && t2.tooFull) = true then do
            g (relayAll t2 es1 (SetTable.grown es1.size)).2.2
            storeSet a (relayAll t2 es1 (SetTable.grown es1.size)).1 (relayAll t2 es1 (SetTable.grown es1.size)).2.1
            pure (some true)
          else pure (some true)) R E s := by
  refine wpAny_bind (wpAny_storeSet_of ho hd ?_ (fits_of_scanBound hb1))
  have ho1 := storeS_at (es' := es1) (t' := t2) ho hd
  have sb1 := Heap.SameBut.update s.heap a (Obj.putSet es1 t2)
  split
  · have pm := relayAll_perm t2 es1 (SetTable.grown es1.size)
    have hf3 := relayAll_fits t2 es1 (SetTable.grown es1.size)
    have hr3 := relayAll_ris t2 es1 (SetTable.grown es1.size)
    have hl3 := relayAll_led t2 es1 (SetTable.grown es1.size)
    generalize relayAll t2 es1 (SetTable.grown es1.size) = Z at pm hf3 hr3 hl3 ⊢
    obtain ⟨es2, t3, gave⟩ := Z
    dsimp only at pm hf3 hr3 hl3 ⊢
    have hsz : es2.size = es1.size := by rw [← Array.length_toList, pm.length_eq, Array.length_toList]
    have hb2 : es2.size < scanBound := by rw [hsz]; exact hb1
    refine wpAny_bind (hg _ _ _ ?_)
    refine wpAny_bind (wpAny_storeSet_of ho1 rfl ?_ (fits_of_scanBound hb2))
    have ho2 := storeS_at (es' := es2) (t' := t3) ho1 rfl
    refine wpAny_pure (hR _ (sb1.trans (Heap.SameBut.update _ a _)) ?_)
    exact ⟨_, es2, _, t3, ho2, hex, rfl, fun e he => g1 e (pm.mem_iff.mp he), (pm.map keyS).nodup_iff.mpr nd1, fun k => (m1 k).trans (pm.map keyS).mem_iff.symm, hb2, hf3, hsz, hr3,
      hl.imp id fun z => by rw [hl3]; exact z⟩
  · exact wpAny_pure (hR _ sb1 ⟨_, es1, _, t2, ho1, hex, rfl, g1, nd1, m1, hb1, hf2, rfl, hr, hl⟩)

theorem setS_add_hashed {k : Str} {u : Tok} {Q : Bool → Shared → Prop} (R : SetS w s.heap a S n) (room : n + 1 < scanBound)
    (hQ : ∀ h', Heap.SameBut a s.heap h' → SetS w h' a (fun j => S j || decide (j = k)) (if S k = true then n else n + 1) → Q (!S k) { s with heap := h' }) :
    wpAny (model P w) A (setAddHashed a (.str k u) ((strKind P w).hash k)) Q E s := by
  obtain ⟨o, es, ep, t, ho, hex, hd, g, nd, hm, hb, hf, hn, hr, hl⟩ := R
  have hkey : (strKind P w).is k (.str k u) = true := strK_is P w k u
  have hsc : (Value.str k u).scannable = true := rfl
  have hel : ElemsOf (strKind P w) es.toList := goodS_elems g
  unfold setAddHashed setAddHashedIn
  refine wpAny_holding (wpAny_bind (wpAny_setState_of ho hd hf ?_))
  dsimp only
  rw [byScan_of hsc hb hel]
  simp only [↓reduceIte]
  unfold setAddByScan
  refine wpAny_bind ?_
  refine wpAny_bind (wpAny_rule ?_)
  refine wpAny_bind (wpAny_setScan_of hkey ho hd hf hel ?_)
  cases hfi : List.findIdx? (fun e => (strKind P w).is k e.2) es.toList with
  | some j =>
    dsimp only
    obtain ⟨hj, pj, _⟩ := List.findIdx?_eq_some_iff_getElem.mp hfi
    have hSk : S k = true := (hm k).2 ((goodS_mem (P := P) (w := w) g k).2 ⟨es.toList[j], List.getElem_mem hj, pj⟩)
    refine wpAny_pure (wpAny_pure ?_)
    have q := hQ s.heap (Heap.SameBut.refl a s.heap) ⟨o, es, ep, t, ho, hex, hd, g, nd, fun i => by
      rw [Bool.or_eq_true, decide_eq_true_eq, ← hm i]
      exact ⟨fun z => z.elim id (fun e => e ▸ hSk), .inl⟩, hb, hf, by rw [if_pos hSk]; exact hn, hr, hl⟩
    rw [hSk] at q
    exact q
  | none =>
    dsimp only
    have hnk : k ∉ es.toList.map keyS := fun z => by
      obtain ⟨e, he, q⟩ := (goodS_mem (P := P) (w := w) g k).1 z
      have c := List.findIdx?_eq_none_iff.mp hfi e he
      rw [q] at c
      cases c
    have hSk : S k = false := by
      cases q : S k with
      | false => rfl
      | true => exact absurd ((hm k).1 q) hnk
    have hgw : ∀ (b : Bool) {s₁ : Shared} {Q' : Unit → Shared → Prop}, Q' () s₁ → wpAny (model P w) A (match b with | true => rule "set.scan.the-table-gave-way" | false => pure ()) Q' E s₁ :=
      fun b s₁ Q' q => by cases b <;> first | exact wpAny_pure q | exact wpAny_rule q
    have pm := layNew_perm t es ((strKind P w).hash k) (.str k u)
    have hf1 := layNew_fits t es ((strKind P w).hash k) (.str k u)
    have hr1 := layNew_ris t es ((strKind P w).hash k) (.str k u) hr
    have hl1 := layNew_led t es ((strKind P w).hash k) (.str k u)
    generalize layNew t es ((strKind P w).hash k) (.str k u) = Z at pm hf1 hr1 hl1 ⊢
    obtain ⟨es1, t1, wasDummy, gave⟩ := Z
    dsimp only at pm hf1 hr1 hl1 ⊢
    rw [Array.toList_push] at pm
    have pc : es1.toList.Perm (((strKind P w).hash k, Value.str k u) :: es.toList) := pm.trans (List.perm_append_singleton _ _)
    have pk : (es1.toList.map keyS).Perm (k :: es.toList.map keyS) := pc.map keyS
    have g1 : ∀ e ∈ es1.toList, GoodS w e := fun e he => by
      rcases List.mem_cons.mp (pc.mem_iff.mp he) with z | z
      · rw [z]; exact ⟨k, u, rfl, rfl⟩
      · exact g e z
    have nd1 : (es1.toList.map keyS).Nodup := pk.nodup_iff.mpr (List.nodup_cons.mpr ⟨hnk, nd⟩)
    have m1 : ∀ i, (S i || decide (i = k)) = true ↔ i ∈ es1.toList.map keyS := fun i => by
      rw [Bool.or_eq_true, decide_eq_true_eq, hm i, pk.mem_iff, List.mem_cons]
      exact Or.comm
    have hsz : es1.size = n + 1 := by rw [← Array.length_toList, pc.length_eq, List.length_cons, Array.length_toList, hn]
    have hb1 : es1.size < scanBound := by rw [hsz]; exact room
    have hled : w.params.followText "set-order" = true ∨ t1.led = true := hl.imp id fun z => by rw [hl1]; exact z
    have fin : ∀ h', Heap.SameBut a s.heap h' → SetS w h' a (fun j => S j || decide (j = k)) es1.size → Q true { s with heap := h' } := fun h' sb r => by
      have q := hQ h' sb
      rw [hSk] at q
      rw [hsz] at r
      exact q r
    refine wpAny_bind (hgw _ ?_)
    split
    · refine wpAny_bind ?_
      rw [hashByValue_scannable 8 hsc]
      refine wpAny_pure ?_
      refine setS_add_tail ?_ ho hex hd g1 nd1 m1 hb1 ?_ ?_ ?_ ?_
      · intro b s₁ Q' q; cases b <;> first | exact wpAny_pure q | exact wpAny_rule q
      · first | (split <;> first | exact hf1 | exact SetTable.fits_plain_off hf1) | exact hf1
      · first | (split <;> exact hr1) | exact hr1
      · first | (split <;> exact hled) | exact hled
      · intro h' sb r; dsimp only; exact wpAny_pure (fin h' sb r)
    · refine wpAny_bind (wpAny_pure ?_)
      simp only [↓reduceIte]
      refine setS_add_tail ?_ ho hex hd g1 nd1 m1 hb1 hf1 hr1 hled ?_
      · intro b s₁ Q' q; cases b <;> first | exact wpAny_pure q | exact wpAny_rule q
      · intro h' sb r; dsimp only; exact wpAny_pure (fin h' sb r)

/-- a text is put into the set -/
theorem setS_add {k : Str} {u : Tok} {Q : Value → Shared → Prop} (R : SetS w s.heap a S n) (room : n + 1 < scanBound)
    (hQ : ∀ h', Heap.SameBut a s.heap h' → SetS w h' a (fun j => S j || decide (j = k)) (if S k = true then n else n + 1) → Q .none { s with heap := h', toks := s.toks + 1 }) :
    wpAny (model P w) A (call (.builtin "set.add") [.ref a, .str k u]) Q E s := by
  have hS : s.heap.SetOf (strKind P w) a S n := R.setOf
  refine wpAny_call_entry F.slot_set_add hS.typeIs F.entry_set_add ?_ (F.args_set_add_2 _ _)
  unfold Builtin.«set.add» Builtin.Frozenset.oneOther
  simp only [List.isEmpty_nil, bind_assoc]
  unfold Builtin.Frozenset.addrOf setAdd
  refine wpAny_bind (wpAny_pure ?_)
  try dsimp only
  refine wpAny_bind (wpAny_pure ?_)
  try dsimp only
  refine wpAny_bind ?_
  refine wpAny_holding ?_
  refine wpAny_bind ((strKind P w).pyHash (strK_is P w k u) ?_)
  refine setS_add_hashed (s := { s with toks := s.toks + 1 }) R room fun h' sb r => ?_
  show wpAny _ _ (ret Value.none) _ _ _
  exact wpAny_pure ⟨_, rfl, hQ h' sb r⟩

end
section
variable {P : Program} {w : World} {A : Around} {E : Value → Shared → Prop} {s : Shared}
/-! ### the empty set -/
theorem setS_fresh {h : Heap} (w : World) : SetS w (h.push { cls := .type "set", dict := none, data := .set #[] 0 (.fresh 0 0 (!w.params.followText "set-order")) }) h.objs.size (fun _ => false) 0 :=
  ⟨_, #[], 0, _, Heap.get?_push_size _ rfl, ⟨rfl, rfl, rfl⟩, rfl, (fun e he => by simp at he), (by simp), (fun k => by simp), (by decide), (by rfl), rfl, List.Pairwise.nil, by
    show _ ∨ (!w.params.followText "set-order") = true
    cases w.params.followText "set-order"
    · exact .inr rfl
    · exact .inl rfl⟩
theorem newSetS_ok {Q : Value → Shared → Prop} (h : Q (.ref s.heap.objs.size) { s with heap := s.heap.push { cls := .type "set", dict := none, data := .set #[] 0 (.fresh 0 0 (!w.params.followText "set-order")) } }) :
    wpAny (model P w) A (newSet (.type "set")) Q E s := by
  unfold newSet
  refine wpAny_bind (wpAny_byText ?_)
  dsimp only
  simp only [newObj]
  exact wpAny_bind (wpAny_alloc (wpAny_pure h))

/-- such a set, as a heap object of the layer -/
def SetSO (w : World) (a : Addr) (S : Str → Bool) (n : Nat) : HO := .ext fun h => SetS w h a S n
theorem setSO_new {w : World} {P : Program} {H : Hp} {h : Heap} {a : Addr} {S : Str → Bool} {n : Nat} (R : SetS w h a S n) : ObjOk P w H h a (SetSO w a S n) := by
  have ⟨o, _, _, _, ho, _⟩ := R
  exact ⟨R, ⟨o, ho⟩, fun h1 h2 p k => SetS.at p k⟩
section
variable {X : Cx}
theorem setSO_get {pins : List (Addr × Obj)} {σ : L2.St} {H : Hp} {s : Shared} {a : Addr} {S : Str → Bool} {n : Nat} (I : Inv X pins σ H s) (ha : H a = some (SetSO X.w a S n)) : SetS X.w s.heap a S n := (I.hok a _ ha).1
/-- set.add of a text, in the layer -/
theorem addS_ok {pins : List (Addr × Obj)} {σ : L2.St} {H : Hp} {s : Shared} {E : Value → Shared → Prop} {D : Addr} {S : Str → Bool} {n : Nat} {y : Str} {u : Tok} {Q : Value → Shared → Prop} (I : Inv X pins σ H s) (hD : H D = some (SetSO X.w D S n)) (room : n + 1 < scanBound)
    (h : ∀ s', Inv X pins σ (upd H D (SetSO X.w D (fun j => S j || decide (j = y)) (if S y = true then n else n + 1))) s' → Q .none s') : wpAny (model X.prog X.w) X.A (call (.builtin "set.add") [.ref D, .str y u]) Q E s := by
  have R := setSO_get I hD
  refine setS_add R room fun h' sb new => ?_
  have he : ∃ u, h'.get? D = some u := by
    have ⟨o, _, _, _, ho, _⟩ := new
    exact ⟨o, ho⟩
  exact h _ (I.write (e := D) (t' := s.toks + 1) (by rw [hD]; trivial) (.inl rfl) (fun b u hb hu => (sb.2 b hb).trans hu) he (setSO_new new))
end
section
variable {X : Cx}
/-- a set comprehension whose items are texts -/
def tScS (w : World) (wi : TI) (g : TG) (tt : TT) (te : TE) (vs : List Nat) : TE := fun σ H Q => wi σ H fun J H1 => ∀ D, H1 D = none → ∃ W : Nat → Nat → Hp → Prop, (∃ m, W 0 m (upd H1 D (SetSO w D (fun _ => false) 0))) ∧ ∀ i m H, W i m H →
  (J.stop i H ∧ Q (.ref D) H) ∨ (J.go i H ∧ ∃ Nx : Hp → Prop, (∀ H', Nx H' → ∃ m', m' < m ∧ W (i + 1) m' H') ∧ ∀ x H', J.yld i H x H' → g x (wipe σ vs) H' fun σ2 H2 => wipe σ2 vs = wipe σ vs ∧ tt σ2 H2 fun b H3 =>
    if b = true then te σ2 H3 fun y H4 => ∃ (c : Str) (S : Str → Bool) (n : Nat), y = .str c ∧ H4 D = some (SetSO w D S n) ∧ n + 1 < scanBound ∧ Nx (upd H4 D (SetSO w D (fun j => S j || decide (j = c)) (if S c = true then n else n + 1))) else Nx H3)
theorem scS_core {pins : List (Addr × Obj)} {s : Shared} {σ : L2.St} {H : Hp} {Q : VK} {elt tg iter : Expr} {ifs : List Expr} {scope : Scope} {own : List (Str × Nat)} {pos pos' : Pos} {wi : TI} {g : TG} {tt : TT} {te : TE} {use : Option (Value → Sem Unit)} {Qf : Value → Shared → Prop}
    (hc : X.calm = true) (hN : X.N.Nodup) (I : Inv X pins σ H s) (hi : PI X tg iter wi) (ok : BlkOk X.N X.env.scope scope own)
    (hg : ∀ (s : Shared) (H : Hp) (C : Addr) (cl : List (Str × Addr)) (fp : List Addr), PG (X.blk s H scope (compEnvC scope cl C X.env) fp) tg g) (ht : ∀ (s : Shared) (H : Hp) (C : Addr) (cl : List (Str × Addr)) (fp : List Addr), PTs (X.blk s H scope (compEnvC scope cl C X.env) fp) ifs tt)
    (he : ∀ (s : Shared) (H : Hp) (C : Addr) (cl : List (Str × Addr)) (fp : List Addr), PE (X.blk s H scope (compEnvC scope cl C X.env) fp) elt te) (hs : ∀ x, foldedSetIterable iter X.env x = pure x)
    (h : tScS X.w wi g tt te (own.map (·.2)) σ H Q)
    (hRR : ∀ D C s' m H', Inv X pins σ H' s' → Q (.ref D) H' → s'.heap.Ns C m → FpOk X pins H' C → compPost (model X.prog X.w) X.A X.xe use Qf (.ref D) C (.ok .next) s') :
    wpAny (model X.prog X.w) X.A (comprehension (.SetComp elt [⟨tg, iter, ifs, 0⟩] scope pos) scope X.env pos' (newSet (.type "set")) false (eval iter X.env) use) Qf X.xe s := by
  have hfree : ∀ y ∈ scope.names, y.2 = .free → ∃ c, X.env.cells.lookup y.1 = some c := fun y hy e => by
    rcases ok.free y hy e with k | k
    · exact I.ok.has _ (.inl k)
    · exact I.ok.has _ (.inr k)
  refine wpAny_comprehension_free (use := use) rfl hs (closure_ok hfree) ok.kind (fun y hy e => by rw [ok.uniq y hy, e])
    (thn (hi.run pins s σ H _ I h) fun xv s1 hx => thn hx fun itv s2 h2 => ?_)
  obtain ⟨it, fp, tn, J, H2, e, I2, T, st2, f2, q⟩ := h2
  subst e
  refine newSetS_ok (newEnv_comp ?_)
  generalize hD : s2.heap.objs.size = D
  have hDn : H2 D = none := I2.hok.fresh (Nat.le_of_eq hD)
  obtain ⟨W, ⟨m0, w0⟩, turn⟩ := q D hDn
  -- the set that is made
  generalize hs3 : ({ s2 with heap := s2.heap.push { cls := .type "set", dict := none, data := .set #[] 0 (.fresh 0 0 (!X.w.params.followText "set-order")) } } : Shared) = s3
  have I3 : Inv X pins σ (upd H2 D (SetSO X.w D (fun _ => false) 0)) s3 := by
    rw [← hs3]
    refine I2.laid (t' := s2.toks) (fun b o e => Heap.get?_push_of_some _ e) (Nat.le_of_eq hD) ?_
    rw [← hD]
    exact setSO_new (setS_fresh X.w)
  have h3 : s3.heap = s2.heap.push { cls := .type "set", dict := none, data := .set #[] 0 (.fresh 0 0 (!X.w.params.followText "set-order")) } := by rw [← hs3]
  have sz : ∀ b ∈ fp, b < s2.heap.objs.size := fun b hb => by
    obtain ⟨o, e, _⟩ := T.obj _ _ st2 b hb
    exact Heap.lt_size e
  have f3 : ∀ b ∈ fp, FpOk X pins (upd H2 D (SetSO X.w D (fun _ => false) 0)) b ∧ b < s3.heap.objs.size := fun b hb => by
    have hlt := sz b hb
    refine ⟨⟨?_, (f2 b hb).2⟩, by rw [h3, Heap.size_push]; exact Nat.lt_succ_of_lt hlt⟩
    rw [upd_ne (by rw [← hD]; exact Nat.ne_of_lt hlt)]
    exact (f2 b hb).1
  have st3 : tn 0 s3.heap := T.keep _ _ _ st2 fun b _ o e => by rw [h3]; exact Heap.get?_push_of_some _ e
  have I4 := block_start I3 ok hN f3
  have pg := hg s3 (upd H2 D (SetSO X.w D (fun _ => false) 0)) s3.heap.objs.size (cellsFrom (s3.heap.objs.size + 1) scope.names (cloFrom X.env.cells scope.names [])) fp
  have pt := ht s3 (upd H2 D (SetSO X.w D (fun _ => false) 0)) s3.heap.objs.size (cellsFrom (s3.heap.objs.size + 1) scope.names (cloFrom X.env.cells scope.names [])) fp
  have pe := he s3 (upd H2 D (SetSO X.w D (fun _ => false) 0)) s3.heap.objs.size (cellsFrom (s3.heap.objs.size + 1) scope.names (cloFrom X.env.cells scope.names [])) fp
  show codeAny _ _ (.compStart (.SetComp elt [⟨tg, iter, ifs, 0⟩] scope pos) 0 (.ref it) (.ref D) (compEnvC scope (cellsFrom (s3.heap.objs.size + 1) scope.names (cloFrom X.env.cells scope.names [])) s3.heap.objs.size X.env)) (compPost (model X.prog X.w) X.A X.xe use Qf (.ref D) s3.heap.objs.size) { s3 with heap := pushCells (s3.heap.push { cls := .type "dict", data := .dict #[] }) scope.names }
  have nfp : ∀ b ∈ fp, (upd H2 D (SetSO X.w D (fun _ => false) 0)) b = none := fun b hb => (f3 b hb).1.1
  generalize hce : compEnvC scope (cellsFrom (s3.heap.objs.size + 1) scope.names (cloFrom X.env.cells scope.names [])) s3.heap.objs.size X.env = ce at I4 pg pt pe ⊢
  have cL : ce.locals = s3.heap.objs.size := by subst hce; rfl
  generalize hH3 : upd H2 D (SetSO X.w D (fun _ => false) 0) = H3 at I3 I4 pg pt pe w0 nfp f3
  generalize hs4 : ({ s3 with heap := pushCells (s3.heap.push { cls := .type "dict", data := .dict #[] }) scope.names } : Shared) = s4 at I4 ⊢
  have st4 : tn 0 s4.heap := T.keep _ _ _ st3 fun b _ o e => by rw [← hs4]; exact pushCells_keeps _ _ _ _ (Heap.get?_push_of_some _ e)
  have stat : ∀ {σ' : L2.St} {H' : Hp} {s' : Shared}, Inv (X.blk s3 H3 scope ce fp) [] σ' H' s' → (∀ b ∈ fp, H' b = none) → ∀ b ∈ fp, FpOk (X.blk s3 H3 scope ce fp) [] H' b := fun {σ' H' s'} I' hn b hb =>
    ⟨hn b hb, (I'.ok.exf b hb).1, I'.ok.exfs b hb, .inl hb, fun x c e => (I'.ok.exf b hb).2 x c e, fun p hp => absurd (show p ∈ ([] : List (Addr × Obj)) ++ [] from hp) (by simp)⟩
  have loop : codeAny (model X.prog X.w) X.A (.compLoop (.SetComp elt [⟨tg, iter, ifs, 0⟩] scope pos) 0 (.ref it) (.ref D) ce) (compPost (model X.prog X.w) X.A X.xe use Qf (.ref D) s3.heap.objs.size) s4 := by
    refine PpSet.compLoopS_any (fun n s' => ∃ i H', Inv (X.blk s3 H3 scope ce fp) [] (wipe σ (own.map (·.2))) H' s' ∧ tn i s'.heap ∧ (∀ b ∈ fp, H' b = none) ∧ W i n H') ?_ m0 ⟨0, H3, I4, st4, nfp, w0⟩
    rintro n s5 ⟨i, H5, I5, st5, n5, w5⟩
    rcases turn i n H5 w5 with ⟨stop, qq⟩ | ⟨go, Nx, hNx, step⟩
    · have td := T.done (X.blk s3 H3 scope ce fp) rfl rfl rfl hc i [] s5 _ H5 (fun _ _ => False) I5 (stat I5 n5) st5 stop
      refine thnF td fun r s6 ⟨hr, I6⟩ => ?_
      subst hr
      -- out of the block
      have I7 : Inv X pins σ H5 s6 := I3.call' (ch := fp) I6.os I6.base I6.hok I6.bare fun b hb => ⟨(f3 b hb).1.2.2.2.1, (f3 b hb).1.2.1, (f3 b hb).1.2.2.2.2.1, (f3 b hb).1.2.2.2.2.2⟩
      have nC : H5 s3.heap.objs.size = none := by
        have z : H5 ce.locals = none := I6.free
        rw [cL] at z
        exact z
      obtain ⟨m, hn, _⟩ := I6.loc
      have hn : s6.heap.Ns ce.locals m := hn
      rw [cL] at hn
      exact hRR D s3.heap.objs.size s6 m H5 I7 qq hn (I3.fpOk (Nat.le_refl _) nC)
    · have ti := T.item (X.blk s3 H3 scope ce fp) rfl rfl rfl hc i [] s5 _ H5 (fun _ _ => False) I5 (stat I5 n5) st5 go
      refine thnF ti fun r s6 ⟨u, hr, h6⟩ => ?_
      subst hr
      refine thnF h6 fun _ s7 ⟨x, H7, I7, r7, y7, st7, n7⟩ => ?_
      have I7' := I7.pinned (stat I7 n7) (T.obj _ _ st7)
      refine thnF (pg.run _ s7 _ H7 x u _ I7' r7 (step x H7 y7)) fun _ s8 ⟨σ8, H8, I8, hw8, q8⟩ => ?_
      refine thnF (pt.run _ s8 σ8 H8 _ I8 q8) fun b s9 ⟨H9, I9, q9⟩ => ?_
      -- one item done
      have fin : ∀ {s' : Shared} {H' : Hp}, Inv (X.blk s3 H3 scope ce fp) ([] ++ pinsAt fp s7.heap) σ8 H' s' → Nx H' → ∃ m, m < n ∧ ∃ i H', Inv (X.blk s3 H3 scope ce fp) [] (wipe σ (own.map (·.2))) H' s' ∧ tn i s'.heap ∧ (∀ b ∈ fp, H' b = none) ∧ W i m H' := fun {s' H'} I' nx => by
        obtain ⟨m', hm, w'⟩ := hNx H' nx
        have pin' : ∀ b ∈ fp, ∀ o, s7.heap.get? b = some o → s'.heap.get? b = some o ∧ H' b = none := fun b hb o e =>
          let z := I'.pin (b, o) (List.mem_append_right _ (List.mem_append_right _ (mem_pinsAt hb e)))
          ⟨z.1, z.2.1⟩
        have hl : (wipe σ (own.map (·.2))).length = σ8.length := by rw [← hw8, wipe_length]
        refine ⟨m', hm, i + 1, H', (I'.unpinned (pins := [])).weak hl (fun j v e => ?_), T.keep _ _ _ st7 fun b hb o e => (pin' b hb o e).1, fun b hb => ?_, w'⟩
        · rw [← hw8] at e
          exact (wipe_some e).1
        · obtain ⟨o, e, _⟩ := T.obj _ _ st7 b hb
          exact (pin' b hb o e).2
      cases b with
      | false =>
        simp only [Bool.false_eq_true, if_false] at q9 ⊢
        exact fin I9 q9
      | true =>
        simp only [if_true] at q9 ⊢
        refine thnF (pe.run _ s9 σ8 H9 _ I9 q9) fun z s10 ⟨yv, H10, I10, r10, cb, S0, n0, ey, hD10, hz10, nx⟩ => ?_
        subst ey
        obtain ⟨tb, rfl⟩ := (show ∃ t, z = Value.str cb t from r10)
        exact addS_ok (X := X.blk s3 H3 scope ce fp) I10 hD10 hz10 fun s11 I11 => fin I11 nx
  exact PpSet.codeAny_compStart_set loop (T.self X.A 0 _ _ _ st4 loop)
/-- .. as an expression -/
theorem pe_scS {elt tg iter : Expr} {ifs : List Expr} {scope : Scope} {own : List (Str × Nat)} {pos : Pos} {wi : TI} {g : TG} {tt : TT} {te : TE} (hc : X.calm = true) (hN : X.N.Nodup) (hi : PI X tg iter wi) (ok : BlkOk X.N X.env.scope scope own)
    (hg : ∀ (s : Shared) (H : Hp) (C : Addr) (cl : List (Str × Addr)) (fp : List Addr), PG (X.blk s H scope (compEnvC scope cl C X.env) fp) tg g) (ht : ∀ (s : Shared) (H : Hp) (C : Addr) (cl : List (Str × Addr)) (fp : List Addr), PTs (X.blk s H scope (compEnvC scope cl C X.env) fp) ifs tt)
    (he : ∀ (s : Shared) (H : Hp) (C : Addr) (cl : List (Str × Addr)) (fp : List Addr), PE (X.blk s H scope (compEnvC scope cl C X.env) fp) elt te) (hs : ∀ x, foldedSetIterable iter X.env x = pure x := by intro _; rfl) :
    PE X (.SetComp elt [⟨tg, iter, ifs, 0⟩] scope pos) (tScS X.w wi g tt te (own.map (·.2))) := by
  refine ⟨fun pins s σ H Q I h => ?_⟩
  rw [PpSet.eval_SetComp]
  refine scS_core hc hN I hi ok hg ht he hs h fun D C s' m H' I' q hn f => ⟨m, hn, fun h'' sb => ?_⟩
  obtain ⟨f0, f1, f2, f3, f4, f5⟩ := f
  exact ⟨.ref D, H', I'.turned (t' := s'.toks) (fun b o hb e => (sb.2 b hb).trans e) f0 f1 f3 f4 f5, rfl, q⟩
end
end
end Pa
set_option Elab.async false
set_option linter.all false
set_option maxRecDepth 100000
set_option maxHeartbeats 4000000
/-! len and sorted of a set of texts; sets as data -/
namespace Pa
open PySem PySem.Spec PyProof.Rows L2 Evl
def rLenSS (w : World) : List V → Hp → VK → Prop := fun vs H Q => ∃ (a : Addr) (S : Str → Bool) (n : Nat), vs = [.ref a] ∧ H a = some (SetSO w a S n) ∧ Q (.int n) H
def rSortSS (w : World) : List V → Hp → VK → Prop := fun vs H Q => ∃ (a : Addr) (S : Str → Bool) (n : Nat) (zs : List Str), vs = [.ref a] ∧ H a = some (SetSO w a S n) ∧ Asc zs ∧ (∀ k, k ∈ zs ↔ S k = true) ∧ ∀ p, H p = none → Q (.ref p) (upd H p (.lst (zs.map V.str)))
theorem each_keys : ∀ {vs : List Value}, (∀ v ∈ vs, ∃ x t, v = Value.str x t) → PySem.W.EachIs (fun (v : Value) (x : Str) => ∃ t, v = .str x t) vs (vs.map fun v => keyS (0, v))
  | [], _ => .nil
  | v :: vs, h => by
    obtain ⟨x, t, rfl⟩ := h v List.mem_cons_self
    exact .cons ⟨t, rfl⟩ (each_keys fun q hq => h q (List.mem_cons_of_mem _ hq))
theorem each_vals : ∀ {us : List Value} {xs : List Str}, PySem.W.EachIs (fun (v : Value) (x : Str) => ∃ t, v = .str x t) us xs → Vals (xs.map V.str) us
  | _, _, .nil => .nil
  | _, _, .cons h t => .cons h (each_vals t)
section
variable {X : Cx}
theorem cr_lenSS : CallR X (.builtin "len") (rLenSS X.w) := by
  intro pins s σ H vs us Q I r h
  obtain ⟨a, S, n, rfl, ha, q⟩ := h
  obtain ⟨u, rfl, ru⟩ := vals1 r
  cases ru
  obtain ⟨o, es, ep, t, ho, hex, hd, g, nd, hm, hb, hf, hn, hr, hl⟩ := setSO_get I ha
  exact call_len_set ho hex hd hf (by rw [hn]; have : es.size < 4096 := hb; omega) ⟨.int n, H, I.tok _, ⟨_, by rw [hn]⟩, q⟩
theorem cr_sortSS (hu : X.A.units + 64 < cLine) (hc : X.calm = true) : CallR X (.builtin "sorted") (rSortSS X.w) := by
  intro pins s σ H vs us Q I r h
  obtain ⟨a, S, n, zs, rfl, ha, hz, hzm, q⟩ := h
  obtain ⟨u, rfl, ru⟩ := vals1 r
  cases ru
  obtain ⟨o, es, ep, t, ho, hex, hd, g, nd, hm, hb, hf, hn, hr, hl⟩ := setSO_get I ha
  refine Calls.call_function_entry kind_sorted plain_sorted entry_sorted (args_sorted1 _) ?_
  unfold Builtin.«sorted»
  refine wpAny_bind (m := checkCount "sorted" 1 1 _) (wpAny_pure ?_)
  refine wpAny_bind (collect_set (A := X.A.in1) (I.ok.hd hc) ⟨o, ho, hex.1, hd⟩ hf hb hr hl fun s1 vs k1 hsz g1 o1 pm => ?_)
  have hvl : vs.length = es.size := by rw [pm.length_eq, List.length_map, Array.length_toList]
  have hlt : vs.length < 4096 := by rw [hvl]; exact hb
  have hstr : ∀ v ∈ vs, ∃ x t, v = Value.str x t := fun v hv => by
    obtain ⟨e, he, rfl⟩ := List.mem_map.mp (pm.mem_iff.mp hv)
    obtain ⟨k, u, h1, _⟩ := g e he
    exact ⟨k, u, h1⟩
  have pk : (vs.map fun v => keyS (0, v)).Perm (es.toList.map keyS) := by
    have q := pm.map fun v => keyS (0, v)
    rw [List.map_map] at q
    exact q
  refine wpAny_bind (wpAny_newList ?_ (by rw [sizeLine_eq]; omega))
  have hoL : (s1.heap.push (seqObj "list" vs.toArray 0)).get? s1.heap.objs.size = some (seqObj "list" vs.toArray 0) := Heap.get?_push_size _ rfl
  refine wpAny_bind (wpAny_holding (PySem.W.list_sort_data (s := { s1 with heap := s1.heap.push (seqObj "list" vs.toArray 0) }) (a := s1.heap.objs.size) (bs := vs.map fun v => keyS (0, v)) (enc := PyData.str) (R := fun (v : Value) (x : Str) => ∃ t, v = .str x t) hoL (each_keys hstr) ((each_keys hstr).mono fun v x hx => ?_) ?_ ?_ ?_ ?_ fun out hl eo => ?_))
  · obtain ⟨t, rfl⟩ := hx
    exact ⟨[], .str x t, by simp⟩
  · intro x hx y hy
    obtain ⟨a, _, rfl⟩ := List.mem_map.mp hx
    obtain ⟨b, _, rfl⟩ := List.mem_map.mp hy
    rfl
  · refine .inr fun x hx => ?_
    obtain ⟨a, _, rfl⟩ := List.mem_map.mp hx
    exact ⟨(by intro z; cases z), (by intro _ z; cases z)⟩
  · rw [List.length_map, sizeLine_eq]; omega
  · intro b hb
    show X.A.in1.units + 1 + (PyData.str b).depth < cLine
    have e : (PyData.str b).depth = 0 := by rw [PyData.depth]
    have e2 : X.A.in1.units ≤ X.A.units + 1 := by first | exact Nat.le_refl _ | exact Nat.le_succ _
    omega
  · obtain ⟨c, hc'⟩ := sortedHeap_at (vs := vs) (out := out.toArray) hoL
    have k2 : ∀ b u, s.heap.get? b = some u → (sortedHeap (s1.heap.push (seqObj "list" vs.toArray 0)) s1.heap.objs.size vs out.toArray).get? b = some u := fun b u e => by
      have q := k1 b u e
      have hlt := Heap.lt_size q
      rw [sortedHeap_old (Nat.ne_of_lt hlt) (by rw [size_push']; exact Nat.lt_succ_of_lt hlt)]
      exact Heap.get?_push_of_some _ q
    have hperm : ((vs.map fun v => keyS (0, v)).mergeSort (PySem.W.dataLe false PyData.str)).Perm zs := by
      refine (List.mergeSort_perm _ _).trans (pk.trans ?_)
      refine (List.perm_ext_iff_of_nodup nd hz.nodup).mpr fun k => ?_
      rw [← hm k, ← hzm k]
    have hes : (vs.map fun v => keyS (0, v)).mergeSort (PySem.W.dataLe false PyData.str) = zs := by
      have h1 : sortS (vs.map fun v => keyS (0, v)) = zs := asc_eq (sortS_asc (pk.nodup_iff.mpr nd)) hz (sortS_perm.trans (pk.trans ((List.perm_ext_iff_of_nodup nd hz.nodup).mpr fun k => by rw [← hm k, ← hzm k])))
      exact h1
    rw [hes] at eo
    have v1 := each_vals eo
    refine wpAny_pure ⟨_, rfl, ?_⟩
    have hno : H s1.heap.objs.size = none := I.hok.fresh hsz
    have hlen : (zs.map V.str).length ≤ sizeLine := by
      have e1 := eo.length
      rw [List.length_map, ← e1, hl, List.length_map, sizeLine_eq]
      omega
    have J : Inv X pins σ (upd H s1.heap.objs.size (.lst (zs.map V.str))) { s with heap := sortedHeap (s1.heap.push (seqObj "list" vs.toArray 0)) s1.heap.objs.size vs out.toArray, gens := s1.gens, drawn := s1.drawn, toks := s1.toks } :=
      I.call (ch := []) (Un.laid k2 hsz hno) (I.hok.laid k2 hsz ⟨hlen, out, c, v1, hc'⟩) (by rw [g1]; exact I.bare) (fun _ z => nomatch z)
    have e : ({ s1 with heap := sortedHeap (s1.heap.push (seqObj "list" vs.toArray 0)) s1.heap.objs.size vs out.toArray } : Shared) = { s with heap := sortedHeap (s1.heap.push (seqObj "list" vs.toArray 0)) s1.heap.objs.size vs out.toArray, gens := s1.gens, drawn := s1.drawn, toks := s1.toks } := by
      cases s1
      cases s
      cases o1
      rfl
    rw [e]
    exact ⟨.ref s1.heap.objs.size, _, J, rfl, q _ hno⟩
theorem z_lenSS {w : World} (hw : X.w = w) : CallR X (.builtin "len") (rLenSS w) := hw ▸ cr_lenSS
theorem z_sortSS {w : World} (hu : X.A.units + 64 < cLine) (hc : X.calm = true) (hw : X.w = w) : CallR X (.builtin "sorted") (rSortSS w) := hw ▸ cr_sortSS hu hc
end
/-! ### as data -/
section
variable {K : PySem.W.Frag} {w : World} {ρ : Env} {te : TE} {xs : List Str} {ds : List D} {i j : Nat}
/-- a set of the texts xs -/
def EvSet (w : World) (K : PySem.W.Frag) (te : TE) (ρ : Env) (xs : List Str) : Prop := ∀ σ H, EnvD K ρ σ H → ∀ H1, Ex H H1 → ∀ Q : VK,
  (∀ a (S : Str → Bool) n H2, Ex H1 H2 → H2 a = some (SetSO w a S n) → (∀ k, S k = decide (k ∈ xs)) → n ≤ xs.length → (xs.Nodup → n = xs.length) → Q (.ref a) H2) → te σ H1 Q
theorem es_set {wi : TI} {vs : List Nat} (h : WkE K wi ρ ds) (hz : ds.length ≤ 1000) (hj : j ∈ vs) (hl : xs.length = ds.length)
    (he : ∀ (i : Nat) d x, ds[i]? = some d → xs[i]? = some x → EvE K te ((wipeE ρ vs).set j (some d)) (dS x)) : EvSet w K (tScS w wi (gName j) tYes te vs) ρ xs := by
  intro σ H e H0 e0 Q q
  refine h σ H e H0 e0 _ fun J H1 e1 jk => ?_
  intro Dl hD
  refine ⟨fun i m H => m = ds.length - i ∧ i ≤ ds.length ∧ Ex H1 H ∧ ∃ S n, H Dl = some (SetSO w Dl S n) ∧ (∀ k, S k = decide (k ∈ xs.take i)) ∧ n ≤ i ∧ (xs.Nodup → n = i), ⟨ds.length, by simp, Nat.zero_le _, Ex.new hD, _, 0, upd_same, by simp, Nat.le_refl _, fun _ => rfl⟩, ?_⟩
  rintro i m H2 ⟨rfl, hi, e2, S, n, hS, hk, hn, hnd⟩
  by_cases hlt : i < ds.length
  · refine .inr ⟨jk.go i H2 e2 hlt, fun H => i + 1 ≤ ds.length ∧ Ex H1 H ∧ ∃ S n, H Dl = some (SetSO w Dl S n) ∧ (∀ k, S k = decide (k ∈ xs.take (i + 1))) ∧ n ≤ i + 1 ∧ (xs.Nodup → n = i + 1), fun H' p' => ⟨ds.length - (i + 1), by omega, rfl, p'⟩, fun x H3 y => ?_⟩
    obtain ⟨d, hd, e3, r3⟩ := jk.yld i H2 x H3 e2 hlt y
    have hxi : i < xs.length := by omega
    have hx : xs[i]? = some xs[i] := by simp [hxi]
    refine ⟨by rw [wipe_set hj, wipe_wipe], ?_⟩
    show te _ H3 _
    have E3 : EnvD K ((wipeE ρ vs).set j (some d)) ((L2.wipe σ vs).set j (some x)) H3 := ((e.wipe vs).mono (((e0.trans e1).trans e2).trans e3)).set r3
    refine he i d _ hd hx _ H3 E3 H3 (Ex.refl _) _ fun v H4 e4 r4 => ?_
    rw [r4.raw_inv]
    have e24 := e3.trans e4
    refine ⟨xs[i], S, n, rfl, e24 Dl _ hS, by show n + 1 < 4096; omega, hlt, Ex.mut (e2.trans e24) hD, _, _, upd_same, fun k => ?_, ?_, fun hnn => ?_⟩
    · have e : (k ∈ xs.take (i + 1)) ↔ (k ∈ xs.take i ∨ k = xs[i]) := by rw [← List.take_append_getElem hxi, List.mem_append, List.mem_singleton]
      rw [hk k]
      by_cases h1 : k ∈ xs.take i
      · rw [decide_eq_true h1, decide_eq_true (e.mpr (.inl h1))]; rfl
      · rw [decide_eq_false h1, Bool.false_or]
        exact decide_eq_decide.mpr ⟨fun q => e.mpr (.inr q), fun q => (e.mp q).resolve_left h1⟩
    · split <;> omega
    · have hnot : S xs[i] = false := by
        rw [hk]
        refine decide_eq_false fun hm => ?_
        obtain ⟨q, hq⟩ := List.getElem?_of_mem hm
        have hq' : q < i := by
          have := (List.getElem?_eq_some_iff.mp hq).1
          rw [List.length_take] at this
          omega
        have hqe : xs[q]? = some xs[i] := by rwa [List.getElem?_take_of_lt hq'] at hq
        have := nd_ix hnn hqe hx
        omega
      rw [if_neg (by rw [hnot]; decide), hnd hnn]
  · have e' : i = ds.length := by omega
    subst e'
    refine .inl ⟨jk.stop H2 e2, q Dl S n H2 (e1.trans e2) hS (fun k => ?_) (by omega) (fun z => by rw [hnd z, hl])⟩
    rw [hk k, List.take_of_length_le (by omega)]
theorem ee_lenSS (h : EvSet w K te ρ xs) (nd : xs.Nodup) : EvE K (tCB (rLenSS w) (tCons te tNil)) ρ (dI (xs.length : Int)) := fun σ H e H1 e1 Q q =>
  h σ H e H1 e1 _ fun a S n H2 e2 ha hk hn hnd => ⟨a, S, n, rfl, ha, by rw [hnd nd]; exact q _ H2 e2 (.raw _)⟩
theorem ee_sortSS {zs : List Str} (h : EvSet w K te ρ xs) (hz : Asc zs) (hm : ∀ k, k ∈ zs ↔ k ∈ xs) : EvE K (tCB (rSortSS w) (tCons te tNil)) ρ (.lst (sD zs)) := fun σ H e H1 e1 Q q =>
  h σ H e H1 e1 _ fun a S n H2 e2 ha hk hn hnd => ⟨a, S, n, zs, rfl, ha, hz, fun k => by rw [hm k, hk k]; simp, fun p hp => q _ _ (e2.trans (Ex.new hp)) (.lst upd_same (by rw [sD, strs_raw]; exact Rps.raws))⟩
end
end Pa
set_option Elab.async false
set_option linter.all false
set_option maxRecDepth 100000
set_option maxHeartbeats 4000000
/-! def f(a, **names): called with keywords -/
namespace Pa
open PySem PySem.Spec PyProof.Rows L2 Evl
def emptyDict : Obj := { cls := .type "dict", data := .dict #[] }
section
variable {prog : Program} {w : World} {A : Around} {E : Value → Shared → Prop} {d : Addr}
open PySem.W (kwEs dictOf)
theorem kw_nsSet {s : Shared} {es : List DictEntry} {n : Nat} {k : Str} {v : Value} {Q : Unit → Shared → Prop} (D : s.heap.get? d = some (dictOf es n))
    (hs : ∀ e ∈ es, e.key.isStr k = false) (hr : ∀ e ∈ es, e.refKey = false)
    (h : ∀ h', h'.get? d = some (dictOf (es ++ [⟨PyData.keyHash w.params k, .str k s.toks, v⟩]) (n + 1)) → Heap.SameBut d s.heap h' → Q () { s with heap := h', toks := s.toks + 1 }) :
    wpAny (model prog w) A (nsSet d k v) Q E s := by
  have e1 : es.any (·.key.isStr k) = false := by
    cases q : es.any (·.key.isStr k) with
    | false => rfl
    | true => obtain ⟨e, he, z⟩ := List.any_eq_true.mp q; rw [hs e he] at z; cases z
  have e2 : es.any (·.refKey) = false := by
    cases q : es.any (·.refKey) with
    | false => rfl
    | true => obtain ⟨e, he, z⟩ := List.any_eq_true.mp q; rw [hr e he] at z; cases z
  have e : Obj.putName k (PyData.keyHash w.params k) (.str k s.toks) v (dictOf es n) = dictOf (es ++ [⟨PyData.keyHash w.params k, .str k s.toks, v⟩]) (n + 1) := by
    rw [PySem.W.putName_dict, PySem.W.putL_new hs]
    show dictOf _ (if es.any (·.key.isStr k) then n else n + 1) = _
    rw [e1, if_neg Bool.false_ne_true]
  have c : aRefKeyMayBeTheName k es.toArray = false := by
    rw [aRefKeyMayBeTheName_at, ← Array.any_toList, ← Array.any_toList]
    show (!es.any (·.key.isStr k) && es.any (·.refKey)) = false
    rw [e2, Bool.and_false]
  unfold nsSet
  refine wpAny_bind (wpAny_bind (wpAny_askSetting (wpAny_pure (wpAny_bind (wpAny_mkText (wpAny_bind (wpAny_loadPart D ?_)))))))
  dsimp only
  rw [c]
  refine wpAny_updatePart D (h _ ?_ (Heap.SameBut.update ..))
  exact (Heap.get?_update_self _ D ((congrArg Obj.isFreed e).trans rfl)).trans (congrArg some e)
theorem kw_fill {Q : PUnit → Shared → Prop} : ∀ (ex : List (Str × Value)) (s : Shared) (es : List DictEntry) (n : Nat), s.heap.get? d = some (dictOf es n) →
    (∀ e ∈ es, ∀ x ∈ ex, e.key.isStr x.1 = false) → (∀ e ∈ es, e.refKey = false) → (ex.map (·.1)).Nodup →
    (∀ h', h'.get? d = some (dictOf (es ++ kwEs w.params s.toks ex) (n + ex.length)) → Heap.SameBut d s.heap h' → Q ⟨⟩ { s with heap := h', toks := s.toks + ex.length }) →
    wpAny (model prog w) A (forIn ex PUnit.unit fun x _ => (nsSet d x.1 x.2 >>= fun _ => pure (ForInStep.yield PUnit.unit))) Q E s
  | [], s, es, n, D, _, _, _, h => by
    rw [List.forIn_nil]
    refine wpAny_pure (h s.heap ?_ (Heap.SameBut.refl ..))
    show s.heap.get? d = some (dictOf (es ++ []) n)
    rw [List.append_nil]
    exact D
  | x :: r, s, es, n, D, hs, hr, hn, h => by
    obtain ⟨hn1, hn2⟩ := List.nodup_cons.mp (show (x.1 :: r.map (·.1)).Nodup from hn)
    rw [List.forIn_cons]
    refine wpAny_bind (wpAny_bind (kw_nsSet D (fun e he => hs e he x (.head _)) hr fun h' D' sb => wpAny_pure ?_))
    show wpAny (model prog w) A (forIn r PUnit.unit fun x _ => (nsSet d x.1 x.2 >>= fun _ => pure (ForInStep.yield PUnit.unit))) Q E { s with heap := h', toks := s.toks + 1 }
    refine kw_fill r { s with heap := h', toks := s.toks + 1 } _ _ D' (fun e he y hy => ?_) (fun e he => ?_) hn2 fun h'' D'' sb2 => ?_
    · rcases List.mem_append.mp he with he | he
      · exact hs e he y (.tail _ hy)
      · obtain rfl := List.mem_singleton.mp he
        show (x.1 == y.1) = false
        exact beq_eq_false_iff_ne.mpr fun q => hn1 (by rw [q]; exact List.mem_map_of_mem hy)
    · rcases List.mem_append.mp he with he | he
      · exact hr e he
      · obtain rfl := List.mem_singleton.mp he
        rfl
    · have t1 : s.toks + 1 + r.length = s.toks + (r.length + 1) := by omega
      have t2 : n + 1 + r.length = n + (r.length + 1) := by omega
      show Q ⟨⟩ { s with heap := h'', toks := s.toks + 1 + r.length }
      rw [t1]
      refine h h'' ?_ (sb.trans sb2)
      rw [t2, List.append_assoc] at D''
      exact D''
def keyed (ex : List (Str × Value)) : List (Key × Value) := ex.map fun x => (Sum.inr x.1, x.2)
theorem kwEs_mix : ∀ (ex : List (Str × Value)) (t : Tok), Pairs (mixKind prog w) (kwEs w.params t ex) (keyed ex)
  | [], _ => Pairs.nil
  | x :: r, t => Pairs.cons (show (mixKind prog w).is (Sum.inr x.1) (.str x.1 t) = true from kV_is (k := Sum.inr x.1) ⟨t, rfl⟩) rfl (kwEs_mix r (t + 1))
theorem kw_dictOf {h : Heap} {ex : List (Str × Value)} {t : Tok} {n : Nat} (D : h.get? d = some (dictOf (kwEs w.params t ex) n)) (hn : (ex.map (·.1)).Nodup) : h.DictOf (mixKind prog w) d (keyed ex) := by
  refine ⟨_, (kwEs w.params t ex).toArray, n, D, ⟨rfl, rfl, rfl⟩, rfl, fun e he => ?_, kwEs_mix ex t, ?_⟩
  · obtain ⟨k, u, hk, hh⟩ := PySem.W.kwEs_key ex t e (List.mem_toArray.mp he)
    refine ⟨Sum.inr k, ?_, ?_⟩
    · rw [hk]
      exact kV_is (k := Sum.inr k) ⟨u, rfl⟩
    · rw [hh]
      rfl
  · unfold keyed
    rw [List.map_map]
    refine List.pairwise_map.mpr ((List.pairwise_map.mp hn).imp fun {a b} q e => q (Sum.inr.inj e))
end
/-! ### the heap with a new dict, ahead of a def's body -/
section
variable {P : Program} {w : World} {K : PySem.W.Frag} {mg : Str → Option Value} {base : Heap} {A : Around} {outer : List PySem.Env} {s : Shared} {H : Hp}
theorem env0_new {u : HO} {h' : Heap} {tk : Nat} (e0 : Env0 P w K mg base A outer s H) (kp : ∀ b x, s.heap.get? b = some x → h'.get? b = some x) (hs : s.heap.objs.size ≤ h'.objs.size) (new : ObjOk P w (upd H s.heap.objs.size u) h' s.heap.objs.size u) :
    Env0 P w K mg base A outer { s with heap := h', toks := tk } (upd H s.heap.objs.size u) := by
  refine ⟨e0.frames, e0.mod, fun b x e => ⟨kp b x (e0.bs b x e).1, ?_⟩, ?_, Heap.FunFrames.of_keeps (fun b x e _ => ⟨x, kp b x e, rfl⟩) e0.funs, fun b hb => ?_, e0.hok.laid kp (Nat.le_refl _) new, e0.bare⟩
  · rw [upd_ne (Nat.ne_of_lt (Heap.lt_size (e0.bs b x e).1))]
    exact (e0.bs b x e).2
  · exact Nat.le_trans e0.bsz hs
  · obtain ⟨_, x, hx, _⟩ := e0.funs.mem hb
    rw [upd_ne (Nat.ne_of_lt (Heap.lt_size hx))]
    exact e0.frf b hb
end
def kwsK (ks : List Str) (zs : List V) : List (Key × V) := (ks.zip zs).map fun x => (Sum.inr x.1, x.2)
/-- x(e, k = v, ..): the keywords gathered into a new dict -/
def tKw (ks : List Str) (sp : Sp) (t tk : TA) : TE := fun σ H Q => t σ H fun vs H1 => tk σ H1 fun zs H2 => ∃ v, vs = [v] ∧ zs.length = ks.length ∧ ∀ d, H2 d = none → sp [v, .ref d] (upd H2 d (.dK (kwsK ks zs))) Q C8.E0
theorem kv_of : ∀ {ks : List Str} {zs : List V} {ws : List Value}, Vals zs ws → KV (kwsK ks zs) (keyed (ks.zip ws))
  | [], _, _, _ => .nil
  | _ :: _, _, _, .nil => .nil
  | k :: ks, _, _, .cons h t => .cons ⟨rfl, h⟩ (kv_of (ks := ks) t)
section
variable {X : Cx} {k : Nat} {f : Addr} {fd : FuncData} {N ks : List Str} {sp : Sp} {x p1 pd name qual : Str} {params : Arguments} {body : List Stmt} {scope : Scope} {p pos : Pos} {e : Expr} {es : List Expr} {kws : List Keyword} {t tk : TA}
theorem pe_kwcall (F : FunD X.K name qual params body scope [] [] f fd) (S : FnScope N [p1, pd] scope) (hr : Room (k + 1) X.A) (hg : Gl X x) (hm : X.mg x = some (.ref f)) (hnd : ks.Nodup) (hk1 : ks.length ≤ 1000)
    (hb : ∀ (dV kV doc pm : Value) (an : Option Addr) (cdv ct : Value) (v : Value) (ws : List Value), dV = .none → ws.length = ks.length → bindArgs (PySem.W.fnOf name qual params body scope dV kV doc pm an cdv ct) ⟨[v], ks.zip ws⟩ =
      ((alloc emptyDict : Sem Addr) >>= fun D => (forIn (ks.zip ws) PUnit.unit (fun x _ => (nsSet D x.1 x.2 >>= fun _ => pure (ForInStep.yield PUnit.unit))) >>= fun _ => pure [(p1, v), (pd, Value.ref D)])))
    (hbody : ∀ (cdv : Value) (A : Around) (outer : List PySem.Env) (s : Shared) (H : Hp) (vs : List V) (Q : VK) (E : XK), Room k (A.deeper (envOfC qual scope s.heap.objs.size f cdv)) → sp vs H Q E →
      ∃ t, PSs (cxOf CX0 X.prog X.w X.K X.mg X.base N qual scope f cdv A outer s H E).nox body t ∧ t { nx := fun _ H' => Q .non H', rt := Q } (start N vs) H)
    (ha : PA X (e :: es) t) (hkw : PK X kws tk) (hall : (backToKw pos (keywordEach kws X.env)).all (·.1.isSome) = true := by rfl) (hks : (backToKw pos (keywordEach kws X.env)).filterMap (·.1) = ks := by rfl)
    (hdb : (x == ("__debug__" : Str)) = false := by decide) (he : starEach (e :: es) X.env = (false, eval e X.env) :: starEach es X.env := by rfl)
    (hpl : ((backTo pos (starEach (e :: es) X.env)).any (·.1) || (backToKw pos (keywordEach kws X.env)).any (·.1.isNone)) = false := by rfl) :
    PE X (.Call (.Name x p) (e :: es) kws pos) (tKw ks sp t tk) := by
  refine ⟨fun pins s σ H Q I h => ?_⟩
  refine wpAny_Call_Name_kw (ld_glob I hg hm ?_ hdb)
  refine PySem.W.callWith_KW (h₀ := X.base) I.ok.mod.kin F.kp hall (thn (ha.run pos pins s σ H _ I h) fun us s1 ⟨vs, H1, I1, r, q⟩ => ?_) hpl he
  refine thn (hkw.run pos pins s1 σ H1 _ I1 q) fun ws s2 ⟨zs, H2, I2, rz, v, ev, l2, q2⟩ => ⟨I2.kIn, ?_⟩
  subst ev
  rw [hks]
  obtain ⟨u, rfl, ru⟩ := vals1 r
  obtain ⟨oc, od, dV, kV, doc, pm, an, cdv, ct, osl, rfl, lk, hcd, hD, hK⟩ := F.ex
  have hdV : dV = .none := by
    rcases hD with ⟨_, h⟩ | ⟨e, _⟩
    · exact h
    · exact absurd rfl e
  have hws : ws.length = ks.length := by rw [← rz.length]; exact l2
  have e0 := I2.env0
  have hn : H2 s2.heap.objs.size = none := e0.hok.fresh (Nat.le_refl _)
  have hnd' : ((ks.zip ws).map (·.1)).Nodup := by
    have : (ks.zip ws).map (·.1) = ks := by
      rw [List.map_fst_zip]
      omega
    rw [this]; exact hnd
  refine wpAny_call (codeAny_mono (StX.run_bnd (CX := CX0) (Q := Q) (E := C8.E0) (G := fun xs H3 => xs = [v, .ref s2.heap.objs.size] ∧ H3 = upd H2 s2.heap.objs.size (.dK (kwsK ks zs))) lk hcd S hr e0 (fun A' Exx Q' hq => ?_) fun s3 H3 xs ⟨ex, eH⟩ hr' => ?_) fun rr s' hq => ?_)
  · show wpAny (model X.prog X.w) A' (bindArgs (PySem.W.fnOf name qual params body scope dV kV doc pm an cdv ct) ⟨[u], ks.zip ws⟩) Q' Exx s2
    rw [hb dV kV doc pm an cdv ct u ws hdV hws]
    refine wpAny_bind (wpAny_alloc ?_)
    have D0 : (s2.heap.push emptyDict).get? s2.heap.objs.size = some (PySem.W.dictOf [] 0) := Heap.get?_push_size _ rfl
    refine wpAny_bind (kw_fill (ks.zip ws) { s2 with heap := s2.heap.push emptyDict } [] 0 D0 (fun _ z => nomatch z) (fun _ z => nomatch z) hnd' fun h' D' sb => wpAny_pure ?_)
    have kp : ∀ b x, s2.heap.get? b = some x → h'.get? b = some x := fun b x e => (sb.2 b (Nat.ne_of_lt (Heap.lt_size e))).trans (Heap.get?_push_of_some _ e)
    have hsz : s2.heap.objs.size ≤ h'.objs.size := by rw [sb.1, Heap.size_push]; exact Nat.le_succ _
    have hlen : (kwsK ks zs).length ≤ sizeLine := by
      unfold kwsK
      rw [List.length_map, List.length_zip, sizeLine_eq]
      omega
    have new : ObjOk X.prog X.w (upd H2 s2.heap.objs.size (.dK (kwsK ks zs))) h' s2.heap.objs.size (.dK (kwsK ks zs)) :=
      ⟨hlen, by have := StX.env0_big e0; exact beq_eq_false_iff_ne.mpr (Nat.ne_of_gt this), _, kv_of rz, kw_dictOf D' hnd'⟩
    have un : Un (frs X.stack) [] H2 (upd H2 s2.heap.objs.size (.dK (kwsK ks zs))) s2.heap h' := Un.laid kp (Nat.le_refl _) hn
    exact hq { s2 with heap := h', toks := s2.toks + (ks.zip ws).length } (upd H2 s2.heap.objs.size (.dK (kwsK ks zs))) [v, .ref s2.heap.objs.size] [u, .ref s2.heap.objs.size] (env0_new (s := s2) e0 kp hsz new) un rfl (fun e s' z => (z : False).elim) (.cons ru (.cons rfl .nil)) rfl ⟨rfl, rfl⟩
  · subst ex eH
    obtain ⟨t, ht, q⟩ := hbody cdv X.A X.stack s3 _ _ Q C8.E0 hr' (q2 _ hn)
    exact ⟨t, ht.nox, q⟩
  · cases rr with
    | error e => exact hq.elim
    | ok fl =>
      cases fl with
      | ret u => exact I2.after hq
      | next => exact False.elim hq
      | brk => exact False.elim hq
      | cont => exact False.elim hq
end
end Pa
set_option Elab.async false
set_option linter.all false
set_option maxRecDepth 100000
set_option maxHeartbeats 8000000
namespace Pa
open PySem PySem.Spec PyProof.Rows L2 Evl
section
variable {P : Program} {w : World} {K : PySem.W.Frag} {mg : Str → Option Value} {base : Heap}

section
variable {X : Cx} {K : PySem.W.Frag} {H : Hp}
theorem z_notIn (h : X.K = K) : OpR X (compareOp .NotIn) (rIn K true) := h ▸ op_notIn_seq
theorem rd_notInT {x : Str} {xs : List Str} : RD K (rIn K true) (dS x) (.tup (sD xs)) H (dB (!decide (x ∈ xs))) := fun H1 _ a b ha hb Q q => by
  obtain ⟨p, ys, rfl, hp, r⟩ := hb.tup_inv
  rw [sD, strs_raw] at r
  have e := r.raws_inv
  subst e
  rw [ha.raw_inv]
  refine ⟨p, _, rfl, .inr hp, rfl, Pa.flat_strs, ?_⟩
  show Q (.bl (!inV (.str x) (xs.map V.str))) H1
  rw [inV_strs]
  exact q _ H1 (Ex.refl _) (.raw _)
end
/-- the names that the keywords give -/
structure RenOf (p : Party) (ps : List (Str × Str)) (f : Str → Str) : Prop where
  ok : PartyOk p
  ren : Ren p f
  keys : ∀ q ∈ ps, q.1 ∈ names p ∧ isNm q.2
  nd : (ps.map (·.1)).Nodup
  at_ : ∀ x ∈ names p, f x = (ps.lookup x).getD x
def psD (ps : List (Str × Str)) : List (Str × D) := ps.map fun q => (q.1, dS q.2)
def freshD (p : Party) (f : Str → Str) : List (Str × D) := (names p).map fun x => (x, dS (f x))
def spKw (K : PySem.W.Frag) (res : Party → (Str → Str) → D) : Sp := fun vs H Q _ => ∃ (p : Party) (ps : List (Str × Str)) (f : Str → Str) (v : V) (d : Addr) (xs : List (Key × V)) (Hs : Hp), vs = [v, .ref d] ∧ Hs d = none ∧ Ex Hs H ∧ H d = some (.dK xs) ∧
  Rp K Hs v p.d ∧ Rkv K Hs xs (psD ps) ∧ RenOf p ps f ∧ ∀ v' H', Ex Hs H' → Rp K H' v' (res p f) → Q v' H'
theorem psD_look {ps : List (Str × Str)} {x : Str} : (psD ps).lookup x = (ps.lookup x).map dS := by
  induction ps with
  | nil => rfl
  | cons q ps ih =>
    obtain ⟨a, b⟩ := q
    show ((a, dS b) :: psD ps).lookup x = _
    by_cases h : x = a
    · subst h; simp
    · have hb : (x == a) = false := beq_eq_false_iff_ne.mpr h
      simp only [List.lookup_cons, hb]
      exact ih
theorem look_mem {ps : List (Str × Str)} (nd : (ps.map (·.1)).Nodup) {q : Str × Str} (h : q ∈ ps) : ps.lookup q.1 = some q.2 := by
  induction ps with
  | nil => cases h
  | cons r ps ih =>
    obtain ⟨n1, n2⟩ := List.nodup_cons.mp nd
    rcases List.mem_cons.mp h with rfl | h'
    · obtain ⟨a, b⟩ := q
      simp
    · have hne : (q.1 == r.1) = false := beq_eq_false_iff_ne.mpr fun e => n1 (List.mem_map.mpr ⟨q, h', e⟩)
      obtain ⟨a, b⟩ := r
      simp only [List.lookup_cons, hne]
      exact ih n2 h'
theorem fresh_look {p : Party} (h : PartyOk p) {f : Str → Str} : Fresh (freshD p f) f (names p) := fun x hx => by
  obtain ⟨i, hi⟩ := List.getElem?_of_mem hx
  have hk : (freshD p f).map (·.1) = names p := by
    unfold freshD
    rw [List.map_map]
    exact List.map_id _
  exact lookup_nodup (i := i) (by rw [hk]; exact h.nd) (by unfold freshD; rw [List.getElem?_map, hi]; rfl)
theorem start_kw {N' : List Str} {v : V} {d : Addr} {xs : List (Key × V)} {p : Party} {kvs : List (Str × D)} {Hs H : Hp} (h0 : Hs d = none) (e : Ex Hs H) (hx : H d = some (.dK xs)) (r : Rp K Hs v p.d) (rk : Rkv K Hs xs kvs) (hN : 2 ≤ N'.length) :
    StO K Hs (.rd p.d :: .od d kvs :: List.replicate (N'.length - 2) .no) [] [] (start N' [v, .ref d]) H := by
  have hads : ads (.rd p.d :: .od d kvs :: List.replicate (N'.length - 2) .no) = [d] := by
    have : ∀ m, (List.replicate m En.no).flatMap En.ad = [] := fun m => by
      induction m with
      | zero => rfl
      | succ m ih => simpa [List.replicate_succ, En.ad] using ih
    unfold ads
    show [] ++ ([d] ++ (List.replicate (N'.length - 2) En.no).flatMap En.ad) = [d]
    rw [this]
    rfl
  refine ⟨Hs, Ex.refl _, ⟨e, by rw [hads]; simpa using h0, by rw [hads]; simp, by simp [L2.start], fun i en hi => ?_, .nil⟩⟩
  match i, hi with
  | 0, hi => cases hi; exact ⟨some v, rfl, v, rfl, r⟩
  | 1, hi => cases hi; exact ⟨some (.ref d), rfl, rfl, xs, hx, rk⟩
  | i + 2, hi =>
    have hi' : (List.replicate (N'.length - 2) En.no)[i]? = some en := by simpa using hi
    obtain ⟨h1, h2⟩ := List.getElem?_eq_some_iff.mp hi'
    simp at h1 h2
    refine ⟨none, ?_, by rw [← h2]; trivial⟩
    simp [L2.start, h1]
theorem spKw_len {res : Party → (Str → Str) → D} (vs : List V) (H : Hp) (Q : VK) (E : XK) (hs : spKw K res vs H Q E) : vs.length = 2 := by
  obtain ⟨_, _, _, _, _, _, _, rfl, _⟩ := hs
  rfl

theorem sc_fresh_names : FnScope ["party", "names", "people", "person", "fresh"] ["party", "names"] d_fresh_names.scope := ⟨rfl, rfl, rfl, by decide +kernel, rfl, by decide +kernel, by decide +kernel⟩
theorem ok_fresh_names (T : Wd K mg base) : C8.Cal P w K mg base (1 + 1) "fresh_names" (spKw K fun p f => .dic (freshD p f)) [] := by
  refine cal_of T 20 37 (d := d_fresh_names) rfl rfl rfl rfl rfl sc_fresh_names spKw_len (fun _ _ _ _ _ _ us hl => match us, hl with | [_, _], _ => rfl) fun cdv A outer s H vs Q E hr h => ?_
  refine ⟨_, (pss_cons (ps_set (i := 2) sc_fresh_names.nd rfl (by first | exact Or.inl rfl | exact Or.inr rfl) (C8.pe_c (ok_people_of T) hr (by decide) rfl (pa_cons (pv 0) pa_nil)))
    (pss_cons (ps_lock (ps_for PassesOwn.never rfl (pi_keys (pv 1)) (pg_name (i := 3) sc_fresh_names.nd rfl (by first | exact Or.inl rfl | exact Or.inr rfl)) (pss_one (ps_if (pt_cmpR (z_notIn (K := K) rfl) (pv 3) (pv 2) (by first | rfl | with_unfolding_all rfl)) (pss_one ps_never) pss_nil))))
    (pss_cons (ps_lock (ps_for PassesOwn.never rfl (pi_keys (pv 1)) (pg_name (i := 3) sc_fresh_names.nd rfl (by first | exact Or.inl rfl | exact Or.inr rfl)) (pss_one (ps_expr (C8.pe_c (ok_require T) hr (by decide) rfl (pa_cons (C8.pe_c (ok_is_name T) hr (by decide) rfl (pa_cons (pe_dget (hu_of hr) (pv 1) (pv 3) (fun _ _ => rfl)) pa_nil)) (pa_cons pe_str (pa_cons (pe_un un_neg pe_int) pa_nil))))))))
    (pss_cons (ps_set (i := 4) sc_fresh_names.nd rfl (by first | exact Or.inl rfl | exact Or.inr rfl) (pe_dc (own := [("person", 3)]) (by rfl) sc_fresh_names.nd (zi_any (K := K) rfl (pv 2)) (blkOk_by (own := [("person", 3)]) (N := ["party", "names", "people", "person", "fresh"]) (sc := d_fresh_names.scope) (by decide +kernel)) (fun _ _ _ _ _ => (pg_name (i := 3) sc_fresh_names.nd rfl (by first | exact Or.inl rfl | exact Or.inr rfl))) (fun _ _ _ _ _ => pts_nil) (fun _ _ _ _ _ => (pv 3)) (fun _ _ _ _ _ => (pe_dget2 (hu_of hr) (pv 1) (pv 3) (pv 3) ⟨rfl, rfl, rfl, rfl⟩))))
    (pss_cons (ps_expr (C8.pe_c (ok_require T) hr (by decide) rfl (pa_cons (pe_cmpR (z_eq (K := K) hr.units rfl) (pe_callB (z_lenSS (w := w) rfl) (by rfl) T.g_len (by decide +kernel) (pa_cons (pe_scS (own := [("person", 3)]) (by rfl) sc_fresh_names.nd (zi_any (K := K) rfl (pv 2)) (blkOk_by (own := [("person", 3)]) (N := ["party", "names", "people", "person", "fresh"]) (sc := d_fresh_names.scope) (by decide +kernel)) (fun _ _ _ _ _ => (pg_name (i := 3) sc_fresh_names.nd rfl (by first | exact Or.inl rfl | exact Or.inr rfl))) (fun _ _ _ _ _ => pts_nil) (fun _ _ _ _ _ => (pe_dget (hu_of hr) (pv 4) (pv 3) (fun _ _ => rfl)))) pa_nil)) (pe_callB (z_len (K := K) rfl) (by rfl) T.g_len (by decide +kernel) (pa_cons (pv 2) pa_nil)) (nomark _)) (pa_cons pe_str (pa_cons (pe_un un_neg pe_int) pa_nil)))))
    (pss_one (ps_ret (pv 4)))))))), ?_⟩
  obtain ⟨p, ps, f, v, d, xs, Hs, rfl, h0, e0, hx, r, rk, ok, q⟩ := h
  have hl := ok.ok.len
  refine RO.run (N := fun _ => False) (R := fun d' _ => d' = .dic (freshD p f)) ?_ (start_kw h0 e0 hx r rk (by decide)) (fun _ _ _ z => z.elim) fun v' d' ρ' σ' H' e s => q v' H' s.exs (by subst e; exact s.top)
  have htu : ∀ q ∈ psD ps, q.2.tu = true := fun q hq => by
    obtain ⟨z, _, rfl⟩ := List.mem_map.mp hq
    rfl
  let B : Enw := [.rd p.d, .od d (psD ps), .rd (.tup (sD (names p))), .no, .no]
  have hT : Tuish B 1 := fun j e hj he => by
    match j, he with
    | 0, he => cases he; exact .inr ⟨_, rfl, p.tu⟩
    | 1, he => exact absurd rfl hj
    | 2, he => cases he; exact .inr ⟨_, rfl, by simp [D.tu, sD_tus]⟩
    | 3, he => cases he; exact .inl rfl
    | 4, he => cases he; exact .inl rfl
  refine ro_s (ro_set (d := .tup (sD (names p))) (ee_call (es_cons (ee_var rfl) es_nil) ⟨p, rfl, hl, rfl⟩) (.inl (by simp [D.tu, sD_tus])) rfl) ?_
  refine ro_s (ρ1 := B) (ro_forK (i := 1) rfl rfl htu hT (fun z hz => ⟨_, go_name, ?_⟩) rfl) ?_
  · obtain ⟨y, hy, rfl⟩ := List.mem_map.mp hz
    have hm := (ok.keys y hy).1
    refine ro_ifF (te_is (te_test (ee_op (ee_var rfl) (ee_var rfl) fun _ => rd_notInT)) (by simp [hm])) (ro_next ?_)
    exact .keep rfl (.keep rfl (.keep rfl (.drop (.keep rfl .nil))))
  refine ro_s (ρ1 := B) (ro_forK (i := 1) rfl rfl htu hT (fun z hz => ⟨_, go_name, ?_⟩) rfl) ?_
  · obtain ⟨y, hy, rfl⟩ := List.mem_map.mp hz
    have hn := (ok.keys y hy).2
    refine ro_drop (ee_call (es_cons (ee_call (es_cons (ee_dget (d := dS y.2) (ee_var rfl) (ee_var rfl) (by rw [psD_look, look_mem ok.nd hy]; rfl)) es_nil) ⟨_, rfl, hn, rfl⟩) (es_cons ee_c (es_cons (ee_un ee_c fun _ => ru_neg) es_nil))) ⟨_, _, rfl, rfl⟩) (.inr rfl) ?_
    exact .keep rfl (.keep rfl (.keep rfl (.drop (.keep rfl .nil))))
  refine ro_weak (ρ' := [.rd p.d, .od d (psD ps), .rd (.tup (sD (names p))), .no, .no]) Weak.refl ?_
  refine ro_giveD (i := 1) rfl rfl ?_
  refine ro_s (ro_set (d := .dic (freshD p f)) (ee_is (ee_dc (js := [3]) (fun i => [some p.d, some (.dic (psD ps)), some (.tup (sD (names p))), (sD (names p))[i]?, none]) (fun i => (names p).getD i "") (fun i => dS (f ((names p).getD i ""))) (wke_t (ee_var rfl)) (by rw [sD_len]; simp [names]; omega) (by simp) (fun _ _ _ => rfl) (fun i d hd => ?_) (fun i d hd => ?_) fun i d hd => ?_) ?_) (.inr rfl) rfl) ?_
  · rw [hd]
    exact ge_name
  · rw [hd]
    obtain ⟨x, hx, rfl⟩ := sD_get hd
    exact ee_is (ee_var rfl) (by simp [List.getD, hx])
  · rw [hd]
    obtain ⟨x, hx, rfl⟩ := sD_get hd
    have e := ok.at_ x (List.mem_of_getElem? hx)
    refine ee_is (ee_dget2 (ee_var rfl) (ee_var rfl) (ee_var rfl)) ?_
    rw [psD_look]
    simp only [List.getD, hx, Option.getD_some, e]
    cases ps.lookup x <;> rfl
  · rw [dcD_eq, sD_len]
    have e : ((List.range (names p).length).map fun i => ((names p).getD i "", dS (f ((names p).getD i "")))) = freshD p f := by
      unfold freshD
      refine List.ext_getElem (by simp) fun i h1 h2 => ?_
      have : i < (names p).length := by simpa using h1
      simp [this]
    have hk : (freshD p f).map (·.1) = names p := by
      unfold freshD
      rw [List.map_map]
      exact List.map_id _
    rw [e, dicOf_nodup (by rw [hk]; exact ok.ok.nd)]
  have hnd : ((names p).map f).Nodup := nodup_map ok.ok.nd ok.ren.inj
  refine ro_s (ro_drop (ee_call (es_cons (ee_is (ee_op (ee_lenSS (xs := (names p).map f) (es_set (wke_t (ee_var rfl)) (by rw [sD_len]; simp [names]; omega) (by simp) (by simp [sD]) fun i d x hd hx => ?_) hnd) (ee_cb (es_cons (ee_var rfl) es_nil) fun _ => rc_lenT) fun _ => rd_eqX rfl) (d' := dB true) (by simp [sD])) (es_cons ee_c (es_cons (ee_un ee_c fun _ => ru_neg) es_nil))) ⟨_, _, rfl, rfl⟩) (.inr rfl) rfl) ?_
  · obtain ⟨y, hy, rfl⟩ := sD_get hd
    rw [List.getElem?_map, hy] at hx
    cases hx
    exact ee_dget (ee_var rfl) (ee_var rfl) (fresh_look ok.ok y (List.mem_of_getElem? hy))
  exact ro_ret (ee_var rfl) (.inr rfl) rfl
end
end Pa
set_option Elab.async false
set_option linter.all false
set_option maxRecDepth 100000
set_option maxHeartbeats 8000000
namespace Pa
open PySem PySem.Spec PyProof.Rows L2 Evl
section
variable {P : Program} {w : World} {K : PySem.W.Frag} {mg : Str → Option Value} {base : Heap}

/-! back from data -/
def unS : D → Str
  | .raw (.str x) => x
  | _ => ""
def unI : D → Int
  | .raw (.int x) => x
  | _ => 0
def unRow : D → Row
  | .tup [a, b, c, d, e, .tup ws] => ⟨unS a, unI b, unI c, unS d, unI e, ws.map unS⟩
  | _ => ⟨"", 0, 0, "", 0, []⟩
def unTie : D → Tie
  | .tup [a, b, c] => ⟨unS a, unS b, unI c⟩
  | _ => ⟨"", "", 0⟩
theorem unS_sD {xs : List Str} : (sD xs).map unS = xs := by
  unfold sD
  rw [List.map_map]
  exact List.map_id _
theorem unRow_d (r : Row) : unRow r.d = r := by
  show (⟨r.nm, r.fst, r.lst, r.kind, r.pat, (sD r.waits).map unS⟩ : Row) = r
  rw [unS_sD]
theorem unTie_d (t : Tie) : unTie t.d = t := rfl
theorem rows_map {g : Row → Row} {rs : List Row} : ((rowsD rs).map fun d => (g (unRow d)).d) = rowsD (rs.map g) := by
  unfold rowsD
  rw [List.map_map, List.map_map]
  refine List.map_congr_left fun r _ => ?_
  show (g (unRow r.d)).d = (g r).d
  rw [unRow_d]
theorem ties_map {g : Tie → Tie} {rs : List Tie} : ((tiesD rs).map fun d => (g (unTie d)).d) = tiesD (rs.map g) := by
  unfold tiesD
  rw [List.map_map, List.map_map]
  rfl
theorem ren_rows_ok {p : Party} {f : Str → Str} (h : PartyOk p) (r : Ren p f) : ∀ x ∈ p.rows.map (Row.ren f), D.ok 2 x.d = true := fun x hx => by
  obtain ⟨y, hy, rfl⟩ := List.mem_map.mp hx
  have ok := h.row y hy
  refine row_ok (r := y.ren f) (r.nm _ (nm_mem hy)) ok.kd (fun z hz => ?_) (n := 0)
  obtain ⟨u, hu, rfl⟩ := List.mem_map.mp (sortD_mem.mp hz)
  exact r.nm _ (ok.wi u hu).1
theorem ren_ties_ok {p : Party} {f : Str → Str} (h : PartyOk p) (r : Ren p f) : ∀ x ∈ p.ties.map (Tie.ren f), D.ok 1 x.d = true := fun x hx => by
  obtain ⟨y, hy, rfl⟩ := List.mem_map.mp hx
  have ok := h.tin y hy
  exact tie_ok (r.nm _ ok.1) (r.nm _ ok.2.1)
/-- the call of fresh_names with what the keywords gave -/
theorem ro_fresh {K : PySem.W.Frag} {p : Party} {ps : List (Str × Str)} {f : Str → Str} {d : Addr} {E : XK} {ρr : Enw} {N : Enw → Prop} {R : D → Enw → Prop} {tz : TS} (ok : RenOf p ps f) (hr : ads (.rd p.d :: .od d (psD ps) :: .no :: ρr) = [d])
    (k : RO K tz (.rd p.d :: .no :: .rd (.dic (freshD p f)) :: ρr) N R) : RO K (tSeq (tAsg (tCall (spKw K fun p f => .dic (freshD p f)) [] E (tCons (tVar 0) (tCons (tVar 1) tNil))) (gName 2)) tz) (.rd p.d :: .od d (psD ps) :: .no :: ρr) N R := fun Hs Dn σ H s kn kr => by
  obtain ⟨H0, eh, s0⟩ := s
  obtain ⟨u0, hu0, v, rfl, rv⟩ := s0.at_ 0 _ rfl
  obtain ⟨hd, xs, hx, rx⟩ := s0.ownedD (i := 1) rfl
  have h0d : H0 d = none := s0.no d (by rw [hr]; simp)
  refine ⟨v, hu0, .ref d, hd, p, ps, f, v, d, xs, H0, rfl, h0d, s0.ex, hx, rv, rx, ok, fun v' H' e' r' => ?_⟩
  have hlen : 2 < σ.length := by rw [s0.len]; simp
  have hads : ads ρr = [] := by
    have : ads (.rd p.d :: .od d (psD ps) :: .no :: ρr) = d :: ads ρr := rfl
    rw [this] at hr
    exact (List.cons.inj hr).2
  refine k Hs Dn _ H' ⟨H', eh.trans e', ⟨Ex.refl _, ?_, ?_, by simp [s0.len], fun j en hj => ?_, .nil⟩⟩ kn kr
  · show ∀ a ∈ ads ρr, _
    rw [hads]; simp
  · show (ads ρr).Nodup
    rw [hads]; exact List.nodup_nil
  · match j, hj with
    | 0, hj => cases hj; exact ⟨_, by rw [List.getElem?_set_ne (by decide)]; exact hu0, v, rfl, rv.mono e'⟩
    | 1, hj => cases hj; exact ⟨_, by rw [List.getElem?_set_ne (by decide)]; exact hd, trivial⟩
    | 2, hj => cases hj; exact ⟨_, by rw [List.getElem?_set_self hlen], v', rfl, r'⟩
    | j + 3, hj =>
      have hj' : ρr[j]? = some en := hj
      obtain ⟨o, ho, hat⟩ := s0.at_ (j + 3) en (by exact hj')
      refine ⟨o, by rw [List.getElem?_set_ne (by omega)]; exact ho, ?_⟩
      have hnot : ∀ b, b ∉ en.ad := fun b hb => by
        have := ads_mem hj' hb
        rw [hads] at this
        cases this
      cases en with
      | no => trivial
      | rd x => obtain ⟨v, h1, h2⟩ := hat; exact ⟨v, h1, h2.mono e'⟩
      | ra b x => obtain ⟨h1, h2⟩ := hat; exact ⟨h1, h2.mono e'⟩
      | ow b ds => exact absurd (List.mem_singleton.mpr rfl) (hnot b)
      | gh b ds => exact absurd (List.mem_singleton.mpr rfl) (hnot b)
      | ot b ks => exact absurd (List.mem_singleton.mpr rfl) (hnot b)
      | rr b x0 cs l m n => exact absurd (List.mem_singleton.mpr rfl) (hnot b)
      | od b ds => exact absurd (List.mem_singleton.mpr rfl) (hnot b)
      | om b rows => exact absurd List.mem_cons_self (hnot b)

theorem sc_renamed : FnScope ["party", "names", "fresh", "rows", "ties", "closing", "found", "bound", "row", "tie"] ["party", "names"] d_renamed.scope := ⟨rfl, rfl, rfl, by decide +kernel, rfl, by decide +kernel, by decide +kernel⟩
theorem body_renamed (T : Wd K mg base) {j : Nat} (hj : 2 ≤ j) : ∀ (cdv : Value) (A : Around) (outer : List PySem.Env) (s : Shared) (H : Hp) (vs : List V) (Q : VK) (E : XK), Room j (A.deeper (envOfC d_renamed.qual d_renamed.scope s.heap.objs.size (He.ga K "renamed") cdv)) → (spKw K fun p f => (p.ren f).d) vs H Q E →
      ∃ t, PSs (cxOf CX0 P w K mg base ["party", "names", "fresh", "rows", "ties", "closing", "found", "bound", "row", "tie"] d_renamed.qual d_renamed.scope (He.ga K "renamed") cdv A outer s H E).nox d_renamed.body t ∧ t { nx := fun _ H' => Q .non H', rt := Q } (start ["party", "names", "fresh", "rows", "ties", "closing", "found", "bound", "row", "tie"] vs) H := fun cdv A outer s H vs Q E hr0 h => by
  have hr := hr0.mono hj
  refine ⟨_, (pss_cons (ps_set (i := 2) sc_renamed.nd rfl (by first | exact Or.inl rfl | exact Or.inr rfl) (C8.pe_c (ok_fresh_names T) hr (by decide) rfl (pa_cons (pv 0) (pa_cons (pv 1) pa_nil))))
    (pss_cons (ps_asg (pv 0) (zg_tup (K := K) (n := 3) rfl rfl (pgs_cons (pg_name (i := 3) sc_renamed.nd rfl (by first | exact Or.inl rfl | exact Or.inr rfl)) (pgs_cons (pg_name (i := 4) sc_renamed.nd rfl (by first | exact Or.inl rfl | exact Or.inr rfl)) (pgs_cons (pg_name (i := 5) sc_renamed.nd rfl (by first | exact Or.inl rfl | exact Or.inr rfl)) pgs_nil)))))
    (pss_cons (ps_setLc (i := 6) (own := [("row", 8)]) (by rfl) sc_renamed.nd rfl rfl (sw_true rfl rfl rfl (by decide +kernel)) (zi_any (K := K) rfl (pv 3)) (blkOk_by (own := [("row", 8)]) (N := ["party", "names", "fresh", "rows", "ties", "closing", "found", "bound", "row", "tie"]) (sc := d_renamed.scope) (by decide +kernel)) (fun _ _ _ _ _ => (pg_name (i := 8) sc_renamed.nd rfl (by first | exact Or.inl rfl | exact Or.inr rfl))) (fun _ _ _ _ _ => pts_nil) (fun _ _ _ _ _ => (C8.pe_c (ok_renamed_row T) hr (by decide) rfl (pa_cons (pv 8) (pa_cons (pv 2) pa_nil)))))
    (pss_cons (ps_setLc (i := 7) (own := [("tie", 9)]) (by rfl) sc_renamed.nd rfl rfl (sw_true rfl rfl rfl (by decide +kernel)) (zi_any (K := K) rfl (pv 4)) (blkOk_by (own := [("tie", 9)]) (N := ["party", "names", "fresh", "rows", "ties", "closing", "found", "bound", "row", "tie"]) (sc := d_renamed.scope) (by decide +kernel)) (fun _ _ _ _ _ => (pg_name (i := 9) sc_renamed.nd rfl (by first | exact Or.inl rfl | exact Or.inr rfl))) (fun _ _ _ _ _ => pts_nil) (fun _ _ _ _ _ => (C8.pe_c (ok_renamed_tie T) hr (by decide) rfl (pa_cons (pv 9) (pa_cons (pv 2) pa_nil)))))
    (pss_one (ps_ret (pe_tup (pa_cons (pe_callTy (z_tup (K := K) rfl) (by rfl) T.g_tuple (by decide +kernel) (pa_cons (pe_callB (z_sorted (K := K) hr.units rfl) (by rfl) T.g_sorted (by decide +kernel) (pa_cons (pv 6) pa_nil)) pa_nil)) (pa_cons (pe_callTy (z_tup (K := K) rfl) (by rfl) T.g_tuple (by decide +kernel) (pa_cons (pe_callB (z_sorted (K := K) hr.units rfl) (by rfl) T.g_sorted (by decide +kernel) (pa_cons (pv 7) pa_nil)) pa_nil)) (pa_cons (pv 5) pa_nil)))))))))), ?_⟩
  obtain ⟨p, ps, f, v, d, xs, Hs, rfl, h0, e0, hx, r, rk, ok, q⟩ := h
  have hl := ok.ok.len
  have htl := ok.ok.tlen
  refine RO.run (N := fun _ => False) (R := fun d' _ => d' = (p.ren f).d) ?_ (start_kw h0 e0 hx r rk (by decide)) (fun _ _ _ z => z.elim) fun v' d' ρ' σ' H' e s => q v' H' s.exs (by subst e; exact s.top)
  refine ro_fresh (ρr := [.no, .no, .no, .no, .no, .no, .no]) ok rfl ?_
  refine ro_s (ro_asg (ee_var rfl) (.inr rfl) (go_tup (gos_cons go_name (gos_cons go_name (gos_cons go_name gos_nil))) rfl) rfl) ?_
  refine ro_s (ro_set (d := .lst (rowsD (p.rows.map (Row.ren f)))) (ee_is (ee_lcN (fun d => ((unRow d).ren f).d) (wke_t (ee_var rfl)) (by rw [List.length_map]; omega) (by simp) (fun d hd => Row.tu _) fun d hd => ?_) (congrArg D.lst rows_map)) (.inr rfl) rfl) ?_
  · obtain ⟨r, hr, rfl⟩ := List.mem_map.mp hd
    rw [unRow_d]
    have rok := ok.ok.row r hr
    refine ee_call (es_cons (ee_var rfl) (es_cons (ee_var rfl) es_nil)) ⟨r, _, f, rfl, fun x hx => fresh_look ok.ok x ?_, fun x hx => ok.ren.nm x (rok.wi x hx).1, rok.wl, rfl⟩
    rcases List.mem_cons.mp hx with rfl | hx
    · exact nm_mem hr
    · exact (rok.wi x hx).1
  refine ro_s (ro_set (d := .lst (tiesD (p.ties.map (Tie.ren f)))) (ee_is (ee_lcN (fun d => ((unTie d).ren f).d) (wke_t (ee_var rfl)) (by rw [List.length_map]; omega) (by simp) (fun d hd => rfl) fun d hd => ?_) (congrArg D.lst ties_map)) (.inr rfl) rfl) ?_
  · obtain ⟨t, ht, rfl⟩ := List.mem_map.mp hd
    rw [unTie_d]
    have tok := ok.ok.tin t ht
    refine ee_call (es_cons (ee_var rfl) (es_cons (ee_var rfl) es_nil)) ⟨t, _, f, rfl, fun x hx => fresh_look ok.ok x ?_, rfl⟩
    have e : x = t.one ∨ x = t.oth := by simpa using hx
    rcases e with rfl | rfl
    · exact tok.1
    · exact tok.2.1
  refine ro_ret (ee_tup (es_cons (ee_cb (es_cons (ee_cb (es_cons (ee_var rfl) es_nil) fun _ => rc_sortR (ren_rows_ok ok.ok ok.ren) (by rw [List.length_map]; omega)) es_nil) fun _ => rc_tupL) (es_cons (ee_cb (es_cons (ee_cb (es_cons (ee_var rfl) es_nil) fun _ => rc_sortT (ren_ties_ok ok.ok ok.ren) (by rw [List.length_map]; omega)) es_nil) fun _ => rc_tupL) (es_cons (ee_var rfl) es_nil))) (by simp)) (.inr rfl) rfl
def ks0 : List Str := ["ann", "b", "bob", "cy", "dan", "zzzzzzzz"]
theorem kb0 (dV kV doc pm : Value) (an : Option Addr) (cdv ct : Value) (v : Value) (ws : List Value) (h : dV = .none) (hl : ws.length = ks0.length) : bindArgs (PySem.W.fnOf d_renamed.name d_renamed.qual d_renamed.params d_renamed.body d_renamed.scope dV kV doc pm an cdv ct) ⟨[v], ks0.zip ws⟩ =
      ((alloc emptyDict : Sem Addr) >>= fun D => (forIn (ks0.zip ws) PUnit.unit (fun x _ => (nsSet D x.1 x.2 >>= fun _ => pure (ForInStep.yield PUnit.unit))) >>= fun _ => pure [(("party" : Str), v), (("names" : Str), Value.ref D)])) := by
  subst h
  match ws, hl with
  | [_, _, _, _, _, _], _ => rfl

def ks1 : List Str := ["b", "bob", "cy", "dan", "zzzzzzzz", "ann"]
theorem kb1 (dV kV doc pm : Value) (an : Option Addr) (cdv ct : Value) (v : Value) (ws : List Value) (h : dV = .none) (hl : ws.length = ks1.length) : bindArgs (PySem.W.fnOf d_renamed.name d_renamed.qual d_renamed.params d_renamed.body d_renamed.scope dV kV doc pm an cdv ct) ⟨[v], ks1.zip ws⟩ =
      ((alloc emptyDict : Sem Addr) >>= fun D => (forIn (ks1.zip ws) PUnit.unit (fun x _ => (nsSet D x.1 x.2 >>= fun _ => pure (ForInStep.yield PUnit.unit))) >>= fun _ => pure [(("party" : Str), v), (("names" : Str), Value.ref D)])) := by
  subst h
  match ws, hl with
  | [_, _, _, _, _, _], _ => rfl

def ks2 : List Str := ["ann", "bob", "dan"]
theorem kb2 (dV kV doc pm : Value) (an : Option Addr) (cdv ct : Value) (v : Value) (ws : List Value) (h : dV = .none) (hl : ws.length = ks2.length) : bindArgs (PySem.W.fnOf d_renamed.name d_renamed.qual d_renamed.params d_renamed.body d_renamed.scope dV kV doc pm an cdv ct) ⟨[v], ks2.zip ws⟩ =
      ((alloc emptyDict : Sem Addr) >>= fun D => (forIn (ks2.zip ws) PUnit.unit (fun x _ => (nsSet D x.1 x.2 >>= fun _ => pure (ForInStep.yield PUnit.unit))) >>= fun _ => pure [(("party" : Str), v), (("names" : Str), Value.ref D)])) := by
  subst h
  match ws, hl with
  | [_, _, _], _ => rfl

def ks3 : List Str := ["b", "cy", "zzzzzzzz"]
theorem kb3 (dV kV doc pm : Value) (an : Option Addr) (cdv ct : Value) (v : Value) (ws : List Value) (h : dV = .none) (hl : ws.length = ks3.length) : bindArgs (PySem.W.fnOf d_renamed.name d_renamed.qual d_renamed.params d_renamed.body d_renamed.scope dV kV doc pm an cdv ct) ⟨[v], ks3.zip ws⟩ =
      ((alloc emptyDict : Sem Addr) >>= fun D => (forIn (ks3.zip ws) PUnit.unit (fun x _ => (nsSet D x.1 x.2 >>= fun _ => pure (ForInStep.yield PUnit.unit))) >>= fun _ => pure [(("party" : Str), v), (("names" : Str), Value.ref D)])) := by
  subst h
  match ws, hl with
  | [_, _, _], _ => rfl

def ks4 : List Str := ["ua", "ta", "sa", "ra", "qa", "pa"]
theorem kb4 (dV kV doc pm : Value) (an : Option Addr) (cdv ct : Value) (v : Value) (ws : List Value) (h : dV = .none) (hl : ws.length = ks4.length) : bindArgs (PySem.W.fnOf d_renamed.name d_renamed.qual d_renamed.params d_renamed.body d_renamed.scope dV kV doc pm an cdv ct) ⟨[v], ks4.zip ws⟩ =
      ((alloc emptyDict : Sem Addr) >>= fun D => (forIn (ks4.zip ws) PUnit.unit (fun x _ => (nsSet D x.1 x.2 >>= fun _ => pure (ForInStep.yield PUnit.unit))) >>= fun _ => pure [(("party" : Str), v), (("names" : Str), Value.ref D)])) := by
  subst h
  match ws, hl with
  | [_, _, _, _, _, _], _ => rfl

def ks5 : List Str := []
theorem kb5 (dV kV doc pm : Value) (an : Option Addr) (cdv ct : Value) (v : Value) (ws : List Value) (h : dV = .none) (hl : ws.length = ks5.length) : bindArgs (PySem.W.fnOf d_renamed.name d_renamed.qual d_renamed.params d_renamed.body d_renamed.scope dV kV doc pm an cdv ct) ⟨[v], ks5.zip ws⟩ =
      ((alloc emptyDict : Sem Addr) >>= fun D => (forIn (ks5.zip ws) PUnit.unit (fun x _ => (nsSet D x.1 x.2 >>= fun _ => pure (ForInStep.yield PUnit.unit))) >>= fun _ => pure [(("party" : Str), v), (("names" : Str), Value.ref D)])) := by
  subst h
  match ws, hl with
  | [], _ => rfl

def ks6 : List Str := ["ann", "cy", "b"]
theorem kb6 (dV kV doc pm : Value) (an : Option Addr) (cdv ct : Value) (v : Value) (ws : List Value) (h : dV = .none) (hl : ws.length = ks6.length) : bindArgs (PySem.W.fnOf d_renamed.name d_renamed.qual d_renamed.params d_renamed.body d_renamed.scope dV kV doc pm an cdv ct) ⟨[v], ks6.zip ws⟩ =
      ((alloc emptyDict : Sem Addr) >>= fun D => (forIn (ks6.zip ws) PUnit.unit (fun x _ => (nsSet D x.1 x.2 >>= fun _ => pure (ForInStep.yield PUnit.unit))) >>= fun _ => pure [(("party" : Str), v), (("names" : Str), Value.ref D)])) := by
  subst h
  match ws, hl with
  | [_, _, _], _ => rfl

def ks7 : List Str := ["b", "ann", "cy"]
theorem kb7 (dV kV doc pm : Value) (an : Option Addr) (cdv ct : Value) (v : Value) (ws : List Value) (h : dV = .none) (hl : ws.length = ks7.length) : bindArgs (PySem.W.fnOf d_renamed.name d_renamed.qual d_renamed.params d_renamed.body d_renamed.scope dV kV doc pm an cdv ct) ⟨[v], ks7.zip ws⟩ =
      ((alloc emptyDict : Sem Addr) >>= fun D => (forIn (ks7.zip ws) PUnit.unit (fun x _ => (nsSet D x.1 x.2 >>= fun _ => pure (ForInStep.yield PUnit.unit))) >>= fun _ => pure [(("party" : Str), v), (("names" : Str), Value.ref D)])) := by
  subst h
  match ws, hl with
  | [_, _, _], _ => rfl

theorem pe_ren {X : Cx} {ks : List Str} {j : Nat} {p pos : Pos} {e : Expr} {es : List Expr} {kws : List Keyword} {t tk : TA} (h1 : X.prog = P) (h2 : X.w = w) (h3 : X.K = K) (h4 : X.mg = mg) (h5 : X.base = base) (T : Wd K mg base) (hnd : ks.Nodup) (hk1 : ks.length ≤ 1000)
    (hb : ∀ (dV kV doc pm : Value) (an : Option Addr) (cdv ct : Value) (v : Value) (ws : List Value), dV = .none → ws.length = ks.length → bindArgs (PySem.W.fnOf d_renamed.name d_renamed.qual d_renamed.params d_renamed.body d_renamed.scope dV kV doc pm an cdv ct) ⟨[v], ks.zip ws⟩ =
      ((alloc emptyDict : Sem Addr) >>= fun D => (forIn (ks.zip ws) PUnit.unit (fun x _ => (nsSet D x.1 x.2 >>= fun _ => pure (ForInStep.yield PUnit.unit))) >>= fun _ => pure [(("party" : Str), v), (("names" : Str), Value.ref D)])))
    (hr : Room j X.A) (hj : 3 ≤ j) (hg : Gl X "renamed") (ha : PA X (e :: es) t) (hkw : PK X kws tk) (hall : (backToKw pos (keywordEach kws X.env)).all (·.1.isSome) = true := by rfl) (hks : (backToKw pos (keywordEach kws X.env)).filterMap (·.1) = ks := by rfl)
    (he : starEach (e :: es) X.env = (false, eval e X.env) :: starEach es X.env := by rfl)
    (hpl : ((backTo pos (starEach (e :: es) X.env)).any (·.1) || (backToKw pos (keywordEach kws X.env)).any (·.1.isNone)) = false := by rfl) :
    PE X (.Call (.Name "renamed" p) (e :: es) kws pos) (tKw ks (spKw K fun p f => (p.ren f).d) t tk) := by
  subst h1 h2 h3 h4 h5
  obtain ⟨fd, F⟩ := T.d.def_ 23 (d := d_renamed) rfl
  exact pe_kwcall (f := He.ga X.K "renamed") (k := 2) F sc_renamed (hr.mono hj) hg T.m_renamed hnd hk1 hb (body_renamed T (Nat.le_refl _)) ha hkw hall hks (by decide) he hpl
/-- the call, as data -/
theorem rkv_kws {K : PySem.W.Frag} {H : Hp} : ∀ {ks vals : List Str}, Rkv K H (kwsK ks (vals.map V.str)) (psD (ks.zip vals))
  | [], _ => .nil
  | _ :: _, [] => .nil
  | k :: ks, x :: vals => .cons (.raw _) (rkv_kws (ks := ks) (vals := vals))
theorem ee_ren {ks vals : List Str} {ρ : Env} {t tk : TA} {p : Party} {f : Str → Str} {res : Party → (Str → Str) → D} (h : EvEs K t ρ [p.d]) (hk : EvEs K tk ρ (sD vals)) (hl : vals.length = ks.length) (ok : RenOf p (ks.zip vals) f) : EvE K (tKw ks (spKw K res) t tk) ρ (res p f) := fun σ H e H1 e1 Q q =>
  h σ H e H1 e1 _ fun vs H2 e2 r => hk σ H e H2 (e1.trans e2) _ fun zs H3 e3 rz => by
    cases r with
    | cons r rr =>
      cases rr
      rw [sD, strs_raw] at rz
      have ez := rz.raws_inv
      subst ez
      exact ⟨_, rfl, by simpa using hl, fun d hd => ⟨p, ks.zip vals, f, _, d, _, H3, rfl, hd, Ex.new hd, upd_same, r.mono e3, rkv_kws, ok, fun v' H' e' r' => q v' H' ((e2.trans e3).trans e') r'⟩⟩

end
end Pa
set_option Elab.async false
set_option linter.all false
set_option maxRecDepth 100000
set_option maxHeartbeats 4000000
/-! texts, in plain Lean -/
namespace Pa
open PySem PySem.Spec PyProof.Rows L2 Evl
open SX (S)
/-- the text of a number -/
def num (i : Int) : Str := toString i
def numB (i : Int) : Prop := -(10 ^ 9) < i ∧ i < 10 ^ 9
theorem tl_num {i : Int} (h : 0 ≤ i) : TL.tl (num i) = TL.numL i.toNat := by
  obtain ⟨n, rfl⟩ := Int.eq_ofNat_of_zero_le h
  exact TL.tl_num n
theorem num_neg {i : Int} (h : i < 0) : num i = (("-" : Str) ++ num (-i)) := by
  obtain ⟨n, rfl⟩ : ∃ n : Nat, i = Int.negSucc n := by
    cases i with
    | ofNat n => exact absurd h (by simp)
    | negSucc n => exact ⟨n, rfl⟩
  refine TL.ext_tl ?_
  rw [TL.tl_append]
  show TL.tl (Str.ofString (toString (Int.negSucc n))) = TL.tl (Str.ofString "-") ++ TL.tl (Str.ofString (toString (-(Int.negSucc n))))
  have e : toString (Int.negSucc n) = "-" ++ toString (-(Int.negSucc n)) := rfl
  rw [e]
  show (Str.ofString ("-" ++ _)).cps.toList = _
  first
    | rfl
    | (simp [Str.ofString, TL.tl])
theorem numL_len {n : Nat} (h : n < 10 ^ 9) : (TL.numL n).length ≤ 9 := TL.numL_len (by decide) h
theorem num_len {i : Int} (h : numB i) : (num i).length ≤ 10 := by
  obtain ⟨h1, h2⟩ := h
  rw [TL.len_tl]
  by_cases h0 : 0 ≤ i
  · rw [tl_num h0]
    exact Nat.le_succ_of_le (numL_len (by omega))
  · rw [num_neg (by omega), TL.tl_append, tl_num (by omega), List.length_append]
    have e : (TL.tl ("-" : Str)).length = 1 := by decide +kernel
    have := numL_len (n := (-i).toNat) (by omega)
    omega
theorem num_log {i : Int} (h : numB i) : i.natAbs.log2 < 1920 := by
  have h1 : i.natAbs < 2 ^ 30 := by
    obtain ⟨h1, h2⟩ := h
    omega
  by_cases h0 : i.natAbs = 0
  · rw [h0]; decide
  · have := (Nat.log2_lt h0).mpr h1
    omega
theorem app_len (a b : Str) : (a ++ b).length = a.length + b.length := by
  rw [TL.len_tl, TL.len_tl a, TL.len_tl b, TL.tl_append, List.length_append]
/-- the signs that words are made of -/
def wordy (s : Nat) (x : Str) : Prop := s ∉ TL.tl x
theorem nm_free {x : Str} (h : isNm x) {s : Nat} (hs : s ∉ TL.tl ("abcdefghijklmnopqrstuvwxyz" : Str)) : wordy s x := fun hm => hs (h.2.2 s hm)
theorem num_free {i : Int} {s : Nat} (h : s < 48 ∨ 57 < s) (h2 : s ≠ 45) : wordy s (num i) := fun hm => by
  by_cases h0 : 0 ≤ i
  · rw [tl_num h0] at hm
    exact TL.numL_free h hm
  · rw [num_neg (by omega), TL.tl_append, tl_num (by omega)] at hm
    rcases List.mem_append.mp hm with hm | hm
    · have e : TL.tl ("-" : Str) = [45] := by decide +kernel
      rw [e] at hm
      exact h2 (List.mem_singleton.mp hm)
    · exact TL.numL_free h hm
theorem num_free0 {i : Int} {s : Nat} (h0 : 0 ≤ i) (h : s < 48 ∨ 57 < s) : wordy s (num i) := fun hm => by
  rw [tl_num h0] at hm
  exact TL.numL_free h hm
theorem joinL_mem {s c : Nat} {xs : List (List Nat)} (h : c ∈ TL.joinL [s] xs) : c = s ∨ ∃ x ∈ xs, c ∈ x := by
  induction xs with
  | nil => cases h
  | cons x xs ih =>
    cases xs with
    | nil => exact .inr ⟨x, List.mem_cons_self, h⟩
    | cons y ys =>
      have h' : c ∈ x ++ ([s] ++ TL.joinL [s] (y :: ys)) := h
      rcases List.mem_append.mp h' with h' | h'
      · exact .inr ⟨x, List.mem_cons_self, h'⟩
      · rcases List.mem_append.mp h' with h' | h'
        · exact .inl (List.mem_singleton.mp h')
        · rcases ih h' with e | ⟨z, hz, hc⟩
          · exact .inl e
          · exact .inr ⟨z, List.mem_cons_of_mem _ hz, hc⟩
theorem tl_joinT (y : Str) (xs : List Str) : TL.tl (Txt.join y xs) = TL.joinL (TL.tl y) (xs.map TL.tl) := by rw [TL.join_eq, TL.tl_join]
theorem join_free {y : Str} {s c : Nat} (ey : TL.tl y = [s]) {xs : List Str} (hne : c ≠ s) (h : ∀ x ∈ xs, wordy c x) : wordy c (Txt.join y xs) := fun hm => by
  rw [tl_joinT, ey] at hm
  rcases joinL_mem hm with e | ⟨x, hx, hc⟩
  · exact hne e
  · obtain ⟨z, hz, rfl⟩ := List.mem_map.mp hx
    exact h z hz hc
theorem join_len {y : Str} (hy : y.length = 1) {n : Nat} {xs : List Str} (h : ∀ x ∈ xs, x.length ≤ n) : (Txt.join y xs).length ≤ (n + 1) * xs.length := by
  rw [TL.len_tl, tl_joinT]
  have hy' : (TL.tl y).length = 1 := by rw [← TL.len_tl]; exact hy
  induction xs with
  | nil => exact Nat.zero_le _
  | cons x xs ih =>
    have hx := h x List.mem_cons_self
    rw [TL.len_tl] at hx
    cases xs with
    | nil => show (TL.tl x).length ≤ (n + 1) * 1; omega
    | cons z zs =>
      have := ih fun q hq => h q (List.mem_cons_of_mem _ hq)
      show (TL.tl x ++ (TL.tl y ++ TL.joinL (TL.tl y) ((z :: zs).map TL.tl))).length ≤ _
      rw [List.length_append, List.length_append, hy']
      rw [List.length_cons (a := x), Nat.mul_succ]
      omega
theorem sp1 : TL.tl (" " : Str) = [32] := by decide +kernel
theorem nl1 : TL.tl ("\n" : Str) = [10] := by decide +kernel
theorem co1 : TL.tl ("," : Str) = [44] := by decide +kernel
theorem da1 : TL.tl ("-" : Str) = [45] := by decide +kernel
theorem split_sp {xs : List Str} (hne : xs ≠ []) (h : ∀ x ∈ xs, wordy 32 x) : Txt.split (Txt.join " " xs) " " = xs := TL.split_join (S := []) sp1 (by decide +kernel) hne h
theorem split_nl {xs : List Str} (hne : xs ≠ []) (h : ∀ x ∈ xs, wordy 10 x) : Txt.split (Txt.join "\n" xs) "\n" = xs := TL.split_join (S := []) nl1 (by decide +kernel) hne h
theorem split_co {xs : List Str} (hne : xs ≠ []) (h : ∀ x ∈ xs, wordy 44 x) : Txt.split (Txt.join "," xs) "," = xs := TL.split_join (S := []) co1 (by decide +kernel) hne h
theorem split_da {xs : List Str} (hne : xs ≠ []) (h : ∀ x ∈ xs, wordy 45 x) : Txt.split (Txt.join "-" xs) "-" = xs := TL.split_join (S := []) da1 (by decide +kernel) hne h
/-! ### the lines -/
def wWord (ws : List Str) : Str := if ws = [] then "-" else Txt.join "," ws
def mWord (a b : Int) : Str := Txt.join "-" [num a, num b]
def pWords (r : Row) : List Str := [r.nm, mWord r.fst r.lst, r.kind, num r.pat] ++ (if r.kind = "waiter" then [wWord r.waits] else [])
def tWords (t : Tie) : List Str := [t.one, t.oth, num t.most]
def pLine (r : Row) : Str := Txt.join " " (("person" : Str) :: pWords r)
def tLine (t : Tie) : Str := Txt.join " " (("tie" : Str) :: tWords t)
def cLine (c : Int) : Str := Txt.join " " [("closing" : Str), num c]
def pLines (p : Party) : List Str := p.rows.map pLine ++ p.ties.map tLine ++ [cLine p.closing]
def pText (p : Party) : Str := Txt.join "\n" (pLines p)
/-- numbers that are not too long -/
structure NumsOk (p : Party) : Prop where
  row : ∀ r ∈ p.rows, numB r.fst ∧ numB r.lst ∧ numB r.pat
  tie : ∀ t ∈ p.ties, numB t.most
  cl : numB p.closing
  c0 : 0 ≤ p.closing
  w : ∀ r ∈ p.rows, r.waits.length ≤ 100
/-! the number's first sign -/
theorem numL_head : ∀ n : Nat, 0 < n → ∃ c l, TL.numL n = c :: l ∧ c ≠ 48 := by
  intro n
  induction n using Nat.strongRecOn with
  | _ n ih =>
    intro h
    by_cases h10 : n < 10
    · exact ⟨48 + n, [], TL.numL_lt h10, by omega⟩
    · obtain ⟨c, l, e, hc⟩ := ih (n / 10) (by omega) (by omega)
      exact ⟨c, l ++ [48 + n % 10], by rw [TL.numL_step (by omega), e]; rfl, hc⟩
theorem kind_nm {k : Str} (h : k ∈ kindsS) : ∀ c ∈ TL.tl k, c ∈ TL.tl ("abcdefghijklmnopqrstuvwxyz" : Str) := by
  simp [kindsS] at h
  rcases h with e | e | e | e <;> rw [e] <;> decide +kernel
theorem kind_len {k : Str} (h : k ∈ kindsS) : k.length ≤ 8 := by
  simp [kindsS] at h
  rcases h with e | e | e | e <;> rw [e] <;> decide +kernel
theorem nm_len {x : Str} (h : isNm x) : x.length ≤ 8 := h.2.1
theorem wWord_free {ws : List Str} (h : ∀ x ∈ ws, isNm x) {s : Nat} (hs : s ∉ TL.tl ("abcdefghijklmnopqrstuvwxyz" : Str)) (h1 : s ≠ 44) (h2 : s ≠ 45) : wordy s (wWord ws) := by
  unfold wWord
  split
  · intro hm
    have hm' : s ∈ TL.tl ("-" : Str) := hm
    rw [da1] at hm'
    exact h2 (List.mem_singleton.mp hm')
  · exact join_free co1 h1 fun x hx => nm_free (h x hx) hs
theorem mWord_free {a b : Int} (ha : 0 ≤ a) (hb : 0 ≤ b) {s : Nat} (h : s < 48 ∨ 57 < s) (h2 : s ≠ 45) : wordy s (mWord a b) := join_free da1 h2 fun x hx => by
  have e : x = num a ∨ x = num b := by simpa using hx
  rcases e with rfl | rfl
  · exact num_free0 ha h
  · exact num_free0 hb h
theorem pWords_free {ns : List Str} {cl : Int} {r : Row} (ok : RowOk ns cl r) (hn : ∀ x ∈ ns, isNm x) {s : Nat} (hs : s ∉ TL.tl ("abcdefghijklmnopqrstuvwxyz" : Str)) (h : s < 48 ∨ 57 < s) (h1 : s ≠ 44) (h2 : s ≠ 45) : ∀ x ∈ pWords r, wordy s x := fun x hx => by
  have f0 := ok.f0
  have fl := ok.fl
  unfold pWords at hx
  rcases List.mem_append.mp hx with hx | hx
  · have e : x = r.nm ∨ x = mWord r.fst r.lst ∨ x = r.kind ∨ x = num r.pat := by simpa using hx
    rcases e with rfl | rfl | rfl | rfl
    · exact nm_free ok.nm hs
    · exact mWord_free f0 (by omega) h h2
    · exact fun hm => hs (kind_nm ok.kd s hm)
    · exact num_free0 ok.p0 h
  · split at hx
    · rw [List.mem_singleton.mp hx]
      exact wWord_free (fun z hz => hn z (ok.wi z hz).1) hs h1 h2
    · cases hx
theorem tWords_free {t : Tie} (h1 : isNm t.one) (h2 : isNm t.oth) {s : Nat} (hs : s ∉ TL.tl ("abcdefghijklmnopqrstuvwxyz" : Str)) (h : s < 48 ∨ 57 < s) (h45 : s ≠ 45) : ∀ x ∈ tWords t, wordy s x := fun x hx => by
  have e : x = t.one ∨ x = t.oth ∨ x = num t.most := by simpa [tWords] using hx
  rcases e with rfl | rfl | rfl
  · exact nm_free h1 hs
  · exact nm_free h2 hs
  · exact num_free h h45
theorem lit_free {x : Str} {s : Nat} (h : (TL.tl x).all (fun c => decide (c ≠ s)) = true) : wordy s x := fun hm => by
  have := List.all_eq_true.mp h s hm
  simp at this
theorem pLine_split {ns : List Str} {cl : Int} {r : Row} (ok : RowOk ns cl r) (hn : ∀ x ∈ ns, isNm x) : Txt.split (pLine r) " " = ("person" : Str) :: pWords r := by
  refine split_sp (by simp) fun x hx => ?_
  rcases List.mem_cons.mp hx with rfl | hx
  · exact lit_free (by decide +kernel)
  · exact pWords_free ok hn (by decide +kernel) (by decide) (by decide) (by decide) x hx
theorem tLine_split {t : Tie} (h1 : isNm t.one) (h2 : isNm t.oth) : Txt.split (tLine t) " " = ("tie" : Str) :: tWords t := by
  refine split_sp (by simp) fun x hx => ?_
  rcases List.mem_cons.mp hx with rfl | hx
  · exact lit_free (by decide +kernel)
  · exact tWords_free h1 h2 (by decide +kernel) (by decide) (by decide) x hx
theorem cLine_split {c : Int} : Txt.split (cLine c) " " = [("closing" : Str), num c] := by
  refine split_sp (by simp) fun x hx => ?_
  have e : x = ("closing" : Str) ∨ x = num c := by simpa using hx
  rcases e with rfl | rfl
  · exact lit_free (by decide +kernel)
  · exact num_free (by decide) (by decide)
theorem pText_split {p : Party} (h : PartyOk p) : Txt.split (pText p) "\n" = pLines p := by
  refine split_nl (by simp [pLines]) fun x hx => ?_
  unfold pLines at hx
  rcases List.mem_append.mp hx with hx | hx
  · rcases List.mem_append.mp hx with hx | hx
    · obtain ⟨r, hr, rfl⟩ := List.mem_map.mp hx
      refine join_free sp1 (by decide) fun z hz => ?_
      rcases List.mem_cons.mp hz with rfl | hz
      · exact lit_free (by decide +kernel)
      · exact pWords_free (h.row r hr) h.nms (by decide +kernel) (by decide) (by decide) (by decide) z hz
    · obtain ⟨t, ht, rfl⟩ := List.mem_map.mp hx
      refine join_free sp1 (by decide) fun z hz => ?_
      rcases List.mem_cons.mp hz with rfl | hz
      · exact lit_free (by decide +kernel)
      · exact tWords_free (h.tie_nm ht).1 (h.tie_nm ht).2 (by decide +kernel) (by decide) (by decide) z hz
  · rw [List.mem_singleton.mp hx]
    refine join_free sp1 (by decide) fun z hz => ?_
    have e : z = ("closing" : Str) ∨ z = num p.closing := by simpa using hz
    rcases e with rfl | rfl
    · exact lit_free (by decide +kernel)
    · exact num_free (by decide) (by decide)
end Pa
set_option Elab.async false
set_option linter.all false
set_option maxRecDepth 100000
set_option maxHeartbeats 8000000
namespace Pa
open PySem PySem.Spec PyProof.Rows L2 Evl
section
variable {P : Program} {w : World} {K : PySem.W.Frag} {mg : Str → Option Value} {base : Heap}

section
variable {X : Cx} {ρ : Env} {te to : TE} {ta : TA} {H : Hp} {i : Int} {y z : Str} {ys xs : List Str}
theorem ee_fmtS (h : EvE K te ρ (dS y)) (hl : y.length ≤ 100000) : EvE K (tFmt te) ρ (dS y) := fun σ H e H1 e1 Q q => h σ H e H1 e1 _ fun v H2 e2 r => .inl ⟨y, r.raw_inv, sz_of hl, q _ H2 e2 (.raw _)⟩
theorem ee_fmtI (h : EvE K te ρ (dI i)) (hl : i.natAbs.log2 < 1920) : EvE K (tFmt te) ρ (dS (num i)) := fun σ H e H1 e1 Q q => h σ H e H1 e1 _ fun v H2 e2 r => .inr ⟨i, r.raw_inv, hl, q _ H2 e2 (.raw _)⟩
inductive EJ (K : PySem.W.Frag) : List TE → Env → List Str → Prop
  | nil {ρ : Env} : EJ K [] ρ []
  | cons {ρ : Env} {t : TE} {ts : List TE} {y : Str} {ys : List Str} : EvE K t ρ (dS y) → EJ K ts ρ ys → EJ K (t :: ts) ρ (y :: ys)
def cats : Str → List Str → Str := fun acc ys => ys.foldl (· ++ ·) acc
theorem cats_len {acc : Str} : (cats acc ys).length = acc.length + (ys.map Str.length).sum := by
  unfold cats
  induction ys generalizing acc with
  | nil => simp
  | cons y ys ih => rw [List.foldl_cons, ih, app_len, List.map_cons, List.sum_cons]; omega
theorem ej_run {ts : List TE} (h : EJ K ts ρ ys) : ∀ (acc : Str) (σ : L2.St) (H H1 : Hp) (Q : Str → Hp → Prop), (cats acc ys).length ≤ 100000 → EnvD K ρ σ H → Ex H H1 → (∀ H2, Ex H1 H2 → Q (cats acc ys) H2) → tJs ts acc σ H1 Q := by
  induction h with
  | nil => intro acc σ H H1 Q hl e e1 q; exact q H1 (Ex.refl _)
  | @cons _ _ _ y ys h r ih =>
    intro acc σ H H1 Q hl e e1 q
    refine h σ H e H1 e1 _ fun v H2 e2 rv => ⟨_, rv.raw_inv, ?_, ih _ σ H H2 Q hl e (e1.trans e2) fun H3 e3 => q H3 (e2.trans e3)⟩
    refine sz_of (Nat.le_trans ?_ hl)
    have h1 : cats acc (y :: ys) = cats (acc ++ y) ys := rfl
    rw [h1, cats_len]
    exact Nat.le_add_right _ _
theorem ee_joined {ts : List TE} (h : EJ K ts ρ ys) (hl : (ys.map Str.length).sum ≤ 100000) : EvE K (fun σ H Q => tJs ts Str.empty σ H fun out H1 => Q (.str out) H1) ρ (dS (cats Str.empty ys)) := fun σ H e H1 e1 Q q =>
  ej_run h Str.empty σ H H1 _ (by rw [cats_len]; exact Nat.le_trans (Nat.le_of_eq (Nat.zero_add _)) hl) e e1 fun H2 e2 => q _ H2 e2 (.raw _)
/-- a comprehension by its items -/
theorem ee_lcL {wi : TI} {vs : List Nat} {j : Nat} {ds es : List D} (h : WkE K wi ρ ds) (hz : ds.length ≤ 50000) (hj : j ∈ vs) (hl : es.length = ds.length) (hT : D.tus es = true)
    (he : ∀ (i : Nat) d e, ds[i]? = some d → es[i]? = some e → EvE K te ((wipeE ρ vs).set j (some d)) e) : EvE K (tLc wi (gName j) tYes te vs) ρ (.lst es) := by
  have tu : ∀ {ds : List D}, D.tus ds = true → ∀ x ∈ ds, x.tu = true := fun {ds} => by
    induction ds with
    | nil => intro _ x hx; cases hx
    | cons d ds ih =>
      intro h x hx
      simp only [D.tus, Bool.and_eq_true] at h
      rcases List.mem_cons.mp hx with rfl | hx
      · exact h.1
      · exact ih h.2 x hx
  have key : ∀ (i : Nat) d, ds[i]? = some d → es[i]? = some (es.getD i dN) := fun i d hd => by
    have hi := (List.getElem?_eq_some_iff.mp hd).1
    have : i < es.length := by omega
    simp [List.getD, this]
  refine ee_is (ee_lc (js := [j]) (fun i => (wipeE ρ vs).set j (ds[i]?)) (fun _ => true) (fun i => es.getD i dN) h hz (fun k hk => by rw [List.mem_singleton.mp hk]; exact hj) (fun i d hd _ => tu hT _ (List.mem_of_getElem? (key i d hd))) (fun i d hd => ?_) (fun i d hd => te_yes) fun i d hd _ => ?_) ?_
  · rw [hd]; exact ge_name
  · rw [hd]; exact he i d _ hd (key i d hd)
  · rw [keep_all, ← hl]
    refine congrArg D.lst (List.ext_getElem (by simp) fun i h1 h2 => by simp [List.getD, h2])
def rSplit : V → List V → Hp → VK → Prop := fun x xs H Q => ∃ a b, x = .str a ∧ xs = [.str b] ∧ (b.length == 0) = false ∧ a.length + 2 ≤ sizeLine ∧ rNewStrs (Txt.split a b) H Q
theorem z_split {o e : Expr} {to te : TE} {apos pos : Pos} (ho : PE X o to) (he : PE X e te) (hs : starEach [e] X.env = [(false, eval e X.env)] := by rfl) (hbase : attributeBase o "split" X.env (eval o X.env) = eval o X.env := by rfl) (hline : (apos.endLine == pos.line) = true := by rfl) :
    PE X (.Call (.Attribute o "split" apos) [e] [] pos) (tM1 rSplit to te) := pe_split ho he hs hbase hline
theorem ee_split (h : EvE K to ρ (dS y)) (h2 : EvE K te ρ (dS z)) (hz : (z.length == 0) = false) (hl : y.length ≤ 90000) (e : Txt.split y z = xs) : EvE K (tM1 rSplit to te) ρ (.lst (sD xs)) := fun σ H en H1 e1 Q q =>
  h σ H en H1 e1 _ fun v H2 e2 r => by
    have ev := r.raw_inv
    subst ev
    refine ⟨⟨y, rfl⟩, h2 σ H en H2 (e1.trans e2) _ fun w' H3 e3 r3 => ⟨y, z, rfl, by rw [r3.raw_inv], hz, sz_of (by omega), fun p hp => ?_⟩⟩
    rw [e]
    exact q _ _ ((e2.trans e3).trans (Ex.new hp)) (.lst upd_same (by rw [sD, strs_raw]; exact Rps.raws))
theorem ee_join (h : EvE K to ρ (dS y)) (h2 : EvE K te ρ (.lst (sD xs))) (hl : (xs.map (·.length)).sum + xs.length * y.length ≤ 16777216) : EvE K (tM1 (rJoinX K) to te) ρ (dS (Txt.join y xs)) := fun σ H en H1 e1 Q q =>
  h σ H en H1 e1 _ fun v H2 e2 r => by
    have ev := r.raw_inv
    subst ev
    refine ⟨⟨y, rfl⟩, h2 σ H en H2 (e1.trans e2) _ fun w' H3 e3 r3 => ?_⟩
    obtain ⟨p, vs, rfl, hp, rr⟩ := r3.lst_inv
    rw [sD, strs_raw] at rr
    have ev := rr.raws_inv
    subst ev
    exact ⟨y, p, xs, rfl, rfl, .inl (SqL.of hp), hl, q _ H3 (e2.trans e3) (.raw _)⟩
theorem ee_joinT (h : EvE K to ρ (dS y)) (h2 : EvE K te ρ (.tup (sD xs))) (hl : (xs.map (·.length)).sum + xs.length * y.length ≤ 16777216) : EvE K (tM1 (rJoinX K) to te) ρ (dS (Txt.join y xs)) := fun σ H en H1 e1 Q q =>
  h σ H en H1 e1 _ fun v H2 e2 r => by
    have ev := r.raw_inv
    subst ev
    refine ⟨⟨y, rfl⟩, h2 σ H en H2 (e1.trans e2) _ fun w' H3 e3 r3 => ?_⟩
    obtain ⟨p, vs, rfl, hp, rr⟩ := r3.tup_inv
    rw [sD, strs_raw] at rr
    have ev := rr.raws_inv
    subst ev
    exact ⟨y, p, xs, rfl, rfl, .inr hp, hl, q _ H3 (e2.trans e3) (.raw _)⟩
def rIntS : List V → Hp → VK → Prop := fun xs H Q => ∃ a n, xs = [.str a] ∧ PySem.intText? a = some n ∧ a.length ≤ 640 ∧ Q (.int n) H
theorem z_intS : CallR X (.type "int") rIntS := call_int_str
theorem rc_intS {n : Int} (h : PySem.intText? y = some n) (hl : y.length ≤ 640) : RCD K rIntS [dS y] H (dI n) := fun H1 _ vs r Q q => by
  cases r with
  | cons r1 r2 =>
    cases r2
    rw [r1.raw_inv]
    exact ⟨y, n, rfl, h, hl, q _ H1 (Ex.refl _) (.raw _)⟩
theorem inV_ints : ∀ {ns : List Int}, inV .non (ns.map V.int) = false
  | [] => rfl
  | n :: ns => by
    have e : inV .non ((n :: ns).map V.int) = (eqV (.int n) .non || inV .non (ns.map V.int)) := rfl
    have e0 : eqV (.int n) .non = false := by first | rfl | simp [eqV]
    rw [e, e0, inV_ints]
    rfl
theorem rd_noneNotI {ns : List Int} : RD K (rIn K true) dN (.lst (ns.map dI)) H (dB true) := fun H1 _ a b ha hb Q q => by
  obtain ⟨p, vs, rfl, hp, rr⟩ := hb.lst_inv
  have e1 : ns.map dI = (ns.map V.int).map D.raw := by rw [List.map_map]; rfl
  rw [e1] at rr
  have ev := rr.raws_inv
  subst ev
  rw [ha.raw_inv]
  have e2 : (ns.map V.int).all flatV = true := by
    rw [List.all_eq_true]
    intro z hz
    obtain ⟨n, _, rfl⟩ := List.mem_map.mp hz
    rfl
  have e3 : inV .non (ns.map V.int) = false := inV_ints
  refine ⟨p, _, rfl, .inl (SqL.of hp), rfl, e2, ?_⟩
  show Q (.bl (!inV .non (ns.map V.int))) H1
  rw [e3]
  exact q _ H1 (Ex.refl _) (.raw _)
end

theorem dig_mem {c : Nat} (h1 : 48 ≤ c) (h2 : c ≤ 57) : c ∈ ("0123456789" : Str).cps.toList := by
  have h : ∀ k, k < 10 → (48 + k) ∈ ("0123456789" : Str).cps.toList := by decide +kernel
  have e := h (c - 48) (by omega)
  rwa [show 48 + (c - 48) = c by omega] at e
theorem ze1 : TL.tl ("0" : Str) = [48] := by decide +kernel
theorem num_digits {n : Int} (h : 0 ≤ n) : ∀ c ∈ (num n).cps.toList, 48 ≤ c ∧ c ≤ 57 := fun c hc => by
  have e : (num n).cps.toList = TL.numL n.toNat := tl_num h
  rw [e] at hc
  exact TL.numL_digits _ c hc
theorem num_head {n : Int} (h : 0 ≤ n) : ∃ c l, (num n).cps.toList = c :: l ∧ (n ≠ 0 → c ≠ 48) := by
  have e : (num n).cps.toList = TL.numL n.toNat := tl_num h
  rw [e]
  by_cases h0 : n = 0
  · subst h0
    exact ⟨48, [], by decide +kernel, fun q => absurd rfl q⟩
  · obtain ⟨c, l, e1, e2⟩ := numL_head n.toNat (by omega)
    exact ⟨c, l, e1, fun _ => e2⟩
theorem num_zero : num 0 = ("0" : Str) := by decide +kernel
theorem one_ne {c : Nat} (h : c ≠ 48) : (⟨#[c]⟩ : Str) ≠ ("0" : Str) := fun e => by
  have := congrArg TL.tl e
  rw [ze1] at this
  exact h (List.cons.inj this).1
theorem num_int {n : Int} (h : 0 ≤ n) (hb : numB n) : intText? (num n) = some n := by
  obtain ⟨k, rfl⟩ := Int.eq_ofNat_of_zero_le h
  exact TL.int_num (Nat.le_trans (numL_len (by have := hb.2; omega)) (by decide))
def gNumW : List D → D → Prop := fun ds d => ∃ n : Int, ds = [dS (num n)] ∧ 0 ≤ n ∧ numB n ∧ d = dI n
def gIntW : List D → D → Prop := fun ds d => ∃ n : Int, ds = [dS (num n)] ∧ numB n ∧ d = dI n
def gMinW : List D → D → Prop := fun ds d => ∃ a b : Int, ds = [dS (mWord a b)] ∧ 0 ≤ a ∧ 0 ≤ b ∧ numB a ∧ numB b ∧ d = .tup [dI a, dI b]
def gNmW : List D → D → Prop := fun ds d => ∃ x : Str, ds = [dS x] ∧ isNm x ∧ d = dS x
def gKindW : List D → D → Prop := fun ds d => ∃ x : Str, ds = [dS x] ∧ x ∈ kindsS ∧ d = dS x
def gPplW : List D → D → Prop := fun ds d => ∃ ws : List Str, ds = [dS (wWord ws)] ∧ (∀ x ∈ ws, isNm x) ∧ Asc ws ∧ ws.length ≤ 1000 ∧ d = .tup (sD ws)
def gPplT : List D → D → Prop := fun ds d => ∃ ws : List Str, ds = [.tup (sD ws)] ∧ (∀ x ∈ ws, isNm x) ∧ ws.length ≤ 1000 ∧ d = dS (wWord ws)

theorem sc_number_or_none : FnScope ["word", "char"] ["word"] d_number_or_none.scope := ⟨rfl, rfl, rfl, by decide +kernel, rfl, by decide +kernel, by decide +kernel⟩
theorem ok_number_or_none (T : Wd K mg base) : C8.Cal P w K mg base (0 + 1) "number_or_none" (spD K gNumW) [] := by
  refine cal_of T 26 43 (d := d_number_or_none) rfl rfl rfl rfl rfl sc_number_or_none (spD_len fun ds d ⟨_, e, _⟩ => by rw [e]; rfl) (fun _ _ _ _ _ _ us hl => match us, hl with | [_], _ => rfl) fun cdv A outer s H vs Q E hr h => ?_
  refine ⟨_, (pss_cons (ps_if (PW.pt (pw_or (pt_not (pt_chain op_le op_le pe_int (pe_callB (z_len (K := K) rfl) (by rfl) T.g_len (by decide +kernel) (pa_cons (pv 0) pa_nil)) (C8.pe_gc (v := .int 60) rfl T.k_MOST_DIGITS))) (pw_or1 (pt_not (pt_val (pe_callB (z_all (K := K) rfl rfl) (by rfl) T.g_all (by decide +kernel) (pa_cons (pe_lc (own := [("char", 1)]) (by rfl) sc_number_or_none.nd (zi_any (K := K) rfl (pv 0)) (blkOk_by (own := [("char", 1)]) (N := ["word", "char"]) (sc := d_number_or_none.scope) (by decide +kernel)) (fun _ _ _ _ _ => (pg_name (i := 1) sc_number_or_none.nd rfl (by first | exact Or.inl rfl | exact Or.inr rfl))) (fun _ _ _ _ _ => pts_nil) (fun _ _ _ _ _ => (pe_cmpR (z_in (K := K) rfl) (pv 1) (C8.pe_gc (v := .str "0123456789") rfl T.k_DIGITS) (by first | rfl | with_unfolding_all rfl)))) pa_nil))))))) (pss_one (ps_ret pe_non)) pss_nil)
    (pss_one (ps_ret (pe_ifExp (PW.pt (pw_or (pt_cmpR (z_eq (K := K) hr.units rfl) (pv 0) pe_str (nomark _)) (pw_or1 (pt_cmpR (z_ne (K := K) hr.units rfl) (pe_ix (z_ix (K := K) rfl) (pv 0) pe_int (fun _ _ => rfl)) pe_str (nomark _))))) (pe_callTy z_intS (by rfl) T.g_int (by decide +kernel) (pa_cons (pv 0) pa_nil)) pe_non)))), ?_⟩
  obtain ⟨ds, d, rr, ⟨n, rfl, h0, hb, rfl⟩, q⟩ := h
  refine ro_fun ?_ rr q
  have hl := num_len hb
  obtain ⟨c, l, hc, hc0⟩ := num_head h0
  have hl1 : 1 ≤ (num n).length := by
    rw [TL.len_tl]
    show 1 ≤ (num n).cps.toList.length
    rw [hc]
    simp
  refine ro_s (ro_ifF (te_is (te_or (te_is (te_not (te_test (ee_chain (ee_c (v := .int 1)) (ee_cb (es_cons (ee_var rfl) es_nil) fun _ => rc_lenS (by omega)) (fun _ => rd_I0 (g := fun i j => .bl (decide (i ≤ j)))) (fun _ => ee_c) fun _ => rd_I0 (g := fun i j => .bl (decide (i ≤ j)))))) (m := false) (by simp; omega)) fun _ => te_is (te_not (te_B (k := true) (ee_cb (es_cons (ee_lcN (fun _ => dB true) (wke_s (ee_var rfl)) (by rw [signs_len]; omega) (by simp) (fun _ _ => rfl) fun d hd => ?_) es_nil) fun _ => rc_allT))) (m := false) rfl) rfl) (ro_next rfl)) ?_
  · obtain ⟨i, hi⟩ := List.getElem?_of_mem hd
    obtain ⟨c, hc, _, rfl⟩ := signs_get hi
    have := num_digits h0 c hc
    exact ee_is (ee_op (ee_var rfl) ee_c fun _ => rd_inC) (by simp [dig_mem this.1 this.2])
  refine ro_ret (ee_if (k := true) (te_is (te_or (te_test (ee_op (ee_var rfl) ee_c fun _ => rd_eqX rfl)) fun hk => te_test (ee_op (ee_op (ee_var rfl) ee_c fun _ => rd_ixS (by omega) (c := c) (by rw [hc]; simp [atI, ixN])) ee_c fun _ => rd_neX rfl)) ?_) (fun _ => ee_cb (es_cons (ee_var rfl) es_nil) fun _ => rc_intS (num_int h0 hb) (by omega)) fun h => by cases h) (.inr rfl) rfl
  by_cases hn : n = 0
  · subst hn
    simp [num_zero]
  · have := one_ne (hc0 hn)
    simp [this]
theorem sc_integer_or_none : FnScope ["word", "found"] ["word"] d_integer_or_none.scope := ⟨rfl, rfl, rfl, by decide +kernel, rfl, by decide +kernel, by decide +kernel⟩
theorem ok_integer_or_none (T : Wd K mg base) : C8.Cal P w K mg base (1 + 1) "integer_or_none" (spD K gIntW) [] := by
  refine cal_of T 27 44 (d := d_integer_or_none) rfl rfl rfl rfl rfl sc_integer_or_none (spD_len fun ds d ⟨_, e, _⟩ => by rw [e]; rfl) (fun _ _ _ _ _ _ us hl => match us, hl with | [_], _ => rfl) fun cdv A outer s H vs Q E hr h => ?_
  refine ⟨_, (pss_cons (ps_if (pt_cmpR (z_ne (K := K) hr.units rfl) (pe_slice (z_sl (K := K) rfl) (pv 0) po_none (po_some pe_int)) (C8.pe_gc (v := .str "-") rfl T.k_EMPTY_WORD) (nomark _)) (pss_one (ps_ret (C8.pe_c (ok_number_or_none T) hr (by decide) rfl (pa_cons (pv 0) pa_nil)))) pss_nil)
    (pss_cons (ps_set (i := 1) sc_integer_or_none.nd rfl (by first | exact Or.inl rfl | exact Or.inr rfl) (C8.pe_c (ok_number_or_none T) hr (by decide) rfl (pa_cons (pe_slice (z_sl (K := K) rfl) (pv 0) (po_some pe_int) po_none) pa_nil)))
    (pss_one (ps_ret (pe_ifExp (PW.pt (pw_and (pt_cmpR z_notN (pv 1) pe_non (nomark _)) (pw_and1 (pt_cmpR op_gt (pv 1) pe_int (nomark _))))) (pe_un un_neg (pv 1)) pe_non))))), ?_⟩
  obtain ⟨ds, d, rr, ⟨n, rfl, hb, rfl⟩, q⟩ := h
  refine ro_fun ?_ rr q
  have hl := num_len hb
  by_cases h0 : 0 ≤ n
  · obtain ⟨c, l, hc, hc0⟩ := num_head h0
    have hdig := num_digits h0 c (by rw [hc]; exact List.mem_cons_self)
    have hne : Txt.slice (num n) none (some 1) ≠ ("-" : Str) := fun e => by
      have e1 : num n = SX.S (c :: l) := by rw [← hc]
      rw [e1, SX.slice_to (by decide)] at e
      have := congrArg TL.tl e
      rw [da1] at this
      have h2 : c = 45 := (List.cons.inj this).1
      omega
    refine ro_seq (fun _ => False) (ro_ifT (te_is (te_test (ee_op (ee_slS (ee_var rfl) eo_non (eo_some ee_c) (by omega)) ee_c fun _ => rd_neX rfl)) (by simp [hne])) (ro_ret (ee_call (es_cons (ee_var rfl) es_nil) ⟨n, rfl, h0, hb, rfl⟩) (.inr rfl) rfl)) fun _ z => z.elim
  · have e1 : num n = SX.S (45 :: TL.tl (num (-n))) := by
      refine TL.ext_tl ?_
      rw [num_neg (by omega), TL.tl_append, da1]
      rfl
    have heq : Txt.slice (num n) none (some 1) = ("-" : Str) := by
      rw [e1, SX.slice_to (by decide)]
      exact TL.ext_tl da1.symm
    have hrest : Txt.slice (num n) (some 1) none = num (-n) := by
      rw [e1, SX.slice_from (by decide)]
      exact SX.S_tl _
    have hb' : numB (-n) := by obtain ⟨h1, h2⟩ := hb; constructor <;> omega
    refine ro_s (ro_ifF (te_is (te_test (ee_op (ee_slS (ee_var rfl) eo_non (eo_some ee_c) (by omega)) ee_c fun _ => rd_neX rfl)) (by simp [heq])) (ro_next rfl)) ?_
    refine ro_s (ro_set (d := dI (-n)) (ee_call (es_cons (ee_is (ee_slS (ee_var rfl) (eo_some ee_c) eo_non (by omega)) (congrArg dS hrest)) es_nil) ⟨-n, rfl, by omega, hb', rfl⟩) (.inr rfl) rfl) ?_
    refine ro_ret (ee_if (k := true) (te_is (te_and (te_test (ee_op (ee_var rfl) ee_c fun _ => rd_notN)) fun _ => te_test (ee_op (ee_var rfl) ee_c fun _ => rd_I0)) (by simp; omega)) (fun _ => ee_is (ee_un (ee_var rfl) fun _ => ru_neg) (by rw [Int.neg_neg])) fun h => by cases h) (.inr rfl) rfl
theorem sc_minutes_or_none : FnScope ["word", "parts", "part"] ["word"] d_minutes_or_none.scope := ⟨rfl, rfl, rfl, by decide +kernel, rfl, by decide +kernel, by decide +kernel⟩
theorem ok_minutes_or_none (T : Wd K mg base) : C8.Cal P w K mg base (1 + 1) "minutes_or_none" (spD K gMinW) [] := by
  refine cal_of T 28 45 (d := d_minutes_or_none) rfl rfl rfl rfl rfl sc_minutes_or_none (spD_len fun ds d ⟨_, _, e, _⟩ => by rw [e]; rfl) (fun _ _ _ _ _ _ us hl => match us, hl with | [_], _ => rfl) fun cdv A outer s H vs Q E hr h => ?_
  refine ⟨_, (pss_cons (ps_setLc (i := 1) (own := [("part", 2)]) (by rfl) sc_minutes_or_none.nd rfl rfl (sw_true rfl rfl rfl (by decide +kernel)) (zi_any (K := K) rfl (z_split (pv 0) pe_str)) (blkOk_by (own := [("part", 2)]) (N := ["word", "parts", "part"]) (sc := d_minutes_or_none.scope) (by decide +kernel)) (fun _ _ _ _ _ => (pg_name (i := 2) sc_minutes_or_none.nd rfl (by first | exact Or.inl rfl | exact Or.inr rfl))) (fun _ _ _ _ _ => pts_nil) (fun _ _ _ _ _ => (C8.pe_c (ok_number_or_none T) hr (by decide) rfl (pa_cons (pv 2) pa_nil))))
    (pss_one (ps_ret (pe_ifExp (PW.pt (pw_and (pt_cmpR (z_eq (K := K) hr.units rfl) (pe_callB (z_len (K := K) rfl) (by rfl) T.g_len (by decide +kernel) (pa_cons (pv 1) pa_nil)) pe_int (nomark _)) (pw_and1 (pt_cmpR (z_notIn (K := K) rfl) pe_non (pv 1) (by first | rfl | with_unfolding_all rfl))))) (pe_callTy (z_tup (K := K) rfl) (by rfl) T.g_tuple (by decide +kernel) (pa_cons (pv 1) pa_nil)) pe_non)))), ?_⟩
  obtain ⟨ds, d, rr, ⟨a, b, rfl, ha, hb, na, nb, rfl⟩, q⟩ := h
  refine ro_fun ?_ rr q
  have hlen : (mWord a b).length ≤ 22 := by
    have := join_len (y := "-") (n := 10) (xs := [num a, num b]) (by decide +kernel) fun x hx => by
      have e : x = num a ∨ x = num b := by simpa using hx
      rcases e with rfl | rfl
      · exact num_len na
      · exact num_len nb
    exact this
  have hsplit : Txt.split (mWord a b) "-" = [num a, num b] := split_da (by simp) fun x hx => by
    have e : x = num a ∨ x = num b := by simpa using hx
    rcases e with rfl | rfl
    · exact num_free0 ha (by decide)
    · exact num_free0 hb (by decide)
  refine ro_s (ro_set (d := .lst [dI a, dI b]) (ee_lcL (ds := sD [num a, num b]) (wke_l (ee_split (ee_var rfl) ee_c (by decide +kernel) (by omega) hsplit)) (by simp [sD]) (by simp) rfl rfl fun i d e hd he => ?_) (.inr rfl) rfl) ?_
  · match i, hd, he with
    | 0, hd, he => cases hd; cases he; exact ee_call (es_cons (ee_var rfl) es_nil) ⟨a, rfl, ha, na, rfl⟩
    | 1, hd, he => cases hd; cases he; exact ee_call (es_cons (ee_var rfl) es_nil) ⟨b, rfl, hb, nb, rfl⟩
    | i + 2, hd, he => exact absurd hd (by simp [sD])
  refine ro_ret (ee_if (k := true) (te_is (te_and (te_test (ee_op (ee_cb (es_cons (ee_var rfl) es_nil) fun _ => rc_lenL) ee_c fun _ => rd_eqX rfl)) fun _ => te_test (ee_op ee_c (ee_var (d := .lst ([a, b].map dI)) rfl) fun _ => rd_noneNotI)) (by simp)) (fun _ => ee_cb (es_cons (ee_var rfl) es_nil) fun _ => rc_tupL) fun h => by cases h) (.inr rfl) rfl
theorem sc_name_or_none : FnScope ["word"] ["word"] d_name_or_none.scope := ⟨rfl, rfl, rfl, by decide +kernel, rfl, by decide +kernel, by decide +kernel⟩
theorem ok_name_or_none (T : Wd K mg base) : C8.Cal P w K mg base (1 + 1) "name_or_none" (spD K gNmW) [] := by
  refine cal_of T 29 46 (d := d_name_or_none) rfl rfl rfl rfl rfl sc_name_or_none (spD_len fun ds d ⟨_, e, _⟩ => by rw [e]; rfl) (fun _ _ _ _ _ _ us hl => match us, hl with | [_], _ => rfl) fun cdv A outer s H vs Q E hr h => ?_
  refine ⟨_, (pss_one (ps_ret (pe_ifExp (pt_val (C8.pe_c (ok_is_name T) hr (by decide) rfl (pa_cons (pv 0) pa_nil))) (pv 0) pe_non))), ?_⟩
  obtain ⟨ds, d, rr, ⟨x, rfl, hx, rfl⟩, q⟩ := h
  refine ro_fun ?_ rr q
  exact ro_ret (ee_if (k := true) (te_B (ee_call (es_cons (ee_var rfl) es_nil) ⟨x, rfl, hx, rfl⟩)) (fun _ => ee_var rfl) fun h => by cases h) (.inr rfl) rfl
theorem sc_kind_or_none : FnScope ["word"] ["word"] d_kind_or_none.scope := ⟨rfl, rfl, rfl, by decide +kernel, rfl, by decide +kernel, by decide +kernel⟩
theorem ok_kind_or_none (T : Wd K mg base) : C8.Cal P w K mg base (0 + 1) "kind_or_none" (spD K gKindW) [] := by
  refine cal_of T 32 49 (d := d_kind_or_none) rfl rfl rfl rfl rfl sc_kind_or_none (spD_len fun ds d ⟨_, e, _⟩ => by rw [e]; rfl) (fun _ _ _ _ _ _ us hl => match us, hl with | [_], _ => rfl) fun cdv A outer s H vs Q E hr h => ?_
  refine ⟨_, (pss_one (ps_ret (pe_ifExp (pt_cmpR (z_in (K := K) rfl) (pv 0) (C8.pe_gc (v := .ref (He.ga K "KINDS")) rfl T.k_KINDS) (by first | rfl | with_unfolding_all rfl)) (pv 0) pe_non))), ?_⟩
  obtain ⟨ds, d, rr, ⟨x, rfl, hx, rfl⟩, q⟩ := h
  refine ro_fun ?_ rr q
  exact ro_ret (ee_if (k := true) (te_test (ee_is (ee_op (ee_var rfl) (ee_cR T.KINDS) fun _ => rd_inT) (by simp [hx]))) (fun _ => ee_var rfl) fun h => by cases h) (.inr rfl) rfl
theorem wWord_len {ws : List Str} (h : ∀ x ∈ ws, isNm x) (hl : ws.length ≤ 1000) : (wWord ws).length ≤ 9000 := by
  unfold wWord
  split
  · decide +kernel
  · have := join_len (y := ",") (n := 8) (xs := ws) (by decide +kernel) fun x hx => nm_len (h x hx)
    omega
theorem tup_ne {xs : List Str} : PyData.eqv (D.tup (sD xs)).py (D.tup []).py = decide (xs = []) := by
  cases xs with
  | nil => rfl
  | cons x xs =>
    rw [D.py, D.py]
    show PyData.eqv (.tuple (D.pys (dS x :: sD xs))) (.tuple (D.pys [])) = _
    rw [D.pys, D.pys, PyData.eqv, PyData.eqvAll]
    simp
theorem sum_len {n : Nat} : ∀ {xs : List Str}, (∀ x ∈ xs, x.length ≤ n) → (xs.map (·.length)).sum ≤ n * xs.length
  | [], _ => Nat.zero_le _
  | x :: xs, h => by
    have h1 := h x List.mem_cons_self
    have h2 := sum_len fun q hq => h q (List.mem_cons_of_mem _ hq)
    rw [List.map_cons, List.sum_cons, List.length_cons, Nat.mul_succ]
    omega

theorem sc_people_or_none : FnScope ["word", "found"] ["word"] d_people_or_none.scope := ⟨rfl, rfl, rfl, by decide +kernel, rfl, by decide +kernel, by decide +kernel⟩
theorem ok_people_or_none (T : Wd K mg base) : C8.Cal P w K mg base (4 + 1) "people_or_none" (spD K gPplW) [] := by
  refine cal_of T 30 47 (d := d_people_or_none) rfl rfl rfl rfl rfl sc_people_or_none (spD_len fun ds d ⟨_, e, _⟩ => by rw [e]; rfl) (fun _ _ _ _ _ _ us hl => match us, hl with | [_], _ => rfl) fun cdv A outer s H vs Q E hr h => ?_
  refine ⟨_, (pss_cons (ps_if (pt_cmpR (z_eq (K := K) hr.units rfl) (pv 0) (C8.pe_gc (v := .str "-") rfl T.k_EMPTY_WORD) (nomark _)) (pss_one (ps_ret (pe_tup pa_nil))) pss_nil)
    (pss_cons (ps_set (i := 1) sc_people_or_none.nd rfl (by first | exact Or.inl rfl | exact Or.inr rfl) (pe_callTy (z_tup (K := K) rfl) (by rfl) T.g_tuple (by decide +kernel) (pa_cons (z_split (pv 0) pe_str) pa_nil)))
    (pss_one (ps_ret (pe_ifExp (pt_val (C8.pe_c (ok_is_people T) hr (by decide) rfl (pa_cons (pv 1) pa_nil))) (pv 1) pe_non))))), ?_⟩
  obtain ⟨ds, d, rr, ⟨ws, rfl, hx, ha, hl, rfl⟩, q⟩ := h
  refine ro_fun ?_ rr q
  have hlen := wWord_len hx hl
  by_cases h0 : ws = []
  · subst h0
    exact ro_seq (fun _ => False) (ro_ifT (te_is (te_test (ee_op (ee_var rfl) ee_c fun _ => rd_eqX rfl)) (by simp [wWord])) (ro_ret (ee_tup es_nil (by simp)) (.inr rfl) rfl)) fun _ z => z.elim
  · have hw : wWord ws = Txt.join "," ws := by unfold wWord; rw [if_neg h0]
    have hne : wWord ws ≠ ("-" : Str) := fun e => by
      have h1 : (45 : Nat) ∈ TL.tl (wWord ws) := by rw [e, da1]; simp
      rw [hw] at h1
      exact join_free co1 (by decide) (fun x h => nm_free (hx x h) (by decide +kernel)) h1
    have hs : Txt.split (wWord ws) "," = ws := by
      rw [hw]
      exact split_co h0 fun x h => nm_free (hx x h) (by decide +kernel)
    refine ro_s (ro_ifF (te_is (te_test (ee_op (ee_var rfl) ee_c fun _ => rd_eqX rfl)) (by simp [hne])) (ro_next rfl)) ?_
    refine ro_s (ro_set (d := .tup (sD ws)) (ee_cb (es_cons (ee_split (ee_var rfl) ee_c (by decide +kernel) (by omega) hs) es_nil) fun _ => rc_tupL) (.inr rfl) rfl) ?_
    exact ro_ret (ee_if (k := true) (te_B (ee_call (es_cons (ee_var rfl) es_nil) ⟨ws, rfl, hx, ha, hl, rfl⟩)) (fun _ => ee_var rfl) fun h => by cases h) (.inr rfl) rfl
theorem sc_people_word : FnScope ["people"] ["people"] d_people_word.scope := ⟨rfl, rfl, rfl, by decide +kernel, rfl, by decide +kernel, by decide +kernel⟩
theorem ok_people_word (T : Wd K mg base) : C8.Cal P w K mg base (0 + 1) "people_word" (spD K gPplT) [] := by
  refine cal_of T 31 48 (d := d_people_word) rfl rfl rfl rfl rfl sc_people_word (spD_len fun ds d ⟨_, e, _⟩ => by rw [e]; rfl) (fun _ _ _ _ _ _ us hl => match us, hl with | [_], _ => rfl) fun cdv A outer s H vs Q E hr h => ?_
  refine ⟨_, (pss_one (ps_ret (pe_ifExp (pt_cmpR (z_ne (K := K) hr.units rfl) (pv 0) (pe_tup pa_nil) (nomark _)) (z_join (K := K) rfl pe_str (pv 0)) (C8.pe_gc (v := .str "-") rfl T.k_EMPTY_WORD)))), ?_⟩
  obtain ⟨ds, d, rr, ⟨ws, rfl, hx, hl, rfl⟩, q⟩ := h
  refine ro_fun ?_ rr q
  have ok : D.ok 1 (.tup (sD ws)) = true := by
    rw [D.ok]
    exact oks_strs hx
  refine ro_ret (ee_if (k := !decide (ws = [])) (te_is (te_test (ee_op (ee_var rfl) (ee_tup es_nil (by simp)) fun _ => rd_neP ok (m := 1) rfl (by decide) (by decide))) (by rw [tup_ne])) (fun hk => ?_) fun hk => ?_) (.inr rfl) rfl
  · have h0 : ws ≠ [] := by simpa using hk
    refine ee_is (ee_joinT ee_c (ee_var rfl) ?_) (by unfold wWord; rw [if_neg h0])
    have h1 := sum_len (n := 8) fun x h => nm_len (hx x h)
    have h2 : (("," : Str)).length = 1 := by decide +kernel
    rw [h2]
    omega
  · have h0 : ws = [] := by simpa using hk
    subst h0
    exact ee_c
/-- what the parsers make of the words -/
inductive Parses (P : Program) (w : World) (K : PySem.W.Frag) (mg : Str → Option Value) (base : Heap) (j : Nat) : List D → List Str → List D → Prop
  | nil : Parses P w K mg base j [] [] []
  | cons {f : Addr} {g : List D → D → Prop} {x : Str} {d : D} {fs : List D} {xs : List Str} {ds : List D} : C8.CalAt P w K mg base j f (spD K g) → g [dS x] d → d.tu = true → (∀ v, d = .raw v → v ≠ .non) → Parses P w K mg base j fs xs ds → Parses P w K mg base j (.raw (.ref f) :: fs) (x :: xs) (d :: ds)
theorem Parses.len {j : Nat} {fs ds : List D} {xs : List Str} (h : Parses P w K mg base j fs xs ds) : fs.length = xs.length ∧ ds.length = xs.length := by
  induction h with
  | nil => exact ⟨rfl, rfl⟩
  | cons _ _ _ _ _ ih => exact ⟨congrArg Nat.succ ih.1, congrArg Nat.succ ih.2⟩
theorem Parses.get {j : Nat} {fs ds : List D} {xs : List Str} (h : Parses P w K mg base j fs xs ds) : ∀ {i : Nat}, i < xs.length → ∃ f g x d, fs[i]? = some (.raw (.ref f)) ∧ xs[i]? = some x ∧ ds[i]? = some d ∧ C8.CalAt P w K mg base j f (spD K g) ∧ g [dS x] d ∧ d.tu = true ∧ ∀ v, d = .raw v → v ≠ .non := by
  induction h with
  | nil => intro i hi; cases hi
  | cons c hg ht hn _ ih =>
    intro i hi
    cases i with
    | zero => exact ⟨_, _, _, _, rfl, rfl, rfl, c, hg, ht, hn⟩
    | succ i => exact ih (Nat.lt_of_succ_lt_succ hi)
theorem Parses.tu {j : Nat} {fs ds : List D} {xs : List Str} (h : Parses P w K mg base j fs xs ds) : D.tus fs = true ∧ D.tus ds = true := by
  induction h with
  | nil => exact ⟨rfl, rfl⟩
  | cons c hg ht hn _ ih => exact ⟨by simp [D.tus, D.tu, ih.1], by simp [D.tus, ht, ih.2]⟩
def gVals (P : Program) (w : World) (K : PySem.W.Frag) (mg : Str → Option Value) (base : Heap) (j : Nat) : List D → D → Prop := fun ds d => ∃ fs xs es a b, ds = [.lst (sD xs), .tup fs, a, b] ∧ Parses P w K mg base j fs xs es ∧ xs.length ≤ 1000 ∧ d = .tup es
theorem zip_tus {ds es : List D} (h1 : D.tus ds = true) (h2 : D.tus es = true) : ∀ d ∈ zipD ds es, d.tu = true := fun d hd => by
  have tu : ∀ {ds : List D}, D.tus ds = true → ∀ x ∈ ds, x.tu = true := fun {ds} => by
    induction ds with
    | nil => intro _ x hx; cases hx
    | cons d ds ih =>
      intro h x hx
      simp only [D.tus, Bool.and_eq_true] at h
      rcases List.mem_cons.mp hx with rfl | hx
      · exact h.1
      · exact ih h.2 x hx
  obtain ⟨i, hi⟩ := List.getElem?_of_mem hd
  obtain ⟨a, b, ha, hb, rfl⟩ := zipD_get' hi
  simp [D.tu, D.tus, tu h1 a (List.mem_of_getElem? ha), tu h2 b (List.mem_of_getElem? hb)]
theorem rd_ixLast {K : PySem.W.Frag} {ds : List D} {d : D} {H : Hp} : RD K (rIx K) (.lst (ds ++ [d])) (dI (-1)) H d := fun H1 _ x y hx hy Q q => by
  obtain ⟨a, xs, rfl, hs, r⟩ := hx.lst_inv
  have hl : xs.length = ds.length + 1 := by rw [r.len]; simp
  obtain ⟨w, hw, rw'⟩ := r.get (i := ds.length) (d := d) (by simp)
  refine .inl ⟨a, xs, -1, w, rfl, hy.raw_inv, SqL.of hs, ?_, q w H1 (Ex.refl H1) rw'⟩
  unfold atI ixN
  rw [if_neg (by decide), if_pos (by omega), hl]
  have e : ((-1 : Int) + ((ds.length + 1 : Nat) : Int)).toNat = ds.length := by omega
  rw [e]
  exact hw

theorem rd_isN_tu {K : PySem.W.Frag} {d : D} {H : Hp} (ht : d.tu = true) (hn : ∀ v, d = .raw v → v ≠ .non) : RD K rIsN d dN H (dB false) := by
  cases d with
  | raw v =>
    have h := rd_isN (K := K) (H := H) (v := v)
    rw [decide_eq_false (hn v rfl)] at h
    exact h
  | tup ds => exact rd_isNt
  | lst ds => simp [D.tu] at ht
  | dic ds => simp [D.tu] at ht

theorem sc_values_read : FnScope ["words", "parsers", "line", "field", "found", "parse", "word"] ["words", "parsers", "line", "field"] d_values_read.scope := ⟨rfl, rfl, rfl, by decide +kernel, rfl, by decide +kernel, by decide +kernel⟩
theorem ok_values_read (j : Nat) (T : Wd K mg base) : C8.Cal P w K mg base (j + 1) "values_read" (spD K (gVals P w K mg base j)) [.int 1] := by
  refine cal_ofD T 33 50 (d := d_values_read) 3 [.int 1] rfl rfl rfl rfl (by simp) rfl rfl sc_values_read (spD_len fun ds d ⟨_, _, _, _, _, e, _⟩ => by rw [e]; rfl) (fun _ _ _ _ _ _ _ us its hl hm => match us, hl, its, hm with | [_, _, _], _, [_], _ => ⟨_, rfl, rfl⟩) fun cdv A outer s H vs Q E hr h => ?_
  refine ⟨_, (pss_cons (ps_set (i := 4) sc_values_read.nd rfl (by first | exact Or.inl rfl | exact Or.inr rfl) (pe_lst pa_nil))
    (pss_cons (ps_for PassesOwn.never rfl (pi_zipX (K := K) rfl (by rfl) T.g_zip (pa_cons (pv 1) (pa_cons (pv 0) pa_nil))) (zg_tup (K := K) (n := 2) rfl rfl (pgs_cons (pg_name (i := 5) sc_values_read.nd rfl (by first | exact Or.inl rfl | exact Or.inr rfl)) (pgs_cons (pg_name (i := 6) sc_values_read.nd rfl (by first | exact Or.inl rfl | exact Or.inr rfl)) pgs_nil))) (pss_cons (ps_expr (pe_bm PySem.F.plainAttrs_list PySem.F.slot_list_append PySem.F.type_list_append mt_append (pv 4) (pa_cons (z_callH (i := 5) (P := P) (w := w) (K := K) (mg := mg) (base := base) rfl rfl rfl rfl rfl hr rfl (by first | exact Or.inl rfl | exact Or.inr (Or.inl rfl) | exact Or.inr (Or.inr rfl)) (pa_cons (pv 6) pa_nil)) pa_nil)))
    (pss_one (ps_if (pt_cmpR z_isN (pe_ix (z_ix (K := K) rfl) (pv 4) (pe_un un_neg pe_int) (fun _ _ => rfl)) pe_non (nomark _)) (pss_one ps_never) pss_nil))))
    (pss_cons (ps_if (pt_cmpR (z_ne (K := K) hr.units rfl) (pe_callB (z_len (K := K) rfl) (by rfl) T.g_len (by decide +kernel) (pa_cons (pv 0) pa_nil)) (pe_callB (z_len (K := K) rfl) (by rfl) T.g_len (by decide +kernel) (pa_cons (pv 1) pa_nil)) (nomark _)) (pss_one ps_never) pss_nil)
    (pss_one (ps_ret (pe_callTy (z_tup (K := K) rfl) (by rfl) T.g_tuple (by decide +kernel) (pa_cons (pv 4) pa_nil))))))), ?_⟩
  obtain ⟨ds, d, rr, ⟨fs, xs, es, a, b, rfl, hp, hl, rfl⟩, q⟩ := h
  refine ro_fun ?_ rr q
  obtain ⟨l1, l2⟩ := hp.len
  obtain ⟨t1, t2⟩ := hp.tu
  refine ro_seq (fun ρ => ∃ ad, ρ = [.rd (.lst (sD xs)), .rd (.tup fs), .rd a, .rd b, .ow ad [], .no, .no]) (ro_ownL (fun e he => by cases he; rfl) es_nil rfl (by decide) fun a => ⟨a, rfl⟩) ?_
  rintro _ ⟨ad, rfl⟩
  refine ro_s (ro_for (fun n => [.rd (.lst (sD xs)), .rd (.tup fs), .rd a, .rd b, .ow ad (es.take n), .no, .no]) (wo_zTLv (i := 1) (j := 0) rfl rfl) (by rw [List.take_zero]; exact Weak.refl) (zip_tus t1 sD_tus) (fun i d hd => ?_) rfl) ?_
  · obtain ⟨u, v, hu, hv, rfl⟩ := zipD_get' hd
    obtain ⟨x, hx, rfl⟩ := sD_get hv
    have hi := (List.getElem?_eq_some_iff.mp hx).1
    obtain ⟨f, g, x', e, g1, g2, g3, hc, hg, ht, hn⟩ := hp.get hi
    rw [hu] at g1
    cases g1
    rw [hx] at g2
    cases g2
    have htake : es.take i ++ [e] = es.take (i + 1) := by
      have h1 := (List.getElem?_eq_some_iff.mp g3).1
      have h2 := (List.getElem?_eq_some_iff.mp g3).2
      rw [← List.take_append_getElem h1, h2]
    refine ⟨_, go_tup (gos_cons go_name (gos_cons go_name gos_nil)) rfl, ?_⟩
    refine ro_s (ρ1 := [.rd (.lst (sD xs)), .rd (.tup fs), .rd a, .rd b, .ow ad (es.take i ++ [e]), .rd (.raw (.ref f)), .rd (dS x)]) (ro_append (i := 4) rfl (ee_callH (i := 5) rfl hc (es_cons (ee_var rfl) es_nil) hg) (.inl ht) (by rw [List.length_take]; omega) rfl) ?_
    refine ro_ifF (te_test (ee_op (ee_op (ee_var (d := .lst (es.take i ++ [e])) rfl) (ee_un ee_c fun _ => ru_neg) fun _ => rd_ixLast) ee_c fun _ => rd_isN_tu ht hn)) (ro_next ?_)
    rw [htake]
    exact .keep rfl (.keep rfl (.keep rfl (.keep rfl (.keep rfl (.drop (.drop .nil))))))
  have hz : (zipD fs (sD xs)).length = es.length := by rw [zipD_len, sD_len]; omega
  rw [hz, List.take_length]
  refine ro_s (ro_ifF (te_is (te_test (ee_op (ee_cb (es_cons (ee_var rfl) es_nil) fun _ => rc_lenL) (ee_cb (es_cons (ee_var rfl) es_nil) fun _ => rc_lenT) fun _ => rd_neX rfl)) (by simp [sD_len, l1])) (ro_next rfl)) ?_
  exact ro_give' (i := 4) rfl rfl rfl (ro_ret (ee_cb (es_cons (ee_var rfl) es_nil) fun _ => rc_tupL) (.inr rfl) rfl)
end
end Pa
set_option Elab.async false
set_option linter.all false
set_option maxRecDepth 100000
set_option maxHeartbeats 8000000
namespace Pa
open PySem PySem.Spec PyProof.Rows L2 Evl
section
variable {P : Program} {w : World} {K : PySem.W.Frag} {mg : Str → Option Value} {base : Heap}

structure RowNums (r : Row) : Prop where
  f : numB r.fst
  l : numB r.lst
  p : numB r.pat
  w : r.waits.length ≤ 100
def gPRead : List D → D → Prop := fun ds d => ∃ (ns : List Str) (cl : Int) (r : Row) (a : D), ds = [.lst (sD (pWords r)), a] ∧ RowOk ns cl r ∧ (∀ x ∈ ns, isNm x) ∧ RowNums r ∧ d = r.d
theorem ne_nil_list {d : D} {ds : List D} : PyData.eqv (D.lst (d :: ds)).py (D.lst []).py = false := by
  rw [D.py, D.py, D.pys, D.pys, PyData.eqv, PyData.eqvAll]

theorem sc_person_read : FnScope ["words", "line", "parsers", "name", "minutes", "kind", "patience", "waits"] ["words", "line"] d_person_read.scope := ⟨rfl, rfl, rfl, by decide +kernel, rfl, by decide +kernel, by decide +kernel⟩
theorem ok_person_read (T : Wd K mg base) : C8.Cal P w K mg base (6 + 1) "person_read" (spD K gPRead) [] := by
  refine cal_of T 34 51 (d := d_person_read) rfl rfl rfl rfl rfl sc_person_read (spD_len fun ds d ⟨_, _, _, _, e, _⟩ => by rw [e]; rfl) (fun _ _ _ _ _ _ us hl => match us, hl with | [_, _], _ => rfl) fun cdv A outer s H vs Q E hr h => ?_
  refine ⟨_, (pss_cons (ps_set (i := 2) sc_person_read.nd rfl (by first | exact Or.inl rfl | exact Or.inr rfl) (C8.pe_gc (v := .ref (He.ga K "PERSON")) rfl T.k_PERSON))
    (pss_cons (ps_if (PW.pt (pw_and (pt_cmpR op_gt (pe_callB (z_len (K := K) rfl) (by rfl) T.g_len (by decide +kernel) (pa_cons (pv 0) pa_nil)) pe_int (nomark _)) (pw_and1 (pt_cmpR (z_eq (K := K) hr.units rfl) (pe_ix (z_ix (K := K) rfl) (pv 0) pe_int (fun _ _ => rfl)) pe_str (nomark _))))) (pss_one (ps_set (i := 2) sc_person_read.nd rfl (by first | exact Or.inl rfl | exact Or.inr rfl) (pe_tup (StX.pa_star (C8.pe_gc (v := .ref (He.ga K "PERSON")) rfl T.k_PERSON) (pa_cons (C8.pe_gc (v := .ref (He.ga K "people_or_none")) rfl T.k_people_or_none) pa_nil))))) pss_nil)
    (pss_cons (ps_asg (C8.pe_c (ok_values_read 5 T) hr (by decide) rfl (pa_cons (pv 0) (pa_cons (pv 2) (pa_cons (pv 1) pa_nil)))) (zg_star (K := K) (i := 4) rfl rfl (pgs_cons (pg_name (i := 3) sc_person_read.nd rfl (by first | exact Or.inl rfl | exact Or.inr rfl)) (pgs_cons (pg_name (i := 4) sc_person_read.nd rfl (by first | exact Or.inl rfl | exact Or.inr rfl)) (pgs_cons (pg_name (i := 5) sc_person_read.nd rfl (by first | exact Or.inl rfl | exact Or.inr rfl)) (pgs_cons (pg_name (i := 6) sc_person_read.nd rfl (by first | exact Or.inl rfl | exact Or.inr rfl)) (pgs_star (pg_name (i := 7) sc_person_read.nd rfl (by first | exact Or.inl rfl | exact Or.inr rfl)))))))))
    (pss_one (ps_ret (pe_tup (pa_cons (pv 3) (StX.pa_star (pv 4) (pa_cons (pv 5) (pa_cons (pv 6) (pa_cons (pe_ifExp (pt_cmpR (z_ne (K := K) hr.units rfl) (pv 7) (pe_lst pa_nil) (nomark _)) (pe_ix (z_ix (K := K) rfl) (pv 7) pe_int (fun _ _ => rfl)) (pe_tup pa_nil)) pa_nil))))))))))), ?_⟩
  obtain ⟨ds, d, rr, ⟨ns, cl, r, a, rfl, ok, hns, nu, rfl⟩, q⟩ := h
  refine ro_fun ?_ rr q
  have f0 := ok.f0
  have fl := ok.fl
  have hws : ∀ x ∈ r.waits, isNm x := fun x hx => hns x (ok.wi x hx).1
  have c1 := at_of_cal (w := w) (P := P) (j := 5) (ok_name_or_none T) (by decide) T.m_name_or_none
  have c2 := at_of_cal (w := w) (P := P) (j := 5) (ok_minutes_or_none T) (by decide) T.m_minutes_or_none
  have c3 := at_of_cal (w := w) (P := P) (j := 5) (ok_kind_or_none T) (by decide) T.m_kind_or_none
  have c4 := at_of_cal (w := w) (P := P) (j := 5) (ok_number_or_none T) (by decide) T.m_number_or_none
  have c5 := at_of_cal (w := w) (P := P) (j := 5) (ok_people_or_none T) (by decide) T.m_people_or_none
  have base4 : ∀ {fs xs es}, Parses P w K mg base 5 fs xs es → Parses P w K mg base 5 (fD K "name_or_none" :: fD K "minutes_or_none" :: fD K "kind_or_none" :: fD K "number_or_none" :: fs) (r.nm :: mWord r.fst r.lst :: r.kind :: num r.pat :: xs) (dS r.nm :: .tup [dI r.fst, dI r.lst] :: dS r.kind :: dI r.pat :: es) := fun hp =>
    .cons c1 ⟨_, rfl, ok.nm, rfl⟩ rfl (fun v e => by cases e; intro z; cases z) (.cons c2 ⟨_, _, rfl, f0, by omega, nu.f, nu.l, rfl⟩ rfl (fun v e => by cases e) (.cons c3 ⟨_, rfl, ok.kd, rfl⟩ rfl (fun v e => by cases e; intro z; cases z) (.cons c4 ⟨_, rfl, ok.p0, nu.p, rfl⟩ rfl (fun v e => by cases e; intro z; cases z) hp)))
  have hf1 : ∀ H, Rps K H [.int 1] [dI 1] := fun H => .cons (.raw _) .nil
  refine ro_s (ro_set (ee_cR T.PERSON) (.inr rfl) rfl) ?_
  by_cases hk : r.kind = "waiter"
  · have hpw : pWords r = [r.nm, mWord r.fst r.lst, r.kind, num r.pat, wWord r.waits] := by unfold pWords; rw [if_pos hk]; rfl
    have hp := base4 (.cons c5 ⟨r.waits, rfl, hws, ok.wa, ok.wl, rfl⟩ (by simp [D.tu, sD_tus]) (fun v e => by cases e) .nil)
    rw [hpw]
    refine ro_s (ro_ifT (te_is (te_and (te_test (ee_op (ee_cb (es_cons (ee_var rfl) es_nil) fun _ => rc_lenL) ee_c fun _ => rd_I0)) fun _ => te_test (ee_op (ee_op (ee_var rfl) ee_c fun _ => rd_ixXL (n := 2) rfl rfl) ee_c fun _ => rd_eqX rfl)) (by simp [sD, hk])) (ro_set (ee_tup (es_starT (ee_cR T.PERSON) (es_cons ee_c es_nil)) (by simp)) (.inr rfl) rfl)) ?_
    refine ro_s (ro_asg (ee_callD (es_cons (ee_var rfl) (es_cons (ee_var rfl) (es_cons (ee_var rfl) es_nil))) hf1 ⟨_, _, _, _, _, rfl, hp, by simp, rfl⟩) (.inr rfl) (go_star (gos_cons go_name (gos_cons go_name (gos_cons go_name (gos_cons go_name (gos_cons go_name gos_nil))))) (by simp : 4 ≤ _)) rfl) ?_
    have okw : D.ok 2 (.lst [.tup (sD r.waits)]) = true := by
      simp [D.ok, D.oks, oks_strs (n := 0) hws]
    refine ro_ret (ee_tup (es_cons (ee_var rfl) (es_starT (ee_var rfl) (es_cons (ee_var rfl) (es_cons (ee_var rfl) (es_cons (ee_if (k := true) (te_test (ee_is (ee_op (ee_var rfl) (ee_lst es_nil (by simp)) fun _ => rd_neP okw (m := 1) rfl (by decide) (by decide)) (by show dB (!(D.lst (D.tup (sD r.waits) :: [])).py.eqv (D.lst []).py) = dB true; rw [ne_nil_list]; rfl))) (fun _ => ee_op (ee_var rfl) ee_c fun _ => rd_ixXL (n := 0) rfl rfl) fun h => by cases h) es_nil))))) (by simp)) (.inr rfl) rfl
  · have hpw : pWords r = [r.nm, mWord r.fst r.lst, r.kind, num r.pat] := by unfold pWords; rw [if_neg hk]; rfl
    have hw := ok.wn hk
    have hp := base4 .nil
    rw [hpw]
    refine ro_s (ro_ifF (te_is (te_and (te_test (ee_op (ee_cb (es_cons (ee_var rfl) es_nil) fun _ => rc_lenL) ee_c fun _ => rd_I0)) fun _ => te_test (ee_op (ee_op (ee_var rfl) ee_c fun _ => rd_ixXL (n := 2) rfl rfl) ee_c fun _ => rd_eqX rfl)) (by simp [sD, hk])) (ro_next rfl)) ?_
    refine ro_s (ro_asg (ee_callD (es_cons (ee_var rfl) (es_cons (ee_var rfl) (es_cons (ee_var rfl) es_nil))) hf1 ⟨_, _, _, _, _, rfl, hp, by simp, rfl⟩) (.inr rfl) (go_star (gos_cons go_name (gos_cons go_name (gos_cons go_name (gos_cons go_name (gos_cons go_name gos_nil))))) (by simp : 4 ≤ _)) rfl) ?_
    refine ro_ret (ee_is (ee_tup (es_cons (ee_var rfl) (es_starT (ee_var rfl) (es_cons (ee_var rfl) (es_cons (ee_var rfl) (es_cons (ee_if (k := false) (te_test (ee_op (ee_var rfl) (ee_lst es_nil (by simp)) fun _ => rd_neS (n := 1) rfl (by decide))) (fun h => by cases h) fun _ => ee_tup es_nil (by simp)) es_nil))))) (by simp)) ?_) (.inr rfl) rfl
    show D.tup _ = D.tup _
    rw [hw]
    rfl
end
end Pa
set_option Elab.async false
set_option linter.all false
set_option maxRecDepth 100000
set_option maxHeartbeats 4000000
namespace Pa
open PySem PySem.Spec PyProof.Rows L2 Evl
section
variable {K : PySem.W.Frag} {ρ ρ' ρ1 ρ2 : Enw} {tv : List V} {td : List D} {σ σ' : L2.St} {Hs H0 H H' H1 H2 : Hp} {v : V} {d d' : D} {ds es : List D} {i j l n m : Nat} {te tk ti tj : TE} {ta : TA} {e e' : En} {a b p : Addr} {gs : TGs} {xs : List V}
variable {N N' : Enw → Prop} {R R' : D → Enw → Prop} {t u tz ty : TS}
theorem StI.star (s : StI K H0 ρ tv td σ H) (rs : Rps K H0 xs ds) (hp : H p = none) :
    StI K (upd H0 p (.lst (xs.drop i))) ρ ((xs.take i ++ [.ref p]) ++ tv) ((ds.take i ++ [.lst (ds.drop i)]) ++ td) σ (upd H p (.lst (xs.drop i))) := by
  have h0p : H0 p = none := fresh_back s.ex hp
  have e0 : Ex H0 (upd H0 p (.lst (xs.drop i))) := Ex.new h0p
  have e1 : Ex H (upd H p (.lst (xs.drop i))) := Ex.new hp
  have hne : p ∉ ads ρ := s.ne_of_fresh (Ex.refl _) hp
  refine ⟨fun b o hb => ?_, fun b hb => ?_, s.nd, s.len, fun j en hj => ?_, ?_⟩
  · by_cases hbp : b = p
    · subst hbp; rw [upd_same] at hb ⊢; exact hb
    · rw [upd_ne hbp] at hb ⊢; exact s.ex b o hb
  · have : b ≠ p := fun e => hne (e ▸ hb)
    rw [upd_ne this]
    exact s.no b hb
  · obtain ⟨o, ho, hat⟩ := s.at_ j en hj
    refine ⟨o, ho, ?_⟩
    cases en with
    | no => trivial
    | rd d => obtain ⟨v, h1, h2⟩ := hat; exact ⟨v, h1, h2.mono e0⟩
    | ow a ds => obtain ⟨h1, xs, h2, h3⟩ := hat; exact ⟨h1, xs, e1 _ _ h2, h3.mono e0⟩
    | gh a ds => obtain ⟨xs, h2, h3⟩ := hat; exact ⟨xs, e1 _ _ h2, h3.mono e0⟩
    | ot a ks => obtain ⟨h1, h2⟩ := hat; exact ⟨h1, e1 _ _ h2⟩
    | rr a x0 cs l m n => obtain ⟨h1, h2, h3⟩ := hat; exact ⟨h1, e1 _ _ h2, h3.mono e0⟩
    | od a ds => obtain ⟨h1, xs, h2, h3⟩ := hat; exact ⟨h1, xs, e1 _ _ h2, h3.mono e0⟩
    | om a rows => obtain ⟨h1, h2, h3⟩ := hat; exact ⟨h1, e1 _ _ h2, fun r hr => e1 _ _ (h3 r hr)⟩
    | ra b d => obtain ⟨h1, h2⟩ := hat; exact ⟨h1, h2.mono e0⟩
  · exact (((rs.take i).mono e0).app (.cons (.lst upd_same ((rs.drop i).mono e0)) .nil)).app (s.tmp.mono e0)
/-- a, *rest = a list, lists owned -/
theorem ro_starL (he : EvE K te (vw ρ) (.lst ds)) (f : D.tus ds = true) (hn : i ≤ ds.length) (hg : GOs K gs (ds.take i ++ [.lst (ds.drop i)]) ρ ρ1) (k : N ρ1) : RO K (tAsg te (gStar K i gs)) ρ N R := fun Hs Dn σ H s kn _ => by
  obtain ⟨H0, eh, s0⟩ := s
  refine he σ H s0.env H (Ex.refl _) _ fun v H2 e2 rv => ?_
  obtain ⟨b, zs, rfl, hb, rz⟩ := rv.lst_inv
  have s3 := s0.grow e2
  have rz' : Rps K (minus H2 (ads ρ)) zs ds := rz.keepT (keep_minus fun c hc => by
    rcases s0.held hc with ⟨xs, hx⟩ | ⟨xs, hx⟩
    · exact .inl ⟨xs, e2 _ _ hx⟩
    · exact .inr ⟨xs, e2 _ _ hx⟩) f
  refine ⟨b, zs, rfl, .inr (SqL.of hb), by rw [rz.len]; exact hn, fun p hp => ?_⟩
  have h0p : minus H2 (ads ρ) p = none := fresh_back s3.ex hp
  exact hg Hs σ _ _ [] [] (by simp [rz.len]) ⟨_, (eh.trans (s0.growEx e2)).trans (Ex.new h0p), by simpa using s3.star rz' hp⟩ _ fun σ' H' s' => kn _ _ _ k s'
/-- a, b, c = [], [], a list -/
theorem ro_own3 (hown : ads ρ = []) (hij : i ≠ j) (hil : i ≠ l) (hjl : j ≠ l) (hi : i < ρ.length) (hj : j < ρ.length) (hl : l < ρ.length) (he : EvE K te (vw ρ) (.lst ds)) (f : D.tus ds = true) (hne : ds ≠ [])
    (k : ∀ a b, N (((ρ.set i (.ow a [])).set j (.ow b [])).set l (.rd (.lst ds)))) : RO K (tPar3 i j l (tCons (tLst tNil) (tCons (tLst tNil) (tCons te tNil)))) ρ N R := fun Hs Dn σ H s kn _ => by
  obtain ⟨H0, eh, s0⟩ := s
  refine ⟨by show 0 ≤ sizeLine; decide, fun p hp => ?_⟩
  refine ⟨by show 0 ≤ sizeLine; decide, fun q hq => ?_⟩
  have ep : Ex H (upd H p (.lst [])) := Ex.new hp
  have eq1 : Ex (upd H p (.lst [])) (upd (upd H p (.lst [])) q (.lst [])) := Ex.new hq
  have hpq : p ≠ q := fun e => by rw [e, upd_same] at hq; cases hq
  have hqH : H q = none := by rwa [upd_ne hpq.symm] at hq
  refine he σ _ (s0.env.mono (ep.trans eq1)) _ (Ex.refl _) _ fun v H2 e2 rv => ?_
  obtain ⟨c, zs, rfl, hc, rz⟩ := rv.lst_inv
  have hp2 : H2 p = some (.lst []) := e2 _ _ (eq1 _ _ upd_same)
  have hq2 : H2 q = some (.lst []) := e2 _ _ upd_same
  have hzne : zs ≠ [] := fun e => hne (by have := rz.len; rw [e] at this; exact List.eq_nil_of_length_eq_zero this.symm)
  have hcp : c ≠ p := fun e => by rw [e, hp2] at hc; cases hc; exact hzne rfl
  have hcq : c ≠ q := fun e => by rw [e, hq2] at hc; cases hc; exact hzne rfl
  have eA : Ex H H2 := (ep.trans eq1).trans e2
  refine ⟨_, _, _, rfl, ?_⟩
  have hH0 : ∀ b ∈ [p, q], H0 b = none := fun b hb => by
    have : b = p ∨ b = q := by simpa using hb
    rcases this with rfl | rfl
    · exact fresh_back s0.ex hp
    · exact fresh_back s0.ex hqH
  have eB : Ex H0 (minus H2 [p, q]) := ex_minus (s0.ex.trans eA) hH0
  have hhold : ∀ b ∈ [p, q], (∃ xs, H2 b = some (.lst xs)) ∨ ∃ xs, H2 b = some (dD xs) := fun b hb => by
    have : b = p ∨ b = q := by simpa using hb
    rcases this with rfl | rfl
    · exact .inl ⟨_, hp2⟩
    · exact .inl ⟨_, hq2⟩
  have rl : Rp K (minus H2 [p, q]) (.ref c) (.lst ds) := by
    refine .lst (xs := zs) ?_ (rz.keepT (keep_minus hhold) f)
    rw [minus_out (by simp [hcp, hcq])]
    exact hc
  have rnil : ads (ρ.set l (.rd (.lst ds))) = [] := by
    have := (ads_set_sub (d := .lst ds) (ρ := ρ) (i := l)).1
    rw [hown] at this
    exact List.eq_nil_iff_forall_not_mem.mpr fun b hb => by cases this b hb
  have hfin : ∀ b ∈ ads (((ρ.set i (.ow p [])).set j (.ow q [])).set l (.rd (.lst ds))), b = p ∨ b = q := fun b hb => by
    obtain ⟨e, hee, hbe⟩ := List.mem_flatMap.mp hb
    obtain ⟨x, hx⟩ := List.getElem?_of_mem hee
    by_cases h1 : l = x
    · subst h1; rw [List.getElem?_set_self (by simpa using hl)] at hx; cases hx; cases hbe
    · rw [List.getElem?_set_ne h1] at hx
      by_cases h2 : j = x
      · subst h2; rw [List.getElem?_set_self (by simpa using hj)] at hx; cases hx; exact .inr (List.mem_singleton.mp hbe)
      · rw [List.getElem?_set_ne h2] at hx
        by_cases h3 : i = x
        · subst h3; rw [List.getElem?_set_self hi] at hx; cases hx; exact .inl (List.mem_singleton.mp hbe)
        · rw [List.getElem?_set_ne h3] at hx
          have := ads_mem hx hbe
          rw [hown] at this
          cases this
  refine kn _ _ _ (k p q) ⟨_, eh.trans eB, ⟨minus_ex, fun b hb => minus_in (by have := hfin b hb; simpa using this), ?_, by simp [s0.len], ?_, .nil⟩⟩
  · have n1 := ads_new (ρ := ρ) (i := i) (e' := .ow p []) fun e he => by
      by_cases hz : e.ad = []
      · exact hz
      · obtain ⟨b, hb⟩ := List.exists_mem_of_ne_nil _ hz
        have := ads_mem he hb
        rw [hown] at this
        cases this
    have d1 : (ads (ρ.set i (.ow p []))).Nodup := n1.2 (by rw [hown]; exact List.nodup_nil) (by simp [En.ad]) fun b _ => by rw [hown]; simp
    have n2 := ads_new (ρ := ρ.set i (.ow p [])) (i := j) (e' := .ow q []) fun e he => by
      rw [List.getElem?_set_ne hij] at he
      by_cases hz : e.ad = []
      · exact hz
      · obtain ⟨b, hb⟩ := List.exists_mem_of_ne_nil _ hz
        have := ads_mem he hb
        rw [hown] at this
        cases this
    have d2 := n2.2 d1 (by simp [En.ad]) fun b hb hb2 => by
      rw [List.mem_singleton.mp hb] at hb2
      rcases n1.1 q hb2 with h | h
      · exact hpq.symm (List.mem_singleton.mp h)
      · rw [hown] at h; cases h
    exact (ads_set_sub (d := .lst ds)).2 d2
  · refine at_set (by simp [s0.len]) ⟨_, rfl, rl⟩ fun x en hx => ?_
    refine fun hxx => ?_
    by_cases h2 : j = x
    · subst h2
      rw [List.getElem?_set_self (by simpa using hj)] at hxx
      cases hxx
      refine ⟨some (.ref q), ?_, rfl, [], hq2, .nil⟩
      rw [List.getElem?_set_self (by simp [s0.len, hj])]
    · rw [List.getElem?_set_ne h2] at hxx ⊢
      by_cases h3 : i = x
      · subst h3
        rw [List.getElem?_set_self hi] at hxx
        cases hxx
        refine ⟨some (.ref p), ?_, rfl, [], hp2, .nil⟩
        rw [List.getElem?_set_self (by simp [s0.len, hi])]
      · rw [List.getElem?_set_ne h3] at hxx ⊢
        obtain ⟨o, ho, hat⟩ := s0.at_ x en hxx
        refine ⟨o, ho, ?_⟩
        have hnot : ∀ b, b ∉ en.ad := fun b hb => by
          have := ads_mem hxx hb
          rw [hown] at this
          cases this
        cases en with
        | no => trivial
        | rd d => obtain ⟨v, h1, h2⟩ := hat; exact ⟨v, h1, h2.mono eB⟩
        | ow b ds => exact absurd (List.mem_singleton.mpr rfl) (hnot b)
        | gh b ds => exact absurd (List.mem_singleton.mpr rfl) (hnot b)
        | ot b ks => exact absurd (List.mem_singleton.mpr rfl) (hnot b)
        | rr b x0 cs l m n => exact absurd (List.mem_singleton.mpr rfl) (hnot b)
        | od b ds => exact absurd (List.mem_singleton.mpr rfl) (hnot b)
        | om b rows => exact absurd List.mem_cons_self (hnot b)
        | ra b d => obtain ⟨h1, h2⟩ := hat; exact ⟨h1, h2.mono eB⟩
end
end Pa
set_option Elab.async false
set_option linter.all false
set_option maxRecDepth 100000
set_option maxHeartbeats 8000000
namespace Pa
open PySem PySem.Spec PyProof.Rows L2 Evl
section
variable {P : Program} {w : World} {K : PySem.W.Frag} {mg : Str → Option Value} {base : Heap}


def gPyRead : List D → D → Prop := fun ds d => ∃ p : Party, ds = [dS (pText p)] ∧ PartyOk p ∧ NumsOk p ∧ (pText p).length ≤ 90000 ∧ d = p.d
theorem len_join {y : Str} : ∀ {xs : List Str} {x : Str}, x ∈ xs → x.length ≤ (Txt.join y xs).length := by
  intro xs x h
  rw [TL.len_tl, TL.len_tl (Txt.join y xs), tl_joinT]
  induction xs with
  | nil => cases h
  | cons z zs ih =>
    cases zs with
    | nil =>
      rw [List.mem_singleton.mp h]
      exact Nat.le_refl _
    | cons u us =>
      show _ ≤ (TL.tl z ++ (TL.tl y ++ TL.joinL (TL.tl y) ((u :: us).map TL.tl))).length
      rw [List.length_append, List.length_append]
      rcases List.mem_cons.mp h with rfl | h
      · omega
      · have := ih h
        omega
theorem take_snoc {α β : Type} {f : α → β} {xs : List α} {i : Nat} {x : α} (h : xs[i]? = some x) : (xs.map f).take i ++ [f x] = (xs.map f).take (i + 1) := by
  have h1 := (List.getElem?_eq_some_iff.mp h).1
  have h2 := (List.getElem?_eq_some_iff.mp h).2
  have hl : i < (xs.map f).length := by simpa using h1
  rw [← List.take_append_getElem hl]
  simp [h2]
theorem pLines_get {p : Party} {i : Nat} {x : Str} (h : (pLines p)[i]? = some x) :
    (i < p.rows.length ∧ ∃ r, p.rows[i]? = some r ∧ x = pLine r) ∨ (p.rows.length ≤ i ∧ ∃ t, p.ties[i - p.rows.length]? = some t ∧ x = tLine t) ∨ (i = p.rows.length + p.ties.length ∧ x = cLine p.closing) := by
  unfold pLines at h
  by_cases h1 : i < p.rows.length
  · refine .inl ⟨h1, p.rows[i], by simp [h1], ?_⟩
    rw [List.append_assoc, List.getElem?_append_left (by simpa using h1)] at h
    simpa [h1] using h.symm
  · refine .inr ?_
    rw [List.append_assoc, List.getElem?_append_right (by simpa using h1)] at h
    rw [List.length_map] at h
    by_cases h2 : i - p.rows.length < p.ties.length
    · refine .inl ⟨by omega, p.ties[i - p.rows.length], by simp [h2], ?_⟩
      rw [List.getElem?_append_left (by simpa using h2)] at h
      simpa [h2] using h.symm
    · refine .inr ?_
      rw [List.getElem?_append_right (by simpa using h2), List.length_map] at h
      have h3 := (List.getElem?_eq_some_iff.mp h).1
      simp at h3
      have h4 : i - p.rows.length - p.ties.length = 0 := by omega
      rw [h4] at h
      exact ⟨by omega, (Option.some.inj h).symm⟩
theorem nums_row {p : Party} {r : Row} (h : NumsOk p) (hr : r ∈ p.rows) : RowNums r := ⟨(h.row r hr).1, (h.row r hr).2.1, (h.row r hr).2.2, h.w r hr⟩

theorem sc_party_read : FnScope ["text", "rows", "ties", "lines", "line", "own", "head", "words", "closing"] ["text"] d_party_read.scope := ⟨rfl, rfl, rfl, by decide +kernel, rfl, by decide +kernel, by decide +kernel⟩
theorem ok_party_read (T : Wd K mg base) : C8.Cal P w K mg base (7 + 1) "party_read" (spD K gPyRead) [] := by
  refine cal_of T 35 52 (d := d_party_read) rfl rfl rfl rfl rfl sc_party_read (spD_len fun ds d ⟨_, e, _⟩ => by rw [e]; rfl) (fun _ _ _ _ _ _ us hl => match us, hl with | [_], _ => rfl) fun cdv A outer s H vs Q E hr h => ?_
  refine ⟨_, (pss_cons (ps_par3 (i := 1) (j := 2) (l := 3) (by rfl) sc_party_read.nd rfl rfl rfl (by decide) (by decide) (by decide) rfl rfl rfl (pa_cons (pe_lst pa_nil) (pa_cons (pe_lst pa_nil) (pa_cons (z_split (pv 0) pe_str) pa_nil))) (by rfl))
    (pss_cons (ps_for PassesOwn.never rfl (pi_enumX (K := K) rfl (by rfl) T.g_enumerate (pa_cons (pv 3) pa_nil)) (zg_tup (K := K) (n := 2) rfl rfl (pgs_cons (pg_name (i := 4) sc_party_read.nd rfl (by first | exact Or.inl rfl | exact Or.inr rfl)) (pgs_cons (pg_name (i := 5) sc_party_read.nd rfl (by first | exact Or.inl rfl | exact Or.inr rfl)) pgs_nil))) (pss_cons (ps_asg (z_split (pv 5) pe_str) (zg_star (K := K) (i := 1) rfl rfl (pgs_cons (pg_name (i := 6) sc_party_read.nd rfl (by first | exact Or.inl rfl | exact Or.inr rfl)) (pgs_star (pg_name (i := 7) sc_party_read.nd rfl (by first | exact Or.inl rfl | exact Or.inr rfl))))))
    (pss_one (ps_if (PW.pt (pw_and (pt_cmpR (z_eq (K := K) hr.units rfl) (pv 6) pe_str (nomark _)) (pw_and1 (pt_cmpR (z_eq (K := K) hr.units rfl) (pv 2) (pe_lst pa_nil) (nomark _))))) (pss_one (ps_expr (pe_bm PySem.F.plainAttrs_list PySem.F.slot_list_append PySem.F.type_list_append mt_append (pv 1) (pa_cons (C8.pe_c (ok_person_read T) hr (by decide) rfl (pa_cons (pv 7) (pa_cons (pv 4) pa_nil))) pa_nil)))) (pss_one (ps_if (pt_cmpR (z_eq (K := K) hr.units rfl) (pv 6) pe_str (nomark _)) (pss_one (ps_expr (pe_bm PySem.F.plainAttrs_list PySem.F.slot_list_append PySem.F.type_list_append mt_append (pv 2) (pa_cons (C8.pe_c (ok_values_read 6 T) hr (by decide) rfl (pa_cons (pv 7) (pa_cons (C8.pe_gc (v := .ref (He.ga K "TIE")) rfl T.k_TIE) (pa_cons (pv 4) pa_nil)))) pa_nil)))) (pss_one (ps_if (pt_cmpR (z_eq (K := K) hr.units rfl) (pv 6) pe_str (nomark _)) (pss_cons (ps_set (i := 8) sc_party_read.nd rfl (by first | exact Or.inl rfl | exact Or.inr rfl) (pe_ix (z_ix (K := K) rfl) (C8.pe_c (ok_values_read 6 T) hr (by decide) rfl (pa_cons (pv 7) (pa_cons (C8.pe_gc (v := .ref (He.ga K "CLOSING")) rfl T.k_CLOSING) (pa_cons (pv 4) pa_nil)))) pe_int (fun _ _ => rfl)))
    (pss_cons (ps_if (pt_cmpR (z_lt (K := K) hr.units rfl) (pe_op (z_add (K := K) rfl) (pv 4) pe_int) (pe_callB (z_len (K := K) rfl) (by rfl) T.g_len (by decide +kernel) (pa_cons (pv 3) pa_nil)) (nomark _)) (pss_one ps_never) pss_nil)
    (pss_one (ps_ret (pe_tup (pa_cons (pe_callTy (z_tup (K := K) rfl) (by rfl) T.g_tuple (by decide +kernel) (pa_cons (pv 1) pa_nil)) (pa_cons (pe_callTy (z_tup (K := K) rfl) (by rfl) T.g_tuple (by decide +kernel) (pa_cons (pv 2) pa_nil)) (pa_cons (pv 8) pa_nil)))))))) (pss_one ps_never)))))))))
    (pss_one ps_never))), ?_⟩
  obtain ⟨ds, d, rr, ⟨p, e, hok, nu, hz, rfl⟩, q⟩ := h
  subst e
  refine ro_fun ?_ rr q
  have hsp := pText_split hok
  have hll : (pLines p).length = p.rows.length + p.ties.length + 1 := by simp [pLines]; omega
  have hl1 := hok.len
  have hl2 := hok.tlen
  have hline : ∀ x ∈ pLines p, x.length ≤ 90000 := fun x hx => Nat.le_trans (len_join hx) hz
  have c1 := at_of_cal (w := w) (P := P) (j := 6) (ok_name_or_none T) (by decide) T.m_name_or_none
  have c2 := at_of_cal (w := w) (P := P) (j := 6) (ok_integer_or_none T) (by decide) T.m_integer_or_none
  have c3 := at_of_cal (w := w) (P := P) (j := 6) (ok_number_or_none T) (by decide) T.m_number_or_none
  have hf1 : ∀ H, Rps K H [.int 1] [dI 1] := fun H => .cons (.raw _) .nil
  refine ro_seq (fun ρ => ∃ a b, ρ = [.rd (dS (pText p)), .ow a [], .ow b [], .rd (.lst (sD (pLines p))), .no, .no, .no, .no, .no]) (ro_own3 (i := 1) (j := 2) (l := 3) rfl (by decide) (by decide) (by decide) (by show 1 < 9; decide) (by show 2 < 9; decide) (by show 3 < 9; decide) (ee_split (ee_var rfl) ee_c (by decide +kernel) hz hsp) sD_tus (by simp [sD, pLines]) fun a b => ⟨a, b, rfl⟩) ?_
  rintro _ ⟨a, b, rfl⟩
  refine ro_seq (fun _ => False) (ro_forE (fun i (_ : Unit) => i ≤ p.rows.length + p.ties.length) (fun i _ => [.rd (dS (pText p)), .ow a ((rowsD p.rows).take i), .ow b ((tiesD p.ties).take (i - p.rows.length)), .rd (.lst (sD (pLines p))), .no, .no, .no, .no, .no]) (wo_eLv (i := 3) rfl) ⟨(), Nat.zero_le _, by simp only [List.take_zero, Nat.zero_sub]; exact Weak.refl⟩ (enumD_tu sD_tus) (fun i d u hd hI => ?_) fun _ h => ?_) fun _ h => h.elim
  rotate_left
  · rw [enumD_len, sD_len, hll] at h
    exact absurd h (by omega)
  obtain ⟨y, hy, rfl⟩ := enumD_get' hd
  obtain ⟨x, hx, rfl⟩ := sD_get hy
  have hxl := hline x (List.mem_of_getElem? hx)
  refine ⟨_, go_tup (gos_cons go_name (gos_cons go_name gos_nil)) rfl, ?_⟩
  rcases pLines_get hx with ⟨h1, r, hr, rfl⟩ | ⟨h1, t, ht, rfl⟩ | ⟨h1, rfl⟩
  · have hm := List.mem_of_getElem? hr
    have e0 : i - p.rows.length = 0 := by omega
    rw [e0, List.take_zero]
    refine ro_s (ro_starL (i := 1) (ee_split (ee_var rfl) ee_c (by decide +kernel) hxl (pLine_split (hok.row r hm) hok.nms)) sD_tus (by simp [sD]) (gos_cons go_name (gos_cons go_name gos_nil)) rfl) ?_
    refine ro_ifT (te_is (te_and (te_test (ee_op (ee_var rfl) ee_c fun _ => rd_eqX rfl)) fun _ => te_test (ee_op (ee_var rfl) (ee_lst es_nil (by simp)) fun _ => rd_eqS (n := 1) rfl (by decide))) (by decide)) ?_
    refine ro_append (i := 1) rfl (ee_callD (es_cons (ee_var rfl) (es_cons (ee_var rfl) es_nil)) (fun _ => .nil) ⟨names p, p.closing, r, _, rfl, hok.row r hm, hok.nms, nums_row nu hm, rfl⟩) (.inl r.tu) (by rw [List.length_take]; omega) ?_
    refine ⟨(), by omega, ?_⟩
    have e1 : i + 1 - p.rows.length = 0 := by omega
    rw [e1, List.take_zero, ← take_snoc (f := Row.d) hr]
    exact .keep rfl (.keep rfl (.keep rfl (.keep rfl (.drop (.drop (.drop (.drop (.drop .nil))))))))
  · have hm := List.mem_of_getElem? ht
    have hlt := (List.getElem?_eq_some_iff.mp ht).1
    obtain ⟨n1, n2⟩ := hok.tie_nm hm
    refine ro_s (ro_starL (i := 1) (ee_split (ee_var rfl) ee_c (by decide +kernel) hxl (tLine_split n1 n2)) sD_tus (by simp [sD]) (gos_cons go_name (gos_cons go_name gos_nil)) rfl) ?_
    refine ro_ifF (te_is (te_and (k := false) (te_is (te_test (ee_op (ee_var rfl) ee_c fun _ => rd_eqX rfl)) (by decide)) fun h => by cases h) (Bool.false_and true)) ?_
    refine ro_ifT (te_is (te_test (ee_op (ee_var rfl) ee_c fun _ => rd_eqX rfl)) (by decide)) ?_
    refine ro_append (i := 2) (d := t.d) rfl (ee_callD (es_cons (ee_var rfl) (es_cons (ee_cR T.TIE) (es_cons (ee_var rfl) es_nil))) hf1 ⟨_, tWords t, [dS t.one, dS t.oth, dI t.most], _, _, rfl, .cons c1 ⟨_, rfl, n1, rfl⟩ rfl (fun v e => by cases e; intro z; cases z) (.cons c1 ⟨_, rfl, n2, rfl⟩ rfl (fun v e => by cases e; intro z; cases z) (.cons c2 ⟨_, rfl, nu.tie t hm, rfl⟩ rfl (fun v e => by cases e; intro z; cases z) .nil)), by simp [tWords], rfl⟩) (.inl rfl) (by rw [List.length_take]; omega) ?_
    refine ⟨(), by omega, ?_⟩
    have e1 : i + 1 - p.rows.length = i - p.rows.length + 1 := by omega
    have e2 : (rowsD p.rows).take (i + 1) = (rowsD p.rows).take i := by rw [List.take_of_length_le (by simp; omega), List.take_of_length_le (by simp; omega)]
    rw [e1, e2, ← take_snoc (f := Tie.d) ht]
    exact .keep rfl (.keep rfl (.keep rfl (.keep rfl (.drop (.drop (.drop (.drop (.drop .nil))))))))
  · subst h1
    have e1 : (rowsD p.rows).take (p.rows.length + p.ties.length) = rowsD p.rows := List.take_of_length_le (by simp)
    have e2 : (tiesD p.ties).take (p.rows.length + p.ties.length - p.rows.length) = tiesD p.ties := List.take_of_length_le (by simp)
    rw [e1, e2]
    refine ro_s (ro_starL (i := 1) (ee_split (ee_var rfl) ee_c (by decide +kernel) hxl cLine_split) sD_tus (by simp [sD]) (gos_cons go_name (gos_cons go_name gos_nil)) rfl) ?_
    refine ro_ifF (te_is (te_and (k := false) (te_is (te_test (ee_op (ee_var rfl) ee_c fun _ => rd_eqX rfl)) (by decide)) fun h => by cases h) (Bool.false_and true)) ?_
    refine ro_ifF (te_is (te_test (ee_op (ee_var rfl) ee_c fun _ => rd_eqX rfl)) (by decide)) ?_
    refine ro_ifT (te_is (te_test (ee_op (ee_var rfl) ee_c fun _ => rd_eqX rfl)) (by decide)) ?_
    refine ro_s (ro_set (ee_op (ee_callD (es_cons (ee_var rfl) (es_cons (ee_cR T.CLOSING) (es_cons (ee_var rfl) es_nil))) hf1 ⟨_, [num p.closing], [dI p.closing], _, _, rfl, .cons c3 ⟨_, rfl, nu.c0, nu.cl, rfl⟩ rfl (fun v e => by cases e; intro z; cases z) .nil, by simp, rfl⟩) ee_c fun _ => rd_ixX (n := 0) rfl rfl) (.inl rfl) rfl) ?_
    refine ro_s (ro_ifF (te_is (te_test (ee_op (ee_op (ee_var rfl) ee_c fun _ => rd_addI) (ee_cb (es_cons (ee_var rfl) es_nil) fun _ => rc_lenL) fun _ => rd_ltI)) (by rw [sD_len, hll]; simp)) (ro_next rfl)) ?_
    exact ro_ret (ee_tup (es_cons (ee_cb (es_cons (ee_var rfl) es_nil) fun _ => rc_tupL) (es_cons (ee_cb (es_cons (ee_var rfl) es_nil) fun _ => rc_tupL) (es_cons (ee_var rfl) es_nil))) (by simp)) (.inl p.tu) rfl
end
end Pa
set_option Elab.async false
set_option linter.all false
set_option maxRecDepth 100000
set_option maxHeartbeats 8000000
namespace Pa
open PySem PySem.Spec PyProof.Rows L2 Evl
section
variable {P : Program} {w : World} {K : PySem.W.Frag} {mg : Str → Option Value} {base : Heap}


theorem cats_tl : ∀ {ys : List Str} {acc : Str}, TL.tl (cats acc ys) = TL.tl acc ++ (ys.map TL.tl).flatten
  | [], acc => by simp [cats]
  | y :: ys, acc => by
    have h : cats acc (y :: ys) = cats (acc ++ y) ys := rfl
    rw [h, cats_tl, TL.tl_append]
    simp
def pLine4 (r : Row) : Str := Txt.join " " [("person" : Str), r.nm, mWord r.fst r.lst, r.kind, num r.pat]
theorem tl_empty : TL.tl Str.empty = [] := rfl
theorem pLine4_cats {r : Row} : cats Str.empty [("person " : Str), r.nm, (" " : Str), num r.fst, ("-" : Str), num r.lst, (" " : Str), r.kind, (" " : Str), num r.pat] = pLine4 r := by
  refine TL.ext_tl ?_
  have e1 : TL.tl ("person " : Str) = TL.tl ("person" : Str) ++ [32] := by decide +kernel
  rw [cats_tl, pLine4, tl_joinT, sp1, tl_empty]
  simp only [List.map, TL.joinL, mWord, tl_joinT, da1, e1, sp1, List.flatten_cons, List.flatten_nil, List.append_assoc, List.nil_append, List.append_nil]
theorem pLine_4 {r : Row} (h : r.kind ≠ "waiter") : pLine r = pLine4 r := by
  unfold pLine pWords pLine4
  rw [if_neg h]
  rfl
theorem pLine_5 {r : Row} (h : r.kind = "waiter") : cats Str.empty [pLine4 r, (" " : Str), wWord r.waits] = pLine r := by
  refine TL.ext_tl ?_
  unfold pLine pWords pLine4
  rw [if_pos h, cats_tl, tl_joinT, sp1, tl_empty]
  simp only [List.map, List.map_append, tl_joinT, TL.joinL, sp1, List.flatten_cons, List.flatten_nil, List.append_assoc, List.nil_append, List.append_nil, List.cons_append, List.map_cons, List.map_nil]
theorem tLine_cats {t : Tie} : cats Str.empty [("tie " : Str), t.one, (" " : Str), t.oth, (" " : Str), num t.most] = tLine t := by
  refine TL.ext_tl ?_
  have e1 : TL.tl ("tie " : Str) = TL.tl ("tie" : Str) ++ [32] := by decide +kernel
  rw [cats_tl, tLine, tWords, tl_joinT, sp1, tl_empty]
  simp only [List.map, TL.joinL, e1, sp1, List.flatten_cons, List.flatten_nil, List.append_assoc, List.nil_append, List.append_nil]
theorem cLine_cats {c : Int} : cats Str.empty [("closing " : Str), num c] = cLine c := by
  refine TL.ext_tl ?_
  have e1 : TL.tl ("closing " : Str) = TL.tl ("closing" : Str) ++ [32] := by decide +kernel
  rw [cats_tl, cLine, tl_joinT, sp1, tl_empty]
  simp only [List.map, TL.joinL, e1, sp1, List.flatten_cons, List.flatten_nil, List.append_assoc, List.nil_append, List.append_nil]
theorem wWord_le9 {ws : List Str} (h : ∀ x ∈ ws, isNm x) (hl : ws.length ≤ 100) : (wWord ws).length ≤ 900 := by
  unfold wWord
  split
  · have e : ("-" : Str).length = 1 := by decide +kernel
    omega
  · have := join_len (y := ",") (by decide +kernel) fun x hx => nm_len (h x hx)
    omega
theorem pLine4_len {ns : List Str} {cl : Int} {r : Row} (ok : RowOk ns cl r) (nu : RowNums r) : (([("person " : Str), r.nm, (" " : Str), num r.fst, ("-" : Str), num r.lst, (" " : Str), r.kind, (" " : Str), num r.pat] : List Str).map Str.length).sum ≤ 90 := by
  have h1 := num_len nu.f
  have h2 := num_len nu.l
  have h3 := num_len nu.p
  have h4 := nm_len ok.nm
  have h5 := kind_len ok.kd
  have e1 : ("person " : Str).length = 7 := by decide +kernel
  have e2 : (" " : Str).length = 1 := by decide +kernel
  have e3 : ("-" : Str).length = 1 := by decide +kernel
  simp only [List.map_cons, List.map_nil, List.sum_cons, List.sum_nil, e1, e2, e3]
  omega
theorem pLine4_le {ns : List Str} {cl : Int} {r : Row} (ok : RowOk ns cl r) (nu : RowNums r) : (pLine4 r).length ≤ 90 := by
  rw [← pLine4_cats, cats_len]
  exact Nat.le_trans (Nat.le_of_eq (Nat.zero_add _)) (pLine4_len ok nu)
theorem pLine_le {ns : List Str} {cl : Int} {r : Row} (ok : RowOk ns cl r) (nu : RowNums r) (hn : ∀ x ∈ ns, isNm x) : (pLine r).length ≤ 1000 := by
  have h4 := pLine4_le ok nu
  by_cases hk : r.kind = "waiter"
  · rw [← pLine_5 hk, cats_len]
    have h := wWord_le9 (fun x hx => hn x (ok.wi x hx).1) nu.w
    have e2 : (" " : Str).length = 1 := by decide +kernel
    have e0 : Str.empty.length = 0 := rfl
    simp only [List.map_cons, List.map_nil, List.sum_cons, List.sum_nil, e2, e0]
    omega
  · rw [pLine_4 hk]
    omega
def gPLn : List D → D → Prop := fun ds d => ∃ ns cl r, ds = [r.d] ∧ RowOk ns cl r ∧ (∀ x ∈ ns, isNm x) ∧ RowNums r ∧ d = dS (pLine r)
def gTLn : List D → D → Prop := fun ds d => ∃ t : Tie, ds = [t.d] ∧ isNm t.one ∧ isNm t.oth ∧ numB t.most ∧ d = dS (tLine t)
def gPTx : List D → D → Prop := fun ds d => ∃ p : Party, ds = [p.d] ∧ PartyOk p ∧ NumsOk p ∧ d = dS (pText p)
theorem tLine_len {t : Tie} (h1 : isNm t.one) (h2 : isNm t.oth) (h3 : numB t.most) : (([("tie " : Str), t.one, (" " : Str), t.oth, (" " : Str), num t.most] : List Str).map Str.length).sum ≤ 90 := by
  have h1 := nm_len h1
  have h2 := nm_len h2
  have h3 := num_len h3
  have e1 : ("tie " : Str).length = 4 := by decide +kernel
  have e2 : (" " : Str).length = 1 := by decide +kernel
  simp only [List.map_cons, List.map_nil, List.sum_cons, List.sum_nil, e1, e2]
  omega
theorem tLine_le {t : Tie} (h1 : isNm t.one) (h2 : isNm t.oth) (h3 : numB t.most) : (tLine t).length ≤ 90 := by
  rw [← tLine_cats, cats_len]
  exact Nat.le_trans (Nat.le_of_eq (Nat.zero_add _)) (tLine_len h1 h2 h3)
theorem cLine_len {c : Int} (h3 : numB c) : (([("closing " : Str), num c] : List Str).map Str.length).sum ≤ 90 := by
  have h3 := num_len h3
  have e1 : ("closing " : Str).length = 8 := by decide +kernel
  simp only [List.map_cons, List.map_nil, List.sum_cons, List.sum_nil, e1]
  omega
theorem cLine_le {c : Int} (h3 : numB c) : (cLine c).length ≤ 90 := by
  rw [← cLine_cats, cats_len]
  exact Nat.le_trans (Nat.le_of_eq (Nat.zero_add _)) (cLine_len h3)
theorem pLines_le {p : Party} (h : PartyOk p) (nu : NumsOk p) : ∀ x ∈ pLines p, x.length ≤ 1000 := fun x hx => by
  unfold pLines at hx
  rcases List.mem_append.mp hx with hx | hx
  · rcases List.mem_append.mp hx with hx | hx
    · obtain ⟨r, hr, rfl⟩ := List.mem_map.mp hx
      exact pLine_le (h.row r hr) (nums_row nu hr) h.nms
    · obtain ⟨t, ht, rfl⟩ := List.mem_map.mp hx
      have := tLine_le (h.tie_nm ht).1 (h.tie_nm ht).2 (nu.tie t ht)
      omega
  · rw [List.mem_singleton.mp hx]
    have := cLine_le nu.cl
    omega

theorem sc_person_line : FnScope ["row", "name", "first", "last", "kind", "patience", "waits", "line"] ["row"] d_person_line.scope := ⟨rfl, rfl, rfl, by decide +kernel, rfl, by decide +kernel, by decide +kernel⟩
theorem ok_person_line (T : Wd K mg base) : C8.Cal P w K mg base (1 + 1) "person_line" (spD K gPLn) [] := by
  refine cal_of T 38 55 (d := d_person_line) rfl rfl rfl rfl rfl sc_person_line (spD_len fun ds d ⟨_, _, _, e, _⟩ => by rw [e]; rfl) (fun _ _ _ _ _ _ us hl => match us, hl with | [_], _ => rfl) fun cdv A outer s H vs Q E hr h => ?_
  refine ⟨_, (pss_cons (ps_asg (pv 0) (zg_tup (K := K) (n := 6) rfl rfl (pgs_cons (pg_name (i := 1) sc_person_line.nd rfl (by first | exact Or.inl rfl | exact Or.inr rfl)) (pgs_cons (pg_name (i := 2) sc_person_line.nd rfl (by first | exact Or.inl rfl | exact Or.inr rfl)) (pgs_cons (pg_name (i := 3) sc_person_line.nd rfl (by first | exact Or.inl rfl | exact Or.inr rfl)) (pgs_cons (pg_name (i := 4) sc_person_line.nd rfl (by first | exact Or.inl rfl | exact Or.inr rfl)) (pgs_cons (pg_name (i := 5) sc_person_line.nd rfl (by first | exact Or.inl rfl | exact Or.inr rfl)) (pgs_cons (pg_name (i := 6) sc_person_line.nd rfl (by first | exact Or.inl rfl | exact Or.inr rfl)) pgs_nil))))))))
    (pss_cons (ps_set (i := 7) sc_person_line.nd rfl (by first | exact Or.inl rfl | exact Or.inr rfl) (pe_joined (PJ.cons pe_str (PJ.cons (pe_fmt (pv 1)) (PJ.cons pe_str (PJ.cons (pe_fmt (pv 2)) (PJ.cons pe_str (PJ.cons (pe_fmt (pv 3)) (PJ.cons pe_str (PJ.cons (pe_fmt (pv 4)) (PJ.cons pe_str (PJ.cons (pe_fmt (pv 5)) PJ.nil))))))))))))
    (pss_one (ps_ret (pe_ifExp (pt_cmpR (z_eq (K := K) hr.units rfl) (pv 4) pe_str (nomark _)) (pe_joined (PJ.cons (pe_fmt (pv 7)) (PJ.cons pe_str (PJ.cons (pe_fmt (C8.pe_c (ok_people_word T) hr (by decide) rfl (pa_cons (pv 6) pa_nil))) PJ.nil)))) (pv 7)))))), ?_⟩
  obtain ⟨ds, d, rr, ⟨ns, cl, r, rfl, ok, hn, nu, rfl⟩, q⟩ := h
  refine ro_fun ?_ rr q
  refine ro_s (ro_asg (ee_var rfl) (.inr rfl) (go_tup (gos_cons go_name (gos_cons go_name (gos_cons go_name (gos_cons go_name (gos_cons go_name (gos_cons go_name gos_nil)))))) rfl) rfl) ?_
  have nm8 := nm_len ok.nm
  have kd8 := kind_len ok.kd
  refine ro_s (ro_set (d := dS (pLine4 r)) (ee_is (ee_joined (.cons ee_c (.cons (ee_fmtS (ee_var rfl) (by omega)) (.cons ee_c (.cons (ee_fmtI (ee_var rfl) (num_log nu.f)) (.cons ee_c (.cons (ee_fmtI (ee_var rfl) (num_log nu.l)) (.cons ee_c (.cons (ee_fmtS (ee_var rfl) (by omega)) (.cons ee_c (.cons (ee_fmtI (ee_var rfl) (num_log nu.p)) .nil)))))))))) (Nat.le_trans (pLine4_len ok nu) (by decide))) (congrArg dS pLine4_cats)) (.inr rfl) rfl) ?_
  have l4 := pLine4_le ok nu
  have hw : ∀ x ∈ r.waits, isNm x := fun x hx => hn x (ok.wi x hx).1
  have lw := wWord_le9 hw nu.w
  refine ro_ret (ee_if (te_test (ee_op (ee_var rfl) ee_c fun _ => rd_eqX rfl)) (fun hk => ?_) fun hk => ?_) (.inr rfl) rfl
  · have hk' : r.kind = "waiter" := by simpa using hk
    refine ee_is (ee_joined (.cons (ee_fmtS (ee_var rfl) (by omega)) (.cons ee_c (.cons (ee_fmtS (ee_call (es_cons (ee_var rfl) es_nil) ⟨r.waits, rfl, hw, ok.wl, rfl⟩) (by omega)) .nil))) ?_) (congrArg dS (pLine_5 hk'))
    have e2 : (" " : Str).length = 1 := by decide +kernel
    simp only [List.map_cons, List.map_nil, List.sum_cons, List.sum_nil, e2]
    omega
  · have hk' : r.kind ≠ "waiter" := by simpa using hk
    exact ee_is (ee_var rfl) (congrArg dS (pLine_4 hk').symm)
theorem sc_tie_line : FnScope ["tie", "one", "other", "most"] ["tie"] d_tie_line.scope := ⟨rfl, rfl, rfl, by decide +kernel, rfl, by decide +kernel, by decide +kernel⟩
theorem ok_tie_line (T : Wd K mg base) : C8.Cal P w K mg base (0 + 1) "tie_line" (spD K gTLn) [] := by
  refine cal_of T 39 56 (d := d_tie_line) rfl rfl rfl rfl rfl sc_tie_line (spD_len fun ds d ⟨_, e, _⟩ => by rw [e]; rfl) (fun _ _ _ _ _ _ us hl => match us, hl with | [_], _ => rfl) fun cdv A outer s H vs Q E hr h => ?_
  refine ⟨_, (pss_cons (ps_asg (pv 0) (zg_tup (K := K) (n := 3) rfl rfl (pgs_cons (pg_name (i := 1) sc_tie_line.nd rfl (by first | exact Or.inl rfl | exact Or.inr rfl)) (pgs_cons (pg_name (i := 2) sc_tie_line.nd rfl (by first | exact Or.inl rfl | exact Or.inr rfl)) (pgs_cons (pg_name (i := 3) sc_tie_line.nd rfl (by first | exact Or.inl rfl | exact Or.inr rfl)) pgs_nil)))))
    (pss_one (ps_ret (pe_joined (PJ.cons pe_str (PJ.cons (pe_fmt (pv 1)) (PJ.cons pe_str (PJ.cons (pe_fmt (pv 2)) (PJ.cons pe_str (PJ.cons (pe_fmt (pv 3)) PJ.nil)))))))))), ?_⟩
  obtain ⟨ds, d, rr, ⟨t, rfl, h1, h2, h3, rfl⟩, q⟩ := h
  refine ro_fun ?_ rr q
  refine ro_s (ro_asg (ee_var rfl) (.inr rfl) (go_tup (gos_cons go_name (gos_cons go_name (gos_cons go_name gos_nil))) rfl) rfl) ?_
  have n1 := nm_len h1
  have n2 := nm_len h2
  exact ro_ret (ee_is (ee_joined (.cons ee_c (.cons (ee_fmtS (ee_var rfl) (by omega)) (.cons ee_c (.cons (ee_fmtS (ee_var rfl) (by omega)) (.cons ee_c (.cons (ee_fmtI (ee_var rfl) (num_log h3)) .nil)))))) (Nat.le_trans (tLine_len h1 h2 h3) (by decide))) (congrArg dS tLine_cats)) (.inr rfl) rfl
theorem sc_party_text : FnScope ["party", "rows", "ties", "closing", "lines", "row", "tie"] ["party"] d_party_text.scope := ⟨rfl, rfl, rfl, by decide +kernel, rfl, by decide +kernel, by decide +kernel⟩
theorem ok_party_text (T : Wd K mg base) : C8.Cal P w K mg base (2 + 1) "party_text" (spD K gPTx) [] := by
  refine cal_of T 40 57 (d := d_party_text) rfl rfl rfl rfl rfl sc_party_text (spD_len fun ds d ⟨_, e, _⟩ => by rw [e]; rfl) (fun _ _ _ _ _ _ us hl => match us, hl with | [_], _ => rfl) fun cdv A outer s H vs Q E hr h => ?_
  refine ⟨_, (pss_cons (ps_asg (pv 0) (zg_tup (K := K) (n := 3) rfl rfl (pgs_cons (pg_name (i := 1) sc_party_text.nd rfl (by first | exact Or.inl rfl | exact Or.inr rfl)) (pgs_cons (pg_name (i := 2) sc_party_text.nd rfl (by first | exact Or.inl rfl | exact Or.inr rfl)) (pgs_cons (pg_name (i := 3) sc_party_text.nd rfl (by first | exact Or.inl rfl | exact Or.inr rfl)) pgs_nil)))))
    (pss_cons (ps_set (i := 4) sc_party_text.nd rfl (by first | exact Or.inl rfl | exact Or.inr rfl) (pe_op (z_add (K := K) rfl) (pe_lc (own := [("row", 5)]) (by rfl) sc_party_text.nd (zi_any (K := K) rfl (pv 1)) (blkOk_by (own := [("row", 5)]) (N := ["party", "rows", "ties", "closing", "lines", "row", "tie"]) (sc := d_party_text.scope) (by decide +kernel)) (fun _ _ _ _ _ => (pg_name (i := 5) sc_party_text.nd rfl (by first | exact Or.inl rfl | exact Or.inr rfl))) (fun _ _ _ _ _ => pts_nil) (fun _ _ _ _ _ => (C8.pe_c (ok_person_line T) hr (by decide) rfl (pa_cons (pv 5) pa_nil)))) (pe_lc (own := [("tie", 6)]) (by rfl) sc_party_text.nd (zi_any (K := K) rfl (pv 2)) (blkOk_by (own := [("tie", 6)]) (N := ["party", "rows", "ties", "closing", "lines", "row", "tie"]) (sc := d_party_text.scope) (by decide +kernel)) (fun _ _ _ _ _ => (pg_name (i := 6) sc_party_text.nd rfl (by first | exact Or.inl rfl | exact Or.inr rfl))) (fun _ _ _ _ _ => pts_nil) (fun _ _ _ _ _ => (C8.pe_c (ok_tie_line T) hr (by decide) rfl (pa_cons (pv 6) pa_nil))))))
    (pss_one (ps_ret (z_join (K := K) rfl pe_str (pe_lst (StX.pa_star (pv 4) (pa_cons (pe_joined (PJ.cons pe_str (PJ.cons (pe_fmt (pv 3)) PJ.nil))) pa_nil)))))))), ?_⟩
  obtain ⟨ds, d, rr, ⟨p, rfl, ok, nu, rfl⟩, q⟩ := h
  refine ro_fun ?_ rr q
  have hl1 := ok.len
  have hl2 := ok.tlen
  refine ro_s (ro_asg (ee_var rfl) (.inr rfl) (go_tup (gos_cons go_name (gos_cons go_name (gos_cons go_name gos_nil))) rfl) rfl) ?_
  refine ro_s (ro_set (d := .lst (sD (p.rows.map pLine) ++ sD (p.ties.map tLine))) (ee_op (ee_lcL (wke_t (ee_var rfl)) (by simp; omega) (by simp) (by simp [sD]) sD_tus ?_) (ee_lcL (wke_t (ee_var rfl)) (by simp; omega) (by simp) (by simp [sD]) sD_tus ?_) fun _ => rd_addL (by simp [sD]; omega)) (.inr rfl) rfl) ?_
  · intro i d e hd he
    obtain ⟨r, hr, rfl⟩ := map_get hd
    obtain ⟨x, hx, rfl⟩ := sD_get he
    rw [List.getElem?_map, hr] at hx
    cases hx
    have hm := List.mem_of_getElem? hr
    exact ee_call (es_cons (ee_var rfl) es_nil) ⟨_, _, r, rfl, ok.row r hm, ok.nms, nums_row nu hm, rfl⟩
  · intro i d e hd he
    obtain ⟨t, ht, rfl⟩ := map_get hd
    obtain ⟨x, hx, rfl⟩ := sD_get he
    rw [List.getElem?_map, ht] at hx
    cases hx
    have hm := List.mem_of_getElem? ht
    exact ee_call (es_cons (ee_var rfl) es_nil) ⟨t, rfl, (ok.tie_nm hm).1, (ok.tie_nm hm).2, nu.tie t hm, rfl⟩
  have hll : (pLines p).length = p.rows.length + p.ties.length + 1 := by simp [pLines]; omega
  have hs := sum_len (pLines_le ok nu)
  have e1 : ("\n" : Str).length = 1 := by decide +kernel
  exact ro_ret (ee_join (xs := pLines p) ee_c (ee_is (ee_lst (es_starL (ee_var rfl) (es_cons (ee_is (ee_joined (.cons ee_c (.cons (ee_fmtI (ee_var rfl) (num_log nu.cl)) .nil)) (Nat.le_trans (cLine_len nu.cl) (by decide))) (congrArg dS cLine_cats)) es_nil)) (by simp [sD]; omega)) (by simp [sD, pLines])) (by rw [e1, hll]; omega)) (.inr rfl) rfl
end
end Pa
set_option Elab.async false
set_option linter.all false
set_option maxRecDepth 100000
set_option maxHeartbeats 4000000
namespace Pa
open PySem PySem.Spec PyProof.Rows L2 Evl PySem.Calls PySem.W
open Builtin Builtin.Str Builtin.Int Builtin.Float
def f4 : FormatSpec := { align := 62, width := some 4 }
def f8 : FormatSpec := { align := 60, width := some 8 }
def fmt4 (a : Int) : PySem.Str := intSpecText f4 a
theorem fmt4_len {a : Int} (h : a.natAbs < 10 ^ 10) : (fmt4 a).length ≤ 15 := by
  have h1 := intSpecText_length (f := f4) a rfl rfl
  have h2 : (Nat.toDigits 10 a.natAbs).length ≤ 10 := by
    have e := (Nat.length_repr_le_iff (n := a.natAbs) (by decide : 0 < 10)).mpr h
    rwa [← String.length_toList, Nat.toList_repr] at e
  have hw : f4.width.getD 0 = 4 := rfl
  unfold fmt4
  rw [h1, hw]
  split <;> omega
theorem hp4 : parseFormatSpec (">4" : PySem.Str).cps.toList "int" 62 = .ok f4 := by rfl
theorem hp8 : parseFormatSpec ("<8" : PySem.Str).cps.toList "str" 60 = .ok f8 := by rfl
theorem ret4 {M : Model} {A : Around} {E : Value → Shared → Prop} {s : Shared} {X T : PySem.Str} {Q : PySem.Fin → Shared → Prop} (e : X = T) (hL : T.length ≤ sizeLine) (h : ∀ t k, Q (.done (.ret (.str T t))) { s with toks := k }) : wpAny M A (retStr X) Q E s := KXf.ret_text e (e ▸ hL) h
theorem ok_bind {ε α β : Type} {a : α} {f : α → Except ε β} : ((Except.ok a : Except ε α) >>= f) = f a := rfl
theorem ok_pure {ε α : Type} {a : α} : (pure a : Except ε α) = .ok a := rfl
theorem meets4 {a : Int} {t : Tok} (h : a.natAbs < 10 ^ 10) (hd : a.natAbs.log2 < 1920) : ∀ u, Meets («int.__format__» ⟨[.int a t, .str (">4" : PySem.Str) u], []⟩) (fun _ R s => ∀ t' k, R (.ok (.ret (.str (fmt4 a) t'))) { s with toks := k }) := by
  intro _
  apply KPc.meets_of
  intro _ _ _ _ _ _ hq
  unfold Builtin.«int.__format__»
  refine wpAny_bind (wpAny_of_eq (a := (_, _)) rfl ?_)
  refine wpAny_bind (wpAny_of_eq (a := _) rfl ?_)
  kxf_if
  refine wpAny_bind (wpAny_typeNameOf (T := "str") (typeIs_str _ _ _) (by decide) fun _ => ?_)
  refine wpAny_bind (wpAny_of_eq (a := some _) rfl ?_)
  kxf_if
  kxf_if
  refine wpAny_bind (wpAny_typeNameOfCut_int ?_)
  have e1 : f4.type.getD (if ((Str.ofString ">4").cps.back? == some 0) = true then 0 else 100) = 100 := by decide +kernel
  simp only [hp4, e1]
  (repeat kxf_if)
  refine wpAny_bind (wpAny_of_eq (PySem.overDigitLimit_small hd) ?_)
  (repeat kxf_if)
  refine ret4 (T := fmt4 a) ?_ (Nat.le_trans (fmt4_len h) (by decide)) hq
  kernel_rfl
/-- a text filled up to 8 signs -/
def fmt8 (x : PySem.Str) : PySem.Str := if 8 ≤ x.length then x else padded (strSub x 0 x.length) 0 (8 - (strSub x 0 x.length).length) 32
theorem sub_all {x : PySem.Str} : strSub x 0 x.length = x := by
  unfold strSub
  have : x.length = x.cps.size := rfl
  rw [this, Array.extract_size]
theorem fmt8_tl {x : PySem.Str} : TL.tl (fmt8 x) = TL.tl x ++ List.replicate (8 - x.length) 32 := by
  unfold fmt8
  split
  · have : 8 - x.length = 0 := by omega
    rw [this]
    simp
  · rw [sub_all]
    unfold padded
    simp [TL.tl]
theorem fmt8_len {x : PySem.Str} (h : x.length ≤ 8) : (fmt8 x).length = 8 := by
  rw [TL.len_tl, fmt8_tl, List.length_append, List.length_replicate, ← TL.len_tl]
  omega
theorem meets8 {x : PySem.Str} {t : Tok} (h : x.length ≤ 8) : ∀ u, Meets («str.__format__» ⟨[.str x t, .str ("<8" : PySem.Str) u], []⟩) (fun _ R s => ∀ t' k, R (.ok (.ret (.str (fmt8 x) t'))) { s with toks := k }) := by
  intro _
  apply KPc.meets_of
  intro _ _ _ _ _ _ hq
  unfold Builtin.«str.__format__»
  refine wpAny_bind (wpAny_of_eq (a := (_, _, _)) rfl ?_)
  refine wpAny_bind (wpAny_of_eq (a := some _) rfl ?_)
  kxf_if
  kxf_if
  refine wpAny_bind (KXf.cut_str ?_)
  have hl8 := fmt8_len h
  have c1 : (f8.type.isNone && (Str.ofString "<8").cps.back? == some 0) = false := by decide +kernel
  have c2 : tooLong (f8.width.getD 0) = false := by decide +kernel
  by_cases h8 : 8 ≤ x.length
  · have e : fmt8 x = x := if_pos h8
    have e2 : strField x f8 "str" = .ok none := by
      unfold strField
      simp [f8, h8]
      rfl
    simp only [hp8, ok_bind, c1, c2, e2, ok_pure, Bool.false_eq_true, if_false]
    refine wpAny_bind (wpAny_rule ?_)
    exact KXf.ret_same e.symm hq
  · have e2 : strField x f8 "str" = .ok (some (fmt8 x)) := by
      unfold strField fmt8
      simp [f8, h8]
      rfl
    simp only [hp8, ok_bind, c1, c2, e2, ok_pure, Bool.false_eq_true, if_false]
    exact ret4 rfl (by rw [hl8]; decide) hq
end Pa
set_option Elab.async false
set_option linter.all false
set_option maxRecDepth 100000
set_option maxHeartbeats 4000000
namespace Pa
open PySem PySem.Spec PyProof.Rows L2 Evl PySem.W
section
variable {X : Cx} {te : TE}
def tFmt4 (te : TE) : TE := fun σ H Q => te σ H fun x H1 => ∃ a, x = .int a ∧ a.natAbs < 10 ^ 10 ∧ a.natAbs.log2 < 1920 ∧ Q (.str (fmt4 a)) H1
def tFmt8 (te : TE) : TE := fun σ H Q => te σ H fun x H1 => ∃ y, x = .str y ∧ y.length ≤ 8 ∧ Q (.str (fmt8 y)) H1
theorem pe_fmt4 {e : Expr} {p1 p2 p3 : Pos} {k : Nat} (he : PE X e te) : PE X (.FormattedValue e (-1) (some (.JoinedStr [.Constant (.str (">4" : PySem.Str)) k p1] p2)) p3) (tFmt4 te) := by
  refine ⟨fun pins s σ H Q I h => ?_⟩
  refine wpAny_FormattedValue_spec (thn (he.run pins s σ H _ I h) fun v s1 hv => ?_)
  obtain ⟨x, H1, I1, r1, a, rfl, h1, h2, q⟩ := hv
  obtain ⟨t, rfl⟩ := r1
  refine thn ((pe_joined1 (pos := p2) (pe_str (X := X) (j := k) (pos := p1) (x := (">4" : PySem.Str)))).run pins s1 σ H1 (fun y H2 => y = .str (">4" : PySem.Str) ∧ H2 = H1) I1 ⟨rfl, rfl⟩) fun v' s2 hv' => ?_
  obtain ⟨x', H2, I2, r2, rfl, rfl⟩ := hv'
  obtain ⟨t2, rfl⟩ := r2
  exact ⟨_, _, rfl, KXf.field_int rfl (by decide +kernel) (by decide +kernel) (meets4 h1 h2) fun t' k => ⟨.str (fmt4 a), H2, I2.tok _, ⟨_, rfl⟩, q⟩⟩
theorem pe_fmt8 {e : Expr} {p1 p2 p3 : Pos} {k : Nat} (he : PE X e te) : PE X (.FormattedValue e (-1) (some (.JoinedStr [.Constant (.str ("<8" : PySem.Str)) k p1] p2)) p3) (tFmt8 te) := by
  refine ⟨fun pins s σ H Q I h => ?_⟩
  refine wpAny_FormattedValue_spec (thn (he.run pins s σ H _ I h) fun v s1 hv => ?_)
  obtain ⟨x, H1, I1, r1, y, rfl, h1, q⟩ := hv
  obtain ⟨t, rfl⟩ := r1
  refine thn ((pe_joined1 (pos := p2) (pe_str (X := X) (j := k) (pos := p1) (x := ("<8" : PySem.Str)))).run pins s1 σ H1 (fun y H2 => y = .str ("<8" : PySem.Str) ∧ H2 = H1) I1 ⟨rfl, rfl⟩) fun v' s2 hv' => ?_
  obtain ⟨x', H2, I2, r2, rfl, rfl⟩ := hv'
  obtain ⟨t2, rfl⟩ := r2
  exact ⟨_, _, rfl, KXf.field_str rfl rfl (by decide +kernel) (by decide +kernel) (meets8 h1) fun t' k => ⟨.str (fmt8 y), H2, I2.tok _, ⟨_, rfl⟩, q⟩⟩
end
section
variable {K : PySem.W.Frag} {ρ : Env} {te : TE} {y : Str} {a : Int}
theorem ee_fmt8 (h : EvE K te ρ (dS y)) (hl : y.length ≤ 8) : EvE K (tFmt8 te) ρ (dS (fmt8 y)) := fun σ H e H1 e1 Q q => h σ H e H1 e1 _ fun v H2 e2 r => ⟨y, r.raw_inv, hl, q _ H2 e2 (.raw _)⟩
theorem ee_fmt4 (h : EvE K te ρ (dI a)) (hl : numB a) : EvE K (tFmt4 te) ρ (dS (fmt4 a)) := fun σ H e H1 e1 Q q => h σ H e H1 e1 _ fun v H2 e2 r => ⟨a, r.raw_inv, by obtain ⟨h1, h2⟩ := hl; omega, num_log hl, q _ H2 e2 (.raw _)⟩
end
end Pa
set_option Elab.async false
set_option linter.all false
set_option maxRecDepth 100000
set_option maxHeartbeats 8000000
namespace Pa
open PySem PySem.Spec PyProof.Rows L2 Evl
section
variable {P : Program} {w : World} {K : PySem.W.Frag} {mg : Str → Option Value} {base : Heap}


def cells (r : Row) : List Str := [fmt8 r.nm, fmt4 r.fst, fmt4 r.lst, fmt8 r.kind, fmt4 r.pat, wWord r.waits]
def rowLine (r : Row) : Str := Txt.join " " (cells r)
def gCells : List D → D → Prop := fun ds d => ∃ ns cl r, ds = [r.d] ∧ RowOk ns cl r ∧ (∀ x ∈ ns, isNm x) ∧ RowNums r ∧ d = .lst (sD (cells r))
def gTable : List D → D → Prop := fun ds d => ∃ p : Party, ds = [p.d] ∧ PartyOk p ∧ NumsOk p ∧ d = .lst (sD (p.rows.map rowLine))
theorem cells_le {ns : List Str} {cl : Int} {r : Row} (ok : RowOk ns cl r) (nu : RowNums r) (hn : ∀ x ∈ ns, isNm x) : ∀ x ∈ cells r, x.length ≤ 900 := fun x hx => by
  have hh : ∀ {i : Int}, numB i → i.natAbs < 10 ^ 10 := fun ⟨h1, h2⟩ => by omega
  have e : x = fmt8 r.nm ∨ x = fmt4 r.fst ∨ x = fmt4 r.lst ∨ x = fmt8 r.kind ∨ x = fmt4 r.pat ∨ x = wWord r.waits := by simpa [cells] using hx
  rcases e with rfl | rfl | rfl | rfl | rfl | rfl
  · rw [fmt8_len (nm_len ok.nm)]; omega
  · exact Nat.le_trans (fmt4_len (hh nu.f)) (by omega)
  · exact Nat.le_trans (fmt4_len (hh nu.l)) (by omega)
  · rw [fmt8_len (kind_len ok.kd)]; omega
  · exact Nat.le_trans (fmt4_len (hh nu.p)) (by omega)
  · exact wWord_le9 (fun x hx => hn x (ok.wi x hx).1) nu.w
theorem rowLine_le {ns : List Str} {cl : Int} {r : Row} (ok : RowOk ns cl r) (nu : RowNums r) (hn : ∀ x ∈ ns, isNm x) : (rowLine r).length ≤ 6000 := by
  have := join_len (y := " ") (by decide +kernel) (cells_le ok nu hn)
  have h6 : (cells r).length = 6 := rfl
  rw [h6] at this
  unfold rowLine
  omega
/-- the first eight signs of a line -/
theorem rowLine_8 {r : Row} (h : r.nm.length ≤ 8) : Txt.slice (rowLine r) none (some 8) = fmt8 r.nm := by
  have hl := fmt8_len h
  have e : rowLine r = SX.S (TL.tl (fmt8 r.nm) ++ (32 :: TL.joinL [32] ([fmt4 r.fst, fmt4 r.lst, fmt8 r.kind, fmt4 r.pat, wWord r.waits].map TL.tl))) := by
    refine TL.ext_tl ?_
    unfold rowLine cells
    rw [tl_joinT, sp1]
    rfl
  rw [e, SX.to_app _ _ (by rw [← TL.len_tl, hl]; rfl)]

theorem sc_person_cells : FnScope ["row", "name", "first", "last", "kind", "patience", "waits"] ["row"] d_person_cells.scope := ⟨rfl, rfl, rfl, by decide +kernel, rfl, by decide +kernel, by decide +kernel⟩
theorem ok_person_cells (T : Wd K mg base) : C8.Cal P w K mg base (1 + 1) "person_cells" (spD K gCells) [] := by
  refine cal_of T 36 53 (d := d_person_cells) rfl rfl rfl rfl rfl sc_person_cells (spD_len fun ds d ⟨_, _, _, e, _⟩ => by rw [e]; rfl) (fun _ _ _ _ _ _ us hl => match us, hl with | [_], _ => rfl) fun cdv A outer s H vs Q E hr h => ?_
  refine ⟨_, (pss_cons (ps_asg (pv 0) (zg_tup (K := K) (n := 6) rfl rfl (pgs_cons (pg_name (i := 1) sc_person_cells.nd rfl (by first | exact Or.inl rfl | exact Or.inr rfl)) (pgs_cons (pg_name (i := 2) sc_person_cells.nd rfl (by first | exact Or.inl rfl | exact Or.inr rfl)) (pgs_cons (pg_name (i := 3) sc_person_cells.nd rfl (by first | exact Or.inl rfl | exact Or.inr rfl)) (pgs_cons (pg_name (i := 4) sc_person_cells.nd rfl (by first | exact Or.inl rfl | exact Or.inr rfl)) (pgs_cons (pg_name (i := 5) sc_person_cells.nd rfl (by first | exact Or.inl rfl | exact Or.inr rfl)) (pgs_cons (pg_name (i := 6) sc_person_cells.nd rfl (by first | exact Or.inl rfl | exact Or.inr rfl)) pgs_nil))))))))
    (pss_one (ps_ret (pe_lst (pa_cons (pe_joined1 (pe_fmt8 (pv 1))) (pa_cons (pe_joined1 (pe_fmt4 (pv 2))) (pa_cons (pe_joined1 (pe_fmt4 (pv 3))) (pa_cons (pe_joined1 (pe_fmt8 (pv 4))) (pa_cons (pe_joined1 (pe_fmt4 (pv 5))) (pa_cons (C8.pe_c (ok_people_word T) hr (by decide) rfl (pa_cons (pv 6) pa_nil)) pa_nil)))))))))), ?_⟩
  obtain ⟨ds, d, rr, ⟨ns, cl, r, rfl, ok, hn, nu, rfl⟩, q⟩ := h
  refine ro_fun ?_ rr q
  refine ro_s (ro_asg (ee_var rfl) (.inr rfl) (go_tup (gos_cons go_name (gos_cons go_name (gos_cons go_name (gos_cons go_name (gos_cons go_name (gos_cons go_name gos_nil)))))) rfl) rfl) ?_
  have nm8 := nm_len ok.nm
  have kd8 := kind_len ok.kd
  exact ro_ret (ee_lst (es_cons (ee_fmt8 (ee_var rfl) nm8) (es_cons (ee_fmt4 (ee_var rfl) nu.f) (es_cons (ee_fmt4 (ee_var rfl) nu.l) (es_cons (ee_fmt8 (ee_var rfl) kd8) (es_cons (ee_fmt4 (ee_var rfl) nu.p) (es_cons (ee_call (es_cons (ee_var rfl) es_nil) ⟨r.waits, rfl, fun x hx => hn x (ok.wi x hx).1, ok.wl, rfl⟩) es_nil)))))) (by simp)) (.inr rfl) rfl
theorem sc_party_table : FnScope ["party", "rows", "ties", "closing", "row"] ["party"] d_party_table.scope := ⟨rfl, rfl, rfl, by decide +kernel, rfl, by decide +kernel, by decide +kernel⟩
theorem ok_party_table (T : Wd K mg base) : C8.Cal P w K mg base (2 + 1) "party_table" (spD K gTable) [] := by
  refine cal_of T 37 54 (d := d_party_table) rfl rfl rfl rfl rfl sc_party_table (spD_len fun ds d ⟨_, e, _⟩ => by rw [e]; rfl) (fun _ _ _ _ _ _ us hl => match us, hl with | [_], _ => rfl) fun cdv A outer s H vs Q E hr h => ?_
  refine ⟨_, (pss_cons (ps_asg (pv 0) (zg_tup (K := K) (n := 3) rfl rfl (pgs_cons (pg_name (i := 1) sc_party_table.nd rfl (by first | exact Or.inl rfl | exact Or.inr rfl)) (pgs_cons (pg_name (i := 2) sc_party_table.nd rfl (by first | exact Or.inl rfl | exact Or.inr rfl)) (pgs_cons (pg_name (i := 3) sc_party_table.nd rfl (by first | exact Or.inl rfl | exact Or.inr rfl)) pgs_nil)))))
    (pss_one (ps_ret (pe_lc (own := [("row", 4)]) (by rfl) sc_party_table.nd (zi_any (K := K) rfl (pv 1)) (blkOk_by (own := [("row", 4)]) (N := ["party", "rows", "ties", "closing", "row"]) (sc := d_party_table.scope) (by decide +kernel)) (fun _ _ _ _ _ => (pg_name (i := 4) sc_party_table.nd rfl (by first | exact Or.inl rfl | exact Or.inr rfl))) (fun _ _ _ _ _ => pts_nil) (fun _ _ _ _ _ => (z_join (K := K) rfl pe_str (C8.pe_c (ok_person_cells T) hr (by decide) rfl (pa_cons (pv 4) pa_nil)))))))), ?_⟩
  obtain ⟨ds, d, rr, ⟨p, rfl, ok, nu, rfl⟩, q⟩ := h
  refine ro_fun ?_ rr q
  have hl1 := ok.len
  refine ro_s (ro_asg (ee_var rfl) (.inr rfl) (go_tup (gos_cons go_name (gos_cons go_name (gos_cons go_name gos_nil))) rfl) rfl) ?_
  refine ro_ret (ee_lcL (wke_t (ee_var rfl)) (by simp; omega) (by simp) (by simp [sD]) sD_tus fun i d e hd he => ?_) (.inr rfl) rfl
  obtain ⟨r, hr, rfl⟩ := map_get hd
  obtain ⟨x, hx, rfl⟩ := sD_get he
  rw [List.getElem?_map, hr] at hx
  cases hx
  have hm := List.mem_of_getElem? hr
  refine ee_join (xs := cells r) ee_c (ee_call (es_cons (ee_var rfl) es_nil) ⟨_, _, r, rfl, ok.row r hm, ok.nms, nums_row nu hm, rfl⟩) ?_
  have h1 := sum_len (cells_le (ok.row r hm) (nums_row nu hm) ok.nms)
  have h6 : (cells r).length = 6 := rfl
  have e1 : (" " : Str).length = 1 := by decide +kernel
  rw [h6] at h1
  rw [e1, h6]
  omega
end
end Pa
set_option Elab.async false
set_option linter.all false
set_option maxRecDepth 100000
set_option maxHeartbeats 8000000
namespace Pa
open PySem PySem.Spec PyProof.Rows L2 Evl
section
variable {P : Program} {w : World} {K : PySem.W.Frag} {mg : Str → Option Value} {base : Heap}


def rowsOf (p : Party) : List (Str × D) := p.rows.map fun r => (r.nm, r.d)
def gRowsOf : List D → D → Prop := fun ds d => ∃ p : Party, ds = [p.d] ∧ p.rows.length ≤ 100 ∧ (names p).Nodup ∧ d = .dic (rowsOf p)

theorem sc__law_rows_of : FnScope ["_law_party_now", "_law_entry"] ["_law_party_now"] d__law_rows_of.scope := ⟨rfl, rfl, rfl, by decide +kernel, rfl, by decide +kernel, by decide +kernel⟩
theorem ok__law_rows_of (T : Wd K mg base) : C8.Cal P w K mg base (0 + 1) "_law_rows_of" (spD K gRowsOf) [] := by
  refine cal_of T 54 70 (d := d__law_rows_of) rfl rfl rfl rfl rfl sc__law_rows_of (spD_len fun ds d ⟨_, e, _⟩ => by rw [e]; rfl) (fun _ _ _ _ _ _ us hl => match us, hl with | [_], _ => rfl) fun cdv A outer s H vs Q E hr h => ?_
  refine ⟨_, (pss_one (ps_ret (pe_callTy (z_dict (K := K) rfl rfl) (by rfl) T.g_dict (by decide +kernel) (pa_cons (pe_lc (own := [("_law_entry", 1)]) (by rfl) sc__law_rows_of.nd (zi_any (K := K) rfl (pe_ix (z_ix (K := K) rfl) (pv 0) pe_int (fun _ _ => rfl))) (blkOk_by (own := [("_law_entry", 1)]) (N := ["_law_party_now", "_law_entry"]) (sc := d__law_rows_of.scope) (by decide +kernel)) (fun _ _ _ _ _ => (pg_name (i := 1) sc__law_rows_of.nd rfl (by first | exact Or.inl rfl | exact Or.inr rfl))) (fun _ _ _ _ _ => pts_nil) (fun _ _ _ _ _ => (pe_tup (pa_cons (pe_ix (z_ix (K := K) rfl) (pv 1) pe_int (fun _ _ => rfl)) (pa_cons (pv 1) pa_nil))))) pa_nil)))), ?_⟩
  obtain ⟨ds, d, rr, ⟨p, rfl, hl, nd, rfl⟩, q⟩ := h
  refine ro_fun ?_ rr q
  have key : dicOf (rowsOf p) = rowsOf p := dicOf_nodup (by simpa [rowsOf, names, Function.comp_def] using nd)
  refine ro_ret (ee_is (ee_cb (ds := [.lst ((rowsOf p).map fun p => .tup [dS p.1, p.2])]) (es_cons (ee_lcL (wke_t (ee_op (ee_var rfl) ee_c fun _ => rd_ixX (n := 0) rfl rfl)) (by simp; omega) (by simp) (by simp [rowsOf]) ?_ fun i d e hd he => ?_) es_nil) fun _ => rc_dict) (congrArg D.dic key)) (.inr rfl) rfl
  · refine tus_all fun d hd => ?_
    simp only [rowsOf, List.map_map, List.mem_map] at hd
    obtain ⟨r, _, rfl⟩ := hd
    simp [D.tu, D.tus, sD_tus]
  · obtain ⟨r, hr, rfl⟩ := map_get hd
    simp only [rowsOf, List.map_map, List.getElem?_map, hr, Option.map_some, Function.comp_apply, Option.some.injEq] at he
    subst he
    exact ee_tup (es_cons (ee_op (ee_var rfl) ee_c fun _ => rd_ixX (n := 0) rfl rfl) (es_cons (ee_var rfl) es_nil)) (by simp)
end
end Pa
set_option Elab.async false
set_option linter.all false
set_option maxRecDepth 100000
set_option maxHeartbeats 4000000
/-! zip whose tuple may be held by another: next, both ways -/
namespace Pa
open PySem PySem.Spec PyProof.Rows L2 Evl
section
variable {prog : Program} {w : World} {A : Around} {E : Value → Shared → Prop} {s : Shared} {z TI TO i1 i2 : Addr} {fp1 fp2 : List Addr} {n1 n2 i : Nat} {P1 P2 : Nat → Value → Prop} {St1 St2 : Nat → Heap → Prop} {a1 a2 f0 f1 : Value}
theorem wp_alive {a : Addr} {Q : Option Obj → Shared → Prop} (h : Q (s.heap.get? a) s) : wpAny (model prog w) A (loadIfAlive a) Q E s := fun _ _ _ => h
abbrev ZipG (h : Heap) (z TI TO : Addr) (f0 f1 : Value) : Prop := h.get? z = some { cls := .type "zip", dict := none, data := .fields #[f0, f1, .bool false, .ref TI, .ref TO], slots := #[] }
/-- who holds the tuple that was handed out -/
def Zf (f0 : Value) : Prop := f0 = .none ∨ ∃ a : Nat, f0 = rawInt (a : Int)
def Zs (h : Heap) (z TI TO : Addr) : Prop := ∃ f0 f1, Zf f0 ∧ ZipG h z TI TO f0 f1
theorem zip_free (hz : ZipG s.heap z TI TO f0 f1) (hf : Zf f0) {Q : Bool → Shared → Prop} (h1 : Q true s)
    (h2 : ∀ h' f1', ZipG h' z TI TO f0 f1' → Heap.SameBut z s.heap h' → Q false { s with heap := h' }) : wpAny (model prog w) A (Builtin.SmallTypes.ownedTupleIsFree (.ref z)) Q E s := by
  unfold Builtin.SmallTypes.ownedTupleIsFree
  refine wpAny_bind (wpAny_field hz rfl (x := f0) rfl ?_)
  rcases hf with rfl | ⟨a, rfl⟩
  · exact wpAny_pure h1
  · show wpAny _ _ (loadIfAlive _ >>= _) _ _ _
    refine wpAny_bind (wp_alive ?_)
    cases hg : s.heap.get? ((a : Int).toNat) with
    | none => exact wpAny_pure h1
    | some o =>
      show wpAny _ _ (field (.ref z) 1 >>= _) _ _ _
      refine wpAny_bind (wpAny_field hz rfl (x := f1) rfl ?_)
      show wpAny _ _ (if (f1 != Value.bool true) = true then (do setField (.ref z) 1 (.bool true); return false) else return false) _ _ _
      by_cases hb : (f1 != Value.bool true) = true
      · rw [if_pos hb]
        refine wpAny_bind (wpAny_setField_rec hz (by simp) fun g0 hz0 hs0 => wpAny_pure ?_)
        exact h2 g0 (.bool true) hz0 hs0
      · rw [if_neg hb]
        exact wpAny_pure (h2 s.heap f1 hz (Heap.SameBut.refl _ _))
theorem zipG_next_item {Q : Value → Shared → Prop} (S : ZipSep2 z TI TO i1 i2 fp1 fp2) (D1 : Draws prog w A i1 fp1 n1 P1 St1) (D2 : Draws prog w A i2 fp2 n2 P2 St2)
    (hz : ZipG s.heap z TI TO f0 f1) (hf : Zf f0) (hTI : IsTupOf2 s.heap TI (.ref i1) (.ref i2)) (hTO : IsTupOf2 s.heap TO a1 a2) (st1 : St1 i s.heap) (st2 : St2 i s.heap) (hlt1 : i < n1) (hlt2 : i < n2)
    (hQ : ∀ x1 x2 h' tk, P1 i x1 → P2 i x2 → Zs h' z TI TO → (∃ b1 b2, IsTupOf2 h' TO b1 b2) → St1 (i + 1) h' → St2 (i + 1) h' → IsTupOf2 h' s.heap.objs.size x1 x2 → h'.objs.size = s.heap.objs.size + 1 →
      (∀ c o, c ≠ z → c ≠ TO → c ≠ i1 → c ≠ i2 → s.heap.get? c = some o → h'.get? c = some o) → Q (.ref s.heap.objs.size) { s with heap := h', toks := tk }) :
    wpAny (model prog w) A (Builtin.«zip.__next__» ⟨[.ref z], []⟩) (fun fin s' => ∃ v, fin = .done (.ret v) ∧ Q v s') E s := by
  obtain ⟨hp, g, d, tk0, os⟩ := s
  show wpAny _ _ (field (.ref z) 2 >>= _) _ _ _
  refine wpAny_bind (wpAny_field hz rfl (x := .bool false) rfl ?_)
  show wpAny _ _ (field (.ref z) 3 >>= _) _ _ _
  refine wpAny_bind (wpAny_field hz rfl (x := .ref TI) rfl ?_)
  refine wpAny_bind (wpAny_seqItems hTI rfl ?_)
  show wpAny _ _ (Builtin.SmallTypes.ownedTupleIsFree (.ref z) >>= _) _ _ _
  refine wpAny_bind (zip_free hz hf ?_ fun g0 f1' hz0 hs0 => ?_)
  · simp only [if_true]
    refine wpAny_bind (wpAny_rule ?_)
    refine wpAny_bind (wpAny_field hz rfl (x := .ref TO) rfl ?_)
    refine wpAny_bind (wpAny_setField_rec hz (by simp) fun g0 hz0 hs0 => ?_)
    replace hz0 : ZipG g0 z TI TO .ellipsis f1 := hz0
    replace hs0 : Heap.SameBut z hp g0 := hs0
    refine wpAny_bind ?_
    simp only [List.zipIdx_cons, List.zipIdx_nil, List.forIn_cons, List.forIn_nil]
    refine wpAny_bind (wpAny_bind (wpAny_onRaise ?_))
    show wpAny _ _ (Builtin.SmallTypes.nextOf (.ref i1) >>= _) _ _ ⟨g0, g, d, tk0, os⟩
    refine wpAny_bind (D1.item i _ _ _ hlt1 (D1.over st1 hs0 S.zf1) fun x1 p1 tk1 hx1 sn1 hp1 => wpAny_pure ?_)
    replace hp1 : Heap.SameBut i1 g0 p1 := hp1
    have hU1 : IsTupOf2 p1 TO a1 a2 := hp1.extBut _ _ S.Ti1 (hs0.extBut _ _ S.TOz hTO)
    refine wpAny_bind (wpAny_seqItems (s := ⟨p1, g, d, tk1, os⟩) hU1 rfl ?_)
    refine wpAny_bind (updateSeq_IsTupOf2 (s := ⟨p1, g, d, tk1, os⟩) hU1 fun g1 hT1 hs1 => ?_)
    replace hT1 : IsTupOf2 g1 TO x1 a2 := hT1
    replace hs1 : Heap.SameBut TO p1 g1 := hs1
    refine wpAny_bind (wpAny_letGo (wpAny_pure ?_))
    refine wpAny_bind (wpAny_bind (wpAny_onRaise ?_))
    show wpAny _ _ (Builtin.SmallTypes.nextOf (.ref i2) >>= _) _ _ ⟨g1, g, d, tk1, os⟩
    refine wpAny_bind (D2.item i _ _ _ hlt2 (D2.over (D2.over (D2.over st2 hs0 S.zf2) hp1 S.sep1_2) hs1 S.Tf2) fun x2 p2 tk2 hx2 sn2 hp2 => wpAny_pure ?_)
    replace hp2 : Heap.SameBut i2 g1 p2 := hp2
    have hU2 : IsTupOf2 p2 TO x1 a2 := hp2.extBut _ _ S.Ti2 hT1
    refine wpAny_bind (wpAny_seqItems (s := ⟨p2, g, d, tk2, os⟩) hU2 rfl ?_)
    refine wpAny_bind (updateSeq_IsTupOf2 (s := ⟨p2, g, d, tk2, os⟩) hU2 fun g2 hT2 hs2 => ?_)
    replace hT2 : IsTupOf2 g2 TO x1 x2 := hT2
    replace hs2 : Heap.SameBut TO p2 g2 := hs2
    refine wpAny_bind (wpAny_letGo (wpAny_pure (wpAny_pure ?_)))
    refine wpAny_bind (wpAny_seqItems (s := ⟨g2, g, d, tk2, os⟩) hT2 rfl ?_)
    refine wpAny_bind (wpAny_newTuple ?_)
    have hsz : g2.objs.size = hp.objs.size := by rw [hs2.1, hp2.1, hs1.1, hp1.1, hs0.1]
    have hzz : ZipG g2 z TI TO .ellipsis f1 := (hs2.extBut _ _ S.TOz.symm (hp2.extBut _ _ S.zi2 (hs1.extBut _ _ S.TOz.symm (hp1.extBut _ _ S.zi1 hz0))))
    have hkk : ∀ c o, c ≠ z → c ≠ TO → c ≠ i1 → c ≠ i2 → hp.get? c = some o → g2.get? c = some o := fun c o cz cT c1 c2 e =>
      (hs2.extBut _ _ cT (hp2.extBut _ _ c2 (hs1.extBut _ _ cT (hp1.extBut _ _ c1 (hs0.extBut _ _ cz e)))))
    have hj1 : St1 (i + 1) g2 := (D1.over (D1.over (D1.over sn1 hs1 S.Tf1) hp2 S.sep2_1) hs2 S.Tf1)
    have hj2 : St2 (i + 1) g2 := (D2.over sn2 hs2 S.Tf2)
    have hzlt : z < g2.objs.size := Heap.lt_size hzz
    show wpAny _ _ (Builtin.SmallTypes.ownedTupleHandOut (.ref z) (.ref g2.objs.size) >>= _) _ _ ⟨g2.push { cls := .type "tuple", data := .seq #[x1, x2] }, g, d, tk2, os⟩
    refine wpAny_bind ?_
    unfold Builtin.SmallTypes.ownedTupleHandOut
    have hz₆ : ZipG (g2.push { cls := .type "tuple", data := .seq #[x1, x2] }) z TI TO .ellipsis f1 := Heap.get?_push_of_some _ hzz
    refine wpAny_bind (wpAny_setField_rec hz₆ (by simp) fun h₇ hz₇ hs₇ => ?_)
    replace hz₇ : ZipG h₇ z TI TO (rawInt g2.objs.size) f1 := hz₇
    refine wpAny_setField_rec hz₇ (by simp) fun h₈ hz₈ hs₈ => ?_
    replace hz₈ : ZipG h₈ z TI TO (rawInt g2.objs.size) (.bool false) := hz₈
    replace hs₇ : Heap.SameBut z (g2.push { cls := .type "tuple", data := .seq #[x1, x2] }) h₇ := hs₇
    replace hs₈ : Heap.SameBut z h₇ h₈ := hs₈
    have up : ∀ c o, c ≠ z → g2.get? c = some o → h₈.get? c = some o := fun c o c1 e => hs₈.extBut _ _ c1 (hs₇.extBut _ _ c1 (Heap.get?_push_of_some _ e))
    have hT₈ : IsTupOf2 h₈ g2.objs.size x1 x2 := hs₈.extBut _ _ (Nat.ne_of_gt hzlt) (hs₇.extBut _ _ (Nat.ne_of_gt hzlt) (Heap.get?_push_size _ rfl))
    have hz8 : h₈.objs.size = g2.objs.size + 1 := by rw [hs₈.1, hs₇.1, Heap.size_push]
    rw [hsz] at hz₈ hT₈ hz8
    refine wpAny_pure ⟨_, rfl, ?_⟩
    show Q (.ref g2.objs.size) ⟨h₈, g, d, tk2, os⟩
    rw [hsz]
    exact hQ x1 x2 h₈ tk2 hx1 hx2 ⟨_, _, .inr ⟨_, rfl⟩, hz₈⟩ ⟨_, _, up _ _ S.TOz hT2⟩ (D1.frame _ _ _ hj1 fun b hb o e => up b o (fun q => S.zf1 (q ▸ hb)) e) (D2.frame _ _ _ hj2 fun b hb o e => up b o (fun q => S.zf2 (q ▸ hb)) e) hT₈ hz8 fun c o cz cT c1 c2 e => up c o cz (hkk c o cz cT c1 c2 e)
  · replace hs0 : Heap.SameBut z hp g0 := hs0
    simp only [Bool.false_eq_true, if_false]
    refine wpAny_bind ?_
    simp only [List.forIn_toArray, List.forIn_cons, List.forIn_nil]
    refine wpAny_bind (wpAny_bind (wpAny_holding ?_))
    show wpAny _ _ (Builtin.SmallTypes.nextOf (.ref i1) >>= _) _ _ ⟨g0, g, d, tk0, os⟩
    refine wpAny_bind (D1.item i _ _ _ hlt1 (D1.over st1 hs0 S.zf1) fun x1 p1 tk1 hx1 sn1 hp1 => wpAny_pure ?_)
    replace hp1 : Heap.SameBut i1 g0 p1 := hp1
    refine wpAny_pure ?_
    refine wpAny_bind (wpAny_bind (wpAny_holding ?_))
    show wpAny _ _ (Builtin.SmallTypes.nextOf (.ref i2) >>= _) _ _ ⟨p1, g, d, tk1, os⟩
    refine wpAny_bind (D2.item i _ _ _ hlt2 (D2.over (D2.over st2 hs0 S.zf2) hp1 S.sep1_2) fun x2 p2 tk2 hx2 sn2 hp2 => wpAny_pure ?_)
    replace hp2 : Heap.SameBut i2 p1 p2 := hp2
    refine wpAny_pure (wpAny_pure ?_)
    show wpAny _ _ (newTuple [x1, x2] >>= _) _ _ _
    refine wpAny_bind (wpAny_newTuple ?_)
    have hsz : p2.objs.size = hp.objs.size := by rw [hp2.1, hp1.1, hs0.1]
    have hkk : ∀ c o, c ≠ z → c ≠ i1 → c ≠ i2 → hp.get? c = some o → p2.get? c = some o := fun c o cz c1 c2 e =>
      hp2.extBut _ _ c2 (hp1.extBut _ _ c1 (hs0.extBut _ _ cz e))
    have hzz : ZipG p2 z TI TO f0 f1' := hp2.extBut _ _ S.zi2 (hp1.extBut _ _ S.zi1 hz0)
    have hj1 : St1 (i + 1) p2 := D1.over sn1 hp2 S.sep2_1
    have up : ∀ c o, p2.get? c = some o → (p2.push { cls := .type "tuple", data := .seq #[x1, x2] }).get? c = some o := fun c o e => Heap.get?_push_of_some _ e
    refine wpAny_pure ⟨_, rfl, ?_⟩
    show Q (.ref p2.objs.size) ⟨p2.push { cls := .type "tuple", data := .seq #[x1, x2] }, g, d, tk2, os⟩
    have hT : IsTupOf2 (p2.push { cls := .type "tuple", data := .seq #[x1, x2] }) p2.objs.size x1 x2 := Heap.get?_push_size _ rfl
    rw [hsz] at hT ⊢
    exact hQ x1 x2 _ tk2 hx1 hx2 ⟨_, _, hf, up _ _ hzz⟩ ⟨_, _, up _ _ (hkk _ _ S.TOz S.Ti1 S.Ti2 hTO)⟩ (D1.frame _ _ _ hj1 fun b _ o e => up b o e) (D2.frame _ _ _ sn2 fun b _ o e => up b o e) hT (by rw [Heap.size_push, hsz]) fun c o cz _ c1 c2 e => up c o (hkk c o cz c1 c2 e)
theorem zipG_next_end {Q : PySem.Fin → Shared → Prop} (S : ZipSep2 z TI TO i1 i2 fp1 fp2) (D1 : Draws prog w A i1 fp1 n1 P1 St1) (D2 : Draws prog w A i2 fp2 n2 P2 St2)
    (hz : ZipG s.heap z TI TO f0 f1) (hf : Zf f0) (hTI : IsTupOf2 s.heap TI (.ref i1) (.ref i2)) (hTO : IsTupOf2 s.heap TO a1 a2) (st1 : St1 i s.heap) (st2 : St2 i s.heap) (hle1 : i ≤ n1) (hle2 : i ≤ n2) (hend : i = n1 ∨ i = n2)
    (hE : ∀ h' tk e, (∀ c o, c ≠ z → c ≠ TO → c ≠ i1 → c ≠ i2 → s.heap.get? c = some o → h'.get? c = some o) → (∃ o, h'.get? e = some o ∧ o.cls = .type "StopIteration") → E (.ref e) { s with heap := h', toks := tk }) :
    wpAny (model prog w) A (Builtin.«zip.__next__» ⟨[.ref z], []⟩) Q E s := by
  obtain ⟨hp, g, d, tk0, os⟩ := s
  show wpAny _ _ (field (.ref z) 2 >>= _) _ _ _
  refine wpAny_bind (wpAny_field hz rfl (x := .bool false) rfl ?_)
  show wpAny _ _ (field (.ref z) 3 >>= _) _ _ _
  refine wpAny_bind (wpAny_field hz rfl (x := .ref TI) rfl ?_)
  refine wpAny_bind (wpAny_seqItems hTI rfl ?_)
  show wpAny _ _ (Builtin.SmallTypes.ownedTupleIsFree (.ref z) >>= _) _ _ _
  refine wpAny_bind (zip_free hz hf ?_ fun g0 f1' hz0 hs0 => ?_)
  · simp only [if_true]
    refine wpAny_bind (wpAny_rule ?_)
    refine wpAny_bind (wpAny_field hz rfl (x := .ref TO) rfl ?_)
    refine wpAny_bind (wpAny_setField_rec hz (by simp) fun g0 hz0 hs0 => ?_)
    replace hz0 : ZipG g0 z TI TO .ellipsis f1 := hz0
    replace hs0 : Heap.SameBut z hp g0 := hs0
    refine wpAny_bind ?_
    simp only [List.zipIdx_cons, List.zipIdx_nil, List.forIn_cons, List.forIn_nil]
    refine wpAny_bind (wpAny_bind (wpAny_onRaise ?_))
    show wpAny _ _ (Builtin.SmallTypes.nextOf (.ref i1) >>= _) _ _ ⟨g0, g, d, tk0, os⟩
    by_cases hlt1 : i < n1
    · refine wpAny_bind (D1.item i _ _ _ hlt1 (D1.over st1 hs0 S.zf1) fun x1 p1 tk1 hx1 sn1 hp1 => wpAny_pure ?_)
      replace hp1 : Heap.SameBut i1 g0 p1 := hp1
      have hU1 : IsTupOf2 p1 TO a1 a2 := hp1.extBut _ _ S.Ti1 (hs0.extBut _ _ S.TOz hTO)
      refine wpAny_bind (wpAny_seqItems (s := ⟨p1, g, d, tk1, os⟩) hU1 rfl ?_)
      refine wpAny_bind (updateSeq_IsTupOf2 (s := ⟨p1, g, d, tk1, os⟩) hU1 fun g1 hT1 hs1 => ?_)
      replace hT1 : IsTupOf2 g1 TO x1 a2 := hT1
      replace hs1 : Heap.SameBut TO p1 g1 := hs1
      refine wpAny_bind (wpAny_letGo (wpAny_pure ?_))
      have hi2 : i = n2 := by omega
      refine wpAny_bind (wpAny_bind (wpAny_onRaise ?_))
      show wpAny _ _ (Builtin.SmallTypes.nextOf (.ref i2) >>= _) _ _ ⟨g1, g, d, tk1, os⟩
      refine wpAny_bind (D2.done ⟨g1, g, d, tk1, os⟩ _ _ (by rw [← hi2]; exact (D2.over (D2.over (D2.over st2 hs0 S.zf2) hp1 S.sep1_2) hs1 S.Tf2)) fun q e hq he => ?_)
      replace hq : Heap.ExtBut i2 g1 q := hq
      obtain ⟨oe, hoe, hce⟩ := he
      replace hoe : q.get? e = some oe := hoe
      have hzq : ZipG q z TI TO .ellipsis f1 := hq _ _ S.zi2 (hs1.extBut _ _ S.TOz.symm (hp1.extBut _ _ S.zi1 hz0))
      have hez : e ≠ z := fun x => by subst x; rw [hzq] at hoe; cases hoe; simp at hce
      refine wpAny_setField_rec (s := ⟨q, g, d, tk1, os⟩) hzq (by simp) fun q' _ hq' => ?_
      replace hq' : Heap.SameBut z q q' := hq'
      exact hE q' tk1 e (fun c o cz cT c1 c2 x => hq'.extBut _ _ cz (hq _ _ c2 (hs1.extBut _ _ cT (hp1.extBut _ _ c1 (hs0.extBut _ _ cz x))))) ⟨oe, hq'.extBut _ _ hez hoe, hce⟩
    · have hi1 : i = n1 := by omega
      refine wpAny_bind (D1.done ⟨g0, g, d, tk0, os⟩ _ _ (by rw [← hi1]; exact (D1.over st1 hs0 S.zf1)) fun q e hq he => ?_)
      replace hq : Heap.ExtBut i1 g0 q := hq
      obtain ⟨oe, hoe, hce⟩ := he
      replace hoe : q.get? e = some oe := hoe
      have hzq : ZipG q z TI TO .ellipsis f1 := hq _ _ S.zi1 hz0
      have hez : e ≠ z := fun x => by subst x; rw [hzq] at hoe; cases hoe; simp at hce
      refine wpAny_setField_rec (s := ⟨q, g, d, tk0, os⟩) hzq (by simp) fun q' _ hq' => ?_
      replace hq' : Heap.SameBut z q q' := hq'
      exact hE q' tk0 e (fun c o cz cT c1 c2 x => hq'.extBut _ _ cz (hq _ _ c1 (hs0.extBut _ _ cz x))) ⟨oe, hq'.extBut _ _ hez hoe, hce⟩
  · replace hs0 : Heap.SameBut z hp g0 := hs0
    simp only [Bool.false_eq_true, if_false]
    refine wpAny_bind ?_
    simp only [List.forIn_toArray, List.forIn_cons, List.forIn_nil]
    refine wpAny_bind (wpAny_bind (wpAny_holding ?_))
    show wpAny _ _ (Builtin.SmallTypes.nextOf (.ref i1) >>= _) _ _ ⟨g0, g, d, tk0, os⟩
    by_cases hlt1 : i < n1
    · refine wpAny_bind (D1.item i _ _ _ hlt1 (D1.over st1 hs0 S.zf1) fun x1 p1 tk1 hx1 sn1 hp1 => wpAny_pure ?_)
      replace hp1 : Heap.SameBut i1 g0 p1 := hp1
      refine wpAny_pure ?_
      have hi2 : i = n2 := by omega
      refine wpAny_bind (wpAny_bind (wpAny_holding ?_))
      show wpAny _ _ (Builtin.SmallTypes.nextOf (.ref i2) >>= _) _ _ ⟨p1, g, d, tk1, os⟩
      refine wpAny_bind (D2.done ⟨p1, g, d, tk1, os⟩ _ _ (by rw [← hi2]; exact (D2.over (D2.over st2 hs0 S.zf2) hp1 S.sep1_2)) fun q e hq he => ?_)
      replace hq : Heap.ExtBut i2 p1 q := hq
      exact hE q tk1 e (fun c o cz cT c1 c2 x => hq _ _ c2 (hp1.extBut _ _ c1 (hs0.extBut _ _ cz x))) he
    · have hi1 : i = n1 := by omega
      refine wpAny_bind (D1.done ⟨g0, g, d, tk0, os⟩ _ _ (by rw [← hi1]; exact (D1.over st1 hs0 S.zf1)) fun q e hq he => ?_)
      replace hq : Heap.ExtBut i1 g0 q := hq
      exact hE q tk0 e (fun c o cz cT c1 c2 x => hq _ _ c1 (hs0.extBut _ _ cz x)) he
end
end Pa
set_option Elab.async false
set_option linter.all false
set_option maxRecDepth 100000
set_option maxHeartbeats 4000000
/-! enumerate over a zip -/
namespace Pa
open PySem PySem.Spec PyProof.Rows L2 Evl
section
variable {prog : Program} {w : World} {A : Around} {E : Value → Shared → Prop} {s : Shared} {e z TI TO i1 i2 : Addr} {fp1 fp2 : List Addr} {n1 n2 i : Nat} {P1 P2 : Nat → Value → Prop} {St1 St2 : Nat → Heap → Prop} {f0 f1 old : Value} {c : Int}
/-- the zip's own state -/
structure ZSt (h : Heap) (z TI TO i1 i2 : Addr) : Prop where
  z : Zs h z TI TO
  ti : IsTupOf2 h TI (.ref i1) (.ref i2)
  to : ∃ a b, IsTupOf2 h TO a b
theorem ZSt.keep {h h' : Heap} (st : ZSt h z TI TO i1 i2) (k : ∀ b ∈ [z, TI, TO], ∀ o, h.get? b = some o → h'.get? b = some o) : ZSt h' z TI TO i1 i2 :=
  let ⟨⟨f0, f1, hf, hz⟩, hi, ⟨a, b, ho⟩⟩ := st; ⟨⟨f0, f1, hf, k z (by simp) _ hz⟩, k TI (by simp) _ hi, ⟨a, b, k TO (by simp) _ ho⟩⟩
theorem nextOf_zip_item {Q : Value → Shared → Prop} (S : ZipSep2 z TI TO i1 i2 fp1 fp2) (D1 : Draws prog w A.in1 i1 fp1 n1 P1 St1) (D2 : Draws prog w A.in1 i2 fp2 n2 P2 St2)
    (hz : ZSt s.heap z TI TO i1 i2) (st1 : St1 i s.heap) (st2 : St2 i s.heap) (hlt1 : i < n1) (hlt2 : i < n2)
    (hQ : ∀ x1 x2 h' tk, P1 i x1 → P2 i x2 → ZSt h' z TI TO i1 i2 → St1 (i + 1) h' → St2 (i + 1) h' → IsTupOf2 h' s.heap.objs.size x1 x2 → h'.objs.size = s.heap.objs.size + 1 →
      (∀ c o, c ≠ z → c ≠ TO → c ≠ i1 → c ≠ i2 → s.heap.get? c = some o → h'.get? c = some o) → Q (.ref s.heap.objs.size) { s with heap := h', toks := tk }) :
    wpAny (model prog w) A (Builtin.SmallTypes.nextOf (.ref z)) Q E s := by
  obtain ⟨⟨f0, f1, hf, hz⟩, hTI, ⟨a1, a2, hTO⟩⟩ := hz
  have hT : s.TypeIs (.ref z) "zip" := ⟨_, hz, rfl⟩
  unfold Builtin.SmallTypes.nextOf
  refine wpAny_bind (wpAny_callSpecial?_slot (name := Str.ofString "__next__") hT F.slot_zip_next
    (wpAny_call_entry F.slot_zip_next hT F.entry_zip_next
      (zipG_next_item S D1 D2 hz hf hTI hTO st1 st2 hlt1 hlt2 fun x1 x2 h' tk y1 y2 b1 b2 d1 d2 b5 b6 b7 => wpAny_pure (hQ x1 x2 h' tk y1 y2 ⟨b1, b7 _ _ S.TIz S.TITO S.TIi1 S.TIi2 hTI, b2⟩ d1 d2 b5 b6 b7)) (F.args_zip_next_1 _)))
theorem nextOf_zip_end {Q : Value → Shared → Prop} (S : ZipSep2 z TI TO i1 i2 fp1 fp2) (D1 : Draws prog w A.in1 i1 fp1 n1 P1 St1) (D2 : Draws prog w A.in1 i2 fp2 n2 P2 St2)
    (hz : ZSt s.heap z TI TO i1 i2) (st1 : St1 i s.heap) (st2 : St2 i s.heap) (hle1 : i ≤ n1) (hle2 : i ≤ n2) (hend : i = n1 ∨ i = n2)
    (hE : ∀ h' tk e, (∀ c o, c ≠ z → c ≠ TO → c ≠ i1 → c ≠ i2 → s.heap.get? c = some o → h'.get? c = some o) → (∃ o, h'.get? e = some o ∧ o.cls = .type "StopIteration") → E (.ref e) { s with heap := h', toks := tk }) :
    wpAny (model prog w) A (Builtin.SmallTypes.nextOf (.ref z)) Q E s := by
  obtain ⟨⟨f0, f1, hf, hz⟩, hTI, ⟨a1, a2, hTO⟩⟩ := hz
  have hT : s.TypeIs (.ref z) "zip" := ⟨_, hz, rfl⟩
  unfold Builtin.SmallTypes.nextOf
  exact wpAny_bind (wpAny_callSpecial?_slot (name := Str.ofString "__next__") hT F.slot_zip_next
    (wpAny_call_entry F.slot_zip_next hT F.entry_zip_next (zipG_next_end S D1 D2 hz hf hTI hTO st1 st2 hle1 hle2 hend hE) (F.args_zip_next_1 _)))
theorem enumZ_next_item {Q : Value → Shared → Prop} (S : ZipSep2 z TI TO i1 i2 fp1 fp2) (D1 : Draws prog w A.in1 i1 fp1 n1 P1 St1) (D2 : Draws prog w A.in1 i2 fp2 n2 P2 St2)
    (he : IsEnum s.heap e z c old) (hz : ZSt s.heap z TI TO i1 i2) (st1 : St1 i s.heap) (st2 : St2 i s.heap) (hlt1 : i < n1) (hlt2 : i < n2)
    (hez : e ≠ z) (heI : e ≠ TI) (heO : e ≠ TO) (he1 : e ∉ fp1) (he2 : e ∉ fp2)
    (hQ : ∀ x1 x2 h' tk, P1 i x1 → P2 i x2 → IsEnumOut h' e z (c + 1) (.ref s.heap.objs.size) (s.heap.objs.size + 1) → ZSt h' z TI TO i1 i2 → St1 (i + 1) h' → St2 (i + 1) h' → IsTupOf2 h' s.heap.objs.size x1 x2 →
      h'.get? (s.heap.objs.size + 1) = some { cls := .type "tuple", data := .seq #[.int c tk, .ref s.heap.objs.size] } → h'.objs.size = s.heap.objs.size + 2 →
      (∀ b o, b ≠ e → b ≠ z → b ≠ TO → b ≠ i1 → b ≠ i2 → s.heap.get? b = some o → h'.get? b = some o) → Q (.ref (s.heap.objs.size + 1)) { s with heap := h', toks := tk + 1 }) :
    wpAny (model prog w) A (Builtin.«enumerate.__next__» ⟨[.ref e], []⟩) (fun fin s' => ∃ v, fin = .done (.ret v) ∧ Q v s') E s := by
  obtain ⟨hp, g, d, tk₀, os⟩ := s
  show wpAny _ _ (field (.ref e) 2 >>= _) _ _ _
  refine wpAny_bind (wpAny_field he rfl (x := .ref z) rfl ?_)
  refine wpAny_bind (nextOf_zip_item S D1 D2 hz st1 st2 hlt1 hlt2 fun x1 x2 h₁ tk p1 p2 z1 s1 s2 t1 sz1 k1 => ?_)
  have hei1 : e ≠ i1 := fun q => he1 (q ▸ S.mem1)
  have hei2 : e ≠ i2 := fun q => he2 (q ▸ S.mem2)
  replace t1 : IsTupOf2 h₁ hp.objs.size x1 x2 := t1
  replace sz1 : h₁.objs.size = hp.objs.size + 1 := sz1
  replace k1 : ∀ c o, c ≠ z → c ≠ TO → c ≠ i1 → c ≠ i2 → hp.get? c = some o → h₁.get? c = some o := k1
  show wpAny _ _ _ _ _ ⟨h₁, g, d, tk, os⟩
  have he₁ : IsEnum h₁ e z c old := k1 _ _ hez heO hei1 hei2 he
  show wpAny _ _ (field (.ref e) 3 >>= _) _ _ ⟨h₁, g, d, tk, os⟩
  refine wpAny_bind (wpAny_field he₁ rfl (x := rawInt c) rfl ?_)
  show wpAny _ _ (field (.ref e) 4 >>= _) _ _ ⟨h₁, g, d, tk, os⟩
  refine wpAny_bind (wpAny_field he₁ rfl (x := .none) rfl ?_)
  show wpAny _ _ (mkInt c >>= _) _ _ ⟨h₁, g, d, tk, os⟩
  refine wpAny_bind (wpAny_mkInt ?_)
  show wpAny _ _ (setField (.ref e) 3 (rawInt (c + 1)) >>= _) _ _ ⟨h₁, g, d, tk + 1, os⟩
  refine wpAny_bind (wpAny_setField_rec he₁ (by simp) fun h₂ he₂ hs₂ => ?_)
  replace hs₂ : Heap.SameBut e h₁ h₂ := hs₂
  replace he₂ : IsEnum h₂ e z (c + 1) old := he₂
  show wpAny _ _ (setField (.ref e) 4 .none >>= _) _ _ ⟨h₂, g, d, tk + 1, os⟩
  refine wpAny_bind (wpAny_setField_rec he₂ (by simp) fun h₃ he₃ hs₃ => ?_)
  replace hs₃ : Heap.SameBut e h₂ h₃ := hs₃
  replace he₃ : IsEnum h₃ e z (c + 1) old := he₃
  show wpAny _ _ (newTuple [.int c tk, .ref hp.objs.size] >>= _) _ _ ⟨h₃, g, d, tk + 1, os⟩
  refine wpAny_bind (wpAny_newTuple ?_)
  have he₄ : IsEnum (h₃.push { cls := .type "tuple", data := .seq #[.int c tk, .ref hp.objs.size] }) e z (c + 1) old := Heap.get?_push_of_some _ he₃
  generalize hh₄ : h₃.push { cls := .type "tuple", data := .seq #[.int c tk, .ref hp.objs.size] } = h₄ at he₄
  have hsz : h₃.objs.size = hp.objs.size + 1 := by rw [hs₃.1, hs₂.1, sz1]
  have hel : e < hp.objs.size := Heap.lt_size he
  have ht₄ : h₄.get? (hp.objs.size + 1) = some { cls := .type "tuple", data := .seq #[.int c tk, .ref hp.objs.size] } := by rw [← hh₄, ← hsz]; exact Heap.get?_push_size _ rfl
  have hz₄ : h₄.objs.size = hp.objs.size + 2 := by rw [← hh₄, Heap.size_push, hsz]
  have k4 : ∀ b o, b ≠ e → h₁.get? b = some o → h₄.get? b = some o := fun b o hbe hb => by
    rw [← hh₄]; exact Heap.get?_push_of_some _ (hs₃.extBut b o hbe (hs₂.extBut b o hbe hb))
  show wpAny _ _ (Builtin.SmallTypes.ownedTupleIsFree (.ref e) >>= _) _ _ ⟨h₄, g, d, tk + 1, os⟩
  rw [hsz]
  refine wpAny_bind ?_
  · unfold Builtin.SmallTypes.ownedTupleIsFree
    refine wpAny_bind (wpAny_field he₄ rfl (x := .none) rfl (wpAny_pure ?_))
    simp only [if_true]
    refine wpAny_bind (wpAny_rule ?_)
    refine wpAny_bind (wpAny_field he₄ rfl (x := old) rfl ?_)
    refine wpAny_bind (wpAny_setField_rec he₄ (by simp) fun h₅ he₅ hs₅ => ?_)
    replace hs₅ : Heap.SameBut e h₄ h₅ := hs₅
    replace he₅ : IsEnum h₅ e z (c + 1) (.ref hp.objs.size) := he₅
    show wpAny _ _ (Builtin.SmallTypes.ownedTupleHandOut (.ref e) (.ref (hp.objs.size + 1)) >>= _) _ _ ⟨h₅, g, d, tk + 1, os⟩
    refine wpAny_bind ?_
    · unfold Builtin.SmallTypes.ownedTupleHandOut
      refine wpAny_bind (wpAny_setField_rec he₅ (by simp) fun h₆ he₆ hs₆ => ?_)
      replace hs₆ : Heap.SameBut e h₅ h₆ := hs₆
      replace he₆ : IsEnumOut h₆ e z (c + 1) (.ref hp.objs.size) (hp.objs.size + 1) := he₆
      refine wpAny_setField_rec he₆ (by simp) fun h₇ he₇ hs₇ => ?_
      replace hs₇ : Heap.SameBut e h₆ h₇ := hs₇
      replace he₇ : IsEnumOut h₇ e z (c + 1) (.ref hp.objs.size) (hp.objs.size + 1) := he₇
      have k7 : ∀ b o, b ≠ e → h₁.get? b = some o → h₇.get? b = some o := fun b o hb q => hs₇.extBut b o hb (hs₆.extBut b o hb (hs₅.extBut b o hb (k4 b o hb q)))
      refine wpAny_bind (wpAny_letGo (wpAny_pure ⟨_, rfl, hQ x1 x2 h₇ tk p1 p2 he₇ (z1.keep fun b hb o q => k7 b o ?_ q) ?_ ?_ (k7 _ _ (Nat.ne_of_gt hel) t1) ?_ ?_ ?_⟩))
      · have : b = z ∨ b = TI ∨ b = TO := by simpa using hb
        rcases this with rfl | rfl | rfl
        · exact hez.symm
        · exact heI.symm
        · exact heO.symm
      · exact D1.frame _ _ _ s1 fun b hb o y => k7 b o (fun q => he1 (q ▸ hb)) y
      · exact D2.frame _ _ _ s2 fun b hb o y => k7 b o (fun q => he2 (q ▸ hb)) y
      · exact hs₇.extBut _ _ (Nat.ne_of_gt (Nat.lt_succ_of_lt hel)) (hs₆.extBut _ _ (Nat.ne_of_gt (Nat.lt_succ_of_lt hel)) (hs₅.extBut _ _ (Nat.ne_of_gt (Nat.lt_succ_of_lt hel)) ht₄))
      · rw [hs₇.1, hs₆.1, hs₅.1, hz₄]
      · exact fun b o hbe hbz hbo hb1 hb2 hb => k7 b o hbe (k1 b o hbz hbo hb1 hb2 hb)
theorem pyNext_enumZ_item {Q : Option Value → Shared → Prop} (S : ZipSep2 z TI TO i1 i2 fp1 fp2) (D1 : Draws prog w A.in1.in1 i1 fp1 n1 P1 St1) (D2 : Draws prog w A.in1.in1 i2 fp2 n2 P2 St2)
    (he : IsEnum s.heap e z c old) (hz : ZSt s.heap z TI TO i1 i2) (st1 : St1 i s.heap) (st2 : St2 i s.heap) (hlt1 : i < n1) (hlt2 : i < n2)
    (hez : e ≠ z) (heI : e ≠ TI) (heO : e ≠ TO) (he1 : e ∉ fp1) (he2 : e ∉ fp2)
    (hQ : ∀ x1 x2 h' tk, P1 i x1 → P2 i x2 → IsEnumOut h' e z (c + 1) (.ref s.heap.objs.size) (s.heap.objs.size + 1) → ZSt h' z TI TO i1 i2 → St1 (i + 1) h' → St2 (i + 1) h' → IsTupOf2 h' s.heap.objs.size x1 x2 →
      h'.get? (s.heap.objs.size + 1) = some { cls := .type "tuple", data := .seq #[.int c tk, .ref s.heap.objs.size] } → h'.objs.size = s.heap.objs.size + 2 →
      (∀ b o, b ≠ e → b ≠ z → b ≠ TO → b ≠ i1 → b ≠ i2 → s.heap.get? b = some o → h'.get? b = some o) → Q (some (.ref (s.heap.objs.size + 1))) { s with heap := h', toks := tk + 1 }) :
    wpAny (model prog w) A (pyNext (.ref e)) Q E s := by
  have hT : s.TypeIs (.ref e) "enumerate" := ⟨_, he, rfl⟩
  unfold pyNext
  exact wpAny_bind (wpAny_attempt (wpAny_callSpecial?_slot (name := Str.ofString "__next__") hT F.slot_enumerate_next
    (wpAny_call_entry F.slot_enumerate_next hT F.entry_enumerate_next
      (enumZ_next_item S D1 D2 he hz st1 st2 hlt1 hlt2 hez heI heO he1 he2 fun x1 x2 h' tk a1 a2 a3 a4 a5 a6 a7 a8 a9 a10 => wpAny_pure (hQ x1 x2 h' tk a1 a2 a3 a4 a5 a6 a7 a8 a9 a10)) (F.args_enumerate_next_1 _))))
theorem pyNext_enumZ_end {Q : Option Value → Shared → Prop} (S : ZipSep2 z TI TO i1 i2 fp1 fp2) (D1 : Draws prog w A.in1.in1 i1 fp1 n1 P1 St1) (D2 : Draws prog w A.in1.in1 i2 fp2 n2 P2 St2)
    (he : IsEnum s.heap e z c old) (hz : ZSt s.heap z TI TO i1 i2) (st1 : St1 i s.heap) (st2 : St2 i s.heap) (hle1 : i ≤ n1) (hle2 : i ≤ n2) (hend : i = n1 ∨ i = n2)
    (hQ : ∀ h' tk, (∀ c o, c ≠ z → c ≠ TO → c ≠ i1 → c ≠ i2 → s.heap.get? c = some o → h'.get? c = some o) → Q none { s with heap := h', toks := tk }) : wpAny (model prog w) A (pyNext (.ref e)) Q E s := by
  have hT : s.TypeIs (.ref e) "enumerate" := ⟨_, he, rfl⟩
  unfold pyNext
  refine wpAny_bind (wpAny_attempt (wpAny_callSpecial?_slot (name := Str.ofString "__next__") hT F.slot_enumerate_next
    (wpAny_call_entry F.slot_enumerate_next hT F.entry_enumerate_next ?_ (F.args_enumerate_next_1 _))))
  show wpAny _ _ (field (.ref e) 2 >>= _) _ _ _
  refine wpAny_bind (wpAny_field he rfl (x := .ref z) rfl ?_)
  refine wpAny_bind (nextOf_zip_end S D1 D2 hz st1 st2 hle1 hle2 hend fun h' tk x k hx => ?_)
  obtain ⟨o, ho, hc⟩ := hx
  refine wpAny_bind (wpAny_isInstance (T := "StopIteration") (b := true) ⟨o, ho, hc⟩ isSubtype_stop ?_)
  exact wpAny_pure (hQ _ _ k)
end
end Pa
set_option Elab.async false
set_option linter.all false
set_option maxRecDepth 100000
set_option maxHeartbeats 4000000
/-! for i, (a, b) in enumerate(zip(x, y)) -/
namespace Pa
open PySem PySem.Spec PyProof.Rows L2 Evl
def ItEZ (g1 g2 : Nat → Hp → Prop) (v1 v2 : Nat → Hp → V → Prop) (s1 s2 : Nat → Hp → Prop) : It :=
  ⟨fun i H => g1 i H ∧ g2 i H, fun i H v H' => ∃ T T2 x y, v = .ref T2 ∧ H T = none ∧ upd H T (.tup [x, y]) T2 = none ∧ H' = upd (upd H T (.tup [x, y])) T2 (.tup [.int (i : Nat), .ref T]) ∧ v1 i H x ∧ v2 i H y, fun i H => (s1 i H ∧ (g2 i H ∨ s2 i H)) ∨ (g1 i H ∧ s2 i H)⟩
section
variable {P : Program} {w : World} {K : PySem.W.Frag} {elts : List Expr} {kk : Nat} {tpos : Pos} {a b i1 i2 e z TI TO : Addr} {t1 t2 : Nat → Heap → Prop} {g1 g2 : Nat → Hp → Prop} {v1 v2 : Nat → Hp → V → Prop} {p1 p2 : Nat → Hp → Prop}
theorem fpok_upd {X : Cx} {pins : List (Addr × Obj)} {H : Hp} {T c : Addr} {o : HO} (h : FpOk X pins H c) (hne : c ≠ T) : FpOk X pins (upd H T o) c := by
  obtain ⟨h1, h2⟩ := h
  exact ⟨by rw [upd_ne hne]; exact h1, h2⟩
theorem turn_enumZ (D1 : Drw P w K a i1 t1 g1 v1 p1) (D2 : Drw P w K b i2 t2 g2 v2 p2) (S : ZipSep2 z TI TO i1 i2 [i1, a] [i2, b]) (hai : a ≠ i1) (hbi : b ≠ i2)
    (hez : e ≠ z) (heI : e ≠ TI) (heO : e ≠ TO) (he1 : e ∉ [i1, a]) (he2 : e ∉ [i2, b]) :
    Turn P w K (.Tuple elts kk tpos) (ItEZ g1 g2 v1 v2 p1 p2) [e, z, TI, TO, i1, i2] e (fun i h => (∃ old, IsEnum h e z ((i : Nat) : Int) old) ∧ ZSt h z TI TO i1 i2 ∧ t1 i h ∧ t2 i h) where
  mem := by simp
  obj := fun i h st c hc => by
    obtain ⟨⟨old, he⟩, ⟨⟨f0, f1, hf, hz⟩, hTI, ⟨x, y, hTO⟩⟩, h1, h2⟩ := st
    have e' : c = e ∨ c = z ∨ c = TI ∨ c = TO ∨ c = i1 ∨ c = i2 := by simpa using hc
    rcases e' with q | q | q | q | q | q
    · rw [q]; exact ⟨_, he, fun v q => nomatch q⟩
    · rw [q]; exact ⟨_, hz, fun v q => nomatch q⟩
    · rw [q]; exact ⟨_, hTI, fun v q => nomatch q⟩
    · rw [q]; exact ⟨_, hTO, fun v q => nomatch q⟩
    · rw [q]; exact D1.obj i h h1
    · rw [q]; exact D2.obj i h h2
  keep := fun i h h' st k => by
    obtain ⟨⟨old, he⟩, hz, h1, h2⟩ := st
    have kz : ∀ c ∈ [z, TI, TO], ∀ o, h.get? c = some o → h'.get? c = some o := fun c hc o q => by
      have q' : c = z ∨ c = TI ∨ c = TO := by simpa using hc
      refine k c ?_ o q
      rcases q' with q' | q' | q' <;> simp [q']
    exact ⟨⟨old, k e (by simp) _ he⟩, hz.keep kz, D1.keep _ _ _ h1 fun o q => k i1 (by simp) o q, D2.keep _ _ _ h2 fun o q => k i2 (by simp) o q⟩
  item := by
    intro X hP hw hK hc i pins s σ H E I hf st hg
    obtain ⟨⟨old, he⟩, hz, h1, h2⟩ := st
    obtain ⟨n1, P1, S1, Dr1, s1, l1, hv1, hn1⟩ := D1.draw X hP hw hK hc X.A.in1.in1 i pins s σ H (I.ok.hd hc) I hai h1 hg.1
    obtain ⟨n2, P2, S2, Dr2, s2, l2, hv2, hn2⟩ := D2.draw X hP hw hK hc X.A.in1.in1 i pins s σ H (I.ok.hd hc) I hbi h2 hg.2
    subst hP hw hK
    have hel : e < s.heap.objs.size := Heap.lt_size he
    have hlt : ∀ c ∈ [e, z, TI, TO, i1, i2], c < s.heap.objs.size := fun c hcm => by
      obtain ⟨⟨f0, f1, hf, hz⟩, hTI, ⟨x, y, hTO⟩⟩ := hz
      have e' : c = e ∨ c = z ∨ c = TI ∨ c = TO ∨ c = i1 ∨ c = i2 := by simpa using hcm
      rcases e' with q | q | q | q | q | q
      · rw [q]; exact hel
      · rw [q]; exact Heap.lt_size hz
      · rw [q]; exact Heap.lt_size hTI
      · rw [q]; exact Heap.lt_size hTO
      · rw [q]; obtain ⟨_, e1, _⟩ := D1.obj _ _ h1; exact Heap.lt_size e1
      · rw [q]; obtain ⟨_, e2, _⟩ := D2.obj _ _ h2; exact Heap.lt_size e2
    refine pyNext_enumZ_item S Dr1 Dr2 he hz s1 s2 l1 l2 hez heI heO he1 he2 fun u1 u2 h' tk y1 y2 eo z' s1' s2' hT hT2 hsz hk => ?_
    obtain ⟨x, ru, vx⟩ := hv1 u1 y1
    obtain ⟨y, ru2, vy⟩ := hv2 u2 y2
    refine ⟨_, rfl, wpAny_letOwnedTupleGo_enum (s := { s with heap := h', toks := tk + 1 }) eo fun h'' he' sb => ?_⟩
    replace sb : Heap.SameBut e h' h'' := sb
    have hTT : h''.get? s.heap.objs.size = some { cls := .type "tuple", data := .seq #[u1, u2] } := (sb.2 _ (Nat.ne_of_gt hel)).trans hT
    have hTT2 : h''.get? (s.heap.objs.size + 1) = some { cls := .type "tuple", data := .seq #[.int (i : Int) tk, .ref s.heap.objs.size] } := (sb.2 _ (Nat.ne_of_gt (Nat.lt_succ_of_lt hel))).trans hT2
    have I1 : Inv X pins σ (upd H s.heap.objs.size (.tup [x, y])) { s with heap := s.heap.push { cls := .type "tuple", data := .seq #[u1, u2] } } :=
      I.laid (t' := s.toks) (fun b u q => Heap.get?_push_of_some _ q) (Nat.le_refl _) ⟨by show 2 ≤ sizeLine; decide, [u1, u2], .cons ru (.cons ru2 .nil), ⟨_, Heap.get?_push_size _ rfl, rfl, _, rfl⟩⟩
    have hne1 : ∀ c ∈ [e, z, TI, TO, i1, i2], c ≠ s.heap.objs.size := fun c hc => Nat.ne_of_lt (hlt c hc)
    have new2 : ObjOk X.prog X.w (upd (upd H s.heap.objs.size (.tup [x, y])) (s.heap.objs.size + 1) (.tup [.int (i : Nat), .ref s.heap.objs.size])) h'' (s.heap.objs.size + 1) (.tup [.int (i : Nat), .ref s.heap.objs.size]) :=
      ⟨by show 2 ≤ sizeLine; decide, [.int i tk, .ref s.heap.objs.size], .cons ⟨_, rfl⟩ (.cons rfl .nil), ⟨_, hTT2, rfl, _, rfl⟩⟩
    have I2 := I1.turnedNew (h' := h'') (t' := tk + 1) (ch := [e, z, TI, TO, i1, i2]) (fun c o hb q => by
      by_cases hcn : c = s.heap.objs.size
      · subst hcn
        rw [Heap.get?_push_size _ rfl] at q
        cases q
        exact hTT
      · have q' : s.heap.get? c = some o := by
          rcases Heap.get?_push_cases q with z | z
          · exact absurd z.1 hcn
          · exact z
        simp at hb
        exact (sb.2 c hb.1).trans (hk c o hb.1 hb.2.1 hb.2.2.2.1 hb.2.2.2.2.1 hb.2.2.2.2.2 q')) (fun c hc => fpok_upd (hf c hc) (hne1 c hc)) (by show (s.heap.push _).objs.size ≤ _; rw [Heap.size_push]; exact Nat.le_refl _) new2
    have fr1 : H s.heap.objs.size = none := I.hok.fresh (Nat.le_refl _)
    have fr2 : H (s.heap.objs.size + 1) = none := I.hok.fresh (Nat.le_succ _)
    refine ⟨.ref (s.heap.objs.size + 1), _, I2, rfl, ⟨_, _, x, y, rfl, fr1, ?_, rfl, vx, vy⟩, ⟨⟨.ref s.heap.objs.size, ?_⟩, z'.keep fun c hcm o q => ?_, ?_, ?_⟩, fun c hcm => ?_⟩
    · rw [upd_ne (Nat.succ_ne_self _)]
      exact fr2
    · have e1 : ((i + 1 : Nat) : Int) = (i : Int) + 1 := by omega
      rw [e1]; exact he'
    · have : c = z ∨ c = TI ∨ c = TO := by simpa using hcm
      refine (sb.2 c ?_).trans q
      rcases this with rfl | rfl | rfl
      · exact hez.symm
      · exact heI.symm
      · exact heO.symm
    · exact D1.keep _ _ _ (hn1 _ s1') fun o q => (sb.2 _ (fun q => he1 (by simp [q]))).trans q
    · exact D2.keep _ _ _ (hn2 _ s2') fun o q => (sb.2 _ (fun q => he2 (by simp [q]))).trans q
    · rw [upd_ne (Nat.ne_of_lt (Nat.lt_succ_of_lt (hlt c hcm))), upd_ne (hne1 c hcm)]
      exact (hf c hcm).1
  done := by
    intro X hP hw hK hc i pins s σ H E I hf st hg
    obtain ⟨⟨old, he⟩, hz, h1, h2⟩ := st
    have ends : ∃ (n1 n2 : Nat) (P1 P2 : Nat → Value → Prop) (S1 S2 : Nat → Heap → Prop), Draws P w X.A.in1.in1 i1 [i1, a] n1 P1 S1 ∧ Draws P w X.A.in1.in1 i2 [i2, b] n2 P2 S2 ∧ S1 i s.heap ∧ S2 i s.heap ∧ i ≤ n1 ∧ i ≤ n2 ∧ (i = n1 ∨ i = n2) := by
      rcases hg with ⟨q1, q2⟩ | ⟨q1, q2⟩
      · obtain ⟨P1, S1, Dr1, s1⟩ := D1.fin X hP hw hK hc X.A.in1.in1 i pins s σ H (I.ok.hd hc) I hai h1 q1
        rcases q2 with q2 | q2
        · obtain ⟨n2, P2, S2, Dr2, s2, l2, _, _⟩ := D2.draw X hP hw hK hc X.A.in1.in1 i pins s σ H (I.ok.hd hc) I hbi h2 q2
          exact ⟨i, n2, P1, P2, S1, S2, Dr1, Dr2, s1, s2, Nat.le_refl _, Nat.le_of_lt l2, .inl rfl⟩
        · obtain ⟨P2, S2, Dr2, s2⟩ := D2.fin X hP hw hK hc X.A.in1.in1 i pins s σ H (I.ok.hd hc) I hbi h2 q2
          exact ⟨i, i, P1, P2, S1, S2, Dr1, Dr2, s1, s2, Nat.le_refl _, Nat.le_refl _, .inl rfl⟩
      · obtain ⟨n1, P1, S1, Dr1, s1, l1, _, _⟩ := D1.draw X hP hw hK hc X.A.in1.in1 i pins s σ H (I.ok.hd hc) I hai h1 q1
        obtain ⟨P2, S2, Dr2, s2⟩ := D2.fin X hP hw hK hc X.A.in1.in1 i pins s σ H (I.ok.hd hc) I hbi h2 q2
        exact ⟨n1, i, P1, P2, S1, S2, Dr1, Dr2, s1, s2, Nat.le_of_lt l1, Nat.le_refl _, .inr rfl⟩
    obtain ⟨n1, n2, P1, P2, S1, S2, Dr1, Dr2, s1, s2, l1, l2, le⟩ := ends
    subst hP hw hK
    exact pyNext_enumZ_end S Dr1 Dr2 he hz s1 s2 l1 l2 le fun h' tk hk => ⟨rfl, I.turnedL (t' := tk) (ch := [e, z, TI, TO, i1, i2]) (fun c o hb q =>
      hk c o (fun q' => hb (by simp [q'])) (fun q' => hb (by simp [q'])) (fun q' => hb (by simp [q'])) (fun q' => hb (by simp [q'])) q) hf⟩
  self := fun A i s Q E st h => let ⟨⟨_, he⟩, _⟩ := st; wpAny_pyIter_enum he h
end
end Pa
set_option Elab.async false
set_option linter.all false
set_option maxRecDepth 100000
set_option maxHeartbeats 4000000
namespace Pa
open PySem PySem.Spec PyProof.Rows L2 Evl
open AutoSeq1 (wpAny_loadPart')
/-- enumerate(z): z is its own iterator -/
theorem meets_enumerate_self {v : Value} {H : Heap → Prop} (B : ∀ (prog : Program) (w : World) (A : Around) (E : Value → Shared → Prop) (s : Shared) (Q : Value → Shared → Prop), H s.heap → Q v s → wpAny (model prog w) A (pyIter v) Q E s) :
    Meets (Builtin.«enumerate.__new__» ⟨[.type "enumerate", v], []⟩) (fun _ R s => H s.heap ∧
      R (.ok (.ret (.ref s.heap.objs.size))) { s with heap := s.heap.push { cls := .type "enumerate", data := .fields #[.none, .bool false, v, rawInt 0, .none, .none] } }) :=
  .of_wp fun prog w A R s h => by
    obtain ⟨hp, g, d, tk, os⟩ := s; obtain ⟨h1, h⟩ := h
    have hsub := sub_enumerate
    have q1 : ∀ {A' : Around} {E : Value → Shared → Prop} {Q : Value → Shared → Prop}, Q v ⟨hp, g, d, tk, os⟩ → wpAny (model prog w) A' (pyIter v) Q E ⟨hp, g, d, tk, os⟩ :=
      fun q => B prog w _ _ ⟨hp, g, d, tk, os⟩ _ h1 q
    wp_walk using q1
    refine wpAny_stack_any fun st => wpAny_pure ?_
    split
    · rename_i c _ _ _ _ _
      cases (c == Value.type "enumerate")
      · wp_walk using q1
        exact ⟨_, rfl, h⟩
      · wp_walk using q1
        exact ⟨_, rfl, h⟩
    · wp_walk using q1
      exact ⟨_, rfl, h⟩
section
variable {prog : Program} {w : World} {A : Around} {E : Value → Shared → Prop} {s : Shared}
theorem enum_self {z : Addr} {H : Heap → Prop} {Q : Value → Shared → Prop} (B : ∀ (prog : Program) (w : World) (A : Around) (E : Value → Shared → Prop) (s : Shared) (Q : Value → Shared → Prop), H s.heap → Q (.ref z) s → wpAny (model prog w) A (pyIter (.ref z)) Q E s) (h1 : H s.heap)
    (h : ∀ h', IsEnum h' s.heap.objs.size z 0 .none → h'.objs.size = s.heap.objs.size + 1 → (∀ b o, s.heap.get? b = some o → h'.get? b = some o) → Q (.ref s.heap.objs.size) { s with heap := h' }) :
    wpAny (model prog w) A (call (.type "enumerate") [.ref z]) Q E s := by
  refine callType_new F.called_enumerate (by decide) (F.typeCall_enumerate_1 _) (F.newCall_enumerate_1 _) (fun obj => F.args_object_init_2 obj _) F.entry_enumerate_new
    (meets_enumerate_self B) ⟨h1, ?_⟩
  show _ ∧ _
  have he : IsEnum (s.heap.push { cls := .type "enumerate", data := .fields #[.none, .bool false, .ref z, rawInt 0, .none, .none] }) s.heap.objs.size z 0 .none := Heap.get?_push_size s.heap rfl
  exact ⟨⟨_, he, rfl⟩, h _ he (by rw [Heap.size_push]) fun b o x => Heap.get?_push_of_some _ x⟩
end
def iEnumZ (K : PySem.W.Frag) (ta : TA) : TI := fun σ H R => ta σ H fun vs H1 => ∃ a b xs ys, vs = [.ref a, .ref b] ∧ SqT K H1 a xs ∧ SqT K H1 b ys ∧ R (ItEZ (goT K a) (goT K b) (valT K a) (valT K b) (stopT K a) (stopT K b)) H1
theorem pi_enumZ {X : Cx} {K : PySem.W.Frag} {e e2 : Expr} {ta : TA} {p q pos pos2 tpos : Pos} {elts : List Expr} {kk : Nat} (hK : X.K = K) (hg : Gl X "enumerate") (hm : X.mg "enumerate" = none) (hg2 : Gl X "zip") (hm2 : X.mg "zip" = none) (ha : PA X [e, e2] ta)
    (hs0 : starEach [.Call (.Name "zip" q) [e, e2] [] pos2] X.env = (false, eval (.Call (.Name "zip" q) [e, e2] [] pos2) X.env) :: starEach [] X.env := by rfl)
    (hs : starEach [e, e2] X.env = (false, eval e X.env) :: starEach [e2] X.env := by rfl) (hpl : (backTo pos2 (starEach [e2] X.env)).any (·.1) = false := by rfl) (hpl0 : (backTo pos (starEach [] X.env)).any (·.1) = false := by rfl) :
    PI X (.Tuple elts kk tpos) (.Call (.Name "enumerate" p) [.Call (.Name "zip" q) [e, e2] [] pos2] [] pos) (iEnumZ K ta) := by
  subst hK
  refine ⟨fun pins s σ H R I h => ?_⟩
  refine Call_ (ld_blt I hg hm boot_enumerate (PyProof.Rows.callWith_type1 (spliced_more ?_ hs0) hs0 hpl0))
  refine Call_ (ld_blt I hg2 hm2 PyProof.Rows.boot_zip (PyProof.Rows.callWith_type1 (thn (ha.run pos2 pins s σ H _ I h) fun us s1 ⟨vs, H1, I1, r1, q1⟩ => ?_) hs hpl))
  obtain ⟨a, b, xs, ys, ex, hqx, hqy, qq⟩ := q1
  subst ex
  cases r1 with
  | cons r rr =>
    cases rr with
    | cons r' rr =>
      cases rr
      cases r
      cases r'
      obtain ⟨its, rv, p1, _⟩ := I1.tuple hqx
      obtain ⟨its2, rv2, p2, _⟩ := I1.tuple hqy
      refine zip_begins2 (begins_tuple a its.toArray) (begins_tuple b its2.toArray) (show s1.heap.IsTuple a its.toArray from p1) (show s1.heap.IsTuple b its2.toArray from p2) fun h' hz hTI hTO h1 h2 hsz hk => ?_
      refine spliced_none ?_
      refine enum_self (s := { s1 with heap := h' }) (H := fun h => IsZip h (s1.heap.objs.size + 4) (s1.heap.objs.size + 2) (s1.heap.objs.size + 3) .none) (fun prog w A E s Q hz q => wpAny_pyIter_zip hz q) hz fun h'' he hsz2 hk2 => wpAny_pyIter_enum he ?_
      have I2 : Inv X pins σ H1 { s1 with heap := h'' } := I1.kept (t' := s1.toks) fun b o q => hk2 b o (hk b o q)
      have ez : h'.objs.size = s1.heap.objs.size + 5 := hsz
      have sep : ZipSep2 (s1.heap.objs.size + 4) (s1.heap.objs.size + 2) (s1.heap.objs.size + 3) s1.heap.objs.size (s1.heap.objs.size + 1) [s1.heap.objs.size, a] [s1.heap.objs.size + 1, b] :=
        zip_sep2 (fun c hc => by rw [List.mem_singleton.mp hc]; exact p1.lt) (fun c hc => by rw [List.mem_singleton.mp hc]; exact p2.lt)
      have la : a < s1.heap.objs.size := p1.lt
      have lb : b < s1.heap.objs.size := p2.lt
      have lo : ∀ c, c < s1.heap.objs.size + 5 → h'.objs.size ≠ c := fun c hc q => by
        rw [← q] at hc
        exact Nat.lt_irrefl _ (Nat.lt_of_lt_of_le hc (Nat.le_of_eq ez.symm))
      have fresh6 : ∀ c, c ∈ [h'.objs.size, s1.heap.objs.size + 4, s1.heap.objs.size + 2, s1.heap.objs.size + 3, s1.heap.objs.size, s1.heap.objs.size + 1] → FpOk X pins H1 c := fun c hcm => by
        have e' : c = h'.objs.size ∨ c = s1.heap.objs.size + 4 ∨ c = s1.heap.objs.size + 2 ∨ c = s1.heap.objs.size + 3 ∨ c = s1.heap.objs.size ∨ c = s1.heap.objs.size + 1 := by simpa using hcm
        have hle : s1.heap.objs.size ≤ c := by
          rcases e' with z | z | z | z | z | z
          · rw [z, ez]; exact Nat.le_add_right _ _
          · rw [z]; exact Nat.le_add_right _ _
          · rw [z]; exact Nat.le_add_right _ _
          · rw [z]; exact Nat.le_add_right _ _
          · rw [z]; exact Nat.le_refl _
          · rw [z]; exact Nat.le_add_right _ _
        exact I1.fpOk hle (I1.hok.fresh hle)
      have l4 : ∀ k, k < 5 → s1.heap.objs.size + k < s1.heap.objs.size + 5 := fun k hk => Nat.add_lt_add_left hk _
      have n1 : h'.objs.size ∉ [s1.heap.objs.size, a] := fun hm => by
        have : h'.objs.size = s1.heap.objs.size ∨ h'.objs.size = a := by simpa using hm
        rcases this with q | q
        · exact lo _ (l4 0 (by decide)) q
        · exact lo _ (Nat.lt_of_lt_of_le la (Nat.le_add_right _ _)) q
      have n2 : h'.objs.size ∉ [s1.heap.objs.size + 1, b] := fun hm => by
        have : h'.objs.size = s1.heap.objs.size + 1 ∨ h'.objs.size = b := by simpa using hm
        rcases this with q | q
        · exact lo _ (l4 1 (by decide)) q
        · exact lo _ (Nat.lt_of_lt_of_le lb (Nat.le_add_right _ _)) q
      exact ⟨h'.objs.size, [h'.objs.size, s1.heap.objs.size + 4, s1.heap.objs.size + 2, s1.heap.objs.size + 3, s1.heap.objs.size, s1.heap.objs.size + 1], _, _, H1, rfl, I2,
        turn_enumZ drw_t drw_t sep (Nat.ne_of_lt la) (Nat.ne_of_lt (Nat.lt_succ_of_lt lb)) (lo _ (l4 4 (by decide))) (lo _ (l4 2 (by decide))) (lo _ (l4 3 (by decide))) n1 n2,
        ⟨⟨.none, he⟩, ⟨⟨.none, .bool false, .inl rfl, hk2 _ _ hz⟩, hk2 _ _ hTI, ⟨_, _, hk2 _ _ hTO⟩⟩, ⟨_, hk2 _ _ h1, rfl, rfl⟩, ⟨_, hk2 _ _ h2, rfl, rfl⟩⟩, fresh6, qq⟩
/-! over data -/
section
variable {K : PySem.W.Frag} {ρ : Env} {ta : TA} {ds es : List D} {a b : D} {H : Hp}
theorem jok_ez {p q : Addr} {xs ys : List V} (h : SqT K H p xs) (r : Rps K H xs ds) (h' : SqT K H q ys) (r' : Rps K H ys es) :
    JOk K (ItEZ (goT K p) (goT K q) (valT K p) (valT K q) (stopT K p) (stopT K q)) H (enumD (zipD ds es)) := by
  refine ⟨fun i H' e hi => ?_, fun H' e => ?_, fun i H' x H'' e hi y => ?_⟩
  · rw [enumD_len, zipD_len] at hi
    exact ⟨g_t h r i H' e (by omega), g_t h' r' i H' e (by omega)⟩
  · rw [enumD_len, zipD_len]
    by_cases hl : ds.length ≤ es.length
    · rw [Nat.min_eq_left hl]
      refine .inl ⟨⟨xs, ex_t e h, r.len⟩, ?_⟩
      by_cases h2 : ds.length = es.length
      · rw [h2]; exact .inr ⟨ys, ex_t e h', r'.len⟩
      · exact .inl (g_t h' r' _ H' e (by omega))
    · rw [Nat.min_eq_right (by omega)]
      exact .inr ⟨g_t h r _ H' e (by omega), ⟨ys, ex_t e h', r'.len⟩⟩
  · obtain ⟨T, T2, x, y, rfl, hT, hT2, rfl, hx, hy⟩ := y
    obtain ⟨a, ha, ra⟩ := v_t h r i H' x e hx
    obtain ⟨b, hb, rb⟩ := v_t h' r' i H' y e hy
    have e1 := Ex.new (o := .tup [x, y]) hT
    have e2 := Ex.new (o := .tup [.int (i : Nat), .ref T]) hT2
    exact ⟨_, enumD_get (zipD_get ha hb), e1.trans e2, .tup (SqT.of upd_same) (.cons (.raw _) (.cons (.tup (SqT.of (e2 _ _ upd_same)) (.cons (ra.mono (e1.trans e2)) (.cons (rb.mono (e1.trans e2)) .nil))) .nil))⟩
theorem wke_ez (h : EvEs K ta ρ [.tup ds, .tup es]) : WkE K (iEnumZ K ta) ρ (enumD (zipD ds es)) := fun σ H e H1 e1 R q => h σ H e H1 e1 _ fun vs H2 e2 r => by
  cases r with
  | cons r rr =>
    cases rr with
    | cons r' rr =>
      cases rr
      obtain ⟨p, xs, rfl, hs, rs⟩ := r.tup_inv
      obtain ⟨p', xs', rfl, hs', rs'⟩ := r'.tup_inv
      exact ⟨p, p', xs, xs', rfl, hs, hs', q _ H2 e2 (jok_ez hs rs hs' rs')⟩
end
end Pa
set_option Elab.async false
set_option linter.all false
set_option maxRecDepth 100000
set_option maxHeartbeats 4000000
/-! max of a tuple of numbers -/
namespace Pa
open PySem PySem.Spec PyProof.Rows L2 Evl
section
variable {prog : Program} {w : World} {A : Around} {E : Value → Shared → Prop} {s : Shared} {l : Addr} {its : List Value} {ns : List Int}
theorem max_tupI {xs : Array (Int × Tok)} {Q : Value → Shared → Prop} (hh : A.handled = none) (hl : s.heap.IsTuple l (intItems xs)) (hne : 0 < xs.size)
    (h : ∀ v h' tk, (intItems xs)[argBest (fun i j => decide (numAt xs i > numAt xs j)) (xs.size - 1)]? = some v → (∀ b o, s.heap.get? b = some o → h'.get? b = some o) → Q v { s with heap := h', toks := tk }) :
    wpAny (model prog w) A (call (.builtin "max") [.ref l]) Q E s := by
  have hlt : l < s.heap.objs.size := by obtain ⟨_, e, _⟩ := hl; exact Heap.lt_size e
  have hfp : ∀ b ∈ [s.heap.objs.size, l], b < (s.heap.push { cls := .type "tuple_iterator", data := .fields #[.ref l, .int 0 0] }).objs.size := fun b hb => by
    rw [Heap.size_push]
    rcases List.mem_cons.mp hb with rfl | hb
    · exact Nat.lt_succ_self _
    · rcases List.mem_cons.mp hb with rfl | hb
      · exact Nat.lt_succ_of_lt hlt
      · cases hb
  refine call_max_walk (wpAny_pyIter_tuple hl ?_)
  refine ⟨_, _, _, _, _, _, _, rfl, Walks.tuple (A := A.in1) hh _ l (Nat.ne_of_lt hlt) (intItems xs), ⟨⟨_, Heap.get?_push_size _ rfl, rfl, rfl⟩, hl.at fun o q => Heap.get?_push_of_some _ q⟩, hfp, by simpa [intItems] using hne, CmpOf.ints_gt (numAt xs) (fun _ _ => intItems_at), fun v h' tk hP hk => ?_⟩
  exact h v h' tk (by simpa [intItems] using hP) fun b o q => hk b o (fun hm => by rw [List.mem_singleton.mp hm] at q; exact Nat.lt_irrefl _ (Heap.lt_size q)) (Heap.get?_push_of_some _ q)
theorem max_tupR {Q : Value → Shared → Prop} (hh : A.handled = none) (hl : s.heap.IsTuple l its.toArray) (hi : IntsAre its ns) (hne : 0 < ns.length)
    (h : ∀ h' tk M t', (∀ b o, s.heap.get? b = some o → h'.get? b = some o) → M ∈ ns → (∀ a, a ∈ ns → a ≤ M) → Q (.int M t') { s with heap := h', toks := tk }) : wpAny (model prog w) A (call (.builtin "max") [.ref l]) Q E s := by
  obtain ⟨xs, e⟩ := hi.allInts.items
  have hn : numsOf (intItems xs).toList = ns := by rw [← e]; exact hi.numsOf
  rw [nums_intItems] at hn
  subst hn
  rw [e] at hl
  have hsz : 0 < xs.size := by simpa using hne
  refine max_tupI hh hl hsz fun v h' tk hv hk => ?_
  obtain ⟨t, rfl⟩ := intItems_at hv
  obtain ⟨h1, h2⟩ := argBest_gt (numAt xs) (xs.size - 1)
  refine h h' tk _ t hk ?_ fun a ha => ?_
  · rw [numAt_eq]; exact PySem.getD_mem (by rw [List.length_map, Array.length_toList]; omega)
  · obtain ⟨j, hj, rfl⟩ := mem_getD ha
    rw [List.length_map, Array.length_toList] at hj
    rw [← numAt_eq]; exact h2 j (by omega)
end
def rMaxT (K : PySem.W.Frag) : List V → Hp → VK → Prop := fun vs H Q => ∃ (a : Addr) (ns : List Int), vs = [V.ref a] ∧ SqT K H a (ns.map V.int) ∧ 0 < ns.length ∧ ∀ m, m ∈ ns → (∀ y, y ∈ ns → y ≤ m) → Q (.int m) H
theorem z_maxT {X : Cx} {K : PySem.W.Frag} (hc : X.calm = true) (h : X.K = K) : CallR X (.builtin "max") (rMaxT K) := by
  subst h
  intro pins s σ H vs us Q I r h
  obtain ⟨a, ns, rfl, hs, hne, q⟩ := h
  obtain ⟨its, rv, hl, _⟩ := I.tuple hs
  rw [Vals.ref1 r]
  exact max_tupR (I.ok.hd hc) hl rv.ints hne fun h' tk m t' hk h1 h2 => ⟨.int _, H, I.kept hk, ⟨_, rfl⟩, q m h1 h2⟩
/-- the greatest -/
def greatest : List Int → Int
  | [] => 0
  | [a] => a
  | a :: b :: r => max a (greatest (b :: r))
theorem greatest_mem : ∀ {ns : List Int}, ns ≠ [] → greatest ns ∈ ns
  | [], h => absurd rfl h
  | [a], _ => List.mem_singleton.mpr rfl
  | a :: b :: r, _ => by
    have ih := greatest_mem (ns := b :: r) (by simp)
    unfold greatest
    rcases Int.le_total a (greatest (b :: r)) with h | h
    · rw [Int.max_eq_right h]; exact List.mem_cons_of_mem _ ih
    · rw [Int.max_eq_left h]; exact List.mem_cons_self
theorem greatest_le : ∀ {ns : List Int} {x : Int}, x ∈ ns → x ≤ greatest ns
  | [], _, h => by cases h
  | [a], _, h => by rw [List.mem_singleton.mp h]; exact Int.le_refl _
  | a :: b :: r, x, h => by
    unfold greatest
    rcases List.mem_cons.mp h with rfl | h
    · exact Int.le_max_left _ _
    · exact Int.le_trans (greatest_le h) (Int.le_max_right _ _)
theorem greatest_is {ns : List Int} {m : Int} (h1 : m ∈ ns) (h2 : ∀ y ∈ ns, y ≤ m) : m = greatest ns :=
  Int.le_antisymm (greatest_le h1) (h2 _ (greatest_mem (List.ne_nil_of_mem h1)))
theorem rps_ints {K : PySem.W.Frag} {H : Hp} : ∀ {ns : List Int} {xs : List V}, Rps K H xs (ns.map dI) → xs = ns.map V.int
  | [], _, .nil => rfl
  | n :: ns, _, .cons h t => by rw [h.raw_inv, rps_ints t]; rfl
theorem rc_maxT {K : PySem.W.Frag} {H : Hp} {ns : List Int} (hne : ns ≠ []) : RCD K (rMaxT K) [.tup (ns.map dI)] H (dI (greatest ns)) := fun H1 _ vs r Q q => by
  cases r with
  | cons r rr =>
    cases rr
    obtain ⟨a, xs, rfl, hs, rs⟩ := r.tup_inv
    have e := rps_ints rs
    subst e
    refine ⟨a, ns, rfl, hs, List.length_pos_iff.mpr hne, fun m h1 h2 => q _ H1 (Ex.refl _) ?_⟩
    rw [greatest_is h1 h2]
    exact .raw _
theorem rc_maxLst {K : PySem.W.Frag} {H : Hp} {ns : List Int} (hne : ns ≠ []) : RCD K (rMax K) [.lst (ns.map dI)] H (dI (greatest ns)) := fun H1 _ vs r Q q => by
  cases r with
  | cons r rr =>
    cases rr
    obtain ⟨a, xs, rfl, hs, rs⟩ := r.lst_inv
    have e := rps_ints rs
    subst e
    refine ⟨a, ns, rfl, SqL.of hs, List.length_pos_iff.mpr hne, fun m h1 h2 => q _ H1 (Ex.refl _) ?_⟩
    rw [greatest_is h1 h2]
    exact .raw _
/-- name = a dict comprehension whose names are the def's own, too -/
theorem ps_setDc {X : Cx} {i : Nat} {y : Str} {py : Pos} {kx vx tg iter : Expr} {ifs : List Expr} {scope : Scope} {own : List (Str × Nat)} {pos spos : Pos} {wi : TI} {g : TG} {tt : TT} {tk tv : TE} (hc : X.calm = true) (hN : X.N.Nodup) (hy : X.N[i]? = some y) (hyl : X.env.scope.names.lookup y = some .local)
    (hsw : swapsWith (.DictComp kx vx [⟨tg, iter, ifs, 0⟩] scope pos) (some (.Name y py)) spos.line X.env = pure true) (hi : PI X tg iter wi) (ok : BlkOk X.N X.env.scope scope own)
    (hg : ∀ (s : Shared) (H : Hp) (C : Addr) (cl : List (Str × Addr)) (fp : List Addr), PG (X.blk s H scope (compEnvC scope cl C X.env) fp) tg g) (ht : ∀ (s : Shared) (H : Hp) (C : Addr) (cl : List (Str × Addr)) (fp : List Addr), PTs (X.blk s H scope (compEnvC scope cl C X.env) fp) ifs tt)
    (hk : ∀ (s : Shared) (H : Hp) (C : Addr) (cl : List (Str × Addr)) (fp : List Addr), PE (X.blk s H scope (compEnvC scope cl C X.env) fp) kx tk)
    (he : ∀ (s : Shared) (H : Hp) (C : Addr) (cl : List (Str × Addr)) (fp : List Addr), PE (X.blk s H scope (compEnvC scope cl C X.env) fp) vx tv) (hs : ∀ x, foldedSetIterable iter X.env x = pure x := by intro _; rfl) :
    PS X (.Assign [.Name y py] (.DictComp kx vx [⟨tg, iter, ifs, 0⟩] scope pos) spos) (tAsg (tDc wi g tt tk tv (own.map (·.2))) (gName i)) := by
  refine ⟨fun pins s σ H D I h => ?_⟩
  rw [exec_Assign_Name_used _ _ _ _ hsw]
  refine wpAny_bind (wpAny_standAt (wpAny_bind ?_))
  show wpAny _ X.A (do let _ ← comprehension (.DictComp kx vx [⟨tg, iter, ifs, 0⟩] scope pos) scope X.env (firstIterPos [⟨tg, iter, ifs, 0⟩] pos) newDict false (eval iter X.env) (some (assign (.Name y py) X.env))) _ _ s
  have h : tDc wi g tt tk tv (own.map (·.2)) σ H (fun x H1 => gName i x σ H1 D.nx) := h
  refine wpAny_bind (thn (dc_core (Qf := fun _ s' => SP X pins D .next s') hc hN I hi ok hg ht hk he hs h fun L C s' m H' I' q hn f => ?_) fun _ s' hq => wpAny_pure (wpAny_pure hq))
  show wpAny _ _ (assign (.Name y py) X.env (.ref L)) _ _ _
  refine wpAny_assign_Name (store_ok2 (v := V.ref L) I' hN hy (.inl hyl) rfl (fun s2 I2 ⟨a, sb, ha⟩ => ?_) (.inr hyl))
  obtain ⟨f0, f1, f2, f3, f4, f5⟩ := f
  have haC : C ≠ a := by
    rcases ha with z | z
    · rw [z]; exact f1
    · exact fun e => f4 y a z e.symm
  refine ⟨m, hn.sameBut sb haC, fun h3 sb3 => ?_⟩
  exact ⟨_, H', I2.turned (t' := s2.toks) (fun b o hb e => (sb3.2 b hb).trans e) f0 f1 f3 f4 f5, q⟩
theorem sw_trueD {kx vx : Expr} {gs : List Comprehension} {scope : Scope} {pos py : Pos} {y : Str} {l : Nat} {env : PySem.Env} (hk : env.scope.kind = .function) (hy : env.scope.names.lookup y = some .local) (hl : (py.line == pos.line) = true)
    (ha : (scope.names.any fun (n, k) => n == y && (k == .local || k == .cell)) = false) : swapsWith (.DictComp kx vx gs scope pos) (some (.Name y py)) l env = pure true := by
  have ky : env.kindOf y = some .local := hy
  have hb : env.blockKind = .function := by unfold PySem.Env.blockKind; rw [hk]; rfl
  unfold swapsWith
  simp only [hb, ky, ha, Expr.pos, hl]
  rfl
end Pa
set_option Elab.async false
set_option linter.all false
set_option maxRecDepth 100000
set_option maxHeartbeats 8000000
namespace Pa
open PySem PySem.Spec PyProof.Rows L2 Evl
section
variable {P : Program} {w : World} {K : PySem.W.Frag} {mg : Str → Option Value} {base : Heap}


def minsI (p : Party) (c : Str → Int) : List Int := p.rows.map fun r => c r.nm
abbrev minsD (p : Party) (c : Str → Int) : List D := (minsI p c).map dI
def arrD (p : Party) (c : Str → Int) : List (Str × D) := p.rows.map fun r => (r.nm, dI (c r.nm))
def gLetC : List D → D → Prop := fun ds d => ∃ p c, ds = [p.d, .tup (minsD p c)] ∧ PartyOk p ∧ IsCase p c ∧ (∀ r ∈ p.rows, 0 ≤ c r.nm) ∧ d = dI (greatest (minsI p c))
theorem minsD_tus {p : Party} {c : Str → Int} : D.tus (minsD p c) = true := tus_all fun d hd => by
  obtain ⟨x, _, rfl⟩ := List.mem_map.mp hd
  rfl
theorem mins_get {p : Party} {c : Str → Int} {i : Nat} {r : Row} (h : p.rows[i]? = some r) : (minsD p c)[i]? = some (dI (c r.nm)) := by
  simp [minsD, minsI, h]
theorem arr_look {p : Party} {c : Str → Int} (nd : (names p).Nodup) {x : Str} (hx : x ∈ names p) : (arrD p c).lookup x = some (dI (c x)) := by
  obtain ⟨r, hr, rfl⟩ := idx_get hx
  refine lookup_nodup (i := idx p.rows r.nm) (by simpa [arrD, names, Function.comp_def] using nd) ?_
  simp [arrD, hr]

theorem sc_lets_case : FnScope ["party", "thing", "rows", "ties", "closing", "k", "row", "minute", "arrivals", "one", "other", "most"] ["party", "thing"] d_lets_case.scope := ⟨rfl, rfl, rfl, by decide +kernel, rfl, by decide +kernel, by decide +kernel⟩
theorem ok_lets_case (T : Wd K mg base) : C8.Cal P w K mg base (3 + 1) "lets_case" (spD K gLetC) [] := by
  refine cal_of T 18 35 (d := d_lets_case) rfl rfl rfl rfl rfl sc_lets_case (spD_len fun ds d ⟨_, _, e, _⟩ => by rw [e]; rfl) (fun _ _ _ _ _ _ us hl => match us, hl with | [_, _], _ => rfl) fun cdv A outer s H vs Q E hr h => ?_
  refine ⟨_, (pss_cons (ps_asg (pv 0) (zg_tup (K := K) (n := 3) rfl rfl (pgs_cons (pg_name (i := 2) sc_lets_case.nd rfl (by first | exact Or.inl rfl | exact Or.inr rfl)) (pgs_cons (pg_name (i := 3) sc_lets_case.nd rfl (by first | exact Or.inl rfl | exact Or.inr rfl)) (pgs_cons (pg_name (i := 4) sc_lets_case.nd rfl (by first | exact Or.inl rfl | exact Or.inr rfl)) pgs_nil)))))
    (pss_cons (ps_expr (C8.pe_c (ok_require T) hr (by decide) rfl (pa_cons (pe_and (C8.pe_c (ok_is_tuple_of 2 T) hr (by decide) rfl (pa_cons (pv 1) (pa_cons (C8.pe_gc (v := .ref (He.ga K "is_number")) rfl T.k_is_number) pa_nil))) (pe_one (pe_cmpR (z_eq (K := K) hr.units rfl) (pe_callB (z_len (K := K) rfl) (by rfl) T.g_len (by decide +kernel) (pa_cons (pv 1) pa_nil)) (pe_callB (z_len (K := K) rfl) (by rfl) T.g_len (by decide +kernel) (pa_cons (pv 2) pa_nil)) (nomark _)))) (pa_cons pe_str (pa_cons (pe_un un_neg pe_int) pa_nil)))))
    (pss_cons (ps_for PassesOwn.never rfl (pi_enumZ (K := K) rfl (by rfl) T.g_enumerate (by rfl) T.g_zip (pa_cons (pv 2) (pa_cons (pv 1) pa_nil))) (zg_tup (K := K) (n := 2) rfl rfl (pgs_cons (pg_name (i := 5) sc_lets_case.nd rfl (by first | exact Or.inl rfl | exact Or.inr rfl)) (pgs_cons (zg_tup (K := K) (n := 2) rfl rfl (pgs_cons (pg_name (i := 6) sc_lets_case.nd rfl (by first | exact Or.inl rfl | exact Or.inr rfl)) (pgs_cons (pg_name (i := 7) sc_lets_case.nd rfl (by first | exact Or.inl rfl | exact Or.inr rfl)) pgs_nil))) pgs_nil))) (pss_one (ps_expr (C8.pe_c (ok_require T) hr (by decide) rfl (pa_cons (pe_chain op_le op_le (pe_ix (z_ix (K := K) rfl) (pv 6) pe_int (fun _ _ => rfl)) (pv 7) (pe_ix (z_ix (K := K) rfl) (pv 6) pe_int (fun _ _ => rfl))) (pa_cons pe_str (pa_cons (pv 5) pa_nil)))))))
    (pss_cons (ps_setDc (i := 8) (own := [("row", 6), ("minute", 7)]) (by rfl) sc_lets_case.nd rfl rfl (sw_trueD rfl rfl rfl (by decide +kernel)) (pi_zipX (K := K) rfl (by rfl) T.g_zip (pa_cons (pv 2) (pa_cons (pv 1) pa_nil))) (blkOk_by (own := [("row", 6), ("minute", 7)]) (N := ["party", "thing", "rows", "ties", "closing", "k", "row", "minute", "arrivals", "one", "other", "most"]) (sc := d_lets_case.scope) (by decide +kernel)) (fun _ _ _ _ _ => (zg_tup (K := K) (n := 2) rfl rfl (pgs_cons (pg_name (i := 6) sc_lets_case.nd rfl (by first | exact Or.inl rfl | exact Or.inr rfl)) (pgs_cons (pg_name (i := 7) sc_lets_case.nd rfl (by first | exact Or.inl rfl | exact Or.inr rfl)) pgs_nil)))) (fun _ _ _ _ _ => pts_nil) (fun _ _ _ _ _ => (pe_ix (z_ix (K := K) rfl) (pv 6) pe_int (fun _ _ => rfl))) (fun _ _ _ _ _ => (pv 7)))
    (pss_cons (ps_for PassesOwn.never rfl (pi_enumX (K := K) rfl (by rfl) T.g_enumerate (pa_cons (pv 3) pa_nil)) (zg_tup (K := K) (n := 2) rfl rfl (pgs_cons (pg_name (i := 5) sc_lets_case.nd rfl (by first | exact Or.inl rfl | exact Or.inr rfl)) (pgs_cons (zg_tup (K := K) (n := 3) rfl rfl (pgs_cons (pg_name (i := 9) sc_lets_case.nd rfl (by first | exact Or.inl rfl | exact Or.inr rfl)) (pgs_cons (pg_name (i := 10) sc_lets_case.nd rfl (by first | exact Or.inl rfl | exact Or.inr rfl)) (pgs_cons (pg_name (i := 11) sc_lets_case.nd rfl (by first | exact Or.inl rfl | exact Or.inr rfl)) pgs_nil)))) pgs_nil))) (pss_one (ps_expr (C8.pe_c (ok_require T) hr (by decide) rfl (pa_cons (pe_cmpR op_le (pe_dget (hu_of hr) (pv 8) (pv 9) (fun _ _ => rfl)) (pe_op (z_add (K := K) rfl) (pe_dget (hu_of hr) (pv 8) (pv 10) (fun _ _ => rfl)) (pv 11)) (nomark _)) (pa_cons pe_str (pa_cons (pv 5) pa_nil)))))))
    (pss_one (ps_ret (pe_callB (z_maxT (K := K) rfl rfl) (by rfl) T.g_max (by decide +kernel) (pa_cons (pv 1) pa_nil))))))))), ?_⟩
  obtain ⟨ds, d, rr, ⟨p, c, rfl, h, hc, h0, rfl⟩, q⟩ := h
  refine ro_fun ?_ rr q
  have hl := h.len
  have htl := h.tlen
  have nd : (names p).Nodup := h.nd
  have hml : (minsD p c).length = p.rows.length := by simp [minsD, minsI]
  refine ro_s (ro_asg (ee_var rfl) (.inr rfl) (go_tup (gos_cons go_name (gos_cons go_name (gos_cons go_name gos_nil))) rfl) rfl) ?_
  refine ro_s (ro_drop (ee_call (es_cons (ee_is (ee_and (k := true) (ee_call (es_cons (ee_var rfl) (es_cons ee_c es_nil)) ⟨_, _, _, rfl, at_of_cal (ok_is_number T) (by decide) T.m_is_number, fun e he => ?_, by rw [hml]; omega, rfl⟩) fun _ => ee_op (ee_cb (es_cons (ee_var rfl) es_nil) fun _ => rc_lenT) (ee_cb (es_cons (ee_var rfl) es_nil) fun _ => rc_lenT) fun _ => rd_eqX rfl) (d' := dB true) (by simp [minsI])) (es_cons ee_c (es_cons (ee_un ee_c fun _ => ru_neg) es_nil))) ⟨_, _, rfl, rfl⟩) (.inr rfl) rfl) ?_
  · obtain ⟨n, hn, rfl⟩ := List.mem_map.mp he
    obtain ⟨r, hr, rfl⟩ := List.mem_map.mp hn
    exact ⟨_, rfl, h0 r hr, rfl⟩
  refine ro_s (ro_for (fun _ => [.rd p.d, .rd (.tup (minsD p c)), .rd (.tup (rowsD p.rows)), .rd (.tup (tiesD p.ties)), .rd (dI p.closing), .no, .no, .no, .no, .no, .no, .no]) (wo_free (wke_ez (es_cons (ee_var rfl) (es_cons (ee_var rfl) es_nil))) rfl) Weak.refl (enumD_tu (tus_all (zip_tus rowsD_tus minsD_tus))) (fun i d hd => ?_) rfl) ?_
  · obtain ⟨x, hx, rfl⟩ := enumD_get' hd
    obtain ⟨u, v, hu, hv, rfl⟩ := zipD_get' hx
    obtain ⟨r, hr, rfl⟩ := map_get hu
    rw [mins_get hr] at hv
    cases hv
    obtain ⟨w1, w2⟩ := hc.win r (List.mem_of_getElem? hr)
    refine ⟨_, go_tup (gos_cons go_name (gos_cons (go_tup (gos_cons go_name (gos_cons go_name gos_nil)) rfl) gos_nil)) rfl, ?_⟩
    refine ro_drop (ee_call (es_cons (ee_is (ee_chain (ee_op (ee_var rfl) ee_c fun _ => rd_ixX (n := 1) rfl rfl) (ee_var rfl) (fun _ => rd_I0) (fun _ => ee_op (ee_var rfl) ee_c fun _ => rd_ixX (n := 2) rfl rfl) fun _ => rd_I0) (d' := dB true) (by simp [w1, w2])) (es_cons ee_c (es_cons (ee_var rfl) es_nil))) ⟨_, _, rfl, rfl⟩) (.inr rfl) ?_
    exact .keep rfl (.keep rfl (.keep rfl (.keep rfl (.keep rfl (.drop (.drop (.drop (.keep rfl (.keep rfl (.keep rfl (.keep rfl .nil)))))))))))
  refine ro_s (ro_set (d := .dic (arrD p c)) (ee_is (ee_dc (js := [6, 7]) (fun i => [some p.d, some (.tup (minsD p c)), some (.tup (rowsD p.rows)), some (.tup (tiesD p.ties)), some (dI p.closing), none, (rowsD p.rows)[i]?, (minsD p c)[i]?, none, none, none, none]) (fun i => (names p).getD i "") (fun i => (minsD p c).getD i dN) (wke_zT (es_cons (ee_var rfl) (es_cons (ee_var rfl) es_nil))) (by rw [zipD_len]; simp; omega) (by simp) (fun i d hd => ?_) (fun i d hd => ?_) (fun i d hd => ?_) fun i d hd => ?_) ?_) (.inr rfl) rfl) ?_
  · obtain ⟨u, v, hu, hv, rfl⟩ := zipD_get' hd
    obtain ⟨r, hr, rfl⟩ := map_get hu
    rw [mins_get hr] at hv
    cases hv
    simp [List.getD, mins_get hr, D.tu]
  · obtain ⟨u, v, hu, hv, rfl⟩ := zipD_get' hd
    rw [hu, hv]
    exact ge_tup (ges_cons ge_name (ges_cons ge_name ges_nil)) rfl
  · obtain ⟨u, v, hu, hv, rfl⟩ := zipD_get' hd
    obtain ⟨r, hr, rfl⟩ := map_get hu
    rw [hu]
    exact ee_is (ee_op (ee_var rfl) ee_c fun _ => rd_ixX (n := 0) rfl rfl) (by simp [List.getD, names, hr])
  · obtain ⟨u, v, hu, hv, rfl⟩ := zipD_get' hd
    rw [hv]
    exact ee_is (ee_var rfl) (by simp [List.getD, hv])
  · rw [dcD_eq, zipD_len, hml]
    have e : ((List.range (min (rowsD p.rows).length p.rows.length)).map fun i => ((names p).getD i "", (minsD p c).getD i dN)) = arrD p c := by
      refine List.ext_getElem (by simp [arrD]) fun i h1 h2 => ?_
      have hi : i < p.rows.length := by simpa [arrD] using h2
      simp [arrD, names, minsD, minsI, hi]
    rw [e, dicOf_nodup (by simpa [arrD, names, Function.comp_def] using nd)]
  refine ro_s (ro_for (fun _ => [.rd p.d, .rd (.tup (minsD p c)), .rd (.tup (rowsD p.rows)), .rd (.tup (tiesD p.ties)), .rd (dI p.closing), .no, .no, .no, .rd (.dic (arrD p c)), .no, .no, .no]) (wo_eTv (i := 3) rfl) Weak.refl (enumD_tu tiesD_tus) (fun i d hd => ?_) rfl) ?_
  · obtain ⟨x, hx, rfl⟩ := enumD_get' hd
    obtain ⟨t, ht, rfl⟩ := map_get hx
    have hm := List.mem_of_getElem? ht
    obtain ⟨t1, t2, t3⟩ := h.tin t hm
    have hle := hc.tie t hm
    refine ⟨_, go_tup (gos_cons go_name (gos_cons (go_tup (gos_cons go_name (gos_cons go_name (gos_cons go_name gos_nil))) rfl) gos_nil)) rfl, ?_⟩
    refine ro_drop (ee_call (es_cons (ee_is (ee_op (ee_dget (d := dI (c t.one)) (ee_var rfl) (ee_var rfl) (arr_look nd t1)) (ee_op (ee_dget (d := dI (c t.oth)) (ee_var rfl) (ee_var rfl) (arr_look nd t2)) (ee_var rfl) fun _ => rd_addI) fun _ => rd_I0) (d' := dB true) (by simp [hle])) (es_cons ee_c (es_cons (ee_var rfl) es_nil))) ⟨_, _, rfl, rfl⟩) (.inr rfl) ?_
    exact .keep rfl (.keep rfl (.keep rfl (.keep rfl (.keep rfl (.drop (.keep rfl (.keep rfl (.keep rfl (.drop (.drop (.drop .nil)))))))))))
  exact ro_ret (ee_cb (es_cons (ee_var rfl) es_nil) fun _ => rc_maxT (by simp [minsI]; exact h.ne)) (.inr rfl) rfl
end
end Pa
set_option Elab.async false
set_option linter.all false
set_option maxRecDepth 100000
set_option maxHeartbeats 4000000
/-! expressions that change what a name owns -/
namespace Pa
open PySem PySem.Spec PyProof.Rows L2 Evl
section
variable {K : PySem.W.Frag} {ρ ρ' ρ1 ρ2 : Enw} {tv : List V} {td : List D} {σ σ' : L2.St} {Hs H0 H H' H1 H2 : Hp} {v : V} {a b d d' : D} {ds es : List D} {i j n m : Nat} {te ta tb : TE} {tx : TA} {tt : TT} {r : R2}
variable {N N' : Enw → Prop} {R R' : D → Enw → Prop} {t u tz ty : TS} {P Pa Pb : D → Enw → Prop} {k : Bool}
theorem StO.res (s : StO K Hs ρ tv td σ H) (e : Ex H H2) (r : Rp K H2 v d) (f : Fit ρ d) : StO K Hs ρ (v :: tv) (d :: td) σ H2 := by
  obtain ⟨H0, eh, s⟩ := s
  exact ⟨_, eh.trans (s.growEx e), (s.grow e).push (s.fit e r f)⟩
def EO (K : PySem.W.Frag) (te : TE) (ρ : Enw) (P : D → Enw → Prop) : Prop := ∀ Hs tv td σ H, StO K Hs ρ tv td σ H → ∀ Q : VK, (∀ v d ρ' H', P d ρ' → StO K Hs ρ' (v :: tv) (d :: td) σ H' → Q v H') → te σ H Q
theorem EO.imp (h : EO K te ρ Pa) (hp : ∀ d ρ', Pa d ρ' → P d ρ') : EO K te ρ P := fun Hs tv td σ H s Q q => h Hs tv td σ H s Q fun v d ρ' H' p => q v d ρ' H' (hp d ρ' p)
theorem oo_ev (h : EvE K te (vw ρ) d) (f : Fit ρ d) (k : P d ρ) : EO K te ρ P := fun Hs tv td σ H s Q q => s.ev h f fun v H2 _ s2 => q v d ρ H2 k s2
theorem oo_op (ha : EO K ta ρ Pa) (hb : ∀ a ρ1, Pa a ρ1 → EO K tb ρ1 fun b ρ2 => ∃ d, (∀ H, RD K r a b H d) ∧ Fit ρ2 d ∧ P d ρ2) : EO K (tOp r ta tb) ρ P := fun Hs tv td σ H s Q q =>
  ha Hs tv td σ H s _ fun x a ρ1 H1 pa s1 => hb a ρ1 pa Hs (x :: tv) (a :: td) σ H1 s1 _ fun y b ρ2 H2 ⟨d, hr, f, p⟩ s2 =>
    hr H2 H2 (Ex.refl _) x y s2.pop.top s2.top Q fun v H3 e3 r3 => q v d ρ2 H3 p (s2.pop.pop.res e3 r3 f)
theorem ro_setO (h : EO K te ρ fun d ρ' => N (ρ'.set i (.rd d))) : RO K (tAsg te (gName i)) ρ N R := fun Hs Dn σ H s kn _ => h Hs [] [] σ H s _ fun v d ρ' H' p s' => kn _ _ _ p s'.set
theorem ro_dropO (h : EO K te ρ fun _ ρ' => N ρ') : RO K (tDrop te) ρ N R := fun Hs Dn σ H s kn _ => h Hs [] [] σ H s _ fun v d ρ' H' p s' => kn _ _ _ p s'.pop
theorem ro_retO (h : EO K te ρ R) : RO K (tRet te) ρ N R := fun Hs Dn σ H s _ kr => h Hs [] [] σ H s _ fun v d ρ' H' p s' => kr v d ρ' σ H' p s'
end
end Pa
set_option Elab.async false
set_option linter.all false
set_option maxRecDepth 100000
set_option maxHeartbeats 4000000
/-! the reader, as the draw sees it -/
namespace Pa
open PySem PySem.Spec PyProof.Rows L2 Evl
structure DrS (K : PySem.W.Frag) (Hm : Hp) (r : Addr) (x0 : V) (cs : List D) (many a b n : Int) (xs : List (Option Int)) (σ : L2.St) (H : Hp) : Prop where
  ex : Ex Hm H
  no : Hm r = none
  rd : H r = some (.lst [x0, .int a, .int b, .int n])
  sc : Rp K Hm x0 (.lst cs)
  st : σ = some (.ref r) :: some (.int many) :: xs.map (Option.map V.int)
section
variable {K : PySem.W.Frag} {Hm H H2 : Hp} {r : Addr} {x0 : V} {cs : List D} {many a b n w ix : Int} {xs : List (Option Int)} {σ : L2.St} {te tk : TE} {tt : TT} {k : Bool} {t u : TS} {Dn : Ends} {i : Nat}
def drE (cs : List D) (many a b n : Int) (xs : List (Option Int)) : Env := some (.lst [.lst cs, dI a, dI b, dI n]) :: some (dI many) :: xs.map (Option.map dI)
theorem DrS.env (s : DrS K Hm r x0 cs many a b n xs σ H) : EnvD K (drE cs many a b n xs) σ H := by
  obtain ⟨ex, no, rd, sc, rfl⟩ := s
  refine ⟨by simp [drE], fun i d hi => ?_⟩
  match i, hi with
  | 0, hi =>
    cases hi
    exact ⟨_, rfl, .lst rd (.cons (sc.mono ex) (.cons (.raw _) (.cons (.raw _) (.cons (.raw _) .nil))))⟩
  | 1, hi =>
    cases hi
    exact ⟨_, rfl, .raw _⟩
  | i + 2, hi =>
    have hi' : (xs.map (Option.map dI))[i]? = some (some d) := hi
    rw [List.getElem?_map] at hi'
    cases e : xs[i]? with
    | none => rw [e] at hi'; cases hi'
    | some o =>
      rw [e] at hi'
      cases o with
      | none => cases hi'
      | some z =>
        cases hi'
        refine ⟨.int z, ?_, .raw _⟩
        show (xs.map (Option.map V.int))[i]? = _
        rw [List.getElem?_map, e]
        rfl
theorem DrS.grow (s : DrS K Hm r x0 cs many a b n xs σ H) (e : Ex H H2) : DrS K Hm r x0 cs many a b n xs σ H2 := ⟨s.ex.trans e, s.no, e _ _ s.rd, s.sc, s.st⟩
theorem dr_set (s : DrS K Hm r x0 cs many a b n xs σ H) (he : EvE K te (drE cs many a b n xs) (dI w)) (q : ∀ H', DrS K Hm r x0 cs many a b n (xs.set i (some w)) (σ.set (i + 2) (some (.int w))) H' → Dn.nx (σ.set (i + 2) (some (.int w))) H') : tAsg te (gName (i + 2)) Dn σ H :=
  he σ H s.env H (Ex.refl _) _ fun v H2 e2 r2 => by
    have ev := r2.raw_inv
    subst ev
    have g := s.grow e2
    refine q H2 ⟨g.ex, g.no, g.rd, g.sc, ?_⟩
    rw [s.st]
    simp
theorem dr_if (s : DrS K Hm r x0 cs many a b n xs σ H) (he : EvTE K tt (drE cs many a b n xs) k) (h1 : k = true → ∀ H', DrS K Hm r x0 cs many a b n xs σ H' → t Dn σ H') (h2 : k = false → ∀ H', DrS K Hm r x0 cs many a b n xs σ H' → u Dn σ H') : tIfS tt t u Dn σ H :=
  he σ H s.env H (Ex.refl _) _ fun H2 e2 => by
    cases k with
    | true => exact h1 rfl H2 (s.grow e2)
    | false => exact h2 rfl H2 (s.grow e2)
theorem dr_ret (s : DrS K Hm r x0 cs many a b n xs σ H) (he : EvE K te (drE cs many a b n xs) (dI w)) (q : ∀ H', DrS K Hm r x0 cs many a b n xs σ H' → Dn.rt (.int w) H') : tRet te Dn σ H :=
  he σ H s.env H (Ex.refl _) _ fun v H2 e2 r2 => by
    have ev := r2.raw_inv
    subst ev
    exact q H2 (s.grow e2)
theorem dr_put {a' b' n' : Int} {j : Nat} (s : DrS K Hm r x0 cs many a b n xs σ H) (he : EvE K te (drE cs many a b n xs) (dI w)) (hk : EvE K tk (drE cs many a b n xs) (dI ix)) (hj : ixN 4 ix = some j) (hs : [x0, V.int a, .int b, .int n].set j (.int w) = [x0, .int a', .int b', .int n'])
    (q : ∀ H', DrS K Hm r x0 cs many a' b' n' xs σ H' → Dn.nx σ H') : tAsg te (gSub (tVar 0) tk rSetL) Dn σ H :=
  he σ H s.env H (Ex.refl _) _ fun v H2 e2 r2 => by
    have ev := r2.raw_inv
    subst ev
    have g := s.grow e2
    refine ⟨.ref r, by rw [s.st]; rfl, ?_⟩
    refine hk σ H2 g.env H2 (Ex.refl _) _ fun v3 H3 e3 r3 => ?_
    have ev := r3.raw_inv
    subst ev
    have g3 := g.grow e3
    refine ⟨r, _, ix, j, rfl, rfl, g3.rd, hj, q _ ⟨Ex.mut g3.ex g3.no, g3.no, ?_, g3.sc, g3.st⟩⟩
    rw [upd_same, hs]
theorem dr_ifS {z0 : Int} (s : DrS K Hm r x0 cs many a b n xs σ H) (hz : xs[i]? = some (some z0)) (he : EvTE K tt (drE cs many a b n xs) k) (h1 : k = true → ∃ z, EvE K te (drE cs many a b n xs) (dI z))
    (q : ∀ z σ' H', DrS K Hm r x0 cs many a b n (xs.set i (some z)) σ' H' → Dn.nx σ' H') : tIfS tt (tAsg te (gName (i + 2))) tNext Dn σ H :=
  dr_if s he (fun hk H' s' => by
    obtain ⟨z, hz⟩ := h1 hk
    exact dr_set s' hz fun H2 s2 => q z _ H2 s2) fun hk H' s' => by
    refine q z0 σ H' ?_
    have e : xs.set i (some z0) = xs := by
      obtain ⟨hi, e⟩ := List.getElem?_eq_some_iff.mp hz
      rw [← e]
      exact List.set_getElem_self hi
    rw [e]
    exact s'
end
end Pa
set_option Elab.async false
set_option linter.all false
set_option maxRecDepth 100000
set_option maxHeartbeats 8000000
namespace Pa
open PySem PySem.Spec PyProof.Rows L2 Evl
section
variable {P : Program} {w : World} {K : PySem.W.Frag} {mg : Str → Option Value} {base : Heap}


/-- a new reader -/
def spRdr (K : PySem.W.Frag) : Sp := fun vs H Q _ => ∃ a, ∃ cells : List Int, vs = [.ref a] ∧ SqL K H a (cells.map V.int) ∧ cells.length ≤ 1000 ∧
  ∀ r x0 H', H r = none → Ex H (minus H' [r]) → H' r = some (.lst [x0, .int 0, .int 0, .int 0]) → Rp K (minus H' [r]) x0 (.lst (cutD (cells.map dI) none (some 63))) → Q (.ref r) H'

theorem sc__law_reader : FnScope ["_law_script"] ["_law_script"] d__law_reader.scope := ⟨rfl, rfl, rfl, by decide +kernel, rfl, by decide +kernel, by decide +kernel⟩
theorem ok__law_reader (T : Wd K mg base) : C8.Cal P w K mg base (0 + 1) "_law_reader" (spRdr K) [] := by
  refine cal_of T 47 63 (d := d__law_reader) rfl rfl rfl rfl rfl sc__law_reader (fun vs H Q E ⟨_, _, e, _⟩ => by rw [e]; rfl) (fun _ _ _ _ _ _ us hl => match us, hl with | [_], _ => rfl) fun cdv A outer s H vs Q E hr h => ?_
  refine ⟨_, (pss_one (ps_ret (pe_lst (pa_cons (pe_slice (z_sl (K := K) rfl) (pv 0) po_none (po_some pe_int)) (pa_cons pe_int (pa_cons pe_int (pa_cons pe_int pa_nil))))))), ?_⟩
  obtain ⟨a, cells, rfl, hS, hl, q⟩ := h
  obtain ⟨H0, eh, s0⟩ := start_ok (K := K) (H := H) (N := ["_law_script"]) (vs := [.ref a]) (ds := [.raw (.ref a)]) (.cons (.raw _) .nil)
  have hes : EvDs K (tCons (tSl (rSlX K) (tVar 0) tNoPart (tPart (tC (.int 63)))) (tCons (tC (.int 0)) (tCons (tC (.int 0)) (tCons (tC (.int 0)) tNil)))) (L2.start ["_law_script"] [.ref a]) H [.lst (cutD (cells.map dI) none (some 63)), dI 0, dI 0, dI 0] := by
    refine ds_cons (fun H1 e Q' k => ⟨.ref a, rfl, ?_⟩) ((es_cons ee_c (es_cons ee_c (es_cons ee_c es_nil))) _ H s0.env)
    refine (eo_non (K := K)) _ _ s0.env H1 e _ fun H2 e2 => (eo_some (n := 63) (ee_c (K := K))) _ _ s0.env H2 (e.trans e2) _ fun H3 e3 => .inl ⟨a, cells.map V.int, rfl, ?_, fun p hp => k _ _ ((e2.trans e3).trans (Ex.new hp)) (.lst upd_same (Rps.cut ?_))⟩
    · rcases hS with h | h
      · exact .inl (ex_rd ((e.trans e2).trans e3) h)
      · exact .inr h
    · have := Rps.raws (K := K) (H := upd H3 p (.lst (cutV (cells.map V.int) none (some 63)))) (xs := cells.map V.int)
      rwa [List.map_map] at this
  unfold tRet tLst
  refine hes H (Ex.refl _) _ fun vs H2 e2 r2 => ?_
  cases r2 with
  | @cons x0 _ _ _ r20 r2 =>
    cases r2 with
    | cons r21 r2 =>
      cases r2 with
      | cons r22 r2 =>
        cases r2 with
        | cons r23 r2 =>
          cases r2
          have h1 := r21.raw_inv
          have h2 := r22.raw_inv
          have h3 := r23.raw_inv
          subst h1 h2 h3
          refine ⟨by show 4 ≤ sizeLine; decide, fun p hp => ?_⟩
          have hpH : H p = none := fresh_back e2 hp
          have em : Ex H2 (minus (upd H2 p (.lst [x0, .int 0, .int 0, .int 0])) [p]) := ex_minus (Ex.new hp) fun b hb => by rw [List.mem_singleton.mp hb]; exact hp
          exact q p _ _ hpH (e2.trans em) upd_same (r20.mono em)

/-- the draw: any number below many -/
def spDraw (K : PySem.W.Frag) : Sp := fun vs H Q _ => ∃ r x0, ∃ cs : List Int, ∃ a b n many : Int, vs = [.ref r, .int many] ∧ 1 ≤ many ∧ many ≤ 1000000 ∧ H r = some (.lst [x0, .int a, .int b, .int n]) ∧ Rp K (minus H [r]) x0 (.lst (cs.map dI)) ∧ cs.length ≤ 1000 ∧ 0 ≤ a ∧ 0 ≤ b ∧ 0 ≤ n ∧ n ≤ 1000000 ∧
  ∀ m a' b' H', 0 ≤ m → m < many → 0 ≤ a' → 0 ≤ b' → Ex (minus H [r]) H' → H' r = some (.lst [x0, .int a', .int b', .int (n + 1)]) → Q (.int m) H'

theorem tnext_go {Dn : Ends} {σ : L2.St} {H : Hp} (h : Dn.nx σ H) : tNext Dn σ H := h
theorem tseq_go {t u : TS} {Dn : Ends} {σ : L2.St} {H : Hp} (h : t { Dn with nx := u Dn } σ H) : tSeq t u Dn σ H := h

theorem ints_ok (cs : List Int) : D.ok 1 (.lst (cs.map dI)) = true := by
  rw [D.ok]
  refine oks_all fun d hd => ?_
  obtain ⟨c, _, rfl⟩ := List.mem_map.mp hd
  rfl

theorem sc__law_draw : FnScope ["_law_reader_here", "_law_many", "_law_found", "_law_cell", "_law_once"] ["_law_reader_here", "_law_many"] d__law_draw.scope := ⟨rfl, rfl, rfl, by decide +kernel, rfl, by decide +kernel, by decide +kernel⟩
theorem ok__law_draw (T : Wd K mg base) : C8.Cal P w K mg base (0 + 1) "_law_draw" (spDraw K) [] := by
  refine cal_of T 48 64 (d := d__law_draw) rfl rfl rfl rfl rfl sc__law_draw (fun vs H Q E ⟨_, _, _, _, _, _, _, e, _⟩ => by rw [e]; rfl) (fun _ _ _ _ _ _ us hl => match us, hl with | [_, _], _ => rfl) fun cdv A outer s H vs Q E hr h => ?_
  refine ⟨_, (pss_cons (ps_asg (pe_op (z_add (K := K) rfl) (pe_ix (z_ix (K := K) rfl) (pv 0) pe_int (fun _ _ => rfl)) pe_int) (pg_sub (pv 0) pe_int set_list))
    (pss_cons (ps_if (pt_cmpR op_gt (pe_ix (z_ix (K := K) rfl) (pv 0) pe_int (fun _ _ => rfl)) pe_int (nomark _)) (pss_cons (ps_set (i := 2) sc__law_draw.nd rfl (by first | exact Or.inl rfl | exact Or.inr rfl) (pe_op op_mod (pe_ix (z_ix (K := K) rfl) (pv 0) pe_int (fun _ _ => rfl)) (pv 1)))
    (pss_cons (ps_asg (pe_op op_fdivW (pe_ix (z_ix (K := K) rfl) (pv 0) pe_int (fun _ _ => rfl)) (pv 1)) (pg_sub (pv 0) pe_int set_list))
    (pss_one (ps_ret (pv 2))))) pss_nil)
    (pss_cons (ps_set (i := 3) sc__law_draw.nd rfl (by first | exact Or.inl rfl | exact Or.inr rfl) pe_int)
    (pss_cons (ps_if (pt_cmpR (z_ne (K := K) hr.units rfl) (pe_ix (z_ix (K := K) rfl) (pv 0) pe_int (fun _ _ => rfl)) (pe_lst pa_nil) (nomark _)) (pss_one (ps_set (i := 3) sc__law_draw.nd rfl (by first | exact Or.inl rfl | exact Or.inr rfl) (pe_ix (z_ix (K := K) rfl) (pe_ix (z_ix (K := K) rfl) (pv 0) pe_int (fun _ _ => rfl)) (pe_op op_mod (pe_ix (z_ix (K := K) rfl) (pv 0) pe_int (fun _ _ => rfl)) (pe_callB (z_len (K := K) rfl) (by rfl) T.g_len (by decide +kernel) (pa_cons (pe_ix (z_ix (K := K) rfl) (pv 0) pe_int (fun _ _ => rfl)) pa_nil))) (fun _ _ => rfl)))) pss_nil)
    (pss_cons (ps_asg (pe_op (z_add (K := K) rfl) (pe_ix (z_ix (K := K) rfl) (pv 0) pe_int (fun _ _ => rfl)) pe_int) (pg_sub (pv 0) pe_int set_list))
    (pss_cons (ps_if (PW.pt (pw_and (pt_cmpR op_ge (pv 3) (pe_op op_pow pe_int pe_int) (nomark _)) (pw_and1 (pt_cmpR op_le (pe_ix (z_ix (K := K) rfl) (pv 0) pe_int (fun _ _ => rfl)) (pe_callB (z_len (K := K) rfl) (by rfl) T.g_len (by decide +kernel) (pa_cons (pe_ix (z_ix (K := K) rfl) (pv 0) pe_int (fun _ _ => rfl)) pa_nil)) (nomark _))))) (pss_cons (ps_asg (pe_op op_fdivW (pv 3) (pv 1)) (pg_sub (pv 0) pe_int set_list))
    (pss_one (ps_ret (pe_op op_mod (pv 3) (pv 1))))) pss_nil)
    (pss_cons (ps_set (i := 4) sc__law_draw.nd rfl (by first | exact Or.inl rfl | exact Or.inr rfl) (pe_op op_mod (pe_op op_pow (pe_op (z_add (K := K) rfl) (pe_op (z_add (K := K) rfl) (pe_op op_mod (pv 3) pe_int) (pe_op op_mul pe_int (pe_ix (z_ix (K := K) rfl) (pv 0) pe_int (fun _ _ => rfl)))) pe_int) pe_int) pe_int))
    (pss_one (ps_ret (pe_op op_mod (pe_op op_fdivW (pe_op op_mod (pe_op op_pow (pe_op (z_add (K := K) rfl) (pv 4) (pe_op op_mul pe_int (pe_ix (z_ix (K := K) rfl) (pv 0) pe_int (fun _ _ => rfl)))) pe_int) pe_int) pe_int) (pv 1))))))))))), ?_⟩
  obtain ⟨r, x0, cs, a, b, n, many, rfl, m1, m2, hr0, hx, hl, a0, b0, n0, n1, q⟩ := h
  have s0 : DrS K (minus H [r]) r x0 (cs.map dI) many a b n [none, none, none] (L2.start ["_law_reader_here", "_law_many", "_law_found", "_law_cell", "_law_once"] [.ref r, .int many]) H := ⟨minus_ex, minus_in (by simp), hr0, hx, rfl⟩
  refine dr_put s0 (ee_op (ee_op (ee_var rfl) ee_c fun _ => rd_ixXL (n := 3) rfl rfl) ee_c fun _ => rd_addI) ee_c (j := 3) rfl rfl fun H1 s1 => ?_
  refine dr_if s1 (te_test (ee_op (ee_op (ee_var rfl) ee_c fun _ => rd_ixXL (n := 2) rfl rfl) ee_c fun _ => rd_I0)) (fun hk H2 s2 => ?_) fun hk H2 s2 => ?_
  · refine dr_set s2 (i := 0) (ee_op (ee_op (ee_var rfl) ee_c fun _ => rd_ixXL (n := 2) rfl rfl) (ee_var rfl) fun _ => rd_I (by show 0 < many; omega)) fun H3 s3 => ?_
    refine dr_put s3 (ee_op (ee_op (ee_var rfl) ee_c fun _ => rd_ixXL (n := 2) rfl rfl) (ee_var rfl) fun _ => rd_I (wide_div (b := 20) (by omega) (by omega) (by decide) (by decide))) ee_c (j := 2) rfl rfl fun H4 s4 => ?_
    exact dr_ret s4 (ee_var rfl) fun H5 s5 => q _ _ _ H5 (Int.emod_nonneg _ (by omega)) (Int.emod_lt_of_pos _ (by omega)) a0 (Int.ediv_nonneg b0 (by omega)) s5.ex s5.rd
  refine tnext_go ?_
  dsimp only
  refine tseq_go ?_
  refine dr_set s2 (i := 1) (w := 31) ee_c fun H3 s3 => ?_
  dsimp only
  refine tseq_go ?_
  refine dr_ifS s3 (i := 1) (z0 := 31) (k := !decide (cs = [])) rfl (te_test ?_) (fun hk => ?_) fun z σ4 H4 s4 => ?_
  · refine ee_is (ee_op (ee_op (ee_var rfl) ee_c fun _ => rd_ixXL (n := 0) rfl rfl) (ee_lst es_nil (by simp)) fun _ => rd_neP (n := 1) (ints_ok cs) (m := 1) rfl (by decide) (by decide)) ?_
    cases cs with
    | nil => rfl
    | cons c cs => exact congrArg (fun k => dB (!k)) ne_nil_list
  · have hc : cs ≠ [] := by simpa using hk
    have hl0 : (0 : Int) < ((cs.map dI).length : Int) := by
      have := List.length_pos_iff.mpr hc
      simp
      omega
    have hm := Int.emod_nonneg a (b := ((cs.map dI).length : Int)) (by omega)
    have hm2 := Int.emod_lt_of_pos a hl0
    have hi : (a % ((cs.map dI).length : Int)).toNat < cs.length := by
      have : (cs.map dI).length = cs.length := by simp
      omega
    refine ⟨cs[(a % ((cs.map dI).length : Int)).toNat], ee_op (ee_op (ee_var rfl) ee_c fun _ => rd_ixXL (n := 0) rfl rfl) (ee_op (ee_op (ee_var rfl) ee_c fun _ => rd_ixXL (n := 1) rfl rfl) (ee_cb (es_cons (ee_op (ee_var rfl) ee_c fun _ => rd_ixXL (n := 0) rfl rfl) es_nil) fun _ => rc_lenL) fun _ => rd_I hl0) fun _ => rd_ixXL (n := (a % ((cs.map dI).length : Int)).toNat) (by omega) (by simp [hi])⟩
  refine dr_put s4 (ee_op (ee_op (ee_var rfl) ee_c fun _ => rd_ixXL (n := 1) rfl rfl) ee_c fun _ => rd_addI) ee_c (j := 1) rfl rfl fun H5 s5 => ?_
  refine dr_if s5 (te_and (te_test (ee_op (ee_var rfl) (ee_op ee_c ee_c fun _ => rd_I (⟨by decide, by decide, by decide⟩ : CPow 10 18)) fun _ => rd_I0)) fun _ => te_test (ee_op (ee_op (ee_var rfl) ee_c fun _ => rd_ixXL (n := 1) rfl rfl) (ee_cb (es_cons (ee_op (ee_var rfl) ee_c fun _ => rd_ixXL (n := 0) rfl rfl) es_nil) fun _ => rc_lenL) fun _ => rd_I0)) (fun hk H6 s6 => ?_) fun hk H6 s6 => ?_
  · have hz : (10 : Int) ^ (18 : Int).toNat ≤ z := by
      simp only [Bool.and_eq_true, decide_eq_true_eq] at hk
      exact hk.1
    have hz0 : 0 ≤ z := Int.le_trans (by decide) hz
    refine dr_put s6 (ee_op (ee_var rfl) (ee_var rfl) fun _ => rd_I (wide_div (b := 20) (by omega) (by omega) (by decide) (by decide))) ee_c (j := 2) rfl rfl fun H7 s7 => ?_
    exact dr_ret s7 (ee_op (ee_var rfl) (ee_var rfl) fun _ => rd_I (by show 0 < many; omega)) fun H8 s8 => q _ _ _ H8 (Int.emod_nonneg _ (by omega)) (Int.emod_lt_of_pos _ (by omega)) (by omega) (Int.ediv_nonneg hz0 (by omega)) s8.ex s8.rd
  · refine tnext_go ?_
    dsimp only
    refine tseq_go ?_
    have z1 := Int.emod_nonneg z (b := 2147483587) (by decide)
    have z2 := Int.emod_lt_of_pos z (b := 2147483587) (by decide)
    refine dr_set s6 (i := 2) (ee_op (ee_op (ee_op (ee_op (ee_op (ee_var rfl) ee_c fun _ => rd_I (by decide)) (ee_op ee_c (ee_op (ee_var rfl) ee_c fun _ => rd_ixXL (n := 3) rfl rfl) fun _ => rd_I (.inl (by decide))) fun _ => rd_addI) ee_c fun _ => rd_addI) ee_c fun _ => rd_I ⟨by decide, by decide, by omega⟩) ee_c fun _ => rd_I (by decide)) fun H7 s7 => ?_
    have o1 := Int.emod_nonneg ((z % 2147483587 + 7211 * (n + 1) + 3) ^ (5 : Int).toNat) (b := 2147483629) (by decide)
    have o2 := Int.emod_lt_of_pos ((z % 2147483587 + 7211 * (n + 1) + 3) ^ (5 : Int).toNat) (b := 2147483629) (by decide)
    generalize (z % 2147483587 + 7211 * (n + 1) + 3) ^ (5 : Int).toNat % 2147483629 = o at s7 o1 o2
    exact dr_ret s7 (ee_op (ee_op (ee_op (ee_op (ee_op (ee_var rfl) (ee_op ee_c (ee_op (ee_var rfl) ee_c fun _ => rd_ixXL (n := 3) rfl rfl) fun _ => rd_I (.inl (by decide))) fun _ => rd_addI) ee_c fun _ => rd_I ⟨by decide, by decide, by omega⟩) ee_c fun _ => rd_I (by decide)) ee_c fun _ => rd_I ⟨by decide, by decide⟩) (ee_var rfl) fun _ => rd_I (by show 0 < many; omega)) fun H8 s8 => q _ _ _ H8 (Int.emod_nonneg _ (by omega)) (Int.emod_lt_of_pos _ (by omega)) (by omega) b0 s8.ex s8.rd
end
end Pa
set_option Elab.async false
set_option linter.all false
set_option maxRecDepth 100000
set_option maxHeartbeats 4000000
/-! defs that are handed the reader; tests and comprehensions that draw -/
namespace Pa
open PySem PySem.Spec PyProof.Rows L2 Evl
section
variable {K : PySem.W.Frag} {ρ ρ' ρ1 ρ2 : Enw} {tv : List V} {td : List D} {σ σ' : L2.St} {Hs H0 H1 H2 H H' H0' : Hp} {v x : V} {d d' d1 d2 : D} {ds es : List D} {i j k n : Nat} {te ta tb tc : TE} {tx : TA} {tt tu : TT} {b : Bool} {e e' : En} {r p : Addr} {s : Option V}
variable {N N' : Enw → Prop} {R R' : D → Enw → Prop} {t u : TS} {P P' : D → Enw → Prop} {B B' : Bool → Enw → Prop}
theorem EnAt.mono (e0 : Ex H0 H0') (e1 : Ex H H2) (h : EnAt K H0 H s e) : EnAt K H0' H2 s e := by
  cases e with
  | no => trivial
  | rd d => obtain ⟨v, h1, h2⟩ := h; exact ⟨v, h1, h2.mono e0⟩
  | ow a ds => obtain ⟨h1, xs, h2, h3⟩ := h; exact ⟨h1, xs, e1 _ _ h2, h3.mono e0⟩
  | gh a ds => obtain ⟨xs, h2, h3⟩ := h; exact ⟨xs, e1 _ _ h2, h3.mono e0⟩
  | ot a ks => obtain ⟨h1, h2⟩ := h; exact ⟨h1, e1 _ _ h2⟩
  | rr a x0 cs l m n => obtain ⟨h1, h2, h3⟩ := h; exact ⟨h1, e1 _ _ h2, h3.mono e0⟩
  | od a ds => obtain ⟨h1, xs, h2, h3⟩ := h; exact ⟨h1, xs, e1 _ _ h2, h3.mono e0⟩
  | om a rows => obtain ⟨h1, h2, h3⟩ := h; exact ⟨h1, e1 _ _ h2, fun r hr => e1 _ _ (h3 r hr)⟩
  | ra b d => obtain ⟨h1, h2⟩ := h; exact ⟨h1, h2.mono e0⟩
/-- what is not owned by this one may change -/
theorem EnAt.keep (e0 : Ex H0 H0') (e1 : ∀ a o, a ∈ e.ad → H a = some o → H2 a = some o) (h : EnAt K H0 H s e) : EnAt K H0' H2 s e := by
  cases e with
  | no => trivial
  | rd d => obtain ⟨v, h1, h2⟩ := h; exact ⟨v, h1, h2.mono e0⟩
  | ow a ds => obtain ⟨h1, xs, h2, h3⟩ := h; exact ⟨h1, xs, e1 _ _ (List.mem_singleton.mpr rfl) h2, h3.mono e0⟩
  | gh a ds => obtain ⟨xs, h2, h3⟩ := h; exact ⟨xs, e1 _ _ (List.mem_singleton.mpr rfl) h2, h3.mono e0⟩
  | ot a ks => obtain ⟨h1, h2⟩ := h; exact ⟨h1, e1 _ _ (List.mem_singleton.mpr rfl) h2⟩
  | rr a x0 cs l m n => obtain ⟨h1, h2, h3⟩ := h; exact ⟨h1, e1 _ _ (List.mem_singleton.mpr rfl) h2, h3.mono e0⟩
  | od a ds => obtain ⟨h1, xs, h2, h3⟩ := h; exact ⟨h1, xs, e1 _ _ (List.mem_singleton.mpr rfl) h2, h3.mono e0⟩
  | om a rows => obtain ⟨h1, h2, h3⟩ := h; exact ⟨h1, e1 _ _ List.mem_cons_self h2, fun r hr => e1 _ _ (List.mem_cons_of_mem _ (List.mem_map.mpr ⟨r, hr, rfl⟩)) (h3 r hr)⟩
  | ra b d => obtain ⟨h1, h2⟩ := h; exact ⟨h1, h2.mono e0⟩
/-! ### defs that are handed the reader -/
structure RdB (M a b n : Int) : Prop where
  ha : 0 ≤ a
  hb : 0 ≤ b
  hn : 0 ≤ n
  le : n ≤ M
theorem minus_sub {H : Hp} {as bs : List Addr} (h : ∀ b ∈ bs, b ∈ as) : Ex (minus H as) (minus H bs) := fun a o q => by
  have ha : a ∉ as := fun hm => by rw [minus_in hm] at q; cases q
  rw [minus_out ha] at q
  rw [minus_out fun hb => ha (h a hb)]
  exact q
theorem StI.rdr {x0 : V} {cs : List Int} {a b n : Int} (s : StI K H0 ρ tv td σ H) (h : ρ[i]? = some (.rr r x0 cs a b n)) : σ[i]? = some (some (.ref r)) ∧ H r = some (.lst [x0, .int a, .int b, .int n]) ∧ Rp K H0 x0 (.lst (cs.map dI)) ∧ Ex H0 (minus H [r]) := by
  obtain ⟨x, hx, rfl, h1, h2⟩ := s.at_ i _ h
  refine ⟨hx, h1, h2, ex_minus s.ex fun c hc => ?_⟩
  rw [List.mem_singleton.mp hc]
  exact s.no r (ads_mem h (List.mem_singleton.mpr rfl))
/-- after what the reader was handed to -/
theorem StO.back {x0 : V} {cs : List Int} {a b n a' b' n' : Int} (s : StO K Hs ρ tv td σ H) (h : ρ[i]? = some (.rr r x0 cs a b n)) (e' : Ex (minus H [r]) H') (hr : H' r = some (.lst [x0, .int a', .int b', .int n'])) (rv : Rp K (minus H' [r]) v d) (f : d.tu = true) :
    StO K Hs (ρ.set i (.rr r x0 cs a' b' n')) (v :: tv) (d :: td) σ H' := by
  obtain ⟨H0, eh, s0⟩ := s
  have hsame : ads (ρ.set i (.rr r x0 cs a' b' n')) = ads ρ := ads_same h rfl
  obtain ⟨hv, _, h3, e0⟩ := s0.rdr h
  have hold : ∀ c ∈ ads ρ, (∃ xs, H' c = some (.lst xs)) ∨ ∃ xs, H' c = some (dD xs) := fun c hc => by
    by_cases hcr : c = r
    · rw [hcr]; exact .inl ⟨_, hr⟩
    · have hm : minus H [r] c = H c := minus_out (by simpa using hcr)
      rcases s0.held hc with ⟨xs, hx⟩ | ⟨xs, hx⟩
      · exact .inl ⟨xs, e' _ _ (hm.trans hx)⟩
      · exact .inr ⟨xs, e' _ _ (hm.trans hx)⟩
  have eA : Ex H0 (minus H' (ads ρ)) := ex_minus (e0.trans e') s0.no
  have km := keep_minus (K := K) hold
  refine ⟨minus H' (ads ρ), eh.trans eA, minus_ex, by rw [hsame]; exact fun b hb => minus_in hb, by rw [hsame]; exact s0.nd, by simp [s0.len], fun j en hj => ?_, .cons ((rv.mono minus_ex).keepT km f) (s0.tmp.mono eA)⟩
  by_cases hij : i = j
  · subst hij
    have hlt : i < ρ.length := (List.getElem?_eq_some_iff.mp h).1
    rw [List.getElem?_set_self hlt] at hj
    cases hj
    exact ⟨_, hv, rfl, hr, h3.mono eA⟩
  · rw [List.getElem?_set_ne hij] at hj
    obtain ⟨x, hxx, hat⟩ := s0.at_ j en hj
    refine ⟨x, hxx, hat.keep eA fun c o hc ho => e' c o ?_⟩
    have hne : r ≠ c := ads_ne s0.nd h hj hij (List.mem_singleton.mpr rfl) hc
    rw [minus_out (by simpa using hne.symm)]
    exact ho
theorem oo_draw {x0 : V} {cs : List Int} {a b n many M : Int} {E : XK} (h : ρ[i]? = some (.rr r x0 cs a b n)) (he : EvE K te (vw ρ) (dI many)) (m1 : 1 ≤ many) (m2 : many ≤ 1000000) (hc : cs.length ≤ 1000) (hb : RdB M a b n) (hM : M + 1 ≤ 1000000)
    (q : ∀ m a' b' n' : Int, 0 ≤ m → m < many → RdB (M + 1) a' b' n' → P (dI m) (ρ.set i (.rr r x0 cs a' b' n'))) : EO K (tCall (spDraw K) [] E (tCons (tVar i) (tCons te tNil))) ρ P := fun Hs tv td σ H s Q k => by
  obtain ⟨H0, eh, s0⟩ := id s
  obtain ⟨hv, _⟩ := s0.rdr h
  refine ⟨.ref r, hv, he σ H s0.env H (Ex.refl _) _ fun v H2 e2 r2 => ?_⟩
  have ev := r2.raw_inv
  subst ev
  have s2 : StO K Hs ρ tv td σ H2 := ⟨_, eh.trans (s0.growEx e2), s0.grow e2⟩
  obtain ⟨_, hx2, h3, e3⟩ := (s0.grow e2).rdr h
  have hle := hb.le
  refine ⟨r, x0, cs, a, b, n, many, rfl, m1, m2, hx2, h3.mono e3, hc, hb.ha, hb.hb, hb.hn, by omega, fun m a' b' H' l1 l2 l3 l4 e' hr' => ?_⟩
  exact k _ _ _ H' (q m a' b' (n + 1) l1 l2 ⟨l3, l4, by have := hb.hn; omega, by omega⟩) (s2.back h e' hr' (.raw _) rfl)
def spG (K : PySem.W.Frag) (cost : Int) (pre : List D → Prop) (post : List D → D → Prop) : Sp := fun vs H Q _ => ∃ r ws ds x0, ∃ cs : List Int, ∃ a b n M : Int, vs = .ref r :: ws ∧ Rps K (minus H [r]) ws ds ∧ pre ds ∧ H r = some (.lst [x0, .int a, .int b, .int n]) ∧ Rp K (minus H [r]) x0 (.lst (cs.map dI)) ∧ cs.length ≤ 1000 ∧ RdB M a b n ∧ M + cost ≤ 1000000 ∧
  ∀ v d H' a' b' n', post ds d → RdB (M + cost) a' b' n' → Ex (minus H [r]) H' → H' r = some (.lst [x0, .int a', .int b', .int n']) → Rp K (minus H' [r]) v d → Q v H'
theorem spG_len {cost : Int} {pre : List D → Prop} {post : List D → D → Prop} {n : Nat} (h : ∀ ds, pre ds → ds.length = n) (vs : List V) (H : Hp) (Q : VK) (E : XK) (hs : spG K cost pre post vs H Q E) : vs.length = n + 1 := by
  obtain ⟨r, ws, ds, x0, cs, a, b, n', M, rfl, rr, hp, _⟩ := hs
  rw [List.length_cons, rr.len, h ds hp]
theorem oo_callG {x0 : V} {cs : List Int} {a b n cost M : Int} {E : XK} {pre : List D → Prop} {post : List D → D → Prop} (h : ρ[i]? = some (.rr r x0 cs a b n)) (he : EvEs K tx (vw ρ) ds) (ht : D.tus ds = true) (hp : pre ds) (hc : cs.length ≤ 1000) (hb : RdB M a b n) (hM : M + cost ≤ 1000000)
    (q : ∀ d a' b' n', post ds d → RdB (M + cost) a' b' n' → d.tu = true ∧ P d (ρ.set i (.rr r x0 cs a' b' n'))) : EO K (tCall (spG K cost pre post) [] E (tCons (tVar i) tx)) ρ P := fun Hs tv td σ H s Q k => by
  obtain ⟨H0, eh, s0⟩ := id s
  obtain ⟨hv, _⟩ := s0.rdr h
  refine ⟨.ref r, hv, he σ H s0.env H (Ex.refl _) _ fun vs H2 e2 r2 => ?_⟩
  have s2 : StO K Hs ρ tv td σ H2 := ⟨_, eh.trans (s0.growEx e2), s0.grow e2⟩
  obtain ⟨_, hx2, h3, e3⟩ := (s0.grow e2).rdr h
  refine ⟨r, vs, ds, x0, cs, a, b, n, M, by simp, r2.keepT (keep_minus fun c hc => ?_) ht, hp, hx2, h3.mono e3, hc, hb, hM, fun v d H' a' b' n' hd hb' e' hr' rv => ?_⟩
  · rw [List.mem_singleton.mp hc]
    exact .inl ⟨_, hx2⟩
  · obtain ⟨t, p⟩ := q d a' b' n' hd hb'
    exact k _ _ _ H' p (s2.back h e' hr' rv t)
/-- such a def -/
theorem ro_funG {x : Str} {N' : List Str} {ws : List V} {x0 : V} {cs : List Int} {a b n M : Int} {Q : VK} {post : D → Prop} (h : RO K t (.rr r x0 cs a b n :: startE N'.length ds) (fun _ => False) (fun d ρ' => post d ∧ ∃ a' b' n', ρ'[0]? = some (.rr r x0 cs a' b' n') ∧ RdB M a' b' n'))
    (rr : Rps K (minus H [r]) ws ds) (hr : H r = some (.lst [x0, .int a, .int b, .int n])) (hx : Rp K (minus H [r]) x0 (.lst (cs.map dI)))
    (q : ∀ v d H' a' b' n', post d → RdB M a' b' n' → Ex (minus H [r]) H' → H' r = some (.lst [x0, .int a', .int b', .int n']) → Rp K (minus H' [r]) v d → Q v H') : t { nx := fun _ H' => Q .non H', rt := Q } (start (x :: N') (.ref r :: ws)) H := by
  have es : start (x :: N') (.ref r :: ws) = some (.ref r) :: start N' ws := by simp [L2.start]
  have s : StO K (minus H [r]) (.rr r x0 cs a b n :: startE N'.length ds) [] [] (start (x :: N') (.ref r :: ws)) H := by
    obtain ⟨H0, e0, s0⟩ := start_ok (N := N') rr
    have ea : ads (.rr r x0 cs a b n :: startE N'.length ds) = [r] := by
      show [r] ++ ads (startE N'.length ds) = [r]
      rw [ads_start]
      rfl
    refine ⟨minus H [r], Ex.refl _, minus_ex, by rw [ea]; exact fun b hb => minus_in hb, by rw [ea]; simp, by rw [es]; simp [s0.len], fun j en hj => ?_, .nil⟩
    rw [es]
    cases j with
    | zero => cases hj; exact ⟨_, rfl, rfl, hr, hx⟩
    | succ j =>
      obtain ⟨o, ho, hat⟩ := s0.at_ j en (by simpa using hj)
      exact ⟨o, by simpa using ho, hat.mono s0.ex minus_ex⟩
  refine h (minus H [r]) _ _ H s (fun _ _ _ z _ => z.elim) fun v d ρ' σ' H' ⟨hp, a', b', n', h0, hb⟩ s' => ?_
  obtain ⟨H0, e0, s1⟩ := s'
  obtain ⟨_, h1, h2, e3⟩ := s1.rdr h0
  have t := s1.tmp
  cases t with
  | cons rv _ => exact q v d H' a' b' n' hp hb (e0.trans s1.ex) h1 (rv.mono e3)
end
end Pa
set_option Elab.async false
set_option linter.all false
set_option maxRecDepth 100000
set_option maxHeartbeats 4000000
/-! defs that are handed the reader; tests and comprehensions that draw -/
namespace Pa
open PySem PySem.Spec PyProof.Rows L2 Evl
section
variable {K : PySem.W.Frag} {ρ ρ' ρ1 ρ2 : Enw} {tv : List V} {td : List D} {σ σ' : L2.St} {Hs H0 H1 H2 H H' H0' : Hp} {v x : V} {d d' d1 d2 : D} {ds es : List D} {i j k n : Nat} {te ta tb tc : TE} {tx : TA} {tt tu : TT} {b : Bool} {e e' : En} {r p : Addr} {s : Option V}
variable {N N' : Enw → Prop} {R R' : D → Enw → Prop} {t u : TS} {P P' : D → Enw → Prop} {B B' : Bool → Enw → Prop}
/-! ### tests that change what a name owns -/
def TO (K : PySem.W.Frag) (tt : TT) (ρ : Enw) (B : Bool → Enw → Prop) : Prop := ∀ Hs tv td σ H, StO K Hs ρ tv td σ H → ∀ Q : Bool → Hp → Prop, (∀ b ρ' H', B b ρ' → StO K Hs ρ' tv td σ H' → Q b H') → tt σ H Q
theorem TO.imp (h : TO K tt ρ B') (hp : ∀ b ρ', B' b ρ' → B b ρ') : TO K tt ρ B := fun Hs tv td σ H s Q q => h Hs tv td σ H s Q fun b ρ' H' p => q b ρ' H' (hp b ρ' p)
theorem to_ev (h : EvTE K tt (vw ρ) b) (q : B b ρ) : TO K tt ρ B := fun Hs tv td σ H s Q k => by
  obtain ⟨H0, eh, s⟩ := s
  exact h σ H s.env H (Ex.refl _) _ fun H2 e2 => k b ρ H2 q ⟨_, eh.trans (s.growEx e2), s.grow e2⟩
theorem to_test (h : EO K te ρ fun d ρ' => ∃ b, d = dB b ∧ B b ρ') : TO K (tTest te) ρ B := fun Hs tv td σ H s Q k => h Hs tv td σ H s _ fun v d ρ' H' ⟨b, e, q⟩ s' => by
  subst e
  have ev := s'.top.raw_inv
  exact ⟨b, ev, k b ρ' H' q s'.pop⟩
theorem to_B (h : EO K te ρ fun d ρ' => ∃ b, d = dB b ∧ B b ρ') : TO K (tB te) ρ B := to_test h
theorem to_not (h : TO K tt ρ fun b ρ' => B (!b) ρ') : TO K (tNot tt) ρ B := fun Hs tv td σ H s Q k => h Hs tv td σ H s _ fun b ρ' H' q s' => k (!b) ρ' H' q s'
theorem to_and (h : TO K tt ρ fun b ρ1 => (b = true → TO K tu ρ1 B) ∧ (b = false → B false ρ1)) : TO K (tAnd tt tu) ρ B := fun Hs tv td σ H s Q k => h Hs tv td σ H s _ fun b ρ' H' q s' => by
  cases b with
  | true => exact q.1 rfl Hs tv td σ H' s' Q k
  | false => exact k false ρ' H' (q.2 rfl) s'
theorem to_or (h : TO K tt ρ fun b ρ1 => (b = true → B true ρ1) ∧ (b = false → TO K tu ρ1 B)) : TO K (tOr tt tu) ρ B := fun Hs tv td σ H s Q k => h Hs tv td σ H s _ fun b ρ' H' q s' => by
  cases b with
  | true => exact k true ρ' H' (q.1 rfl) s'
  | false => exact q.2 rfl Hs tv td σ H' s' Q k
theorem oo_if (h : TO K tt ρ fun b ρ1 => (b = true → EO K ta ρ1 P) ∧ (b = false → EO K tb ρ1 P)) : EO K (tIf tt ta tb) ρ P := fun Hs tv td σ H s Q k => h Hs tv td σ H s _ fun b ρ' H' q s' => by
  cases b with
  | true => exact q.1 rfl Hs tv td σ H' s' Q k
  | false => exact q.2 rfl Hs tv td σ H' s' Q k
theorem ro_ifO (h : TO K tt ρ fun b ρ1 => (b = true → RO K t ρ1 N R) ∧ (b = false → RO K u ρ1 N R)) : RO K (tIfS tt t u) ρ N R := fun Hs Dn σ H s kn kr => h Hs [] [] σ H s _ fun b ρ' H' q s' => by
  cases b with
  | true => exact q.1 rfl Hs Dn σ H' s' kn kr
  | false => exact q.2 rfl Hs Dn σ H' s' kn kr
/-- a loop that never runs -/
theorem ro_while0 (h : EvTE K tt (vw ρ) false) (q : N ρ) : RO K (tWhile tt t) ρ N R := fun Hs Dn σ H s kn kr => by
  refine ⟨fun _ σ' H' => StO K Hs ρ [] [] σ' H', ⟨0, s⟩, fun m σ' H' s' => ?_⟩
  obtain ⟨H0, eh, s0⟩ := s'
  refine h σ' H' s0.env H' (Ex.refl _) _ fun H2 e2 => ?_
  exact kn ρ σ' H2 q ⟨_, eh.trans (s0.growEx e2), s0.grow e2⟩
/-! ### new things, the reader owned -/
theorem keep_minusO (s : StI K H0 ρ tv td σ H) (e : Ex H H2) : ∀ b ys, SqT K H2 b ys → SqT K (minus H2 (ads ρ)) b ys := keep_minus fun c hc => by
  rcases s.held hc with ⟨xs, hx⟩ | ⟨xs, hx⟩
  · exact .inl ⟨xs, e _ _ hx⟩
  · exact .inr ⟨xs, e _ _ hx⟩
/-- a list written out -/
theorem oo_lit (he : EvEs K tx (vw ρ) ds) (f : D.tus ds = true) (hz : ds.length ≤ 100000) (q : P (.lst ds) ρ) : EO K (tLst tx) ρ P := fun Hs tv td σ H s Q k => by
  obtain ⟨H0, eh, s0⟩ := s
  refine he σ H s0.env H (Ex.refl _) _ fun vs H2 e2 rs => ⟨sz_of (by rw [rs.len]; exact hz), fun p hp => ?_⟩
  have e3 : Ex H (upd H2 p (.lst vs)) := e2.trans (Ex.new hp)
  refine k _ _ ρ _ q ⟨_, eh.trans (s0.growEx e3), (s0.grow e3).push (.lst (xs := vs) ?_ ?_)⟩
  · rw [minus_out (s0.ne_of_fresh e2 hp)]
    exact upd_same
  · exact (rs.mono (Ex.new hp)).keepT (keep_minusO s0 e3) f
theorem oo_tup3 (h1 : EvE K ta (vw ρ) d1) (f1 : Fit ρ d1) (h2 : EvE K tb (vw ρ) d2) (f2 : Fit ρ d2) (h3 : EO K tc ρ fun d ρ' => Fit ρ' (.tup [d1, d2, d]) ∧ P (.tup [d1, d2, d]) ρ') : EO K (tTup (tCons ta (tCons tb (tCons tc tNil)))) ρ P := fun Hs tv td σ H s Q k =>
  s.ev h1 f1 fun v1 H1 _ s1 => s1.ev h2 f2 fun v2 H2 _ s2 => h3 Hs _ _ σ H2 s2 _ fun v3 d ρ' H3 ⟨f, q⟩ s3 => by
    refine ⟨by show 3 ≤ sizeLine; decide, fun p hp => ?_⟩
    have r3 := s3.top
    have r2 := s3.pop.top
    have r1 := s3.pop.pop.top
    refine k _ _ ρ' _ q (s3.pop.pop.pop.res (Ex.new hp) (.tup (SqT.of upd_same) ?_) f)
    exact (Rps.cons r1 (.cons r2 (.cons r3 .nil))).mono (Ex.new hp)
/-- a, b = an expression, a new list -/
theorem ro_parO (h : EO K te ρ fun d ρ' => (∀ e, (ρ'.set i (.rd d))[j]? = some e → e.ad = []) ∧ ∀ a, N ((ρ'.set i (.rd d)).set j (.ow a []))) : RO K (tPar i j (tCons te (tCons (tLst tNil) tNil))) ρ N R := fun Hs Dn σ H s kn _ => h Hs [] [] σ H s _ fun v d ρ' H' ⟨hj, q⟩ s' => by
  refine ⟨by show 0 ≤ sizeLine; decide, fun p hp => ⟨_, _, rfl, ?_⟩⟩
  obtain ⟨H0, eh, s0⟩ := s'.set (i := i)
  have hpH : H' p = none := hp
  have e3 : Ex H' (upd H' p (.lst [])) := Ex.new hp
  have s1 := s0.grow1 e3 hpH
  exact kn _ _ _ (q p) ⟨_, eh.trans (s0.growEx1 e3 hpH), s1.new hj rfl (s0.ne_of_fresh (Ex.refl _) hp) (minus_in List.mem_cons_self) ⟨rfl, [], upd_same, .nil⟩⟩
/-- one owned list is data from here, others stay owned -/
theorem StI.giveI {a : Addr} (s : StI K H0 ρ tv td σ H) (h : ρ[i]? = some (.ow a ds)) : StI K (minus H (ads (ρ.set i (.rd (.lst ds))))) (ρ.set i (.rd (.lst ds))) tv td σ H := by
  obtain ⟨g1, g2⟩ := ads_set_sub (d := .lst ds) (ρ := ρ) (i := i)
  have ee : Ex H0 (minus H (ads (ρ.set i (.rd (.lst ds))))) := ex_minus s.ex fun b hb => s.no b (g1 b hb)
  have hlt : i < ρ.length := (List.getElem?_eq_some_iff.mp h).1
  have hout : a ∉ ads (ρ.set i (.rd (.lst ds))) := fun hm => by
    obtain ⟨e, he, hae⟩ := List.mem_flatMap.mp hm
    obtain ⟨j, hj⟩ := List.getElem?_of_mem he
    by_cases hij : i = j
    · subst hij
      rw [List.getElem?_set_self hlt] at hj
      cases hj
      cases hae
    · rw [List.getElem?_set_ne hij] at hj
      exact ads_ne s.nd h hj hij (List.mem_singleton.mpr rfl) hae rfl
  refine ⟨minus_ex, fun b hb => minus_in hb, g2 s.nd, by simp [s.len], fun j en hj => ?_, s.tmp.mono ee⟩
  by_cases hij : i = j
  · subst hij
    rw [List.getElem?_set_self hlt] at hj
    cases hj
    obtain ⟨h1, xs, h2, h3⟩ := s.owned h
    exact ⟨_, h1, _, rfl, .lst (by rw [minus_out hout]; exact h2) (h3.mono ee)⟩
  · rw [List.getElem?_set_ne hij] at hj
    obtain ⟨o, ho, hat⟩ := s.at_ j en hj
    exact ⟨o, ho, hat.mono ee (Ex.refl _)⟩
theorem ro_giveI {a : Addr} (h : ρ[i]? = some (.ow a ds)) (q : RO K t (ρ.set i (.rd (.lst ds))) N R) : RO K t ρ N R := fun Hs Dn σ H s kn kr => by
  obtain ⟨H0, eh, s0⟩ := s
  exact q Hs Dn σ H ⟨_, eh.trans (ex_minus s0.ex fun b hb => s0.no b ((ads_set_sub (d := .lst ds) (ρ := ρ) (i := i)).1 b hb)), s0.giveI h⟩ kn kr
/-! ### continuations -/
theorem ro_sO (h : EO K te ρ fun d ρ' => RO K u (ρ'.set i (.rd d)) N R) : RO K (tSeq (tAsg te (gName i)) u) ρ N R := ro_seq (fun ρ' => RO K u ρ' N R) (ro_setO h) fun ρ' h => h
/-- a statement, then whatever follows at its end -/
theorem ro_sC (h : RO K t ρ (fun ρ' => RO K u ρ' N R) R) : RO K (tSeq t u) ρ N R := ro_seq (fun ρ' => RO K u ρ' N R) h fun ρ' h => h
theorem oo_opL {a : D} {op : R2} (ha : EvE K ta (vw ρ) a) (f : Fit ρ a) (hb : EO K tb ρ fun b ρ2 => ∃ d, (∀ H, RD K op a b H d) ∧ Fit ρ2 d ∧ P d ρ2) : EO K (tOp op ta tb) ρ P := oo_op (Pa := fun a' ρ' => a' = a ∧ ρ' = ρ) (oo_ev ha f ⟨rfl, rfl⟩) fun a' ρ' ⟨e1, e2⟩ => by
  subst e1 e2
  exact hb
theorem oo_opLit {op : R2} (he : EvEs K tx (vw ρ) ds) (f : D.tus ds = true) (hz : ds.length ≤ 100000) (hb : EO K tb ρ fun b ρ2 => ∃ d, (∀ H, RD K op (.lst ds) b H d) ∧ Fit ρ2 d ∧ P d ρ2) : EO K (tOp op (tLst tx) tb) ρ P := oo_op (Pa := fun a' ρ' => a' = .lst ds ∧ ρ' = ρ) (oo_lit he f hz ⟨rfl, rfl⟩) fun a' ρ' ⟨e1, e2⟩ => by
  subst e1 e2
  exact hb
theorem oo_opR {op : R2} (ha : EO K ta ρ fun a ρ1 => ∃ b d, EvE K tb (vw ρ1) b ∧ Fit ρ1 b ∧ (∀ H, RD K op a b H d) ∧ Fit ρ1 d ∧ P d ρ1) : EO K (tOp op ta tb) ρ P := oo_op ha fun a ρ1 ⟨b, d, hb, f, hr, f2, p⟩ => oo_ev hb f ⟨d, hr, f2, p⟩
theorem RdB.up {M M' a b n : Int} (h : RdB M a b n) (hm : M ≤ M') : RdB M' a b n := ⟨h.ha, h.hb, h.hn, Int.le_trans h.le hm⟩
theorem pick_int {zs : List Int} {m : Int} (h0 : 0 ≤ m) (h1 : m < (zs.length : Int)) : ∃ z ∈ zs, ∀ H, RD K (rIx K) (.lst (zs.map dI)) (dI m) H (dI z) := by
  have hl : m.toNat < zs.length := by omega
  exact ⟨zs[m.toNat], List.getElem_mem hl, fun H => rd_ixXL (n := m.toNat) (by omega) (by simp [hl])⟩
theorem pick_str {zs : List Str} {m : Int} (h0 : 0 ≤ m) (h1 : m < (zs.length : Int)) : ∃ z ∈ zs, ∀ H, RD K (rIx K) (.lst (sD zs)) (dI m) H (dS z) := by
  have hl : m.toNat < zs.length := by omega
  exact ⟨zs[m.toNat], List.getElem_mem hl, fun H => rd_ixXL (n := m.toNat) (by omega) (by simp [sD, hl])⟩
end
end Pa
set_option Elab.async false
set_option linter.all false
set_option maxRecDepth 100000
set_option maxHeartbeats 4000000
/-! a comprehension whose test draws; a range whose length is drawn -/
namespace Pa
open PySem PySem.Spec PyProof.Rows L2 Evl
section
variable {K : PySem.W.Frag} {ρ ρ' ρ1 ρ2 : Enw} {tv : List V} {td : List D} {σ σ' : L2.St} {Hs H0 H1 H2 H H' H0' : Hp} {v x : V} {d d' d1 d2 : D} {ds es : List D} {i j k n : Nat} {te ta tb tc : TE} {tx : TA} {tt tu : TT} {b : Bool} {e e' : En} {r p : Addr} {wi : TI} {g : TG}
variable {N N' : Enw → Prop} {R R' : D → Enw → Prop} {t u : TS} {P P' : D → Enw → Prop}
/-- a slot that nothing is known of -/
theorem StI.off (s : StI K H0 ρ tv td σ H) (h : ρ[j]? = some e) (ha : e.ad = []) {o : Option V} : StI K H0 (ρ.set j .no) tv td (σ.set j o) H := by
  have hs : ads (ρ.set j .no) = ads ρ := ads_same h ha
  refine ⟨s.ex, by rw [hs]; exact s.no, by rw [hs]; exact s.nd, by simp [s.len], fun i en hi => ?_, s.tmp⟩
  have hlt : j < ρ.length := (List.getElem?_eq_some_iff.mp h).1
  by_cases hij : j = i
  · subst hij
    rw [List.getElem?_set_self hlt] at hi
    cases hi
    exact ⟨o, by rw [List.getElem?_set_self (by rw [s.len]; exact hlt)], trivial⟩
  · rw [List.getElem?_set_ne hij] at hi
    obtain ⟨u, hu, hat⟩ := s.at_ i en hi
    exact ⟨u, by rw [List.getElem?_set_ne hij]; exact hu, hat⟩
theorem StO.off (s : StO K Hs ρ tv td σ H) (h : ρ[j]? = some e) (ha : e.ad = []) {o : Option V} : StO K Hs (ρ.set j .no) tv td (σ.set j o) H := let ⟨H0, e0, s⟩ := s; ⟨H0, e0, s.off h ha⟩
theorem set_id {α : Type} {l : List α} {a : α} {i : Nat} (h : l[i]? = some a) : l.set i a = l := by
  obtain ⟨hi, e⟩ := List.getElem?_eq_some_iff.mp h
  rw [← e]
  exact List.set_getElem_self hi
/-- the new list of a comprehension, no name's yet -/
theorem StI.ghost (s : StI K H0 ρ tv td σ H) (hk : ∀ e, ρ[k]? = some e → e.ad = []) (hlt : k < ρ.length) (hp : H p = none) : StI K H0 (ρ.set k (.gh p [])) tv td σ (upd H p (.lst [])) := by
  obtain ⟨h1, h2⟩ := ads_new (ρ := ρ) (i := k) (e' := .gh p []) hk
  have hno : H0 p = none := fresh_back s.ex hp
  have e3 : Ex H (upd H p (.lst [])) := Ex.new hp
  refine ⟨s.ex.trans e3, fun b hb => ?_, h2 s.nd (by simp [En.ad]) (fun b hb => ?_), by simp [s.len], fun j en hj => ?_, s.tmp⟩
  · rcases h1 b hb with h | h
    · rw [List.mem_singleton.mp h]; exact hno
    · exact s.no b h
  · rw [List.mem_singleton.mp hb]; exact s.ne_of_fresh (Ex.refl _) hp
  · by_cases hij : k = j
    · subst hij
      rw [List.getElem?_set_self hlt] at hj
      cases hj
      have hk2 : k < σ.length := by rw [s.len]; exact hlt
      exact ⟨σ[k], by simp [hk2], [], upd_same, .nil⟩
    · rw [List.getElem?_set_ne hij] at hj
      obtain ⟨o, ho, hat⟩ := s.at_ j en hj
      exact ⟨o, ho, hat.mono (Ex.refl _) e3⟩
theorem ro_lcG (I : Addr → Nat → List D → Enw → Prop) (hw : WO K wi ρ ds) (hf : ∀ d ∈ ds, d.tu = true) (hz : ds.length ≤ 50000) (hk : ∀ e, ρ[k]? = some e → e.ad = []) (hkl : k < ρ.length) (hjk : j ≠ k) (hj0 : ρ[j]? = some .no)
    (hg : ∀ a i es ρ', I a i es ρ' → ρ'[k]? = some (.gh a es) ∧ ρ'[j]? = some .no ∧ es.length ≤ i)
    (h0 : ∀ a, I a 0 [] (ρ.set k (.gh a [])))
    (hs : ∀ a i d es ρ', ds[i]? = some d → I a i es ρ' → TO K tt (ρ'.set j (.rd d)) fun b ρ2 => (b = true → ∃ e, EvE K te (vw ρ2) e ∧ e.tu = true ∧ ρ2[k]? = some (.gh a es) ∧ (∃ e', ρ2[j]? = some (.rd e')) ∧ I a (i + 1) (es ++ [e]) ((ρ2.set j .no).set k (.gh a (es ++ [e])))) ∧ (b = false → (∃ e', ρ2[j]? = some (.rd e')) ∧ I a (i + 1) es (ρ2.set j .no)))
    (hd : ∀ a es ρ', I a ds.length es ρ' → N (ρ'.set k (.ow a es))) : RO K (tAsg (tLc wi (gName j) tt te [j]) (gName k)) ρ N R := fun Hs Dn σ H s kn kr => by
  have hls : σ.length = ρ.length := by
    obtain ⟨_, _, q⟩ := id s
    exact q.len
  refine hw Hs σ H s _ fun J H0 H2 eh s2 jk => ?_
  intro Dl hD
  obtain ⟨H9, e9, s9⟩ := s2
  have hlj : j < ρ.length := (List.getElem?_eq_some_iff.mp hj0).1
  have sg : StO K H0 (ρ.set k (.gh Dl [])) [] [] (σ.set j none) (upd H2 Dl (.lst [])) := ⟨H9, e9, by
    have q := (s9.ghost hk hkl hD).off (j := j) (e := .no) (by rw [List.getElem?_set_ne hjk.symm]; exact hj0) rfl (o := none)
    rwa [set_id (i := j) (by rw [List.getElem?_set_ne hjk.symm]; exact hj0)] at q⟩
  refine ⟨fun i m H' => m = ds.length - i ∧ i ≤ ds.length ∧ ∃ es ρ', I Dl i es ρ' ∧ StO K H0 ρ' [] [] (σ.set j none) H', ⟨ds.length, by simp, Nat.zero_le _, [], _, h0 Dl, sg⟩, ?_⟩
  rintro i m H3 ⟨rfl, hi, es, ρ', p, s3⟩
  obtain ⟨g1, g2, g3⟩ := hg _ _ _ _ p
  by_cases hlt : i < ds.length
  · refine .inr ⟨jk.go i H3 s3.exs hlt, fun H' => i + 1 ≤ ds.length ∧ ∃ es ρ', I Dl (i + 1) es ρ' ∧ StO K H0 ρ' [] [] (σ.set j none) H', fun H' p' => ⟨ds.length - (i + 1), by omega, rfl, p'⟩, fun x H4 y => ?_⟩
    obtain ⟨d, hd', e', r'⟩ := jk.yld i H3 x H4 s3.exs hlt y
    obtain ⟨H5, e5, s4⟩ := s3
    have s5 : StO K H0 ρ' [x] [d] (σ.set j none) H4 := ⟨_, e5.trans (s4.growEx e'), (s4.grow e').push (s4.fit e' r' (.inl (hf d (List.mem_of_getElem? hd'))))⟩
    have s6 : StO K H0 (ρ'.set j (.rd d)) [] [] ((σ.set j none).set j (some x)) H4 := s5.set
    refine ⟨by show ((L2.wipe σ [j]).set j (some x)).set j none = _; unfold L2.wipe L2.wipe; simp, ?_⟩
    refine hs Dl i d es ρ' hd' p H0 [] [] _ H4 s6 _ fun b ρ2 H6 q s7 => ?_
    cases b with
    | true =>
      obtain ⟨e, he, ht, gk, ⟨e', gj⟩, pI⟩ := q.1 rfl
      refine s7.ev he (.inl ht) fun v H7 _ s8 => ?_
      obtain ⟨H8, e8, s8⟩ := s8
      obtain ⟨o, ho, xs, hx, rx⟩ := s8.at_ k _ gk
      have t := s8.tmp
      cases t with
      | cons rv _ =>
        refine ⟨xs, hx, sz_lt (by rw [rx.len]; omega), hlt, es ++ [e], _, pI, H8, e8, ?_⟩
        have s10 : StI K H8 ρ2 [] [] ((σ.set j none).set j (some x)) H7 := { s8 with tmp := .nil }
        have s11 := s10.off (o := none) gj rfl
        rw [List.set_set] at s11
        have gk2 : (ρ2.set j .no)[k]? = some (.gh Dl es) := by rw [List.getElem?_set_ne hjk]; exact gk
        have s12 := s11.mut (e' := .gh Dl (es ++ [e])) gk2 (List.mem_singleton.mpr rfl) rfl (o := .lst (xs ++ [v])) fun o q => ⟨_, upd_same, rx.snoc rv⟩
        rwa [List.set_set] at s12
    | false =>
      obtain ⟨⟨e', gj⟩, pI⟩ := q.2 rfl
      refine ⟨hlt, es, _, pI, ?_⟩
      have s11 := s7.off (o := none) gj rfl
      rwa [List.set_set, List.set_set] at s11
  · have ei : i = ds.length := by omega
    subst ei
    refine .inl ⟨jk.stop H3 s3.exs, ?_⟩
    refine kn _ _ _ (hd Dl es ρ' p) ?_
    obtain ⟨H5, e5, s4⟩ := s3
    have hlj2 : j < σ.length := by rw [hls]; exact hlj
    have s5 := s4.off (o := σ[j]) g2 rfl
    rw [set_id g2, List.set_set, set_id (by simp [hlj2])] at s5
    have hsame : ads (ρ'.set k (.ow Dl es)) = ads ρ' := ads_same g1 rfl
    obtain ⟨_, _, xs, hx, rx⟩ := s5.at_ k _ g1
    refine ⟨H5, eh.trans e5, s5.ex, by rw [hsame]; exact s5.no, by rw [hsame]; exact s5.nd, by simp [s5.len], at_set s5.len ⟨rfl, xs, hx, rx⟩ fun q en _ hq => s5.at_ q en hq, .nil⟩
/-- for k in range(a drawn number) -/
theorem ro_rngO (h : EO K te ρ fun d ρ' => ∃ m : Int, d = dI m ∧ 0 ≤ m ∧ m ≤ 100000 ∧ ∃ Pv : Nat → Enw → Prop, Pv 0 ρ' ∧ (∀ i ρ', i < m.toNat → Pv i ρ' → ∃ ρ'', GO K g (dI (i : Int)) ρ' ρ'' ∧ RO K t ρ'' (Pv (i + 1)) R) ∧ ∀ ρ', Pv m.toNat ρ' → N ρ') : RO K (tFor (iRng1 (tCons te tNil)) g t) ρ N R := fun Hs Dn σ H s kn kr => h Hs [] [] σ H s _ fun v d ρ' H' ⟨m, e, m0, m1, Pv, p0, ps, pd⟩ s' => by
  subst e
  have ev := s'.top.raw_inv
  subst ev
  have hw : WO K (iRng1 (tCons (tC (.int m)) tNil)) ρ' (rngD m.toNat) := wo_rng (es_cons ee_c es_nil) ⟨m0, m1⟩
  have hr := ro_forX (N := N) (R := R) (g := g) (t := t) hw Pv p0 (fun d hd => by
    obtain ⟨i, hi⟩ := List.getElem?_of_mem hd
    have : i < m.toNat := by
      have := (List.getElem?_eq_some_iff.mp hi).1
      rwa [rngD_len] at this
    rw [rngD_get this] at hi
    cases hi
    rfl) (fun i d ρ'' hd p => by
    have hlt : i < m.toNat := by
      have := (List.getElem?_eq_some_iff.mp hd).1
      rwa [rngD_len] at this
    rw [rngD_get hlt] at hd
    cases hd
    exact ps i ρ'' hlt p) (by rw [rngD_len]; exact pd)
  exact hr Hs Dn σ H' s'.pop kn kr
end
end Pa
set_option Elab.async false
set_option linter.all false
set_option maxRecDepth 100000
set_option maxHeartbeats 8000000
namespace Pa
open PySem PySem.Spec PyProof.Rows L2 Evl
section
variable {P : Program} {w : World} {K : PySem.W.Frag} {mg : Str → Option Value} {base : Heap}


def pool6 : List Str := ["ann", "b", "bob", "cy", "dan", "zzzzzzzz"]
/-- a row that may be drawn -/
structure RndRow (x : Str) (r : Row) : Prop where
  nm : r.nm = x
  f0 : 0 ≤ r.fst
  fl : r.fst ≤ r.lst
  l1 : r.lst ≤ 24
  kd : r.kind ∈ kindsS
  p0 : 0 ≤ r.pat
  p1 : r.pat ≤ 60
  hp : r.kind = "host" → r.pat = 0
  wn : r.kind ≠ "waiter" → r.waits = []
  ws : List.Sublist r.waits (pool6.filter fun y => decide (y ≠ x))
def RndRows (n : Nat) (rs : List Row) : Prop := rs.length = n ∧ ∀ (i : Nat) (r : Row), rs[i]? = some r → ∃ x, pool6[i]? = some x ∧ RndRow x r
theorem RndRows.snoc {n : Nat} {rs : List Row} {r : Row} {x : Str} (h : RndRows n rs) (hx : pool6[n]? = some x) (hr : RndRow x r) : RndRows (n + 1) (rs ++ [r]) := by
  refine ⟨by simp [h.1], fun i q hq => ?_⟩
  by_cases hi : i < rs.length
  · rw [List.getElem?_append_left hi] at hq
    exact h.2 i q hq
  · rw [List.getElem?_append_right (by omega)] at hq
    have hn : i - rs.length = 0 := by
      cases e : i - rs.length with
      | zero => rfl
      | succ k => rw [e] at hq; simp at hq
    rw [hn] at hq
    have : i = n := by have := h.1; omega
    subst this
    cases hq
    exact ⟨x, hx, hr⟩
theorem sub_snoc {xs ys : List Str} {x : Str} {p : Str → Bool} {i : Nat} (h : List.Sublist xs ((ys.take i).filter p)) (hx : ys[i]? = some x) : (p x = true → List.Sublist (xs ++ [x]) ((ys.take (i + 1)).filter p)) ∧ List.Sublist xs ((ys.take (i + 1)).filter p) := by
  obtain ⟨hi, rfl⟩ := List.getElem?_eq_some_iff.mp hx
  rw [← List.take_append_getElem hi, List.filter_append]
  refine ⟨fun hp => ?_, h.trans (List.sublist_append_left _ _)⟩
  have : [ys[i]].filter p = [ys[i]] := by simp [hp]
  rw [this]
  exact h.append (List.Sublist.refl _)
def gRows : List D → D → Prop := fun _ d => ∃ rs, d = .tup (rowsD rs) ∧ RndRows 6 rs
abbrev prRows : List D → Prop := fun ds => ds = [dI 6, dI 6]

theorem sc__law_random_rows : FnScope ["_law_reader_here", "_law_least", "_law_most", "_law_pool", "_law_many", "_law_found", "_law_one", "_law_start", "_law_stop", "_law_kind", "_law_holds", "_law_some", "_law_other"] ["_law_reader_here", "_law_least", "_law_most"] d__law_random_rows.scope := ⟨rfl, rfl, rfl, by decide +kernel, rfl, by decide +kernel, by decide +kernel⟩
theorem ok__law_random_rows (T : Wd K mg base) : C8.Cal P w K mg base (1 + 1) "_law_random_rows" (spG K 100 prRows gRows) [] := by
  refine cal_of T 50 66 (d := d__law_random_rows) rfl rfl rfl rfl rfl sc__law_random_rows (spG_len (n := 2) fun ds e => by rw [e]; rfl) (fun _ _ _ _ _ _ us hl => match us, hl with | [_, _, _], _ => rfl) fun cdv A outer s H vs Q E hr h => ?_
  refine ⟨_, (pss_cons (ps_set (i := 3) sc__law_random_rows.nd rfl (by first | exact Or.inl rfl | exact Or.inr rfl) (pe_lst (pa_cons pe_str (pa_cons pe_str (pa_cons pe_str (pa_cons pe_str (pa_cons pe_str (pa_cons pe_str pa_nil))))))))
    (pss_cons (ps_par (i := 4) (j := 5) (by rfl) sc__law_random_rows.nd rfl rfl (by decide) rfl rfl (pa_cons (pe_op (z_add (K := K) rfl) (pv 1) (C8.pe_c (ok__law_draw T) hr (by decide) rfl (pa_cons (pv 0) (pa_cons (pe_op (z_add (K := K) rfl) (pe_op op_sub (pv 2) (pv 1)) pe_int) pa_nil)))) (pa_cons (pe_lst pa_nil) pa_nil)) (by rfl))
    (pss_cons (ps_while PassesOwn.never (pt_cmpR op_gt (pe_callB (z_len (K := K) rfl) (by rfl) T.g_len (by decide +kernel) (pa_cons (pv 3) pa_nil)) (pv 4) (nomark _)) (pss_one (ps_expr (pe_bm PySem.F.plainAttrs_list PySem.F.slot_list_pop PySem.F.type_list_pop mt_popAt (pv 3) (pa_cons (C8.pe_c (ok__law_draw T) hr (by decide) rfl (pa_cons (pv 0) (pa_cons (pe_callB (z_len (K := K) rfl) (by rfl) T.g_len (by decide +kernel) (pa_cons (pv 3) pa_nil)) pa_nil))) pa_nil)))))
    (pss_cons (ps_for PassesOwn.never rfl (zi_any (K := K) rfl (pv 3)) (pg_name (i := 6) sc__law_random_rows.nd rfl (by first | exact Or.inl rfl | exact Or.inr rfl)) (pss_cons (ps_set (i := 7) sc__law_random_rows.nd rfl (by first | exact Or.inl rfl | exact Or.inr rfl) (C8.pe_c (ok__law_draw T) hr (by decide) rfl (pa_cons (pv 0) (pa_cons pe_int pa_nil))))
    (pss_cons (ps_set (i := 8) sc__law_random_rows.nd rfl (by first | exact Or.inl rfl | exact Or.inr rfl) (pe_op (z_add (K := K) rfl) (pv 7) (pe_ix (z_ix (K := K) rfl) (pe_lst (pa_cons pe_int (pa_cons pe_int (pa_cons pe_int (pa_cons pe_int (pa_cons pe_int pa_nil)))))) (C8.pe_c (ok__law_draw T) hr (by decide) rfl (pa_cons (pv 0) (pa_cons pe_int pa_nil))) (fun _ _ => rfl))))
    (pss_cons (ps_set (i := 9) sc__law_random_rows.nd rfl (by first | exact Or.inl rfl | exact Or.inr rfl) (pe_ix (z_ix (K := K) rfl) (pe_lst (pa_cons pe_str (pa_cons pe_str (pa_cons pe_str (pa_cons pe_str (pa_cons pe_str pa_nil)))))) (C8.pe_c (ok__law_draw T) hr (by decide) rfl (pa_cons (pv 0) (pa_cons pe_int pa_nil))) (fun _ _ => rfl)))
    (pss_cons (ps_set (i := 10) sc__law_random_rows.nd rfl (by first | exact Or.inl rfl | exact Or.inr rfl) (pe_ifExp (pt_cmpR (z_eq (K := K) hr.units rfl) (pv 9) pe_str (nomark _)) pe_int (pe_ix (z_ix (K := K) rfl) (pe_lst (pa_cons pe_int (pa_cons pe_int (pa_cons pe_int (pa_cons pe_int (pa_cons pe_int (pa_cons pe_int (pa_cons pe_int pa_nil)))))))) (C8.pe_c (ok__law_draw T) hr (by decide) rfl (pa_cons (pv 0) (pa_cons pe_int pa_nil))) (fun _ _ => rfl))))
    (pss_cons (ps_setLc (i := 11) (own := [("_law_other", 12)]) (by rfl) sc__law_random_rows.nd rfl rfl (sw_true rfl rfl rfl (by decide +kernel)) (zi_any (K := K) rfl (pv 3)) (blkOk_by (own := [("_law_other", 12)]) (N := ["_law_reader_here", "_law_least", "_law_most", "_law_pool", "_law_many", "_law_found", "_law_one", "_law_start", "_law_stop", "_law_kind", "_law_holds", "_law_some", "_law_other"]) (sc := d__law_random_rows.scope) (by decide +kernel)) (fun _ _ _ _ _ => (pg_name (i := 12) sc__law_random_rows.nd rfl (by first | exact Or.inl rfl | exact Or.inr rfl))) (fun _ _ _ _ _ => (pts_one (PW.pt (pw_and (pt_cmpR (z_ne (K := K) hr.units rfl) (pv 12) (pv 6) (nomark _)) (pw_and (pt_cmpR (z_eq (K := K) hr.units rfl) (pv 9) pe_str (nomark _)) (pw_and1 (pt_cmpR (z_eq (K := K) hr.units rfl) (C8.pe_c (ok__law_draw T) hr (by decide) rfl (pa_cons (pv 0) (pa_cons pe_int pa_nil))) pe_int (nomark _)))))))) (fun _ _ _ _ _ => (pv 12)))
    (pss_one (ps_expr (pe_bm PySem.F.plainAttrs_list PySem.F.slot_list_append PySem.F.type_list_append mt_append (pv 5) (pa_cons (pe_tup (pa_cons (pv 6) (pa_cons (pv 7) (pa_cons (pv 8) (pa_cons (pv 9) (pa_cons (pv 10) (pa_cons (pe_callTy (z_tup (K := K) rfl) (by rfl) T.g_tuple (by decide +kernel) (pa_cons (pv 11) pa_nil)) pa_nil))))))) pa_nil))))))))))
    (pss_one (ps_ret (pe_callTy (z_tup (K := K) rfl) (by rfl) T.g_tuple (by decide +kernel) (pa_cons (pv 5) pa_nil)))))))), ?_⟩
  obtain ⟨r, ws, ds, x0, cs, a, b, n, M, rfl, rr, rfl, hr0, hx, hc, hb, hM, q⟩ := h
  refine ro_funG (post := fun d => gRows [dI 6, dI 6] d) (M := M + 100) ?_ rr hr0 hx fun v d H' a' b' n' hd hb' e' hr' rv => q v d H' a' b' n' hd hb' e' hr' rv
  refine ro_sC (ro_ownL (i := 3) (fun e he => by cases he; rfl) (ds := sD pool6) (es_cons ee_c (es_cons ee_c (es_cons ee_c (es_cons ee_c (es_cons ee_c (es_cons ee_c es_nil)))))) sD_tus (by simp [sD, pool6]) fun pa => ?_)
  refine ro_giveI (i := 3) (a := pa) (ds := sD pool6) rfl ?_
  refine ro_sC (ro_parO (oo_opL (a := dI 6) (ee_var rfl) (.inl rfl) (oo_draw (many := 1) rfl (ee_op (ee_op (ee_var rfl) (ee_var rfl) fun _ => rd_I0) ee_c fun _ => rd_addI) (by decide) (by decide) hc hb (by omega) fun m a b n m0 m1 hb => ⟨_, fun _ => rd_addI, .inl rfl, fun e he => by cases he; rfl, fun fa => ?_⟩)))
  have em : m = 0 := by omega
  subst em
  refine ro_sC (ro_while0 (te_test (ee_op (ee_cb (es_cons (ee_var rfl) es_nil) fun _ => rc_lenL) (ee_var rfl) fun _ => rd_I0)) ?_)
  refine ro_sC (ro_forE (α := (Int × Int × Int) × List Row) (fun i y => RdB (M + 1 + 10 * (i : Int)) y.1.1 y.1.2.1 y.1.2.2 ∧ RndRows i y.2) (fun i y => [.rr r x0 cs y.1.1 y.1.2.1 y.1.2.2, .rd (dI 6), .rd (dI 6), .rd (.lst (sD pool6)), .rd (dI 6), .ow fa (rowsD y.2), .no, .no, .no, .no, .no, .no, .no]) (wo_lv (i := 3) rfl) ⟨((a, b, n), []), ⟨hb.up (by omega), rfl, fun i r h => by cases h⟩, .keep rfl (.keep rfl (.keep rfl (.keep rfl (.keep rfl (.keep rfl (.keep rfl (.keep rfl (.keep rfl (.keep rfl (.keep rfl (.keep rfl (.keep rfl .nil))))))))))))⟩ (fun d hd => by
    obtain ⟨x, _, rfl⟩ := List.mem_map.mp hd
    rfl) (fun i d y hd hy => ?_) fun y hy => ?_)
  · obtain ⟨hb, hR⟩ := hy
    obtain ⟨⟨a, b, n⟩, rs⟩ := y
    dsimp only at hb hR ⊢
    obtain ⟨x, hx, rfl⟩ := sD_get hd
    have hi : i < 6 := by
      have := (List.getElem?_eq_some_iff.mp hx).1
      simpa [pool6] using this
    refine ⟨_, go_name, ?_⟩
    refine ro_sO (oo_draw (many := 13) rfl ee_c (by decide) (by decide) hc hb (by omega) fun s1 a b n s10 s11 hb => ?_)
    refine ro_sO (oo_opL (a := dI s1) (ee_var rfl) (.inl rfl) (oo_opLit (ds := ([0, 1, 2, 3, 12] : List Int).map dI) (es_cons ee_c (es_cons ee_c (es_cons ee_c (es_cons ee_c (es_cons ee_c es_nil))))) rfl (by decide) (oo_draw (many := 5) rfl ee_c (by decide) (by decide) hc hb (by omega) fun m a b n m0 m1 hb => ?_)))
    obtain ⟨z, hz, hpick⟩ := pick_int (K := K) (zs := [0, 1, 2, 3, 12]) m0 m1
    have hz2 : 0 ≤ z ∧ z ≤ 12 := by
      simp only [List.mem_cons, List.not_mem_nil, or_false] at hz
      omega
    refine ⟨_, hpick, .inl rfl, _, fun _ => rd_addI, .inl rfl, ?_⟩
    refine ro_sO (oo_opLit (ds := sD ["guide", "host", "visitor", "waiter", "waiter"]) (es_cons ee_c (es_cons ee_c (es_cons ee_c (es_cons ee_c (es_cons ee_c es_nil))))) rfl (by decide) (oo_draw (many := 5) rfl ee_c (by decide) (by decide) hc hb (by omega) fun m a b n m0 m1 hb => ?_))
    obtain ⟨kd, hkd, hpick⟩ := pick_str (K := K) (zs := ["guide", "host", "visitor", "waiter", "waiter"]) m0 m1
    have hkd2 : kd ∈ kindsS := by
      simp only [List.mem_cons, List.not_mem_nil, or_false] at hkd
      simp only [kindsS, List.mem_cons, List.not_mem_nil, or_false]
      rcases hkd with h | h | h | h | h <;> simp [h]
    refine ⟨_, hpick, .inl rfl, ?_⟩
    refine ro_seq (fun ρ' => ∃ ho a b n, (kd = "host" → ho = 0) ∧ 0 ≤ ho ∧ ho ≤ 60 ∧ RdB (M + 1 + 10 * (i : Int) + 4) a b n ∧ ρ' = [.rr r x0 cs a b n, .rd (dI 6), .rd (dI 6), .rd (.lst (sD pool6)), .rd (dI 6), .ow fa (rowsD rs), .rd (dS x), .rd (dI s1), .rd (dI (s1 + z)), .rd (dS kd), .rd (dI ho), .no, .no]) (ro_setO (oo_if (to_ev (te_test (ee_op (ee_var rfl) ee_c fun _ => rd_eqX rfl)) ⟨fun hk => oo_ev ee_c (.inl rfl) ⟨0, a, b, n, fun _ => rfl, by decide, by decide, hb.up (by omega), rfl⟩, fun hk => ?_⟩))) ?_
    · refine oo_opLit (ds := ([0, 1, 2, 3, 5, 8, 60] : List Int).map dI) (es_cons ee_c (es_cons ee_c (es_cons ee_c (es_cons ee_c (es_cons ee_c (es_cons ee_c (es_cons ee_c es_nil))))))) rfl (by decide) (oo_draw (many := 7) rfl ee_c (by decide) (by decide) hc hb (by omega) fun m a b n m0 m1 hb => ?_)
      obtain ⟨ho, hho, hpick⟩ := pick_int (K := K) (zs := [0, 1, 2, 3, 5, 8, 60]) m0 m1
      have hz2 : 0 ≤ ho ∧ ho ≤ 60 := by
        simp only [List.mem_cons, List.not_mem_nil, or_false] at hho
        omega
      refine ⟨_, hpick, .inl rfl, ho, a, b, n, fun e => ?_, hz2.1, hz2.2, hb.up (by omega), rfl⟩
      rw [e] at hk
      simp at hk
    rintro _ ⟨ho, a, b, n, hh, ho0, ho6, hb, rfl⟩
    refine ro_sC (ro_lcG (j := 12) (k := 11) (fun ga m es ρ' => ∃ xs a b n, es = sD xs ∧ xs.length ≤ m ∧ List.Sublist xs ((pool6.take m).filter fun y => decide (y ≠ x)) ∧ (kd ≠ "waiter" → xs = []) ∧ RdB (M + 1 + 10 * (i : Int) + 4 + (m : Int)) a b n ∧ ρ' = [.rr r x0 cs a b n, .rd (dI 6), .rd (dI 6), .rd (.lst (sD pool6)), .rd (dI 6), .ow fa (rowsD rs), .rd (dS x), .rd (dI s1), .rd (dI (s1 + z)), .rd (dS kd), .rd (dI ho), .gh ga es, .no]) (wo_lv (i := 3) rfl) (fun d hd => by
      obtain ⟨x, _, rfl⟩ := List.mem_map.mp hd
      rfl) (by decide) (fun e he => by cases he; rfl) (by simp) (by decide) rfl (fun ga m es ρ' h => ?_) (fun ga => ⟨[], a, b, n, rfl, by simp, by simp, fun _ => rfl, hb.up (by omega), rfl⟩) (fun ga m d es ρ' hd h => ?_) fun ga es ρ' h => ?_)
    · obtain ⟨xs, a, b, n, rfl, hl, _, _, _, rfl⟩ := h
      exact ⟨rfl, rfl, by rw [sD_len]; exact hl⟩
    · obtain ⟨xs, a, b, n, rfl, hl, hsub, hw, hb, rfl⟩ := h
      obtain ⟨y, hy, rfl⟩ := sD_get hd
      have hm : m < 6 := by
        have := (List.getElem?_eq_some_iff.mp hy).1
        simpa [pool6] using this
      obtain ⟨g1, g2⟩ := sub_snoc hsub hy
      refine to_and (to_ev (te_test (ee_op (ee_var rfl) (ee_var rfl) fun _ => rd_neX rfl)) ⟨fun hk1 => ?_, fun hk => ⟨fun z => (by cases z), fun _ => ⟨⟨_, rfl⟩, xs, a, b, n, rfl, by omega, g2, hw, hb.up (by omega), rfl⟩⟩⟩)
      refine to_and (to_ev (te_test (ee_op (ee_var rfl) ee_c fun _ => rd_eqX rfl)) ⟨fun hk2 => ?_, fun hk => ⟨fun z => (by cases z), fun _ => ⟨⟨_, rfl⟩, xs, a, b, n, rfl, by omega, g2, hw, hb.up (by omega), rfl⟩⟩⟩)
      refine to_test (oo_opR (oo_draw (many := 2) rfl ee_c (by decide) (by decide) hc hb (by omega) fun q a b n q0 q1 hb => ⟨dI 0, _, ee_c, .inl rfl, fun _ => rd_eqX rfl, .inl rfl, _, rfl, fun hk => ?_, fun hk => ?_⟩))
      · refine ⟨dS y, ee_var rfl, rfl, rfl, ⟨_, rfl⟩, xs ++ [y], a, b, n, by simp [sD], by simp; omega, g1 ?_, fun hne => ?_, hb.up (by omega), rfl⟩
        · simpa using hk1
        · exact absurd (by simpa using hk2) hne
      · exact ⟨⟨_, rfl⟩, xs, a, b, n, rfl, by omega, g2, hw, hb.up (by omega), rfl⟩
    obtain ⟨xs, a, b, n, rfl, hl, hsub, hw, hb, rfl⟩ := h
    have hb2 : RdB (M + 1 + 10 * (i : Int) + 10) a b n := hb.up (by simp [sD, pool6]; omega)
    refine ro_append (i := 5) (a := fa) (ds := rowsD rs) (d := Row.d ⟨x, s1, s1 + z, kd, ho, xs⟩) rfl (ee_tup (es_cons (ee_var rfl) (es_cons (ee_var rfl) (es_cons (ee_var rfl) (es_cons (ee_var rfl) (es_cons (ee_var rfl) (es_cons (ee_cb (es_cons (ee_var rfl) es_nil) fun _ => rc_tupL) es_nil)))))) (by simp)) (.inl (Row.tu _)) (by have := hR.1; simp [rowsD]; omega) ?_
    refine ⟨((a, b, n), rs ++ [⟨x, s1, s1 + z, kd, ho, xs⟩]), ⟨hb2.up (by push_cast; omega), hR.snoc hx ⟨rfl, s10, by show s1 ≤ s1 + z; omega, by show s1 + z ≤ 24; omega, hkd2, ho0, ho6, hh, hw, by simpa [sD, pool6] using hsub⟩⟩, ?_⟩
    have e : rowsD rs ++ [Row.d ⟨x, s1, s1 + z, kd, ho, xs⟩] = rowsD (rs ++ [⟨x, s1, s1 + z, kd, ho, xs⟩]) := by simp [rowsD]
    rw [e]
    exact .keep rfl (.keep rfl (.keep rfl (.keep rfl (.keep rfl (.keep rfl (.drop (.drop (.drop (.drop (.drop (.drop (.drop .nil))))))))))))
  · obtain ⟨hb, hR⟩ := hy
    obtain ⟨⟨a, b, n⟩, rs⟩ := y
    refine ro_ret (d := .tup (rowsD rs)) (ee_cb (es_cons (ee_var rfl) es_nil) fun _ => rc_tupL) (.inl (by simp [D.tu, rowsD_tus])) ⟨⟨rs, rfl, hR⟩, a, b, n, rfl, hb.up ?_⟩
    simp [sD, pool6]
    omega
end
end Pa
set_option Elab.async false
set_option linter.all false
set_option maxRecDepth 100000
set_option maxHeartbeats 4000000
/-! dicts whose keys are pairs of texts: sorted, put, read -/
namespace Pa
open PySem PySem.Spec PyProof.Rows L2 Evl
abbrev keyD (k : Str × Str) : D := .tup [dS k.1, dS k.2]
abbrev keyH (k : Str × Str) : HO := .tup [.str k.1, .str k.2]
section
variable {X : Cx} {K : PySem.W.Frag}
theorem each_keys2 {H : Hp} : ∀ {ks : List ((Str × Str) × Int)} {bs : List Addr}, IsKeys H (ks.map tE) bs → PySem.W.EachIs (fun u (b : Addr × (Str × Str)) => u = Value.ref b.1 ∧ H b.1 = some (keyH b.2)) (bs.map Value.ref) (bs.zip (ks.map (·.1))) ∧ bs.length = ks.length
  | [], [], _ => ⟨.nil, rfl⟩
  | k :: ks, b :: bs, h => by
    cases h with
    | cons h1 h2 =>
      obtain ⟨g1, g2⟩ := each_keys2 h2
      exact ⟨.cons ⟨rfl, h1⟩ g1, by simp [g2]⟩
theorem each_back2 {H : Hp} : ∀ {us : List Value} {ps : List (Addr × (Str × Str))}, PySem.W.EachIs (fun u (b : Addr × (Str × Str)) => u = Value.ref b.1 ∧ H b.1 = some (keyH b.2)) us ps → Vals (ps.map fun q => .ref q.1) us ∧ ∀ q ∈ ps, H q.1 = some (keyH q.2)
  | _, _, .nil => ⟨.nil, fun q h => by cases h⟩
  | _, _, .cons h t => by
    obtain ⟨h1, h2⟩ := each_back2 t
    refine ⟨.cons (by rw [h.1]; rfl) h1, fun q hq => ?_⟩
    rcases List.mem_cons.mp hq with rfl | hq
    · exact h.2
    · exact h2 q hq
theorem each_len {α β : Type} {R : α → β → Prop} : ∀ {xs : List α} {ys : List β}, PySem.W.EachIs R xs ys → xs.length = ys.length := fun h => h.length
def rSortDT : List V → Hp → VK → Prop := fun vs H Q => ∃ (a : Addr) (ks : List ((Str × Str) × Int)), vs = [.ref a] ∧ H a = some (.dT (ks.map tE)) ∧ ks.length ≤ 1000 ∧ (∀ p ∈ ks, isNm p.1.1 ∧ isNm p.1.2) ∧
  ∀ p (ps : List (Addr × (Str × Str))), H p = none → (∀ q ∈ ps, H q.1 = some (keyH q.2)) → ps.map (·.2) = sortD keyD (ks.map (·.1)) → Q (.ref p) (upd H p (.lst (ps.map fun q => .ref q.1)))
theorem keyD_ok {k : Str × Str} (h : isNm k.1 ∧ isNm k.2) : D.ok 1 (keyD k) = true := by
  have := oks_strs (n := 0) (xs := [k.1, k.2]) (by simp; exact h)
  simpa [D.ok, sD] using this
theorem keys_sortable {ks : List (Str × Str)} : PySem.W.AllAlike (ks.map fun k => (keyD k).py) ∧ PySem.W.Sortable (ks.map fun k => (keyD k).py) := by
  refine ⟨fun a ha b hb => ?_, .inl fun a ha => ?_⟩
  · obtain ⟨x, _, rfl⟩ := List.mem_map.mp ha
    obtain ⟨y, _, rfl⟩ := List.mem_map.mp hb
    simp [D.py, D.pys, PySem.W.alike, PySem.W.alikeAll]
  · obtain ⟨x, _, rfl⟩ := List.mem_map.mp ha
    exact ⟨_, _, by rw [D.py, D.pys]⟩
theorem cr_sortDT (hc : X.calm = true) (hu : X.A.units + 64 < PySem.cLine) : CallR X (.builtin "sorted") rSortDT := by
  intro pins s σ H xs us Q I r h
  obtain ⟨a, ks, rfl, hd, hz, hnm, q⟩ := h
  obtain ⟨u, rfl, rx⟩ := vals1 r
  cases rx
  obtain ⟨z, hs, ents, pr, o, es, ep, ho, hx, hdt, he, hn⟩ := (show ObjOk X.prog X.w H s.heap a (.dT (ks.map tE)) from I.hok a _ hd)
  have l1 : es.size = ents.length := size_of_entries he
  have l2 : (ks.map tE).length = ents.length := Paired.length pr
  have l3 : ks.length = ents.length := by simpa using l2
  have hz2 : (1000 : Nat) ≤ sizeLine := by decide
  refine Calls.call_function_entry PyProof.Rows.kind_sorted PyProof.Rows.plain_sorted PyProof.Rows.entry_sorted (PyProof.Rows.args_sorted1 _) ?_
  unfold Builtin.«sorted»
  refine wpAny_bind (m := checkCount "sorted" 1 1 _) (wpAny_pure ?_)
  refine wpAny_bind (PySem.W.kdu_collect (A := X.A.in1) (kdl_raw hs hx hdt) (I.ok.hd hc) ho (by omega) fun h' tk acc hk hacc => ?_)
  have ea : acc.toList = ents.map fun x => Value.ref x.2.1 := by
    have hl : acc.toList.length = ents.length := by rw [Array.length_toList, hacc.1]; exact l1
    apply List.ext_getElem?
    intro j
    rw [List.getElem?_map]
    cases hj : acc.toList[j]? with
    | none =>
      have h1 := List.getElem?_eq_none_iff.mp hj
      rw [List.getElem?_eq_none (by omega)]
      all_goals rfl
    | some v =>
      obtain ⟨en, hen, hv⟩ := hacc.2 j v (by rw [← Array.getElem?_toList]; exact hj)
      have qe := entry_at he j
      rw [hen] at qe
      cases hb : ents[j]? with
      | none =>
        rw [hb] at qe
        exact nomatch (show some en = none from qe)
      | some b =>
        rw [hb] at qe
        have e2 : en = entryOfKey (tupleKind (mixKind X.prog X.w)) b := Option.some.inj qe
        rw [hv, e2]
        all_goals rfl
  have eb : acc.toList = (ents.map fun x => x.2.1).map Value.ref := by rw [ea, List.map_map]; all_goals rfl
  obtain ⟨e1, e2⟩ := each_keys2 (isKeys_of pr)
  generalize hbs : (ents.map fun x => x.2.1) = bs at eb e1 e2
  have hal : acc.toList.length = ks.length := by rw [Array.length_toList, hacc.1]; omega
  have I1 : Inv X pins σ H { s with heap := h', toks := tk } := I.kept hk
  refine wpAny_bind (wpAny_newList ?_ (by rw [hal]; omega))
  have hoL : (h'.push (seqObj "list" acc.toList.toArray 0)).get? h'.objs.size = some (seqObj "list" acc.toList.toArray 0) := Heap.get?_push_size _ rfl
  show wpAny _ _ _ _ _ { s with heap := h'.push (seqObj "list" acc.toList.toArray 0), toks := tk }
  generalize hvs : acc.toList = vs at *
  have hzip : (bs.zip (ks.map (·.1))).map (·.2) = ks.map (·.1) := by
    refine List.map_snd_zip ?_
    simp [e2]
  have hmem : ∀ b ∈ bs.zip (ks.map (·.1)), isNm b.2.1 ∧ isNm b.2.2 := fun b hb => by
    have hm := List.mem_map_of_mem (f := (·.2)) hb
    rw [hzip] at hm
    obtain ⟨p, hp, ep⟩ := List.mem_map.mp hm
    rw [← ep]
    exact hnm p hp
  let enc : Addr × (Str × Str) → PyData := fun b => (keyD b.2).py
  have hmap : (bs.zip (ks.map (·.1))).map enc = (ks.map (·.1)).map fun k => (keyD k).py := by
    have e := List.map_map (f := fun b : Addr × (Str × Str) => b.2) (g := fun k => (keyD k).py) (l := bs.zip (ks.map (·.1)))
    rw [hzip] at e
    exact e.symm
  have old : ∀ b o, h'.get? b = some o → (PySem.W.sortingHeap (h'.push (seqObj "list" vs.toArray 0)) h'.objs.size vs).get? b = some o := fun b o e =>
    PySem.W.sortingHeap_old (Nat.ne_of_lt (Heap.lt_size e)) (Heap.get?_push_of_some _ e)
  have er : PySem.W.EachIs (fun v b => ∃ as, Reads (PySem.W.sortingHeap (h'.push (seqObj "list" vs.toArray 0)) h'.objs.size vs) v (enc b) as) vs (bs.zip (ks.map (·.1))) := by
    have e1' := e1
    rw [← eb] at e1'
    have go : ∀ {us : List Value} {ps : List (Addr × (Str × Str))}, PySem.W.EachIs (fun u (b : Addr × (Str × Str)) => u = Value.ref b.1 ∧ H b.1 = some (keyH b.2)) us ps → (∀ b ∈ ps, isNm b.2.1 ∧ isNm b.2.2) → PySem.W.EachIs (fun v b => ∃ as, Reads (PySem.W.sortingHeap (h'.push (seqObj "list" vs.toArray 0)) h'.objs.size vs) v (enc b) as) us ps := by
      intro us ps h hm
      induction h with
      | nil => exact .nil
      | cons h1 h2 ih =>
        rename_i u b us ps
        refine .cons ?_ (ih fun b hb => hm b (List.mem_cons_of_mem _ hb))
        have hb : Rp X.K H (.ref b.1) (keyD b.2) := .tup (SqT.of h1.2) (Rps.raws (xs := [.str b.2.1, .str b.2.2]))
        obtain ⟨as, rd⟩ := Dp.reads I1 _ _ _ (dp_of (keyD_ok (hm b List.mem_cons_self)) hb) (show L2.RelV (.ref b.1) u by rw [h1.1]; rfl)
        exact ⟨as, PyProof.Rows.Reads.keeps old rd⟩
    exact go e1' hmem
  obtain ⟨al, so⟩ := keys_sortable (ks := ks.map (·.1))
  have S := PySem.W.SortsAt.data (prog := X.prog) (w := X.w) (A := X.A.in1.in1) (s := { s with heap := PySem.W.sortingHeap (h'.push (seqObj "list" vs.toArray 0)) h'.objs.size vs, toks := tk }) (PySem.W.each_map (R := fun v d => ∃ as, Reads (PySem.W.sortingHeap (h'.push (seqObj "list" vs.toArray 0)) h'.objs.size vs) v d as) enc er) (by rw [hmap]; exact al) (by rw [hmap]; exact so) (PySem.W.bound_map fun b hb => by
    have := (canLay_ok (keyD_ok (hmem b hb))).2
    show X.A.units + 2 + (keyD b.2).py.depth < PySem.cLine
    omega)
  refine wpAny_bind (wpAny_holding (wpAny_call_entry PyProof.Rows.slot_list_sort ⟨_, hoL, rfl⟩ PyProof.Rows.entry_list_sort
    (PySem.W.list_sort_vals (s := { s with heap := h'.push (seqObj "list" vs.toArray 0), toks := tk }) hoL S (by rw [hal]; omega) ⟨_, rfl, ?_⟩)
    (PyProof.Rows.args_list_sort _)))
  have eo := PySem.W.sortVals_data (R := fun u (b : Addr × (Str × Str)) => u = Value.ref b.1 ∧ H b.1 = some (keyH b.2)) (enc := enc) false (by rw [← eb] at e1; exact e1) er (by rw [hmap]; exact al)
  obtain ⟨v1, v2⟩ := each_back2 eo
  obtain ⟨e', he'⟩ := PyProof.Rows.sortedHeap_at (vs := vs) (out := (PySem.W.sortVals (PySem.W.dataKind (PySem.W.sortingHeap (h'.push (seqObj "list" vs.toArray 0)) h'.objs.size vs) ((bs.zip (ks.map (·.1))).map enc)) false vs vs).toArray) hoL
  have hlen : (((bs.zip (ks.map (·.1))).mergeSort (PySem.W.dataLe false enc)).map fun q => V.ref q.1).length ≤ sizeLine := by
    rw [List.length_map, List.length_mergeSort, List.length_zip, e2, List.length_map, Nat.min_self]
    omega
  refine wpAny_pure ⟨_, rfl, .ref h'.objs.size, _, I1.laid (t' := tk) (fun b u e => ?_) (Nat.le_refl _)
    (show ObjOk X.prog X.w _ _ _ (.lst (((bs.zip (ks.map (·.1))).mergeSort (PySem.W.dataLe false enc)).map fun q => V.ref q.1)) from ⟨hlen, _, e', v1, he'⟩), rfl, q _ _ (I1.hok.fresh (Nat.le_refl _)) v2 ?_⟩
  · have hb : b < h'.objs.size := Heap.lt_size e
    rw [PyProof.Rows.sortedHeap_old (Nat.ne_of_lt hb) (by rw [size_push']; exact Nat.lt_succ_of_lt hb)]
    exact Heap.get?_push_of_some _ e
  · have e := PySem.W.sort_maps (fun p : Addr × (Str × Str) => p.2) (r := PySem.W.dataLe false enc) (s := PySem.W.dataLe false fun k => (keyD k).py) (l := bs.zip (ks.map (·.1))) fun a _ b _ => rfl
    rw [hzip] at e
    exact e
end
end Pa
set_option Elab.async false
set_option linter.all false
set_option maxRecDepth 100000
set_option maxHeartbeats 4000000
/-! a dict whose keys are pairs of texts, owned by a name -/
namespace Pa
open PySem PySem.Spec PyProof.Rows L2 Evl
def putT (ks : List ((Str × Str) × Int)) (k : Str × Str) (z : Int) : List ((Str × Str) × Int) := if ks.any (fun p => decide (p.1 = k)) = true then ks.map (fun p => if p.1 = k then (p.1, z) else p) else ks ++ [(k, z)]
def vlT (ks : List ((Str × Str) × Int)) (k : Str × Str) : Int := ((ks.find? fun p => decide (p.1 = k)).map (·.2)).getD 0
abbrev kT (k : Str × Str) : List Key := [.inr k.1, .inr k.2]
theorem kT_inj {p q : Str × Str} : kT p = kT q ↔ p = q := by
  constructor
  · intro h
    simp only [kT, List.cons.injEq, Sum.inr.injEq, and_true] at h
    exact Prod.ext h.1 h.2
  · rintro rfl; rfl
theorem putT_eq {ks : List ((Str × Str) × Int)} {k : Str × Str} {z : Int} : putK (ks.map tE) (kT k) (.int z) = (putT ks k z).map tE := by
  unfold putK putT
  have e : ((ks.map tE).any fun kv => decide (kv.1 = kT k)) = ks.any fun p => decide (p.1 = k) := by
    rw [List.any_map]
    congr 1
    funext p
    have : (kT p.1 = kT k) ↔ (p.1 = k) := kT_inj
    exact decide_eq_decide.mpr this
  rw [e]
  split
  · rw [List.map_map, List.map_map]
    refine List.map_congr_left fun p _ => ?_
    show (if kT p.1 = kT k then _ else _) = tE (if p.1 = k then _ else _)
    by_cases h : p.1 = k
    · rw [if_pos (kT_inj.mpr h), if_pos h]; rfl
    · rw [if_neg fun q => h (kT_inj.mp q), if_neg h]
  · rw [List.map_append]; rfl
theorem putT_len {ks : List ((Str × Str) × Int)} {k : Str × Str} {z : Int} : (putT ks k z).length ≤ ks.length + 1 := by
  unfold putT
  split <;> simp
theorem putT_mem {ks : List ((Str × Str) × Int)} {k : Str × Str} {z : Int} : ∀ p ∈ putT ks k z, p = (k, z) ∨ p ∈ ks := fun p hp => by
  unfold putT at hp
  split at hp
  · obtain ⟨q, hq, rfl⟩ := List.mem_map.mp hp
    by_cases h : q.1 = k
    · rw [if_pos h, h]; exact .inl rfl
    · rw [if_neg h]; exact .inr hq
  · rcases List.mem_append.mp hp with h | h
    · exact .inr h
    · exact .inl (List.mem_singleton.mp h)
theorem putT_nd {ks : List ((Str × Str) × Int)} {k : Str × Str} {z : Int} (h : (ks.map (·.1)).Nodup) : ((putT ks k z).map (·.1)).Nodup := by
  unfold putT
  split
  · have : (ks.map fun p => if p.1 = k then (p.1, z) else p).map (·.1) = ks.map (·.1) := by
      rw [List.map_map]
      refine List.map_congr_left fun p _ => ?_
      show (if p.1 = k then (p.1, z) else p).1 = p.1
      split <;> rfl
    rw [this]; exact h
  · rename_i hn
    rw [List.map_append]
    refine List.nodup_append.mpr ⟨h, by simp, fun a ha b hb => ?_⟩
    have eb : b = k := by simpa using hb
    subst eb
    obtain ⟨p, hp, rfl⟩ := List.mem_map.mp ha
    intro e
    exact hn (List.any_eq_true.mpr ⟨p, hp, by simpa using e⟩)
theorem valT_get {ks : List ((Str × Str) × Int)} {k : Str × Str} (h : k ∈ ks.map (·.1)) : valV (ks.map tE) (kT k) = some (.int (vlT ks k)) := by
  induction ks with
  | nil => cases h
  | cons p ks ih =>
    rw [List.map_cons]
    by_cases e : p.1 = k
    · rw [valV_pos (show (tE p).1 = kT k by rw [← e]; rfl)]
      simp [vlT, tE, e]
    · rw [valV_neg (fun q => e (kT_inj.mp q))]
      rcases List.mem_cons.mp h with h | h
      · exact absurd h.symm e
      · rw [ih h]
        simp [vlT, List.find?_cons, e]
theorem valT_mem {ks : List ((Str × Str) × Int)} {k : Str × Str} (h : k ∈ ks.map (·.1)) : (k, vlT ks k) ∈ ks := by
  induction ks with
  | nil => cases h
  | cons p ks ih =>
    by_cases e : p.1 = k
    · subst e
      simp [vlT, List.find?_cons]
    · rcases List.mem_cons.mp h with h | h
      · exact absurd h.symm e
      · have := ih h
        simp only [vlT, List.find?_cons, e, decide_false] at this ⊢
        exact List.mem_cons_of_mem _ this
/-- what is handed back: the keys in order, with what they hold -/
def tiesOf (ks : List ((Str × Str) × Int)) : List Tie := (sortD keyD (ks.map (·.1))).map fun k => ⟨k.1, k.2, vlT ks k⟩
section
variable {K : PySem.W.Frag} {ρ ρ' ρ1 ρ2 : Enw} {tv : List V} {td : List D} {σ σ' : L2.St} {Hs H0 H1 H2 H H' H0' : Hp} {v x : V} {d d' : D} {ds es : List D} {i j k n : Nat} {te ta tb tc tk1 tk2 : TE} {tx : TA} {tt tu : TT} {b : Bool} {e e' : En} {a r p : Addr}
variable {N N' : Enw → Prop} {R R' : D → Enw → Prop} {t u : TS} {P P' : D → Enw → Prop}
theorem ro_ownT (hi : ∀ e, ρ[i]? = some e → e.ad = []) (k : ∀ a, N (ρ.set i (.ot a []))) : RO K (tAsg tDNewT (gName i)) ρ N R := fun Hs Dn σ H s kn _ => by
  obtain ⟨H0, eh, s0⟩ := s
  intro p hp
  have e3 : Ex H (upd H p (.dT [])) := Ex.new hp
  have s1 := s0.grow1 e3 hp
  exact kn _ _ _ (k p) ⟨_, eh.trans (s0.growEx1 e3 hp), s1.new hi rfl (s0.ne_of_fresh (Ex.refl _) hp) (minus_in List.mem_cons_self) ⟨rfl, upd_same⟩⟩
theorem ro_tput (he : EO K te ρ fun d ρ' => ∃ z a ks x y, d = dI z ∧ ρ'[i]? = some (.ot a ks) ∧ EvE K tk1 (vw ρ') (dS x) ∧ EvE K tk2 (vw ρ') (dS y) ∧ ks.length < 1000 ∧ N (ρ'.set i (.ot a (putT ks (x, y) z)))) : RO K (sDPut (tVar i) (tTup (tCons tk1 (tCons tk2 tNil))) te) ρ N R := fun Hs Dn σ H s kn _ =>
  he Hs [] [] σ H s _ fun v d ρ' H' ⟨z, a, ks, x, y, ed, hi, h1, h2, hl, q⟩ s' => by
    subst ed
    have ev := s'.top.raw_inv
    subst ev
    have s1 := s'.pop
    obtain ⟨H0, eh, s0⟩ := id s1
    obtain ⟨o, ho, ea, _⟩ := s0.at_ i _ hi
    refine ⟨.ref a, by rw [ho, ea], ?_⟩
    refine s1.ev h1 (.inl rfl) fun v1 H2 _ s2 => s2.ev h2 (.inl rfl) fun v2 H3 _ s3 => ?_
    have e2 := s3.top.raw_inv
    have e1 := s3.pop.top.raw_inv
    subst e1 e2
    refine ⟨by show 2 ≤ sizeLine; decide, fun p hp => ?_⟩
    obtain ⟨H4, e4, s4⟩ := s3.pop.pop
    have e5 : Ex H3 (upd H3 p (.tup [.str x, .str y])) := Ex.new hp
    have s5 := s4.grow e5
    obtain ⟨_, _, _, hd⟩ := s5.at_ i _ hi
    refine ⟨a, _, rfl, DPut.t (k := kT (x, y)) hd upd_same ?_, kn _ _ _ q ⟨_, e4.trans (s4.growEx e5), ?_⟩⟩
    · rw [List.length_map]; exact sz_lt (by omega)
    · rw [putT_eq]
      exact s5.mut (e' := .ot a (putT ks (x, y) z)) hi (List.mem_singleton.mpr rfl) rfl fun o q => ⟨q.1, upd_same⟩
theorem dv_bonds {ks : List ((Str × Str) × Int)} (hv : σ[2]? = some (some (.ref a))) (hl : 7 < σ.length) (hd : H a = some (.dT (ks.map tE))) (hz : ks.length ≤ 1000) (hnm : ∀ p ∈ ks, isNm p.1.1 ∧ isNm p.1.2) :
    EvD K (tLc (iAny K (tCB rSortDT (tCons (tVar 2) tNil))) (gName 7) tYes (tOp (rAddX K) (tVar 7) (tTup (tCons (tDGet (tVar 2) (tVar 7)) tNil))) [7]) σ H (.lst (tiesD (tiesOf ks))) := by
  intro H1 e1 Q q
  refine .inl ⟨.ref a, hv, a, ks, rfl, e1 _ _ hd, hz, hnm, fun p ps hp hps he => ⟨p, rfl, ⟨_, SqL.of upd_same⟩, ?_⟩⟩
  have j : JOk K (Itl K p) (upd H1 p (.lst (ps.map fun q => .ref q.1))) ((ps.map fun q => V.ref q.1).map .raw) := jok_l (SqL.of upd_same) Rps.raws
  have hlen : ps.length = ks.length := by
    have := congrArg List.length he
    rw [List.length_map, sortD_len, List.length_map] at this
    exact this
  have hps2 : ∀ q ∈ ps, upd H1 p (.lst (ps.map fun q => .ref q.1)) q.1 = some (keyH q.2) := fun q hq => Ex.new hp _ _ (hps q hq)
  have key := dv_lc (K := K) (wi := fun _ H R => R (Itl K p) H) (σ := σ) (vs := [7]) (g := gName 7) (t := tYes) (te := tOp (rAddX K) (tVar 7) (tTup (tCons (tDGet (tVar 2) (tVar 7)) tNil))) (fun _ => true) (fun i => (tiesD (tiesOf ks)).getD i dN) (fun H3 e3 R r => r _ H3 (Ex.refl _) (j.mono e3)) (by simp; omega) (fun i d hd _ => ?_) fun i d x H3 hdi e3 rx k hk => ?_
  · have ek : keep (fun _ => true) (fun i => (tiesD (tiesOf ks)).getD i dN) ((ps.map fun q => V.ref q.1).map D.raw).length = tiesD (tiesOf ks) := by
      unfold keep
      rw [List.filter_eq_self.mpr fun _ _ => rfl]
      refine List.ext_getElem (by simp [tiesOf, sortD_len, hlen]) fun i h1 h2 => ?_
      have hi : i < (tiesOf ks).length := by simpa using h2
      simp [hi]
    rw [ek] at key
    exact key _ (Ex.refl _) Q fun v H3 e3 r => q v H3 ((Ex.new hp).trans e3) r
  · have hi : i < ps.length := by
      have := (List.getElem?_eq_some_iff.mp hd).1
      simpa using this
    have hi2 : i < (tiesOf ks).length := by simp [tiesOf, sortD_len]; omega
    simp [List.getD, hi2, D.tu, D.tus]
  · have hi : i < ps.length := by
      have := (List.getElem?_eq_some_iff.mp hdi).1
      simpa using this
    have ed : d = .raw (.ref ps[i].1) := by simpa [hi] using hdi.symm
    subst ed
    have ex := rx.raw_inv
    subst ex
    have hi2 : i < (sortD keyD (ks.map (·.1))).length := by rw [← he]; simpa using hi
    have hk2 : ps[i].2 = (sortD keyD (ks.map (·.1)))[i] := by
      have : (ps.map (·.2))[i]'(by simpa using hi) = (sortD keyD (ks.map (·.1)))[i] := by simp only [he]
      rw [← this, List.getElem_map]
    have hmem : ps[i].2 ∈ ks.map (·.1) := by
      rw [hk2]
      exact sortD_mem.mp (List.getElem_mem hi2)
    have hf : (tiesD (tiesOf ks)).getD i dN = Tie.d ⟨ps[i].2.1, ps[i].2.2, vlT ks ps[i].2⟩ := by
      simp [List.getD, tiesOf, hi2, hk2]
    refine hk _ H3 (Ex.refl _) (by show ((L2.wipe σ [7]).set 7 _).set 7 none = _; unfold L2.wipe L2.wipe; simp) (fun H4 _ Q q => q H4 (Ex.refl _)) fun _ => ?_
    rw [hf]
    have hkey : H3 ps[i].1 = some (keyH ps[i].2) := e3 _ _ (hps2 _ (List.getElem_mem hi))
    have hdd : H3 a = some (.dT (ks.map tE)) := e3 _ _ (Ex.new hp _ _ (e1 _ _ hd))
    have h7 : ((L2.wipe σ [7]).set 7 (some (.ref ps[i].1)))[7]? = some (some (.ref ps[i].1)) := by
      rw [List.getElem?_set_self (by rw [L2.wipe_length]; exact hl)]
    have h2 : ((L2.wipe σ [7]).set 7 (some (.ref ps[i].1)))[2]? = some (some (.ref a)) := by
      rw [List.getElem?_set_ne (by decide)]
      show ((L2.wipe σ []).set 7 none)[2]? = _
      rw [List.getElem?_set_ne (by decide)]
      exact hv
    have hA : EvD K (tVar 7) ((L2.wipe σ [7]).set 7 (some (.ref ps[i].1))) H3 (keyD ps[i].2) := fun H4 e4 Q q => ⟨_, h7, q _ H4 (Ex.refl _) (.tup (SqT.of (e4 _ _ hkey)) (Rps.raws (xs := [.str _, .str _])))⟩
    have hB : EvD K (tDGet (tVar 2) (tVar 7)) ((L2.wipe σ [7]).set 7 (some (.ref ps[i].1))) H3 (dI (vlT ks ps[i].2)) := fun H4 e4 Q q => ⟨_, h2, _, h7, a, _, rfl, by
      have g := DGet.t (k := kT ps[i].2) (e4 _ _ hdd) (e4 _ _ hkey)
      rw [valT_get hmem] at g
      exact g, q _ H4 (Ex.refl _) (.raw _)⟩
    exact dv_op hA (dv_tup (ds_cons hB ds_nil) (by simp)) (rd_addT (by simp))
end
end Pa
set_option Elab.async false
set_option linter.all false
set_option maxRecDepth 100000
set_option maxHeartbeats 8000000
namespace Pa
open PySem PySem.Spec PyProof.Rows L2 Evl
section
variable {P : Program} {w : World} {K : PySem.W.Frag} {mg : Str → Option Value} {base : Heap}


def rIntB : List V → Hp → VK → Prop := fun xs H Q => (∃ i, xs = [.int i] ∧ Q (.int i) H) ∨ ∃ k, xs = [.bl k] ∧ Q (.int (if k then 1 else 0)) H
theorem z_intB {X : Cx} : CallR X (.type "int") rIntB := call_int1
theorem rc_intB {H : Hp} {k : Bool} : RCD K rIntB [dB k] H (dI (if k then 1 else 0)) := fun H1 _ vs r Q q => .inr ⟨k, Rps.raws_inv (ys := [.bl k]) r, q _ H1 (Ex.refl _) (.raw _)⟩
/-- ties that may be drawn -/
structure RndTies (ts : List Tie) : Prop where
  len : ts.length ≤ 6
  asc : ts.Pairwise tieLt
  ok : ∀ t ∈ ts, t.one ∈ pool6 ∧ t.oth ∈ pool6 ∧ t.one ≠ t.oth ∧ -100 ≤ t.most ∧ t.most ≤ 100
structure KsOk (i : Nat) (ks : List ((Str × Str) × Int)) : Prop where
  len : ks.length ≤ i
  nd : (ks.map (·.1)).Nodup
  ok : ∀ p ∈ ks, p.1.1 ∈ pool6 ∧ p.1.2 ∈ pool6 ∧ p.1.1 ≠ p.1.2 ∧ -100 ≤ p.2 ∧ p.2 ≤ 100
theorem KsOk.put {i : Nat} {ks : List ((Str × Str) × Int)} (h : KsOk i ks) {x y : Str} {z : Int} (hx : x ∈ pool6) (hy : y ∈ pool6) (hne : x ≠ y) (h1 : -100 ≤ z) (h2 : z ≤ 100) : KsOk (i + 1) (putT ks (x, y) z) := by
  refine ⟨Nat.le_trans putT_len (by have := h.len; omega), putT_nd h.nd, fun p hp => ?_⟩
  rcases putT_mem p hp with rfl | hp
  · exact ⟨hx, hy, hne, h1, h2⟩
  · exact h.ok p hp
theorem pool6_nm : ∀ x ∈ pool6, isNm x := by
  have h : ∀ x ∈ pool6, 1 ≤ x.length ∧ x.length ≤ 8 ∧ ∀ c ∈ TL.tl x, c ∈ TL.tl ("abcdefghijklmnopqrstuvwxyz" : Str) := by decide +kernel
  exact h
theorem KsOk.ties {i : Nat} {ks : List ((Str × Str) × Int)} (h : KsOk i ks) (hi : i ≤ 6) : RndTies (tiesOf ks) := by
  refine ⟨by simp [tiesOf, sortD_len]; exact Nat.le_trans h.len hi, ?_, fun t ht => ?_⟩
  · refine List.pairwise_map.mpr ?_
    refine sortD_lt (enc := keyD) (fun k k' => tieLt ⟨k.1, k.2, vlT ks k⟩ ⟨k'.1, k'.2, vlT ks k'⟩) (fun a b q => tie2_lt q) ?_
    refine List.Pairwise.imp (fun {a b} hab => tieLt_tri _ _ fun e => hab ?_) h.nd
    exact e
  · obtain ⟨k, hk, rfl⟩ := List.mem_map.mp ht
    exact h.ok _ (valT_mem (sortD_mem.mp hk))
theorem ro_retOt {ρ : Enw} {i : Nat} {a : Addr} {ks : List ((Str × Str) × Int)} {te : TE} {d : D} {N : Enw → Prop} {R : D → Enw → Prop} (hi : ρ[i]? = some (.ot a ks)) (h : ∀ σ H, σ.length = ρ.length → σ[i]? = some (some (.ref a)) → H a = some (.dT (ks.map tE)) → EvD K te σ H d) (f : Fit ρ d) (k : R d ρ) : RO K (tRet te) ρ N R := fun Hs Dn σ H s _ kr => by
  obtain ⟨H0, eh, s0⟩ := id s
  obtain ⟨o, ho, ea, hd⟩ := s0.at_ i _ hi
  subst ea
  exact h σ H s0.len ho hd H (Ex.refl _) _ fun v H2 e2 r => kr v d ρ σ H2 k (s.res e2 r f)
def gBonds : List D → D → Prop := fun _ d => ∃ ts, d = .tup (tiesD ts) ∧ RndTies ts
abbrev prBonds : List D → Prop := fun ds => ∃ rs, ds = [.tup (rowsD rs)] ∧ RndRows 6 rs
theorem RndRows.at {rs : List Row} (h : RndRows 6 rs) {k : Nat} (hk : k < 6) : ∃ r x, rs[k]? = some r ∧ pool6[k]? = some x ∧ RndRow x r := by
  have hl : k < rs.length := by have := h.1; omega
  have hr : rs[k]? = some rs[k] := by simp [hl]
  obtain ⟨x, hx, hr2⟩ := h.2 k _ hr
  exact ⟨_, x, hr, hx, hr2⟩
theorem pool6_ne {i j : Nat} {x y : Str} (hx : pool6[i]? = some x) (hy : pool6[j]? = some y) (hij : i ≠ j) : x ≠ y := by
  have nd : pool6.Nodup := by decide +kernel
  intro e
  subst e
  exact hij (nd_ix nd hx hy)

theorem sc__law_random_bonds : FnScope ["_law_reader_here", "_law_rows", "_law_pairs", "_law_k", "_law_at", "_law_to", "_law_low", "_law_pair"] ["_law_reader_here", "_law_rows"] d__law_random_bonds.scope := ⟨rfl, rfl, rfl, by decide +kernel, rfl, by decide +kernel, by decide +kernel⟩
theorem ok__law_random_bonds (T : Wd K mg base) : C8.Cal P w K mg base (1 + 1) "_law_random_bonds" (spG K 20 prBonds gBonds) [] := by
  refine cal_of T 51 67 (d := d__law_random_bonds) rfl rfl rfl rfl rfl sc__law_random_bonds (spG_len (n := 1) fun ds ⟨_, e, _⟩ => by rw [e]; rfl) (fun _ _ _ _ _ _ us hl => match us, hl with | [_, _], _ => rfl) fun cdv A outer s H vs Q E hr h => ?_
  refine ⟨_, (pss_cons (ps_set (i := 2) sc__law_random_bonds.nd rfl (by first | exact Or.inl rfl | exact Or.inr rfl) pe_dnewT)
    (pss_cons (ps_for PassesOwn.never rfl (pi_range1 (by rfl) T.g_range (pa_cons (pe_op op_mul (C8.pe_c (ok__law_draw T) hr (by decide) rfl (pa_cons (pv 0) (pa_cons pe_int pa_nil))) (pe_callTy z_intB (by rfl) T.g_int (by decide +kernel) (pa_cons (pe_cmpR op_gt (pe_callB (z_len (K := K) rfl) (by rfl) T.g_len (by decide +kernel) (pa_cons (pv 1) pa_nil)) pe_int (nomark _)) pa_nil))) pa_nil)) (pg_name (i := 3) sc__law_random_bonds.nd rfl (by first | exact Or.inl rfl | exact Or.inr rfl)) (pss_cons (ps_set (i := 4) sc__law_random_bonds.nd rfl (by first | exact Or.inl rfl | exact Or.inr rfl) (C8.pe_c (ok__law_draw T) hr (by decide) rfl (pa_cons (pv 0) (pa_cons (pe_callB (z_len (K := K) rfl) (by rfl) T.g_len (by decide +kernel) (pa_cons (pv 1) pa_nil)) pa_nil))))
    (pss_cons (ps_set (i := 5) sc__law_random_bonds.nd rfl (by first | exact Or.inl rfl | exact Or.inr rfl) (pe_op op_mod (pe_op (z_add (K := K) rfl) (pe_op (z_add (K := K) rfl) (pv 4) pe_int) (C8.pe_c (ok__law_draw T) hr (by decide) rfl (pa_cons (pv 0) (pa_cons (pe_op op_sub (pe_callB (z_len (K := K) rfl) (by rfl) T.g_len (by decide +kernel) (pa_cons (pv 1) pa_nil)) pe_int) pa_nil)))) (pe_callB (z_len (K := K) rfl) (by rfl) T.g_len (by decide +kernel) (pa_cons (pv 1) pa_nil))))
    (pss_cons (ps_set (i := 6) sc__law_random_bonds.nd rfl (by first | exact Or.inl rfl | exact Or.inr rfl) (pe_op op_sub (pe_ix (z_ix (K := K) rfl) (pe_ix (z_ix (K := K) rfl) (pv 1) (pv 4) (fun _ _ => rfl)) pe_int (fun _ _ => rfl)) (pe_ix (z_ix (K := K) rfl) (pe_ix (z_ix (K := K) rfl) (pv 1) (pv 5) (fun _ _ => rfl)) pe_int (fun _ _ => rfl))))
    (pss_one (ps_dput (hu_of hr) (pv 2) (pe_tup (pa_cons (pe_ix (z_ix (K := K) rfl) (pe_ix (z_ix (K := K) rfl) (pv 1) (pv 4) (fun _ _ => rfl)) pe_int (fun _ _ => rfl)) (pa_cons (pe_ix (z_ix (K := K) rfl) (pe_ix (z_ix (K := K) rfl) (pv 1) (pv 5) (fun _ _ => rfl)) pe_int (fun _ _ => rfl)) pa_nil))) (pe_op op_sub (pe_op (z_add (K := K) rfl) (pv 6) (C8.pe_c (ok__law_draw T) hr (by decide) rfl (pa_cons (pv 0) (pa_cons pe_int pa_nil)))) pe_int) rfl))))))
    (pss_one (ps_ret (pe_callTy (z_tup (K := K) rfl) (by rfl) T.g_tuple (by decide +kernel) (pa_cons (pe_lc (own := [("_law_pair", 7)]) (by rfl) sc__law_random_bonds.nd (zi_any (K := K) rfl (pe_callB (cr_sortDT rfl hr.units) (by rfl) T.g_sorted (by decide +kernel) (pa_cons (pv 2) pa_nil))) (blkOk_by (own := [("_law_pair", 7)]) (N := ["_law_reader_here", "_law_rows", "_law_pairs", "_law_k", "_law_at", "_law_to", "_law_low", "_law_pair"]) (sc := d__law_random_bonds.scope) (by decide +kernel)) (fun _ _ _ _ _ => (pg_name (i := 7) sc__law_random_bonds.nd rfl (by first | exact Or.inl rfl | exact Or.inr rfl))) (fun _ _ _ _ _ => pts_nil) (fun _ _ _ _ _ => (pe_op (z_add (K := K) rfl) (pv 7) (pe_tup (pa_cons (pe_dget (hu_of hr) (pv 2) (pv 7) (fun _ _ => rfl)) pa_nil))))) pa_nil)))))), ?_⟩
  obtain ⟨r, ws, ds, x0, cs, a, b, n, M, rfl, rr, ⟨rs, rfl, hR⟩, hr0, hx, hc, hb, hM, q⟩ := h
  refine ro_funG (post := fun d => gBonds [.tup (rowsD rs)] d) (M := M + 20) ?_ rr hr0 hx fun v d H' a' b' n' hd hb' e' hr' rv => q v d H' a' b' n' hd hb' e' hr' rv
  have hl6 : ((rowsD rs).length : Int) = 6 := by simp [rowsD, hR.1]
  refine ro_sC (ro_ownT (i := 2) (fun e he => by cases he; rfl) fun pa => ?_)
  refine ro_sC (ro_rngO (oo_opR (oo_draw (many := 6) rfl ee_c (by decide) (by decide) hc hb (by omega) fun m a b n m0 m1 hb => ⟨dI 1, _, ee_is (ee_cb (es_cons (ee_op (ee_cb (es_cons (ee_var rfl) es_nil) fun _ => rc_lenT) ee_c fun _ => rd_I0) es_nil) fun _ => rc_intB) (by rw [hl6]; rfl), .inl rfl, fun _ => rd_I (.inr (by decide)), .inl rfl, m * 1, rfl, by omega, by omega, fun i ρ' => ∃ a b n ks, RdB (M + 1 + 3 * (i : Int)) a b n ∧ KsOk i ks ∧ Weak ρ' [.rr r x0 cs a b n, .rd (.tup (rowsD rs)), .ot pa ks, .no, .no, .no, .no, .no], ⟨a, b, n, [], hb.up (by omega), ⟨by simp, by simp, by simp⟩, .keep rfl (.keep rfl (.keep rfl (.keep rfl (.keep rfl (.keep rfl (.keep rfl (.keep rfl .nil)))))))⟩, fun i ρ' hi h => ?_, fun ρ' h => ?_⟩)))
  · obtain ⟨a, b, n, ks, hb, hk, wk⟩ := h
    have hi5 : (i : Int) < 5 + 1 := by omega
    refine ⟨_, fun Hs σ H v tv td s Q q => go_name (i := 3) Hs σ H v tv td (s.weak wk) Q q, ?_⟩
    refine ro_sO (oo_draw (many := 6) rfl (ee_is (ee_cb (es_cons (ee_var rfl) es_nil) fun _ => rc_lenT) (by rw [hl6])) (by decide) (by decide) hc hb (by omega) fun at_ a b n a0 a1 hb => ?_)
    refine ro_sO (oo_opR (oo_opL (a := dI (at_ + 1)) (ee_op (ee_var rfl) ee_c fun _ => rd_addI) (.inl rfl) (oo_draw (many := 5) rfl (ee_is (ee_op (ee_cb (es_cons (ee_var rfl) es_nil) fun _ => rc_lenT) ee_c fun _ => rd_I0) (by rw [hl6]; rfl)) (by decide) (by decide) hc hb (by omega) fun d a b n d0 d1 hb => ⟨_, fun _ => rd_addI, .inl rfl, dI 6, _, ee_is (ee_cb (es_cons (ee_var rfl) es_nil) fun _ => rc_lenT) (by rw [hl6]), .inl rfl, fun _ => rd_I (by show (0 : Int) < 6; decide), .inl rfl, ?_⟩)))
    obtain ⟨to, ht⟩ : ∃ to, to = (at_ + 1 + d) % 6 := ⟨_, rfl⟩
    rw [← ht]
    have ht0 : 0 ≤ to := by omega
    have ht1 : to < 6 := by omega
    have hne : to ≠ at_ := by omega
    obtain ⟨ra, x, hra, hxa, oka⟩ := hR.at (k := at_.toNat) (by omega)
    obtain ⟨rb, y, hrb, hyb, okb⟩ := hR.at (k := to.toNat) (by omega)
    have hxy : x ≠ y := pool6_ne hxa hyb (by omega)
    have da : (rowsD rs)[at_.toNat]? = some ra.d := by simp [rowsD, hra]
    have db : (rowsD rs)[to.toNat]? = some rb.d := by simp [rowsD, hrb]
    refine ro_sC (ro_set (d := dI (ra.fst - rb.lst)) (ee_op (ee_op (ee_op (ee_var rfl) (ee_var rfl) fun _ => rd_ixX (n := at_.toNat) (by omega) da) ee_c fun _ => rd_ixX (n := 1) rfl rfl) (ee_op (ee_op (ee_var rfl) (ee_var rfl) fun _ => rd_ixX (n := to.toNat) (by omega) db) ee_c fun _ => rd_ixX (n := 2) rfl rfl) fun _ => rd_I0) (.inl rfl) ?_)
    refine ro_tput (oo_opR (oo_opL (a := dI (ra.fst - rb.lst)) (ee_var rfl) (.inl rfl) (oo_draw (many := 9) rfl ee_c (by decide) (by decide) hc hb (by omega) fun e a b n e0 e1 hb => ⟨_, fun _ => rd_addI, .inl rfl, dI 1, _, ee_c, .inl rfl, fun _ => rd_I0, .inl rfl, ra.fst - rb.lst + e - 1, pa, ks, x, y, rfl, rfl, ee_is (ee_op (ee_op (ee_var rfl) (ee_var rfl) fun _ => rd_ixX (n := at_.toNat) (by omega) da) ee_c fun _ => rd_ixX (n := 0) rfl rfl) (by rw [oka.nm]), ee_is (ee_op (ee_op (ee_var rfl) (ee_var rfl) fun _ => rd_ixX (n := to.toNat) (by omega) db) ee_c fun _ => rd_ixX (n := 0) rfl rfl) (by rw [okb.nm]), by have := hk.len; omega, a, b, n, putT ks (x, y) (ra.fst - rb.lst + e - 1), hb.up (by push_cast; omega), hk.put (List.mem_of_getElem? hxa) (List.mem_of_getElem? hyb) hxy ?_ ?_, ?_⟩)))
    · have := oka.f0; have := okb.l1; omega
    · have := oka.fl; have := oka.l1; have := okb.f0; have := okb.fl; omega
    · exact .keep rfl (.keep rfl (.keep rfl (.drop (.drop (.drop (.drop (.drop .nil)))))))
  · obtain ⟨a, b, n, ks, hb, hk, wk⟩ := h
    refine ro_weak wk ?_
    refine ro_retOt (i := 2) (a := pa) (ks := ks) (d := .tup (tiesD (tiesOf ks))) rfl (fun σ H hl hv hd => dv_cb (ds_cons (dv_bonds hv (by rw [hl]; simp) hd (by have := hk.len; omega) fun p hp => ?_) ds_nil) rc_tupL) (.inl (by simp [D.tu, tiesD_tus])) ⟨⟨_, rfl, hk.ties (by omega)⟩, a, b, n, rfl, hb.up (by omega)⟩
    obtain ⟨h1, h2, _⟩ := hk.ok p hp
    exact ⟨pool6_nm _ h1, pool6_nm _ h2⟩
end
end Pa
set_option Elab.async false
set_option linter.all false
set_option maxRecDepth 100000
set_option maxHeartbeats 4000000
/-! the least case, in plain Lean -/
namespace Pa
open PySem PySem.Spec PyProof.Rows L2 Evl
def stepT (t : Tie) (s : (Str → Int) × Bool) : (Str → Int) × Bool := if s.1 t.oth < s.1 t.one - t.most then (fun x => if x = t.oth then s.1 t.one - t.most else s.1 x, true) else s
def passT (ts : List Tie) (s : (Str → Int) × Bool) : (Str → Int) × Bool := ts.foldl (fun s t => stepT t s) s
def overT (rs : List Row) (f : Str → Int) : Bool := rs.any fun r => decide (f r.nm > r.lst)
def lcGo (rs : List Row) (ts : List Tie) : Nat → (Str → Int) → Option (Str → Int)
  | 0, _ => none
  | k + 1, f => if overT rs (passT ts (f, false)).1 = true then none else if k = 0 then (if (passT ts (f, false)).2 = true then none else some (passT ts (f, false)).1) else lcGo rs ts k (passT ts (f, false)).1
def fst0 (rs : List Row) (x : Str) : Int := ((rs.find? fun r => decide (r.nm = x)).map Row.fst).getD 0
def lst0 (rs : List Row) (x : Str) : Int := ((rs.find? fun r => decide (r.nm = x)).map Row.lst).getD 0
def leastC (rs : List Row) (ts : List Tie) : Option (Str → Int) := lcGo rs ts (rs.length + 1) (fst0 rs)
theorem find_nm {rs : List Row} (nd : (rs.map Row.nm).Nodup) {r : Row} (h : r ∈ rs) : rs.find? (fun q => decide (q.nm = r.nm)) = some r := by
  induction rs with
  | nil => cases h
  | cons q rs ih =>
    rw [List.map_cons] at nd
    obtain ⟨n1, n2⟩ := List.nodup_cons.mp nd
    rw [List.find?_cons]
    rcases List.mem_cons.mp h with rfl | h
    · simp
    · have hne : q.nm ≠ r.nm := fun e => n1 (by rw [e]; exact List.mem_map.mpr ⟨r, h, rfl⟩)
      simp only [hne, decide_false]
      exact ih n2 h
theorem fst0_at {rs : List Row} (nd : (rs.map Row.nm).Nodup) {r : Row} (h : r ∈ rs) : fst0 rs r.nm = r.fst := by simp [fst0, find_nm nd h]
theorem lst0_at {rs : List Row} (nd : (rs.map Row.nm).Nodup) {r : Row} (h : r ∈ rs) : lst0 rs r.nm = r.lst := by simp [lst0, find_nm nd h]
theorem step_mono {t : Tie} {s : (Str → Int) × Bool} (x : Str) : s.1 x ≤ (stepT t s).1 x := by
  unfold stepT
  split
  · show s.1 x ≤ if x = t.oth then _ else _
    split
    · rename_i h e; subst e; omega
    · exact Int.le_refl _
  · exact Int.le_refl _
theorem pass_mono {ts : List Tie} : ∀ {s : (Str → Int) × Bool} (x : Str), s.1 x ≤ (passT ts s).1 x := by
  unfold passT
  induction ts with
  | nil => intro s x; exact Int.le_refl _
  | cons t ts ih => intro s x; rw [List.foldl_cons]; exact Int.le_trans (step_mono x) (ih x)
theorem pass_true {ts : List Tie} : ∀ {s : (Str → Int) × Bool}, s.2 = true → (passT ts s).2 = true := by
  unfold passT
  induction ts with
  | nil => intro s h; exact h
  | cons t ts ih =>
    intro s h
    rw [List.foldl_cons]
    refine ih ?_
    unfold stepT
    split
    · rfl
    · exact h
theorem pass_flag {ts : List Tie} : ∀ {s : (Str → Int) × Bool}, (passT ts s).2 = false → passT ts s = s ∧ ∀ t ∈ ts, ¬ s.1 t.oth < s.1 t.one - t.most := by
  induction ts with
  | nil => intro s h; exact ⟨rfl, fun t ht => by cases ht⟩
  | cons t ts ih =>
    intro s h
    have e : passT (t :: ts) s = passT ts (stepT t s) := rfl
    rw [e] at h ⊢
    by_cases hs : s.1 t.oth < s.1 t.one - t.most
    · have h2 : (stepT t s).2 = true := by unfold stepT; rw [if_pos hs]
      rw [pass_true h2] at h
      cases h
    · have h2 : stepT t s = s := by unfold stepT; rw [if_neg hs]
      rw [h2] at h ⊢
      obtain ⟨h3, h4⟩ := ih h
      refine ⟨h3, fun u hu => ?_⟩
      rcases List.mem_cons.mp hu with rfl | hu
      · exact hs
      · exact h4 u hu
theorem lc_go {rs : List Row} {ts : List Tie} {g : Str → Int} : ∀ {k : Nat} {f : Str → Int}, lcGo rs ts k f = some g → (∀ x, f x ≤ g x) ∧ (∀ r ∈ rs, g r.nm ≤ r.lst) ∧ ∀ t ∈ ts, g t.one ≤ g t.oth + t.most
  | 0, f, h => by cases h
  | k + 1, f, h => by
    unfold lcGo at h
    split at h
    · cases h
    · rename_i ho
      split at h
      · split at h
        · cases h
        · rename_i hg
          have hf : (passT ts (f, false)).2 = false := by simpa using hg
          obtain ⟨e, ht⟩ := pass_flag hf
          have eg := Option.some.inj h
          have e1 : (passT ts (f, false)).1 = f := by rw [e]
          rw [e1] at eg ho
          subst eg
          refine ⟨fun x => Int.le_refl _, fun r hr => ?_, fun t h => ?_⟩
          · by_cases hl : f r.nm ≤ r.lst
            · exact hl
            · exact absurd (List.any_eq_true.mpr ⟨r, hr, by simp; omega⟩) ho
          · have := ht t h
            simp only at this
            omega
      · obtain ⟨h1, h2, h3⟩ := lc_go h
        exact ⟨fun x => Int.le_trans (pass_mono (ts := ts) (s := (f, false)) x) (h1 x), h2, h3⟩
theorem lc_case {rs : List Row} {ts : List Tie} {g : Str → Int} (nd : (rs.map Row.nm).Nodup) (h : leastC rs ts = some g) (cl : Int) : IsCase ⟨rs, ts, cl⟩ g := by
  obtain ⟨h1, h2, h3⟩ := lc_go h
  exact ⟨fun r hr => ⟨by have := h1 r.nm; rwa [fst0_at nd hr] at this, h2 r hr⟩, h3⟩
theorem lc_nil {rs : List Row} (nd : (rs.map Row.nm).Nodup) (hf : ∀ r ∈ rs, r.fst ≤ r.lst) : leastC rs [] = some (fst0 rs) := by
  have ho : overT rs (fst0 rs) = false := by
    unfold overT
    refine Bool.eq_false_iff.mpr fun h => ?_
    obtain ⟨r, hr, q⟩ := List.any_eq_true.mp h
    rw [fst0_at nd hr] at q
    have := hf r hr
    simp at q
    omega
  have go : ∀ k, lcGo rs [] (k + 1) (fst0 rs) = some (fst0 rs) := fun k => by
    induction k with
    | zero => unfold lcGo; simp [passT, ho]
    | succ k ih => unfold lcGo; simp [passT, ho, ih]
  exact go rs.length
end Pa
set_option Elab.async false
set_option linter.all false
set_option maxRecDepth 100000
set_option maxHeartbeats 4000000
/-! sorted of a dict; two new dicts -/
namespace Pa
open PySem PySem.Spec PyProof.Rows L2 Evl
theorem not_lt_trans {a b c : Str} (h1 : ¬ sLt b a) (h2 : ¬ sLt c b) : ¬ sLt c a := fun h => by
  rcases sLt_tri a b with t | t | t
  · exact h2 (List.lt_trans h t)
  · subst t; exact h2 h
  · exact h1 t
theorem rising_all : ∀ {p : Str} {l : List Str}, risingS p l = true → (∀ y ∈ l, ¬ sLt y p) ∧ l.Pairwise fun a b => ¬ sLt b a
  | p, [], _ => ⟨fun y h => by (cases h), .nil⟩
  | p, x :: r, h => by
    unfold risingS at h
    obtain ⟨h1, h2⟩ := Bool.and_eq_true_iff.mp h
    obtain ⟨g1, g2⟩ := rising_all h2
    have hx : ¬ sLt x p := by
      rw [ltCps_eq] at h1
      simpa [sLt] using h1
    refine ⟨fun y hy => ?_, .cons (fun y hy => g1 y hy) g2⟩
    rcases List.mem_cons.mp hy with rfl | hy
    · exact hx
    · exact not_lt_trans hx (g1 y hy)
theorem sortedS_asc {ys xs : List Str} (h : sortedS ys = true) (hp : ys.Perm xs) (ha : Asc xs) : ys = xs := by
  have nd : ys.Nodup := hp.nodup_iff.mpr ha.nodup
  have hpw : ys.Pairwise fun a b => ¬ sLt b a := by
    cases ys with
    | nil => exact .nil
    | cons x r =>
      obtain ⟨g1, g2⟩ := rising_all (p := x) (l := r) h
      exact .cons (fun y hy => g1 y hy) g2
  refine asc_eq ?_ ha hp
  exact (hpw.and nd).imp fun {a b} ⟨h1, h2⟩ => by
    rcases sLt_tri a b with t | t | t
    · exact t
    · exact absurd t h2
    · exact absurd t h1
def rSortDK : List V → Hp → VK → Prop := fun xs H Q => ∃ (a : Addr) (kvs : List (Key × V)) (ks : List Str), xs = [.ref a] ∧ Rd H a (.dK kvs) ∧ kvs.map (·.1) = ks.map Sum.inr ∧ ks.length < 64 ∧ ∀ ys p, ys.Perm ks → sortedS ys = true → H p = none → Q (.ref p) (upd H p (.lst (ys.map V.str)))
theorem z_sortDK {X : Cx} (hc : X.calm = true) : CallR X (.builtin "sorted") rSortDK := call_sortedD hc
section
variable {K : PySem.W.Frag} {ρ ρ' : Enw} {tv : List V} {td : List D} {σ : L2.St} {Hs H0 H : Hp} {i j : Nat} {N : Enw → Prop} {R : D → Enw → Prop}
theorem rc_sortDK {kvs : List (Str × D)} (ha : Asc (kvs.map (·.1))) (hl : kvs.length < 64) : RCD K rSortDK [.dic kvs] H (.lst (sD (kvs.map (·.1)))) := fun H1 _ vs r Q q => by
  cases r with
  | cons r0 rr =>
    cases rr
    obtain ⟨a, xs, rfl, hx, rk⟩ := r0.dic_inv
    refine ⟨a, xs, kvs.map (·.1), rfl, hx, rk.keys, by simpa using hl, fun ys p hp hs hn => ?_⟩
    rw [sortedS_asc hs hp ha]
    exact q _ _ (Ex.new hn) (.lst upd_same (by rw [sD, strs_raw]; exact Rps.raws))
/-- a, b = {}, {} -/
theorem ro_ownDD (hi : ∀ e, ρ[i]? = some e → e.ad = []) (hj : ∀ e, ρ[j]? = some e → e.ad = []) (hij : i ≠ j) (k : ∀ a b, N ((ρ.set i (.od a [])).set j (.od b []))) : RO K (tPar i j (tCons tDNewK (tCons tDNewK tNil))) ρ N R := fun Hs Dn σ H s kn _ => by
  obtain ⟨H0, eh, s0⟩ := s
  intro p hp q hq
  refine ⟨_, _, rfl, ?_⟩
  have e1 : Ex H (upd H p (.dK [])) := Ex.new hp
  have s1 := (s0.grow1 e1 hp).new hi (e' := .od p []) rfl (s0.ne_of_fresh (Ex.refl _) hp) (minus_in List.mem_cons_self) ⟨rfl, [], upd_same, .nil⟩
  have e2 : Ex (upd H p (.dK [])) (upd (upd H p (.dK [])) q (.dK [])) := Ex.new hq
  have s2 := (s1.grow1 e2 hq).new (i := j) (fun e he => hj e (by rwa [List.getElem?_set_ne hij] at he)) (e' := .od q []) rfl (s1.ne_of_fresh (Ex.refl _) hq) (minus_in List.mem_cons_self) ⟨rfl, [], upd_same, .nil⟩
  exact kn _ _ _ (k p q) ⟨_, (eh.trans (s0.growEx1 e1 hp)).trans (s1.growEx1 e2 hq), s2⟩
/-- .. by way of a tuple -/
theorem ro_ownDDT (hi : ∀ e, ρ[i]? = some e → e.ad = []) (hj : ∀ e, ρ[j]? = some e → e.ad = []) (hij : i ≠ j) (k : ∀ a b, N ((ρ.set i (.od a [])).set j (.od b []))) : RO K (tAsg (tTup (tCons tDNewK (tCons tDNewK tNil))) (gTup K 2 (gCons (gName i) (gCons (gName j) gNil)))) ρ N R := fun Hs Dn σ H s kn _ => by
  obtain ⟨H0, eh, s0⟩ := s
  intro p hp q hq
  refine ⟨by show 2 ≤ sizeLine; decide, fun t ht => ⟨t, _, rfl, SqT.of upd_same, rfl, _, _, rfl, _, _, rfl, rfl, ?_⟩⟩
  have e1 : Ex H (upd H p (.dK [])) := Ex.new hp
  have s1 := (s0.grow1 e1 hp).new hi (e' := .od p []) rfl (s0.ne_of_fresh (Ex.refl _) hp) (minus_in List.mem_cons_self) ⟨rfl, [], upd_same, .nil⟩
  have e2 : Ex (upd H p (.dK [])) (upd (upd H p (.dK [])) q (.dK [])) := Ex.new hq
  have s2 := (s1.grow1 e2 hq).new (i := j) (fun e he => hj e (by rwa [List.getElem?_set_ne hij] at he)) (e' := .od q []) rfl (s1.ne_of_fresh (Ex.refl _) hq) (minus_in List.mem_cons_self) ⟨rfl, [], upd_same, .nil⟩
  have e3 : Ex (upd (upd H p (.dK [])) q (.dK [])) (upd (upd (upd H p (.dK [])) q (.dK [])) t (.tup [.ref p, .ref q])) := Ex.new ht
  exact kn _ _ _ (k p q) ⟨_, ((eh.trans (s0.growEx1 e1 hp)).trans (s1.growEx1 e2 hq)).trans (s2.growEx e3), s2.grow e3⟩
end
end Pa
set_option Elab.async false
set_option linter.all false
set_option maxRecDepth 100000
set_option maxHeartbeats 8000000
namespace Pa
open PySem PySem.Spec PyProof.Rows L2 Evl
section
variable {P : Program} {w : World} {K : PySem.W.Frag} {mg : Str → Option Value} {base : Heap}


def fD2 (rs : List Row) (f : Str → Int) : List (Str × D) := rs.map fun r => (r.nm, dI (f r.nm))
theorem fD2_put {rs : List Row} {f : Str → Int} {x : Str} {z : Int} (hx : x ∈ rs.map Row.nm) : putD (fD2 rs f) x (dI z) = fD2 rs fun y => if y = x then z else f y := by
  unfold putD
  have ha : ((fD2 rs f).any fun kv => decide (kv.1 = x)) = true := by
    obtain ⟨r, hr, rfl⟩ := List.mem_map.mp hx
    exact List.any_eq_true.mpr ⟨(r.nm, dI (f r.nm)), List.mem_map.mpr ⟨r, hr, rfl⟩, by simp⟩
  rw [if_pos ha]
  unfold fD2
  rw [List.map_map]
  refine List.map_congr_left fun r _ => ?_
  show (if r.nm = x then (r.nm, dI z) else (r.nm, dI (f r.nm))) = (r.nm, dI (if r.nm = x then z else f r.nm))
  split <;> rfl
theorem fD2_look {rs : List Row} {f : Str → Int} {x : Str} (nd : (rs.map Row.nm).Nodup) (hx : x ∈ rs.map Row.nm) : (fD2 rs f).lookup x = some (dI (f x)) := by
  obtain ⟨r, hr, rfl⟩ := List.mem_map.mp hx
  obtain ⟨i, hi⟩ := List.getElem?_of_mem hr
  refine lookup_nodup (i := i) (by simpa [fD2, Function.comp_def] using nd) ?_
  simp [fD2, hi]
theorem fD2_congr {rs : List Row} {f g : Str → Int} (h : ∀ r ∈ rs, f r.nm = g r.nm) : fD2 rs f = fD2 rs g := List.map_congr_left fun r hr => by rw [h r hr]
theorem fD2_keys {rs : List Row} {f : Str → Int} : (fD2 rs f).map (·.1) = rs.map Row.nm := by simp [fD2, Function.comp_def]
theorem take_put {rs : List Row} {g : Row → Int} (nd : (rs.map Row.nm).Nodup) {i : Nat} {r : Row} (h : rs[i]? = some r) : putD ((rs.take i).map fun r => (r.nm, dI (g r))) r.nm (dI (g r)) = (rs.take (i + 1)).map fun r => (r.nm, dI (g r)) := by
  obtain ⟨hi, rfl⟩ := List.getElem?_eq_some_iff.mp h
  rw [putD_new, ← List.take_append_getElem hi, List.map_append]
  · rfl
  · intro hm
    rw [List.map_map] at hm
    obtain ⟨q, hq, e⟩ := List.mem_map.mp hm
    obtain ⟨j, hj⟩ := List.getElem?_of_mem hq
    have hji : j < i := by
      have := (List.getElem?_eq_some_iff.mp hj).1
      rw [List.length_take] at this
      omega
    rw [List.getElem?_take_of_lt hji] at hj
    have := nd_ix nd (i := j) (j := i) (x := rs[i].nm) (by rw [List.getElem?_map, hj]; exact congrArg some e) (by simp [hi])
    omega
theorem pass_take {ts : List Tie} {s : (Str → Int) × Bool} {i : Nat} {t : Tie} (h : ts[i]? = some t) : passT (ts.take (i + 1)) s = stepT t (passT (ts.take i) s) := by
  obtain ⟨hi, rfl⟩ := List.getElem?_eq_some_iff.mp h
  rw [← List.take_append_getElem hi]
  unfold passT
  rw [List.foldl_append]
  rfl
def lcD (rs : List Row) : Option (Str → Int) → D
  | none => dN
  | some f => .tup (rs.map fun r => dI (f r.nm))
def gLeast : List D → D → Prop := fun ds d => ∃ rs ts, ds = [.tup (rowsD rs), .tup (tiesD ts)] ∧ Asc (rs.map Row.nm) ∧ rs.length ≤ 40 ∧ ts.length ≤ 1000 ∧ (∀ t ∈ ts, t.one ∈ rs.map Row.nm ∧ t.oth ∈ rs.map Row.nm) ∧ (∀ x ∈ rs.map Row.nm, isNm x) ∧ d = lcD rs (leastC rs ts)
theorem lcGo_succ {rs : List Row} {ts : List Tie} {k : Nat} {f : Str → Int} : lcGo rs ts (k + 1) f = if overT rs (passT ts (f, false)).1 = true then none else if k = 0 then (if (passT ts (f, false)).2 = true then none else some (passT ts (f, false)).1) else lcGo rs ts k (passT ts (f, false)).1 := by rw [lcGo]
theorem tus_mem : ∀ {ds : List D}, D.tus ds = true → ∀ x ∈ ds, x.tu = true
  | [], _, x, hx => by cases hx
  | d :: ds, h, x, hx => by
    simp only [D.tus, Bool.and_eq_true] at h
    rcases List.mem_cons.mp hx with rfl | hx
    · exact h.1
    · exact tus_mem h.2 x hx
theorem rng_tu {n : Nat} : ∀ d ∈ rngD n, d.tu = true := fun d hd => by
  obtain ⟨i, hi⟩ := List.getElem?_of_mem hd
  have : i < n := by
    have := (List.getElem?_eq_some_iff.mp hi).1
    rwa [rngD_len] at this
  rw [rngD_get this] at hi
  cases hi
  rfl
def overP (rs : List Row) (f : Str → Int) : D → Bool
  | .raw (.str x) => decide (f x > lst0 rs x)
  | _ => false
theorem over_any {rs : List Row} {f : Str → Int} (nd : (rs.map Row.nm).Nodup) : ((sD (rs.map Row.nm)).filter (overP rs f) = []) ↔ overT rs f = false := by
  rw [List.filter_eq_nil_iff]
  unfold overT
  rw [List.any_eq_false]
  constructor
  · intro h r hr
    have := h (dS r.nm) (List.mem_map.mpr ⟨r.nm, List.mem_map.mpr ⟨r, hr, rfl⟩, rfl⟩)
    simp only [overP, lst0_at nd hr] at this
    simpa using this
  · intro h d hd
    obtain ⟨x, hx, rfl⟩ := List.mem_map.mp hd
    obtain ⟨r, hr, rfl⟩ := List.mem_map.mp hx
    have := h r hr
    simp only [overP, lst0_at nd hr]
    simpa using this

theorem sc__law_least_case : FnScope ["_law_rows", "_law_bonds", "_law_found", "_law_lasts", "_law_entry", "_law_turn", "_law_grows", "_law_one", "_law_other", "_law_most"] ["_law_rows", "_law_bonds"] d__law_least_case.scope := ⟨rfl, rfl, rfl, by decide +kernel, rfl, by decide +kernel, by decide +kernel⟩
theorem ok__law_least_case (T : Wd K mg base) : C8.Cal P w K mg base (0 + 1) "_law_least_case" (spD K gLeast) [] := by
  refine cal_of T 49 65 (d := d__law_least_case) rfl rfl rfl rfl rfl sc__law_least_case (spD_len fun ds d ⟨_, _, e, _⟩ => by rw [e]; rfl) (fun _ _ _ _ _ _ us hl => match us, hl with | [_, _], _ => rfl) fun cdv A outer s H vs Q E hr h => ?_
  refine ⟨_, (pss_cons (ps_asg (pe_tup (pa_cons pe_dnewK (pa_cons pe_dnewK pa_nil))) (zg_tup (K := K) (n := 2) rfl rfl (pgs_cons (pg_name (i := 2) sc__law_least_case.nd rfl (by first | exact Or.inl rfl | exact Or.inr rfl)) (pgs_cons (pg_name (i := 3) sc__law_least_case.nd rfl (by first | exact Or.inl rfl | exact Or.inr rfl)) pgs_nil))))
    (pss_cons (ps_for PassesOwn.never rfl (zi_any (K := K) rfl (pv 0)) (pg_name (i := 4) sc__law_least_case.nd rfl (by first | exact Or.inl rfl | exact Or.inr rfl)) (pss_cons (ps_dput (hu_of hr) (pv 2) (pe_ix (z_ix (K := K) rfl) (pv 4) pe_int (fun _ _ => rfl)) (pe_ix (z_ix (K := K) rfl) (pv 4) pe_int (fun _ _ => rfl)) rfl)
    (pss_one (ps_dput (hu_of hr) (pv 3) (pe_ix (z_ix (K := K) rfl) (pv 4) pe_int (fun _ _ => rfl)) (pe_ix (z_ix (K := K) rfl) (pv 4) pe_int (fun _ _ => rfl)) rfl))))
    (pss_cons (ps_for PassesOwn.never rfl (pi_range1 (by rfl) T.g_range (pa_cons (pe_op (z_add (K := K) rfl) (pe_callB (z_len (K := K) rfl) (by rfl) T.g_len (by decide +kernel) (pa_cons (pv 0) pa_nil)) pe_int) pa_nil)) (pg_name (i := 5) sc__law_least_case.nd rfl (by first | exact Or.inl rfl | exact Or.inr rfl)) (pss_cons (ps_set (i := 6) sc__law_least_case.nd rfl (by first | exact Or.inl rfl | exact Or.inr rfl) pe_bl)
    (pss_cons (ps_for PassesOwn.never rfl (zi_any (K := K) rfl (pv 1)) (zg_tup (K := K) (n := 3) rfl rfl (pgs_cons (pg_name (i := 7) sc__law_least_case.nd rfl (by first | exact Or.inl rfl | exact Or.inr rfl)) (pgs_cons (pg_name (i := 8) sc__law_least_case.nd rfl (by first | exact Or.inl rfl | exact Or.inr rfl)) (pgs_cons (pg_name (i := 9) sc__law_least_case.nd rfl (by first | exact Or.inl rfl | exact Or.inr rfl)) pgs_nil)))) (pss_one (ps_if (pt_cmpR (z_lt (K := K) hr.units rfl) (pe_dget (hu_of hr) (pv 2) (pv 8) (fun _ _ => rfl)) (pe_op op_sub (pe_dget (hu_of hr) (pv 2) (pv 7) (fun _ _ => rfl)) (pv 9)) (nomark _)) (pss_cons (ps_dput (hu_of hr) (pv 2) (pv 8) (pe_op op_sub (pe_dget (hu_of hr) (pv 2) (pv 7) (fun _ _ => rfl)) (pv 9)) rfl)
    (pss_one (ps_set (i := 6) sc__law_least_case.nd rfl (by first | exact Or.inl rfl | exact Or.inr rfl) pe_bl))) pss_nil)))
    (pss_one (ps_if (pt_cmpR (z_ne (K := K) hr.units rfl) (pe_lc (own := [("_law_one", 7)]) (by rfl) sc__law_least_case.nd (zi_any (K := K) rfl (pe_callB (z_sortDK rfl) (by rfl) T.g_sorted (by decide +kernel) (pa_cons (pv 2) pa_nil))) (blkOk_by (own := [("_law_one", 7)]) (N := ["_law_rows", "_law_bonds", "_law_found", "_law_lasts", "_law_entry", "_law_turn", "_law_grows", "_law_one", "_law_other", "_law_most"]) (sc := d__law_least_case.scope) (by decide +kernel)) (fun _ _ _ _ _ => (pg_name (i := 7) sc__law_least_case.nd rfl (by first | exact Or.inl rfl | exact Or.inr rfl))) (fun _ _ _ _ _ => (pts_one (pt_cmpR op_gt (pe_dget (hu_of hr) (pv 2) (pv 7) (fun _ _ => rfl)) (pe_dget (hu_of hr) (pv 3) (pv 7) (fun _ _ => rfl)) (nomark _)))) (fun _ _ _ _ _ => (pv 7))) (pe_lst pa_nil) (nomark _)) (pss_one (ps_ret pe_non)) pss_nil)))))
    (pss_one (ps_ret (pe_ifExp (pt_val (pv 6)) pe_non (pe_callTy (z_tup (K := K) rfl) (by rfl) T.g_tuple (by decide +kernel) (pa_cons (pe_lc (own := [("_law_entry", 4)]) (by rfl) sc__law_least_case.nd (zi_any (K := K) rfl (pv 0)) (blkOk_by (own := [("_law_entry", 4)]) (N := ["_law_rows", "_law_bonds", "_law_found", "_law_lasts", "_law_entry", "_law_turn", "_law_grows", "_law_one", "_law_other", "_law_most"]) (sc := d__law_least_case.scope) (by decide +kernel)) (fun _ _ _ _ _ => (pg_name (i := 4) sc__law_least_case.nd rfl (by first | exact Or.inl rfl | exact Or.inr rfl))) (fun _ _ _ _ _ => pts_nil) (fun _ _ _ _ _ => (pe_dget (hu_of hr) (pv 2) (pe_ix (z_ix (K := K) rfl) (pv 4) pe_int (fun _ _ => rfl)) (fun _ _ => rfl)))) pa_nil)))))))), ?_⟩
  obtain ⟨ds, d, rr, ⟨rs, ts, rfl, asc, hl, htl, hin, hnm, rfl⟩, q⟩ := h
  refine ro_fun ?_ rr q
  have nd : (rs.map Row.nm).Nodup := asc.nodup
  refine ro_sC (ro_ownDDT (i := 2) (j := 3) (fun e he => by cases he; rfl) (fun e he => by cases he; rfl) (by decide) fun fa la => ?_)
  refine ro_s (ro_for (fun i => [.rd (.tup (rowsD rs)), .rd (.tup (tiesD ts)), .od fa ((rs.take i).map fun r => (r.nm, dI r.fst)), .od la ((rs.take i).map fun r => (r.nm, dI r.lst)), .no, .no, .no, .no, .no, .no]) (wo_tv (i := 0) rfl) Weak.refl (tus_mem rowsD_tus) (fun i d hd => ?_) rfl) ?_
  · obtain ⟨r, hr, rfl⟩ := map_get hd
    have hz : (rs.take i).length < 100000 := by rw [List.length_take]; omega
    refine ⟨_, go_name, ?_⟩
    refine ro_s (ro_dput (i := 2) rfl (d := dI r.fst) (k := r.nm) (ee_op (ee_var rfl) ee_c fun _ => rd_ixX (n := 1) rfl rfl) (.inl rfl) (ee_op (ee_var rfl) ee_c fun _ => rd_ixX (n := 0) rfl rfl) (by simpa using hz) rfl) ?_
    refine ro_dput (i := 3) rfl (d := dI r.lst) (k := r.nm) (ee_op (ee_var rfl) ee_c fun _ => rd_ixX (n := 2) rfl rfl) (.inl rfl) (ee_op (ee_var rfl) ee_c fun _ => rd_ixX (n := 0) rfl rfl) (by simpa using hz) ?_
    exact .keep rfl (.keep rfl (.keep (congrArg (En.od fa) (take_put (g := Row.fst) nd hr)) (.keep (congrArg (En.od la) (take_put (g := Row.lst) nd hr)) (.drop (.keep rfl (.keep rfl (.keep rfl (.keep rfl (.keep rfl .nil)))))))))
  have e1 : ((rs.take (rowsD rs).length).map fun r => (r.nm, dI r.fst)) = fD2 rs (fst0 rs) := by
    have : (rowsD rs).length = rs.length := by simp [rowsD]
    rw [this, List.take_length]
    exact List.map_congr_left fun r hr => by rw [fst0_at nd hr]
  have e2 : ((rs.take (rowsD rs).length).map fun r => (r.nm, dI r.lst)) = fD2 rs (lst0 rs) := by
    have : (rowsD rs).length = rs.length := by simp [rowsD]
    rw [this, List.take_length]
    exact List.map_congr_left fun r hr => by rw [lst0_at nd hr]
  rw [e1, e2]
  have hn : (((rowsD rs).length : Int) + 1).toNat = rs.length + 1 := by simp [rowsD]
  refine ro_sC (ro_forE (α := (Str → Int) × Bool) (fun i s => (i < rs.length + 1 → leastC rs ts = lcGo rs ts (rs.length + 1 - i) s.1) ∧ (i = rs.length + 1 → leastC rs ts = if s.2 = true then none else some s.1)) (fun i s => [.rd (.tup (rowsD rs)), .rd (.tup (tiesD ts)), .od fa (fD2 rs s.1), .od la (fD2 rs (lst0 rs)), .no, .no, if i = 0 then .no else .rd (dB s.2), .no, .no, .no]) (wo_rng (es_cons (ee_op (ee_cb (es_cons (ee_var rfl) es_nil) fun _ => rc_lenT) ee_c fun _ => rd_addI) es_nil) (by simp [rowsD]; omega)) ⟨(fst0 rs, false), ⟨fun _ => rfl, fun h => by omega⟩, Weak.refl⟩ rng_tu (fun i d s hd hs => ?_) fun s hs => ?_)
  · have hi : i < rs.length + 1 := by
      have := (List.getElem?_eq_some_iff.mp hd).1
      rw [rngD_len] at this
      omega
    rw [rngD_get (by omega)] at hd
    cases hd
    have h1 := hs.1 hi
    obtain ⟨f, g0⟩ := s
    dsimp only at h1 ⊢
    refine ⟨_, go_name, ?_⟩
    refine ro_s (ro_set (d := dB false) ee_c (.inl rfl) rfl) ?_
    refine ro_s (ro_for (fun j => [.rd (.tup (rowsD rs)), .rd (.tup (tiesD ts)), .od fa (fD2 rs (passT (ts.take j) (f, false)).1), .od la (fD2 rs (lst0 rs)), .no, .no, .rd (dB (passT (ts.take j) (f, false)).2), .no, .no, .no]) (wo_tv (i := 1) rfl) (.keep rfl (.keep rfl (.keep rfl (.keep rfl (.drop (.drop (.keep rfl (.keep rfl (.keep rfl (.keep rfl .nil)))))))))) (tus_mem tiesD_tus) (fun j d hd => ?_) rfl) ?_
    · obtain ⟨t, ht, rfl⟩ := map_get hd
      obtain ⟨t1, t2⟩ := hin t (List.mem_of_getElem? ht)
      refine ⟨_, go_tup (gos_cons go_name (gos_cons go_name (gos_cons go_name gos_nil))) rfl, ?_⟩
      generalize hp : passT (ts.take j) (f, false) = s'
      obtain ⟨f', g'⟩ := s'
      have hst : passT (ts.take (j + 1)) (f, false) = stepT t (f', g') := by rw [pass_take ht, hp]
      refine ro_if (te_test (ee_op (ee_dget (d := dI (f' t.oth)) (ee_var rfl) (ee_var rfl) (fD2_look nd t2)) (ee_op (ee_dget (d := dI (f' t.one)) (ee_var rfl) (ee_var rfl) (fD2_look nd t1)) (ee_var rfl) fun _ => rd_I0) fun _ => rd_ltI)) (fun hk => ?_) fun hk => ?_
      · have hk' : f' t.oth < f' t.one - t.most := by simpa using hk
        have hs2 : stepT t (f', g') = (fun x => if x = t.oth then f' t.one - t.most else f' x, true) := by unfold stepT; rw [if_pos hk']
        refine ro_s (ro_dput (i := 2) rfl (d := dI (f' t.one - t.most)) (k := t.oth) (ee_op (ee_dget (d := dI (f' t.one)) (ee_var rfl) (ee_var rfl) (fD2_look nd t1)) (ee_var rfl) fun _ => rd_I0) (.inl rfl) (ee_var rfl) (by simp [fD2]; omega) rfl) ?_
        refine ro_set (d := dB true) ee_c (.inl rfl) ?_
        rw [hst, hs2]
        exact .keep rfl (.keep rfl (.keep (congrArg (En.od fa) (fD2_put t2)) (.keep rfl (.keep rfl (.keep rfl (.keep rfl (.drop (.drop (.drop .nil)))))))))
      · have hk' : ¬ f' t.oth < f' t.one - t.most := by simpa using hk
        have hs2 : stepT t (f', g') = (f', g') := by unfold stepT; rw [if_neg hk']
        refine ro_next ?_
        rw [hst, hs2]
        exact .keep rfl (.keep rfl (.keep rfl (.keep rfl (.keep rfl (.keep rfl (.keep rfl (.drop (.drop (.drop .nil)))))))))
    have etl : (tiesD ts).length = ts.length := by simp [tiesD]
    rw [etl, List.take_length]
    generalize hp : passT ts (f, false) = s'
    obtain ⟨f', g'⟩ := s'
    dsimp only
    have hsd : D.oks 1 (((sD (rs.map Row.nm)).filter (overP rs f')).map id) = true := by
      rw [List.map_id]
      refine oks_all fun d hd => ?_
      exact oks_mem (oks_strs (n := 1) hnm) _ (List.mem_filter.mp hd).1
    have hov := over_any (rs := rs) (f := f') nd
    refine ro_if (b := overT rs f') (te_test (ee_is (ee_op (ee_lcP (ds := sD (rs.map Row.nm)) (overP rs f') id (wke_l (ee_is (ee_cb (es_cons (ee_var rfl) es_nil) fun _ => rc_sortDK (by rw [fD2_keys]; exact asc) (by simp [fD2]; omega)) (by rw [fD2_keys]))) (by simp [sD]; omega) (by simp) (fun d hd _ => ?_) (fun d hd => ?_) fun d hd _ => ?_) (ee_lst es_nil (by simp)) fun _ => rd_neP (n := 2) (by rw [D.ok]; exact hsd) (m := 1) rfl (by decide) (by decide)) ?_)) (fun hk => ?_) fun hk => ?_
    · exact tus_mem sD_tus d hd
    · obtain ⟨x, hx, rfl⟩ := List.mem_map.mp hd
      exact te_test (ee_is (ee_op (ee_dget (d := dI (f' x)) (ee_var rfl) (ee_var rfl) (fD2_look nd hx)) (ee_dget (d := dI (lst0 rs x)) (ee_var rfl) (ee_var rfl) (fD2_look nd hx)) fun _ => rd_I0) rfl)
    · exact ee_var rfl
    · rw [List.map_id]
      cases ho : overT rs f' with
      | false => rw [hov.mpr ho]; rfl
      | true =>
        cases hL : (sD (rs.map Row.nm)).filter (overP rs f') with
        | nil => rw [hov.mp hL] at ho; cases ho
        | cons d ds => exact congrArg (fun k => dB (!k)) ne_nil_list
    · refine ro_ret ee_c (.inl rfl) ?_
      obtain ⟨k, ek⟩ : ∃ k, rs.length + 1 - i = k + 1 := ⟨rs.length - i, by omega⟩
      rw [h1, ek]
      rw [lcGo_succ]
      rw [hp]
      simp [hk, lcD]
    · refine ro_next ⟨(f', g'), ⟨fun hi2 => ?_, fun hi2 => ?_⟩, ?_⟩
      · obtain ⟨k, ek⟩ : ∃ k, rs.length + 1 - i = k + 1 := ⟨rs.length - i, by omega⟩
        have ek2 : rs.length + 1 - (i + 1) = k := by omega
        rw [h1, ek, ek2]
        rw [lcGo_succ]
        rw [hp]
        have : k ≠ 0 := by omega
        simp [hk, this]
      · have ek : rs.length + 1 - i = 0 + 1 := by omega
        rw [h1, ek]
        rw [lcGo_succ]
        rw [hp]
        simp [hk]
      · exact .keep rfl (.keep rfl (.keep rfl (.keep rfl (.drop (.drop (.keep rfl (.drop (.drop (.drop .nil)))))))))
  · rw [rngD_len, hn] at hs ⊢
    have h2 := hs.2 rfl
    obtain ⟨f, g⟩ := s
    dsimp only at h2 ⊢
    have hne : ¬ rs.length + 1 = 0 := by omega
    rw [if_neg hne, h2]
    refine ro_ret (ee_if (k := g) (te_B (ee_var rfl)) (fun hg => ?_) fun hg => ?_) ?_ rfl
    · rw [if_pos hg]; exact ee_c
    · rw [if_neg (by rw [hg]; decide)]
      refine ee_cb (es_cons (ee_is (ee_lcM (js := [4]) (ds := rowsD rs) (fun d => [some (.tup (rowsD rs)), some (.tup (tiesD ts)), some (.dic (fD2 rs f)), some (.dic (fD2 rs (lst0 rs))), some d, none, some (dB g), none, none, none]) (fun d => match d with | .tup (.raw (.str x) :: _) => dI (f x) | _ => dN) (wke_t (ee_var rfl)) (by simp [rowsD]; omega) (by simp) (fun d hd => ?_) (fun d hd => ?_) fun d hd => ?_) ?_) es_nil) fun _ => rc_tupL
      · obtain ⟨r, _, rfl⟩ := List.mem_map.mp hd
        rfl
      · exact ge_name
      · obtain ⟨r, hr, rfl⟩ := List.mem_map.mp hd
        exact ee_dget (ee_var rfl) (ee_op (ee_var rfl) ee_c fun _ => rd_ixX (n := 0) rfl rfl) (fD2_look nd (List.mem_map.mpr ⟨r, hr, rfl⟩))
      · rw [List.map_map]; rfl
    · cases g with
      | true => exact .inl rfl
      | false => exact .inl (by simp [lcD, D.tu]; exact tus_all fun d hd => by obtain ⟨r, _, rfl⟩ := List.mem_map.mp hd; rfl)
end
end Pa
set_option Elab.async false
set_option linter.all false
set_option maxRecDepth 100000
set_option maxHeartbeats 8000000
namespace Pa
open PySem PySem.Spec PyProof.Rows L2 Evl
section
variable {P : Program} {w : World} {K : PySem.W.Frag} {mg : Str → Option Value} {base : Heap}


structure RndParty (p : Party) : Prop where
  rows : RndRows 6 p.rows
  ties : RndTies p.ties
  least : leastC p.rows p.ties ≠ none
  cl : ∀ r ∈ p.rows, r.lst ≤ p.closing
  c1 : p.closing ≤ 30
theorem RndRows.nms {rs : List Row} (h : RndRows 6 rs) : rs.map Row.nm = pool6 := by
  refine List.ext_getElem? fun i => ?_
  by_cases hi : i < 6
  · obtain ⟨r, x, hr, hx, ok⟩ := h.at hi
    rw [List.getElem?_map, hr, hx]
    exact congrArg some ok.nm
  · rw [List.getElem?_eq_none (by rw [List.length_map, h.1]; omega), List.getElem?_eq_none (by simp [pool6]; omega)]
theorem pool6_asc : Asc pool6 := by
  unfold Asc
  decide +kernel
theorem RndRows.mem {rs : List Row} (h : RndRows 6 rs) {r : Row} (hr : r ∈ rs) : RndRow r.nm r := by
  obtain ⟨i, hi⟩ := List.getElem?_of_mem hr
  obtain ⟨x, _, ok⟩ := h.2 i r hi
  have := ok.nm
  subst this
  exact ok
theorem rnd_least {rs : List Row} {ts : List Tie} (h : RndRows 6 rs) (ht : RndTies ts) : gLeast [.tup (rowsD rs), .tup (tiesD ts)] (lcD rs (leastC rs ts)) :=
  ⟨rs, ts, rfl, by rw [h.nms]; exact pool6_asc, by rw [h.1]; decide, by have := ht.len; omega, fun t m => by rw [h.nms]; exact ⟨(ht.ok t m).1, (ht.ok t m).2.1⟩, by rw [h.nms]; exact pool6_nm, rfl⟩
def gParty : List D → D → Prop := fun _ d => ∃ p : Party, d = p.d ∧ RndParty p

theorem sc__law_random_party : FnScope ["_law_reader_here", "_law_least", "_law_most", "_law_rows", "_law_bonds", "_law_entry"] ["_law_reader_here", "_law_least", "_law_most"] d__law_random_party.scope := ⟨rfl, rfl, rfl, by decide +kernel, rfl, by decide +kernel, by decide +kernel⟩
theorem ok__law_random_party (T : Wd K mg base) : C8.Cal P w K mg base (2 + 1) "_law_random_party" (spG K 130 prRows gParty) [] := by
  refine cal_of T 52 68 (d := d__law_random_party) rfl rfl rfl rfl rfl sc__law_random_party (spG_len (n := 2) fun ds e => by rw [e]; rfl) (fun _ _ _ _ _ _ us hl => match us, hl with | [_, _, _], _ => rfl) fun cdv A outer s H vs Q E hr h => ?_
  refine ⟨_, (pss_cons (ps_set (i := 3) sc__law_random_party.nd rfl (by first | exact Or.inl rfl | exact Or.inr rfl) (C8.pe_c (ok__law_random_rows T) hr (by decide) rfl (pa_cons (pv 0) (pa_cons (pv 1) (pa_cons (pv 2) pa_nil)))))
    (pss_cons (ps_set (i := 4) sc__law_random_party.nd rfl (by first | exact Or.inl rfl | exact Or.inr rfl) (C8.pe_c (ok__law_random_bonds T) hr (by decide) rfl (pa_cons (pv 0) (pa_cons (pv 3) pa_nil))))
    (pss_cons (ps_if (pt_cmpR z_isN (C8.pe_c (ok__law_least_case T) hr (by decide) rfl (pa_cons (pv 3) (pa_cons (pv 4) pa_nil))) pe_non (nomark _)) (pss_one (ps_set (i := 4) sc__law_random_party.nd rfl (by first | exact Or.inl rfl | exact Or.inr rfl) (pe_tup pa_nil))) pss_nil)
    (pss_one (ps_ret (pe_tup (pa_cons (pv 3) (pa_cons (pv 4) (pa_cons (pe_op (z_add (K := K) rfl) (pe_callB (z_max (K := K) rfl rfl) (by rfl) T.g_max (by decide +kernel) (pa_cons (pe_lc (own := [("_law_entry", 5)]) (by rfl) sc__law_random_party.nd (zi_any (K := K) rfl (pv 3)) (blkOk_by (own := [("_law_entry", 5)]) (N := ["_law_reader_here", "_law_least", "_law_most", "_law_rows", "_law_bonds", "_law_entry"]) (sc := d__law_random_party.scope) (by decide +kernel)) (fun _ _ _ _ _ => (pg_name (i := 5) sc__law_random_party.nd rfl (by first | exact Or.inl rfl | exact Or.inr rfl))) (fun _ _ _ _ _ => pts_nil) (fun _ _ _ _ _ => (pe_ix (z_ix (K := K) rfl) (pv 5) pe_int (fun _ _ => rfl)))) pa_nil)) (C8.pe_c (ok__law_draw T) hr (by decide) rfl (pa_cons (pv 0) (pa_cons pe_int pa_nil)))) pa_nil))))))))), ?_⟩
  obtain ⟨r, ws, ds, x0, cs, a, b, n, M, rfl, rr, rfl, hr0, hx, hc, hb, hM, q⟩ := h
  refine ro_funG (post := fun d => gParty [dI 6, dI 6] d) (M := M + 130) ?_ rr hr0 hx fun v d H' a' b' n' hd hb' e' hr' rv => q v d H' a' b' n' hd hb' e' hr' rv
  refine ro_sO (oo_callG (ds := [dI 6, dI 6]) rfl (es_cons (ee_var rfl) (es_cons (ee_var rfl) es_nil)) rfl rfl hc hb (by omega) fun d a b n hd hb => ?_)
  obtain ⟨rs, rfl, hR⟩ := hd
  refine ⟨by simp [D.tu, rowsD_tus], ?_⟩
  refine ro_sO (oo_callG (ds := [.tup (rowsD rs)]) rfl (es_cons (ee_var rfl) es_nil) (by simp [D.tus, D.tu, rowsD_tus]) ⟨rs, rfl, hR⟩ hc hb (by omega) fun d a b n hd hb => ?_)
  obtain ⟨ts, rfl, hT⟩ := hd
  refine ⟨by simp [D.tu, tiesD_tus], ?_⟩
  have nd : (rs.map Row.nm).Nodup := by rw [hR.nms]; exact pool6_asc.nodup
  refine ro_seq (fun ρ' => ∃ ts', RndTies ts' ∧ leastC rs ts' ≠ none ∧ ρ' = [.rr r x0 cs a b n, .rd (dI 6), .rd (dI 6), .rd (.tup (rowsD rs)), .rd (.tup (tiesD ts')), .no]) (?_ : RO K _ _ _ _) ?_
  · cases hl : leastC rs ts with
    | none =>
      have hg : gLeast [.tup (rowsD rs), .tup (tiesD ts)] dN := by
        have := rnd_least hR hT
        rwa [hl] at this
      refine ro_ifT (te_test (ee_op (ee_call (es_cons (ee_var rfl) (es_cons (ee_var rfl) es_nil)) hg) ee_c fun _ => ?_)) ?_
      · exact rd_isN
      · refine ro_set (d := .tup (tiesD [])) (ee_tup es_nil (by simp)) (.inl rfl) ⟨[], ⟨by simp, .nil, by simp⟩, ?_, rfl⟩
        rw [lc_nil nd fun r hr => (hR.mem hr).fl]
        simp
    | some f =>
      have hg : gLeast [.tup (rowsD rs), .tup (tiesD ts)] (.tup (rs.map fun r => dI (f r.nm))) := by
        have := rnd_least hR hT
        rwa [hl] at this
      refine ro_ifF (te_test (ee_op (ee_call (es_cons (ee_var rfl) (es_cons (ee_var rfl) es_nil)) hg) ee_c fun _ => ?_)) ?_
      · exact rd_isNt
      · exact ro_next ⟨ts, hT, by rw [hl]; simp, rfl⟩
  rintro _ ⟨ts', hT', hl', rfl⟩
  have hne : rs.map Row.lst ≠ [] := fun e => by
    have := congrArg List.length e
    rw [List.length_map, hR.1] at this
    cases this
  refine ro_retO (oo_tup3 (ee_var rfl) (.inl (by simp [D.tu, rowsD_tus])) (ee_var rfl) (.inl (by simp [D.tu, tiesD_tus])) (oo_opL (a := dI (greatest (rs.map Row.lst))) (ee_cb (es_cons (ee_is (ee_lcM (js := [5]) (ds := rowsD rs) (fun d => [none, some (dI 6), some (dI 6), some (.tup (rowsD rs)), some (.tup (tiesD ts')), some d]) (fun d => match d with | .tup (_ :: _ :: .raw (.int x) :: _) => dI x | _ => dN) (wke_t (ee_var rfl)) (by simp [rowsD, hR.1]) (by simp) (fun d hd => ?_) (fun d hd => ?_) fun d hd => ?_) (d' := .lst ((rs.map Row.lst).map dI)) ?_) es_nil) fun _ => rc_maxLst hne) (.inl rfl) (oo_draw (many := 4) rfl ee_c (by decide) (by decide) hc hb (by omega) fun m a b n m0 m1 hb => ⟨_, fun _ => rd_addI, .inl rfl, .inl (by simp [D.tu, D.tus, rowsD_tus, tiesD_tus]), ⟨⟨rs, ts', greatest (rs.map Row.lst) + m⟩, rfl, ⟨hR, hT', hl', fun r hr => ?_, ?_⟩⟩, a, b, n, rfl, hb.up (by omega)⟩)))
  · obtain ⟨r, _, rfl⟩ := List.mem_map.mp hd
    rfl
  · exact ge_name
  · obtain ⟨r, hr, rfl⟩ := List.mem_map.mp hd
    exact ee_op (ee_var rfl) ee_c fun _ => rd_ixX (n := 2) rfl rfl
  · rw [List.map_map, List.map_map]; rfl
  · have := greatest_le (ns := rs.map Row.lst) (List.mem_map.mpr ⟨r, hr, rfl⟩)
    show r.lst ≤ greatest (rs.map Row.lst) + m
    omega
  · have h1 := greatest_mem hne
    obtain ⟨r, hr, e⟩ := List.mem_map.mp h1
    have := (hR.mem hr).l1
    show greatest (rs.map Row.lst) + m ≤ 30
    omega
end
end Pa
set_option Elab.async false
set_option linter.all false
set_option maxRecDepth 100000
set_option maxHeartbeats 4000000
/-! methods that close over __class__ -/
namespace Pa
open PySem PySem.Spec PyProof.Rows L2 Evl
abbrev theP : Program := PySem.Challenge.pw_patience_k15_whole_renamed_and_later_par
/-- such a method as it stands behind the top: C its class -/
structure FunS (K : PySem.W.Frag) (d : He.DefD) (C f : Addr) (fd : FuncData) : Prop where
  ex : ∃ (oc : Value) (od : Option Addr) (dV kV doc pm : Value) (an : Option Addr) (cda : Addr) (ct : Value) (osl : Array (Option Value)) (cc : Addr) (ccl : Value) (cdd : Option Addr) (vs : Array Value) (ccs : Array (Option Value)) (tf : Tok) (fl : Str) (cl : Value) (cld : Option Addr) (csl : Array (Option Value)),
    fd = PySem.W.ksFn d.name d.qual d.params d.body d.scope dV kV doc pm an (.ref cda) ct cc ∧ K.lookup f = some ⟨oc, od, .func fd, osl⟩ ∧ PySem.W.codeIn K (.ref cda) d.qual = true ∧ K.lookup cda = some ⟨ccl, cdd, .fields vs, ccs⟩ ∧ vs[2]? = some (.str fl tf) ∧ (theP.main.file == fl) = true ∧
      K.lookup cc = some ⟨cl, cld, .cell (some (.ref C)), csl⟩ ∧ DflV K dV (d.dvs K)
  kp : PySem.W.keepIn K (.ref f) = true
def fileV (K : PySem.W.Frag) (v : Value) (file : Str) : Bool := match v with
  | .ref c => (match K.lookup c with
    | some ⟨_, _, .fields vs, _⟩ => (match vs[2]? with
      | some (Value.str x _) => file == x
      | _ => false)
    | _ => false)
  | _ => false
theorem fileV_ok {K : PySem.W.Frag} {v : Value} {file : Str} (h : fileV K v file = true) : ∃ (c : Addr) (ccl : Value) (cdd : Option Addr) (vs : Array Value) (ccs : Array (Option Value)) (fl : Str) (tf : Tok), v = .ref c ∧ K.lookup c = some ⟨ccl, cdd, .fields vs, ccs⟩ ∧ vs[2]? = some (.str fl tf) ∧ (file == fl) = true := by
  unfold fileV at h
  split at h
  · rename_i c
    split at h
    · rename_i ccl cdd vs ccs lc
      split at h
      · rename_i fl tf hv
        exact ⟨c, ccl, cdd, vs, ccs, fl, tf, rfl, lc, hv, h⟩
      · cases h
    · cases h
  · cases h
def cellV (K : PySem.W.Frag) (c C : Addr) : Bool := match K.lookup c with
  | some ⟨_, _, .cell (some (.ref D)), _⟩ => decide (D = C)
  | _ => false
theorem cellV_ok {K : PySem.W.Frag} {c C : Addr} (h : cellV K c C = true) : ∃ (cl : Value) (cld : Option Addr) (csl : Array (Option Value)), K.lookup c = some ⟨cl, cld, .cell (some (.ref C)), csl⟩ := by
  unfold cellV at h
  split at h
  · rename_i cl cld D csl lcc
    have hD := of_decide_eq_true h
    subst hD
    exact ⟨cl, cld, csl, lcc⟩
  · cases h
section
variable {P : Program} {w : World} {K : PySem.W.Frag} {mg : Str → Option Value} {base : Heap}
theorem funS_of {d : He.DefD} (e : fnC K d.at_ = DefCval d) (c : d.ok K = true) (hc : cloB K (He.fAd K d.at_) (He.ga K d.at_.1) = true) (hf : fileB K (He.fAd K d.at_) theP.main.file = true) : ∃ fd, FunS K d (He.ga K d.at_.1) (He.fAd K d.at_) fd := by
  obtain ⟨kp, c2⟩ := Bool.and_eq_true_iff.mp c
  unfold fnC at e
  unfold cloB at hc
  unfold fileB at hf
  cases q : K.lookup (He.fAd K d.at_) with
  | none =>
    rw [q] at c2
    cases c2
  | some o =>
    obtain ⟨oc, od, dt, osl⟩ := o
    rw [q] at c2 e hc hf
    cases dt with
    | func fd =>
      obtain ⟨n1, n2, n3, n4, n5, n6, n7, n8, n9, n10, n11, n12, n13, n14, n15⟩ := fd
      have e2 : (some (n1, n2, n3, n4, n5, n6, n7.map (·.1), n15) : FnC) = DefCval d := e
      unfold DefCval at e2
      simp only [Option.some.injEq, Prod.mk.injEq] at e2
      obtain ⟨h1, h2, h3, h4, h5, h6, h7, h8⟩ := e2
      have c3 : (PySem.W.codeIn K n13 d.qual && (He.dflB K n8 (d.dvs K) && He.kwdB K n9 (d.kws K))) = true := c2
      obtain ⟨k1, k2⟩ := Bool.and_eq_true_iff.mp c3
      obtain ⟨k3, k4⟩ := Bool.and_eq_true_iff.mp k2
      cases n7 with
      | nil => cases h7
      | cons p n7 =>
        obtain ⟨n, cc⟩ := p
        cases n7 with
        | cons _ _ => cases h7
        | nil =>
          have hn : n = "__class__" := by
            simp only [List.map_cons, List.map_nil, List.cons.injEq, and_true] at h7
            exact h7
          have hc2 : (decide (n = "__class__") && cellV K cc (He.ga K d.at_.1)) = true := hc
          obtain ⟨_, hc3⟩ := Bool.and_eq_true_iff.mp hc2
          have hf2 : fileV K n13 theP.main.file = true := hf
          obtain ⟨c, ccl, cdd, vs, ccs, fl, tf, ev, lc, hv, hf3⟩ := fileV_ok hf2
          obtain ⟨cl, cld, csl, lcc⟩ := cellV_ok hc3
          subst ev hn h1 h2 h3 h4 h5 h6 h8
          exact ⟨_, ⟨oc, od, n8, n9, n10, n11, n12, c, n14, osl, cc, ccl, cdd, vs, ccs, tf, fl, cl, cld, csl, rfl, q, k1, lc, hv, hf3, lcc, He.dflB_ok k3⟩, kp⟩
    | _ => cases c2
theorem Wd.funS (T : Wd K mg base) (i : Nat) {d : He.DefD} (h : fc[i]? = some d) : ∃ fd, FunS K d (He.ga K d.at_.1) (He.fAd K d.at_) fd := by
  have hm := List.mem_of_getElem? h
  have h1 := List.all_eq_true.mp T.exs.1 d hm
  obtain ⟨h1, h3⟩ := Bool.and_eq_true_iff.mp h1
  obtain ⟨h1, h2⟩ := Bool.and_eq_true_iff.mp h1
  refine funS_of ?_ h1 h2 h3
  have := congrArg (fun l => l[i]?) T.c
  simp only [List.getElem?_map, h, Option.map_some] at this
  exact Option.some.inj this
end
/-! ### the body's context -/
/-- a method's names: the parameters first; free is __class__ alone -/
structure FnScopeS (N P : List Str) (sc : Scope) : Prop where
  kind : sc.kind = .function
  co : sc.isCoroutine = false
  gen : sc.isGenerator = false
  nd : N.Nodup
  pre : N.take P.length = P
  par : ∀ x ∈ P, sc.names.lookup x = some .local
  nocell : ∀ y ∈ sc.names, y.2 ≠ .cell
  free : ∀ y ∈ sc.names, y.2 = .free → y.1 = "__class__"
def cxS (P : Program) (w : World) (K : PySem.W.Frag) (mg : Str → Option Value) (base : Heap) (N : List Str) (qual : Str) (scope : Scope) (f : Addr) (cd : Value) (cc : Addr) (A : Around) (outer : List PySem.Env) (s : Shared) (H : Hp) : Cx where
  prog := P
  w := w
  K := K
  mg := mg
  base := base
  A := A.deeper (PySem.W.ksEnv qual scope s.heap.objs.size f cd cc)
  N := N
  s_0 := s
  H_0 := H
  env := PySem.W.ksEnv qual scope s.heap.objs.size f cd cc
  outer := outer
  stack := PySem.W.ksEnv qual scope s.heap.objs.size f cd cc :: outer
  ex := []
  calm := true
  fn := fun x => x != "__class__"
  pn := []
  xe := fun _ _ => False
theorem look_nd {l : List (Str × Value)} {x : Str} {v : Value} (nd : (l.map (·.1)).Nodup) (h : (x, v) ∈ l) : l.lookup x = some v := by
  induction l with
  | nil => cases h
  | cons p l ih =>
    obtain ⟨y, u⟩ := p
    rw [List.map_cons] at nd
    obtain ⟨n1, n2⟩ := List.nodup_cons.mp nd
    rw [List.lookup_cons]
    rcases List.mem_cons.mp h with h | h
    · cases h
      simp
    · have hne : x ≠ y := fun e => n1 (by rw [← e]; exact List.mem_map.mpr ⟨_, h, rfl⟩)
      have : (x == y) = false := by simpa using hne
      rw [this]
      exact ih n2 h
theorem zip_sub : ∀ (ps : List Str) (us : List Value), List.Sublist ((ps.zip us).map (·.1)) ps
  | [], _ => by simp
  | p :: ps, [] => by simp
  | p :: ps, u :: us => by
    rw [List.zip_cons_cons, List.map_cons]
    exact (zip_sub ps us).cons₂ p
theorem rev_look {ps : List Str} {us : List Value} {i : Nat} {x : Str} {u : Value} (nd : ps.Nodup) (hx : ps[i]? = some x) (hu : us[i]? = some u) : (ps.zip us).reverse.lookup x = some u := by
  refine look_nd ?_ ?_
  · rw [List.map_reverse]
    refine (List.reverse_perm _).nodup_iff.mpr ?_
    exact nd.sublist (zip_sub ps us)
  · rw [List.mem_reverse]
    exact List.mem_of_getElem? (i := i) (by rw [List.getElem?_zip_eq_some]; exact ⟨hx, hu⟩)
section
variable {P : Program} {w : World} {K : PySem.W.Frag} {mg : Str → Option Value} {base : Heap}
theorem inv_startS {N ps : List Str} {qual : Str} {scope : Scope} {f cc D : Addr} {cd cl : Value} {cld : Option Addr} {csl : Array (Option Value)} {A : Around} {outer : List PySem.Env} {s : Shared} {H : Hp} {us : List Value} {vs : List V} {h1 : Heap} {tk : Nat}
    (S : FnScopeS N ps scope) (hd : A.handled = none) (e0 : Env0 P w K mg base A outer s H) (lcc : K.lookup cc = some ⟨cl, cld, .cell (some (.ref D)), csl⟩) (hl : vs.length = ps.length) (r : Vals vs us)
    (hns : h1.Ns s.heap.objs.size fun x => (ps.zip us).reverse.lookup x) (hk : ∀ b o, s.heap.get? b = some o → h1.get? b = some o) :
    Inv (cxS P w K mg base N qual scope f cd cc A outer s H) [] (start N vs) H { s with heap := h1, toks := tk } := by
  have hpl : ps.length ≤ N.length := by have := congrArg List.length S.pre; rw [List.length_take] at this; omega
  have hb : base.get? cc = some ⟨cl, cld, .cell (some (.ref D)), csl⟩ := e0.mod.kin _ _ lcc
  have one : ∀ {x : Str} {c : Addr}, (cxS P w K mg base N qual scope f cd cc A outer s H).env.cells.lookup x = some c → x = "__class__" ∧ c = cc := fun {x c} h => by
    have h' : ([(("__class__" : Str), cc)] : List (Str × Addr)).lookup x = some c := h
    rw [List.lookup_cons] at h'
    by_cases e : x = "__class__"
    · subst e
      simp at h'
      exact ⟨rfl, h'.symm⟩
    · have : (x == ("__class__" : Str)) = false := by simpa using e
      rw [this] at h'
      cases h'
  have noA : ∀ b : Addr, b ∉ (cxS P w K mg base N qual scope f cd cc A outer s H).ex := fun b z => absurd (show b ∈ ([] : List Addr) from z) (by simp)
  refine ⟨⟨e0.mod, S.kind, rfl, rfl, Nat.le_refl _, fun y z c h1 h2 => ?_, fun y hy => ?_, fun y c hy h => ?_, fun _ => hd, Around.frames_deeper e0.frames, .inr ⟨rfl, rfl⟩, fun b z => absurd z (noA b), e0.bs, e0.bsz, fun b _ _ => noA b, fun b z => absurd z (noA b), e0.funs, e0.frf⟩,
    rfl, e0.bare, Un.kept hk, ⟨_, hns, fun i y v h1 h2 h3 => ?_⟩, fun y c h => ?_, e0.hok.fresh (Nat.le_refl _), fun y c h => ?_, fun p hp => absurd (show p ∈ ([] : List (Addr × Obj)) from hp) (by simp), e0.hok.kept hk, ?_⟩
  · rw [(one h1).1, (one h2).1]
  · have hy : scope.names.lookup y = some .cell ∨ scope.names.lookup y = some .free := hy
    rcases hy with hy | hy
    · exact absurd rfl (S.nocell _ (PySem.mem_of_lookup hy))
    · have := S.free _ (PySem.mem_of_lookup hy) rfl
      dsimp only at this
      subst this
      exact ⟨cc, rfl⟩
  · have e := (one h).1
    subst e
    cases hy
  · have hi : i < vs.length := by
      unfold L2.start at h2
      by_cases hi : i < vs.length
      · exact hi
      · rw [List.getElem?_append_right (by simpa using hi)] at h2
        rw [List.getElem?_replicate] at h2
        split at h2 <;> cases h2
    have ha : vs[i]? = some v := by
      unfold L2.start at h2
      rw [List.getElem?_append_left (by simpa using hi), List.getElem?_map] at h2
      cases e : vs[i]? with
      | none => rw [e] at h2; cases h2
      | some a => rw [e] at h2; cases h2; rfl
    obtain ⟨u, hu, rv⟩ := r.get ha
    have hp : ps[i]? = some y := by
      rw [← S.pre, List.getElem?_take_of_lt (by omega)]; exact h1
    have ndP : ps.Nodup := by rw [← S.pre]; exact S.nd.sublist (List.take_sublist _ _)
    exact ⟨u, rv, .inl ⟨S.par y (List.mem_of_getElem? hp), rev_look ndP hp hu⟩⟩
  · rw [(one h).2]
    exact ⟨_, _, hk _ _ (e0.bs _ _ hb).1, rfl⟩
  · rw [(one h).2]
    exact (e0.bs _ _ hb).2
  · unfold L2.start
    show _ = N.length
    rw [List.length_append, List.length_map, List.length_replicate]
    omega
/-- what the interpreter asks of the method's own records -/
structure SupF (K : PySem.W.Frag) (ps : Arguments) (D f cda cc : Addr) : Prop where
  fn : ∃ oc od fd osl, K.lookup f = some ⟨oc, od, .func fd, osl⟩ ∧ fd.params = ps
  co : ∃ (ccl : Value) (cdd : Option Addr) (vs : Array Value) (ccs : Array (Option Value)) (fl : Str) (tf : Tok), K.lookup cda = some ⟨ccl, cdd, .fields vs, ccs⟩ ∧ vs[2]? = some (.str fl tf) ∧ (theP.main.file == fl) = true
  ce : ∃ (cl : Value) (cld : Option Addr) (csl : Array (Option Value)), K.lookup cc = some ⟨cl, cld, .cell (some (.ref D)), csl⟩
/-- the body, run where the interpreter knows whose code it is -/
def SB (X : Cx) (body : List Stmt) (D : Ends) (σ : L2.St) (H : Hp) : Prop := ∀ s, Inv X [] σ H s → _root_.PySem.wpAt (model X.prog X.w) X.A (.func body X.env) (execs body X.env) (SP X [] D) X.xe s
theorem FunS.ok {d : He.DefD} {C f : Addr} {fd : FuncData} {N ps : List Str} {k : Nat} {sp : Sp} (F : FunS K d C f fd) (S : FnScopeS N ps d.scope) (len : ∀ vs H Q E, sp vs H Q E → vs.length = ps.length)
    (hbody : ∀ (cda cc : Addr) (A : Around) (outer : List PySem.Env) (s : Shared) (H : Hp) (vs : List V) (Q : VK) (E : XK), SupF K d.params C f cda cc → Room k (A.deeper (PySem.W.ksEnv d.qual d.scope s.heap.objs.size f (.ref cda) cc)) → sp vs H Q E →
      SB (cxS P w K mg base N d.qual d.scope f (.ref cda) cc A outer s H) d.body { nx := fun _ H' => Q .non H', rt := Q } (start N vs) H) : FnOk P w K mg base CX0 (k + 1) f fd ps sp := by
  obtain ⟨oc, od, dV, kV, doc, pm, an, cda, ct, osl, cc, ccl, cdd, vs0, ccs, tf, fl, cl, cld, csl, rfl, lk, hcd, lc, hv, hfl, lcc, _⟩ := F.ex
  refine ⟨len, fun A outer s H args us vs Q E hr e0 hb r hsp => ?_⟩
  have hl := len _ _ _ _ hsp
  have KX : K.In s.heap := e0.mod.kin.keeps fun b o e => (e0.bs b o e).1
  have lim : s.heap.NoLimit := e0.mod.nolimit.keeps fun b o e => (e0.bs b o e).1
  refine PySem.ks_codeAny_call_defAt (fd := PySem.W.ksFn d.name d.qual d.params d.body d.scope dV kV doc pm an (.ref cda) ct cc) (body := d.body) (binds := ps.zip us) hr.depth (KX _ _ lk) rfl lim (PySem.W.codeRec_of KX hcd) rfl hb S.nocell
    (fun y hy => S.par _ (List.of_mem_zip (show (y.1, y.2) ∈ ps.zip us from hy)).1) (fun h₁ hns hk => ?_) S.co S.gen S.kind
  have I : Inv (cxS P w K mg base N d.qual d.scope f (.ref cda) cc A outer s H) [] (start N vs) H { s with heap := h₁, toks := s.toks + (ps.zip us).length } := inv_startS S hr.hd e0 lcc hl r hns hk
  refine PySem.ks_wpAt_mono (hbody cda cc A outer s H vs Q E ⟨⟨oc, od, _, osl, lk, rfl⟩, ⟨ccl, cdd, vs0, ccs, fl, tf, lc, hv, hfl⟩, ⟨cl, cld, csl, lcc⟩⟩ (hr.deeper _) hsp _ I) (fun fl s' hs => ?_) fun e s' hs => False.elim hs
  have fin : ∀ {σ' : L2.St} {H' : Hp} {v : V} {u : Value}, Inv (cxS P w K mg base N d.qual d.scope f (.ref cda) cc A outer s H) [] σ' H' s' → RelV v u → Q v H' → CE outer P w H s Q u s' :=
    fun {σ' H' v u} J rv q => ⟨v, H', J.os, J.bare, J.base, J.hok, rv, q⟩
  cases fl with
  | ret u =>
    obtain ⟨v, σ', H', J, rv, q⟩ := hs
    exact fin J rv q
  | next =>
    obtain ⟨σ', H', J, q⟩ := hs
    exact fin (v := V.non) (u := Value.none) J rfl q
  | brk =>
    obtain ⟨_, _, _, q⟩ := hs
    exact False.elim q
  | cont =>
    obtain ⟨_, _, _, q⟩ := hs
    exact False.elim q
end
end Pa
set_option Elab.async false
set_option linter.all false
set_option maxRecDepth 100000
set_option maxHeartbeats 4000000
/-! super().m(..) -/
namespace Pa
open PySem PySem.Spec PyProof.Rows L2 Evl
section
variable {w : World} {K : PySem.W.Frag} {mg : Str → Option Value} {base : Heap}
/-- super().m of an instance, at the body's own code -/
theorem sup_get {N : List Str} {qual : Str} {scope : Scope} {f cda cc D x C dx : Addr} {A : Around} {outer : List PySem.Env} {s0 s : Shared} {H0 H : Hp} {pins : List (Addr × Obj)} {σ : L2.St} {params : Arguments} {ar : Arg} {fs : List (Str × V)} {m : Str} {p0 p1 : Pos} {whole : Sem Value} {body : List Stmt} {cdD : ClassData} {Q : Value → Shared → Prop}
    (T : Wd K mg base) (F : SupF K params D f cda cc) (I : Inv (cxS theP w K mg base N qual scope f (.ref cda) cc A outer s0 H0) pins σ H s)
    (hp : (params.posonlyargs ++ params.args).head? = some ar) (hN : N[0]? = some ar.arg) (hσ : σ[0]? = some (some (.ref x))) (hx : H x = some (.ins C dx fs)) (hsub : PySem.W.mroIn K C (.ref D) = some true) (hD : PySem.W.clsIn K D = some cdD)
    (hks : scope.names.lookup ("super" : Str) = some .globalImplicit) (hkc : scope.names.lookup ("__class__" : Str) = some .free) (hka : scope.names.lookup ar.arg = some .local) (hat : (m == ("__class__" : Str)) = false)
    (q : ∀ so s', Inv (cxS theP w K mg base N qual scope f (.ref cda) cc A outer s0 H0) pins σ H s' → s'.heap.get? so = some (PySem.W.ks_superObj D x C) → Q (.ref so) s') :
    _root_.PySem.wpAt (model theP w) (cxS theP w K mg base N qual scope f (.ref cda) cc A outer s0 H0).A (.func body (cxS theP w K mg base N qual scope f (.ref cda) cc A outer s0 H0).env) (attributeBase (.Call (.Name "super" p0) [] [] p1) m (cxS theP w K mg base N qual scope f (.ref cda) cc A outer s0 H0).env whole) Q (fun _ _ => False) s := by
  have X := I.kIn
  obtain ⟨oc, od, fd, osl, lk, rfl⟩ := F.fn
  obtain ⟨ccl, cdd, vs, ccs, fl, tf, lc, hv, hfl⟩ := F.co
  obtain ⟨cl, cld, csl, lcc⟩ := F.ce
  obtain ⟨mA, O, _, _, _, _⟩ := ins_get I.hok hx
  obtain ⟨odx, J, _⟩ := O.look
  obtain ⟨mL, hn, hl⟩ := I.loc
  obtain ⟨u, ru, lu⟩ := hl 0 ar.arg (.ref x) hN hσ (.inl hka)
  have eu : u = .ref x := ru
  subst eu
  have hmL : mL ar.arg = some (.ref x) := by
    rcases lu with ⟨_, h⟩ | ⟨h, _⟩
    · exact h
    · have : scope.names.lookup ar.arg = some .cell ∨ scope.names.lookup ar.arg = some .free := h
      rw [hka] at this
      rcases this with z | z <;> cases z
  obtain ⟨oD, hD1, hD2⟩ : ∃ oD, s.heap.get? D = some oD ∧ oD.data = .cls cdD := by
    unfold PySem.W.clsIn at hD
    split at hD
    · rename_i c d cd' sl ho
      cases hD
      exact ⟨_, X _ _ ho, rfl⟩
    · cases hD
  obtain ⟨mb, b1, b2⟩ := I.mod.blt
  have hms : mg "super" = none := T.free 14 rfl
  refine PySem.ks_wpAt_super_base (env := (cxS theP w K mg base N qual scope f (.ref cda) cc A outer s0 H0).env) hks hkc hat rfl (X _ _ lk) rfl hp rfl (X _ _ lc) rfl hv hfl (by decide +kernel) ?_
  refine PySem.W.ks_loadName_global I.ok.kind hks (Calls.loadGlobal_builtin (by rw [I.ok.glob]; exact I.mod.glob.keeps I.bk) hms (by rw [I.ok.blt]; exact b1.keeps I.bk) ((b2 "super" (by decide)).trans (show bootBuiltins "super" = some (.type "super") by decide +kernel)) ⟨rfl, ?_⟩)
  refine wpAny_loadName_free I.ok.kind hkc rfl ⟨_, X _ _ lcc, rfl⟩ ?_
  refine wpAny_loadName_local I.ok.kind hka hn hmL ?_
  obtain ⟨hh, g, d, t, os⟩ := s
  refine PySem.ks_wpAny_isType_cls hD1 hD2 ⟨rfl, ?_⟩
  refine PySem.ks_wpAny_call_super hD1 hD2 J.at_ J.cls (fun c e => ?_) (PySem.W.looks_mroIn X hsub) (fun h' e k => ?_)
  · have := J.no
    unfold PySem.W.notCls at this
    rw [e] at this
    exact Bool.noConfusion this
  · exact q _ _ (I.kept (t' := t) k) e
end
section
variable {X : Cx} {pins : List (Addr × Obj)} {σ : L2.St} {H : Hp} {s : Shared} {D x C so f2 dx : Addr} {fs : List (Str × V)} {m : Str} {E : Value → Shared → Prop}
/-- the method step on a super object -/
theorem sup_meth {pl : Sem Bool} {Q : Value × List Value → Shared → Prop} (I : Inv X pins σ H s) (hso : s.heap.get? so = some (PySem.W.ks_superObj D x C)) (hx : H x = some (.ins C dx fs)) (ho : PySem.W.nsIn X.K PySem.cStatics "thirdparty.any" = some none)
    (hm : PySem.W.ks_superIn X.K C D m = some (some (.ref f2))) (ht : PySem.W.isFn X.K (.ref f2) = true) (hn : (m == ("__class__" : Str)) = false)
    (q : ∀ p s', H p = none → Inv X pins σ (upd H p (.met f2 x)) s' → Q (.ref p, []) s') : wpAny (model X.prog X.w) X.A (getMethod (.ref so) m pl) Q E s := by
  have KX := I.kIn
  obtain ⟨mA, O, _, _, _, _⟩ := ins_get I.hok hx
  obtain ⟨odx, J, _⟩ := O.look
  cases hc : PySem.W.clsIn X.K C with
  | none => unfold PySem.W.ks_superIn at hm; rw [hc] at hm; cases hm
  | some cd =>
    unfold PySem.W.ks_superIn at hm
    rw [hc] at hm
    obtain ⟨of, hof, hofc⟩ : ∃ of, s.heap.get? f2 = some of ∧ of.cls = .type "function" := by
      have ht' : (X.K.lookup f2).map (·.cls) = some (.type "function") := by
        have := beq_iff_eq.mp ht
        exact this
      cases z : X.K.lookup f2 with
      | none => rw [z] at ht'; cases ht'
      | some of => rw [z] at ht'; exact ⟨of, KX _ _ z, Option.some.inj ht'⟩
    have hne := PySem.W.ks_ne KX J hc
    obtain ⟨hh, g, d, t, os⟩ := s
    refine PySem.ks_wpAny_getMethod_super hso (PySem.W.looks_opaque KX ho) (l₀ := cd.mro) ?_ rfl KX hm hof hofc hne hn ?_
    · exact fun A Q E s k q => wpAny_bind ((PySem.W.looks_clsIn KX hc) A _ E s k (wpAny_pure q))
    · refine q _ _ (I.hok.fresh (Nat.le_refl _)) ?_
      exact I.laid (t' := t + 1) (a := hh.objs.size) (o := .met f2 x) (fun b u z => Heap.get?_push_of_some _ z) (Nat.le_refl _)
        (show (hh.push (PySem.W.methodObj (.ref f2) (.ref x))).get? hh.objs.size = some (PySem.W.methodObj (.ref f2) (.ref x)) from Heap.get?_push_size hh rfl)
end
end Pa
set_option Elab.async false
set_option linter.all false
set_option maxRecDepth 100000
set_option maxHeartbeats 4000000
/-! calls by way of super(), and bodies that begin with one -/
namespace Pa
open PySem PySem.Spec PyProof.Rows L2 Evl
/-- an expression at the body's own code -/
def SE (X : Cx) (body : List Stmt) (e : Expr) (te : TE) : Prop := ∀ pins s σ H Q, Inv X pins σ H s → te σ H Q → _root_.PySem.wpAt (model X.prog X.w) X.A (.func body X.env) (eval e X.env) (EP X pins σ Q) X.xe s
def tSup (D f2 : Addr) (sp : Sp) (dvs : List V) (t : TA) : TE := fun σ H Q => ∃ x dx fs, σ[0]? = some (some (.ref x)) ∧ H x = some (.ins D dx fs) ∧ ∀ p, H p = none → t σ (upd H p (.met f2 x)) fun vs H1 => H1 p = some (.met f2 x) ∧ sp (.ref x :: (vs ++ dvs)) H1 Q (fun _ _ _ => False)
def tSupK (D f2 : Addr) (n m : Nat) (sp : Sp) (gV : List V → List V → List V) (t tk : TA) : TE := fun σ H Q => ∃ x dx fs, σ[0]? = some (some (.ref x)) ∧ H x = some (.ins D dx fs) ∧ ∀ p, H p = none → t σ (upd H p (.met f2 x)) fun vs H1 => tk σ H1 fun zs H2 => vs.length = n ∧ zs.length = m ∧ H2 p = some (.met f2 x) ∧ sp (gV (.ref x :: vs) zs) H2 Q (fun _ _ _ => False)
section
variable {X : Cx} {pins : List (Addr × Obj)} {σ : L2.St} {H : Hp} {s : Shared}
theorem run_kbn {k n : Nat} {f : Addr} {fd : FuncData} {ps ks : List Str} {sp : Sp} {E : XK} {Q : VK} {us ws : List Value} {vs zs : List V} {g : List Value → List Value → List Value} {gV : List V → List V → List V} (F : FnOk X.prog X.w X.K X.mg X.base CX0 k f fd ps sp) (hr : Room k X.A) (hb : KBn X.K fd ps n ks g gV)
    (I : Inv X pins σ H s) (r : Vals vs us) (rz : Vals zs ws) (l1 : vs.length = n) (l2 : zs.length = ks.length) (h : sp (gV vs zs) H Q E) :
    codeAny (model X.prog X.w) X.A (.call (.ref f) ⟨us, ks.zip ws⟩) (fun r s' => match r with | .ok (.ret v) => EP X pins σ Q v s' | .ok _ => False | .error e => X.xe e s') s := by
  refine codeAny_mono (F.run X.A X.stack s H ⟨us, ks.zip ws⟩ (g us ws) (gV vs zs) Q E hr I.env0 (hb.to s us ws I.kIn (r.length.symm.trans l1) (rz.length.symm.trans l2)) (hb.rel r rz) h) fun r s' hq => ?_
  cases r with
  | error e => exact hq.elim
  | ok fl =>
    cases fl with
    | ret u => exact I.after hq
    | next => exact False.elim hq
    | brk => exact False.elim hq
    | cont => exact False.elim hq
end
section
variable {X : Cx} {w : World} {K : PySem.W.Frag} {mg : Str → Option Value} {base : Heap}
variable {N : List Str} {qual : Str} {scope : Scope} {f cc cda D f2 : Addr} {A : Around} {outer : List PySem.Env} {s0 : Shared} {H0 : Hp} {params : Arguments} {ar : Arg} {m : Str} {p0 p1 apos pos : Pos} {body : List Stmt} {cdD : ClassData} {e : Expr} {es : List Expr} {kws : List Keyword} {t tk : TA} {k n : Nat} {fd2 : FuncData} {ps2 ks : List Str} {sp : Sp} {dvs : List V} {ds : List Value}
/-- what a call by way of super() asks of the classes -/
structure SupC (K : PySem.W.Frag) (D f2 : Addr) (m : Str) : Prop where
  sub : PySem.W.mroIn K D (.ref D) = some true
  cls : ∃ cdD, PySem.W.clsIn K D = some cdD
  sup : PySem.W.ks_superIn K D D m = some (some (.ref f2))
  isf : PySem.W.isFn K (.ref f2) = true
  fni : PySem.W.fnIn K f2 = true
  ho : PySem.W.nsIn K PySem.cStatics "thirdparty.any" = some none
/-- .. and of the body's names -/
structure SupN (N : List Str) (scope : Scope) (params : Arguments) : Prop where
  ar : ∃ ar : Arg, (params.posonlyargs ++ params.args).head? = some ar ∧ N[0]? = some ar.arg ∧ scope.names.lookup ar.arg = some .local
  su : scope.names.lookup ("super" : Str) = some .globalImplicit
  cl : scope.names.lookup ("__class__" : Str) = some .free
/-- super().m(e, ..) -/
theorem se_sup {pl : Sem Bool} (hX : X = cxS theP w K mg base N qual scope f (.ref cda) cc A outer s0 H0) (T : Wd K mg base) (F : SupF K params D f cda cc) (B : SupN N scope params) (c : SupC K D f2 m) (F2 : FnOk theP w K mg base CX0 k f2 fd2 ps2 sp) (hr : Room k X.A) (hb : Binds K fd2 ps2 ds) (hd : Vals dvs ds)
    (ha : PA X (e :: es) t) (hat : (m == ("__class__" : Str)) = false)
    (he : starEach (e :: es) X.env = (false, eval e X.env) :: starEach es X.env := by rfl)
    (hpl : (backTo pos (starEach es X.env)).any (·.1) = false := by rfl)
    (hev : eval (.Call (.Attribute (.Call (.Name "super" p0) [] [] p1) m apos) (e :: es) [] pos) X.env = (do
      let ov ← attributeBase (.Call (.Name "super" p0) [] [] p1) m X.env (eval (.Call (.Name "super" p0) [] [] p1) X.env)
      standAt apos.atName
      let (fv, first) ← holding [ov] (getMethod ov m pl)
      callWith pos fv first (backTo pos (starEach (e :: es) X.env)) []) := by rfl) :
    SE X body (.Call (.Attribute (.Call (.Name "super" p0) [] [] p1) m apos) (e :: es) [] pos) (tSup D f2 sp dvs t) := fun pins s σ H Q I h => by
  subst hX
  obtain ⟨x, dx, fs, hσ, hx, hq⟩ := h
  obtain ⟨cdD, hD⟩ := c.cls
  obtain ⟨ar, hp, hN, hka⟩ := B.ar
  refine PySem.ks_wpAt_MethodCall (pl := pl) (sup_get T F I hp hN hσ hx c.sub hD B.su B.cl hka hat fun so s' I' hso => ?_) hev
  refine sup_meth I' hso hx c.ho c.sup c.isf hat fun p s2 hpn I2 => ?_
  have hA := ha.run pos pins s2 σ _ _ I2 (hq p hpn)
  dsimp only
  rw [he] at hA ⊢
  refine callwith_met (X := cxS theP w K mg base N qual scope f (.ref cda) cc A outer s0 H0) (a := x) (g := f2) (by show ((false || (backTo pos (starEach es _)).any (·.1)) || false) = false; rw [hpl]; rfl) c.fni (Calls.evalArgs_plain (thn hA fun us s3 ⟨vs, H1, I3, r, hmet, hsp⟩ => ⟨met_P I3 hmet, ?_⟩))
  exact wpAny_call (call_met I3 hmet (run_fnR (us := .ref x :: us) (vs := .ref x :: vs) (F2.raw hb hd) hr pass0 I3 (.cons rfl r) hsp))
/-- super().m(e, .., k = v, ..) -/
theorem se_supK {g : List Value → List Value → List Value} {gV : List V → List V → List V} {pl : Sem Bool} (hX : X = cxS theP w K mg base N qual scope f (.ref cda) cc A outer s0 H0) (T : Wd K mg base) (F : SupF K params D f cda cc) (B : SupN N scope params) (c : SupC K D f2 m) (F2 : FnOk theP w K mg base CX0 k f2 fd2 ps2 sp) (hr : Room k X.A) (hb : KBn K fd2 ps2 (n + 1) ks g gV)
    (ha : PA X (e :: es) t) (hkw : PK X kws tk) (hat : (m == ("__class__" : Str)) = false)
    (hall : (backToKw pos (keywordEach kws X.env)).all (·.1.isSome) = true := by rfl) (hks : (backToKw pos (keywordEach kws X.env)).filterMap (·.1) = ks := by rfl)
    (he : starEach (e :: es) X.env = (false, eval e X.env) :: starEach es X.env := by rfl)
    (hpl : ((backTo pos (starEach (e :: es) X.env)).any (·.1) || (backToKw pos (keywordEach kws X.env)).any (·.1.isNone)) = false := by rfl)
    (hev : eval (.Call (.Attribute (.Call (.Name "super" p0) [] [] p1) m apos) (e :: es) kws pos) X.env = (do
      let ov ← attributeBase (.Call (.Name "super" p0) [] [] p1) m X.env (eval (.Call (.Name "super" p0) [] [] p1) X.env)
      standAt apos.atName
      let (fv, first) ← holding [ov] (getMethod ov m pl)
      callWith pos fv first (backTo pos (starEach (e :: es) X.env)) (backToKw pos (keywordEach kws X.env))) := by rfl) :
    SE X body (.Call (.Attribute (.Call (.Name "super" p0) [] [] p1) m apos) (e :: es) kws pos) (tSupK D f2 n ks.length sp gV t tk) := fun pins s σ H Q I h => by
  subst hX
  obtain ⟨x, dx, fs, hσ, hx, hq⟩ := h
  obtain ⟨cdD, hD⟩ := c.cls
  obtain ⟨ar, hp, hN, hka⟩ := B.ar
  rw [hev]
  refine PySem.wpAt_bind (PySem.ks_wpAt_mono (sup_get T F I hp hN hσ hx c.sub hD B.su B.cl hka hat (Q := fun ov s₁ => wpAny (model theP w) (cxS theP w K mg base N qual scope f (.ref cda) cc A outer s0 H0).A (getMethod ov m pl) (fun fx s₂ => wpAny (model theP w) (cxS theP w K mg base N qual scope f (.ref cda) cc A outer s0 H0).A (callWith pos fx.1 fx.2 (backTo pos (starEach (e :: es) (cxS theP w K mg base N qual scope f (.ref cda) cc A outer s0 H0).env)) (backToKw pos (keywordEach kws (cxS theP w K mg base N qual scope f (.ref cda) cc A outer s0 H0).env))) (EP (cxS theP w K mg base N qual scope f (.ref cda) cc A outer s0 H0) pins σ Q) (cxS theP w K mg base N qual scope f (.ref cda) cc A outer s0 H0).xe s₂) (cxS theP w K mg base N qual scope f (.ref cda) cc A outer s0 H0).xe s₁) fun so s' I' hso => ?_) (fun ov s₁ h₁ => PySem.wpAt_of_wpAny (wpAny_bind (wpAny_standAt (wpAny_bind (wpAny_holding (wpAny_mono h₁ (fun fx s₂ h₂ => ?_) fun _ _ x => x)))))) fun _ _ x => x)
  · refine sup_meth I' hso hx c.ho c.sup c.isf hat fun p s2 hpn I2 => ?_
    have hA := ha.run pos pins s2 σ _ _ I2 (hq p hpn)
    dsimp only
    refine callwith_met (X := cxS theP w K mg base N qual scope f (.ref cda) cc A outer s0 H0) (a := x) (g := f2) hpl c.fni (evalArgs_kw2 hall (thn hA fun us s3 ⟨vs, H1, I3, r, q3⟩ => ?_) he)
    refine thn (hkw.run pos pins s3 σ H1 _ I3 q3) fun ws s4 ⟨zs, H2, I4, rz, l1, l2, hmet, hsp⟩ => ⟨met_P I4 hmet, ?_⟩
    rw [hks]
    exact wpAny_call (call_met I4 hmet (run_kbn (us := .ref x :: us) (vs := .ref x :: vs) F2 hr hb I4 (.cons rfl r) rz (congrArg Nat.succ l1) l2 hsp))
  · exact h₂
end
section
variable {X : Cx} {st : Stmt} {rest : List Stmt} {e : Expr} {te : TE} {t : TS} {D : Ends} {σ : L2.St} {H : Hp} {pos : Pos}
theorem sb_expr (he : SE X (.Expr e pos :: rest) e te) (hr : PSs X rest t) (h : te σ H fun _ H1 => t D σ H1) (hs : swapsWith e none pos.line X.env = pure false := by rfl) : SB X (.Expr e pos :: rest) D σ H := fun s I =>
  PySem.ks_wpAt_execs_cons (PySem.ks_wpAt_Expr_any (PySem.ks_wpAt_mono (he [] s σ H _ I h) (fun v s' ⟨x, H1, I1, r, q⟩ => PySem.wpAt_of_wpAny (hr.run [] s' σ H1 D I1 q)) fun _ _ x => x) I.quiet hs)
theorem sb_ret (he : SE X [.Return (some e) pos] e te) (h : te σ H D.rt) : SB X [.Return (some e) pos] D σ H := fun s I =>
  PySem.ks_wpAt_execs_cons (PySem.ks_wpAt_Return_some (PySem.ks_wpAt_mono (he [] s σ H _ I h) (fun v s' ⟨x, H1, I1, r, q⟩ => ⟨x, σ, H1, I1, r, q⟩) fun _ _ x => x))
end
end Pa
set_option Elab.async false
set_option linter.all false
set_option maxRecDepth 100000
set_option maxHeartbeats 4000000
/-! objects: made, their attributes set and read -/
namespace Pa
open PySem PySem.Spec PyProof.Rows L2 Evl
inductive Kd where
  | vis | wai | gui | hos
def Kd.nm : Kd → Str
  | .vis => "Visitor"
  | .wai => "Waiter"
  | .gui => "Guide"
  | .hos => "Host"
abbrev clsA (K : PySem.W.Frag) (k : Kd) : Addr := He.ga K k.nm
structure ClsV (K : PySem.W.Frag) (C : Addr) : Prop where
  c : Cls K C
  n1 : NoAttr K C "called"
  n2 : NoAttr K C "opening"
  n3 : NoAttr K C "endurance"
  n4 : NoAttr K C "awaited"
section
variable {P : Program} {w : World} {K : PySem.W.Frag} {mg : Str → Option Value} {base : Heap}
theorem Wd.clsV (T : Wd K mg base) : ∀ k : Kd, ClsV K (clsA K k)
  | .vis => ⟨T.cls 87 rfl, T.noat 95 rfl, T.noat 99 rfl, T.noat 103 rfl, T.noat 107 rfl⟩
  | .wai => ⟨T.cls 89 rfl, T.noat 96 rfl, T.noat 100 rfl, T.noat 104 rfl, T.noat 108 rfl⟩
  | .gui => ⟨T.cls 91 rfl, T.noat 97 rfl, T.noat 101 rfl, T.noat 105 rfl, T.noat 109 rfl⟩
  | .hos => ⟨T.cls 93 rfl, T.noat 98 rfl, T.noat 102 rfl, T.noat 106 rfl, T.noat 110 rfl⟩
/-- a method of the text -/
theorem fnD_of (T : Wd K mg base) (i : Nat) {d : He.DefD} {N ps : List Str} {k : Nat} {sp : Sp} (hd : fn[i]? = some d) (S : FnScope N ps d.scope) (len : ∀ vs H Q E, sp vs H Q E → vs.length = ps.length)
    (hbody : ∀ (cdv : Value) (A : Around) (outer : List PySem.Env) (s : Shared) (H : Hp) (vs : List V) (Q : VK) (E : XK), Room k (A.deeper (envOfC d.qual d.scope s.heap.objs.size (He.fAd K d.at_) cdv)) → sp vs H Q E →
      ∃ t, PSs (cxOf CX0 P w K mg base N d.qual d.scope (He.fAd K d.at_) cdv A outer s H E).nox d.body t ∧ t { nx := fun _ H' => Q .non H', rt := Q } (L2.start N vs) H) :
    ∃ fd, FunD K d.name d.qual d.params d.body d.scope (d.dvs K) (d.kws K) (He.fAd K d.at_) fd ∧ FnOk P w K mg base CX0 (k + 1) (He.fAd K d.at_) fd ps sp := by
  obtain ⟨fd, F⟩ := T.d.def_ i hd
  refine ⟨fd, F, F.ok S len (fun cdv A outer s H vs Q E hr h => ?_)⟩
  obtain ⟨t, ht, q⟩ := hbody cdv A outer s H vs Q E hr h
  exact ⟨t, ht.nox, q⟩
theorem kbn_of {fd : FuncData} {ps ks : List Str} {n : Nat} (h : ∀ us ws : List Value, us.length = n → ws.length = ks.length → bindArgs fd ⟨us, ks.zip ws⟩ = pure (ps.zip (us ++ ws))) : KBn K fd ps n ks (fun us ws => us ++ ws) (fun vs zs => vs ++ zs) :=
  ⟨fun s us ws _ l1 l2 => BindsTo.of_eq (h us ws l1 l2), fun r1 r2 => r1.append r2⟩
end
/-! ### an object in the making: its own address x is written, all else is kept -/
structure ObS (K : PySem.W.Frag) (Hm : Hp) (x C dx : Addr) (fs : List (Str × V)) (ρ : Env) (σ : L2.St) (H : Hp) : Prop where
  ex : Ex Hm H
  no : Hm x = none
  at_ : H x = some (.ins C dx fs)
  env : EnvD K ρ σ Hm
  sl : σ[0]? = some (some (.ref x))
section
variable {K : PySem.W.Frag} {Hm H H1 H2 H' : Hp} {x C dx : Addr} {fs : List (Str × V)} {ρ : Env} {σ : L2.St} {te : TE} {d : D} {f : Str} {Dn : Ends} {v : V}
theorem keep_ins {o : HO} (hx : H2 x = some o) (ho : ∀ xs, o ≠ .tup xs) (ho2 : ∀ u w, o ≠ .frz u w) : ∀ b ys, SqT K H2 b ys → SqT K (minus H2 [x]) b ys := fun b ys q => by
  have ne : ∀ o', H2 b = some o' → (∀ u, o' = o → False) → minus H2 [x] b = some o' := fun o' h1 h2 => by
    rw [minus_out]
    · exact h1
    · intro hm
      rw [List.mem_singleton.mp hm, hx] at h1
      exact h2 () (Option.some.inj h1).symm
  rcases q with q | q
  · rcases q with q | ⟨u, q⟩
    · exact .inl (.inl (ne _ q fun _ e => ho _ e.symm))
    · exact .inl (.inr ⟨u, ne _ q fun _ e => ho2 _ _ e.symm⟩)
  · exact .inr q
theorem ObS.grow (s : ObS K Hm x C dx fs ρ σ H) (e : Ex H H2) : ObS K (minus H2 [x]) x C dx fs ρ σ H2 ∧ Ex Hm (minus H2 [x]) := by
  have ee : Ex Hm (minus H2 [x]) := ex_minus (s.ex.trans e) fun b hb => by rw [List.mem_singleton.mp hb]; exact s.no
  exact ⟨⟨minus_ex, minus_in (by simp), e _ _ s.at_, s.env.mono ee, s.sl⟩, ee⟩
theorem ob_put (s : ObS K Hm x C dx fs ρ σ H) {fs' : List (Str × V)} : ObS K Hm x C dx fs' ρ σ (upd H x (.ins C dx fs')) := ⟨Ex.mut s.ex s.no, s.no, upd_same, s.env, s.sl⟩
theorem ob_fld (s : ObS K Hm x C dx fs ρ σ H) (he : EvE K te ρ d) (ht : d.tu = true) (c : Cls K C) (n : NoAttr K C f) (hl : fs.length < 1000)
    (q : ∀ v H' Hm', Ex Hm Hm' → Rp K Hm' v d → ObS K Hm' x C dx (putF f v fs) ρ σ H' → Dn.nx σ H') : sFld K (tVar 0) te f Dn σ H :=
  he σ Hm s.env H s.ex _ fun v H2 e2 r => by
    obtain ⟨s2, ee⟩ := s.grow e2
    refine ⟨.ref x, s.sl, x, C, dx, fs, rfl, s2.at_, c, n, hl, ?_⟩
    have r2 : Rp K (minus H2 [x]) v d := r.keepT (keep_ins s2.at_ (fun _ z => by cases z) fun _ _ z => by cases z) ht
    exact q v _ _ ee r2 (ob_put s2)
/-- .. any value -/
theorem ob_fldV (s : ObS K Hm x C dx fs ρ σ H) (he : ∀ H1, Ex Hm H1 → ∀ Q : VK, (∀ v H2, Ex H1 H2 → Q v H2) → te σ H1 Q) (c : Cls K C) (n : NoAttr K C f) (hl : fs.length < 1000)
    (q : ∀ v H' Hm', Ex Hm Hm' → ObS K Hm' x C dx (putF f v fs) ρ σ H' → Dn.nx σ H') : sFld K (tVar 0) te f Dn σ H :=
  he H s.ex _ fun v H2 e2 => by
    obtain ⟨s2, ee⟩ := s.grow e2
    exact ⟨.ref x, s.sl, x, C, dx, fs, rfl, s2.at_, c, n, hl, q v _ _ ee (ob_put s2)⟩
end
/-- a visitor as it stands -/
structure ObV (K : PySem.W.Frag) (H : Hp) (x C : Addr) (nm : Str) (pat : Int) (aw : List Str) : Prop where
  ex : ∃ dx fs t, H x = some (.ins C dx fs) ∧ fs.lookup ("called" : Str) = some (.str nm) ∧ fs.lookup ("endurance" : Str) = some (.int pat) ∧ fs.lookup ("awaited" : Str) = some (.ref t) ∧ Rp K H (.ref t) (.tup (sD aw)) ∧ fs.lookup ("prolongs" : Str) = none ∧ fs.lookup ("end" : Str) = none
theorem ObV.mono {K : PySem.W.Frag} {H H' : Hp} {x C : Addr} {nm : Str} {pat : Int} {aw : List Str} (e : Ex H H') (h : ObV K H x C nm pat aw) : ObV K H' x C nm pat aw := by
  obtain ⟨dx, fs, t, h1, h2, h3, h4, h5, h6, h7⟩ := h.ex
  exact ⟨dx, fs, t, e _ _ h1, h2, h3, h4, h5.mono e, h6, h7⟩
section
variable {K : PySem.W.Frag} {H : Hp} {x C : Addr} {nm : Str} {pat : Int} {aw : List Str} {σ : L2.St}
theorem dv_called (h : ObV K H x C nm pat aw) (c : ClsV K C) (hs : σ[0]? = some (some (.ref x))) : EvD K (tFld K (tVar 0) "called") σ H (dS nm) := fun H1 e Q q => by
  obtain ⟨dx, fs, t, h1, h2, h3, h4, h5, h6, h7⟩ := h.ex
  exact ⟨_, hs, x, C, dx, fs, _, rfl, e _ _ h1, c.c, c.n1, h2, q _ H1 (Ex.refl _) (.raw _)⟩
theorem dv_endurance (h : ObV K H x C nm pat aw) (c : ClsV K C) (hs : σ[0]? = some (some (.ref x))) : EvD K (tFld K (tVar 0) "endurance") σ H (dI pat) := fun H1 e Q q => by
  obtain ⟨dx, fs, t, h1, h2, h3, h4, h5, h6, h7⟩ := h.ex
  exact ⟨_, hs, x, C, dx, fs, _, rfl, e _ _ h1, c.c, c.n3, h3, q _ H1 (Ex.refl _) (.raw _)⟩
theorem dv_awaited (h : ObV K H x C nm pat aw) (c : ClsV K C) (hs : σ[0]? = some (some (.ref x))) : EvD K (tFld K (tVar 0) "awaited") σ H (.tup (sD aw)) := fun H1 e Q q => by
  obtain ⟨dx, fs, t, h1, h2, h3, h4, h5, h6, h7⟩ := h.ex
  exact ⟨_, hs, x, C, dx, fs, _, rfl, e _ _ h1, c.c, c.n4, h4, q _ H1 (Ex.refl _) (h5.mono e)⟩
theorem dv_varV {i : Nat} {v : V} {d : D} (hs : σ[i]? = some (some v)) (r : Rp K H v d) : EvD K (tVar i) σ H d := fun H1 e Q q => ⟨v, hs, q v H1 (Ex.refl _) (r.mono e)⟩
end
end Pa
set_option Elab.async false
set_option linter.all false
set_option maxRecDepth 100000
set_option maxHeartbeats 8000000
namespace Pa
open PySem PySem.Spec PyProof.Rows L2 Evl
section
variable {P : Program} {w : World} {K : PySem.W.Frag} {mg : Str → Option Value} {base : Heap}


def spWin (K : PySem.W.Frag) : Sp := fun vs H Q _ => ∃ x dx, ∃ a b : Int, vs = [.ref x, .int a, .int b] ∧ H x = some (.ins (He.ga K "Window") dx []) ∧ 0 ≤ a ∧ a ≤ b ∧ ∀ H', Ex (minus H [x]) H' → Q .non H'

theorem sc_Window_init : FnScope ["self", "first", "last"] ["self", "first", "last"] d_Window_init.scope := ⟨rfl, rfl, rfl, by decide +kernel, rfl, by decide +kernel, by decide +kernel⟩
theorem fn_WinInit (T : Wd K mg base) : ∃ fd, FunD K d_Window_init.name d_Window_init.qual d_Window_init.params d_Window_init.body d_Window_init.scope (d_Window_init.dvs K) (d_Window_init.kws K) (He.fAd K d_Window_init.at_) fd ∧ FnOk P w K mg base CX0 (2 + 1) (He.fAd K d_Window_init.at_) fd ["self", "first", "last"] (spWin K) := by
  refine fnD_of T 41 (d := d_Window_init) rfl sc_Window_init (fun vs H Q E ⟨_, _, _, _, e, _⟩ => by rw [e]; rfl) fun cdv A outer s H vs Q E hr h => ?_
  refine ⟨_, (pss_cons (ps_if (PW.pt (pw_or (pt_not (pt_val (C8.pe_c (ok_is_number T) hr (by decide) rfl (pa_cons (pv 1) pa_nil)))) (pw_or (pt_not (pt_val (C8.pe_c (ok_is_number T) hr (by decide) rfl (pa_cons (pv 2) pa_nil)))) (pw_or1 (pt_cmpR op_gt (pv 1) (pv 2) (nomark _)))))) (pss_one ps_never) pss_nil)
    (pss_one (ps_fld (pv 0) (pe_tup (pa_cons (pv 1) (pa_cons (pv 2) pa_nil))) rfl))), ?_⟩
  obtain ⟨x, dx, a, b, rfl, hx, a0, ab, q⟩ := h
  have s0 : ObS K (minus H [x]) x (He.ga K "Window") dx [] [none, some (dI a), some (dI b)] (L2.start ["self", "first", "last"] [.ref x, .int a, .int b]) H := by
    refine ⟨minus_ex, minus_in (by simp), hx, ⟨rfl, fun i d hi => ?_⟩, rfl⟩
    match i, hi with
    | 1, hi => cases hi; exact ⟨_, rfl, .raw _⟩
    | 2, hi => cases hi; exact ⟨_, rfl, .raw _⟩
  have ht : EvTE K (tOr (tNot (tB (tCall (spD K gNumber) [] (fun _ _ _ => False) (tCons (tVar 1) tNil)))) (tOr (tNot (tB (tCall (spD K gNumber) [] (fun _ _ _ => False) (tCons (tVar 2) tNil)))) (tTest (tOp (rI0 fun i j => .bl (decide (i > j))) (tVar 1) (tVar 2))))) [none, some (dI a), some (dI b)] false :=
    te_is (te_or (te_not (te_B (ee_call (es_cons (ee_var rfl) es_nil) ⟨a, rfl, a0, rfl⟩))) fun _ => te_or (te_not (te_B (ee_call (es_cons (ee_var rfl) es_nil) ⟨b, rfl, by omega, rfl⟩))) fun _ => te_test (ee_op (ee_var rfl) (ee_var rfl) fun _ => rd_I0)) (by simp; omega)
  refine tseq_go ?_
  refine ht _ (minus H [x]) s0.env H s0.ex _ fun H2 e2 => ?_
  refine tnext_go ?_
  obtain ⟨s2, _⟩ := s0.grow e2
  refine ob_fld s2 (d := .tup [dI a, dI b]) (ee_tup (es_cons (ee_var rfl) (es_cons (ee_var rfl) es_nil)) (by simp)) rfl (T.cls 85 rfl) (T.noat 112 rfl) (by decide) fun v H' Hm' e r s3 => ?_
  refine q H' (Ex.trans ?_ s3.ex)
  refine Ex.trans ?_ e
  exact fun c o hc => by
    have hcx : c ∉ [x] := fun hm => by rw [minus_in hm] at hc; cases hc
    rw [minus_out hcx] at hc ⊢
    exact e2 _ _ hc


theorem mak_Window (T : Wd K mg base) : C8.Mak P w K mg base 3 "Window" (He.ga K "Window") (spWin K) [] := by
  obtain ⟨fd, F, G⟩ := fn_WinInit (P := P) (w := w) T
  refine ⟨He.ma K (He.ga K "Window") "__init__", fd, ["self", "first", "last"], [], T.mkr 86 rfl, G, T.glo 58 rfl, ?_, .nil⟩
  exact F.bindsN fun kV doc pm an cdv ct us hl => match us, hl with | [_, _, _], _ => rfl
/-- Window(a, b) -/
theorem ev_win {σ : L2.St} {Hb : Hp} {ta tb : TE} {a b : Int} (ha : EvD K ta σ Hb (dI a)) (hb : EvD K tb σ Hb (dI b)) (a0 : 0 ≤ a) (ab : a ≤ b) : ∀ H1, Ex Hb H1 → ∀ Q : VK, (∀ v H2, Ex H1 H2 → Q v H2) → tMake (He.ga K "Window") (spWin K) [] (fun _ _ _ => False) (tCons ta (tCons tb tNil)) σ H1 Q := fun H1 e1 Q q =>
  ha H1 e1 _ fun v H2 e2 r2 => hb H2 (e1.trans e2) _ fun v' H3 e3 r3 => by
    have ev := r2.raw_inv
    have ev' := r3.raw_inv
    subst ev ev'
    intro x dx hx hdx hne
    refine ⟨x, dx, a, b, rfl, upd_same, a0, ab, fun H' e' => ⟨rfl, q _ H' ((e2.trans e3).trans ?_)⟩⟩
    intro c o hc
    have h1 : c ≠ x := fun e => by rw [e, hx] at hc; cases hc
    have h2 : c ≠ dx := fun e => by rw [e, hdx] at hc; cases hc
    refine e' c o ?_
    rw [minus_out (by simpa using h1), upd_ne h1, upd_ne h2]
    exact hc


abbrev vsFs (nm : Str) (wn : V) (p : Int) (t : Addr) : List (Str × V) := [("called", .str nm), ("opening", wn), ("endurance", .int p), ("awaited", .ref t)]
def spVI (K : PySem.W.Frag) : Sp := fun vs H Q _ => ∃ x dx nm, ∃ k : Kd, ∃ a b p : Int, vs = [.ref x, .str nm, .int a, .int b, .int p] ∧ H x = some (.ins (clsA K k) dx []) ∧ 0 ≤ a ∧ a ≤ b ∧
  ∀ H' Hm' wn t, Ex (minus H [x]) Hm' → Ex Hm' H' → Hm' x = none → H' x = some (.ins (clsA K k) dx (vsFs nm wn p t)) → Rp K Hm' (.ref t) (.tup []) → Q .non H'

theorem sc_Visitor_init : FnScope ["self", "name", "first", "last", "patience"] ["self", "name", "first", "last", "patience"] d_Visitor_init.scope := ⟨rfl, rfl, rfl, by decide +kernel, rfl, by decide +kernel, by decide +kernel⟩
theorem fn_VisInit (T : Wd K mg base) : ∃ fd, FunD K d_Visitor_init.name d_Visitor_init.qual d_Visitor_init.params d_Visitor_init.body d_Visitor_init.scope (d_Visitor_init.dvs K) (d_Visitor_init.kws K) (He.fAd K d_Visitor_init.at_) fd ∧ FnOk P w K mg base CX0 (4 + 1) (He.fAd K d_Visitor_init.at_) fd ["self", "name", "first", "last", "patience"] (spVI K) := by
  refine fnD_of T 42 (d := d_Visitor_init) rfl sc_Visitor_init (fun vs H Q E ⟨_, _, _, _, _, _, _, e, _⟩ => by rw [e]; rfl) fun cdv A outer s H vs Q E hr h => ?_
  refine ⟨_, (pss_cons (ps_fld (pv 0) (pv 1) rfl)
    (pss_cons (ps_fld (pv 0) (C8.pe_mk (mak_Window T) hr (by decide) rfl (pa_cons (pv 2) (pa_cons (pv 3) pa_nil))) rfl)
    (pss_cons (ps_fld (pv 0) (pv 4) rfl)
    (pss_one (ps_fld (pv 0) (pe_tup pa_nil) rfl))))), ?_⟩
  obtain ⟨x, dx, nm, k, a, b, p, rfl, hx, a0, ab, q⟩ := h
  have c := T.clsV k
  have s0 : ObS K (minus H [x]) x (clsA K k) dx [] [none, some (dS nm), some (dI a), some (dI b), some (dI p)] (L2.start ["self", "name", "first", "last", "patience"] [.ref x, .str nm, .int a, .int b, .int p]) H := by
    refine ⟨minus_ex, minus_in (by simp), hx, ⟨rfl, fun i d hi => ?_⟩, rfl⟩
    match i, hi with
    | 1, hi => cases hi; exact ⟨_, rfl, .raw _⟩
    | 2, hi => cases hi; exact ⟨_, rfl, .raw _⟩
    | 3, hi => cases hi; exact ⟨_, rfl, .raw _⟩
    | 4, hi => cases hi; exact ⟨_, rfl, .raw _⟩
  refine tseq_go ?_
  refine ob_fld s0 (d := dS nm) (ee_var rfl) rfl c.c c.n1 (by decide) fun v1 H1 Hm1 e1 r1 s1 => ?_
  have ev := r1.raw_inv
  subst ev
  refine tseq_go ?_
  refine ob_fldV s1 (ev_win (ee_var rfl _ _ s1.env) (ee_var rfl _ _ s1.env) a0 ab) c.c c.n2 (Nat.lt_of_le_of_lt (length_putF _ _ _) (by decide)) fun v2 H2 Hm2 e2 s2 => ?_
  refine tseq_go ?_
  have l2 := length_putF ("opening" : Str) v2 (putF ("called" : Str) (V.str nm) [])
  have l1 := length_putF ("called" : Str) (V.str nm) []
  simp only [List.length_nil] at l1
  refine ob_fld s2 (d := dI p) (ee_var rfl) rfl c.c c.n3 (by omega) fun v3 H3 Hm3 e3 r3 s3 => ?_
  have ev := r3.raw_inv
  subst ev
  have l3 := length_putF ("endurance" : Str) (V.int p) (putF ("opening" : Str) v2 (putF ("called" : Str) (V.str nm) []))
  refine ob_fld s3 (d := .tup []) (ee_tup es_nil (by simp)) rfl c.c c.n4 (by omega) fun v4 H4 Hm4 e4 r4 s4 => ?_
  obtain ⟨t, xs, rfl, _, _⟩ := r4.tup_inv
  exact q H4 Hm4 v2 t (((e1.trans e2).trans e3).trans e4) s4.ex s4.no s4.at_ r4


def proV (g : Bool) (nm : Str) (aw : List Str) (y : Str) : Bool := if g = true then !decide (y = nm) else (!decide (y = nm) && decide (y ∈ aw))
/-- prolongs: of a guide, of another visitor -/
def spPro (K : PySem.W.Frag) (g : Bool) : Sp := fun vs H Q _ => ∃ x nm aw y, ∃ k : Kd, ∃ pat : Int, vs = [.ref x, .str y] ∧ ObV K H x (clsA K k) nm pat aw ∧ ∀ H', Ex H H' → Q (.bl (proV g nm aw y)) H'

theorem sc_Visitor_prolongs : FnScope ["self", "other"] ["self", "other"] d_Visitor_prolongs.scope := ⟨rfl, rfl, rfl, by decide +kernel, rfl, by decide +kernel, by decide +kernel⟩
theorem fn_VisPro (T : Wd K mg base) : ∃ fd, FunD K d_Visitor_prolongs.name d_Visitor_prolongs.qual d_Visitor_prolongs.params d_Visitor_prolongs.body d_Visitor_prolongs.scope (d_Visitor_prolongs.dvs K) (d_Visitor_prolongs.kws K) (He.fAd K d_Visitor_prolongs.at_) fd ∧ FnOk P w K mg base CX0 (0 + 1) (He.fAd K d_Visitor_prolongs.at_) fd ["self", "other"] (spPro K false) := by
  refine fnD_of T 43 (d := d_Visitor_prolongs) rfl sc_Visitor_prolongs (fun vs H Q E ⟨_, _, _, _, _, _, e, _⟩ => by rw [e]; rfl) fun cdv A outer s H vs Q E hr h => ?_
  refine ⟨_, (pss_one (ps_ret (pe_and (pe_cmpR (z_ne (K := K) hr.units rfl) (pv 1) (z_fld (K := K) rfl (pv 0) rfl) (nomark _)) (pe_one (pe_cmpR (z_in (K := K) rfl) (pv 1) (z_fld (K := K) rfl (pv 0) rfl) (by first | rfl | with_unfolding_all rfl)))))), ?_⟩
  obtain ⟨x, nm, aw, y, k, pat, rfl, ho, q⟩ := h
  refine s_retD (d := dB (proV false nm aw y)) (dv_is (dv_andV (dv_op (dv_varV (v := .str y) (d := dS y) rfl (.raw _)) (dv_called ho (T.clsV k) rfl) (rd_neX rfl)) fun _ => dv_op (dv_varV (v := .str y) (d := dS y) rfl (.raw _)) (dv_awaited ho (T.clsV k) rfl) rd_inT) ?_) fun v H2 e2 r => ?_
  · simp [proV]
  · have ev := r.raw_inv
    subst ev
    exact q H2 e2

theorem sc_Guide_prolongs : FnScope ["self", "other"] ["self", "other"] d_Guide_prolongs.scope := ⟨rfl, rfl, rfl, by decide +kernel, rfl, by decide +kernel, by decide +kernel⟩
theorem fn_GuiPro (T : Wd K mg base) : ∃ fd, FunD K d_Guide_prolongs.name d_Guide_prolongs.qual d_Guide_prolongs.params d_Guide_prolongs.body d_Guide_prolongs.scope (d_Guide_prolongs.dvs K) (d_Guide_prolongs.kws K) (He.fAd K d_Guide_prolongs.at_) fd ∧ FnOk P w K mg base CX0 (0 + 1) (He.fAd K d_Guide_prolongs.at_) fd ["self", "other"] (spPro K true) := by
  refine fnD_of T 45 (d := d_Guide_prolongs) rfl sc_Guide_prolongs (fun vs H Q E ⟨_, _, _, _, _, _, e, _⟩ => by rw [e]; rfl) fun cdv A outer s H vs Q E hr h => ?_
  refine ⟨_, (pss_one (ps_ret (pe_cmpR (z_ne (K := K) hr.units rfl) (pv 1) (z_fld (K := K) rfl (pv 0) rfl) (nomark _)))), ?_⟩
  obtain ⟨x, nm, aw, y, k, pat, rfl, ho, q⟩ := h
  refine s_retD (d := dB (proV true nm aw y)) (dv_is (dv_op (dv_varV (v := .str y) (d := dS y) rfl (.raw _)) (dv_called ho (T.clsV k) rfl) (rd_neX rfl)) ?_) fun v H2 e2 r => ?_
  · simp [proV]
  · have ev := r.raw_inv
    subst ev
    exact q H2 e2


def spHE (K : PySem.W.Frag) : Sp := fun vs H Q _ => ∃ x dx fs u w, ∃ cl : Int, vs = [.ref x, u, w] ∧ H x = some (.ins (clsA K .hos) dx fs) ∧ fs.lookup ("leaving" : Str) = some (.int cl) ∧ ∀ H', Ex H H' → Q (.int cl) H'

theorem sc_Host_end : FnScope ["self", "own", "arrivals"] ["self", "own", "arrivals"] d_Host_end.scope := ⟨rfl, rfl, rfl, by decide +kernel, rfl, by decide +kernel, by decide +kernel⟩
theorem fn_HosEnd (T : Wd K mg base) : ∃ fd, FunD K d_Host_end.name d_Host_end.qual d_Host_end.params d_Host_end.body d_Host_end.scope (d_Host_end.dvs K) (d_Host_end.kws K) (He.fAd K d_Host_end.at_) fd ∧ FnOk P w K mg base CX0 (0 + 1) (He.fAd K d_Host_end.at_) fd ["self", "own", "arrivals"] (spHE K) := by
  refine fnD_of T 46 (d := d_Host_end) rfl sc_Host_end (fun vs H Q E ⟨_, _, _, _, _, _, e, _⟩ => by rw [e]; rfl) fun cdv A outer s H vs Q E hr h => ?_
  refine ⟨_, (pss_one (ps_ret (z_fld (K := K) rfl (pv 0) rfl))), ?_⟩
  obtain ⟨x, dx, fs, u, w', cl, rfl, hx, hl, q⟩ := h
  exact ⟨_, rfl, x, _, dx, fs, _, rfl, hx, T.cls 93 rfl, T.noat 111 rfl, hl, q H (Ex.refl _)⟩

end
end Pa
set_option Elab.async false
set_option linter.all false
set_option maxRecDepth 100000
set_option maxHeartbeats 8000000
namespace Pa
open PySem PySem.Spec PyProof.Rows L2 Evl
section
variable {P : Program} {w : World} {K : PySem.W.Frag} {mg : Str → Option Value} {base : Heap}


theorem fni_of {x qual : Str} {params : Arguments} {body : List Stmt} {scope : Scope} {dvs : List V} {kws : List (Str × V)} {f : Addr} {fd : FuncData} (F : FunD K x qual params body scope dvs kws f fd) : PySem.W.fnIn K f = true := by
  obtain ⟨oc, od, dV, kV, doc, pm, an, cdv, ct, osl, rfl, lk, _⟩ := F.ex
  unfold PySem.W.fnIn
  rw [lk]
theorem supC_of (T : Wd K mg base) {x : String} {m : Str} (hx : x ∈ ["Waiter", "Guide", "Host"]) (hs : supB K x x m "Visitor" = true) (isf : PySem.W.isFn K (.ref (He.ma K (He.ga K "Visitor") m)) = true) (fni : PySem.W.fnIn K (He.ma K (He.ga K "Visitor") m) = true) : SupC K (He.ga K x) (He.ma K (He.ga K "Visitor") m) m := by
  have h5 := of_decide_eq_true (List.all_eq_true.mp T.exs.2.2.2.2.1 x hx)
  have h6 : PySem.W.nsIn K PySem.cStatics "thirdparty.any" = some none := of_decide_eq_true T.exs.2.2.2.2.2
  refine ⟨h5, ?_, of_decide_eq_true hs, isf, fni, h6⟩
  cases hc : PySem.W.clsIn K (He.ga K x) with
  | none =>
    unfold PySem.W.mroIn at h5
    rw [hc] at h5
    cases h5
  | some cd => exact ⟨cd, rfl⟩
theorem sups (T : Wd K mg base) : supB K "Waiter" "Waiter" "__init__" "Visitor" = true ∧ supB K "Waiter" "Waiter" "prolongs" "Visitor" = true ∧ supB K "Waiter" "Waiter" "end" "Visitor" = true ∧ supB K "Guide" "Guide" "__init__" "Visitor" = true ∧ supB K "Guide" "Guide" "end" "Visitor" = true ∧ supB K "Host" "Host" "__init__" "Visitor" = true := by
  have h := T.exs.2.1
  obtain ⟨h, h6⟩ := Bool.and_eq_true_iff.mp h
  obtain ⟨h, h5⟩ := Bool.and_eq_true_iff.mp h
  obtain ⟨h, h4⟩ := Bool.and_eq_true_iff.mp h
  obtain ⟨h, h3⟩ := Bool.and_eq_true_iff.mp h
  obtain ⟨h1, h2⟩ := Bool.and_eq_true_iff.mp h
  exact ⟨h1, h2, h3, h4, h5, h6⟩
theorem bindsS {d : He.DefD} {C f : Addr} {fd : FuncData} {ps : List Str} (F : FunS K d C f fd) (h0 : d.dfl = []) (h : ∀ (kV doc pm : Value) (an : Option Addr) (cdv ct : Value) (cc : Addr) (us : List Value), us.length = ps.length → bindArgs (PySem.W.ksFn d.name d.qual d.params d.body d.scope .none kV doc pm an cdv ct cc) ⟨us, []⟩ = pure (ps.zip us)) : L2.Binds K fd ps [] := by
  obtain ⟨oc, od, dV, kV, doc, pm, an, cda, ct, osl, cc, ccl, cdd, vs0, ccs, tf, fl, cl, cld, csl, rfl, _, _, _, _, _, _, hD⟩ := F.ex
  have e : dV = .none := by
    rcases hD with ⟨_, e⟩ | ⟨e, _⟩
    · exact e
    · exact absurd (show d.dvs K = [] by unfold He.DefD.dvs; rw [h0]; rfl) e
  subst e
  exact .all (h kV doc pm an _ ct cc)
theorem kbnS {d : He.DefD} {C f : Addr} {fd : FuncData} {ps ks : List Str} {n : Nat} (F : FunS K d C f fd) (h0 : d.dfl = []) (h : ∀ (kV doc pm : Value) (an : Option Addr) (cdv ct : Value) (cc : Addr) (us ws : List Value), us.length = n → ws.length = ks.length → bindArgs (PySem.W.ksFn d.name d.qual d.params d.body d.scope .none kV doc pm an cdv ct cc) ⟨us, ks.zip ws⟩ = pure (ps.zip (us ++ ws))) : KBn K fd ps n ks (fun us ws => us ++ ws) (fun vs zs => vs ++ zs) := by
  obtain ⟨oc, od, dV, kV, doc, pm, an, cda, ct, osl, cc, ccl, cdd, vs0, ccs, tf, fl, cl, cld, csl, rfl, _, _, _, _, _, _, hD⟩ := F.ex
  have e : dV = .none := by
    rcases hD with ⟨_, e⟩ | ⟨e, _⟩
    · exact e
    · exact absurd (show d.dvs K = [] by unfold He.DefD.dvs; rw [h0]; rfl) e
  subst e
  exact kbn_of (h kV doc pm an _ ct cc)
theorem met_VisPro (T : Wd K mg base) : C8.Met P w K mg base 1 (clsA K .vis) "prolongs" (spPro K false) [] := by
  obtain ⟨fd, F, G⟩ := fn_VisPro (P := P) (w := w) T
  exact ⟨_, fd, ["self", "other"], [], T.cls 87 rfl, T.meth 114 rfl, G, F.bindsN fun kV doc pm an cdv ct us hl => match us, hl with | [_, _], _ => rfl, .nil⟩
theorem met_GuiPro (T : Wd K mg base) : C8.Met P w K mg base 1 (clsA K .gui) "prolongs" (spPro K true) [] := by
  obtain ⟨fd, F, G⟩ := fn_GuiPro (P := P) (w := w) T
  exact ⟨_, fd, ["self", "other"], [], T.cls 91 rfl, T.meth 118 rfl, G, F.bindsN fun kV doc pm an cdv ct us hl => match us, hl with | [_, _], _ => rfl, .nil⟩
theorem met_HosEnd (T : Wd K mg base) : C8.Met P w K mg base 1 (clsA K .hos) "end" (spHE K) [] := by
  obtain ⟨fd, F, G⟩ := fn_HosEnd (P := P) (w := w) T
  exact ⟨_, fd, ["self", "own", "arrivals"], [], T.cls 93 rfl, T.meth 119 rfl, G, F.bindsN fun kV doc pm an cdv ct us hl => match us, hl with | [_, _, _], _ => rfl, .nil⟩
/-- prolongs of a waiter -/
def spProW (K : PySem.W.Frag) : Sp := fun vs H Q _ => ∃ x nm aw y, ∃ pat : Int, vs = [.ref x, .str y] ∧ ObV K H x (clsA K .wai) nm pat aw ∧ ∀ H', Ex H H' → Q (.bl (proV false nm aw y)) H'


theorem sc_WaiPro : FnScopeS ["self", "other"] ["self", "other"] c_Waiter_prolongs.scope := ⟨rfl, rfl, rfl, by decide +kernel, rfl, by decide +kernel, by decide +kernel, by decide +kernel⟩
theorem sn_WaiPro : SupN ["self", "other"] c_Waiter_prolongs.scope c_Waiter_prolongs.params := ⟨⟨_, rfl, rfl, by decide +kernel⟩, by decide +kernel, by decide +kernel⟩
theorem met_WaiPro (T : Wd K mg base) : C8.Met theP w K mg base 2 (clsA K .wai) "prolongs" (spProW K) [] := by
  obtain ⟨fd2, F2, G2⟩ := fn_VisPro (P := theP) (w := w) T
  obtain ⟨fd, F⟩ := T.funS 1 (d := c_Waiter_prolongs) rfl
  have b2 : L2.Binds K fd2 ["self", "other"] [] := F2.bindsN fun kV doc pm an cdv ct us hl => match us, hl with | [_, _], _ => rfl
  refine ⟨_, fd, ["self", "other"], [], T.cls 89 rfl, T.meth 116 rfl, F.ok (k := 1) sc_WaiPro (fun vs H Q E ⟨_, _, _, _, _, e, _⟩ => by rw [e]; rfl) (fun cda cc A outer s H vs Q E sf hr h => ?_), bindsS F rfl fun kV doc pm an cdv ct cc us hl => match us, hl with | [_, _], _ => rfl, .nil⟩
  refine sb_ret (se_sup rfl T sf sn_WaiPro (supC_of T (by simp) (sups T).2.1 (T.meth 114 rfl).fn (fni_of F2)) G2 hr b2 .nil (pa_cons (pe_var (i := 1) rfl (.inl rfl)) pa_nil) rfl) ?_
  obtain ⟨x, nm, aw, y, pat, rfl, ho, q⟩ := h
  obtain ⟨dx, fs, t, h1, _⟩ := ho.ex
  refine ⟨x, dx, fs, rfl, h1, fun p hp => ⟨_, rfl, upd_same, x, nm, aw, y, .wai, pat, rfl, ho.mono (Ex.new hp), fun H' e => q H' ((Ex.new hp).trans e)⟩⟩

end
end Pa
set_option Elab.async false
set_option linter.all false
set_option maxRecDepth 100000
set_option maxHeartbeats 8000000
namespace Pa
open PySem PySem.Spec PyProof.Rows L2 Evl
section
variable {P : Program} {w : World} {K : PySem.W.Frag} {mg : Str → Option Value} {base : Heap}


def Kd.g : Kd → Bool
  | .gui => true
  | _ => false
/-- self.prolongs(..) of a visitor, a waiter, a guide -/
def tPro3 (K : PySem.W.Frag) (ta : TE) (t : TA) : TE := fun σ H Q => tMeth (clsA K .vis) "prolongs" (spPro K false) [] (fun _ _ _ => False) ta t σ H Q ∨ tMeth (clsA K .wai) "prolongs" (spProW K) [] (fun _ _ _ => False) ta t σ H Q ∨ tMeth (clsA K .gui) "prolongs" (spPro K true) [] (fun _ _ _ => False) ta t σ H Q
theorem pe_pro3 {X : Cx} {e : Expr} {K : PySem.W.Frag} {ta : TE} {t : TA} (h1 : PE X e (tMeth (clsA K .vis) "prolongs" (spPro K false) [] (fun _ _ _ => False) ta t)) (h2 : PE X e (tMeth (clsA K .wai) "prolongs" (spProW K) [] (fun _ _ _ => False) ta t)) (h3 : PE X e (tMeth (clsA K .gui) "prolongs" (spPro K true) [] (fun _ _ _ => False) ta t)) : PE X e (tPro3 K ta t) :=
  ⟨fun pins s σ H Q I h => by
    rcases h with h | h | h
    · exact h1.run pins s σ H Q I h
    · exact h2.run pins s σ H Q I h
    · exact h3.run pins s σ H Q I h⟩
theorem dv_pro3 {σ : L2.St} {H : Hp} {x : Addr} {k : Kd} {nm y : Str} {pat : Int} {aw : List Str} {i : Nat} (ho : ObV K H x (clsA K k) nm pat aw) (hk : k ≠ .hos) (hs : σ[0]? = some (some (.ref x))) (hi : σ[i]? = some (some (.str y))) : EvD K (tPro3 K (tVar 0) (tCons (tVar i) tNil)) σ H (dB (proV k.g nm aw y)) := fun H1 e Q q => by
  have ho1 := ho.mono e
  obtain ⟨dx, fs, t, h1, h2, h3, h4, h5, h6, h7⟩ := ho1.ex
  cases k with
  | vis => exact .inl ⟨_, hs, x, dx, fs, rfl, h1, h6, _, hi, x, nm, aw, y, .vis, pat, rfl, ho1, fun H' e' => q _ H' e' (.raw _)⟩
  | wai => exact .inr (.inl ⟨_, hs, x, dx, fs, rfl, h1, h6, _, hi, x, nm, aw, y, pat, rfl, ho1, fun H' e' => q _ H' e' (.raw _)⟩)
  | gui => exact .inr (.inr ⟨_, hs, x, dx, fs, rfl, h1, h6, _, hi, x, nm, aw, y, .gui, pat, rfl, ho1, fun H' e' => q _ H' e' (.raw _)⟩)
  | hos => exact absurd rfl hk
abbrev arrL (arr : List (Str × Int)) : List D := arr.map fun p => .tup [dS p.1, dI p.2]
def sortI (ms : List Int) : List Int := sortD dI ms
def endStep (own pat : Int) (last m : Int) : Int := if own < m ∧ m ≤ last then m + pat else last
def endV (own pat : Int) (ms : List Int) : Int := (sortI ms).foldl (endStep own pat) (own + pat)
def endMs (g : Bool) (nm : Str) (aw : List Str) (arr : List (Str × Int)) : List Int := (arr.filter fun p => proV g nm aw p.1).map (·.2)
def spEnd (K : PySem.W.Frag) : Sp := fun vs H Q _ => ∃ x nm aw, ∃ k : Kd, ∃ own pat : Int, ∃ arr v, vs = [.ref x, .int own, v] ∧ k ≠ .hos ∧ ObV K H x (clsA K k) nm pat aw ∧ Rp K H v (.tup (arrL arr)) ∧ arr.length ≤ 100 ∧ ∀ H', Ex H H' → Q (.int (endV own pat (endMs k.g nm aw arr))) H'
theorem rc_sortI {H : Hp} {ms : List Int} (hl : ms.length ≤ 1000) : RCD K (rSortD K) [.lst (ms.map dI)] H (.lst ((sortI ms).map dI)) := by
  have e : (ms.map dI).mergeSort (PySem.W.dataLe false D.py) = (sortI ms).map dI := sort_enc
  rw [← e]
  refine rc_sort (n := 0) (oks_all fun d hd => ?_) (by decide) (fun a ha b hb => ?_) (.inr fun a ha => ?_) (by rw [List.length_map]; omega) (tus_all fun d hd => ?_)
  · obtain ⟨m, _, rfl⟩ := List.mem_map.mp hd
    rfl
  · rw [List.map_map] at ha hb
    obtain ⟨m, _, rfl⟩ := List.mem_map.mp ha
    obtain ⟨m', _, rfl⟩ := List.mem_map.mp hb
    rfl
  · rw [List.map_map] at ha
    obtain ⟨m, _, rfl⟩ := List.mem_map.mp ha
    exact ⟨(by intro z; cases z), (by intro _ z; cases z)⟩
  · obtain ⟨m, _, rfl⟩ := List.mem_map.mp hd
    rfl
theorem keepA {α : Type} {arr : List α} {p : α → Bool} {f : α → D} : keep (fun i => ((arr[i]?).map p).getD false) (fun i => ((arr[i]?).map f).getD dN) arr.length = (arr.filter p).map f := by
  have go : ∀ k, k ≤ arr.length → keep (fun i => ((arr[i]?).map p).getD false) (fun i => ((arr[i]?).map f).getD dN) k = ((arr.take k).filter p).map f := by
    intro k
    induction k with
    | zero => intro _; rfl
    | succ k ih =>
      intro hk
      have hx : arr[k]? = some arr[k] := by simp
      rw [← List.take_append_getElem (show k < arr.length by omega), List.filter_append, List.map_append, ← ih (by omega)]
      cases hp : p arr[k] with
      | true =>
        rw [keep_yes (by rw [hx]; exact hp), hx]
        simp [hp]
      | false =>
        rw [keep_no (by rw [hx]; exact hp)]
        simp [hp]
  have := go arr.length (Nat.le_refl _)
  rwa [List.take_length] at this
theorem foldl_take {α β : Type} {f : β → α → β} {b : β} {l : List α} {i : Nat} {x : α} (h : l[i]? = some x) : (l.take (i + 1)).foldl f b = f ((l.take i).foldl f b) x := by
  obtain ⟨hi, rfl⟩ := List.getElem?_eq_some_iff.mp h
  rw [← List.take_append_getElem hi, List.foldl_append]
  rfl

theorem sc_Visitor_end : FnScope ["self", "own", "arrivals", "last", "minute", "name"] ["self", "own", "arrivals"] d_Visitor_end.scope := ⟨rfl, rfl, rfl, by decide +kernel, rfl, by decide +kernel, by decide +kernel⟩
theorem fn_VisEnd (T : Wd K mg base) : ∃ fd, FunD K d_Visitor_end.name d_Visitor_end.qual d_Visitor_end.params d_Visitor_end.body d_Visitor_end.scope (d_Visitor_end.dvs K) (d_Visitor_end.kws K) (He.fAd K d_Visitor_end.at_) fd ∧ FnOk theP w K mg base CX0 (3 + 1) (He.fAd K d_Visitor_end.at_) fd ["self", "own", "arrivals"] (spEnd K) := by
  refine fnD_of T 44 (d := d_Visitor_end) rfl sc_Visitor_end (fun vs H Q E ⟨_, _, _, _, _, _, _, _, e, _⟩ => by rw [e]; rfl) fun cdv A outer s H vs Q E hr h => ?_
  refine ⟨_, (pss_cons (ps_set (i := 3) sc_Visitor_end.nd rfl (by first | exact Or.inl rfl | exact Or.inr rfl) (pe_op (z_add (K := K) rfl) (pv 1) (z_fld (K := K) rfl (pv 0) rfl)))
    (pss_cons (ps_for PassesOwn.never rfl (zi_any (K := K) rfl (pe_callB (z_sorted (K := K) hr.units rfl) (by rfl) T.g_sorted (by decide +kernel) (pa_cons (pe_lc (own := [("name", 5), ("minute", 4)]) (by rfl) sc_Visitor_end.nd (zi_any (K := K) rfl (pv 2)) (blkOk_by (own := [("name", 5), ("minute", 4)]) (N := ["self", "own", "arrivals", "last", "minute", "name"]) (sc := d_Visitor_end.scope) (by decide +kernel)) (fun _ _ _ _ _ => (zg_tup (K := K) (n := 2) rfl rfl (pgs_cons (pg_name (i := 5) sc_Visitor_end.nd rfl (by first | exact Or.inl rfl | exact Or.inr rfl)) (pgs_cons (pg_name (i := 4) sc_Visitor_end.nd rfl (by first | exact Or.inl rfl | exact Or.inr rfl)) pgs_nil)))) (fun _ _ _ _ _ => (pts_one (pt_val (pe_pro3 (C8.pe_mt (met_VisPro T) hr (by decide) (pv 0) (pa_cons (pv 5) pa_nil)) (C8.pe_mt (met_WaiPro T) hr (by decide) (pv 0) (pa_cons (pv 5) pa_nil)) (C8.pe_mt (met_GuiPro T) hr (by decide) (pv 0) (pa_cons (pv 5) pa_nil)))))) (fun _ _ _ _ _ => (pv 4))) pa_nil))) (pg_name (i := 4) sc_Visitor_end.nd rfl (by first | exact Or.inl rfl | exact Or.inr rfl)) (pss_one (ps_if (pt_chain (z_lt (K := K) hr.units rfl) op_le (pv 1) (pv 4) (pv 3)) (pss_one (ps_set (i := 3) sc_Visitor_end.nd rfl (by first | exact Or.inl rfl | exact Or.inr rfl) (pe_op (z_add (K := K) rfl) (pv 4) (z_fld (K := K) rfl (pv 0) rfl)))) pss_nil)))
    (pss_one (ps_ret (pv 3))))), ?_⟩
  obtain ⟨x, nm, aw, k, own, pat, arr, v, rfl, hk, ho, hv, hl, q⟩ := h
  have c := T.clsV k
  refine q_set (d := dI (own + pat)) (dv_op (dv_varV (v := .int own) (d := dI own) rfl (.raw _)) (dv_endurance ho c rfl) rd_addI) fun v1 H1 e1 r1 => ?_
  have ev := r1.raw_inv
  subst ev
  refine tseq_go ?_
  have ho1 := ho.mono e1
  have hv1 := hv.mono e1
  have hlc : EvD K (tLc (iAny K (tVar 2)) (gTup K 2 (gCons (gName 5) (gCons (gName 4) gNil))) (tB (tPro3 K (tVar 0) (tCons (tVar 5) tNil))) (tVar 4) [5, 4]) [some (.ref x), some (.int own), some v, some (.int (own + pat)), none, none] H1 (.lst ((endMs k.g nm aw arr).map dI)) := by
    refine dv_is (dv_lc (ds := arrL arr) (fun i => ((arr[i]?).map fun p : Str × Int => proV k.g nm aw p.1).getD false) (fun i => ((arr[i]?).map fun p : Str × Int => dI p.2).getD dN) (wk_at (dv_varV rfl hv1)) (by simp; omega) (fun i d hd _ => ?_) fun i d y H2 hd e2 ry kk hkk => ?_) ?_
    · obtain ⟨p, hp, rfl⟩ := map_get hd
      rw [hp]
      rfl
    · obtain ⟨p, hp, rfl⟩ := map_get hd
      obtain ⟨a, xs, rfl, hs, rr⟩ := ry.tup_inv
      have e := Rps.raws_inv (ys := [.str p.1, .int p.2]) rr
      subst e
      refine ⟨a, _, rfl, hs, rfl, _, _, rfl, _, _, rfl, rfl, ?_⟩
      refine hkk _ H2 (Ex.refl _) rfl ?_ fun _ => ?_
      · rw [hp]
        exact dt_B (dv_pro3 (ho1.mono e2) hk rfl rfl)
      · rw [hp]
        exact dv_varV (v := .int p.2) rfl (.raw _)
    · rw [show (arrL arr).length = arr.length by simp, keepA (p := fun q : Str × Int => proV k.g nm aw q.1) (f := fun q : Str × Int => dI q.2)]
      simp [endMs]
  have hsl : EvD K (tCB (rSortD K) (tCons (tLc (iAny K (tVar 2)) (gTup K 2 (gCons (gName 5) (gCons (gName 4) gNil))) (tB (tPro3 K (tVar 0) (tCons (tVar 5) tNil))) (tVar 4) [5, 4]) tNil)) [some (.ref x), some (.int own), some v, some (.int (own + pat)), none, none] H1 (.lst ((sortI (endMs k.g nm aw arr)).map dI)) := dv_cb (ds1 hlc) (rc_sortI (Nat.le_trans (by simp [endMs]; exact List.length_filter_le _ _) (Nat.le_trans hl (by decide))))
  generalize hns : sortI (endMs k.g nm aw arr) = ns at hsl
  refine wk_al hsl H1 (Ex.refl _) _ fun J H2 e2 jk => ?_
  refine ⟨fun i m σ H => m = ns.length - i ∧ i ≤ ns.length ∧ Ex H2 H ∧ ∃ z, σ = [some (.ref x), some (.int own), some v, some (.int ((ns.take i).foldl (endStep own pat) (own + pat))), z, none], ⟨_, rfl, Nat.zero_le _, Ex.refl _, none, rfl⟩, ?_⟩
  rintro i m σ H3 ⟨rfl, hi, e3, z, rfl⟩
  have hln : (ns.map dI).length = ns.length := by simp
  by_cases hlt : i < ns.length
  · refine .inr ⟨jk.go i H3 e3 (by rw [hln]; exact hlt), fun σ H => i + 1 ≤ ns.length ∧ Ex H2 H ∧ ∃ z, σ = [some (.ref x), some (.int own), some v, some (.int ((ns.take (i + 1)).foldl (endStep own pat) (own + pat))), z, none], fun σ' H' p' => ⟨ns.length - (i + 1), by omega, rfl, p'⟩, fun y H4 hy => ?_⟩
    obtain ⟨d, hd, e4, r4⟩ := jk.yld i H3 y H4 e3 (by rw [hln]; exact hlt) hy
    obtain ⟨mi, hmi, rfl⟩ := map_get hd
    have ev := r4.raw_inv
    subst ev
    rw [foldl_take hmi]
    generalize (ns.take i).foldl (endStep own pat) (own + pat) = la
    have e14 : Ex H1 H4 := e2.trans (e3.trans e4)
    have ho4 := ho1.mono e14
    have ht : EvT (tTest (tChain (rLtX K) (rI0 fun i j => .bl (decide (i ≤ j))) (tVar 1) (tVar 4) (tVar 3))) [some (.ref x), some (.int own), some v, some (.int la), some (.int mi), none] H4 (decide (own < mi) && decide (mi ≤ la)) := dt_test (dv_chain (dv_varV (v := .int own) (d := dI own) rfl (.raw _)) (dv_varV (v := .int mi) (d := dI mi) rfl (.raw _)) rd_ltI (fun _ => dv_varV (v := .int la) (d := dI la) rfl (.raw _)) rd_I0)
    refine ht H4 (Ex.refl _) _ fun H5 e5 => ?_
    by_cases hc : own < mi ∧ mi ≤ la
    · have hcc : (decide (own < mi) && decide (mi ≤ la)) = true := by simp [hc]
      rw [if_pos hcc]
      refine s_set (d := dI (mi + pat)) (dv_op (dv_varV (v := .int mi) (d := dI mi) rfl (.raw _)) (dv_endurance (ho4.mono e5) c rfl) rd_addI) fun v6 H6 e6 r6 => ?_
      have ev := r6.raw_inv
      subst ev
      refine ⟨hlt, (e3.trans e4).trans (e5.trans e6), some (.int mi), ?_⟩
      unfold endStep
      rw [if_pos hc]
      rfl
    · have hcc : ¬ (decide (own < mi) && decide (mi ≤ la)) = true := by simpa using hc
      rw [if_neg hcc]
      refine tnext_go ⟨hlt, (e3.trans e4).trans e5, some (.int mi), ?_⟩
      unfold endStep
      rw [if_neg hc]
      rfl
  · have ei : i = ns.length := by omega
    subst ei
    refine .inl ⟨by rw [← hln]; exact jk.stop H3 e3, ?_⟩
    refine s_retD (K := K) (d := dI (endV own pat (endMs k.g nm aw arr))) (dv_varV rfl (by rw [List.take_length, ← hns]; exact .raw _)) fun v7 H7 e7 r7 => ?_
    have ev := r7.raw_inv
    subst ev
    exact q H7 ((e1.trans e2).trans (e3.trans e7))

end
end Pa
set_option Elab.async false
set_option linter.all false
set_option maxRecDepth 100000
set_option maxHeartbeats 8000000
namespace Pa
open PySem PySem.Spec PyProof.Rows L2 Evl
section
variable {P : Program} {w : World} {K : PySem.W.Frag} {mg : Str → Option Value} {base : Heap}


theorem met_VisEnd (T : Wd K mg base) : C8.Met theP w K mg base 4 (clsA K .vis) "end" (spEnd K) [] := by
  obtain ⟨fd, F, G⟩ := fn_VisEnd (w := w) T
  exact ⟨_, fd, ["self", "own", "arrivals"], [], T.cls 87 rfl, T.meth 113 rfl, G, F.bindsN fun kV doc pm an cdv ct us hl => match us, hl with | [_, _, _], _ => rfl, .nil⟩
def spEndK (K : PySem.W.Frag) (k : Kd) : Sp := fun vs H Q _ => ∃ x nm aw, ∃ own pat : Int, ∃ arr v, vs = [.ref x, .int own, v] ∧ ObV K H x (clsA K k) nm pat aw ∧ Rp K H v (.tup (arrL arr)) ∧ arr.length ≤ 100 ∧ ∀ H', Ex H H' → Q (.int (endV own pat (endMs k.g nm aw arr))) H'
theorem sc_WaiEnd : FnScopeS ["self", "own", "arrivals"] ["self", "own", "arrivals"] c_Waiter_end.scope := ⟨rfl, rfl, rfl, by decide +kernel, rfl, by decide +kernel, by decide +kernel, by decide +kernel⟩
theorem sn_WaiEnd : SupN ["self", "own", "arrivals"] c_Waiter_end.scope c_Waiter_end.params := ⟨⟨_, rfl, rfl, by decide +kernel⟩, by decide +kernel, by decide +kernel⟩
theorem sc_GuiEnd : FnScopeS ["self", "own", "arrivals"] ["self", "own", "arrivals"] c_Guide_end.scope := ⟨rfl, rfl, rfl, by decide +kernel, rfl, by decide +kernel, by decide +kernel, by decide +kernel⟩
theorem sn_GuiEnd : SupN ["self", "own", "arrivals"] c_Guide_end.scope c_Guide_end.params := ⟨⟨_, rfl, rfl, by decide +kernel⟩, by decide +kernel, by decide +kernel⟩
theorem sup_end {k : Kd} (hk : k ≠ .hos) {H : Hp} {vs : List V} {Q : VK} {f2 : Addr} (h : spEndK K k vs H Q (fun _ _ _ => False)) : tSup (clsA K k) f2 (spEnd K) [] (tCons (tVar 1) (tCons (tVar 2) tNil)) (L2.start ["self", "own", "arrivals"] vs) H Q := by
  obtain ⟨x, nm, aw, own, pat, arr, v, rfl, ho, hv, hl, q⟩ := h
  obtain ⟨dx, fs, t, h1, _⟩ := ho.ex
  exact ⟨x, dx, fs, rfl, h1, fun p hp => ⟨_, rfl, _, rfl, upd_same, x, nm, aw, k, own, pat, arr, v, rfl, hk, ho.mono (Ex.new hp), hv.mono (Ex.new hp), hl, fun H' e => q H' ((Ex.new hp).trans e)⟩⟩
theorem met_WaiEnd (T : Wd K mg base) : C8.Met theP w K mg base 5 (clsA K .wai) "end" (spEndK K .wai) [] := by
  obtain ⟨fd2, F2, G2⟩ := fn_VisEnd (w := w) T
  obtain ⟨fd, F⟩ := T.funS 2 (d := c_Waiter_end) rfl
  have b2 : L2.Binds K fd2 ["self", "own", "arrivals"] [] := F2.bindsN fun kV doc pm an cdv ct us hl => match us, hl with | [_, _, _], _ => rfl
  refine ⟨_, fd, ["self", "own", "arrivals"], [], T.cls 89 rfl, T.meth 115 rfl, F.ok (k := 4) sc_WaiEnd (fun vs H Q E ⟨_, _, _, _, _, _, _, e, _⟩ => by rw [e]; rfl) (fun cda cc A outer s H vs Q E sf hr h => ?_), bindsS F rfl fun kV doc pm an cdv ct cc us hl => match us, hl with | [_, _, _], _ => rfl, .nil⟩
  exact sb_ret (se_sup rfl T sf sn_WaiEnd (supC_of T (by simp) (sups T).2.2.1 (T.meth 113 rfl).fn (fni_of F2)) G2 hr b2 .nil (pa_cons (pe_var (i := 1) rfl (.inl rfl)) (pa_cons (pe_var (i := 2) rfl (.inl rfl)) pa_nil)) rfl) (sup_end (k := .wai) (by simp) h)
theorem met_GuiEnd (T : Wd K mg base) : C8.Met theP w K mg base 5 (clsA K .gui) "end" (spEndK K .gui) [] := by
  obtain ⟨fd2, F2, G2⟩ := fn_VisEnd (w := w) T
  obtain ⟨fd, F⟩ := T.funS 4 (d := c_Guide_end) rfl
  have b2 : L2.Binds K fd2 ["self", "own", "arrivals"] [] := F2.bindsN fun kV doc pm an cdv ct us hl => match us, hl with | [_, _, _], _ => rfl
  refine ⟨_, fd, ["self", "own", "arrivals"], [], T.cls 91 rfl, T.meth 117 rfl, F.ok (k := 4) sc_GuiEnd (fun vs H Q E ⟨_, _, _, _, _, _, _, e, _⟩ => by rw [e]; rfl) (fun cda cc A outer s H vs Q E sf hr h => ?_), bindsS F rfl fun kV doc pm an cdv ct cc us hl => match us, hl with | [_, _, _], _ => rfl, .nil⟩
  exact sb_ret (se_sup rfl T sf sn_GuiEnd (supC_of T (by simp) (sups T).2.2.2.2.1 (T.meth 113 rfl).fn (fni_of F2)) G2 hr b2 .nil (pa_cons (pe_var (i := 1) rfl (.inl rfl)) (pa_cons (pe_var (i := 2) rfl (.inl rfl)) pa_nil)) rfl) (sup_end (k := .gui) (by simp) h)


theorem kbnD {x qual : Str} {params : Arguments} {body : List Stmt} {scope : Scope} {kws : List (Str × V)} {f : Addr} {fd : FuncData} {ps ks : List Str} {n : Nat} (F : FunD K x qual params body scope [] kws f fd) (h : ∀ (kV doc pm : Value) (an : Option Addr) (cdv ct : Value) (us ws : List Value), us.length = n → ws.length = ks.length → bindArgs (PySem.W.fnOf x qual params body scope .none kV doc pm an cdv ct) ⟨us, ks.zip ws⟩ = pure (ps.zip (us ++ ws))) : KBn K fd ps n ks (fun us ws => us ++ ws) (fun vs zs => vs ++ zs) := by
  obtain ⟨oc, od, dV, kV, doc, pm, an, cdv, ct, osl, rfl, lk, hcd, hD, hK⟩ := F.ex
  rcases hD with ⟨_, rfl⟩ | ⟨e, _⟩
  · exact kbn_of (h kV doc pm an cdv ct)
  · exact absurd rfl e
/-- Visitor.__init__, as it is called by way of super() -/
theorem fn_VI (T : Wd K mg base) : ∃ fd, FnOk theP w K mg base CX0 5 (He.ma K (He.ga K "Visitor") "__init__") fd ["self", "name", "first", "last", "patience"] (spVI K) ∧ KBn K fd ["self", "name", "first", "last", "patience"] 4 ["patience"] (fun us ws => us ++ ws) (fun vs zs => vs ++ zs) ∧ (∃ ds, Vals [.int 0] ds ∧ L2.Binds K fd ["self", "name", "first", "last", "patience"] ds) ∧ PySem.W.fnIn K (He.ma K (He.ga K "Visitor") "__init__") = true := by
  obtain ⟨fd, F, G⟩ := fn_VisInit (P := theP) (w := w) T
  have F' : FunD K d_Visitor_init.name d_Visitor_init.qual d_Visitor_init.params d_Visitor_init.body d_Visitor_init.scope [] [("patience", .int 0)] (He.fAd K d_Visitor_init.at_) fd := F
  refine ⟨fd, G, kbnD F' fun kV doc pm an cdv ct us ws l1 l2 => match us, l1, ws, l2 with | [_, _, _, _], _, [_], _ => rfl, ?_, fni_of F⟩
  exact F'.binds0 4 (by simp) rfl fun D doc pm an cdv ct us ks l1 l2 => match us, l1, ks, l2 with | [_, _, _, _], _, [_], _ => ⟨_, _, _, _, _, _, rfl, rfl, rfl⟩
theorem supI (w : World) (T : Wd K mg base) {x : String} (hx : x ∈ ["Waiter", "Guide", "Host"]) (hs : supB K x x "__init__" "Visitor" = true) : SupC K (He.ga K x) (He.ma K (He.ga K "Visitor") "__init__") "__init__" := by
  obtain ⟨fd, _, _, _, fni⟩ := fn_VI (w := w) T
  exact supC_of T hx hs (T.mkr 88 rfl).fn fni
theorem minus_new {H : Hp} {x p : Addr} {o o' : HO} (hp : H p = none) (hx : H x = some o') : Ex (minus H [x]) (minus (upd H p o) [x]) := fun c u hc => by
  have hcx : c ∉ [x] := fun hm => by rw [minus_in hm] at hc; cases hc
  rw [minus_out hcx] at hc ⊢
  have : c ≠ p := fun e => by rw [e, hp] at hc; cases hc
  rw [upd_ne this]
  exact hc
def spGI (K : PySem.W.Frag) : Sp := fun vs H Q _ => ∃ x dx nm, ∃ a b p : Int, vs = [.ref x, .str nm, .int a, .int b, .int p] ∧ H x = some (.ins (clsA K .gui) dx []) ∧ 0 ≤ a ∧ a ≤ b ∧ ∀ H', Ex (minus H [x]) H' → ObV K H' x (clsA K .gui) nm p [] → Q .non H'
theorem obv_of {H' Hm' : Hp} {x C dx t : Addr} {nm : Str} {wn : V} {p : Int} {aw : List Str} (h : H' x = some (.ins C dx (vsFs nm wn p t))) (e : Ex Hm' H') (r : Rp K Hm' (.ref t) (.tup (sD aw))) : ObV K H' x C nm p aw := ⟨dx, _, t, h, rfl, rfl, rfl, r.mono e, rfl, rfl⟩
theorem sc_GuiInit : FnScopeS ["self", "name", "first", "last", "patience"] ["self", "name", "first", "last", "patience"] c_Guide_init.scope := ⟨rfl, rfl, rfl, by decide +kernel, rfl, by decide +kernel, by decide +kernel, by decide +kernel⟩
theorem sn_GuiInit : SupN ["self", "name", "first", "last", "patience"] c_Guide_init.scope c_Guide_init.params := ⟨⟨_, rfl, rfl, by decide +kernel⟩, by decide +kernel, by decide +kernel⟩
theorem fn_GI (T : Wd K mg base) : ∃ fd, FnOk theP w K mg base CX0 6 (He.ma K (He.ga K "Guide") "__init__") fd ["self", "name", "first", "last", "patience"] (spGI K) ∧ KBn K fd ["self", "name", "first", "last", "patience"] 4 ["patience"] (fun us ws => us ++ ws) (fun vs zs => vs ++ zs) := by
  obtain ⟨fd2, G2, B2, _, _⟩ := fn_VI (w := w) T
  obtain ⟨fd, F⟩ := T.funS 3 (d := c_Guide_init) rfl
  refine ⟨fd, F.ok (k := 5) sc_GuiInit (fun vs H Q E ⟨_, _, _, _, _, _, e, _⟩ => by rw [e]; rfl) (fun cda cc A outer s H vs Q E sf hr h => ?_), kbnS F rfl fun kV doc pm an cdv ct cc us ws l1 l2 => match us, l1, ws, l2 with | [_, _, _, _], _, [_], _ => rfl⟩
  refine sb_expr (se_supK (n := 3) rfl T sf sn_GuiInit (supI w T (by simp) (sups T).2.2.2.1) G2 hr B2 (pa_cons (pe_var (i := 1) rfl (.inl rfl)) (pa_cons (pe_var (i := 2) rfl (.inl rfl)) (pa_cons (pe_var (i := 3) rfl (.inl rfl)) pa_nil))) (pk_cons (pe_var (i := 4) rfl (.inl rfl)) pk_nil) rfl) pss_nil ?_
  obtain ⟨x, dx, nm, a, b, p, rfl, hx, a0, ab, q⟩ := h
  refine ⟨x, dx, [], rfl, hx, fun pm hpm => ⟨_, rfl, _, rfl, _, rfl, _, rfl, rfl, rfl, upd_same, ?_⟩⟩
  have hne : pm ≠ x := fun e => by rw [e, hx] at hpm; cases hpm
  refine ⟨x, dx, nm, .gui, a, b, p, rfl, by rw [upd_ne hne.symm]; exact hx, a0, ab, fun H' Hm' wn t e1 e2 hn hx' rt => ?_⟩
  exact tnext_go (q H' (((minus_new hpm hx).trans e1).trans e2) (obv_of hx' e2 rt))


def spWI (K : PySem.W.Frag) : Sp := fun vs H Q _ => ∃ x dx nm v ws zs, ∃ a b p : Int, vs = [.ref x, .str nm, .int a, .int b, .int p, v] ∧ Asc zs ∧ (∀ y, y ∈ zs ↔ y ∈ ws) ∧ H x = some (.ins (clsA K .wai) dx []) ∧ 0 ≤ a ∧ a ≤ b ∧ Rp K (minus H [x]) v (.tup (sD ws)) ∧ ws.length ≤ 100 ∧ ∀ H', Ex (minus H [x]) H' → ObV K H' x (clsA K .wai) nm p zs → Q .non H'
theorem sc_WaiInit : FnScopeS ["self", "name", "first", "last", "patience", "waits", "other"] ["self", "name", "first", "last", "patience", "waits"] c_Waiter_init.scope := ⟨rfl, rfl, rfl, by decide +kernel, rfl, by decide +kernel, by decide +kernel, by decide +kernel⟩
theorem sn_WaiInit : SupN ["self", "name", "first", "last", "patience", "waits", "other"] c_Waiter_init.scope c_Waiter_init.params := ⟨⟨_, rfl, rfl, by decide +kernel⟩, by decide +kernel, by decide +kernel⟩
theorem fn_WI (T : Wd K mg base) : ∃ fd, FnOk theP w K mg base CX0 6 (He.ma K (He.ga K "Waiter") "__init__") fd ["self", "name", "first", "last", "patience", "waits"] (spWI K) ∧ KBn K fd ["self", "name", "first", "last", "patience", "waits"] 4 ["patience", "waits"] (fun us ws => us ++ ws) (fun vs zs => vs ++ zs) := by
  obtain ⟨fd2, G2, B2, _, _⟩ := fn_VI (w := w) T
  obtain ⟨fd, F⟩ := T.funS 0 (d := c_Waiter_init) rfl
  refine ⟨fd, F.ok (k := 5) sc_WaiInit (fun vs H Q E ⟨_, _, _, _, _, _, _, _, _, e, _⟩ => by rw [e]; rfl) (fun cda cc A outer s H vs Q E sf hr h => ?_), kbnS F rfl fun kV doc pm an cdv ct cc us ws l1 l2 => match us, l1, ws, l2 with | [_, _, _, _], _, [_, _], _ => rfl⟩
  refine sb_expr (se_supK (n := 3) rfl T sf sn_WaiInit (supI w T (by simp) (sups T).1) G2 hr B2 (pa_cons (pe_var (i := 1) rfl (.inl rfl)) (pa_cons (pe_var (i := 2) rfl (.inl rfl)) (pa_cons (pe_var (i := 3) rfl (.inl rfl)) pa_nil))) (pk_cons (pe_var (i := 4) rfl (.inl rfl)) pk_nil) rfl) (pss_one (ps_fld (pe_var (i := 0) rfl (.inl rfl)) (pe_callTy (z_tup (K := K) rfl) (by rfl) T.g_tuple (by decide +kernel) (pa_cons (pe_callB (z_sortSS (w := w) hr.units rfl rfl) (by rfl) T.g_sorted (by decide +kernel) (pa_cons (pe_scS (own := [("other", 6)]) (by rfl) sc_WaiInit.nd (zi_any (K := K) rfl (pe_var (i := 5) rfl (.inl rfl))) (blkOk_by (own := [("other", 6)]) (N := ["self", "name", "first", "last", "patience", "waits", "other"]) (sc := c_Waiter_init.scope) (by decide +kernel)) (fun _ _ _ _ _ => (pg_name (i := 6) sc_WaiInit.nd rfl (by first | exact Or.inl rfl | exact Or.inr rfl))) (fun _ _ _ _ _ => pts_nil) (fun _ _ _ _ _ => (pv 6))) pa_nil)) pa_nil)) rfl)) ?_
  obtain ⟨x, dx, nm, v, ws, zs, a, b, p, rfl, hz, hzm, hx, a0, ab, hv, hl, q⟩ := h
  refine ⟨x, dx, [], rfl, hx, fun pm hpm => ⟨_, rfl, _, rfl, _, rfl, _, rfl, rfl, rfl, upd_same, ?_⟩⟩
  have hne : pm ≠ x := fun e => by rw [e, hx] at hpm; cases hpm
  refine ⟨x, dx, nm, .wai, a, b, p, rfl, by rw [upd_ne hne.symm]; exact hx, a0, ab, fun H' Hm' wn t e1 e2 hn hx' rt => ?_⟩
  have ee : Ex (minus H [x]) Hm' := (minus_new hpm hx).trans e1
  have s0 : ObS K Hm' x (clsA K .wai) dx (vsFs nm wn p t) [none, some (dS nm), some (dI a), some (dI b), some (dI p), some (.tup (sD ws)), none] (L2.start ["self", "name", "first", "last", "patience", "waits", "other"] [.ref x, .str nm, .int a, .int b, .int p, v]) H' := by
    refine ⟨e2, hn, hx', ⟨rfl, fun i d hi => ?_⟩, rfl⟩
    match i, hi with
    | 1, hi => cases hi; exact ⟨_, rfl, .raw _⟩
    | 2, hi => cases hi; exact ⟨_, rfl, .raw _⟩
    | 3, hi => cases hi; exact ⟨_, rfl, .raw _⟩
    | 4, hi => cases hi; exact ⟨_, rfl, .raw _⟩
    | 5, hi => cases hi; exact ⟨_, rfl, hv.mono ee⟩
    | 6, hi => cases hi
    | i + 7, hi => cases hi
  refine ob_fld s0 (d := .tup (sD zs)) (ee_cb (es_cons (ee_sortSS (xs := ws) (es_set (j := 6) (wke_t (ee_var rfl)) (by rw [sD_len]; omega) (by simp) (by rw [sD_len]) (fun i d y hd hy => ?_)) hz hzm) es_nil) fun _ => rc_tupL) (by simp [D.tu, sD_tus]) (T.clsV .wai).c (T.clsV .wai).n4 (by simp) fun v' H2 Hm2 e3 r3 s3 => ?_
  · have : d = dS y := by
      rw [sD, List.getElem?_map, hy] at hd
      exact (Option.some.inj hd).symm
    subst this
    exact ee_var rfl
  · obtain ⟨t', xs, rfl, _, _⟩ := r3.tup_inv
    exact q H2 ((ee.trans e3).trans s3.ex) (obv_of (t := t') (wn := wn) s3.at_ s3.ex r3)

end
end Pa
set_option Elab.async false
set_option linter.all false
set_option maxRecDepth 100000
set_option maxHeartbeats 4000000
/-! t[::-1] of a tuple -/
namespace Pa
open PySem PySem.Spec PyProof.Rows L2 Evl
section
variable {prog : Program} {w : World} {A : Around} {E : Value → Shared → Prop} {s : Shared}
theorem sliceApplied_rev {sl : Addr} {vl vu vs : Value} {n : Nat} {Q : Int × Int × Nat → Shared → Prop} (hs : s.heap.IsSliceOf sl vl vu vs) (pl : IsPart vl none) (pu : IsPart vu none) (ps : IsPart vs (some (-1)))
    (h : Q ((n : Int) - 1, -1, n) s) : wpAny (model prog w) A (Builtin.Slice.sliceApplied (.ref sl) (pure (n : Int))) Q E s := by
  obtain ⟨os, hos, hcs, hds⟩ := id hs
  unfold Builtin.Slice.sliceApplied Builtin.Slice.sliceFields
  refine wpAny_bind (wpAny_bind (wpAny_field hos hds (x := vl) rfl (wpAny_bind (wpAny_field hos hds (x := vu) rfl (wpAny_bind (wpAny_field hos hds (x := vs) rfl (wpAny_pure ?_)))))))
  refine wpAny_bind (HT.slicePart_ ps ?_)
  show wpAny _ _ (if ((-1 : Int) == 0) = true then _ else _) _ _ s
  rw [if_neg (by decide)]
  refine wpAny_bind (HT.slicePart_ pl (wpAny_bind (HT.slicePart_ pu (wpAny_bind (wpAny_pure ?_)))))
  have e : Builtin.Slice.sliceAdjust none none (-1) (n : Int) = ((n : Int) - 1, -1) := rfl
  show wpAny _ _ (match Builtin.Slice.sliceAdjust none none (-1) (n : Int) with | (lo, hi) => pure (lo, (-1 : Int), Builtin.Slice.slicePlaces lo hi (-1))) _ _ s
  rw [e]
  have e2 : Builtin.Slice.slicePlaces ((n : Int) - 1) (-1) (-1) = n := by
    unfold Builtin.Slice.slicePlaces
    have h1 : ¬ (-1 : Int) > 0 := by decide
    simp only [h1, if_false, Int.neg_neg, Int.ediv_one]
    split <;> omega
  show wpAny _ _ (pure ((n : Int) - 1, (-1 : Int), Builtin.Slice.slicePlaces ((n : Int) - 1) (-1) (-1))) _ _ s
  rw [e2]
  exact wpAny_pure h
theorem fm_congr {α β : Type} {f g : α → Option β} : ∀ {l : List α}, (∀ x ∈ l, f x = g x) → l.filterMap f = l.filterMap g
  | [], _ => rfl
  | x :: l, h => by
    rw [List.filterMap_cons, List.filterMap_cons, h x List.mem_cons_self, fm_congr fun y hy => h y (List.mem_cons_of_mem _ hy)]
theorem pick_rev (xs : Array Value) : ((List.range xs.size).filterMap fun (k : Nat) => xs[((xs.size : Int) - 1 + (k : Int) * (-1)).toNat]?).toArray = xs.toList.reverse.toArray := by
  congr 1
  have e : (List.range xs.size).filterMap (fun (k : Nat) => xs[((xs.size : Int) - 1 + (k : Int) * (-1)).toNat]?) = ((List.range xs.size).map fun k => xs.size - 1 - k).filterMap (xs[·]?) := by
    rw [List.filterMap_map]
    refine fm_congr fun k hk => ?_
    have hk' := List.mem_range.mp hk
    have : ((xs.size : Int) - 1 + (k : Int) * (-1)).toNat = xs.size - 1 - k := by omega
    rw [this]
    rfl
  rw [e, PySem.W.krv_range, List.filterMap_reverse, PySem.W.krv_all]
theorem getItem_tuple_rev {t sl : Addr} {items : Array Value} {vl vu vs : Value} {Q : Value → Shared → Prop} (ht : IsTup s.heap t items) (hs : s.heap.IsSliceOf sl vl vu vs) (pl : IsPart vl none) (pu : IsPart vu none) (ps : IsPart vs (some (-1)))
    (h : Q (.ref s.heap.objs.size) { s with heap := s.heap.push { cls := .type "tuple", data := .seq items.toList.reverse.toArray } }) (hsz : items.size ≤ sizeLine) : wpAny (model prog w) A (getItem (.ref t) (.ref sl)) Q E s := by
  have htake : sizeOk (.seq items.toList.reverse.toArray) := by
    show items.toList.reverse.toArray.size ≤ sizeLine
    rw [List.size_toArray, List.length_reverse, Array.length_toList]
    exact hsz
  obtain ⟨os, hos, hcs, hds⟩ := id hs
  have hTs : s.TypeIs (.ref sl) "slice" := ⟨os, hos, hcs⟩
  unfold getItem
  try with_reducible refine wpAny_holding ?_
  first | refine wpAny_bind (wpAny_pure ?_) | skip
  refine wpAny_bind (wpAny_sequenceKey ht.typeIs (by decide) ?_)
  refine wpAny_bind (wpAny_callSpecial?_slot (name := Str.ofString "__getitem__") ht.typeIs PyProof.Rows.slot_tuple_getitem
    (wpAny_call_entry PyProof.Rows.slot_tuple_getitem ht.typeIs entry_tuple_getitem ?_ (args_tuple_getitem _ _)))
  show wpAny _ _ (Builtin.Tuple.tupleItemsOf (.ref t) >>= _) _ _ s
  refine wpAny_bind (tupleItemsOf_ ht ?_)
  refine wpAny_bind (wpAny_typeOf hTs ?_)
  rw [if_pos (by decide)]
  refine wpAny_bind (sliceApplied_rev hs pl pu ps ?_)
  have hno : ¬ ((((items.size : Int) - 1) == 0 && (-1 : Int) == 1 && items.size == items.size) = true) := by simp
  show wpAny _ _ (if (((items.size : Int) - 1) == 0 && (-1 : Int) == 1 && items.size == items.size) = true then _ else _) _ _ s
  rw [if_neg hno, pick_rev]
  first
    | exact wpAny_bind (m := Builtin.Tuple.tupleExact _) (wpAny_newObj_type (wpAny_pure ⟨_, rfl, wpAny_pure h⟩) htake)
    | exact wpAny_bind (m := Builtin.Tuple.tupleExact _) (wpAny_newObj_type (wpAny_bind (wpAny_pure (wpAny_pure ⟨_, rfl, wpAny_pure h⟩))) htake)
    | exact wpAny_bind (wpAny_bind (m := Builtin.Tuple.tupleExact _) (wpAny_newObj_type (wpAny_pure (wpAny_pure ⟨_, rfl, wpAny_pure h⟩)) htake))
    | exact wpAny_bind (wpAny_bind (m := Builtin.Tuple.tupleExact _) (wpAny_newObj_type (wpAny_pure ⟨_, rfl, wpAny_pure h⟩) htake))
end
def tRevT (K : PySem.W.Frag) (te : TE) : TE := fun σ H Q => te σ H fun x H1 => ∃ a xs, x = .ref a ∧ SqT K H1 a xs ∧ ∀ p, H1 p = none → Q (.ref p) (upd H1 p (.tup xs.reverse))
theorem pe_revT {X : Cx} {e : Expr} {te : TE} {k : Nat} {p1 p2 p3 pos : Pos} (he : PE X e te) : PE X (.Subscript e (.Slice none none (some (.UnaryOp .USub (.Constant (.int 1) k p1) p2)) p3) pos) (tRevT X.K te) := by
  refine ⟨fun pins s σ H Q I h => ?_⟩
  refine Subscript_ (thn (he.run pins s σ H _ I h) fun v s1 ⟨x, H1, I1, r1, q1⟩ => ?_)
  obtain ⟨a, xs, ex, hx, q⟩ := q1
  subst ex
  cases r1
  have hst : PO X (some (.UnaryOp .USub (.Constant (.int 1) k p1) p2)) (tPart (tUn (rU fun i => .int (-i)) (tC (.int 1)))) := po_some (pe_un un_neg pe_int)
  refine wpAny_Slice (thn (po_none.run pins s1 σ H1 (fun o H2 => o = none ∧ H2 = H1) I1 ⟨rfl, rfl⟩) fun vl s2 ⟨l, H2, I2, pl, el, e2⟩ => ?_)
  subst el e2
  refine thn (po_none.run pins s2 σ H2 (fun o H3 => o = none ∧ H3 = H2) I2 ⟨rfl, rfl⟩) fun vu s3 ⟨u, H3, I3, pu, eu, e3⟩ => ?_
  subst eu e3
  refine thn (hst.run pins s3 σ H3 (fun o H4 => o = some (-1) ∧ H4 = H3) I3 ⟨1, rfl, -1, rfl, rfl, rfl⟩) fun vs s4 ⟨o, H4, I4, ps, eo, e4⟩ => ?_
  subst eo e4
  have I5 : Inv X pins σ H4 { s4 with heap := s4.heap.push { cls := .type "slice", data := .fields #[vl, vu, vs] } } := I4.kept (t' := s4.toks) fun b ob q => Heap.get?_push_of_some _ q
  obtain ⟨its, r, ht, hz⟩ := I5.tuple hx
  have hlen := r.length
  show wpAny (model X.prog X.w) X.A (subscriptTail e (.Slice none none (some (.UnaryOp .USub (.Constant (.int 1) k p1) p2)) p3) (.ref a) (.ref s4.heap.objs.size)) (EP X pins σ Q) X.xe { s4 with heap := s4.heap.push { cls := .type "slice", data := .fields #[vl, vu, vs] } }
  refine tail_any (ops := [.ref a, .ref s4.heap.objs.size]) ht.typeIs PyProof.Rows.slot_tuple_getitem.lookup ?_ (by with_unfolding_all rfl)
  refine getItem_tuple_rev ht (Heap.IsSliceOf.new _ vl vu vs) pl pu ps ?_ (by rw [List.size_toArray, ← hlen]; exact hz)
  refine ⟨.ref _, _, I5.laid (t' := s4.toks) (o := .tup xs.reverse) (fun b ob q => Heap.get?_push_of_some _ q) (Nat.le_refl _) ?_, rfl, q _ (I5.hok.fresh (Nat.le_refl _))⟩
  refine ⟨by rw [List.length_reverse, hlen]; rw [← hlen]; exact hz, its.reverse, r.reverse, ?_⟩
  have e : its.toArray.toList.reverse.toArray = its.reverse.toArray := by simp
  rw [← e]
  exact ⟨_, Heap.get?_push_size _ rfl, rfl, 0, rfl⟩
end Pa
set_option Elab.async false
set_option linter.all false
set_option maxRecDepth 100000
set_option maxHeartbeats 8000000
namespace Pa
open PySem PySem.Spec PyProof.Rows L2 Evl
section
variable {P : Program} {w : World} {K : PySem.W.Frag} {mg : Str → Option Value} {base : Heap}


def spHI (K : PySem.W.Frag) : Sp := fun vs H Q _ => ∃ x dx nm, ∃ a b cl : Int, vs = [.ref x, .str nm, .int a, .int b, .int cl] ∧ H x = some (.ins (clsA K .hos) dx []) ∧ 0 ≤ a ∧ a ≤ b ∧ b ≤ cl ∧ ∀ H' fs, Ex (minus H [x]) H' → H' x = some (.ins (clsA K .hos) dx fs) → fs.lookup ("leaving" : Str) = some (.int cl) → fs.lookup ("end" : Str) = none → Q .non H'
theorem sc_HosInit : FnScopeS ["self", "name", "first", "last", "closing"] ["self", "name", "first", "last", "closing"] c_Host_init.scope := ⟨rfl, rfl, rfl, by decide +kernel, rfl, by decide +kernel, by decide +kernel, by decide +kernel⟩
theorem sn_HosInit : SupN ["self", "name", "first", "last", "closing"] c_Host_init.scope c_Host_init.params := ⟨⟨_, rfl, rfl, by decide +kernel⟩, by decide +kernel, by decide +kernel⟩
theorem fn_HI (T : Wd K mg base) : ∃ fd, FnOk theP w K mg base CX0 6 (He.ma K (He.ga K "Host") "__init__") fd ["self", "name", "first", "last", "closing"] (spHI K) ∧ KBn K fd ["self", "name", "first", "last", "closing"] 4 ["closing"] (fun us ws => us ++ ws) (fun vs zs => vs ++ zs) := by
  obtain ⟨fd2, G2, _, ⟨dsv, dvv, B2⟩, _⟩ := fn_VI (w := w) T
  obtain ⟨fd, F⟩ := T.funS 5 (d := c_Host_init) rfl
  refine ⟨fd, F.ok (k := 5) sc_HosInit (fun vs H Q E ⟨_, _, _, _, _, _, e, _⟩ => by rw [e]; rfl) (fun cda cc A outer s H vs Q E sf hr h => ?_), kbnS F rfl fun kV doc pm an cdv ct cc us ws l1 l2 => match us, l1, ws, l2 with | [_, _, _, _], _, [_], _ => rfl⟩
  refine sb_expr (se_sup rfl T sf sn_HosInit (supI w T (by simp) (sups T).2.2.2.2.2) G2 hr B2 dvv (pa_cons (pe_var (i := 1) rfl (.inl rfl)) (pa_cons (pe_var (i := 2) rfl (.inl rfl)) (pa_cons (pe_var (i := 3) rfl (.inl rfl)) pa_nil))) rfl) (pss_cons (ps_if (pt_cmpR (z_lt (K := K) hr.units rfl) (pe_var (i := 4) rfl (.inl rfl)) (pe_var (i := 3) rfl (.inl rfl)) (nomark _)) (pss_one ps_never) pss_nil) (pss_one (ps_fld (pe_var (i := 0) rfl (.inl rfl)) (pe_var (i := 4) rfl (.inl rfl)) rfl))) ?_
  obtain ⟨x, dx, nm, a, b, cl, rfl, hx, a0, ab, bc, q⟩ := h
  refine ⟨x, dx, [], rfl, hx, fun pm hpm => ⟨_, rfl, _, rfl, _, rfl, upd_same, ?_⟩⟩
  have hne : pm ≠ x := fun e => by rw [e, hx] at hpm; cases hpm
  refine ⟨x, dx, nm, .hos, a, b, 0, rfl, by rw [upd_ne hne.symm]; exact hx, a0, ab, fun H' Hm' wn t e1 e2 hn hx' rt => ?_⟩
  have ee : Ex (minus H [x]) Hm' := (minus_new hpm hx).trans e1
  have s0 : ObS K Hm' x (clsA K .hos) dx (vsFs nm wn 0 t) [none, some (dS nm), some (dI a), some (dI b), some (dI cl)] (L2.start ["self", "name", "first", "last", "closing"] [.ref x, .str nm, .int a, .int b, .int cl]) H' := by
    refine ⟨e2, hn, hx', ⟨rfl, fun i d hi => ?_⟩, rfl⟩
    match i, hi with
    | 1, hi => cases hi; exact ⟨_, rfl, .raw _⟩
    | 2, hi => cases hi; exact ⟨_, rfl, .raw _⟩
    | 3, hi => cases hi; exact ⟨_, rfl, .raw _⟩
    | 4, hi => cases hi; exact ⟨_, rfl, .raw _⟩
  refine tseq_go ?_
  have ht : EvTE K (tTest (tOp (rLtX K) (tVar 4) (tVar 3))) [none, some (dS nm), some (dI a), some (dI b), some (dI cl)] false := te_is (te_test (ee_op (ee_var rfl) (ee_var rfl) fun _ => rd_ltI)) (by simp; omega)
  refine ht _ Hm' s0.env H' e2 _ fun H2 e3 => ?_
  refine tnext_go ?_
  obtain ⟨s2, ex2⟩ := s0.grow e3
  refine ob_fld s2 (d := dI cl) (ee_var rfl) rfl (T.clsV .hos).c (T.noat 111 rfl) (by simp) fun v' H3 Hm3 e4 r4 s4 => ?_
  have ev := r4.raw_inv
  subst ev
  exact q H3 _ ((ee.trans ex2).trans (e4.trans s4.ex)) s4.at_ rfl rfl

theorem pe_mkHost {X : Cx} {w : World} {K : PySem.W.Frag} {mg : Str → Option Value} {base : Heap} {j : Nat} {p pos : Pos} {e : Expr} {es : List Expr} {kws : List Keyword} {t tk : TA} (T : Wd K mg base) (hr : Room j X.A) (hj : 7 ≤ j) (hg : Gl X "Host") (ha : PA X (e :: es) t) (hkw : PK X kws tk)
    (h1 : X.prog = theP := by rfl) (h2 : X.w = w := by rfl) (h3 : X.K = K := by rfl) (h4 : X.mg = mg := by rfl) (h5 : X.base = base := by rfl)
    (hall : (backToKw pos (keywordEach kws X.env)).all (·.1.isSome) = true := by rfl) (hks : (backToKw pos (keywordEach kws X.env)).filterMap (·.1) = [("closing" : Str)] := by rfl)
    (he : starEach (e :: es) X.env = (false, eval e X.env) :: starEach es X.env := by rfl) (hpl : ((backTo pos (starEach (e :: es) X.env)).any (·.1) || (backToKw pos (keywordEach kws X.env)).any (·.1.isNone)) = false := by rfl) :
    PE X (.Call (.Name "Host" p) (e :: es) kws pos) (tMakeK (clsA K .hos) 3 1 (spHI K) (fun vs zs => vs ++ zs) (fun _ _ _ => False) t tk) := by
  subst h2 h3 h4 h5
  obtain ⟨fd, G, B⟩ := fn_HI (w := X.w) T
  exact pe_makeK (n := 3) (T.mkr 94 rfl) (by rw [h1]; exact G) (hr.mono hj) hg (T.glo 62 rfl) B pass0 ha hkw hall hks (by decide) he hpl

theorem pe_mkGuide {X : Cx} {w : World} {K : PySem.W.Frag} {mg : Str → Option Value} {base : Heap} {j : Nat} {p pos : Pos} {e : Expr} {es : List Expr} {kws : List Keyword} {t tk : TA} (T : Wd K mg base) (hr : Room j X.A) (hj : 7 ≤ j) (hg : Gl X "Guide") (ha : PA X (e :: es) t) (hkw : PK X kws tk)
    (h1 : X.prog = theP := by rfl) (h2 : X.w = w := by rfl) (h3 : X.K = K := by rfl) (h4 : X.mg = mg := by rfl) (h5 : X.base = base := by rfl)
    (hall : (backToKw pos (keywordEach kws X.env)).all (·.1.isSome) = true := by rfl) (hks : (backToKw pos (keywordEach kws X.env)).filterMap (·.1) = [("patience" : Str)] := by rfl)
    (he : starEach (e :: es) X.env = (false, eval e X.env) :: starEach es X.env := by rfl) (hpl : ((backTo pos (starEach (e :: es) X.env)).any (·.1) || (backToKw pos (keywordEach kws X.env)).any (·.1.isNone)) = false := by rfl) :
    PE X (.Call (.Name "Guide" p) (e :: es) kws pos) (tMakeK (clsA K .gui) 3 1 (spGI K) (fun vs zs => vs ++ zs) (fun _ _ _ => False) t tk) := by
  subst h2 h3 h4 h5
  obtain ⟨fd, G, B⟩ := fn_GI (w := X.w) T
  exact pe_makeK (n := 3) (T.mkr 92 rfl) (by rw [h1]; exact G) (hr.mono hj) hg (T.glo 61 rfl) B pass0 ha hkw hall hks (by decide) he hpl

theorem pe_mkWaiter {X : Cx} {w : World} {K : PySem.W.Frag} {mg : Str → Option Value} {base : Heap} {j : Nat} {p pos : Pos} {e : Expr} {es : List Expr} {kws : List Keyword} {t tk : TA} (T : Wd K mg base) (hr : Room j X.A) (hj : 7 ≤ j) (hg : Gl X "Waiter") (ha : PA X (e :: es) t) (hkw : PK X kws tk)
    (h1 : X.prog = theP := by rfl) (h2 : X.w = w := by rfl) (h3 : X.K = K := by rfl) (h4 : X.mg = mg := by rfl) (h5 : X.base = base := by rfl)
    (hall : (backToKw pos (keywordEach kws X.env)).all (·.1.isSome) = true := by rfl) (hks : (backToKw pos (keywordEach kws X.env)).filterMap (·.1) = [("patience" : Str), "waits"] := by rfl)
    (he : starEach (e :: es) X.env = (false, eval e X.env) :: starEach es X.env := by rfl) (hpl : ((backTo pos (starEach (e :: es) X.env)).any (·.1) || (backToKw pos (keywordEach kws X.env)).any (·.1.isNone)) = false := by rfl) :
    PE X (.Call (.Name "Waiter" p) (e :: es) kws pos) (tMakeK (clsA K .wai) 3 2 (spWI K) (fun vs zs => vs ++ zs) (fun _ _ _ => False) t tk) := by
  subst h2 h3 h4 h5
  obtain ⟨fd, G, B⟩ := fn_WI (w := X.w) T
  exact pe_makeK (n := 3) (T.mkr 90 rfl) (by rw [h1]; exact G) (hr.mono hj) hg (T.glo 60 rfl) B pass0 ha hkw hall hks (by decide) he hpl

theorem pe_mkVisitor {X : Cx} {w : World} {K : PySem.W.Frag} {mg : Str → Option Value} {base : Heap} {j : Nat} {p pos : Pos} {e : Expr} {es : List Expr} {kws : List Keyword} {t tk : TA} (T : Wd K mg base) (hr : Room j X.A) (hj : 6 ≤ j) (hg : Gl X "Visitor") (ha : PA X (e :: es) t) (hkw : PK X kws tk)
    (h1 : X.prog = theP := by rfl) (h2 : X.w = w := by rfl) (h3 : X.K = K := by rfl) (h4 : X.mg = mg := by rfl) (h5 : X.base = base := by rfl)
    (hall : (backToKw pos (keywordEach kws X.env)).all (·.1.isSome) = true := by rfl) (hks : (backToKw pos (keywordEach kws X.env)).filterMap (·.1) = [("patience" : Str)] := by rfl)
    (he : starEach (e :: es) X.env = (false, eval e X.env) :: starEach es X.env := by rfl) (hpl : ((backTo pos (starEach (e :: es) X.env)).any (·.1) || (backToKw pos (keywordEach kws X.env)).any (·.1.isNone)) = false := by rfl) :
    PE X (.Call (.Name "Visitor" p) (e :: es) kws pos) (tMakeK (clsA K .vis) 3 1 (spVI K) (fun vs zs => vs ++ zs) (fun _ _ _ => False) t tk) := by
  subst h2 h3 h4 h5
  obtain ⟨fd, G, B, _, _⟩ := fn_VI (w := X.w) T
  exact pe_makeK (n := 3) (T.mkr 88 rfl) (by rw [h1]; exact G) (hr.mono hj) hg (T.glo 59 rfl) B pass0 ha hkw hall hks (by decide) he hpl


def kOf (x : Str) : Kd := if x = "host" then .hos else if x = "guide" then .gui else if x = "waiter" then .wai else .vis
def awOf (r : Row) : List Str := if r.kind = "waiter" then r.waits else []
/-- what is made of a row -/
def Made (K : PySem.W.Frag) (H : Hp) (o : Addr) (r : Row) (cl : Int) : Prop := if r.kind = "host" then ∃ dx fs, H o = some (.ins (clsA K .hos) dx fs) ∧ fs.lookup ("leaving" : Str) = some (.int cl) ∧ fs.lookup ("end" : Str) = none else ObV K H o (clsA K (kOf r.kind)) r.nm r.pat (awOf r)
def spMade (K : PySem.W.Frag) : Sp := fun vs H Q _ => ∃ v, ∃ r : Row, ∃ cl : Int, vs = [v, .int cl] ∧ Rp K H v r.d ∧ 0 ≤ r.fst ∧ r.fst ≤ r.lst ∧ r.lst ≤ cl ∧ Asc r.waits ∧ r.waits.length ≤ 50 ∧ ∀ o H', Ex H H' → Made K H' o r cl → Q (.ref o) H'
theorem Rps.rev {H : Hp} : ∀ {xs : List V} {ds : List D}, Rps K H xs ds → Rps K H xs.reverse ds.reverse
  | _, _, .nil => .nil
  | _, _, .cons h t => by
    rw [List.reverse_cons, List.reverse_cons]
    exact (Rps.rev t).snoc h
theorem ex_into {H2 : Hp} {x dx : Addr} {o1 o2 : HO} (hx : H2 x = none) (hdx : H2 dx = none) : Ex H2 (minus (upd (upd H2 dx o1) x o2) [x]) := fun c o hc => by
  have h1 : c ≠ x := fun e => by rw [e, hx] at hc; cases hc
  have h2 : c ≠ dx := fun e => by rw [e, hdx] at hc; cases hc
  rw [minus_out (by simpa using h1), upd_ne h1, upd_ne h2]
  exact hc
theorem ex_made {H2 H' : Hp} {x dx : Addr} {o1 o2 : HO} (hx : H2 x = none) (hdx : H2 dx = none) (e' : Ex (minus (upd (upd H2 dx o1) x o2) [x]) H') : Ex H2 H' := (ex_into hx hdx).trans e'
theorem row_vals {H : Hp} {xs : List V} {r : Row} (h : Rps K H xs [dS r.nm, dI r.fst, dI r.lst, dS r.kind, dI r.pat, .tup (sD r.waits)]) : ∃ y, xs = [.str r.nm, .int r.fst, .int r.lst, .str r.kind, .int r.pat, y] ∧ Rp K H y (.tup (sD r.waits)) := by
  cases h with
  | cons h1 h =>
    cases h with
    | cons h2 h =>
      cases h with
      | cons h3 h =>
        cases h with
        | cons h4 h =>
          cases h with
          | cons h5 h =>
            cases h with
            | cons h6 h =>
              cases h
              have a1 := h1.raw_inv
              have a2 := h2.raw_inv
              have a3 := h3.raw_inv
              have a4 := h4.raw_inv
              have a5 := h5.raw_inv
              subst a1 a2 a3 a4 a5
              exact ⟨_, rfl, h6⟩
theorem dv_revT {σ : L2.St} {H : Hp} {te : TE} {ds : List D} (h : EvD K te σ H (.tup ds)) : EvD K (tRevT K te) σ H (.tup ds.reverse) := fun H1 e Q q => h H1 e _ fun v H2 e2 r => by
  obtain ⟨a, xs, rfl, hs, rr⟩ := r.tup_inv
  exact ⟨a, xs, rfl, hs, fun p hp => q _ _ (e2.trans (Ex.new hp)) (.tup (SqT.of upd_same) ((Rps.rev rr).mono (Ex.new hp)))⟩

theorem sc__law_made : FnScope ["_law_entry", "_law_close", "_law_one", "_law_start", "_law_stop", "_law_kind", "_law_holds", "_law_some"] ["_law_entry", "_law_close"] d__law_made.scope := ⟨rfl, rfl, rfl, by decide +kernel, rfl, by decide +kernel, by decide +kernel⟩
theorem ok__law_made (T : Wd K mg base) : C8.Cal theP w K mg base (7 + 1) "_law_made" (spMade K) [] := by
  refine cal_of T 53 69 (d := d__law_made) rfl rfl rfl rfl rfl sc__law_made (fun vs H Q E ⟨_, _, _, e, _⟩ => by rw [e]; rfl) (fun _ _ _ _ _ _ us hl => match us, hl with | [_, _], _ => rfl) fun cdv A outer s H vs Q E hr h => ?_
  refine ⟨_, (pss_cons (ps_asg (pv 0) (zg_tup (K := K) (n := 6) rfl rfl (pgs_cons (pg_name (i := 2) sc__law_made.nd rfl (by first | exact Or.inl rfl | exact Or.inr rfl)) (pgs_cons (pg_name (i := 3) sc__law_made.nd rfl (by first | exact Or.inl rfl | exact Or.inr rfl)) (pgs_cons (pg_name (i := 4) sc__law_made.nd rfl (by first | exact Or.inl rfl | exact Or.inr rfl)) (pgs_cons (pg_name (i := 5) sc__law_made.nd rfl (by first | exact Or.inl rfl | exact Or.inr rfl)) (pgs_cons (pg_name (i := 6) sc__law_made.nd rfl (by first | exact Or.inl rfl | exact Or.inr rfl)) (pgs_cons (pg_name (i := 7) sc__law_made.nd rfl (by first | exact Or.inl rfl | exact Or.inr rfl)) pgs_nil))))))))
    (pss_cons (ps_if (pt_cmpR (z_eq (K := K) hr.units rfl) (pv 5) pe_str (nomark _)) (pss_one (ps_ret (pe_mkHost T hr (by decide) rfl (pa_cons (pv 2) (pa_cons (pv 3) (pa_cons (pv 4) pa_nil))) (pk_cons (pv 1) pk_nil)))) pss_nil)
    (pss_cons (ps_if (pt_cmpR (z_eq (K := K) hr.units rfl) (pv 5) pe_str (nomark _)) (pss_one (ps_ret (pe_mkGuide T hr (by decide) rfl (pa_cons (pv 2) (pa_cons (pv 3) (pa_cons (pv 4) pa_nil))) (pk_cons (pv 6) pk_nil)))) pss_nil)
    (pss_cons (ps_if (pt_cmpR (z_eq (K := K) hr.units rfl) (pv 5) pe_str (nomark _)) (pss_one (ps_ret (pe_mkWaiter T hr (by decide) rfl (pa_cons (pv 2) (pa_cons (pv 3) (pa_cons (pv 4) pa_nil))) (pk_cons (pv 6) (pk_cons (pe_op (z_add (K := K) rfl) (pe_revT (pv 7)) (pe_slice (z_sl (K := K) rfl) (pv 7) po_none (po_some pe_int))) pk_nil))))) pss_nil)
    (pss_one (ps_ret (pe_mkVisitor T hr (by decide) rfl (pa_cons (pv 2) (pa_cons (pv 3) (pa_cons (pv 4) pa_nil))) (pk_cons (pv 6) pk_nil)))))))), ?_⟩
  obtain ⟨v, r, cl, rfl, rv, f0, fl, lc, wa, wl, q⟩ := h
  refine q_un (n := 6) (is := [2, 3, 4, 5, 6, 7]) (dv_varV rfl rv) rfl rfl fun ws H1 e1 rw1 => ?_
  obtain ⟨y, rfl, ry⟩ := row_vals rw1
  have e12 : ∀ (k : Str), EvT (tTest (tOp (rEqX K) (tVar 5) (tC (.str k)))) [some v, some (.int cl), some (.str r.nm), some (.int r.fst), some (.int r.lst), some (.str r.kind), some (.int r.pat), some y] H1 (decide (V.str r.kind = V.str k)) := fun k => dt_test (dv_op (dv_varV (v := .str r.kind) (d := dS r.kind) rfl (.raw _)) dv_c (rd_eqX rfl))
  have kne : ∀ {k : Str}, ¬ r.kind = k → ¬ (decide (V.str r.kind = V.str k)) = true := fun {k} h => by simpa using h
  refine tseq_go ?_
  refine e12 "host" H1 (Ex.refl _) _ fun H2 e2 => ?_
  by_cases h1 : r.kind = "host"
  · rw [if_pos (by rw [h1]; simp)]
    refine ⟨_, rfl, _, rfl, _, rfl, _, rfl, rfl, rfl, fun x dx hx hdx hne => ?_⟩
    refine ⟨x, dx, r.nm, r.fst, r.lst, cl, rfl, upd_same, f0, fl, lc, fun H' fs e' hx' g1 g2 => ⟨rfl, q x H' ((e1.trans e2).trans (ex_made hx hdx e')) ?_⟩⟩
    unfold Made
    rw [if_pos h1]
    exact ⟨dx, fs, hx', g1, g2⟩
  rw [if_neg (kne h1)]
  refine tnext_go ?_
  refine tseq_go ?_
  refine e12 "guide" H2 e2 _ fun H3 e3 => ?_
  have e13 := e2.trans e3
  by_cases h2 : r.kind = "guide"
  · rw [if_pos (by rw [h2]; simp)]
    refine ⟨_, rfl, _, rfl, _, rfl, _, rfl, rfl, rfl, fun x dx hx hdx hne => ?_⟩
    refine ⟨x, dx, r.nm, r.fst, r.lst, r.pat, rfl, upd_same, f0, fl, fun H' e' ho => ⟨rfl, q x H' ((e1.trans e13).trans (ex_made hx hdx e')) ?_⟩⟩
    unfold Made kOf awOf
    rw [if_neg h1, if_neg h1, if_pos h2, if_neg (by rw [h2]; decide)]
    exact ho
  rw [if_neg (kne h2)]
  refine tnext_go ?_
  refine tseq_go ?_
  refine e12 "waiter" H3 e13 _ fun H4 e4 => ?_
  have e14 := e13.trans e4
  by_cases h3 : r.kind = "waiter"
  · rw [if_pos (by rw [h3]; simp)]
    have hkw : EvD K (tOp (rAddX K) (tRevT K (tVar 7)) (tSl (rSlX K) (tVar 7) tNoPart (tPart (tC (.int 1))))) [some v, some (.int cl), some (.str r.nm), some (.int r.fst), some (.int r.lst), some (.str r.kind), some (.int r.pat), some y] H1 (.tup (sD (r.waits.reverse ++ r.waits.take 1))) := by
      refine dv_is (dv_op (dv_revT (dv_varV rfl ry)) (dv_slT (lo := none) (hi := some 1) (dv_varV rfl ry) (fun H1 _ Q q => q H1 (Ex.refl _)) (fun H1 _ Q q => ⟨1, rfl, q H1 (Ex.refl _)⟩)) (rd_addT ?_)) ?_
      · have h9 : (cutD (sD r.waits) none (some 1)).length ≤ (sD r.waits).length := by
          unfold cutD
          rw [List.length_take, List.length_drop]
          omega
        rw [List.length_reverse]
        simp only [sD_len] at h9 ⊢
        omega
      · have h8 : cutD (sD r.waits) none (some 1) = sD (r.waits.take 1) := by
          cases r.waits with
          | nil => rfl
          | cons w1 ws => rfl
        rw [h8]
        simp [sD]
    refine ⟨_, rfl, _, rfl, _, rfl, _, rfl, hkw H4 e14 _ fun y2 H5 e5 ry2 => ⟨rfl, rfl, fun x dx hx hdx hne => ?_⟩⟩
    refine ⟨x, dx, r.nm, y2, r.waits.reverse ++ r.waits.take 1, r.waits, r.fst, r.lst, r.pat, rfl, wa, fun z => ?_, upd_same, f0, fl, ry2.mono (ex_into hx hdx), ?_, fun H' e' ho => ⟨rfl, q x H' (((e1.trans e14).trans e5).trans (ex_made hx hdx e')) ?_⟩⟩
    · simp only [List.mem_append, List.mem_reverse]
      exact ⟨.inl, fun h => h.elim id fun h => List.mem_of_mem_take h⟩
    · rw [List.length_append, List.length_reverse, List.length_take]
      omega
    · unfold Made kOf awOf
      rw [if_neg h1, if_neg h1, if_neg h2, if_pos h3, if_pos h3]
      exact ho
  rw [if_neg (kne h3)]
  refine tnext_go ?_
  refine ⟨_, rfl, _, rfl, _, rfl, _, rfl, rfl, rfl, fun x dx hx hdx hne => ?_⟩
  refine ⟨x, dx, r.nm, .vis, r.fst, r.lst, r.pat, rfl, upd_same, f0, fl, fun H' Hm' wn t ea eb hn hx' rt => ⟨rfl, q x H' ((e1.trans e14).trans (ex_made hx hdx (ea.trans eb))) ?_⟩⟩
  unfold Made kOf awOf
  rw [if_neg h1, if_neg h1, if_neg h2, if_neg h3, if_neg h3]
  exact obv_of hx' eb rt

end
end Pa
set_option Elab.async false
set_option linter.all false
set_option maxRecDepth 100000
set_option maxHeartbeats 8000000
namespace Pa
open PySem PySem.Spec PyProof.Rows L2 Evl
section
variable {P : Program} {w : World} {K : PySem.W.Frag} {mg : Str → Option Value} {base : Heap}


def tEnd4 (K : PySem.W.Frag) (ta : TE) (t : TA) : TE := fun σ H Q => tMeth (clsA K .vis) "end" (spEnd K) [] (fun _ _ _ => False) ta t σ H Q ∨ tMeth (clsA K .wai) "end" (spEndK K .wai) [] (fun _ _ _ => False) ta t σ H Q ∨ tMeth (clsA K .gui) "end" (spEndK K .gui) [] (fun _ _ _ => False) ta t σ H Q ∨ tMeth (clsA K .hos) "end" (spHE K) [] (fun _ _ _ => False) ta t σ H Q
theorem pe_end4 {X : Cx} {e : Expr} {K : PySem.W.Frag} {ta : TE} {t : TA} (h1 : PE X e (tMeth (clsA K .vis) "end" (spEnd K) [] (fun _ _ _ => False) ta t)) (h2 : PE X e (tMeth (clsA K .wai) "end" (spEndK K .wai) [] (fun _ _ _ => False) ta t)) (h3 : PE X e (tMeth (clsA K .gui) "end" (spEndK K .gui) [] (fun _ _ _ => False) ta t)) (h4 : PE X e (tMeth (clsA K .hos) "end" (spHE K) [] (fun _ _ _ => False) ta t)) : PE X e (tEnd4 K ta t) :=
  ⟨fun pins s σ H Q I h => by
    rcases h with h | h | h | h
    · exact h1.run pins s σ H Q I h
    · exact h2.run pins s σ H Q I h
    · exact h3.run pins s σ H Q I h
    · exact h4.run pins s σ H Q I h⟩
def endRow (r : Row) (cl own : Int) (arr : List (Str × Int)) : Int := if r.kind = "host" then cl else endV own r.pat (endMs (kOf r.kind).g r.nm (awOf r) arr)
theorem kOf_hos {x : Str} (h : ¬ x = "host") : kOf x ≠ .hos := by
  unfold kOf
  rw [if_neg h]
  split
  · simp
  · split <;> simp
/-- made(..).end(..) -/
theorem ee_end {ρ : Env} {t1 t2 t3 t4 : TE} {r : Row} {cl own : Int} {arr : List (Str × Int)} (h1 : EvE K t1 ρ r.d) (h2 : EvE K t2 ρ (dI cl)) (h3 : EvE K t3 ρ (dI own)) (h4 : EvE K t4 ρ (.tup (arrL arr))) (f0 : 0 ≤ r.fst) (fl : r.fst ≤ r.lst) (lc : r.lst ≤ cl) (wa : Asc r.waits) (wl : r.waits.length ≤ 50) (hl : arr.length ≤ 100) :
    EvE K (tEnd4 K (tCall (spMade K) [] (fun _ _ _ => False) (tCons t1 (tCons t2 tNil))) (tCons t3 (tCons t4 tNil))) ρ (dI (endRow r cl own arr)) := fun σ H en H1 e1 Q q => by
  have go : ∀ k : Addr → Hp → Prop, (∀ o H', Ex H1 H' → Made K H' o r cl → k o H') → tCall (spMade K) [] (fun _ _ _ => False) (tCons t1 (tCons t2 tNil)) σ H1 fun x H2 => ∃ o, x = .ref o ∧ k o H2 := fun k hk =>
    h1 σ H en H1 e1 _ fun v H2 e2 r2 => h2 σ H en H2 (e1.trans e2) _ fun v' H3 e3 r3 => by
      have ev := r3.raw_inv
      subst ev
      exact ⟨v, r, cl, rfl, r2.mono e3, f0, fl, lc, wa, wl, fun o H' e' m => ⟨o, rfl, hk o H' ((e2.trans e3).trans e') m⟩⟩
  have arg : ∀ {o : Addr} {H2 : Hp} {R : List V → Hp → Prop}, Ex H1 H2 → (∀ v H3, Ex H2 H3 → Rp K H3 v (.tup (arrL arr)) → R [.int own, v] H3) → tCons t3 (tCons t4 tNil) σ H2 R := fun {o H2 R} e hR =>
    h3 σ H en H2 (e1.trans e) _ fun v H3 e3 r3 => h4 σ H en H3 ((e1.trans e).trans e3) _ fun v' H4 e4 r4 => by
      have ev := r3.raw_inv
      subst ev
      exact hR v' H4 (e3.trans e4) r4
  have imp : ∀ {te : TE} {R R' : VK}, te = tCall (spMade K) [] (fun _ _ _ => False) (tCons t1 (tCons t2 tNil)) → True := fun _ => trivial
  by_cases hh : r.kind = "host"
  · refine .inr (.inr (.inr ?_))
    refine h1 σ H en H1 e1 _ fun v H2 e2 r2 => h2 σ H en H2 (e1.trans e2) _ fun v' H3 e3 r3 => ?_
    have ev := r3.raw_inv
    subst ev
    refine ⟨v, r, cl, rfl, r2.mono e3, f0, fl, lc, wa, wl, fun o H' e' m => ?_⟩
    unfold Made at m
    rw [if_pos hh] at m
    obtain ⟨dx, fs, g1, g2, g3⟩ := m
    have e14 := (e2.trans e3).trans e'
    refine ⟨o, dx, fs, rfl, g1, g3, arg (o := o) e14 fun v3 H4 e4 r4 => ?_⟩
    refine ⟨o, dx, fs, .int own, v3, cl, rfl, e4 _ _ g1, g2, fun H5 e5 => ?_⟩
    unfold endRow at q
    rw [if_pos hh] at q
    exact q _ H5 (e14.trans (e4.trans e5)) (.raw _)
  · have hk := kOf_hos hh
    have q' : ∀ H2, Ex H1 H2 → Q (.int (endV own r.pat (endMs (kOf r.kind).g r.nm (awOf r) arr))) H2 := fun H2 e => by
      unfold endRow at q
      rw [if_neg hh] at q
      exact q _ H2 e (.raw _)
    cases hkk : kOf r.kind with
    | hos => exact absurd hkk hk
    | vis =>
      rw [hkk] at q'
      refine .inl (h1 σ H en H1 e1 _ fun v H2 e2 r2 => h2 σ H en H2 (e1.trans e2) _ fun v' H3 e3 r3 => ?_)
      have ev := r3.raw_inv
      subst ev
      refine ⟨v, r, cl, rfl, r2.mono e3, f0, fl, lc, wa, wl, fun o H' e' m => ?_⟩
      unfold Made at m
      rw [if_neg hh, hkk] at m
      obtain ⟨dx, fs, t, g1, g2, g3, g4, g5, g6, g7⟩ := m.ex
      have e14 := (e2.trans e3).trans e'
      refine ⟨o, dx, fs, rfl, g1, g7, arg (o := o) e14 fun v3 H4 e4 r4 => ?_⟩
      exact ⟨o, r.nm, awOf r, .vis, own, r.pat, arr, v3, rfl, by simp, m.mono e4, r4, hl, fun H5 e5 => q' H5 (e14.trans (e4.trans e5))⟩
    | wai =>
      rw [hkk] at q'
      refine .inr (.inl (h1 σ H en H1 e1 _ fun v H2 e2 r2 => h2 σ H en H2 (e1.trans e2) _ fun v' H3 e3 r3 => ?_))
      have ev := r3.raw_inv
      subst ev
      refine ⟨v, r, cl, rfl, r2.mono e3, f0, fl, lc, wa, wl, fun o H' e' m => ?_⟩
      unfold Made at m
      rw [if_neg hh, hkk] at m
      obtain ⟨dx, fs, t, g1, g2, g3, g4, g5, g6, g7⟩ := m.ex
      have e14 := (e2.trans e3).trans e'
      refine ⟨o, dx, fs, rfl, g1, g7, arg (o := o) e14 fun v3 H4 e4 r4 => ?_⟩
      exact ⟨o, r.nm, awOf r, own, r.pat, arr, v3, rfl, m.mono e4, r4, hl, fun H5 e5 => q' H5 (e14.trans (e4.trans e5))⟩
    | gui =>
      rw [hkk] at q'
      refine .inr (.inr (.inl (h1 σ H en H1 e1 _ fun v H2 e2 r2 => h2 σ H en H2 (e1.trans e2) _ fun v' H3 e3 r3 => ?_)))
      have ev := r3.raw_inv
      subst ev
      refine ⟨v, r, cl, rfl, r2.mono e3, f0, fl, lc, wa, wl, fun o H' e' m => ?_⟩
      unfold Made at m
      rw [if_neg hh, hkk] at m
      obtain ⟨dx, fs, t, g1, g2, g3, g4, g5, g6, g7⟩ := m.ex
      have e14 := (e2.trans e3).trans e'
      refine ⟨o, dx, fs, rfl, g1, g7, arg (o := o) e14 fun v3 H4 e4 r4 => ?_⟩
      exact ⟨o, r.nm, awOf r, own, r.pat, arr, v3, rfl, m.mono e4, r4, hl, fun H5 e5 => q' H5 (e14.trans (e4.trans e5))⟩


def arrOf (ns : List Str) (m : Int) (x : Str) : List (Str × Int) := (ns.zipIdx.filter fun q => !decide (q.1 = x)).map fun q => (q.1, 5 * (q.2 : Int) + m)
def endOf (p : Party) (ns : List Str) (m : Int) (x : Str) : Int := match p.rows.find? fun r => decide (r.nm = x) with
  | some r => endRow r p.closing r.fst (arrOf ns m x)
  | none => 0
def gEnds : List D → D → Prop := fun ds d => ∃ p ns, ∃ m : Int, ds = [p.d, .lst (sD ns), dI m] ∧ PartyOk p ∧ (∀ r ∈ p.rows, r.waits.length ≤ 50) ∧ (∀ x ∈ ns, x ∈ names p) ∧ ns.length ≤ 100 ∧ d = .lst ((ns.map (endOf p ns m)).map dI)
theorem endOf_at {p : Party} {ns : List Str} {m : Int} {r : Row} (h : PartyOk p) (hr : r ∈ p.rows) : endOf p ns m r.nm = endRow r p.closing r.fst (arrOf ns m r.nm) := by
  unfold endOf
  rw [find_nm h.nd hr]

theorem sc__law_ends : FnScope ["_law_party_now", "_law_names", "_law_moved", "_law_rows", "_law_found", "_law_one", "_law_some", "_law_k", "_law_other"] ["_law_party_now", "_law_names", "_law_moved"] d__law_ends.scope := ⟨rfl, rfl, rfl, by decide +kernel, rfl, by decide +kernel, by decide +kernel⟩
theorem ok__law_ends (T : Wd K mg base) : C8.Cal theP w K mg base (8 + 1) "_law_ends" (spD K gEnds) [] := by
  refine cal_of T 55 71 (d := d__law_ends) rfl rfl rfl rfl rfl sc__law_ends (spD_len fun ds d ⟨_, _, _, e, _⟩ => by rw [e]; rfl) (fun _ _ _ _ _ _ us hl => match us, hl with | [_, _, _], _ => rfl) fun cdv A outer s H vs Q E hr h => ?_
  refine ⟨_, (pss_cons (ps_par (i := 3) (j := 4) (by rfl) sc__law_ends.nd rfl rfl (by decide) rfl rfl (pa_cons (C8.pe_c (ok__law_rows_of T) hr (by decide) rfl (pa_cons (pv 0) pa_nil)) (pa_cons (pe_lst pa_nil) pa_nil)) (by rfl))
    (pss_cons (ps_for PassesOwn.never rfl (zi_any (K := K) rfl (pv 1)) (pg_name (i := 5) sc__law_ends.nd rfl (by first | exact Or.inl rfl | exact Or.inr rfl)) (pss_cons (ps_set (i := 6) sc__law_ends.nd rfl (by first | exact Or.inl rfl | exact Or.inr rfl) (pe_callTy (z_tup (K := K) rfl) (by rfl) T.g_tuple (by decide +kernel) (pa_cons (pe_lc (own := [("_law_k", 7), ("_law_other", 8)]) (by rfl) sc__law_ends.nd (pi_enumX (K := K) rfl (by rfl) T.g_enumerate (pa_cons (pv 1) pa_nil)) (blkOk_by (own := [("_law_k", 7), ("_law_other", 8)]) (N := ["_law_party_now", "_law_names", "_law_moved", "_law_rows", "_law_found", "_law_one", "_law_some", "_law_k", "_law_other"]) (sc := d__law_ends.scope) (by decide +kernel)) (fun _ _ _ _ _ => (zg_tup (K := K) (n := 2) rfl rfl (pgs_cons (pg_name (i := 7) sc__law_ends.nd rfl (by first | exact Or.inl rfl | exact Or.inr rfl)) (pgs_cons (pg_name (i := 8) sc__law_ends.nd rfl (by first | exact Or.inl rfl | exact Or.inr rfl)) pgs_nil)))) (fun _ _ _ _ _ => (pts_one (pt_cmpR (z_ne (K := K) hr.units rfl) (pv 8) (pv 5) (nomark _)))) (fun _ _ _ _ _ => (pe_tup (pa_cons (pv 8) (pa_cons (pe_op (z_add (K := K) rfl) (pe_op op_mul pe_int (pv 7)) (pv 2)) pa_nil))))) pa_nil)))
    (pss_one (ps_expr (pe_bm PySem.F.plainAttrs_list PySem.F.slot_list_append PySem.F.type_list_append mt_append (pv 4) (pa_cons (pe_end4 (C8.pe_mt (met_VisEnd T) hr (by decide) (C8.pe_c (ok__law_made T) hr (by decide) rfl (pa_cons (pe_dget (hu_of hr) (pv 3) (pv 5) (fun _ _ => rfl)) (pa_cons (pe_ix (z_ix (K := K) rfl) (pv 0) pe_int (fun _ _ => rfl)) pa_nil))) (pa_cons (pe_ix (z_ix (K := K) rfl) (pe_dget (hu_of hr) (pv 3) (pv 5) (fun _ _ => rfl)) pe_int (fun _ _ => rfl)) (pa_cons (pv 6) pa_nil))) (C8.pe_mt (met_WaiEnd T) hr (by decide) (C8.pe_c (ok__law_made T) hr (by decide) rfl (pa_cons (pe_dget (hu_of hr) (pv 3) (pv 5) (fun _ _ => rfl)) (pa_cons (pe_ix (z_ix (K := K) rfl) (pv 0) pe_int (fun _ _ => rfl)) pa_nil))) (pa_cons (pe_ix (z_ix (K := K) rfl) (pe_dget (hu_of hr) (pv 3) (pv 5) (fun _ _ => rfl)) pe_int (fun _ _ => rfl)) (pa_cons (pv 6) pa_nil))) (C8.pe_mt (met_GuiEnd T) hr (by decide) (C8.pe_c (ok__law_made T) hr (by decide) rfl (pa_cons (pe_dget (hu_of hr) (pv 3) (pv 5) (fun _ _ => rfl)) (pa_cons (pe_ix (z_ix (K := K) rfl) (pv 0) pe_int (fun _ _ => rfl)) pa_nil))) (pa_cons (pe_ix (z_ix (K := K) rfl) (pe_dget (hu_of hr) (pv 3) (pv 5) (fun _ _ => rfl)) pe_int (fun _ _ => rfl)) (pa_cons (pv 6) pa_nil))) (C8.pe_mt (met_HosEnd T) hr (by decide) (C8.pe_c (ok__law_made T) hr (by decide) rfl (pa_cons (pe_dget (hu_of hr) (pv 3) (pv 5) (fun _ _ => rfl)) (pa_cons (pe_ix (z_ix (K := K) rfl) (pv 0) pe_int (fun _ _ => rfl)) pa_nil))) (pa_cons (pe_ix (z_ix (K := K) rfl) (pe_dget (hu_of hr) (pv 3) (pv 5) (fun _ _ => rfl)) pe_int (fun _ _ => rfl)) (pa_cons (pv 6) pa_nil)))) pa_nil))))))
    (pss_one (ps_ret (pv 4))))), ?_⟩
  obtain ⟨ds, d, rr, ⟨p, ns, m, rfl, hp, hw, hin, hl, rfl⟩, q⟩ := h
  refine ro_fun ?_ rr q
  refine ro_sC (ro_parO (oo_ev (d := .dic (rowsOf p)) (ee_call (es_cons (ee_var rfl) es_nil) ?_) (.inr rfl) ⟨fun e he => by cases he; rfl, fun fa => ?_⟩))
  · exact ⟨p, rfl, hp.len, hp.nd, rfl⟩
  refine ro_s (ro_for (fun i => [.rd p.d, .rd (.lst (sD ns)), .rd (dI m), .rd (.dic (rowsOf p)), .ow fa (((ns.take i).map (endOf p ns m)).map dI), .no, .no, .no, .no]) (wo_lv (i := 1) rfl) Weak.refl (tus_mem sD_tus) (fun i d hd => ?_) rfl) ?_
  · obtain ⟨x, hx, rfl⟩ := sD_get hd
    obtain ⟨r, hr, rfl⟩ := List.mem_map.mp (hin x (List.mem_of_getElem? hx))
    refine ⟨_, go_name, ?_⟩
    have ok := hp.row r hr
    have dl : (rowsOf p).lookup r.nm = some r.d := by
      obtain ⟨j, hj⟩ := List.getElem?_of_mem hr
      refine lookup_nodup (i := j) (by simpa [rowsOf, names, Function.comp_def] using hp.nd) ?_
      simp [rowsOf, hj]
    refine ro_s (ro_set (d := .tup (arrL (arrOf ns m r.nm))) (ee_cb (es_cons (ee_is (ee_lc (js := [7, 8]) (fun k => [some p.d, some (.lst (sD ns)), some (dI m), some (.dic (rowsOf p)), some (.lst (((ns.take i).map (endOf p ns m)).map dI)), some (dS r.nm), none, some (dI (k : Int)), some (dS (ns.getD k ""))]) (fun k => ((ns.zipIdx[k]?).map fun q : Str × Nat => !decide (q.1 = r.nm)).getD false) (fun k => ((ns.zipIdx[k]?).map fun q : Str × Nat => D.tup [dS q.1, dI (5 * (q.2 : Int) + m)]).getD dN) (wke_eL (es_cons (ee_var rfl) es_nil)) (by rw [enumD_len, sD_len]; omega) (by simp) (fun k d hd _ => ?_) (fun k d hd => ?_) (fun k d hd => ?_) fun k d hd _ => ?_) ?_) es_nil) fun _ => rc_tupL) (.inl ?_) rfl) ?_
    · obtain ⟨z, hz, rfl⟩ := enumD_get' hd
      obtain ⟨y, hy, rfl⟩ := sD_get hz
      simp [List.getElem?_zipIdx, hy, D.tu, D.tus]
    · obtain ⟨z, hz, rfl⟩ := enumD_get' hd
      obtain ⟨y, hy, rfl⟩ := sD_get hz
      have : ns.getD k "" = y := by simp [List.getD, hy]
      rw [this]
      exact ge_tup (ges_cons ge_name (ges_cons ge_name ges_nil)) rfl
    · obtain ⟨z, hz, rfl⟩ := enumD_get' hd
      obtain ⟨y, hy, rfl⟩ := sD_get hz
      exact te_is (te_test (ee_op (ee_var rfl) (ee_var rfl) fun _ => rd_neX rfl)) (by simp [List.getD, List.getElem?_zipIdx, hy])
    · obtain ⟨z, hz, rfl⟩ := enumD_get' hd
      obtain ⟨y, hy, rfl⟩ := sD_get hz
      exact ee_is (ee_tup (es_cons (ee_var rfl) (es_cons (ee_op (ee_op ee_c (ee_var rfl) fun _ => rd_I (.inl (by decide))) (ee_var rfl) fun _ => rd_addI) es_nil)) (by simp)) (by simp [List.getD, List.getElem?_zipIdx, hy])
    · rw [show (enumD (sD ns)).length = ns.zipIdx.length by rw [enumD_len, sD_len, List.length_zipIdx], keepA (p := fun q : Str × Nat => !decide (q.1 = r.nm)) (f := fun q : Str × Nat => D.tup [dS q.1, dI (5 * (q.2 : Int) + m)])]
      simp [arrOf]
    · simp only [D.tu]
      refine tus_all fun d hd => ?_
      obtain ⟨q, _, rfl⟩ := List.mem_map.mp hd
      rfl
    have hal : (arrOf ns m r.nm).length ≤ 100 := by
      unfold arrOf
      rw [List.length_map]
      refine Nat.le_trans (List.length_filter_le _ _) ?_
      rw [List.length_zipIdx]
      exact hl
    refine ro_append (i := 4) (a := fa) rfl (ee_end (r := r) (cl := p.closing) (own := r.fst) (ee_dget (ee_var rfl) (ee_var rfl) dl) (ee_op (ee_var rfl) ee_c fun _ => rd_ixX (n := 2) rfl rfl) (ee_op (ee_dget (ee_var rfl) (ee_var rfl) dl) ee_c fun _ => rd_ixX (n := 1) rfl rfl) (ee_var rfl) ok.f0 ok.fl ok.lc ok.wa (hw r hr) hal) (.inl rfl) (by simp; omega) ?_
    have e : ((ns.take i).map (endOf p ns m)).map dI ++ [dI (endRow r p.closing r.fst (arrOf ns m r.nm))] = ((ns.take (i + 1)).map (endOf p ns m)).map dI := by
      obtain ⟨hi, he⟩ := List.getElem?_eq_some_iff.mp hx
      rw [← List.take_append_getElem hi, he, List.map_append, List.map_append]
      simp [endOf_at hp hr]
    exact .keep rfl (.keep rfl (.keep rfl (.keep rfl (.keep (congrArg (En.ow fa) e) (.drop (.drop (.keep rfl (.keep rfl .nil))))))))
  · refine ro_give (i := 4) (a := fa) rfl rfl ?_
    refine ro_ret (ee_var rfl) (.inr rfl) ?_
    rw [sD_len, List.take_length]

end
end Pa
set_option Elab.async false
set_option linter.all false
set_option maxRecDepth 100000
set_option maxHeartbeats 4000000
/-! parties of six: what the checks compare, in plain Lean -/
namespace Pa
open PySem PySem.Spec PyProof.Rows L2 Evl PySem.W
structure Fine (p : Party) : Prop where
  ok : PartyOk p
  nu : NumsOk p
  six : p.rows.length = 6
  t6 : p.ties.length ≤ 6
  w6 : ∀ r ∈ p.rows, r.waits.length ≤ 6
/-! ### drawn parties -/
theorem RndRow.ok {x : Str} {r : Row} {cl : Int} (h : RndRow x r) (hx : x ∈ pool6) (hc : r.lst ≤ cl) : RowOk pool6 cl r where
  nm := by rw [h.nm]; exact pool6_nm x hx
  f0 := h.f0
  fl := h.fl
  lc := hc
  kd := h.kd
  p0 := h.p0
  hp := h.hp
  wn := h.wn
  wa := (pool6_asc.sublist List.filter_sublist).sublist h.ws
  wi := fun y hy => by
    have := List.mem_filter.mp (h.ws.subset hy)
    exact ⟨this.1, by rw [h.nm]; simpa using this.2⟩
  wl := Nat.le_trans h.ws.length_le (Nat.le_trans (List.length_filter_le _ _) (by decide))
theorem RndRow.w6 {x : Str} {r : Row} (h : RndRow x r) : r.waits.length ≤ 6 := Nat.le_trans h.ws.length_le (Nat.le_trans (List.length_filter_le _ _) (by decide))
theorem num_small {i : Int} (h0 : -1000 ≤ i) (h1 : i ≤ 1000) : numB i := ⟨by omega, by omega⟩
theorem RndParty.nms {p : Party} (h : RndParty p) : names p = pool6 := h.rows.nms
theorem RndParty.least' {p : Party} (h : RndParty p) : ∃ c, leastC p.rows p.ties = some c ∧ IsCase p c ∧ ∀ r ∈ p.rows, 0 ≤ c r.nm := by
  cases e : leastC p.rows p.ties with
  | none => exact absurd e h.least
  | some c =>
    have hc := lc_case (show (p.rows.map Row.nm).Nodup by rw [h.rows.nms]; exact pool6_asc.nodup) e p.closing
    refine ⟨c, rfl, hc, fun r hr => ?_⟩
    have := (hc.win r hr).1
    have := (h.rows.mem hr).f0
    omega
theorem RndParty.fine {p : Party} (h : RndParty p) : Fine p := by
  have hnm := h.nms
  have mem : ∀ r ∈ p.rows, r.nm ∈ pool6 := fun r hr => by rw [← hnm]; exact List.mem_map.mpr ⟨r, hr, rfl⟩
  obtain ⟨c, _, hc, _⟩ := h.least'
  have h6 := h.rows.1
  have hne : p.rows ≠ [] := fun e => by rw [e] at h6; cases h6
  have cl0 : 0 ≤ p.closing := by
    obtain ⟨r, hr⟩ := List.exists_mem_of_ne_nil _ hne
    have h1 := h.cl r hr
    have h2 := (h.rows.mem hr).f0
    have h3 := (h.rows.mem hr).fl
    omega
  have hcl := h.c1
  refine ⟨⟨hne, by rw [h6]; decide, by rw [hnm]; exact pool6_asc, fun r hr => by rw [hnm]; exact (h.rows.mem hr).ok (mem r hr) (h.cl r hr), Nat.le_trans h.ties.len (by decide), fun t ht => ?_, h.ties.asc, c, hc⟩, ⟨fun r hr => ?_, fun t ht => ?_, num_small (by omega) (by omega), cl0, fun r hr => Nat.le_trans (h.rows.mem hr).w6 (by decide)⟩, h6, h.ties.len, fun r hr => (h.rows.mem hr).w6⟩
  · obtain ⟨t1, t2, t3, _⟩ := h.ties.ok t ht
    rw [hnm]
    exact ⟨t1, t2, t3⟩
  · have ok := h.rows.mem hr
    have h0 := ok.f0
    have h1 := ok.fl
    have h2 := ok.l1
    have h3 := ok.p0
    have h4 := ok.p1
    exact ⟨num_small (by omega) (by omega), num_small (by omega) (by omega), num_small (by omega) (by omega)⟩
  · obtain ⟨_, _, _, t4, t5⟩ := h.ties.ok t ht
    exact num_small (by omega) (by omega)
section
variable {p : Party} {f : Str → Str} {m : Int} {c : Str → Int}
theorem ren_len : (p.ren f).rows.length = p.rows.length ∧ (p.ren f).ties.length = p.ties.length := by
  refine ⟨?_, ?_⟩
  · show (sortR _).length = _
    unfold sortR
    rw [sortD_len, List.length_map]
  · show (sortT _).length = _
    unfold sortT
    rw [sortD_len, List.length_map]
theorem Fine.ren (h : Fine p) (r : Ren p f) : Fine (p.ren f) := by
  obtain ⟨l1, l2⟩ := ren_len (p := p) (f := f)
  refine ⟨ren_ok h.ok r, ⟨fun x hx => ?_, fun t ht => ?_, h.nu.cl, h.nu.c0, fun x hx => ?_⟩, by rw [l1]; exact h.six, by rw [l2]; exact h.t6, fun x hx => ?_⟩
  · obtain ⟨y, hy, rfl⟩ := List.mem_map.mp (sortD_mem.mp hx)
    exact h.nu.row y hy
  · obtain ⟨s, hs, rfl⟩ := List.mem_map.mp (sortD_mem.mp ht)
    exact h.nu.tie s hs
  · obtain ⟨y, hy, rfl⟩ := List.mem_map.mp (sortD_mem.mp hx)
    show (sortS (y.waits.map f)).length ≤ 100
    rw [sortS_perm.length_eq, List.length_map]
    exact h.nu.w y hy
  · obtain ⟨y, hy, rfl⟩ := List.mem_map.mp (sortD_mem.mp hx)
    show (sortS (y.waits.map f)).length ≤ 6
    rw [sortS_perm.length_eq, List.length_map]
    exact h.w6 y hy
/-- numbers that are small -/
structure Small (p : Party) : Prop where
  row : ∀ r ∈ p.rows, r.fst ≤ 1000 ∧ r.lst ≤ 1000
  cl : p.closing ≤ 1000
theorem RndParty.small (h : RndParty p) : Small p := ⟨fun r hr => by
  have ok := h.rows.mem hr
  have := ok.fl
  have := ok.l1
  omega, by have := h.c1; omega⟩
theorem Fine.later (h : Fine p) (s : Small p) (h0 : 0 ≤ m) (h9 : m ≤ 1000) : Fine (p.later m) := by
  refine ⟨later_ok h.ok h0, ⟨fun x hx => ?_, h.nu.tie, ?_, ?_, fun x hx => ?_⟩, ?_, h.t6, fun x hx => ?_⟩
  · obtain ⟨y, hy, rfl⟩ := List.mem_map.mp hx
    have ok := h.ok.row y hy
    have h1 := ok.f0
    have h2 := ok.fl
    have h3 := s.row y hy
    exact ⟨⟨by show _ < y.fst + m; omega, by show y.fst + m < _; omega⟩, ⟨by show _ < y.lst + m; omega, by show y.lst + m < _; omega⟩, (h.nu.row y hy).2.2⟩
  · have h1 := h.nu.c0
    have h2 := s.cl
    exact ⟨by show _ < p.closing + m; omega, by show p.closing + m < _; omega⟩
  · have h1 := h.nu.c0
    show 0 ≤ p.closing + m
    omega
  · obtain ⟨y, hy, rfl⟩ := List.mem_map.mp hx
    exact h.nu.w y hy
  · show (p.rows.map _).length = 6
    rw [List.length_map]
    exact h.six
  · obtain ⟨y, hy, rfl⟩ := List.mem_map.mp hx
    exact h.w6 y hy
theorem Fine.text (h : Fine p) : (pText p).length ≤ 90000 := by
  have hl : (pLines p).length ≤ 13 := by
    have h1 := h.six
    have h2 := h.t6
    simp [pLines]
    omega
  have := join_len (y := "\n") (by decide +kernel) (n := 1000) (xs := pLines p) (pLines_le h.ok h.nu)
  unfold pText
  omega
/-! ### the greatest -/
theorem greatest_perm {l l' : List Int} (h : l.Perm l') (hne : l ≠ []) : greatest l = greatest l' := greatest_is (h.mem_iff.mp (greatest_mem hne)) fun y hy => greatest_le (h.mem_iff.mpr hy)
theorem greatest_add {l : List Int} (hne : l ≠ []) : greatest (l.map (· + m)) = greatest l + m := by
  refine (greatest_is (List.mem_map.mpr ⟨_, greatest_mem hne, rfl⟩) fun y hy => ?_).symm
  obtain ⟨z, hz, rfl⟩ := List.mem_map.mp hy
  have := greatest_le hz
  omega
theorem mins_ne (h : Fine p) : minsI p c ≠ [] := fun e => by
  have := congrArg List.length e
  rw [minsI, List.length_map, h.six] at this
  cases this
theorem mins_ren (r : Ren p f) : (minsI (p.ren f) (moved p f c)).Perm (minsI p c) := by
  unfold minsI
  refine ((sortD_perm (enc := Row.d) (l := p.rows.map (Row.ren f))).map fun r => moved p f c r.nm).trans (.of_eq ?_)
  rw [List.map_map]
  refine List.map_congr_left fun x hx => ?_
  exact moved_at r c (nm_mem hx)
theorem mins_later : minsI (p.later m) (fun x => c x + m) = (minsI p c).map (· + m) := by
  unfold minsI Party.later
  rw [List.map_map, List.map_map]
  rfl
/-! ### when visitors end -/
theorem sortI_le {ms : List Int} : (sortI ms).Pairwise fun a b => a ≤ b := (sortD_le (enc := dI) (l := ms)).imp fun {a b} h => by
  by_cases hab : a ≤ b
  · exact hab
  · have := lt_int (a := b) (b := a) (by omega)
    have h' : dataLt (PyData.int b) (PyData.int a) = false := h
    rw [this] at h'
    cases h'
theorem sortI_eq {l l' : List Int} (h : l.Perm l') : sortI l = sortI l' := List.Perm.eq_of_pairwise (le := fun a b => a ≤ b) (fun a b _ _ q r => Int.le_antisymm q r) sortI_le sortI_le (sortD_perm.trans (h.trans sortD_perm.symm))
theorem sortI_add {l : List Int} : sortI (l.map (· + m)) = (sortI l).map (· + m) := by
  refine List.Perm.eq_of_pairwise (le := fun a b => a ≤ b) (fun a b _ _ q r => Int.le_antisymm q r) sortI_le ?_ (sortD_perm.trans (sortD_perm.map (· + m)).symm)
  refine List.pairwise_map.mpr (sortI_le.imp fun {a b} h => ?_)
  omega
theorem endV_add {own pat : Int} {ms : List Int} : endV (own + m) pat (ms.map (· + m)) = endV own pat ms + m := by
  unfold endV
  rw [sortI_add]
  generalize sortI ms = l
  have go : ∀ (l : List Int) (z : Int), (l.map (· + m)).foldl (endStep (own + m) pat) (z + m) = l.foldl (endStep own pat) z + m := by
    intro l
    induction l with
    | nil => intro z; rfl
    | cons a l ih =>
      intro z
      rw [List.map_cons, List.foldl_cons, List.foldl_cons]
      have e : endStep (own + m) pat (z + m) (a + m) = endStep own pat z a + m := by
        unfold endStep
        by_cases h : own < a ∧ a ≤ z
        · rw [if_pos h, if_pos (by omega)]; omega
        · rw [if_neg h, if_neg (by omega)]
      rw [e, ih]
  have e : own + m + pat = own + pat + m := by omega
  rw [e, go]
theorem filter_map' {α β : Type} {g : α → β} {q : β → Bool} {l : List α} : (l.map g).filter q = (l.filter fun x => q (g x)).map g := List.filter_map
theorem arr_later {ns : List Str} {x : Str} : arrOf ns m x = (arrOf ns 0 x).map fun q => (q.1, q.2 + m) := by
  unfold arrOf
  rw [List.map_map]
  refine List.map_congr_left fun q _ => ?_
  show (q.1, 5 * (q.2 : Int) + m) = (q.1, 5 * (q.2 : Int) + 0 + m)
  rw [Int.add_zero]
theorem ends_later {ns : List Str} (h : PartyOk p) (h0 : 0 ≤ m) {x : Str} (hx : x ∈ names p) : endOf (p.later m) ns m x = endOf p ns 0 x + m := by
  obtain ⟨r, hr, rfl⟩ := List.mem_map.mp hx
  have e := endOf_at (p := p.later m) (ns := ns) (m := m) (r := r.later m) (later_ok h h0) (List.mem_map.mpr ⟨r, hr, rfl⟩)
  rw [show (r.later m).nm = r.nm from rfl] at e
  rw [e, endOf_at h hr]
  unfold endRow
  show (if r.kind = "host" then p.closing + m else endV (r.fst + m) r.pat (endMs (kOf r.kind).g r.nm (awOf r) (arrOf ns m r.nm))) = _
  by_cases hh : r.kind = "host"
  · rw [if_pos hh, if_pos hh]
  · rw [if_neg hh, if_neg hh, arr_later, ← endV_add]
    congr 1
    unfold endMs
    rw [filter_map', List.map_map, List.map_map]
    rfl
theorem ends_ren {ns : List Str} (h : PartyOk p) (r : Ren p f) (hns : ∀ y ∈ ns, y ∈ names p) {x : Str} (hx : x ∈ names p) : endOf (p.ren f) (ns.map f) 0 (f x) = endOf p ns 0 x := by
  obtain ⟨w, hw, rfl⟩ := List.mem_map.mp hx
  have e := endOf_at (p := p.ren f) (ns := ns.map f) (m := 0) (r := w.ren f) (ren_ok h r) (sortD_mem.mpr (List.mem_map.mpr ⟨w, hw, rfl⟩))
  rw [show (w.ren f).nm = f w.nm from rfl] at e
  rw [e, endOf_at h hw]
  unfold endRow
  show (if w.kind = "host" then p.closing else endV w.fst w.pat (endMs (kOf w.kind).g (f w.nm) (awOf (w.ren f)) (arrOf (ns.map f) 0 (f w.nm)))) = _
  by_cases hh : w.kind = "host"
  · rw [if_pos hh, if_pos hh]
  · rw [if_neg hh, if_neg hh]
    congr 1
    have ha : arrOf (ns.map f) 0 (f w.nm) = (arrOf ns 0 w.nm).map fun q => (f q.1, q.2) := by
      unfold arrOf
      rw [List.zipIdx_map, filter_map', List.map_map, List.map_map]
      have hfil : (ns.zipIdx.filter fun q : Str × Nat => !decide (f q.1 = f w.nm)) = ns.zipIdx.filter fun q : Str × Nat => !decide (q.1 = w.nm) := by
        refine List.filter_congr fun q hq => ?_
        have hm : q.1 ∈ names p := hns _ (List.fst_mem_of_mem_zipIdx hq)
        by_cases e : q.1 = w.nm
        · rw [e]; simp
        · have : f q.1 ≠ f w.nm := fun z => e (r.inj _ hm _ hx z)
          simp [e, this]
      show ((ns.zipIdx.filter fun q : Str × Nat => !decide (f q.1 = f w.nm)).map fun q => (f q.1, 5 * (q.2 : Int) + 0)) = _
      rw [hfil]
      rfl
    rw [ha]
    unfold endMs
    rw [filter_map', List.map_map]
    have hfil : ((arrOf ns 0 w.nm).filter fun q => proV (kOf w.kind).g (f w.nm) (awOf (w.ren f)) (f q.1)) = (arrOf ns 0 w.nm).filter fun q => proV (kOf w.kind).g w.nm (awOf w) q.1 := by
      refine List.filter_congr fun q hq => ?_
      have hm : q.1 ∈ names p := by
        obtain ⟨z, hz, rfl⟩ := List.mem_map.mp hq
        exact hns _ (List.fst_mem_of_mem_zipIdx (List.mem_filter.mp hz).1)
      have h1 : decide (f q.1 = f w.nm) = decide (q.1 = w.nm) := decide_eq_decide.mpr ⟨fun z => r.inj _ hm _ hx z, fun z => by rw [z]⟩
      have h2 : decide (f q.1 ∈ awOf (w.ren f)) = decide (q.1 ∈ awOf w) := by
        refine decide_eq_decide.mpr ?_
        unfold awOf
        show f q.1 ∈ (if w.kind = "waiter" then sortS (w.waits.map f) else []) ↔ _
        by_cases hk : w.kind = "waiter"
        · rw [if_pos hk, if_pos hk, sortS_perm.mem_iff, List.mem_map]
          constructor
          · rintro ⟨y, hy, e⟩
            have := r.inj y ((h.row w hw).wi y hy).1 _ hm e
            rw [← this]; exact hy
          · exact fun hy => ⟨_, hy, rfl⟩
        · rw [if_neg hk, if_neg hk]
          simp
      unfold proV
      rw [h1, h2]
    rw [hfil]
    rfl
end
end Pa
set_option Elab.async false
set_option linter.all false
set_option maxRecDepth 100000
set_option maxHeartbeats 8000000
namespace Pa
open PySem PySem.Spec PyProof.Rows L2 Evl
section
variable {P : Program} {w : World} {K : PySem.W.Frag} {mg : Str → Option Value} {base : Heap}


theorem tie_okN {t : Tie} (h : isNm t.one) (h' : isNm t.oth) {n : Nat} : D.ok (n + 1) t.d = true := by
  simp [D.ok, D.oks, okV, isNm_ok h, isNm_ok h']
theorem rows_okN {p : Party} (h : PartyOk p) : D.oks 2 (rowsD p.rows) = true := oks_all fun d hd => by
  obtain ⟨r, hr, rfl⟩ := List.mem_map.mp hd
  have ok := h.row r hr
  exact row_ok (n := 0) ok.nm ok.kd fun x hx => h.nms _ (ok.wi x hx).1
theorem ties_okN {p : Party} (h : PartyOk p) {n : Nat} : D.oks (n + 1) (tiesD p.ties) = true := oks_all fun d hd => by
  obtain ⟨t, ht, rfl⟩ := List.mem_map.mp hd
  exact tie_okN (h.tie_nm ht).1 (h.tie_nm ht).2
theorem party_okD {p : Party} (h : PartyOk p) : D.ok 4 p.d = true := by
  have h1 := rows_okN h
  have h2 := ties_okN h (n := 1)
  simp [D.ok, D.oks, okV, h1, h2]
theorem cut_okD {a b p : Int} {k : Str} (hk : k ∈ kindsS) : D.ok 1 (.tup [dI a, dI b, dS k, dI p]) = true := by
  have hk : PyData.strOk k = true := by
    simp [kindsS] at hk
    rcases hk with e | e | e | e <;> rw [e] <;> decide +kernel
  simp [D.ok, D.oks, okV, hk]
theorem rows_look {p : Party} (h : PartyOk p) {r : Row} (hr : r ∈ p.rows) : (rowsOf p).lookup r.nm = some r.d := by
  obtain ⟨j, hj⟩ := List.getElem?_of_mem hr
  refine lookup_nodup (i := j) (by simpa [rowsOf, names, Function.comp_def] using h.nd) ?_
  simp [rowsOf, hj]
theorem keep_no0 {f : Nat → D} {n : Nat} : keep (fun _ => false) f n = [] := by simp [keep]
def gChkR : List D → D → Prop := fun ds d => ∃ p f c ns, ds = [p.d, (p.ren f).d, .lst (sD ns), .tup (minsD p c)] ∧ ns = pool6.map f ∧ Fine p ∧ names p = pool6 ∧ Ren p f ∧ IsCase p c ∧ (∀ r ∈ p.rows, 0 ≤ c r.nm) ∧ d = dB true

theorem sc__law_check_renamed : FnScope ["_law_party_now", "_law_other", "_law_names", "_law_least", "_law_pool", "_law_rows", "_law_there", "_law_at", "_law_k", "_law_entry"] ["_law_party_now", "_law_other", "_law_names", "_law_least"] d__law_check_renamed.scope := ⟨rfl, rfl, rfl, by decide +kernel, rfl, by decide +kernel, by decide +kernel⟩
theorem ok__law_check_renamed (T : Wd K mg base) : C8.Cal theP w K mg base (9 + 1) "_law_check_renamed" (spD K gChkR) [] := by
  refine cal_of T 56 72 (d := d__law_check_renamed) rfl rfl rfl rfl rfl sc__law_check_renamed (spD_len fun ds d ⟨_, _, _, _, e, _⟩ => by rw [e]; rfl) (fun _ _ _ _ _ _ us hl => match us, hl with | [_, _, _, _], _ => rfl) fun cdv A outer s H vs Q E hr h => ?_
  refine ⟨_, (pss_cons (ps_set (i := 4) sc__law_check_renamed.nd rfl (by first | exact Or.inl rfl | exact Or.inr rfl) (pe_lst (pa_cons pe_str (pa_cons pe_str (pa_cons pe_str (pa_cons pe_str (pa_cons pe_str (pa_cons pe_str pa_nil))))))))
    (pss_cons (ps_if (PW.pt (pw_or (pt_cmpR (z_ne (K := K) hr.units rfl) (C8.pe_c (ok_lets_party T) hr (by decide) rfl (pa_cons (pv 1) pa_nil)) pe_int (nomark _)) (pw_or (pt_cmpR (z_ne (K := K) hr.units rfl) (pe_ix (z_ix (K := K) rfl) (pv 1) pe_int (fun _ _ => rfl)) (pe_ix (z_ix (K := K) rfl) (pv 0) pe_int (fun _ _ => rfl)) (nomark _)) (pw_or1 (pt_cmpR (z_ne (K := K) hr.units rfl) (pe_callB (z_len (K := K) rfl) (by rfl) T.g_len (by decide +kernel) (pa_cons (pe_ix (z_ix (K := K) rfl) (pv 1) pe_int (fun _ _ => rfl)) pa_nil)) (pe_callB (z_len (K := K) rfl) (by rfl) T.g_len (by decide +kernel) (pa_cons (pe_ix (z_ix (K := K) rfl) (pv 0) pe_int (fun _ _ => rfl)) pa_nil)) (nomark _)))))) (pss_one (ps_ret pe_bl)) pss_nil)
    (pss_cons (ps_asg (pe_tup (pa_cons (C8.pe_c (ok__law_rows_of T) hr (by decide) rfl (pa_cons (pv 0) pa_nil)) (pa_cons (C8.pe_c (ok__law_rows_of T) hr (by decide) rfl (pa_cons (pv 1) pa_nil)) pa_nil))) (zg_tup (K := K) (n := 2) rfl rfl (pgs_cons (pg_name (i := 5) sc__law_check_renamed.nd rfl (by first | exact Or.inl rfl | exact Or.inr rfl)) (pgs_cons (pg_name (i := 6) sc__law_check_renamed.nd rfl (by first | exact Or.inl rfl | exact Or.inr rfl)) pgs_nil))))
    (pss_cons (ps_if (pt_cmpR (z_ne (K := K) hr.units rfl) (pe_lc (own := [("_law_k", 8)]) (by rfl) sc__law_check_renamed.nd (pi_range1 (by rfl) T.g_range (pa_cons pe_int pa_nil)) (blkOk_by (own := [("_law_k", 8)]) (N := ["_law_party_now", "_law_other", "_law_names", "_law_least", "_law_pool", "_law_rows", "_law_there", "_law_at", "_law_k", "_law_entry"]) (sc := d__law_check_renamed.scope) (by decide +kernel)) (fun _ _ _ _ _ => (pg_name (i := 8) sc__law_check_renamed.nd rfl (by first | exact Or.inl rfl | exact Or.inr rfl))) (fun _ _ _ _ _ => (pts_one (pt_cmpR (z_ne (K := K) hr.units rfl) (pe_slice (z_sl (K := K) rfl) (pe_dget (hu_of hr) (pv 6) (pe_ix (z_ix (K := K) rfl) (pv 2) (pv 8) (fun _ _ => rfl)) (fun _ _ => rfl)) (po_some pe_int) (po_some pe_int)) (pe_slice (z_sl (K := K) rfl) (pe_dget (hu_of hr) (pv 5) (pe_ix (z_ix (K := K) rfl) (pv 4) (pv 8) (fun _ _ => rfl)) (fun _ _ => rfl)) (po_some pe_int) (po_some pe_int)) (nomark _)))) (fun _ _ _ _ _ => (pv 8))) (pe_lst pa_nil) (nomark _)) (pss_one (ps_ret pe_bl)) pss_nil)
    (pss_cons (ps_set (i := 7) sc__law_check_renamed.nd rfl (by first | exact Or.inl rfl | exact Or.inr rfl) (pe_callTy (z_dict (K := K) rfl rfl) (by rfl) T.g_dict (by decide +kernel) (pa_cons (pe_lc (own := [("_law_k", 8)]) (by rfl) sc__law_check_renamed.nd (pi_range1 (by rfl) T.g_range (pa_cons pe_int pa_nil)) (blkOk_by (own := [("_law_k", 8)]) (N := ["_law_party_now", "_law_other", "_law_names", "_law_least", "_law_pool", "_law_rows", "_law_there", "_law_at", "_law_k", "_law_entry"]) (sc := d__law_check_renamed.scope) (by decide +kernel)) (fun _ _ _ _ _ => (pg_name (i := 8) sc__law_check_renamed.nd rfl (by first | exact Or.inl rfl | exact Or.inr rfl))) (fun _ _ _ _ _ => pts_nil) (fun _ _ _ _ _ => (pe_tup (pa_cons (pe_ix (z_ix (K := K) rfl) (pv 2) (pv 8) (fun _ _ => rfl)) (pa_cons (pe_ix (z_ix (K := K) rfl) (pv 3) (pv 8) (fun _ _ => rfl)) pa_nil))))) pa_nil)))
    (pss_cons (ps_if (pt_cmpR (z_ne (K := K) hr.units rfl) (C8.pe_c (ok_lets_case T) hr (by decide) rfl (pa_cons (pv 1) (pa_cons (pe_callTy (z_tup (K := K) rfl) (by rfl) T.g_tuple (by decide +kernel) (pa_cons (pe_lc (own := [("_law_entry", 9)]) (by rfl) sc__law_check_renamed.nd (zi_any (K := K) rfl (pe_ix (z_ix (K := K) rfl) (pv 1) pe_int (fun _ _ => rfl))) (blkOk_by (own := [("_law_entry", 9)]) (N := ["_law_party_now", "_law_other", "_law_names", "_law_least", "_law_pool", "_law_rows", "_law_there", "_law_at", "_law_k", "_law_entry"]) (sc := d__law_check_renamed.scope) (by decide +kernel)) (fun _ _ _ _ _ => (pg_name (i := 9) sc__law_check_renamed.nd rfl (by first | exact Or.inl rfl | exact Or.inr rfl))) (fun _ _ _ _ _ => pts_nil) (fun _ _ _ _ _ => (pe_dget (hu_of hr) (pv 7) (pe_ix (z_ix (K := K) rfl) (pv 9) pe_int (fun _ _ => rfl)) (fun _ _ => rfl)))) pa_nil)) pa_nil))) (pe_callB (z_maxT (K := K) rfl rfl) (by rfl) T.g_max (by decide +kernel) (pa_cons (pv 3) pa_nil)) (nomark _)) (pss_one (ps_ret pe_bl)) pss_nil)
    (pss_cons (ps_if (pt_cmpR (z_ne (K := K) hr.units rfl) (pe_callB (z_len (K := K) rfl) (by rfl) T.g_len (by decide +kernel) (pa_cons (z_split (C8.pe_c (ok_party_text T) hr (by decide) rfl (pa_cons (pv 1) pa_nil)) pe_str) pa_nil)) (pe_callB (z_len (K := K) rfl) (by rfl) T.g_len (by decide +kernel) (pa_cons (z_split (C8.pe_c (ok_party_text T) hr (by decide) rfl (pa_cons (pv 0) pa_nil)) pe_str) pa_nil)) (nomark _)) (pss_one (ps_ret pe_bl)) pss_nil)
    (pss_cons (ps_if (PW.pt (pw_or (pt_cmpR (z_ne (K := K) hr.units rfl) (C8.pe_c (ok__law_ends T) hr (by decide) rfl (pa_cons (pv 0) (pa_cons (pv 4) (pa_cons pe_int pa_nil)))) (C8.pe_c (ok__law_ends T) hr (by decide) rfl (pa_cons (pv 1) (pa_cons (pv 2) (pa_cons pe_int pa_nil)))) (nomark _)) (pw_or1 (pt_cmpR (z_ne (K := K) hr.units rfl) (pe_callB (z_len (K := K) rfl) (by rfl) T.g_len (by decide +kernel) (pa_cons (C8.pe_c (ok_party_table T) hr (by decide) rfl (pa_cons (pv 1) pa_nil)) pa_nil)) pe_int (nomark _))))) (pss_one (ps_ret pe_bl)) pss_nil)
    (pss_one (ps_ret (pe_cmpR (z_eq (K := K) hr.units rfl) (C8.pe_c (ok_party_read T) hr (by decide) rfl (pa_cons (C8.pe_c (ok_party_text T) hr (by decide) rfl (pa_cons (pv 1) pa_nil)) pa_nil)) (pv 1) (nomark _)))))))))))), ?_⟩
  obtain ⟨ds, d, rr, ⟨p, f, c, ns, rfl, hns, hp, hn, hr6, hc, hc0, rfl⟩, q⟩ := h
  refine ro_fun ?_ rr q
  obtain ⟨z, hz⟩ : ∃ z, z = p.ren f := ⟨_, rfl⟩
  have hq : Fine z := by rw [hz]; exact hp.ren hr6
  have hcl : z.closing = p.closing := by rw [hz]; rfl
  have htl : z.ties.length = p.ties.length := by rw [hz]; exact ren_len.2
  have hzn : names z = names (p.ren f) := by rw [hz]
  rw [← hz]
  refine ro_s (ro_set (d := .lst (sD pool6)) (ee_lst (es_cons ee_c (es_cons ee_c (es_cons ee_c (es_cons ee_c (es_cons ee_c (es_cons ee_c es_nil)))))) (by decide)) (.inr rfl) rfl) ?_
  refine ro_s (ro_ifF (te_is (te_or (te_test (ee_op (ee_call (es_cons (ee_var rfl) es_nil) ⟨z, rfl, hq.ok, hq.nu.c0, rfl⟩) ee_c fun _ => rd_neX rfl)) fun _ => te_or (te_test (ee_op (ee_op (ee_var rfl) ee_c fun _ => rd_ixX (n := 2) rfl rfl) (ee_op (ee_var rfl) ee_c fun _ => rd_ixX (n := 2) rfl rfl) fun _ => rd_neX rfl)) fun _ => te_test (ee_op (ee_cb (es_cons (ee_op (ee_var rfl) ee_c fun _ => rd_ixX (n := 1) rfl rfl) es_nil) fun _ => rc_lenT) (ee_cb (es_cons (ee_op (ee_var rfl) ee_c fun _ => rd_ixX (n := 1) rfl rfl) es_nil) fun _ => rc_lenT) fun _ => rd_neX rfl)) (m := false) (by simp [hq.six, hcl, htl])) (ro_next rfl)) ?_
  refine ro_s (ro_asg (d := .tup [.dic (rowsOf p), .dic (rowsOf z)]) (ee_tup (es_cons (ee_call (es_cons (ee_var rfl) es_nil) ⟨p, rfl, hp.ok.len, hp.ok.nd, rfl⟩) (es_cons (ee_call (es_cons (ee_var rfl) es_nil) ⟨z, rfl, hq.ok.len, hq.ok.nd, rfl⟩) es_nil)) (by simp)) (.inr rfl) (go_tup (gos_cons go_name (gos_cons go_name gos_nil)) rfl) rfl) ?_
  have row_at : ∀ k : Nat, k < 6 → ∃ r, p.rows[k]? = some r ∧ pool6[k]? = some r.nm ∧ ns[k]? = some (f r.nm) := fun k hk => by
    have hl : k < p.rows.length := by rw [hp.six]; exact hk
    refine ⟨p.rows[k], by simp [hl], ?_, ?_⟩
    · rw [← hn]; simp [names, hl]
    · rw [hns, ← hn]; simp [names, hl]
  have zrow : ∀ r ∈ p.rows, (r.ren f) ∈ z.rows := fun r hr => by
    rw [hz]
    exact sortD_mem.mpr (List.mem_map.mpr ⟨r, hr, rfl⟩)
  refine ro_s (ro_ifF (te_test (ee_op (ee_is (ee_lc (js := [8]) (fun k => [some p.d, some z.d, some (.lst (sD ns)), some (.tup (minsD p c)), some (.lst (sD pool6)), some (.dic (rowsOf p)), some (.dic (rowsOf z)), none, some (dI (k : Int)), none]) (fun _ => false) (fun _ => dN) (wke_r (es_cons ee_c es_nil) (by decide)) (by rw [rngD_len]; decide) (by simp) (fun k d hd hk => by cases hk) (fun k d hd => ?_) (fun k d hd => ?_) fun k d hd hk => by cases hk) (congrArg D.lst keep_no0)) (ee_lst es_nil (by decide)) fun _ => rd_neS (n := 1) rfl (by decide))) (ro_next rfl)) ?_
  · have hk : k < 6 := by
      have := (List.getElem?_eq_some_iff.mp hd).1
      rw [rngD_len] at this
      exact this
    rw [rngD_get (n := (6 : Int).toNat) hk] at hd
    cases hd
    exact ge_name
  · have hk : k < 6 := by
      have := (List.getElem?_eq_some_iff.mp hd).1
      rw [rngD_len] at this
      exact this
    obtain ⟨r, h1, h2, h3⟩ := row_at k hk
    have hm := List.mem_of_getElem? h1
    have d3 : (sD ns)[k]? = some (dS (f r.nm)) := by simp [sD, h3]
    have d2 : (sD pool6)[k]? = some (dS r.nm) := by simp [sD, h2]
    exact te_test (ee_op (ee_is (ee_slT (ee_dget (d := (r.ren f).d) (k := f r.nm) (ee_var rfl) (ee_op (ee_var rfl) (ee_var rfl) fun _ => rd_ixXL (n := k) rfl d3) (rows_look hq.ok (zrow r hm))) (eo_some ee_c) (eo_some ee_c)) (show _ = D.tup [dI r.fst, dI r.lst, dS r.kind, dI r.pat] from rfl)) (ee_is (ee_slT (ee_dget (d := r.d) (k := r.nm) (ee_var rfl) (ee_op (ee_var rfl) (ee_var rfl) fun _ => rd_ixXL (n := k) rfl d2) (rows_look hp.ok hm)) (eo_some ee_c) (eo_some ee_c)) (show _ = D.tup [dI r.fst, dI r.lst, dS r.kind, dI r.pat] from rfl)) fun _ => rd_neS (cut_okD (hp.ok.row r hm).kd) (by decide))
  obtain ⟨ps, hps⟩ : ∃ ps : List (Str × D), ps = p.rows.map fun r => (f r.nm, dI (c r.nm)) := ⟨_, rfl⟩
  have ps_len : ps.length = 6 := by rw [hps, List.length_map]; exact hp.six
  have ps_nd : (ps.map (·.1)).Nodup := by
    rw [hps, List.map_map]
    have e : p.rows.map ((fun x : Str × D => x.1) ∘ fun r => (f r.nm, dI (c r.nm))) = (names p).map f := by simp [names, Function.comp_def]
    rw [e]
    exact nodup_map hp.ok.nd hr6.inj
  have ps_look : ∀ r ∈ p.rows, ps.lookup (f r.nm) = some (dI (c r.nm)) := fun r hr => by
    obtain ⟨j, hj⟩ := List.getElem?_of_mem hr
    exact lookup_nodup (i := j) ps_nd (by rw [hps]; simp [hj])
  refine ro_s (ro_set (d := .dic ps) (ee_is (ee_cb (ds := [.lst (ps.map fun p => .tup [dS p.1, p.2])]) (es_cons (ee_lcL (wke_r (es_cons ee_c es_nil) (by decide)) (by rw [rngD_len]; decide) (by simp) (by rw [rngD_len, List.length_map, ps_len]; rfl) (tus_all fun d hd => ?_) fun i d e hd he => ?_) es_nil) fun _ => rc_dict) (congrArg D.dic (dicOf_nodup ps_nd))) (.inr rfl) rfl) ?_
  · rw [hps, List.map_map] at hd
    obtain ⟨r, _, rfl⟩ := List.mem_map.mp hd
    rfl
  · have hk : i < 6 := by
      have := (List.getElem?_eq_some_iff.mp hd).1
      rw [rngD_len] at this
      exact this
    rw [rngD_get (n := (6 : Int).toNat) hk] at hd
    cases hd
    obtain ⟨r, h1, h2, h3⟩ := row_at i hk
    rw [hps, List.map_map, List.getElem?_map, h1] at he
    cases he
    have d3 : (sD ns)[i]? = some (dS (f r.nm)) := by simp [sD, h3]
    exact ee_tup (es_cons (ee_op (ee_var rfl) (ee_var rfl) fun _ => rd_ixXL (n := i) rfl d3) (es_cons (ee_op (ee_var rfl) (ee_var rfl) fun _ => rd_ixX (n := i) rfl (mins_get h1)) es_nil)) (by simp)
  have zof : ∀ r ∈ z.rows, ∃ y ∈ p.rows, y.ren f = r := fun r hr => by
    rw [hz] at hr
    exact List.mem_map.mp (sortD_mem.mp hr)
  have hg : greatest (minsI z (moved p f c)) = greatest (minsI p c) := by
    have := greatest_perm (mins_ren (c := c) hr6) (mins_ne (hp.ren hr6))
    rw [hz]; exact this
  have hcz : IsCase z (moved p f c) := by rw [hz]; exact case_ren hp.ok hr6 hc
  refine ro_s (ro_ifF (te_is (te_test (ee_op (ee_call (es_cons (ee_var rfl) (es_cons (ee_cb (ds := [.lst (minsD z (moved p f c))]) (es_cons (ee_lcL (wke_t (ee_op (ee_var rfl) ee_c fun _ => rd_ixX (n := 0) rfl rfl)) (by simp [hq.six]) (by simp) (by simp [minsD, minsI]) minsD_tus fun i d e hd he => ?_) es_nil) fun _ => rc_tupL) es_nil)) ⟨z, moved p f c, rfl, hq.ok, hcz, fun r hr => ?_, rfl⟩) (ee_cb (es_cons (ee_var rfl) es_nil) fun _ => rc_maxT (mins_ne hp)) fun _ => rd_neX rfl)) (m := false) (by simp [hg])) (ro_next rfl)) ?_
  · obtain ⟨r, hr, rfl⟩ := map_get hd
    obtain ⟨y, hy, rfl⟩ := zof r (List.mem_of_getElem? hr)
    rw [mins_get hr] at he
    cases he
    have e1 : moved p f c (y.ren f).nm = c y.nm := moved_at hr6 c (nm_mem hy)
    rw [e1]
    exact ee_dget (k := f y.nm) (ee_var rfl) (ee_op (ee_var rfl) ee_c fun _ => rd_ixX (n := 0) rfl rfl) (ps_look y hy)
  · obtain ⟨y, hy, rfl⟩ := zof r hr
    have e1 : moved p f c (y.ren f).nm = c y.nm := moved_at hr6 c (nm_mem hy)
    rw [e1]
    exact hc0 y hy
  refine ro_s (ro_ifF (te_is (te_test (ee_op (ee_cb (es_cons (ee_split (ee_call (es_cons (ee_var rfl) es_nil) ⟨z, rfl, hq.ok, hq.nu, rfl⟩) ee_c (by decide +kernel) hq.text (pText_split hq.ok)) es_nil) fun _ => rc_lenL) (ee_cb (es_cons (ee_split (ee_call (es_cons (ee_var rfl) es_nil) ⟨p, rfl, hp.ok, hp.nu, rfl⟩) ee_c (by decide +kernel) hp.text (pText_split hp.ok)) es_nil) fun _ => rc_lenL) fun _ => rd_neX rfl)) (m := false) (by simp [pLines, hq.six, hp.six, htl, sD_len])) (ro_next rfl)) ?_
  have he : (ns.map (endOf z ns 0)).map dI = (pool6.map (endOf p pool6 0)).map dI := by
    rw [hns, hz, List.map_map (f := f)]
    exact congrArg (List.map dI) (List.map_congr_left fun x hx => ends_ren hp.ok hr6 (fun y hy => by rw [hn]; exact hy) (by rw [hn]; exact hx))
  have hin : ∀ x ∈ ns, x ∈ names z := fun x hx => by
    rw [hns] at hx
    obtain ⟨y, hy, rfl⟩ := List.mem_map.mp hx
    rw [hz]
    exact (ren_mem hp.ok hr6).mpr ⟨y, by rw [hn]; exact hy, rfl⟩
  refine ro_s (ro_ifF (te_is (te_or (te_test (ee_op (ee_call (es_cons (ee_var rfl) (es_cons (ee_var rfl) (es_cons ee_c es_nil))) ⟨p, pool6, 0, rfl, hp.ok, fun r hr => Nat.le_trans (hp.w6 r hr) (by decide), fun x hx => by rw [hn]; exact hx, by decide, rfl⟩) (ee_is (ee_call (es_cons (ee_var rfl) (es_cons (ee_var rfl) (es_cons ee_c es_nil))) ⟨z, ns, 0, rfl, hq.ok, fun r hr => Nat.le_trans (hq.w6 r hr) (by decide), hin, by rw [hns, List.length_map]; decide, rfl⟩) (congrArg D.lst he)) fun _ => rd_neS (ints_ok _) (by decide))) fun _ => te_test (ee_op (ee_cb (es_cons (ee_call (es_cons (ee_var rfl) es_nil) ⟨z, rfl, hq.ok, hq.nu, rfl⟩) es_nil) fun _ => rc_lenL) ee_c fun _ => rd_neX rfl)) (m := false) (by simp [hq.six, sD_len])) (ro_next rfl)) ?_
  exact ro_ret (ee_op (ee_call (es_cons (ee_call (es_cons (ee_var rfl) es_nil) ⟨z, rfl, hq.ok, hq.nu, rfl⟩) es_nil) ⟨z, rfl, hq.ok, hq.nu, hq.text, rfl⟩) (ee_var rfl) fun _ => rd_eqS (party_okD hq.ok) (by decide)) (.inr rfl) rfl
end
end Pa
set_option Elab.async false
set_option linter.all false
set_option maxRecDepth 100000
set_option maxHeartbeats 4000000
/-! the renamings that the law makes -/
namespace Pa
open PySem PySem.Spec PyProof.Rows L2 Evl PySem.W
def fOf (ps : List (Str × Str)) (x : Str) : Str := (ps.lookup x).getD x
/-- what a renaming of people ns by ps must keep -/
structure Rn (ns : List Str) (ps : List (Str × Str)) : Prop where
  inj : ∀ x ∈ ns, ∀ y ∈ ns, fOf ps x = fOf ps y → x = y
  nm : ∀ x ∈ ns, isNm (fOf ps x)
  keys : ∀ q ∈ ps, q.1 ∈ ns ∧ isNm q.2
  nd : (ps.map (·.1)).Nodup
def nmB (z : Str) : Bool := decide (1 ≤ z.length ∧ z.length ≤ 8) && (TL.tl z).all fun c => (TL.tl ("abcdefghijklmnopqrstuvwxyz" : Str)).contains c
theorem nm_of {z : Str} (h : nmB z = true) : isNm z := by
  unfold nmB at h
  rw [Bool.and_eq_true] at h
  have h1 := of_decide_eq_true h.1
  exact ⟨h1.1, h1.2, fun c hc => List.contains_iff_mem.mp (List.all_eq_true.mp h.2 c hc)⟩
def rnB (ns : List Str) (ps : List (Str × Str)) : Bool := decide (ns.map (fOf ps)).Nodup && (ns.all fun x => nmB (fOf ps x)) && (ps.all fun q => decide (q.1 ∈ ns) && nmB q.2) && decide (ps.map (·.1)).Nodup
theorem nodup_inj {α β : Type} {f : α → β} : ∀ {l : List α}, (l.map f).Nodup → ∀ x ∈ l, ∀ y ∈ l, f x = f y → x = y
  | [], _, x, hx, _, _, _ => by cases hx
  | a :: l, h, x, hx, y, hy, e => by
    rw [List.map_cons, List.nodup_cons] at h
    rcases List.mem_cons.mp hx with q | q <;> rcases List.mem_cons.mp hy with r | r
    · rw [q, r]
    · exact absurd (List.mem_map.mpr ⟨y, r, by rw [← e, q]⟩) h.1
    · exact absurd (List.mem_map.mpr ⟨x, q, by rw [e, r]⟩) h.1
    · exact nodup_inj h.2 x q y r e
theorem Rn.of {ns : List Str} {ps : List (Str × Str)} (h : rnB ns ps = true) : Rn ns ps := by
  unfold rnB at h
  rw [Bool.and_eq_true, Bool.and_eq_true, Bool.and_eq_true] at h
  obtain ⟨⟨⟨h1, h2⟩, h3⟩, h4⟩ := h
  refine ⟨nodup_inj (of_decide_eq_true h1), fun x hx => nm_of (List.all_eq_true.mp h2 x hx), fun q hq => ?_, of_decide_eq_true h4⟩
  have := List.all_eq_true.mp h3 q hq
  rw [Bool.and_eq_true] at this
  exact ⟨of_decide_eq_true this.1, nm_of this.2⟩
section
variable {p : Party} {ns ms : List Str} {ps qs rs : List (Str × Str)} {m : Int}
theorem Rn.ren (r : Rn ns ps) (hn : names p = ns) : Ren p (fOf ps) := ⟨by rw [hn]; exact r.inj, by rw [hn]; exact r.nm⟩
theorem Rn.of_ (r : Rn ns ps) (h : PartyOk p) (hn : names p = ns) : RenOf p ps (fOf ps) := ⟨h, r.ren hn, by rw [hn]; exact r.keys, r.nd, fun _ _ => rfl⟩
theorem Rn.nms (r : Rn ns ps) (h : PartyOk p) (hn : names p = ns) (hp : (ns.map (fOf ps)).Perm ms) (ha : Asc ms) : names (p.ren (fOf ps)) = ms :=
  asc_eq (ren_ok h (r.ren hn)).asc ha ((ren_names h (r.ren hn)).trans (by rw [hn]; exact hp))
theorem Rn.two (r : Rn ns ps) (r2 : Rn ms qs) (h : PartyOk p) (hn : names p = ns) (hm : names (p.ren (fOf ps)) = ms) (e : ns.map (fun x => fOf qs (fOf ps x)) = ns.map (fOf rs)) : (p.ren (fOf ps)).ren (fOf qs) = p.ren (fOf rs) := by
  rw [ren_ren h (r.ren hn) (r2.ren hm)]
  exact ren_congr h fun x hx => List.map_inj_left.mp e x (by rw [← hn]; exact hx)
theorem Rn.back (r : Rn ns ps) (r2 : Rn ms qs) (h : PartyOk p) (hn : names p = ns) (hm : names (p.ren (fOf ps)) = ms) (e : ns.map (fun x => fOf qs (fOf ps x)) = ns) : (p.ren (fOf ps)).ren (fOf qs) = p := by
  rw [ren_ren h (r.ren hn) (r2.ren hm)]
  exact (ren_congr (g := id) h fun x hx => List.map_inj_left.mp (e.trans (List.map_id ns).symm) x (by rw [← hn]; exact hx)).trans (ren_id h)
theorem Rn.same (h : PartyOk p) (e : names p = ns) (e2 : ns.map (fOf ps) = ns) : p.ren (fOf ps) = p := by
  refine (ren_congr (g := id) h fun x hx => List.map_inj_left.mp (e2.trans (List.map_id ns).symm) x (by rw [← e]; exact hx)).trans (ren_id h)
theorem Rn.rows (r : Rn ns ps) (h : PartyOk p) (hn : names p = ns) (ha : Asc (ns.map (fOf ps))) : (p.ren (fOf ps)).rows = p.rows.map (Row.ren (fOf ps)) := by
  have e : (p.rows.map (Row.ren (fOf ps))).map Row.nm = ns.map (fOf ps) := by rw [← hn]; simp [names, Row.ren]
  exact rows_eq (sortR_asc ((r.ren hn).rows h)) (asc_rows.mp (by rw [e]; exact ha)) sortD_perm
end
def ascB : List Str → Bool
  | [] => true
  | x :: xs => (xs.all fun y => decide (TL.tl x < TL.tl y)) && ascB xs
theorem asc_of : ∀ {xs : List Str}, ascB xs = true → Asc xs
  | [], _ => .nil
  | x :: xs, h => by
    rw [ascB, Bool.and_eq_true] at h
    exact .cons (fun y hy => of_decide_eq_true (List.all_eq_true.mp h.1 y hy)) (asc_of h.2)
/-! the eight renamings -/
def pRing : List (Str × Str) := ks0.zip ["b", "bob", "cy", "dan", "zzzzzzzz", "ann"]
def pRingB : List (Str × Str) := ks1.zip ["ann", "b", "bob", "cy", "dan", "zzzzzzzz"]
def pFresh : List (Str × Str) := ks0.zip ["pa", "qa", "ra", "sa", "ta", "ua"]
def pHalf1 : List (Str × Str) := ks2.zip ["pa", "ra", "ta"]
def pHalf2 : List (Str × Str) := ks3.zip ["qa", "sa", "ua"]
def pBack : List (Str × Str) := ks4.zip ["zzzzzzzz", "dan", "cy", "bob", "b", "ann"]
def pMixed : List (Str × Str) := ks0.zip ["ya", "xa", "wa", "va", "oa", "na"]
def pNone : List (Str × Str) := ks5.zip []
def pSwap : List (Str × Str) := ks6.zip ["zq", "b", "cy"]
def pSwap2 : List (Str × Str) := ks7.zip ["cy", "zq", "b"]
def nFresh : List Str := ["pa", "qa", "ra", "sa", "ta", "ua"]
def nHalf : List Str := ["b", "cy", "pa", "ra", "ta", "zzzzzzzz"]
theorem rn_ring : Rn pool6 pRing := .of (by decide +kernel)
theorem rn_ringB : Rn pool6 pRingB := .of (by decide +kernel)
theorem rn_fresh : Rn pool6 pFresh := .of (by decide +kernel)
theorem rn_half1 : Rn pool6 pHalf1 := .of (by decide +kernel)
theorem rn_half2 : Rn nHalf pHalf2 := .of (by decide +kernel)
theorem rn_back : Rn nFresh pBack := .of (by decide +kernel)
theorem rn_mixed : Rn pool6 pMixed := .of (by decide +kernel)
theorem rn_none : Rn pool6 pNone := .of (by decide +kernel)
theorem rn_swap : Rn pool6 pSwap := .of (by decide +kernel)
theorem rn_swap2 : Rn pool6 pSwap2 := .of (by decide +kernel)
section
variable {p : Party}
theorem ring_nms (h : PartyOk p) (hn : names p = pool6) : names (p.ren (fOf pRing)) = pool6 := rn_ring.nms h hn (by decide +kernel) pool6_asc
theorem fresh_nms (h : PartyOk p) (hn : names p = pool6) : names (p.ren (fOf pFresh)) = nFresh := rn_fresh.nms h hn (by decide +kernel) (asc_of (by decide +kernel))
theorem half_nms (h : PartyOk p) (hn : names p = pool6) : names (p.ren (fOf pHalf1)) = nHalf := rn_half1.nms h hn (by decide +kernel) (asc_of (by decide +kernel))
theorem ring_back (h : PartyOk p) (hn : names p = pool6) : (p.ren (fOf pRing)).ren (fOf pRingB) = p := rn_ring.back rn_ringB h hn (ring_nms h hn) (by decide +kernel)
theorem half_fresh (h : PartyOk p) (hn : names p = pool6) : (p.ren (fOf pHalf1)).ren (fOf pHalf2) = p.ren (fOf pFresh) := rn_half1.two rn_half2 h hn (half_nms h hn) (by decide +kernel)
theorem fresh_back (h : PartyOk p) (hn : names p = pool6) : (p.ren (fOf pFresh)).ren (fOf pBack) = p := rn_fresh.back rn_back h hn (fresh_nms h hn) (by decide +kernel)
theorem none_same (h : PartyOk p) (hn : names p = pool6) : p.ren (fOf pNone) = p := Rn.same h hn (by decide +kernel)
theorem fresh_rows (h : PartyOk p) (hn : names p = pool6) : (p.ren (fOf pFresh)).rows = p.rows.map (Row.ren (fOf pFresh)) := rn_fresh.rows h hn (asc_of (by decide +kernel))
theorem swap_same (h : PartyOk p) (hn : names p = pool6) : p.ren (fOf pSwap2) = p.ren (fOf pSwap) := ren_congr h (List.map_inj_left.mp (by rw [hn]; decide +kernel))
end
end Pa
set_option Elab.async false
set_option linter.all false
set_option maxRecDepth 100000
set_option maxHeartbeats 8000000
namespace Pa
open PySem PySem.Spec PyProof.Rows L2 Evl
section
variable {P : Program} {w : World} {K : PySem.W.Frag} {mg : Str → Option Value} {base : Heap}


def gChkN : List D → D → Prop := fun ds d => ∃ p c, ds = [p.d, .tup (minsD p c)] ∧ Fine p ∧ names p = pool6 ∧ IsCase p c ∧ (∀ r ∈ p.rows, 0 ≤ c r.nm) ∧ d = dB true
abbrev cut5 (r : Row) : D := .tup [dI r.fst, dI r.lst, dS r.kind, dI r.pat]
theorem cuts_tu {rs : List Row} : D.tus (rs.map cut5) = true := tus_all fun d hd => by
  obtain ⟨x, _, rfl⟩ := List.mem_map.mp hd
  rfl
theorem cuts_ok {p : Party} (h : PartyOk p) : D.ok 2 (.lst (p.rows.map cut5)) = true := by
  rw [D.ok]
  refine oks_all fun d hd => ?_
  obtain ⟨x, hx, rfl⟩ := List.mem_map.mp hd
  exact cut_okD (h.row x hx).kd
theorem pool_ring : D.lst (cutD (sD pool6) (some 1) none ++ cutD (sD pool6) none (some 1)) = .lst (sD (pool6.map (fOf pRing))) := by
  have e : pool6.map (fOf pRing) = (["b", "bob", "cy", "dan", "zzzzzzzz", "ann"] : List Str) := by decide +kernel
  rw [e]
  rfl
theorem pool_fresh : D.lst [dS "pa", dS "qa", dS "ra", dS "sa", dS "ta", dS "ua"] = .lst (sD (pool6.map (fOf pFresh))) := by
  have e : pool6.map (fOf pFresh) = nFresh := by decide +kernel
  rw [e]
  rfl
theorem pool_mixed : D.lst [dS "ya", dS "xa", dS "wa", dS "va", dS "oa", dS "na"] = .lst (sD (pool6.map (fOf pMixed))) := by
  have e : pool6.map (fOf pMixed) = (["ya", "xa", "wa", "va", "oa", "na"] : List Str) := by decide +kernel
  rw [e]
  rfl

theorem sc__law_check_names : FnScope ["_law_party_now", "_law_least", "_law_pool", "_law_ring", "_law_fresh", "_law_half", "_law_back", "_law_mixed", "_law_entry"] ["_law_party_now", "_law_least"] d__law_check_names.scope := ⟨rfl, rfl, rfl, by decide +kernel, rfl, by decide +kernel, by decide +kernel⟩
theorem ok__law_check_names (T : Wd K mg base) : C8.Cal theP w K mg base (10 + 1) "_law_check_names" (spD K gChkN) [] := by
  refine cal_of T 57 73 (d := d__law_check_names) rfl rfl rfl rfl rfl sc__law_check_names (spD_len fun ds d ⟨_, _, e, _⟩ => by rw [e]; rfl) (fun _ _ _ _ _ _ us hl => match us, hl with | [_, _], _ => rfl) fun cdv A outer s H vs Q E hr h => ?_
  refine ⟨_, (pss_cons (ps_set (i := 2) sc__law_check_names.nd rfl (by first | exact Or.inl rfl | exact Or.inr rfl) (pe_lst (pa_cons pe_str (pa_cons pe_str (pa_cons pe_str (pa_cons pe_str (pa_cons pe_str (pa_cons pe_str pa_nil))))))))
    (pss_cons (ps_set (i := 3) sc__law_check_names.nd rfl (by first | exact Or.inl rfl | exact Or.inr rfl) (pe_ren (P := theP) (w := w) (K := K) (mg := mg) (base := base) rfl rfl rfl rfl rfl T (ks := ks0) (by decide) (by decide) kb0 hr (by decide) rfl (pa_cons (pv 0) pa_nil) (pk_cons pe_str (pk_cons pe_str (pk_cons pe_str (pk_cons pe_str (pk_cons pe_str (pk_cons pe_str pk_nil))))))))
    (pss_cons (ps_if (pt_not (pt_val (C8.pe_c (ok__law_check_renamed T) hr (by decide) rfl (pa_cons (pv 0) (pa_cons (pv 3) (pa_cons (pe_op (z_add (K := K) rfl) (pe_slice (z_sl (K := K) rfl) (pv 2) (po_some pe_int) po_none) (pe_slice (z_sl (K := K) rfl) (pv 2) po_none (po_some pe_int))) (pa_cons (pv 1) pa_nil))))))) (pss_one (ps_ret pe_bl)) pss_nil)
    (pss_cons (ps_if (pt_cmpR (z_ne (K := K) hr.units rfl) (pe_ren (P := theP) (w := w) (K := K) (mg := mg) (base := base) rfl rfl rfl rfl rfl T (ks := ks1) (by decide) (by decide) kb1 hr (by decide) rfl (pa_cons (pv 3) pa_nil) (pk_cons pe_str (pk_cons pe_str (pk_cons pe_str (pk_cons pe_str (pk_cons pe_str (pk_cons pe_str pk_nil))))))) (pv 0) (nomark _)) (pss_one (ps_ret pe_bl)) pss_nil)
    (pss_cons (ps_set (i := 4) sc__law_check_names.nd rfl (by first | exact Or.inl rfl | exact Or.inr rfl) (pe_ren (P := theP) (w := w) (K := K) (mg := mg) (base := base) rfl rfl rfl rfl rfl T (ks := ks0) (by decide) (by decide) kb0 hr (by decide) rfl (pa_cons (pv 0) pa_nil) (pk_cons pe_str (pk_cons pe_str (pk_cons pe_str (pk_cons pe_str (pk_cons pe_str (pk_cons pe_str pk_nil))))))))
    (pss_cons (ps_if (pt_not (pt_val (C8.pe_c (ok__law_check_renamed T) hr (by decide) rfl (pa_cons (pv 0) (pa_cons (pv 4) (pa_cons (pe_lst (pa_cons pe_str (pa_cons pe_str (pa_cons pe_str (pa_cons pe_str (pa_cons pe_str (pa_cons pe_str pa_nil))))))) (pa_cons (pv 1) pa_nil))))))) (pss_one (ps_ret pe_bl)) pss_nil)
    (pss_cons (ps_if (pt_cmpR (z_ne (K := K) hr.units rfl) (pe_lc (own := [("_law_entry", 8)]) (by rfl) sc__law_check_names.nd (zi_any (K := K) rfl (pe_ix (z_ix (K := K) rfl) (pv 4) pe_int (fun _ _ => rfl))) (blkOk_by (own := [("_law_entry", 8)]) (N := ["_law_party_now", "_law_least", "_law_pool", "_law_ring", "_law_fresh", "_law_half", "_law_back", "_law_mixed", "_law_entry"]) (sc := d__law_check_names.scope) (by decide +kernel)) (fun _ _ _ _ _ => (pg_name (i := 8) sc__law_check_names.nd rfl (by first | exact Or.inl rfl | exact Or.inr rfl))) (fun _ _ _ _ _ => pts_nil) (fun _ _ _ _ _ => (pe_slice (z_sl (K := K) rfl) (pv 8) (po_some pe_int) (po_some pe_int)))) (pe_lc (own := [("_law_entry", 8)]) (by rfl) sc__law_check_names.nd (zi_any (K := K) rfl (pe_ix (z_ix (K := K) rfl) (pv 0) pe_int (fun _ _ => rfl))) (blkOk_by (own := [("_law_entry", 8)]) (N := ["_law_party_now", "_law_least", "_law_pool", "_law_ring", "_law_fresh", "_law_half", "_law_back", "_law_mixed", "_law_entry"]) (sc := d__law_check_names.scope) (by decide +kernel)) (fun _ _ _ _ _ => (pg_name (i := 8) sc__law_check_names.nd rfl (by first | exact Or.inl rfl | exact Or.inr rfl))) (fun _ _ _ _ _ => pts_nil) (fun _ _ _ _ _ => (pe_slice (z_sl (K := K) rfl) (pv 8) (po_some pe_int) (po_some pe_int)))) (nomark _)) (pss_one (ps_ret pe_bl)) pss_nil)
    (pss_cons (ps_set (i := 5) sc__law_check_names.nd rfl (by first | exact Or.inl rfl | exact Or.inr rfl) (pe_ren (P := theP) (w := w) (K := K) (mg := mg) (base := base) rfl rfl rfl rfl rfl T (ks := ks3) (by decide) (by decide) kb3 hr (by decide) rfl (pa_cons (pe_ren (P := theP) (w := w) (K := K) (mg := mg) (base := base) rfl rfl rfl rfl rfl T (ks := ks2) (by decide) (by decide) kb2 hr (by decide) rfl (pa_cons (pv 0) pa_nil) (pk_cons pe_str (pk_cons pe_str (pk_cons pe_str pk_nil)))) pa_nil) (pk_cons pe_str (pk_cons pe_str (pk_cons pe_str pk_nil)))))
    (pss_cons (ps_set (i := 6) sc__law_check_names.nd rfl (by first | exact Or.inl rfl | exact Or.inr rfl) (pe_ren (P := theP) (w := w) (K := K) (mg := mg) (base := base) rfl rfl rfl rfl rfl T (ks := ks4) (by decide) (by decide) kb4 hr (by decide) rfl (pa_cons (pv 4) pa_nil) (pk_cons pe_str (pk_cons pe_str (pk_cons pe_str (pk_cons pe_str (pk_cons pe_str (pk_cons pe_str pk_nil))))))))
    (pss_cons (ps_set (i := 7) sc__law_check_names.nd rfl (by first | exact Or.inl rfl | exact Or.inr rfl) (pe_ren (P := theP) (w := w) (K := K) (mg := mg) (base := base) rfl rfl rfl rfl rfl T (ks := ks0) (by decide) (by decide) kb0 hr (by decide) rfl (pa_cons (pv 0) pa_nil) (pk_cons pe_str (pk_cons pe_str (pk_cons pe_str (pk_cons pe_str (pk_cons pe_str (pk_cons pe_str pk_nil))))))))
    (pss_cons (ps_if (pt_not (pt_val (C8.pe_c (ok__law_check_renamed T) hr (by decide) rfl (pa_cons (pv 0) (pa_cons (pv 7) (pa_cons (pe_lst (pa_cons pe_str (pa_cons pe_str (pa_cons pe_str (pa_cons pe_str (pa_cons pe_str (pa_cons pe_str pa_nil))))))) (pa_cons (pv 1) pa_nil))))))) (pss_one (ps_ret pe_bl)) pss_nil)
    (pss_one (ps_ret (pe_and (pe_cmpR (z_eq (K := K) hr.units rfl) (pv 5) (pv 4) (nomark _)) (pe_and (pe_cmpR (z_eq (K := K) hr.units rfl) (pv 6) (pv 0) (nomark _)) (pe_one (pe_cmpR (z_eq (K := K) hr.units rfl) (pe_ren (P := theP) (w := w) (K := K) (mg := mg) (base := base) rfl rfl rfl rfl rfl T (ks := ks5) (by decide) (by decide) kb5 hr (by decide) rfl (pa_cons (pv 0) pa_nil) pk_nil) (pv 0) (nomark _)))))))))))))))))), ?_⟩
  obtain ⟨ds, d, rr, ⟨p, c, rfl, hp, hn, hc, hc0, rfl⟩, q⟩ := h
  refine ro_fun ?_ rr q
  have hring := hp.ren (rn_ring.ren hn)
  have hfresh := hp.ren (rn_fresh.ren hn)
  have hhalf := hp.ren (rn_half1.ren hn)
  refine ro_s (ro_set (d := .lst (sD pool6)) (ee_lst (es_cons ee_c (es_cons ee_c (es_cons ee_c (es_cons ee_c (es_cons ee_c (es_cons ee_c es_nil)))))) (by decide)) (.inr rfl) rfl) ?_
  refine ro_s (ro_set (ee_ren (ks := ks0) (vals := ["b", "bob", "cy", "dan", "zzzzzzzz", "ann"]) (es_cons (ee_var rfl) es_nil) (es_cons ee_c (es_cons ee_c (es_cons ee_c (es_cons ee_c (es_cons ee_c (es_cons ee_c es_nil)))))) rfl (rn_ring.of_ hp.ok hn)) (.inr rfl) rfl) ?_
  refine ro_s (ro_ifF (te_is (te_not (te_B (ee_call (es_cons (ee_var rfl) (es_cons (ee_var rfl) (es_cons (ee_is (ee_op (ee_slL (ee_var rfl) (eo_some ee_c) eo_non) (ee_slL (ee_var rfl) eo_non (eo_some ee_c)) fun _ => rd_addL (by decide)) pool_ring) (es_cons (ee_var rfl) es_nil)))) ⟨p, fOf pRing, c, pool6.map (fOf pRing), rfl, rfl, hp, hn, rn_ring.ren hn, hc, hc0, rfl⟩))) (m := false) rfl) (ro_next rfl)) ?_
  refine ro_s (ro_ifF (te_test (ee_op (ee_is (ee_ren (ks := ks1) (vals := ["ann", "b", "bob", "cy", "dan", "zzzzzzzz"]) (es_cons (ee_var rfl) es_nil) (es_cons ee_c (es_cons ee_c (es_cons ee_c (es_cons ee_c (es_cons ee_c (es_cons ee_c es_nil)))))) rfl (rn_ringB.of_ hring.ok (ring_nms hp.ok hn))) (congrArg Party.d (ring_back hp.ok hn))) (ee_var rfl) fun _ => rd_neS (party_okD hp.ok) (by decide))) (ro_next rfl)) ?_
  refine ro_s (ro_set (ee_ren (ks := ks0) (vals := ["pa", "qa", "ra", "sa", "ta", "ua"]) (es_cons (ee_var rfl) es_nil) (es_cons ee_c (es_cons ee_c (es_cons ee_c (es_cons ee_c (es_cons ee_c (es_cons ee_c es_nil)))))) rfl (rn_fresh.of_ hp.ok hn)) (.inr rfl) rfl) ?_
  refine ro_s (ro_ifF (te_is (te_not (te_B (ee_call (es_cons (ee_var rfl) (es_cons (ee_var rfl) (es_cons (ee_is (ee_lst (es_cons ee_c (es_cons ee_c (es_cons ee_c (es_cons ee_c (es_cons ee_c (es_cons ee_c es_nil)))))) (by decide)) pool_fresh) (es_cons (ee_var rfl) es_nil)))) ⟨p, fOf pFresh, c, pool6.map (fOf pFresh), rfl, rfl, hp, hn, rn_fresh.ren hn, hc, hc0, rfl⟩))) (m := false) rfl) (ro_next rfl)) ?_
  have hfr := fresh_rows hp.ok hn
  have h6 := hp.six
  have cuts : ∀ (i : Nat) (d e : D) (z : Party) (te : D → Env), True := fun _ _ _ _ _ => trivial
  refine ro_s (ro_ifF (te_test (ee_op (ee_lcL (es := p.rows.map cut5) (wke_t (ee_op (ee_var rfl) ee_c fun _ => rd_ixX (n := 0) rfl rfl)) (by simp [hfresh.six]) (by simp) (by simp [h6, hfresh.six]) cuts_tu fun i d e hd he => ?_) (ee_lcL (es := p.rows.map cut5) (wke_t (ee_op (ee_var rfl) ee_c fun _ => rd_ixX (n := 0) rfl rfl)) (by simp [h6]) (by simp) (by simp) cuts_tu fun i d e hd he => ?_) fun _ => rd_neS (cuts_ok hp.ok) (by decide))) (ro_next rfl)) ?_
  · obtain ⟨r, hr, rfl⟩ := map_get hd
    rw [hfr, List.getElem?_map] at hr
    obtain ⟨y, hy, rfl⟩ := Option.map_eq_some_iff.mp hr
    rw [List.getElem?_map, hy] at he
    cases he
    exact ee_is (ee_slT (ee_var rfl) (eo_some ee_c) (eo_some ee_c)) rfl
  · obtain ⟨r, hr, rfl⟩ := map_get hd
    rw [List.getElem?_map, hr] at he
    cases he
    exact ee_is (ee_slT (ee_var rfl) (eo_some ee_c) (eo_some ee_c)) rfl
  refine ro_s (ro_set (ee_is (ee_ren (ks := ks3) (vals := ["qa", "sa", "ua"]) (es_cons (ee_ren (ks := ks2) (vals := ["pa", "ra", "ta"]) (es_cons (ee_var rfl) es_nil) (es_cons ee_c (es_cons ee_c (es_cons ee_c es_nil))) rfl (rn_half1.of_ hp.ok hn)) es_nil) (es_cons ee_c (es_cons ee_c (es_cons ee_c es_nil))) rfl (rn_half2.of_ hhalf.ok (half_nms hp.ok hn))) (congrArg Party.d (half_fresh hp.ok hn))) (.inr rfl) rfl) ?_
  refine ro_s (ro_set (ee_is (ee_ren (ks := ks4) (vals := ["zzzzzzzz", "dan", "cy", "bob", "b", "ann"]) (es_cons (ee_var rfl) es_nil) (es_cons ee_c (es_cons ee_c (es_cons ee_c (es_cons ee_c (es_cons ee_c (es_cons ee_c es_nil)))))) rfl (rn_back.of_ hfresh.ok (fresh_nms hp.ok hn))) (congrArg Party.d (fresh_back hp.ok hn))) (.inr rfl) rfl) ?_
  refine ro_s (ro_set (ee_ren (ks := ks0) (vals := ["ya", "xa", "wa", "va", "oa", "na"]) (es_cons (ee_var rfl) es_nil) (es_cons ee_c (es_cons ee_c (es_cons ee_c (es_cons ee_c (es_cons ee_c (es_cons ee_c es_nil)))))) rfl (rn_mixed.of_ hp.ok hn)) (.inr rfl) rfl) ?_
  refine ro_s (ro_ifF (te_is (te_not (te_B (ee_call (es_cons (ee_var rfl) (es_cons (ee_var rfl) (es_cons (ee_is (ee_lst (es_cons ee_c (es_cons ee_c (es_cons ee_c (es_cons ee_c (es_cons ee_c (es_cons ee_c es_nil)))))) (by decide)) pool_mixed) (es_cons (ee_var rfl) es_nil)))) ⟨p, fOf pMixed, c, pool6.map (fOf pMixed), rfl, rfl, hp, hn, rn_mixed.ren hn, hc, hc0, rfl⟩))) (m := false) rfl) (ro_next rfl)) ?_
  exact ro_ret (ee_is (ee_and (k := true) (ee_op (ee_var rfl) (ee_var rfl) fun _ => rd_eqS (party_okD hfresh.ok) (by decide)) fun _ => ee_and (k := true) (ee_op (ee_var rfl) (ee_var rfl) fun _ => rd_eqS (party_okD hp.ok) (by decide)) fun _ => ee_op (ee_is (ee_ren (ks := ks5) (vals := []) (es_cons (ee_var rfl) es_nil) es_nil rfl (rn_none.of_ hp.ok hn)) (congrArg Party.d (none_same hp.ok hn))) (ee_var rfl) fun _ => rd_eqS (party_okD hp.ok) (by decide)) (d' := dB true) rfl) (.inr rfl) rfl
end
end Pa
set_option Elab.async false
set_option linter.all false
set_option maxRecDepth 100000
set_option maxHeartbeats 8000000
namespace Pa
open PySem PySem.Spec PyProof.Rows L2 Evl
section
variable {P : Program} {w : World} {K : PySem.W.Frag} {mg : Str → Option Value} {base : Heap}


def gChkL : List D → D → Prop := fun ds d => ∃ p c, ∃ m : Int, ds = [p.d, dI m, .tup (minsD p c)] ∧ Fine p ∧ Small p ∧ names p = pool6 ∧ IsCase p c ∧ (∀ r ∈ p.rows, 0 ≤ c r.nm) ∧ 0 ≤ m ∧ m ≤ 100 ∧ d = dB true
abbrev cut3 (r : Row) : D := .tup [dI r.fst, dI r.lst]
theorem cuts3_tu {rs : List Row} : D.tus (rs.map cut3) = true := tus_all fun d hd => by
  obtain ⟨x, _, rfl⟩ := List.mem_map.mp hd
  rfl
theorem cuts3_ok {rs : List Row} : D.ok 2 (.lst (rs.map cut3)) = true := by
  rw [D.ok]
  refine oks_all fun d hd => ?_
  obtain ⟨x, hx, rfl⟩ := List.mem_map.mp hd
  rfl
theorem fmt8_ok {x : Str} (h : isNm x) : PyData.strOk (fmt8 x) = true := by
  have h0 := isNm_ok h
  unfold PyData.strOk at h0 ⊢
  rw [← Array.all_toList, List.all_eq_true] at h0 ⊢
  intro c hc
  have hc' : c ∈ TL.tl (fmt8 x) := hc
  rw [fmt8_tl] at hc'
  rcases List.mem_append.mp hc' with hc' | hc'
  · exact h0 c hc'
  · rw [List.eq_of_mem_replicate hc']
    decide
abbrev line8 (r : Row) : D := dS (fmt8 r.nm)
theorem lines8_tu {rs : List Row} : D.tus (rs.map line8) = true := tus_all fun d hd => by
  obtain ⟨x, _, rfl⟩ := List.mem_map.mp hd
  rfl
theorem lines8_ok {rs : List Row} (h : ∀ r ∈ rs, isNm r.nm) : D.ok 1 (.lst (rs.map line8)) = true := by
  rw [D.ok]
  refine oks_all fun d hd => ?_
  obtain ⟨x, hx, rfl⟩ := List.mem_map.mp hd
  rw [D.ok]
  exact fmt8_ok (h x hx)

theorem sc__law_check_later : FnScope ["_law_party_now", "_law_minutes", "_law_least", "_law_pool", "_law_moved", "_law_case_then", "_law_one", "_law_row", "_law_end_now", "_law_line_now"] ["_law_party_now", "_law_minutes", "_law_least"] d__law_check_later.scope := ⟨rfl, rfl, rfl, by decide +kernel, rfl, by decide +kernel, by decide +kernel⟩
theorem ok__law_check_later (T : Wd K mg base) : C8.Cal theP w K mg base (10 + 1) "_law_check_later" (spD K gChkL) [] := by
  refine cal_of T 58 74 (d := d__law_check_later) rfl rfl rfl rfl rfl sc__law_check_later (spD_len fun ds d ⟨_, _, _, e, _⟩ => by rw [e]; rfl) (fun _ _ _ _ _ _ us hl => match us, hl with | [_, _, _], _ => rfl) fun cdv A outer s H vs Q E hr h => ?_
  refine ⟨_, (pss_cons (ps_par (i := 3) (j := 4) (by rfl) sc__law_check_later.nd rfl rfl (by decide) rfl rfl (pa_cons (pe_lst (pa_cons pe_str (pa_cons pe_str (pa_cons pe_str (pa_cons pe_str (pa_cons pe_str (pa_cons pe_str pa_nil))))))) (pa_cons (C8.pe_c (ok_later T) hr (by decide) rfl (pa_cons (pv 0) (pa_cons (pv 1) pa_nil))) pa_nil)) (by rfl))
    (pss_cons (ps_set (i := 5) sc__law_check_later.nd rfl (by first | exact Or.inl rfl | exact Or.inr rfl) (pe_callTy (z_tup (K := K) rfl) (by rfl) T.g_tuple (by decide +kernel) (pa_cons (pe_lc (own := [("_law_one", 6)]) (by rfl) sc__law_check_later.nd (zi_any (K := K) rfl (pv 2)) (blkOk_by (own := [("_law_one", 6)]) (N := ["_law_party_now", "_law_minutes", "_law_least", "_law_pool", "_law_moved", "_law_case_then", "_law_one", "_law_row", "_law_end_now", "_law_line_now"]) (sc := d__law_check_later.scope) (by decide +kernel)) (fun _ _ _ _ _ => (pg_name (i := 6) sc__law_check_later.nd rfl (by first | exact Or.inl rfl | exact Or.inr rfl))) (fun _ _ _ _ _ => pts_nil) (fun _ _ _ _ _ => (pe_op (z_add (K := K) rfl) (pv 6) (pv 1)))) pa_nil)))
    (pss_cons (ps_if (PW.pt (pw_or (pt_cmpR (z_ne (K := K) hr.units rfl) (C8.pe_c (ok_lets_party T) hr (by decide) rfl (pa_cons (pv 4) pa_nil)) pe_int (nomark _)) (pw_or1 (pt_cmpR (z_ne (K := K) hr.units rfl) (C8.pe_c (ok_lets_case T) hr (by decide) rfl (pa_cons (pv 4) (pa_cons (pv 5) pa_nil))) (pe_op (z_add (K := K) rfl) (pe_callB (z_maxT (K := K) rfl rfl) (by rfl) T.g_max (by decide +kernel) (pa_cons (pv 2) pa_nil)) (pv 1)) (nomark _))))) (pss_one (ps_ret pe_bl)) pss_nil)
    (pss_cons (ps_if (PW.pt (pw_or (pt_cmpR (z_ne (K := K) hr.units rfl) (C8.pe_c (ok_later T) hr (by decide) rfl (pa_cons (pv 0) (pa_cons pe_int pa_nil))) (pv 0) (nomark _)) (pw_or1 (pt_cmpR (z_ne (K := K) hr.units rfl) (C8.pe_c (ok_later T) hr (by decide) rfl (pa_cons (C8.pe_c (ok_later T) hr (by decide) rfl (pa_cons (pv 0) (pa_cons pe_int pa_nil))) (pa_cons (pv 1) pa_nil))) (C8.pe_c (ok_later T) hr (by decide) rfl (pa_cons (pv 0) (pa_cons (pe_op (z_add (K := K) rfl) (pv 1) pe_int) pa_nil))) (nomark _))))) (pss_one (ps_ret pe_bl)) pss_nil)
    (pss_cons (ps_if (pt_cmpR (z_ne (K := K) hr.units rfl) (pe_lc (own := [("_law_row", 7)]) (by rfl) sc__law_check_later.nd (zi_any (K := K) rfl (pe_ix (z_ix (K := K) rfl) (pv 4) pe_int (fun _ _ => rfl))) (blkOk_by (own := [("_law_row", 7)]) (N := ["_law_party_now", "_law_minutes", "_law_least", "_law_pool", "_law_moved", "_law_case_then", "_law_one", "_law_row", "_law_end_now", "_law_line_now"]) (sc := d__law_check_later.scope) (by decide +kernel)) (fun _ _ _ _ _ => (pg_name (i := 7) sc__law_check_later.nd rfl (by first | exact Or.inl rfl | exact Or.inr rfl))) (fun _ _ _ _ _ => pts_nil) (fun _ _ _ _ _ => (pe_tup (pa_cons (pe_op op_sub (pe_ix (z_ix (K := K) rfl) (pv 7) pe_int (fun _ _ => rfl)) (pv 1)) (pa_cons (pe_op op_sub (pe_ix (z_ix (K := K) rfl) (pv 7) pe_int (fun _ _ => rfl)) (pv 1)) pa_nil))))) (pe_lc (own := [("_law_row", 7)]) (by rfl) sc__law_check_later.nd (zi_any (K := K) rfl (pe_ix (z_ix (K := K) rfl) (pv 0) pe_int (fun _ _ => rfl))) (blkOk_by (own := [("_law_row", 7)]) (N := ["_law_party_now", "_law_minutes", "_law_least", "_law_pool", "_law_moved", "_law_case_then", "_law_one", "_law_row", "_law_end_now", "_law_line_now"]) (sc := d__law_check_later.scope) (by decide +kernel)) (fun _ _ _ _ _ => (pg_name (i := 7) sc__law_check_later.nd rfl (by first | exact Or.inl rfl | exact Or.inr rfl))) (fun _ _ _ _ _ => pts_nil) (fun _ _ _ _ _ => (pe_slice (z_sl (K := K) rfl) (pv 7) (po_some pe_int) (po_some pe_int)))) (nomark _)) (pss_one (ps_ret pe_bl)) pss_nil)
    (pss_cons (ps_if (pt_cmpR (z_ne (K := K) hr.units rfl) (C8.pe_c (ok_later T) hr (by decide) rfl (pa_cons (pe_ren (P := theP) (w := w) (K := K) (mg := mg) (base := base) rfl rfl rfl rfl rfl T (ks := ks6) (by decide) (by decide) kb6 hr (by decide) rfl (pa_cons (pv 0) pa_nil) (pk_cons pe_str (pk_cons pe_str (pk_cons pe_str pk_nil)))) (pa_cons (pv 1) pa_nil))) (pe_ren (P := theP) (w := w) (K := K) (mg := mg) (base := base) rfl rfl rfl rfl rfl T (ks := ks7) (by decide) (by decide) kb7 hr (by decide) rfl (pa_cons (pv 4) pa_nil) (pk_cons pe_str (pk_cons pe_str (pk_cons pe_str pk_nil)))) (nomark _)) (pss_one (ps_ret pe_bl)) pss_nil)
    (pss_cons (ps_if (pt_cmpR (z_ne (K := K) hr.units rfl) (pe_lc (own := [("_law_end_now", 8)]) (by rfl) sc__law_check_later.nd (zi_any (K := K) rfl (C8.pe_c (ok__law_ends T) hr (by decide) rfl (pa_cons (pv 0) (pa_cons (pv 3) (pa_cons pe_int pa_nil))))) (blkOk_by (own := [("_law_end_now", 8)]) (N := ["_law_party_now", "_law_minutes", "_law_least", "_law_pool", "_law_moved", "_law_case_then", "_law_one", "_law_row", "_law_end_now", "_law_line_now"]) (sc := d__law_check_later.scope) (by decide +kernel)) (fun _ _ _ _ _ => (pg_name (i := 8) sc__law_check_later.nd rfl (by first | exact Or.inl rfl | exact Or.inr rfl))) (fun _ _ _ _ _ => pts_nil) (fun _ _ _ _ _ => (pe_op (z_add (K := K) rfl) (pv 8) (pv 1)))) (C8.pe_c (ok__law_ends T) hr (by decide) rfl (pa_cons (pv 4) (pa_cons (pv 3) (pa_cons (pv 1) pa_nil)))) (nomark _)) (pss_one (ps_ret pe_bl)) pss_nil)
    (pss_cons (ps_if (PW.pt (pw_or (pt_cmpR (z_ne (K := K) hr.units rfl) (C8.pe_c (ok_party_read T) hr (by decide) rfl (pa_cons (C8.pe_c (ok_party_text T) hr (by decide) rfl (pa_cons (pv 4) pa_nil)) pa_nil)) (pv 4) (nomark _)) (pw_or (pt_cmpR (z_ne (K := K) hr.units rfl) (pe_ix (z_ix (K := K) rfl) (pv 4) pe_int (fun _ _ => rfl)) (pe_ix (z_ix (K := K) rfl) (pv 0) pe_int (fun _ _ => rfl)) (nomark _)) (pw_or1 (pt_cmpR (z_ne (K := K) hr.units rfl) (pe_ix (z_ix (K := K) rfl) (pv 4) pe_int (fun _ _ => rfl)) (pe_op (z_add (K := K) rfl) (pe_ix (z_ix (K := K) rfl) (pv 0) pe_int (fun _ _ => rfl)) (pv 1)) (nomark _)))))) (pss_one (ps_ret pe_bl)) pss_nil)
    (pss_one (ps_ret (pe_cmpR (z_eq (K := K) hr.units rfl) (pe_lc (own := [("_law_line_now", 9)]) (by rfl) sc__law_check_later.nd (zi_any (K := K) rfl (C8.pe_c (ok_party_table T) hr (by decide) rfl (pa_cons (pv 4) pa_nil))) (blkOk_by (own := [("_law_line_now", 9)]) (N := ["_law_party_now", "_law_minutes", "_law_least", "_law_pool", "_law_moved", "_law_case_then", "_law_one", "_law_row", "_law_end_now", "_law_line_now"]) (sc := d__law_check_later.scope) (by decide +kernel)) (fun _ _ _ _ _ => (pg_name (i := 9) sc__law_check_later.nd rfl (by first | exact Or.inl rfl | exact Or.inr rfl))) (fun _ _ _ _ _ => pts_nil) (fun _ _ _ _ _ => (pe_slice (z_sl (K := K) rfl) (pv 9) po_none (po_some pe_int)))) (pe_lc (own := [("_law_line_now", 9)]) (by rfl) sc__law_check_later.nd (zi_any (K := K) rfl (C8.pe_c (ok_party_table T) hr (by decide) rfl (pa_cons (pv 0) pa_nil))) (blkOk_by (own := [("_law_line_now", 9)]) (N := ["_law_party_now", "_law_minutes", "_law_least", "_law_pool", "_law_moved", "_law_case_then", "_law_one", "_law_row", "_law_end_now", "_law_line_now"]) (sc := d__law_check_later.scope) (by decide +kernel)) (fun _ _ _ _ _ => (pg_name (i := 9) sc__law_check_later.nd rfl (by first | exact Or.inl rfl | exact Or.inr rfl))) (fun _ _ _ _ _ => pts_nil) (fun _ _ _ _ _ => (pe_slice (z_sl (K := K) rfl) (pv 9) po_none (po_some pe_int)))) (nomark _)))))))))))), ?_⟩
  obtain ⟨ds, d, rr, ⟨p, c, m, rfl, hp, hs, hn, hc, hc0, hm0, hm9, rfl⟩, q⟩ := h
  refine ro_fun ?_ rr q
  have h6 := hp.six
  obtain ⟨z, hz⟩ : ∃ z, z = p.later m := ⟨_, rfl⟩
  have hq : Fine z := by rw [hz]; exact hp.later hs hm0 (by omega)
  have zn : names z = pool6 := by rw [hz, later_names]; exact hn
  have zr : z.rows = p.rows.map (Row.later m) := by rw [hz]; rfl
  have z6 := hq.six
  refine ro_s (ro_par (d := .lst (sD pool6)) (d2 := z.d) (ee_lst (es_cons ee_c (es_cons ee_c (es_cons ee_c (es_cons ee_c (es_cons ee_c (es_cons ee_c es_nil)))))) (by decide)) (.inr rfl) (ee_is (ee_call (es_cons (ee_var rfl) (es_cons (ee_var rfl) es_nil)) ⟨p, m, rfl, by simp [Party.later, hp.six], rfl⟩) (congrArg Party.d hz.symm)) (.inr rfl) rfl) ?_
  have hcz : IsCase z fun x => c x + m := by rw [hz]; exact case_later hc
  have hmz : minsI z (fun x => c x + m) = (minsI p c).map (· + m) := by rw [hz]; exact mins_later
  have hgz : greatest (minsI z fun x => c x + m) = greatest (minsI p c) + m := by rw [hmz]; exact greatest_add (mins_ne hp)
  refine ro_s (ro_set (d := .tup (minsD z fun x => c x + m)) (ee_cb (ds := [.lst (minsD z fun x => c x + m)]) (es_cons (ee_lcL (wke_t (ee_var rfl)) (by simp [minsD, minsI, h6]) (by simp) (by simp [minsD, minsI, h6, z6]) minsD_tus fun i d e hd he => ?_) es_nil) fun _ => rc_tupL) (.inr rfl) rfl) ?_
  · rw [minsD, hmz, List.getElem?_map, List.getElem?_map] at he
    obtain ⟨a, ha, rfl⟩ := map_get hd
    rw [ha] at he
    cases he
    exact ee_op (ee_var rfl) (ee_var rfl) fun _ => rd_addI
  refine ro_s (ro_ifF (te_is (te_or (te_test (ee_op (ee_call (es_cons (ee_var rfl) es_nil) ⟨z, rfl, hq.ok, hq.nu.c0, rfl⟩) ee_c fun _ => rd_neX rfl)) fun _ => te_test (ee_op (ee_call (es_cons (ee_var rfl) (es_cons (ee_var rfl) es_nil)) ⟨z, _, rfl, hq.ok, hcz, fun r hr => ?_, rfl⟩) (ee_op (ee_cb (es_cons (ee_var rfl) es_nil) fun _ => rc_maxT (mins_ne hp)) (ee_var rfl) fun _ => rd_addI) fun _ => rd_neX rfl)) (m := false) (by simp [z6, hgz])) (ro_next rfl)) ?_
  · rw [zr] at hr
    obtain ⟨y, hy, rfl⟩ := List.mem_map.mp hr
    have := hc0 y hy
    show 0 ≤ c y.nm + m
    omega
  refine ro_s (ro_ifF (te_is (te_or (te_test (ee_op (ee_is (ee_call (es_cons (ee_var rfl) (es_cons ee_c es_nil)) ⟨p, 0, rfl, by simp [Party.later, hp.six], rfl⟩) (congrArg Party.d later_zero)) (ee_var rfl) fun _ => rd_neS (party_okD hp.ok) (by decide))) fun _ => te_test (ee_op (ee_is (ee_call (es_cons (ee_call (es_cons (ee_var rfl) (es_cons ee_c es_nil)) ⟨p, 4, rfl, by simp [Party.later, hp.six], rfl⟩) (es_cons (ee_var rfl) es_nil)) ⟨_, m, rfl, by simp [Party.later, hp.six], rfl⟩) (congrArg Party.d later_later)) (ee_call (es_cons (ee_var rfl) (es_cons (ee_op (ee_var rfl) ee_c fun _ => rd_addI) es_nil)) ⟨p, (m + 4), rfl, by simp [Party.later, hp.six], rfl⟩) fun _ => rd_neS (party_okD (later_ok hp.ok (by omega))) (by decide))) (m := false) rfl) (ro_next rfl)) ?_
  refine ro_s (ro_ifF (te_test (ee_op (ee_lcL (es := p.rows.map cut3) (wke_t (ee_op (ee_var rfl) ee_c fun _ => rd_ixX (n := 0) rfl rfl)) (by simp [z6]) (by simp) (by simp [h6, z6]) cuts3_tu fun i d e hd he => ?_) (ee_lcL (es := p.rows.map cut3) (wke_t (ee_op (ee_var rfl) ee_c fun _ => rd_ixX (n := 0) rfl rfl)) (by simp [h6]) (by simp) (by simp) cuts3_tu fun i d e hd he => ?_) fun _ => rd_neS cuts3_ok (by decide))) (ro_next rfl)) ?_
  · obtain ⟨r, hr, rfl⟩ := map_get hd
    rw [zr, List.getElem?_map] at hr
    obtain ⟨y, hy, rfl⟩ := Option.map_eq_some_iff.mp hr
    rw [List.getElem?_map, hy] at he
    cases he
    refine ee_is (ee_tup (es_cons (ee_op (ee_op (ee_var rfl) ee_c fun _ => rd_ixX (n := 1) rfl rfl) (ee_var rfl) fun _ => rd_I0) (es_cons (ee_op (ee_op (ee_var rfl) ee_c fun _ => rd_ixX (n := 2) rfl rfl) (ee_var rfl) fun _ => rd_I0) es_nil)) (by simp)) ?_
    have e1 : y.fst + m - m = y.fst := by omega
    have e2 : y.lst + m - m = y.lst := by omega
    show D.tup [dI (y.fst + m - m), dI (y.lst + m - m)] = _
    rw [e1, e2]
  · obtain ⟨r, hr, rfl⟩ := map_get hd
    rw [List.getElem?_map, hr] at he
    cases he
    exact ee_is (ee_slT (ee_var rfl) (eo_some ee_c) (eo_some ee_c)) rfl
  have hsw : Ren p (fOf pSwap) := rn_swap.ren hn
  have hsl : ((p.ren (fOf pSwap)).later m) = z.ren (fOf pSwap2) := by
    rw [later_ren hp.ok hm0 hsw, ← hz]
    exact (swap_same hq.ok zn).symm
  have hl6 : (p.ren (fOf pSwap)).rows.length ≤ 100 := by rw [ren_len.1, h6]; decide
  refine ro_s (ro_ifF (te_test (ee_op (ee_is (ee_call (es_cons (ee_ren (ks := ks6) (vals := ["zq", "b", "cy"]) (es_cons (ee_var rfl) es_nil) (es_cons ee_c (es_cons ee_c (es_cons ee_c es_nil))) rfl (rn_swap.of_ hp.ok hn)) (es_cons (ee_var rfl) es_nil)) ⟨p.ren (fOf pSwap), m, rfl, hl6, rfl⟩) (congrArg Party.d hsl)) (ee_ren (ks := ks7) (vals := ["cy", "zq", "b"]) (es_cons (ee_var rfl) es_nil) (es_cons ee_c (es_cons ee_c (es_cons ee_c es_nil))) rfl (rn_swap2.of_ hq.ok zn)) fun _ => rd_neS (party_okD (ren_ok hq.ok (rn_swap2.ren zn))) (by decide))) (ro_next rfl)) ?_
  have hee : ∀ x ∈ pool6, endOf z pool6 m x = endOf p pool6 0 x + m := fun x hx => by
    rw [hz]
    exact ends_later hp.ok hm0 (by rw [hn]; exact hx)
  have hin : ∀ x ∈ pool6, x ∈ names p := fun x hx => by rw [hn]; exact hx
  have hinz : ∀ x ∈ pool6, x ∈ names z := fun x hx => by rw [zn]; exact hx
  have hip : ∀ r ∈ p.rows, r.waits.length ≤ 50 := fun r hr => Nat.le_trans (hp.w6 r hr) (by decide)
  have hiz : ∀ r ∈ z.rows, r.waits.length ≤ 50 := fun r hr => Nat.le_trans (hq.w6 r hr) (by decide)
  refine ro_s (ro_ifF (te_test (ee_op (ee_lcL (es := (pool6.map (endOf z pool6 m)).map dI) (wke_l (ee_call (es_cons (ee_var rfl) (es_cons (ee_var rfl) (es_cons ee_c es_nil))) ⟨p, pool6, 0, rfl, hp.ok, hip, hin, by decide, rfl⟩)) (by simp [pool6]) (by simp) (by simp) (tus_all fun d hd => ?_) fun i d e hd he => ?_) (ee_call (es_cons (ee_var rfl) (es_cons (ee_var rfl) (es_cons (ee_var rfl) es_nil))) ⟨z, pool6, m, rfl, hq.ok, hiz, hinz, by decide, rfl⟩) fun _ => rd_neS (ints_ok _) (by decide))) (ro_next rfl)) ?_
  · obtain ⟨x, _, rfl⟩ := List.mem_map.mp hd
    rfl
  · rw [List.map_map] at hd he
    obtain ⟨x, hx, rfl⟩ := map_get hd
    rw [List.getElem?_map, hx] at he
    cases he
    have e := hee x (List.mem_of_getElem? hx)
    show EvE K _ _ (dI (endOf z pool6 m x))
    rw [e]
    exact ee_op (ee_var rfl) (ee_var rfl) fun _ => rd_addI
  have hcl : z.closing = p.closing + m := by rw [hz]; rfl
  have htl : tiesD z.ties = tiesD p.ties := by rw [hz]; rfl
  refine ro_s (ro_ifF (te_is (te_or (te_test (ee_op (ee_call (es_cons (ee_call (es_cons (ee_var rfl) es_nil) ⟨z, rfl, hq.ok, hq.nu, rfl⟩) es_nil) ⟨z, rfl, hq.ok, hq.nu, hq.text, rfl⟩) (ee_var rfl) fun _ => rd_neS (party_okD hq.ok) (by decide))) fun _ => te_or (te_test (ee_op (ee_is (ee_op (ee_var rfl) ee_c fun _ => rd_ixX (n := 1) rfl rfl) (congrArg D.tup htl)) (ee_op (ee_var rfl) ee_c fun _ => rd_ixX (n := 1) rfl rfl) fun _ => rd_neS (n := 3) (d := .tup (tiesD p.ties)) (ties_okN hp.ok) (by decide))) fun _ => te_test (ee_op (ee_op (ee_var rfl) ee_c fun _ => rd_ixX (n := 2) rfl rfl) (ee_op (ee_op (ee_var rfl) ee_c fun _ => rd_ixX (n := 2) rfl rfl) (ee_var rfl) fun _ => rd_addI) fun _ => rd_neX rfl)) (m := false) (by simp [hcl])) (ro_next rfl)) ?_
  have nm8 : ∀ r ∈ p.rows, r.nm.length ≤ 8 := fun r hr => nm_len (hp.ok.row r hr).nm
  refine ro_ret (ee_op (ee_lcL (es := p.rows.map line8) (wke_l (ee_call (es_cons (ee_var rfl) es_nil) ⟨z, rfl, hq.ok, hq.nu, rfl⟩)) (by simp [sD_len, z6]) (by simp) (by simp [sD_len, h6, z6]) lines8_tu fun i d e hd he => ?_) (ee_lcL (es := p.rows.map line8) (wke_l (ee_call (es_cons (ee_var rfl) es_nil) ⟨p, rfl, hp.ok, hp.nu, rfl⟩)) (by simp [sD_len, h6]) (by simp) (by simp [sD_len]) lines8_tu fun i d e hd he => ?_) fun _ => rd_eqS (lines8_ok fun r hr => (hp.ok.row r hr).nm) (by decide)) (.inr rfl) rfl
  · rw [sD, zr, List.map_map, List.map_map] at hd
    obtain ⟨r, hr, rfl⟩ := map_get hd
    rw [List.getElem?_map, hr] at he
    cases he
    have hm := List.mem_of_getElem? hr
    have hmz : r.later m ∈ z.rows := by rw [zr]; exact List.mem_map.mpr ⟨r, hm, rfl⟩
    refine ee_is (ee_slS (w := rowLine (r.later m)) (ee_var rfl) eo_non (eo_some ee_c) (Nat.le_trans (rowLine_le (hq.ok.row _ hmz) (nums_row hq.nu hmz) hq.ok.nms) (by decide))) ?_
    rw [rowLine_8 (r := r.later m) (nm8 r hm)]
    rfl
  · rw [sD, List.map_map] at hd
    obtain ⟨r, hr, rfl⟩ := map_get hd
    rw [List.getElem?_map, hr] at he
    cases he
    have hm := List.mem_of_getElem? hr
    refine ee_is (ee_slS (w := rowLine r) (ee_var rfl) eo_non (eo_some ee_c) (Nat.le_trans (rowLine_le (hp.ok.row _ hm) (nums_row hp.nu hm) hp.ok.nms) (by decide))) ?_
    rw [rowLine_8 (nm8 r hm)]
end
end Pa
set_option Elab.async false
set_option linter.all false
set_option maxRecDepth 100000
set_option maxHeartbeats 8000000
namespace Pa
open PySem PySem.Spec PyProof.Rows L2 Evl
section
variable {P : Program} {w : World} {K : PySem.W.Frag} {mg : Str → Option Value} {base : Heap}


section
variable {ρ ρ' : Enw} {ta tb tc : TE} {P' : D → Enw → Prop} {d1 : D}
/-- a call, the second of three arguments draws -/
theorem oo_call3 {g : List D → D → Prop} {E : XK} (h1 : EvE K ta (vw ρ) d1) (f1 : Fit ρ d1) (h2 : EO K tb ρ fun d2 ρ2 => ∃ d3 d, EvE K tc (vw ρ2) d3 ∧ Fit ρ2 d3 ∧ g [d1, d2, d3] d ∧ Fit ρ2 d ∧ P' d ρ2) : EO K (tCall (spD K g) [] E (tCons ta (tCons tb (tCons tc tNil)))) ρ P' := fun Hs tv td σ H s Q k =>
  s.ev h1 f1 fun v1 H1 _ s1 => h2 Hs _ _ σ H1 s1 _ fun v2 d2 ρ' H2 ⟨d3, d, h3, f3, hg, f, p⟩ s2 => s2.ev h3 f3 fun v3 H3 _ s3 => by
    obtain ⟨H0, eh, s0⟩ := s3
    have t := s0.tmp
    cases t with
    | cons r3 t =>
      cases t with
      | cons r2 t =>
        cases t with
        | cons r1 t =>
          have s4 : StI K H0 ρ' tv td σ H3 := { s0 with tmp := t }
          exact ⟨[d1, d2, d3], d, .cons (r1.mono s0.ex) (.cons (r2.mono s0.ex) (.cons (r3.mono s0.ex) .nil)), hg, fun v H4 e4 r4 => k v d ρ' H4 p ⟨_, eh.trans (s4.growEx e4), (s4.grow e4).push (s4.fit e4 r4 f)⟩⟩
end
theorem ro_run {K : PySem.W.Frag} {t : TS} {ρ : Enw} {N : Enw → Prop} {R : D → Enw → Prop} {Hs H : Hp} {Dn : Ends} {σ : L2.St} (h : RO K t ρ N R) (s : StO K Hs ρ [] [] σ H) (kn : ∀ ρ' σ' H', N ρ' → StO K Hs ρ' [] [] σ' H' → Dn.nx σ' H') (kr : ∀ v d ρ' σ' H', R d ρ' → StO K Hs ρ' [v] [d] σ' H' → Dn.rt v H') : t Dn σ H := h Hs Dn σ H s kn kr
theorem fn_ofD {x qual : Str} {params : Arguments} {body : List Stmt} {scope : Scope} {f : Addr} {fd : FuncData} {N ps : List Str} {k : Nat} {sp : Sp} (F : FunD K x qual params body scope [] [] f fd) (S : FnScope N ps scope) (len : ∀ vs H Q E, sp vs H Q E → vs.length = ps.length)
    (hbody : ∀ (cdv : Value) (A : Around) (outer : List PySem.Env) (s : Shared) (H : Hp) (vs : List V) (Q : VK) (E : XK), Room k (A.deeper (envOfC qual scope s.heap.objs.size f cdv)) → sp vs H Q E →
      ∃ t, PSs (cxOf CX0 P w K mg base N qual scope f cdv A outer s H E).nox body t ∧ t { nx := fun _ H' => Q .non H', rt := Q } (start N vs) H) : FnOk P w K mg base CX0 (k + 1) f fd ps sp :=
  F.ok S len fun cdv A outer s H vs Q E hr h => by
    obtain ⟨t, ht, q⟩ := hbody cdv A outer s H vs Q E hr h
    exact ⟨t, ht.nox, q⟩
theorem gname_go {i : Nat} {v : V} {σ : L2.St} {H : Hp} {k : L2.St → Hp → Prop} (h : k (σ.set i (some v)) H) : gName i v σ H k := h
def spLaw (K : PySem.W.Frag) : Sp := fun vs H Q _ => ∃ (a : Addr) (ns : List Int), vs = [.ref a] ∧ ns.length ≤ 63 ∧ SqL K H a (ns.map V.int) ∧ ∀ H', Q (.bl true) H'
theorem mins_lc {p : Party} {c : Str → Int} (e : leastC p.rows p.ties = some c) : lcD p.rows (leastC p.rows p.ties) = .tup (minsD p c) := by
  rw [e]
  show D.tup (p.rows.map fun r => dI (c r.nm)) = _
  rw [minsD, minsI, List.map_map]
  rfl

theorem sc_law : FnScope ["_law_script", "_law_reader_here", "_law_turn", "_law_party_now", "_law_least"] ["_law_script"] d_law.scope := ⟨rfl, rfl, rfl, by decide +kernel, rfl, by decide +kernel, by decide +kernel⟩
theorem fn_law (T : Wd K mg base) {fd : FuncData} (F : FunD K d_law.name d_law.qual d_law.params d_law.body d_law.scope [] [] (He.ga K "law") fd) : FnOk theP w K mg base CX0 (11 + 1) (He.ga K "law") fd ["_law_script"] (spLaw K) := by
  refine fn_ofD F sc_law (fun vs H Q E ⟨_, _, e, _⟩ => by rw [e]; rfl) fun cdv A outer s H vs Q E hr h => ?_
  refine ⟨_, (pss_cons (ps_set (i := 1) sc_law.nd rfl (by first | exact Or.inl rfl | exact Or.inr rfl) (C8.pe_c (ok__law_reader T) hr (by decide) rfl (pa_cons (pv 0) pa_nil)))
    (pss_cons (ps_for PassesOwn.never rfl (pi_range1 (by rfl) T.g_range (pa_cons pe_int pa_nil)) (pg_name (i := 2) sc_law.nd rfl (by first | exact Or.inl rfl | exact Or.inr rfl)) (pss_cons (ps_set (i := 3) sc_law.nd rfl (by first | exact Or.inl rfl | exact Or.inr rfl) (C8.pe_c (ok__law_random_party T) hr (by decide) rfl (pa_cons (pv 1) (pa_cons pe_int (pa_cons pe_int pa_nil)))))
    (pss_cons (ps_set (i := 4) sc_law.nd rfl (by first | exact Or.inl rfl | exact Or.inr rfl) (C8.pe_c (ok__law_least_case T) hr (by decide) rfl (pa_cons (pe_ix (z_ix (K := K) rfl) (pv 3) pe_int (fun _ _ => rfl)) (pa_cons (pe_ix (z_ix (K := K) rfl) (pv 3) pe_int (fun _ _ => rfl)) pa_nil))))
    (pss_one (ps_if (PW.pt (pw_or (pt_not (pt_val (C8.pe_c (ok__law_check_names T) hr (by decide) rfl (pa_cons (pv 3) (pa_cons (pv 4) pa_nil))))) (pw_or1 (pt_not (pt_val (C8.pe_c (ok__law_check_later T) hr (by decide) rfl (pa_cons (pv 3) (pa_cons (C8.pe_c (ok__law_draw T) hr (by decide) rfl (pa_cons (pv 1) (pa_cons pe_int pa_nil))) (pa_cons (pv 4) pa_nil))))))))) (pss_one (ps_ret pe_bl)) pss_nil)))))
    (pss_one (ps_ret pe_bl)))), ?_⟩
  obtain ⟨a0, cells, rfl, hl, hS, q⟩ := h
  refine tseq_go ?_
  obtain ⟨cs, hcs, hc⟩ : ∃ cs : List Int, cutD (cells.map dI) none (some 63) = cs.map dI ∧ cs.length ≤ 1000 := by
    refine ⟨(cells.drop (HT.sIx (cells.map dI).length 0 none)).take (HT.sIx (cells.map dI).length (cells.map dI).length (some 63) - HT.sIx (cells.map dI).length 0 none), by simp only [cutD, List.map_drop, List.map_take], ?_⟩
    rw [List.length_take, List.length_drop]; omega
  refine ⟨.ref a0, rfl, a0, cells, rfl, hS, by omega, fun r x0 H1 hr0 e1 hrd rx => ?_⟩
  rw [hcs] at rx
  have s1 : StO K (minus H1 [r]) [.rd (.raw (.ref a0)), .rr r x0 cs 0 0 0, .no, .no, .no] [] [] [some (.ref a0), some (.ref r), none, none, none] H1 := by
    refine ⟨minus H1 [r], Ex.refl _, minus_ex, fun b hb => minus_in hb, List.Pairwise.cons (fun _ h => by cases h) .nil, rfl, fun j e hj => ?_, .nil⟩
    match j, hj with
    | 0, hj => cases hj; exact ⟨_, rfl, .ref a0, rfl, .raw _⟩
    | 1, hj => cases hj; exact ⟨_, rfl, rfl, hrd, rx⟩
    | 2, hj => cases hj; exact ⟨_, rfl, trivial⟩
    | 3, hj => cases hj; exact ⟨_, rfl, trivial⟩
    | 4, hj => cases hj; exact ⟨_, rfl, trivial⟩
  refine gname_go ?_
  dsimp only
  refine ro_run (Dn := { nx := fun _ H' => Q .non H', rt := Q }) (N := fun _ => False) (R := fun d _ => d = dB true) ?_ s1 (fun _ _ _ z _ => z.elim) fun v d ρ' σ' H' e s' => by
    subst e
    have ev := s'.topR
    subst ev
    exact q _
  refine ro_sC (ro_forX (ds := rngD 4) (wo_rng (es_cons ee_c es_nil) (by decide)) (fun i ρ' => ∃ a b n, RdB (200 * (i : Int)) a b n ∧ Weak ρ' [.rd (.raw (.ref a0)), .rr r x0 cs a b n, .no, .no, .no]) ⟨0, 0, 0, ⟨by omega, by omega, by omega, by omega⟩, .keep rfl (.keep rfl (.keep rfl (.keep rfl (.keep rfl .nil))))⟩ (fun d hd => by
    obtain ⟨i, hi⟩ := List.getElem?_of_mem hd
    have : i < 4 := by
      have := (List.getElem?_eq_some_iff.mp hi).1
      rwa [rngD_len] at this
    rw [rngD_get this] at hi
    cases hi
    rfl) (fun i d ρ' hd h => ?_) fun ρ' h => ?_)
  · obtain ⟨a, b, n, hb, wk⟩ := h
    have hi : i < 4 := by
      have := (List.getElem?_eq_some_iff.mp hd).1
      rwa [rngD_len] at this
    refine ⟨_, fun Hs σ H v tv td s Q q => go_name (i := 2) Hs σ H v tv td (s.weak wk) Q q, ?_⟩
    refine ro_sO (oo_callG (ds := [dI 6, dI 6]) (i := 1) rfl (es_cons ee_c (es_cons ee_c es_nil)) rfl rfl hc hb (by omega) fun d a b n hd hb => ?_)
    obtain ⟨p, rfl, hR⟩ := hd
    refine ⟨p.tu, ?_⟩
    obtain ⟨c, hlc, hcc, hc0⟩ := hR.least'
    have hp := hR.fine
    have hn := hR.nms
    have hgl : gLeast [.tup (rowsD p.rows), .tup (tiesD p.ties)] (.tup (minsD p c)) := by
      have := rnd_least hR.rows hR.ties
      rwa [mins_lc hlc] at this
    refine ro_sC (ro_set (d := .tup (minsD p c)) (ee_call (es_cons (ee_op (ee_var rfl) ee_c fun _ => rd_ixX (n := 0) rfl rfl) (es_cons (ee_op (ee_var rfl) ee_c fun _ => rd_ixX (n := 1) rfl rfl) es_nil)) hgl) (.inl (by simp only [D.tu]; exact minsD_tus)) ?_)
    refine ro_ifO (to_or (to_not (to_B (oo_ev (d := dB true) (ee_call (es_cons (ee_var rfl) (es_cons (ee_var rfl) es_nil)) ⟨p, c, rfl, hp, hn, hcc, hc0, rfl⟩) (.inl rfl) ⟨true, rfl, nofun, fun _ => ?_⟩))))
    refine to_not (to_B (oo_call3 (ee_var rfl) (.inl p.tu) (oo_draw (i := 1) (many := 10) rfl ee_c (by decide) (by decide) hc hb (by omega) fun m a b n m0 m1 hb => ⟨.tup (minsD p c), dB true, ee_var rfl, .inl (by simp only [D.tu]; exact minsD_tus), ⟨p, c, m, rfl, hp, hR.small, hn, hcc, hc0, m0, by omega, rfl⟩, .inl rfl, true, rfl, nofun, fun _ => ro_next ⟨a, b, n, hb.up (by push_cast; omega), .keep rfl (.keep rfl (.drop (.drop (.drop .nil))))⟩⟩)))
  · exact ro_retX ee_c (.inl rfl) rfl
end
end Pa
set_option Elab.async false
set_option linter.all false
set_option maxRecDepth 100000
set_option maxHeartbeats 0
namespace Pa
open PySem PySem.Spec PyProof.Rows L2
theorem facts {w : World} {K : PySem.W.Frag} {h : Heap} {mg : Str → Option Value} {f : Addr} (X : K.In h) (G : h.Ns mainGlobals mg) (hfa : mg ("law" : Str) = some (.ref f)) (z : SaysZ K) :
    ∃ fd : FuncData, (∀ (s : Shared) (v : Value), BindsTo s fd ⟨[v], []⟩ [("_law_script", v)]) ∧ ∀ base : Heap, K.In base → base.Ns mainGlobals mg → FnOk theP w K mg base CX0 (11 + 1) f fd ["_law_script"] (spLaw K) := by
  have c : He.SaysD fa fn K := congrArg (fun z : AlZ => z.1) z
  obtain ⟨fd, F⟩ := c.def_ 59 (d := d_law) rfl
  have e := hfa.symm.trans (He.glo_ok X G (c.fact 75 (f := .glo "law") rfl))
  cases e
  have F' : FunD K d_law.name d_law.qual d_law.params d_law.body d_law.scope [] [] (He.ga K "law") fd := F
  have b := FunD.bindsA (ps := ["_law_script"]) F' fun _ _ _ _ _ _ us hl => match us, hl with | [_], _ => rfl
  exact ⟨fd, fun s v => b s [v] rfl, fun base X' G' => fn_law ⟨X', G', z⟩ F'⟩
end Pa
open PySem PySem.W PySem.Calls PyProof.Rows
theorem PySem.Challenge.cw_patience_k15_whole_renamed_and_later_par_holds : PySem.Challenge.rw_patience_k15_whole_renamed_and_later_par.Holds := by
  w_on; o_law
  refine HandSHeadRun.head_any (r := OpenLaw.row PySem.Challenge.rw_patience_k15_whole_renamed_and_later_par) (q := view (OpenLaw.row PySem.Challenge.rw_patience_k15_whole_renamed_and_later_par).prog [89]) (H := Pa.hookZ 5) (ob := Pa.ob) (M := 20000) (loose := Pa.nms) (d := HandSHeadRun.topDef (OpenLaw.row PySem.Challenge.rw_patience_k15_whole_renamed_and_later_par).prog 89) (kwd := []) Pa.ob_eq
    (by kernel_rfl) (fun s => by kernel_rfl) Pa.run (by kernel_rfl) (by kernel_rfl) (by kernel_rfl) (by rfl) (by first | assumption | decide +kernel) (by decide +kernel) ⟨rfl, rfl, rfl, rfl, rfl, by decide +kernel⟩ ?hw ?hc
  case hw => w_witness2
  case hc =>
    refine L2.walk_ofE (l := PySem.Challenge.rw_patience_k15_whole_renamed_and_later_par) (n := 63) (k := 11 + 1) (x := "_law_script") (CX := L2.CX0) rfl (by decide) (by kernel_rfl) ⟨rfl, by decide, by decide⟩ ?F (fun _ _ _ _ z => z)
    intro w mg fa h Y G hmg0
    obtain ⟨K, KX, c⟩ := Y
    have hmg : mg ("law" : PySem.Str) = some (.ref fa) := by
      have e : (HandSHeadRun.topDef (OpenLaw.row PySem.Challenge.rw_patience_k15_whole_renamed_and_later_par).prog 89).name = ("law" : PySem.Str) := by kernel_rfl
      rw [← e]
      exact hmg0
    obtain ⟨fd, hb, hF⟩ := Pa.facts (w := w) KX G hmg c
    exact ⟨K, fd, Pa.spLaw K, KX, hb, fun H a ns hl _ hS => ⟨a, ns, rfl, hl, hS, fun _ => rfl⟩, hF⟩
