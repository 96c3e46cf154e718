import PyProof.Rows.All
import Wide.All
import OpenK.AllK
import Wide.FinOn
import KE.KStateDown
import Lean
import HandS.ForMost
import HandS.WordsExc
import HandS.Defaults
import HandS.Property
import HandS.ClsMeth
import HandS.Lambda
import HandS.EndTab
import HandS.HeadEnd
import HandS.HeadHook1
import HandS.HeadHook2
import HandS.HeadHook3
import HandS.HeadHook4
import HandS.HeadWalk
import HandS.Head0
import HandS.Head1
import HandS.Head2
import PySem.Challenge.RW_partfirsts_k48_whole_hands_tell_as_reade
import HandS.IsInst
import HandS.Zip
import HandS.Deep
import HandS.SortKw
import HandS.TupSets
import HandS.SetKeys
import HandS.Conv
import HandS.MakeKw
import HandS.MakeKwOnly
import HandS.Star
import HandS.GenList
import HandS.More
import HandS.Small
import HandS.Style
import HandS.Flow
import HandS.Wide
import HandS.Evl
import HandS.Strs
import HandS.DictTup
import KE.SortKeyHeap
import KE.SortData
import HandS.Walk
import PyProof.DictMoreH
import OpenK.KMore
import KE.GoesMore
import KE.KNestM
set_option Elab.async false
set_option linter.all false
set_option maxRecDepth 100000
set_option maxHeartbeats 0
namespace K48
open PySem PySem.Spec PyProof.Rows L2
/-! ### the text by places -/
def top (i : Nat) : Stmt := PySem.Challenge.pw_partfirsts_k48_whole_hands_tell_as_reade.main.body.getD i (.Pass ⟨0, 0, 0, 0⟩)
abbrev s_is_number : Stmt := top 18
abbrev s_is_tuple_of : Stmt := top 19
abbrev s_are_parts : Stmt := top 20
abbrev s_is_text_in : Stmt := top 21
abbrev s_is_ask : Stmt := top 25
abbrev s_are_asks : Stmt := top 26
abbrev s_is_state : Stmt := top 27
abbrev s_need_inner : Stmt := top 28
abbrev s_need_order : Stmt := top 29
abbrev s_is_place : Stmt := top 33
abbrev s_is_row : Stmt := top 34
abbrev s_need_part : Stmt := top 35
abbrev s_need_many : Stmt := top 36
abbrev s_inner_sorted : Stmt := top 39
abbrev s_middle_sorted : Stmt := top 40
abbrev s_judge : Stmt := top 42
abbrev s_need_plain : Stmt := top 44
abbrev s__law_open : Stmt := top 47
abbrev s__law_draw : Stmt := top 48
abbrev s__law_of : Stmt := top 49
abbrev s__law_mixed : Stmt := top 50
abbrev s__law_like : Stmt := top 51
abbrev s__law_numbers : Stmt := top 52
abbrev s__law_base : Stmt := top 53
abbrev s__law_some_parts : Stmt := top 54
abbrev s__law_rows : Stmt := top 55
abbrev s__law_table : Stmt := top 56
abbrev s__law_ties_drawn : Stmt := top 57
abbrev s_law : Stmt := top 58
abbrev s_Reader___init__ : Stmt := inClass (top 30) 5
abbrev s_Reader_states : Stmt := inClass (top 30) 11
abbrev s_Table___init__ : Stmt := inClass (top 37) 2
abbrev s_Table_rows : Stmt := inClass (top 37) 7
abbrev s_Table_places : Stmt := inClass (top 37) 8
abbrev s_Table_part : Stmt := inClass (top 37) 9
abbrev s_Table_row_of : Stmt := inClass (top 37) 10
abbrev s_Table_parts_of : Stmt := inClass (top 37) 12
abbrev s_Run___init__ : Stmt := inClass (top 41) 0
abbrev s_Run_pages : Stmt := inClass (top 41) 6
abbrev s_Run_told : Stmt := inClass (top 41) 7
abbrev s_Run_open_rows : Stmt := inClass (top 41) 8
abbrev s_Run_sent : Stmt := inClass (top 41) 9
abbrev s_Run_at_hand : Stmt := inClass (top 41) 10
abbrev s_Run_found_ahead : Stmt := inClass (top 41) 11
abbrev s_Run_found_behind : Stmt := inClass (top 41) 12
abbrev s_Run_keep : Stmt := inClass (top 41) 13
abbrev s_Run_page : Stmt := inClass (top 41) 14
abbrev s_Run___len__ : Stmt := inClass (top 41) 23
abbrev s_Hand___init__ : Stmt := inClass (top 45) 0
abbrev s_Hand_fill : Stmt := inClass (top 45) 4
abbrev s_Hand_page : Stmt := inClass (top 45) 5
abbrev s_Hand_walk : Stmt := inClass (top 45) 6
abbrev s_Reader_mark : Stmt := inClass (top 30) 7
abbrev s_Reader_inner : Stmt := inClass (top 30) 8
abbrev s_Reader_order : Stmt := inClass (top 30) 9
abbrev s_Reader_parts : Stmt := inClass (top 30) 10
abbrev s_Table_parts : Stmt := inClass (top 37) 5
abbrev s_Run_table : Stmt := inClass (top 41) 2
abbrev s_Run_state : Stmt := inClass (top 41) 3
abbrev s_Run_fault : Stmt := inClass (top 41) 4
abbrev s_Hand_size_set : Stmt := inClass (top 45) 2
/-! ### the defs as data -/
/-- the empty tuple that judge has for its moves -/
def emptyAt (K : PySem.W.Frag) : Addr := match K.lookup (He.fAd K ("judge", none)) with
  | some ⟨_, _, .func fd, _⟩ => (match fd.kwdefaults with
    | .ref D => (match PySem.W.nsIn K D "moves" with
      | some (some (.ref a)) => a
      | _ => 0)
    | _ => 0)
  | _ => 0
def d_is_number : He.DefD := ⟨("is_number", none), "is_number", "is_number", defArgs s_is_number, defBody s_is_number, defScope s_is_number, [], []⟩
def d_is_tuple_of : He.DefD := ⟨("is_tuple_of", none), "is_tuple_of", "is_tuple_of", defArgs s_is_tuple_of, defBody s_is_tuple_of, defScope s_is_tuple_of, [], []⟩
def d_are_parts : He.DefD := ⟨("are_parts", none), "are_parts", "are_parts", defArgs s_are_parts, defBody s_are_parts, defScope s_are_parts, [], []⟩
def d_is_text_in : He.DefD := ⟨("is_text_in", none), "is_text_in", "is_text_in", defArgs s_is_text_in, defBody s_is_text_in, defScope s_is_text_in, [], []⟩
def d_is_ask : He.DefD := ⟨("is_ask", none), "is_ask", "is_ask", defArgs s_is_ask, defBody s_is_ask, defScope s_is_ask, [], []⟩
def d_are_asks : He.DefD := ⟨("are_asks", none), "are_asks", "are_asks", defArgs s_are_asks, defBody s_are_asks, defScope s_are_asks, [], []⟩
def d_is_state : He.DefD := ⟨("is_state", none), "is_state", "is_state", defArgs s_is_state, defBody s_is_state, defScope s_is_state, [], []⟩
def d_need_inner : He.DefD := ⟨("need_inner", none), "need_inner", "need_inner", defArgs s_need_inner, defBody s_need_inner, defScope s_need_inner, [], []⟩
def d_need_order : He.DefD := ⟨("need_order", none), "need_order", "need_order", defArgs s_need_order, defBody s_need_order, defScope s_need_order, [], []⟩
def d_is_place : He.DefD := ⟨("is_place", none), "is_place", "is_place", defArgs s_is_place, defBody s_is_place, defScope s_is_place, [], []⟩
def d_is_row : He.DefD := ⟨("is_row", none), "is_row", "is_row", defArgs s_is_row, defBody s_is_row, defScope s_is_row, [], []⟩
def d_need_part : He.DefD := ⟨("need_part", none), "need_part", "need_part", defArgs s_need_part, defBody s_need_part, defScope s_need_part, [], []⟩
def d_need_many : He.DefD := ⟨("need_many", none), "need_many", "need_many", defArgs s_need_many, defBody s_need_many, defScope s_need_many, [], []⟩
def d_inner_sorted : He.DefD := ⟨("inner_sorted", none), "inner_sorted", "inner_sorted", defArgs s_inner_sorted, defBody s_inner_sorted, defScope s_inner_sorted, [], []⟩
def d_middle_sorted : He.DefD := ⟨("middle_sorted", none), "middle_sorted", "middle_sorted", defArgs s_middle_sorted, defBody s_middle_sorted, defScope s_middle_sorted, [], []⟩
def d_judge : He.DefD := ⟨("judge", none), "judge", "judge", defArgs s_judge, defBody s_judge, defScope s_judge, [], [("moves", .adr emptyAt)]⟩
def d_need_plain : He.DefD := ⟨("need_plain", none), "need_plain", "need_plain", defArgs s_need_plain, defBody s_need_plain, defScope s_need_plain, [], []⟩
def d__law_open : He.DefD := ⟨("_law_open", none), "_law_open", "_law_open", defArgs s__law_open, defBody s__law_open, defScope s__law_open, [], []⟩
def d__law_draw : He.DefD := ⟨("_law_draw", none), "_law_draw", "_law_draw", defArgs s__law_draw, defBody s__law_draw, defScope s__law_draw, [], []⟩
def d__law_of : He.DefD := ⟨("_law_of", none), "_law_of", "_law_of", defArgs s__law_of, defBody s__law_of, defScope s__law_of, [], []⟩
def d__law_mixed : He.DefD := ⟨("_law_mixed", none), "_law_mixed", "_law_mixed", defArgs s__law_mixed, defBody s__law_mixed, defScope s__law_mixed, [], []⟩
def d__law_like : He.DefD := ⟨("_law_like", none), "_law_like", "_law_like", defArgs s__law_like, defBody s__law_like, defScope s__law_like, [], []⟩
def d__law_numbers : He.DefD := ⟨("_law_numbers", none), "_law_numbers", "_law_numbers", defArgs s__law_numbers, defBody s__law_numbers, defScope s__law_numbers, [], []⟩
def d__law_base : He.DefD := ⟨("_law_base", none), "_law_base", "_law_base", defArgs s__law_base, defBody s__law_base, defScope s__law_base, [], []⟩
def d__law_some_parts : He.DefD := ⟨("_law_some_parts", none), "_law_some_parts", "_law_some_parts", defArgs s__law_some_parts, defBody s__law_some_parts, defScope s__law_some_parts, [], []⟩
def d__law_rows : He.DefD := ⟨("_law_rows", none), "_law_rows", "_law_rows", defArgs s__law_rows, defBody s__law_rows, defScope s__law_rows, [], []⟩
def d__law_table : He.DefD := ⟨("_law_table", none), "_law_table", "_law_table", defArgs s__law_table, defBody s__law_table, defScope s__law_table, [], []⟩
def d__law_ties_drawn : He.DefD := ⟨("_law_ties_drawn", none), "_law_ties_drawn", "_law_ties_drawn", defArgs s__law_ties_drawn, defBody s__law_ties_drawn, defScope s__law_ties_drawn, [], []⟩
def d_law : He.DefD := ⟨("law", none), "law", "law", defArgs s_law, defBody s_law, defScope s_law, [], []⟩
def d_Reader___init__ : He.DefD := ⟨("Reader", some "__init__"), "__init__", "Reader.__init__", defArgs s_Reader___init__, defBody s_Reader___init__, defScope s_Reader___init__, [], [("inner", .str "up"), ("order", .str "number")]⟩
def d_Reader_states : He.DefD := ⟨("Reader", some "states"), "states", "Reader.states", defArgs s_Reader_states, defBody s_Reader_states, defScope s_Reader_states, [], []⟩
def d_Table___init__ : He.DefD := ⟨("Table", some "__init__"), "__init__", "Table.__init__", defArgs s_Table___init__, defBody s_Table___init__, defScope s_Table___init__, [], []⟩
def d_Table_rows : He.DefD := ⟨("Table", some "rows"), "rows", "Table.rows", defArgs s_Table_rows, defBody s_Table_rows, defScope s_Table_rows, [], []⟩
def d_Table_places : He.DefD := ⟨("Table", some "places"), "places", "Table.places", defArgs s_Table_places, defBody s_Table_places, defScope s_Table_places, [], []⟩
def d_Table_part : He.DefD := ⟨("Table", some "part"), "part", "Table.part", defArgs s_Table_part, defBody s_Table_part, defScope s_Table_part, [], []⟩
def d_Table_row_of : He.DefD := ⟨("Table", some "row_of"), "row_of", "Table.row_of", defArgs s_Table_row_of, defBody s_Table_row_of, defScope s_Table_row_of, [], []⟩
def d_Table_parts_of : He.DefD := ⟨("Table", some "parts_of"), "parts_of", "Table.parts_of", defArgs s_Table_parts_of, defBody s_Table_parts_of, defScope s_Table_parts_of, [], []⟩
def d_Run___init__ : He.DefD := ⟨("Run", some "__init__"), "__init__", "Run.__init__", defArgs s_Run___init__, defBody s_Run___init__, defScope s_Run___init__, [], []⟩
def d_Run_pages : He.DefD := ⟨("Run", some "pages"), "pages", "Run.pages", defArgs s_Run_pages, defBody s_Run_pages, defScope s_Run_pages, [], []⟩
def d_Run_told : He.DefD := ⟨("Run", some "told"), "told", "Run.told", defArgs s_Run_told, defBody s_Run_told, defScope s_Run_told, [], []⟩
def d_Run_open_rows : He.DefD := ⟨("Run", some "open_rows"), "open_rows", "Run.open_rows", defArgs s_Run_open_rows, defBody s_Run_open_rows, defScope s_Run_open_rows, [], []⟩
def d_Run_sent : He.DefD := ⟨("Run", some "sent"), "sent", "Run.sent", defArgs s_Run_sent, defBody s_Run_sent, defScope s_Run_sent, [], []⟩
def d_Run_at_hand : He.DefD := ⟨("Run", some "at_hand"), "at_hand", "Run.at_hand", defArgs s_Run_at_hand, defBody s_Run_at_hand, defScope s_Run_at_hand, [], []⟩
def d_Run_found_ahead : He.DefD := ⟨("Run", some "found_ahead"), "found_ahead", "Run.found_ahead", defArgs s_Run_found_ahead, defBody s_Run_found_ahead, defScope s_Run_found_ahead, [], []⟩
def d_Run_found_behind : He.DefD := ⟨("Run", some "found_behind"), "found_behind", "Run.found_behind", defArgs s_Run_found_behind, defBody s_Run_found_behind, defScope s_Run_found_behind, [], []⟩
def d_Run_keep : He.DefD := ⟨("Run", some "keep"), "keep", "Run.keep", defArgs s_Run_keep, defBody s_Run_keep, defScope s_Run_keep, [], []⟩
def d_Run_page : He.DefD := ⟨("Run", some "page"), "page", "Run.page", defArgs s_Run_page, defBody s_Run_page, defScope s_Run_page, [], []⟩
def d_Run___len__ : He.DefD := ⟨("Run", some "__len__"), "__len__", "Run.__len__", defArgs s_Run___len__, defBody s_Run___len__, defScope s_Run___len__, [], []⟩
def d_Hand___init__ : He.DefD := ⟨("Hand", some "__init__"), "__init__", "Hand.__init__", defArgs s_Hand___init__, defBody s_Hand___init__, defScope s_Hand___init__, [], [("inner", .str "up"), ("order", .str "number")]⟩
def d_Hand_fill : He.DefD := ⟨("Hand", some "fill"), "fill", "Hand.fill", defArgs s_Hand_fill, defBody s_Hand_fill, defScope s_Hand_fill, [], []⟩
def d_Hand_page : He.DefD := ⟨("Hand", some "page"), "page", "Hand.page", defArgs s_Hand_page, defBody s_Hand_page, defScope s_Hand_page, [], []⟩
def d_Hand_walk : He.DefD := ⟨("Hand", some "walk"), "walk", "Hand.walk", defArgs s_Hand_walk, defBody s_Hand_walk, defScope s_Hand_walk, [], []⟩
def fns : List He.DefD := [d_is_number, d_is_tuple_of, d_are_parts, d_is_text_in, d_is_ask, d_are_asks, d_is_state, d_need_inner, d_need_order, d_is_place, d_is_row, d_need_part, d_need_many, d_inner_sorted, d_middle_sorted, d_judge, d_need_plain, d__law_open, d__law_draw, d__law_of, d__law_mixed, d__law_like, d__law_numbers, d__law_base, d__law_some_parts, d__law_rows, d__law_table, d__law_ties_drawn, d_law]
def mes : List He.DefD := [d_Reader___init__, d_Reader_states, d_Table___init__, d_Table_rows, d_Table_places, d_Table_part, d_Table_row_of, d_Table_parts_of, d_Run___init__, d_Run_pages, d_Run_told, d_Run_open_rows, d_Run_sent, d_Run_at_hand, d_Run_found_ahead, d_Run_found_behind, d_Run_keep, d_Run_page, d_Run___len__, d_Hand___init__, d_Hand_fill, d_Hand_page, d_Hand_walk]
def fn : List He.DefD := fns ++ mes
/-- a property's def: its class, its name, getter (0) or setter (1) -/
structure PrD where
  C : Str
  f : Str
  i : Nat
  qual : Str
  params : Arguments
  body : List Stmt
  scope : Scope
def d_Reader_mark : PrD := ⟨"Reader", "mark", 0, "Reader.mark", defArgs s_Reader_mark, defBody s_Reader_mark, defScope s_Reader_mark⟩
def d_Reader_inner : PrD := ⟨"Reader", "inner", 0, "Reader.inner", defArgs s_Reader_inner, defBody s_Reader_inner, defScope s_Reader_inner⟩
def d_Reader_order : PrD := ⟨"Reader", "order", 0, "Reader.order", defArgs s_Reader_order, defBody s_Reader_order, defScope s_Reader_order⟩
def d_Reader_parts : PrD := ⟨"Reader", "parts", 0, "Reader.parts", defArgs s_Reader_parts, defBody s_Reader_parts, defScope s_Reader_parts⟩
def d_Table_parts : PrD := ⟨"Table", "parts", 0, "Table.parts", defArgs s_Table_parts, defBody s_Table_parts, defScope s_Table_parts⟩
def d_Run_table : PrD := ⟨"Run", "table", 0, "Run.table", defArgs s_Run_table, defBody s_Run_table, defScope s_Run_table⟩
def d_Run_state : PrD := ⟨"Run", "state", 0, "Run.state", defArgs s_Run_state, defBody s_Run_state, defScope s_Run_state⟩
def d_Run_fault : PrD := ⟨"Run", "fault", 0, "Run.fault", defArgs s_Run_fault, defBody s_Run_fault, defScope s_Run_fault⟩
def d_Hand_size_set : PrD := ⟨"Hand", "size", 1, "Hand.size", defArgs s_Hand_size_set, defBody s_Hand_size_set, defScope s_Hand_size_set⟩
def prs : List PrD := [d_Reader_mark, d_Reader_inner, d_Reader_order, d_Reader_parts, d_Table_parts, d_Run_table, d_Run_state, d_Run_fault, d_Hand_size_set]
def fa0 : List He.Fa := [.glo "is_number", .glo "is_tuple_of", .glo "are_parts", .glo "is_text_in", .glo "is_ask", .glo "are_asks", .glo "is_state", .glo "need_inner", .glo "need_order", .glo "is_place", .glo "is_row", .glo "need_part", .glo "need_many", .glo "inner_sorted", .glo "middle_sorted", .glo "judge", .glo "need_plain", .glo "_law_open", .glo "_law_draw", .glo "_law_of", .glo "_law_mixed", .glo "_law_like", .glo "_law_numbers", .glo "_law_base", .glo "_law_some_parts", .glo "_law_rows", .glo "_law_table", .glo "_law_ties_drawn", .glo "law", .glo "Reader"]
def fa1 : List He.Fa := [.glo "Table", .glo "Run", .glo "Hand", .free "isinstance", .free "int", .free "bool", .free "tuple", .free "str", .free "list", .free "len", .free "all", .free "zip", .free "enumerate", .free "range", .free "sorted", .free "set", .free "max", .free "min", .int "MOST_PARTS" 4, .int "MOST_SIZE" 9, .int "BOUND" 1000000000, .cls "Reader", .mkr "Reader", .noat "Reader" "own_mark", .noat "Reader" "own_inner", .noat "Reader" "own_order", .noat "Reader" "own_states", .cls "Table", .mkr "Table", .noat "Table" "own_many"]
def fa2 : List He.Fa := [.noat "Table" "own_rows", .cls "Run", .mkr "Run", .noat "Run" "own_reader", .noat "Run" "stand", .noat "Run" "past", .noat "Run" "ahead", .cls "Hand", .mkr "Hand", .noat "Hand" "own_size", .noat "Hand" "own_asks", .noat "Hand" "own_order", .noat "Hand" "unsent", .noat "Hand" "own_hand", .noat "Hand" "told_places", .meth "Reader" "states", .meth "Table" "rows", .meth "Table" "places", .meth "Table" "part", .meth "Table" "row_of", .meth "Table" "parts_of", .meth "Run" "pages", .meth "Run" "told", .meth "Run" "open_rows", .meth "Run" "sent", .meth "Run" "at_hand", .meth "Run" "found_ahead", .meth "Run" "found_behind", .meth "Run" "keep", .meth "Run" "page"]
def fa3 : List He.Fa := [.meth "Run" "__len__", .meth "Hand" "fill", .meth "Hand" "page", .meth "Hand" "walk"]
def fa : List He.Fa := fa0 ++ fa1 ++ fa2 ++ fa3
/-! ### properties, constants of classes -/
/-- the property object -/
def proA (K : PySem.W.Frag) (C f : Str) : Addr := match PySem.W.findIn K (.ref (He.ga K C)) f with
  | some (some (.ref p)) => p
  | _ => 0
def proG (K : PySem.W.Frag) (C f : Str) (i : Nat) : Addr := match PySem.W.recIn K (proA K C f) "property" with
  | some l => (match l[i]? with
    | some (.ref g) => g
    | _ => 0)
  | _ => 0
def PrD.adr (K : PySem.W.Frag) (d : PrD) : Addr := proG K d.C d.f d.i
def fnWa (K : PySem.W.Frag) (a : Addr) : He.FnW := match K.lookup a with
  | some ⟨_, _, .func fd, _⟩ => some (fd.name, fd.qualname, fd.params, fd.body, fd.scope, fd.globals, fd.closure, fd.builtins)
  | _ => none
def PrD.val (d : PrD) : He.FnW := some (d.f, d.qual, d.params, .stmts d.body, d.scope, mainGlobals, [], builtinsNs)
def PrD.ok (K : PySem.W.Frag) (d : PrD) : Bool := PySem.W.keepIn K (.ref (d.adr K)) && ((match K.lookup (d.adr K) with
  | some ⟨_, _, .func fd, _⟩ => PySem.W.codeIn K fd.code d.qual && (He.dflB K fd.defaults [] && He.kwdB K fd.kwdefaults [])
  | _ => false) && (He.eqO (PySem.W.findIn K (.ref (He.ga K d.C)) d.f) (some (some (.ref (proA K d.C d.f)))) && (He.eqO (PySem.W.specialIn K (.ref (proA K d.C d.f)) "__get__") (some (some (.builtin "property.__get__"))) &&
  (decide (PySem.W.takesIn K (.ref (proA K d.C d.f)) = some true) && (decide (PySem.W.typeIn K (.ref (proA K d.C d.f)) = some (.type "property")) && (match PySem.W.recIn K (proA K d.C d.f) "property" with
    | some l => decide (l[d.i]? = some (.ref (d.adr K)))
    | _ => false))))))
/-- C.f is this constant -/
def cvB (K : PySem.W.Frag) (C f : Str) (v : He.Dv) : Bool := PySem.W.readsIn K (He.ga K C) (.type "type") && (He.eqO (PySem.W.specialIn K (.ref (He.ga K C)) "__getattribute__") (some (some (.builtin "type.__getattribute__"))) &&
  (match PySem.W.findCls K (.ref (He.ga K C)) (.type "type") f with
  | some (.val u) => He.relB (v.v K) u
  | _ => false))
def cvA (C f : Str) (K : PySem.W.Frag) : Addr := match PySem.W.findCls K (.ref (He.ga K C)) (.type "type") f with
  | some (.val (.ref a)) => a
  | _ => 0
/-- a tuple of the top at this address -/
def tupAtB (K : PySem.W.Frag) (a : Addr) (vs : List V) : Bool := match K.lookup a with
  | some ⟨.type c, _, .seq its _, _⟩ => decide (c = "tuple") && (decide (its.size ≤ sizeLine) && He.relAll vs its.toList)
  | _ => false
def ex (K : PySem.W.Frag) : Bool := prs.all (fun d => d.ok K) && (cvB K "Reader" "MOST_ASK" (.int 9) && (cvB K "Reader" "MOST_STATES" (.int 6) && (cvB K "Table" "MOST_PARTS" (.int 4) && (cvB K "Table" "MOST_ROWS" (.int 300) &&
  (cvB K "Reader" "MARKS" (.adr (cvA "Reader" "MARKS")) && (cvB K "Reader" "INNER" (.adr (cvA "Reader" "INNER")) && (cvB K "Reader" "ORDERS" (.adr (cvA "Reader" "ORDERS")) &&
  (tupAtB K (cvA "Reader" "MARKS" K) [.str "key", .str "from", .str "row", .str "each", .str "count", .str "rest"] && (tupAtB K (cvA "Reader" "INNER" K) [.str "up", .str "down"] && (tupAtB K (cvA "Reader" "ORDERS" K) [.str "number", .str "back", .str "part"] &&
  (tupAtB K (emptyAt K) [] && (PySem.W.isClsIn K (He.ga K "Run") && (decide ((PySem.W.clsIn K (He.ga K "Run")).isSome) && !Nat.beq (He.cT K ("inner_sorted", none)).2 (He.cT K ("middle_sorted", none)).2)))))))))))))
def nCl : List Str := ["Reader", "Table", "Run", "Hand"]
def nFn : List Str := ["is_number", "is_tuple_of", "are_parts", "is_text_in", "is_ask", "are_asks", "is_state", "need_inner", "need_order", "is_place", "is_row", "need_part", "need_many", "inner_sorted", "middle_sorted", "judge", "need_plain", "_law_open", "_law_draw", "_law_of", "_law_mixed", "_law_like", "_law_numbers", "_law_base", "_law_some_parts", "_law_rows", "_law_table", "_law_ties_drawn", "law"]
def nMe : List (Nat × Str) := [(0, "__init__"), (0, "states"), (1, "__init__"), (1, "rows"), (1, "places"), (1, "part"), (1, "row_of"), (1, "parts_of"), (2, "__init__"), (2, "pages"), (2, "told"), (2, "open_rows"), (2, "sent"), (2, "at_hand"), (2, "found_ahead"), (2, "found_behind"), (2, "keep"), (2, "page"), (2, "__len__"), (3, "__init__"), (3, "fill"), (3, "page"), (3, "walk")]
def nPr : List (Nat × Str × Nat) := [(0, "mark", 0), (0, "inner", 0), (0, "order", 0), (0, "parts", 0), (1, "parts", 0), (2, "table", 0), (2, "state", 0), (2, "fault", 0), (3, "size", 1)]
/-! ### the Hook: few addresses, each made a numeral before it is used -/
def tf : List He.Defn := [("inner_sorted", none), ("middle_sorted", none)]
abbrev Gt : Type := Addr → Option Obj
def frAs {α : Type} : List Addr → (List Addr → α) → α
  | [], k => k []
  | a :: r, k => HandSHeadRun.frNat a fun a => frAs r fun r => k (a :: r)
theorem frAs_eq {α : Type} : ∀ (l : List Addr) (k : List Addr → α), frAs l k = k l
  | [], _ => rfl
  | a :: r, k => by
    show HandSHeadRun.frNat a (fun a => frAs r fun r => k (a :: r)) = _
    rw [HandSHeadRun.frNat_eq, frAs_eq r]
def frK {α : Type} (g : Gt) : List Addr → (PySem.W.Frag → α) → α
  | [], k => k []
  | a :: r, k => match g a with
    | none => frK g r k
    | some ⟨c, d, dt, sl⟩ => match He.emptyTab ⟨c, d, dt, sl⟩ with
      | true => frK g r k
      | false => frK g r fun K => k ((a, ⟨c, d, dt, sl⟩) :: K)
theorem frT_cons (g : Gt) (a : Addr) (r : List Addr) : He.frT g (a :: r) = match g a with
    | none => He.frT g r
    | some o => match He.emptyTab o with
      | true => He.frT g r
      | false => (a, o) :: He.frT g r := by
  unfold He.frT He.frG
  rw [List.filterMap_cons]
  cases g a with
  | none => rfl
  | some o =>
    show List.filter _ ((a, o) :: _) = _
    rw [List.filter_cons]
    cases q : He.emptyTab o with
    | true => rw [if_neg (by simp [q])]; simp only [q]
    | false => rw [if_pos (by simp [q])]; simp only [q]
theorem frK_eq {α : Type} (g : Gt) : ∀ (l : List Addr) (k : PySem.W.Frag → α), frK g l k = k (He.frT g l)
  | [], _ => rfl
  | a :: r, k => by
    rw [frT_cons]
    unfold frK
    cases g a with
    | none => exact frK_eq g r k
    | some o =>
      obtain ⟨c, d, dt, sl⟩ := o
      show (match He.emptyTab ⟨c, d, dt, sl⟩ with
        | true => frK g r k
        | false => frK g r fun K => k ((a, ⟨c, d, dt, sl⟩) :: K)) = k (match He.emptyTab ⟨c, d, dt, sl⟩ with
        | true => He.frT g r
        | false => (a, ⟨c, d, dt, sl⟩) :: He.frT g r)
      cases He.emptyTab ⟨c, d, dt, sl⟩ with
      | true => exact frK_eq g r k
      | false => exact frK_eq g r _
def rfA : Value → Addr
  | .ref a => a
  | _ => 0
/-- what a dict's name stands for -/
def itA (g : Gt) (n : Addr) (x : Str) : Addr := match g n with
  | some ⟨_, _, .dict es _, _⟩ => (match es.toList.find? (·.key.isStr x) with
    | some e => rfA e.val
    | none => 0)
  | _ => 0
def nsA (g : Gt) (C : Addr) : Addr := match g C with
  | some ⟨_, _, .cls cd, _⟩ => cd.ns
  | _ => 0
def fdA (g : Gt) (p : Addr) (i : Nat) : Addr := match g p with
  | some ⟨_, _, .fields vs, _⟩ => (match vs[i]? with
    | some v => rfA v
    | none => 0)
  | _ => 0
def cdA (g : Gt) (f : Addr) : Addr := match g f with
  | some ⟨_, _, .func fd, _⟩ => rfA fd.code
  | _ => 0
def kwA (g : Gt) (f : Addr) : Addr := match g f with
  | some ⟨_, _, .func fd, _⟩ => rfA fd.kwdefaults
  | _ => 0
def asMk {α : Type} (g : Gt) (k : List Addr → α) : α :=
  frAs (nCl.map (itA g mainGlobals)) fun cl => frAs (cl.map (nsA g)) fun ns => frAs (nFn.map (itA g mainGlobals)) fun f1 => frAs (nMe.map fun q => itA g (ns.getD q.1 0) q.2) fun f2 =>
  frAs (nPr.map fun q => itA g (ns.getD q.1 0) q.2.1) fun ps => frAs (ps.map fun p => fdA g p 0) fun g0 => frAs (ps.map fun p => fdA g p 1) fun g1 => frAs ((f1 ++ f2 ++ g0 ++ g1).map (cdA g)) fun cs =>
  frAs ((f1 ++ f2).map (kwA g)) fun kw => frAs [itA g (ns.getD 0 0) "MARKS", itA g (ns.getD 0 0) "INNER", itA g (ns.getD 0 0) "ORDERS", itA g (kwA g (itA g mainGlobals "judge")) "moves"] fun c =>
  k ([mainGlobals, cStatics] ++ cl ++ ns ++ f1 ++ f2 ++ ps ++ g0 ++ g1 ++ cs ++ kw ++ c)
theorem asMk_eq (g : Gt) : ∃ as : List Addr, ∀ {α : Type} (k : List Addr → α), asMk g k = k as := by
  refine ⟨asMk g id, fun k => ?_⟩
  unfold asMk
  simp only [frAs_eq]
  rfl
abbrev AlY : Type := He.AlX × List He.FnW
def obsAll (g : Gt) (K : PySem.W.Frag) : AlY := ((He.obsT fa fn [] K, ex K && He.tabsB g tf K), prs.map fun d => fnWa K (d.adr K))
def obsY (g : Gt) : AlY := asMk g fun as => frK g as fun K => obsAll g K
def valY (w : World) : AlY := (He.valX fn [] w, prs.map PrD.val)
/-- what the head tells of the written part K -/
structure SaysY (w : World) (h : Heap) (K : PySem.W.Frag) : Prop where
  x : He.SaysX fa fn [] tf ex w h K
  pr : prs.map (fun d => fnWa K (d.adr K)) = prs.map PrD.val
theorem saysY_of {w : World} {h : Heap} (e : obsY h.get? = valY w) : ∃ as, SaysY w h (He.frT h.get? as) := by
  obtain ⟨as, q⟩ := asMk_eq h.get?
  refine ⟨as, ?_⟩
  unfold obsY at e
  rw [q, frK_eq] at e
  generalize hK : He.frT h.get? as = K at e ⊢
  have e0 : ((He.obsT fa fn [] K, ex K && He.tabsB h.get? tf K) : He.AlX) = He.valX fn [] w := congrArg (fun z : AlY => z.1) e
  have e1 : He.obsT fa fn [] K = He.valT fn [] w := congrArg (fun z : He.AlX => z.1) e0
  have e2 : (ex K && He.tabsB h.get? tf K) = true := congrArg (fun z : He.AlX => z.2) e0
  have e3 : prs.map (fun d => fnWa K (d.adr K)) = prs.map PrD.val := congrArg (fun z : AlY => z.2) e
  obtain ⟨h1, h2⟩ := He.ba e2
  have key : ∀ p ∈ tf, PySem.W.codeHdIn K (He.cT K p).1 (He.cT K p).2 = true ∧ ∃ o, h.get? (He.cT K p).2 = some o ∧ He.emptyTab o = true := fun p hp => by
    obtain ⟨h3, h4⟩ := He.ba (List.all_eq_true.mp h2 p hp)
    refine ⟨h3, ?_⟩
    cases q : h.get? (He.cT K p).2 with
    | none => rw [q] at h4; cases h4
    | some o => rw [q] at h4; exact ⟨o, rfl, h4⟩
  refine ⟨⟨e1, h1, fun p hp => (key p hp).1, fun p hp => ?_, fun p hp => ?_⟩, e3⟩
  · obtain ⟨_, o, q, z⟩ := key p hp
    have z2 := He.frT_none (as := as) q z
    rw [hK] at z2
    exact z2
  · obtain ⟨_, o, q, z⟩ := key p hp
    rw [q, He.emptyTab_eq z]
def hookY : PySem.W.Hook where
  α := AlY
  obs := fun s => obsY s.heap.get?
  val := fun w => valY w
  says := fun w h => ∃ K : PySem.W.Frag, K.In h ∧ SaysY w h K
  of := fun _ _ e => let ⟨_, q⟩ := saysY_of e; ⟨_, He.frT_in, q⟩
  keeps := fun _ _ _ ⟨K, hK, c⟩ k => ⟨K, PySem.W.Frag.In.keeps hK k, ⟨⟨c.x.t, c.x.more, c.x.hd, c.x.out, fun p hp => k _ _ (c.x.empty p hp)⟩, c.pr⟩⟩
theorem obsY_eq {g : Gt} {s : Shared} (h : ∀ a, g a = s.heap.get? a) : obsY g = hookY.obs s := by
  have e : g = s.heap.get? := funext h
  rw [e] <;> rfl
def lo0 : List PySem.Str := ["_wall", "PartError", "Missing", "InvalidRow", "InvalidPart", "InvalidMark", "InvalidOrder", "InvalidState", "InvalidAsk", "InvalidNumber", "DuplicateNumber", "TooMany", "PartsDiffer", "Ended", "UnknownNumber", "NothingLeft", "is_number", "is_tuple_of", "are_parts", "is_text_in", "MOST_PARTS", "MOST_SIZE", "is_ask", "are_asks", "is_state", "need_inner", "need_order", "Reader", "BOUND", "is_place"]
def lo1 : List PySem.Str := ["is_row", "need_part", "need_many", "Table", "inner_sorted", "middle_sorted", "Run", "judge", "need_plain", "Hand", "_law_open", "_law_draw", "_law_of", "_law_mixed", "_law_like", "_law_numbers", "_law_base", "_law_some_parts", "_law_rows", "_law_table", "_law_ties_drawn"]
def loose : List PySem.Str := lo0 ++ lo1
end K48

namespace K48
open PySem PySem.Spec PyProof.Rows L2
abbrev R : PySem.W.OpenRow := PySem.W.OpenLaw.row PySem.Challenge.rw_partfirsts_k48_whole_hands_tell_as_reade
def ob (s : PySem.W.SharedT) : AlY := obsY (HandSHeadRun.getT s)
theorem ob_eq (s : PySem.W.SharedT) : ob s = hookY.obs s.abs := obsY_eq (HandSHeadRun.getT_eq s)
theorem run (w : World) : HandSHeadRun.RunEq R (PySem.W.view R.prog [58]) hookY ob 20000 loose w := by
  intro os
  kernel_rfl
end K48

/-! Plain mathematics: a hand tells the pages of the reader that leaves out what was told. -/
namespace K48
abbrev Place := Int × Int
inductive Mid where
  | number | back | part
  deriving DecidableEq
/-- the key of a place that counts with a part -/
def Mid.key : Mid → Place × Nat → List Int
  | .number, x => [x.1.1, x.1.2]
  | .back, x => [x.1.1, -x.1.2]
  | .part, x => [x.1.1, (x.2 : Int), x.1.2]
def inKey (up : Bool) (x : Place) : List Int := if up then [x.1, x.2] else [x.1, -x.2]
def sti (up : Bool) (xs : List Place) : List Place := xs.mergeSort fun a b => decide (inKey up a ≤ inKey up b)
def stm (o : Mid) (hd : List (Place × Nat)) : List (Place × Nat) := hd.mergeSort fun a b => decide (o.key a ≤ o.key b)
def sm (o : Mid) (hd : List (Place × Nat)) : List Place := (stm o hd).map (·.1)

theorem sorted_one {α : Type} (le : α → α → Prop) : ∀ l l' : List α, l.Perm l' → l.Pairwise le → l'.Pairwise le → (∀ a ∈ l, ∀ b ∈ l, le a b → le b a → a = b) → l = l'
  | [], l', h, _, _, _ => (List.Perm.nil_eq h)
  | a :: r, [], h, _, _, _ => absurd h.length_eq (by simp)
  | a :: r, b :: r', h, s, s', an => by
    have hab : a = b := by
      have h1 : a ∈ b :: r' := h.subset List.mem_cons_self
      have h2 : b ∈ a :: r := h.symm.subset List.mem_cons_self
      rcases List.mem_cons.mp h1 with e | h1
      · exact e
      · rcases List.mem_cons.mp h2 with e | h2
        · exact e.symm
        · exact an a List.mem_cons_self b (List.mem_cons_of_mem _ h2) (List.rel_of_pairwise_cons s h2) (List.rel_of_pairwise_cons s' h1)
    subst hab
    have := sorted_one le r r' (List.Perm.cons_inv h) (List.Pairwise.of_cons s) (List.Pairwise.of_cons s') (fun x hx y hy => an x (List.mem_cons_of_mem _ hx) y (List.mem_cons_of_mem _ hy))
    rw [this]

section
variable {α : Type} (k : α → List Int)
def leK (a b : α) : Bool := decide (k a ≤ k b)
theorem leK_trans (a b c : α) (h1 : leK k a b = true) (h2 : leK k b c = true) : leK k a c = true := by
  have h1 := of_decide_eq_true h1
  have h2 := of_decide_eq_true h2
  exact decide_eq_true (List.le_trans h1 h2)
theorem leK_total (a b : α) : (leK k a b || leK k b a) = true := by
  unfold leK
  rcases List.le_total (k a) (k b) with h | h <;> simp [h]
theorem sort_pairwise (l : List α) : (l.mergeSort (leK k)).Pairwise (fun a b => leK k a b = true) := List.pairwise_mergeSort (leK_trans k) (leK_total k) l
theorem sort_perm_eq {l l' : List α} (h : l.Perm l') (inj : ∀ a ∈ l, ∀ b ∈ l, k a = k b → a = b) : l.mergeSort (leK k) = l'.mergeSort (leK k) := by
  have p1 := List.mergeSort_perm l (leK k)
  have p2 := List.mergeSort_perm l' (leK k)
  refine sorted_one (fun a b => leK k a b = true) _ _ (p1.trans (h.trans p2.symm)) (sort_pairwise k l) (sort_pairwise k l') (fun a ha b hb q1 q2 => ?_)
  have ha' := List.mem_mergeSort.mp ha
  have hb' := List.mem_mergeSort.mp hb
  exact inj a ha' b hb' (List.le_antisymm (of_decide_eq_true q1) (of_decide_eq_true q2))
end

theorem key_inj (o : Mid) {a b : Place × Nat} (h : o.key a = o.key b) : a.1 = b.1 := by
  obtain ⟨⟨a1, a2⟩, ap⟩ := a
  obtain ⟨⟨b1, b2⟩, bp⟩ := b
  cases o <;> simp [Mid.key] at h ⊢ <;> omega
theorem nodup_fst {α β : Type} {l : List (α × β)} (h : (l.map (·.1)).Nodup) {a b : α × β} (ha : a ∈ l) (hb : b ∈ l) (e : a.1 = b.1) : a = b := by
  induction l with
  | nil => cases ha
  | cons x r ih =>
    rw [List.map_cons, List.nodup_cons] at h
    rcases List.mem_cons.mp ha with rfl | ha
    · rcases List.mem_cons.mp hb with rfl | hb
      · rfl
      · exact absurd (List.mem_map.mpr ⟨b, hb, e.symm⟩) h.1
    · rcases List.mem_cons.mp hb with rfl | hb
      · exact absurd (show b.1 ∈ r.map (·.1) from List.mem_map.mpr ⟨a, by assumption, e⟩) h.1
      · exact ih h.2 (by assumption) (by assumption)
theorem stm_perm {o : Mid} {l l' : List (Place × Nat)} (h : l.Perm l') (nd : (l.map (·.1)).Nodup) : stm o l = stm o l' :=
  sort_perm_eq o.key h fun _ ha _ hb e => nodup_fst nd ha hb (key_inj o e)
theorem sm_perm {o : Mid} {l l' : List (Place × Nat)} (h : l.Perm l') (nd : (l.map (·.1)).Nodup) : sm o l = sm o l' := by
  unfold sm
  rw [stm_perm h nd]
theorem sm_mem {o : Mid} {l : List (Place × Nat)} {x : Place} : x ∈ sm o l ↔ x ∈ l.map (·.1) := by
  unfold sm stm
  simp only [List.mem_map, List.mem_mergeSort]
theorem sm_perm_self {o : Mid} {l : List (Place × Nat)} : (sm o l).Perm (l.map (·.1)) := (List.mergeSort_perm l _).map _
theorem sm_len {o : Mid} {l : List (Place × Nat)} : (sm o l).length = l.length := by
  rw [sm_perm_self.length_eq, List.length_map]
theorem sti_perm {up : Bool} {xs : List Place} : (sti up xs).Perm xs := List.mergeSort_perm xs _

/-- the given things: so many parts, a part's rows in its inner order, asks, a size, a middle order -/
structure Geo where
  P : Nat
  L : Nat → List Place
  ask : Nat → Nat
  size : Nat
  o : Mid
def Geo.all (G : Geo) : List Place := (List.range G.P).flatMap G.L
structure Geo.Ok (G : Geo) : Prop where
  nd : G.all.Nodup
  ask1 : ∀ p, p < G.P → 1 ≤ G.ask p
  size1 : 1 ≤ G.size
section
variable (G : Geo)
def Geo.opn (T : List Place) (p : Nat) : List Place := (G.L p).filter fun x => decide (x ∉ T)
def Geo.snt (T : List Place) (p : Nat) : List Place := (G.opn T p).take (G.ask p)
def Geo.handTo (T : List Place) (i : Nat) : List (Place × Nat) := (List.range i).flatMap fun p => (G.snt T p).map fun x => (x, p)
def Geo.hnd (T : List Place) : List (Place × Nat) := G.handTo T G.P
def Geo.pg (T : List Place) : List Place := (sm G.o (G.hnd T)).take G.size
end
section
variable {G : Geo} {T : List Place}
theorem mem_all {x : Place} : x ∈ G.all ↔ ∃ p, p < G.P ∧ x ∈ G.L p := by
  unfold Geo.all
  simp only [List.mem_flatMap, List.mem_range]
theorem mem_opn {p : Nat} {x : Place} : x ∈ G.opn T p ↔ x ∈ G.L p ∧ x ∉ T := by
  unfold Geo.opn
  simp only [List.mem_filter, decide_eq_true_eq]
theorem opn_nil (p : Nat) : G.opn [] p = G.L p := by
  unfold Geo.opn
  rw [List.filter_eq_self]
  intro x _
  simp
theorem snt_sub {p : Nat} {x : Place} (h : x ∈ G.snt T p) : x ∈ G.opn T p := List.mem_of_mem_take h
theorem mem_hand {x : Place} {p i : Nat} : (x, p) ∈ G.handTo T i ↔ p < i ∧ x ∈ G.snt T p := by
  unfold Geo.handTo
  simp only [List.mem_flatMap, List.mem_range, List.mem_map, Prod.mk.injEq]
  constructor
  · rintro ⟨q, h1, y, h2, rfl, rfl⟩
    exact ⟨h1, h2⟩
  · rintro ⟨h1, h2⟩
    exact ⟨p, h1, x, h2, rfl, rfl⟩
theorem handTo_succ {i : Nat} : G.handTo T (i + 1) = G.handTo T i ++ (G.snt T i).map fun x => (x, i) := by
  unfold Geo.handTo
  rw [List.range_succ, List.flatMap_append]
  simp
theorem flat_nodup {f : Nat → List Place} : ∀ {n : Nat}, ((List.range n).flatMap f).Nodup → (∀ p, p < n → (f p).Nodup) ∧ (∀ p q x, p < n → q < n → x ∈ f p → x ∈ f q → p = q)
  | 0, _ => ⟨fun p h => absurd h (Nat.not_lt_zero p), fun p _ _ h => absurd h (Nat.not_lt_zero p)⟩
  | n + 1, h => by
    rw [List.range_succ, List.flatMap_append, List.nodup_append] at h
    obtain ⟨h1, h2, h3⟩ := h
    obtain ⟨i1, i2⟩ := flat_nodup h1
    have e : ([n].flatMap f) = f n := by simp
    rw [e] at h2 h3
    have dis : ∀ p x, p < n → x ∈ f p → x ∈ f n → False := fun p x hp hx hn => h3 x (List.mem_flatMap.mpr ⟨p, List.mem_range.mpr hp, hx⟩) x hn rfl
    refine ⟨fun p hp => ?_, fun p q x hp hq hx hy => ?_⟩
    · by_cases e : p = n
      · subst e; exact h2
      · exact i1 p (by omega)
    · by_cases e : p = n
      · by_cases e' : q = n
        · omega
        · subst e
          exact (dis q x (by omega) hy hx).elim
      · by_cases e' : q = n
        · subst e'
          exact (dis p x (by omega) hx hy).elim
        · exact i2 p q x (by omega) (by omega) hx hy
theorem Geo.Ok.one (O : G.Ok) {p q : Nat} {x : Place} (hp : p < G.P) (hq : q < G.P) (h1 : x ∈ G.L p) (h2 : x ∈ G.L q) : p = q := (flat_nodup O.nd).2 p q x hp hq h1 h2
theorem Geo.Ok.ndL (O : G.Ok) {p : Nat} (hp : p < G.P) : (G.L p).Nodup := (flat_nodup O.nd).1 p hp
theorem Geo.Ok.ndO (O : G.Ok) {p : Nat} (hp : p < G.P) : (G.opn T p).Nodup := (O.ndL hp).filter _
theorem Geo.Ok.ndS (O : G.Ok) {p : Nat} (hp : p < G.P) : (G.snt T p).Nodup := (O.ndO hp).sublist (List.take_sublist _ _)
theorem hand_keys {i : Nat} {x : Place} : x ∈ (G.handTo T i).map (·.1) ↔ ∃ p, p < i ∧ x ∈ G.snt T p := by
  simp only [List.mem_map]
  constructor
  · rintro ⟨⟨y, p⟩, h, rfl⟩
    exact ⟨p, mem_hand.mp h⟩
  · rintro ⟨p, h⟩
    exact ⟨(x, p), mem_hand.mpr h, rfl⟩
theorem hand_nd (O : G.Ok) : ∀ i, i ≤ G.P → ((G.handTo T i).map (·.1)).Nodup
  | 0, _ => by unfold Geo.handTo; simp
  | i + 1, hi => by
    rw [handTo_succ, List.map_append, List.nodup_append]
    have e : ((G.snt T i).map fun x => (x, i)).map (·.1) = G.snt T i := by
      rw [List.map_map]
      exact List.map_id' _
    rw [e]
    refine ⟨hand_nd O i (by omega), O.ndS (by omega), fun x hx y hy hxy => ?_⟩
    subst hxy
    obtain ⟨p, hp, h⟩ := hand_keys.mp hx
    have := O.one (by omega) (by omega) (mem_opn.mp (snt_sub h)).1 (mem_opn.mp (snt_sub hy)).1
    omega
theorem pg_sub (_ : G.Ok) {x : Place} (h : x ∈ G.pg T) : ∃ p, p < G.P ∧ x ∈ G.snt T p := hand_keys.mp (sm_mem.mp (List.mem_of_mem_take h))
theorem pg_all (O : G.Ok) {x : Place} (h : x ∈ G.pg T) : x ∈ G.all ∧ x ∉ T := by
  obtain ⟨p, hp, hx⟩ := pg_sub O h
  obtain ⟨h1, h2⟩ := mem_opn.mp (snt_sub hx)
  exact ⟨mem_all.mpr ⟨p, hp, h1⟩, h2⟩
theorem pg_nd (O : G.Ok) : (G.pg T).Nodup := ((sm_perm_self.nodup_iff).mpr (hand_nd O G.P (Nat.le_refl _))).sublist (List.take_sublist _ _)
theorem pg_len : (G.pg T).length ≤ G.size := by
  unfold Geo.pg
  rw [List.length_take]
  exact Nat.min_le_left _ _
/-- an empty page: all was told -/
theorem pg_nil (O : G.Ok) (h : G.pg T = []) {x : Place} (hx : x ∈ G.all) : x ∈ T := by
  by_cases ht : x ∈ T
  · exact ht
  · exfalso
    obtain ⟨p, hp, hl⟩ := mem_all.mp hx
    have ho : x ∈ G.opn T p := mem_opn.mpr ⟨hl, ht⟩
    have h1 := O.ask1 p hp
    have h2 := O.size1
    obtain ⟨y, hy⟩ : ∃ y, y ∈ G.snt T p := by
      unfold Geo.snt
      cases e : G.opn T p with
      | nil => rw [e] at ho; cases ho
      | cons a r =>
        refine ⟨a, ?_⟩
        cases q : G.ask p with
        | zero => omega
        | succ n => simp
    have hs : y ∈ sm G.o (G.hnd T) := sm_mem.mpr (hand_keys.mpr ⟨p, hp, hy⟩)
    unfold Geo.pg at h
    cases e : sm G.o (G.hnd T) with
    | nil => rw [e] at hs; cases hs
    | cons a r =>
      rw [e] at h
      cases q : G.size with
      | zero => omega
      | succ n => rw [q] at h; simp at h

/-! ### the hand -/
abbrev ofPart (hd : List (Place × Nat)) (p : Nat) : List Place := (hd.filter fun x => decide (x.2 = p)).map (·.1)
theorem ofPart_app {hd hd' : List (Place × Nat)} {p : Nat} : ofPart (hd ++ hd') p = ofPart hd p ++ ofPart hd' p := by
  unfold ofPart
  rw [List.filter_append, List.map_append]
theorem ofPart_own {xs : List Place} {p : Nat} : ofPart (xs.map fun x => (x, p)) p = xs := by
  unfold ofPart
  rw [List.filter_eq_self.mpr (by intro x hx; obtain ⟨y, _, rfl⟩ := List.mem_map.mp hx; simp), List.map_map]
  exact List.map_id' _
theorem ofPart_other {xs : List Place} {p q : Nat} (h : p ≠ q) : ofPart (xs.map fun x => (x, q)) p = [] := by
  unfold ofPart
  rw [List.filter_eq_nil_iff.mpr (by intro x hx; obtain ⟨y, _, rfl⟩ := List.mem_map.mp hx; simpa using fun e => h e.symm)]
  rfl
theorem mem_ofPart {hd : List (Place × Nat)} {p : Nat} {x : Place} : x ∈ ofPart hd p ↔ (x, p) ∈ hd := by
  unfold ofPart
  simp only [List.mem_map, List.mem_filter, decide_eq_true_eq]
  constructor
  · rintro ⟨⟨y, q⟩, ⟨h1, rfl⟩, rfl⟩
    exact h1
  · intro h
    exact ⟨(x, p), ⟨h, rfl⟩, rfl⟩
/-- the hand holds hd, the parts still have U, T was told -/
structure HI (G : Geo) (T : List Place) (hd : List (Place × Nat)) (U : Nat → List Place) : Prop where
  split : ∀ p, p < G.P → ofPart hd p ++ U p = G.opn T p
  few : ∀ p, p < G.P → (ofPart hd p).length ≤ G.ask p
  parts : ∀ x ∈ hd, x.2 < G.P
  nd : (hd.map (·.1)).Nodup
/-- .. and the parts below i were asked -/
structure FI (G : Geo) (T : List Place) (i : Nat) (hd : List (Place × Nat)) (U : Nat → List Place) : Prop extends HI G T hd U where
  full : ∀ p, p < i → ofPart hd p = G.snt T p
theorem HI.start : HI G [] [] G.L where
  split := fun p _ => by rw [opn_nil]; rfl
  few := fun p _ => Nat.zero_le _
  parts := fun x h => by cases h
  nd := by simp
theorem HI.fi {hd : List (Place × Nat)} {U : Nat → List Place} (h : HI G T hd U) : FI G T 0 hd U := ⟨h, fun p hp => absurd hp (Nat.not_lt_zero p)⟩
theorem HI.key {hd : List (Place × Nat)} {U : Nat → List Place} (h : HI G T hd U) {x : Place} {p : Nat} (hx : (x, p) ∈ hd) : x ∈ G.opn T p := by
  have hp := h.parts _ hx
  rw [← h.split p hp]
  exact List.mem_append_left _ (mem_ofPart.mpr hx)
theorem HI.rest {hd : List (Place × Nat)} {U : Nat → List Place} (O : G.Ok) (h : HI G T hd U) {x : Place} {p : Nat} (hp : p < G.P) (hx : x ∈ U p) : x ∉ hd.map (·.1) := fun hm => by
  obtain ⟨⟨y, q⟩, hy, rfl⟩ := List.mem_map.mp hm
  have hq := h.parts _ hy
  have ho : y ∈ G.opn T p := by
    rw [← h.split p hp]
    exact List.mem_append_right _ hx
  have e : q = p := O.one hq hp (mem_opn.mp (h.key hy)).1 (mem_opn.mp ho).1
  subst e
  have nd : (ofPart hd q ++ U q).Nodup := by
    rw [h.split q hp]
    exact O.ndO hp
  exact (List.nodup_append.mp nd).2.2 y (mem_ofPart.mpr hy) y hx rfl
def setU (U : Nat → List Place) (i : Nat) (xs : List Place) : Nat → List Place := fun p => if p = i then xs else U p
/-- one part is asked -/
theorem FI.step {i : Nat} {hd : List (Place × Nat)} {U : Nat → List Place} (O : G.Ok) (h : FI G T i hd U) (hi : i < G.P) :
    FI G T (i + 1) (hd ++ ((U i).take (G.ask i - (ofPart hd i).length)).map fun x => (x, i)) (setU U i ((U i).drop (G.ask i - (ofPart hd i).length))) := by
  have own : ofPart (hd ++ ((U i).take (G.ask i - (ofPart hd i).length)).map fun x => (x, i)) i = G.snt T i := by
    rw [ofPart_app, ofPart_own]
    unfold Geo.snt
    rw [← h.split i hi, List.take_append, List.take_of_length_le (h.few i hi)]
  have oth : ∀ p, p ≠ i → ofPart (hd ++ ((U i).take (G.ask i - (ofPart hd i).length)).map fun x => (x, i)) p = ofPart hd p := fun p hp => by
    rw [ofPart_app, ofPart_other hp, List.append_nil]
  refine ⟨⟨fun p hp => ?_, fun p hp => ?_, fun x hx => ?_, ?_⟩, fun p hp => ?_⟩
  · by_cases e : p = i
    · subst e
      rw [ofPart_app, ofPart_own, List.append_assoc]
      unfold setU
      rw [if_pos rfl, List.take_append_drop]
      exact h.split p hp
    · rw [oth p e]
      unfold setU
      rw [if_neg e]
      exact h.split p hp
  · by_cases e : p = i
    · subst e
      rw [own]
      unfold Geo.snt
      rw [List.length_take]
      exact Nat.min_le_left _ _
    · rw [oth p e]
      exact h.few p hp
  · rcases List.mem_append.mp hx with hx | hx
    · exact h.parts x hx
    · obtain ⟨y, _, rfl⟩ := List.mem_map.mp hx
      exact hi
  · rw [List.map_append, List.nodup_append]
    have e : ((((U i).take (G.ask i - (ofPart hd i).length)).map fun x => (x, i)).map (·.1)) = (U i).take (G.ask i - (ofPart hd i).length) := by
      rw [List.map_map]
      exact List.map_id' _
    rw [e]
    have nd : (ofPart hd i ++ U i).Nodup := by
      rw [h.split i hi]
      exact O.ndO hi
    refine ⟨h.nd, ((List.nodup_append.mp nd).2.1).sublist (List.take_sublist _ _), fun x hx y hy hxy => ?_⟩
    subst hxy
    exact h.toHI.rest O hi (List.mem_of_mem_take hy) hx
  · by_cases e : p = i
    · subst e; exact own
    · rw [oth p e]
      exact h.full p (by omega)
theorem perm_of_nodup_mem {α : Type} [DecidableEq α] {l l' : List α} (n : l.Nodup) (n' : l'.Nodup) (h : ∀ x, x ∈ l ↔ x ∈ l') : l.Perm l' := (List.perm_ext_iff_of_nodup n n').mpr h
theorem nodup_of_fst {α β : Type} {l : List (α × β)} (h : (l.map (·.1)).Nodup) : l.Nodup := List.Pairwise.of_map (·.1) (fun _ _ hne e => hne (congrArg (·.1) e)) h
/-- all parts asked: what the hand holds is what the reader has at hand -/
theorem FI.hand {hd : List (Place × Nat)} {U : Nat → List Place} (O : G.Ok) (h : FI G T G.P hd U) : hd.Perm (G.hnd T) := by
  refine perm_of_nodup_mem (nodup_of_fst h.nd) (nodup_of_fst (hand_nd O G.P (Nat.le_refl _))) fun ⟨x, p⟩ => ?_
  unfold Geo.hnd
  rw [mem_hand]
  constructor
  · intro hx
    have hp := h.parts _ hx
    refine ⟨hp, ?_⟩
    rw [← h.full p hp]
    exact mem_ofPart.mpr hx
  · rintro ⟨hp, hx⟩
    rw [← h.full p hp] at hx
    exact mem_ofPart.mp hx
theorem FI.page {hd : List (Place × Nat)} {U : Nat → List Place} (O : G.Ok) (h : FI G T G.P hd U) : (sm G.o hd).take G.size = G.pg T := by
  unfold Geo.pg
  rw [sm_perm (h.hand O) h.nd]
/-- what was told is taken out of the hand -/
theorem FI.told {hd : List (Place × Nat)} {U : Nat → List Place} (O : G.Ok) (h : FI G T G.P hd U) : HI G (T ++ G.pg T) (hd.filter fun x => decide (x.1 ∉ G.pg T)) U := by
  have hin : ∀ x, x ∈ G.pg T → x ∈ hd.map (·.1) := fun x hx => by
    rw [← h.page O] at hx
    exact sm_mem.mp (List.mem_of_mem_take hx)
  have fl : ∀ p, ofPart (hd.filter fun x => decide (x.1 ∉ G.pg T)) p = (ofPart hd p).filter fun x => decide (x ∉ G.pg T) := fun p => by
    unfold ofPart
    rw [List.filter_map, List.filter_filter, List.filter_filter]
    congr 1
    apply List.filter_congr
    intro x _
    simp only [Function.comp]
    rw [Bool.and_comm]
  refine ⟨fun p hp => ?_, fun p hp => ?_, fun x hx => h.parts x (List.mem_filter.mp hx).1, h.nd.sublist ((List.filter_sublist).map _)⟩
  · rw [fl]
    have e1 : G.opn (T ++ G.pg T) p = (G.opn T p).filter fun x => decide (x ∉ G.pg T) := by
      unfold Geo.opn
      rw [List.filter_filter]
      apply List.filter_congr
      intro x _
      rw [← Bool.decide_and]
      apply decide_eq_decide.mpr
      rw [List.mem_append, not_or]
      exact And.comm
    rw [e1, ← h.split p hp, List.filter_append]
    congr 1
    refine (List.filter_eq_self.mpr fun x hx => ?_).symm
    refine decide_eq_true fun hm => ?_
    exact h.toHI.rest O hp hx (hin x hm)
  · rw [fl]
    exact Nat.le_trans (List.length_filter_le _ _) (h.few p hp)

/-! ### all pages -/
def Geo.pgs (G : Geo) : Nat → List Place → List (List Place)
  | 0, _ => []
  | n + 1, T => if G.pg T = [] then [] else G.pg T :: G.pgs n (T ++ G.pg T)
theorem pgl_nil {n : Nat} (h : G.pg T = []) : G.pgs n T = [] := by
  cases n with
  | zero => rfl
  | succ n => unfold Geo.pgs; rw [if_pos h]
theorem pgl_cons {n : Nat} (h : G.pg T ≠ []) : G.pgs (n + 1) T = G.pg T :: G.pgs n (T ++ G.pg T) := by
  show (if G.pg T = [] then [] else G.pg T :: G.pgs n (T ++ G.pg T)) = _
  rw [if_neg h]
theorem pgl_ne : ∀ (n : Nat) (T : List Place), ∀ q ∈ G.pgs n T, q ≠ []
  | 0, _, q, h => by cases h
  | n + 1, T, q, h => by
    by_cases e : G.pg T = []
    · rw [pgl_nil e] at h; cases h
    · rw [pgl_cons e] at h
      rcases List.mem_cons.mp h with rfl | h
      · exact e
      · exact pgl_ne n _ q h
/-- told so far: of all, none twice -/
structure Told (G : Geo) (T : List Place) : Prop where
  nd : T.Nodup
  sub : ∀ x ∈ T, x ∈ G.all
theorem Told.nil : Told G [] := ⟨by simp, fun x h => by cases h⟩
theorem Told.more (O : G.Ok) (t : Told G T) : Told G (T ++ G.pg T) := by
  refine ⟨List.nodup_append.mpr ⟨t.nd, pg_nd O, fun x hx y hy e => ?_⟩, fun x hx => ?_⟩
  · subst e
    exact (pg_all O hy).2 hx
  · rcases List.mem_append.mp hx with hx | hx
    · exact t.sub x hx
    · exact (pg_all O hx).1
theorem nodup_le {α : Type} [DecidableEq α] : ∀ {l l' : List α}, l.Nodup → (∀ x ∈ l, x ∈ l') → l.length ≤ l'.length
  | [], _, _, _ => Nat.zero_le _
  | a :: r, l', h, hs => by
    have ha := hs a List.mem_cons_self
    have h2 := List.nodup_cons.mp h
    have := nodup_le (l := r) (l' := l'.erase a) h2.2 (fun x hx => by
      have hne : x ≠ a := fun e => h2.1 (e ▸ hx)
      exact (List.mem_erase_of_ne hne).mpr (hs x (List.mem_cons_of_mem _ hx)))
    rw [List.length_erase_of_mem ha] at this
    have hp := List.length_pos_of_mem ha
    rw [List.length_cons]
    omega
theorem Told.len (t : Told G T) : T.length ≤ G.all.length := nodup_le t.nd t.sub
/-- with enough turns all is told -/
theorem pgl_all (O : G.Ok) : ∀ (n : Nat) (T : List Place), Told G T → G.all.length < n + T.length → (T ++ (G.pgs n T).flatten).Perm G.all
  | 0, T, t, hn => by
    have := t.len
    omega
  | n + 1, T, t, hn => by
    by_cases e : G.pg T = []
    · rw [pgl_nil e, List.flatten_nil, List.append_nil]
      exact perm_of_nodup_mem t.nd O.nd fun x => ⟨t.sub x, pg_nil O e⟩
    · rw [pgl_cons e, List.flatten_cons, ← List.append_assoc]
      refine pgl_all O n _ (t.more O) ?_
      have hp : 0 < (G.pg T).length := List.length_pos_iff.mpr e
      rw [List.length_append]
      omega
/-- the number of turns does not matter, if it is enough -/
theorem pgl_more (O : G.Ok) : ∀ (n m : Nat) (T : List Place), Told G T → G.all.length < n + T.length → n ≤ m → G.pgs m T = G.pgs n T
  | 0, m, T, t, hn, _ => by
    have := t.len
    omega
  | n + 1, m, T, t, hn, hm => by
    by_cases e : G.pg T = []
    · rw [pgl_nil e, pgl_nil e]
    · obtain ⟨k, rfl⟩ : ∃ k, m = k + 1 := ⟨m - 1, by omega⟩
      rw [pgl_cons e, pgl_cons e]
      have hp : 0 < (G.pg T).length := List.length_pos_iff.mpr e
      rw [pgl_more O n k _ (t.more O) (by rw [List.length_append]; omega) (by omega)]
/-- all pages -/
def Geo.pages (G : Geo) (T : List Place) : List (List Place) := G.pgs (G.all.length + 1) T
theorem pages_nil (h : G.pg T = []) : G.pages T = [] := pgl_nil h
theorem pages_cons (O : G.Ok) (t : Told G T) (h : G.pg T ≠ []) : G.pages T = G.pg T :: G.pages (T ++ G.pg T) := by
  unfold Geo.pages
  rw [pgl_cons h]
  congr 1
  have hp : 0 < (G.pg T).length := List.length_pos_iff.mpr h
  refine (pgl_more O _ _ _ (t.more O) ?_ (by omega)).symm
  rw [List.length_append]
  omega
theorem pages_all (O : G.Ok) (t : Told G T) : (T ++ (G.pages T).flatten).Perm G.all := pgl_all O _ T t (by omega)
theorem pages_ne : ∀ q ∈ G.pages T, q ≠ [] := pgl_ne _ _
theorem pages_len : ∀ (n : Nat) (T : List Place), (G.pgs n T).length ≤ n
  | 0, _ => Nat.le_refl _
  | n + 1, T => by
    by_cases e : G.pg T = []
    · rw [pgl_nil e]; exact Nat.zero_le _
    · rw [pgl_cons e, List.length_cons]
      have := pages_len n (T ++ G.pg T)
      omega
end
end K48

namespace K48
open PySem PySem.Spec PyProof.Rows L2 ClX
/-! ### the surroundings -/
/-- the program, the world, the written part, the module's names, the base -/
structure GX where
  P : Program
  w : World
  K : PySem.W.Frag
  mg : Str → Option Value
  base : Heap
abbrev gOf (X : Cx) : GX := ⟨X.prog, X.w, X.K, X.mg, X.base⟩
abbrev lamQ (f : Str) : Str := (f ++ ".<locals>.") ++ "<lambda>"
def tabT (K : PySem.W.Frag) : List (Addr × Str) := [((He.cT K ("inner_sorted", none)).2, lamQ "inner_sorted"), ((He.cT K ("middle_sorted", none)).2, lamQ "middle_sorted")]
/-- what the top has left, for the walk -/
structure Tx (g : GX) : Prop where
  says : ∃ w h, SaysY w h g.K
  glo : ∀ x, He.Fa.glo x ∈ fa → g.mg x = some (.ref (He.ga g.K x))
  free : ∀ x, He.Fa.free x ∈ fa → g.mg x = none
  int : ∀ x i, He.Fa.int x i ∈ fa → ∃ t, g.mg x = some (.int i t)
  tab1 : LamX.TabB g.base g.mg (He.cT g.K ("inner_sorted", none)).1 (He.cT g.K ("inner_sorted", none)).2
  tab2 : LamX.TabB g.base g.mg (He.cT g.K ("middle_sorted", none)).1 (He.cT g.K ("middle_sorted", none)).2
section
variable {g : GX}
theorem Tx.d (T : Tx g) : He.SaysD fa fn g.K := let ⟨_, _, c⟩ := T.says; c.x.t.d
theorem Tx.ex (T : Tx g) : ex g.K = true := let ⟨_, _, c⟩ := T.says; c.x.more
theorem Tx.fun_ (T : Tx g) {d : He.DefD} (h : d ∈ fn) : ∃ fd, FunD g.K d.name d.qual d.params d.body d.scope (d.dvs g.K) (d.kws g.K) (He.fAd g.K d.at_) fd := T.d.defs h
theorem Tx.fact (T : Tx g) {f : He.Fa} (h : f ∈ fa) : f.ok g.K = true := T.d.facts h
theorem Tx.cls (T : Tx g) {x : Str} (h : He.Fa.cls x ∈ fa) : Cls g.K (He.ga g.K x) := He.cls_ok (T.fact h)
theorem Tx.noat (T : Tx g) {x f : Str} (h : He.Fa.noat x f ∈ fa) : NoAttr g.K (He.ga g.K x) f := He.noat_ok (T.fact h)
theorem Tx.meth (T : Tx g) {x m : Str} (h : He.Fa.meth x m ∈ fa) : Meth g.K (He.ga g.K x) m (He.ma g.K (He.ga g.K x) m) := He.meth_ok (T.fact h)
theorem Tx.mkr (T : Tx g) {x : Str} (h : He.Fa.mkr x ∈ fa) : Mk g.K (He.ga g.K x) (He.ma g.K (He.ga g.K x) "__init__") := He.mkr_ok (T.fact h)
/-- a property's def -/
theorem Tx.prop (T : Tx g) {d : PrD} (h : d ∈ prs) : (∃ fd, FunD g.K d.f d.qual d.params d.body d.scope [] [] (d.adr g.K) fd) ∧
    PySem.W.findIn g.K (.ref (He.ga g.K d.C)) d.f = some (some (.ref (proA g.K d.C d.f))) ∧ PySem.W.specialIn g.K (.ref (proA g.K d.C d.f)) "__get__" = some (some (.builtin "property.__get__")) ∧
    PySem.W.takesIn g.K (.ref (proA g.K d.C d.f)) = some true ∧ PySem.W.typeIn g.K (.ref (proA g.K d.C d.f)) = some (.type "property") ∧ ∃ l, PySem.W.recIn g.K (proA g.K d.C d.f) "property" = some l ∧ l[d.i]? = some (.ref (d.adr g.K)) := by
  obtain ⟨w, hh, c⟩ := T.says
  obtain ⟨e1, _⟩ := He.ba (show (prs.all (fun d => d.ok g.K) && _) = true from T.ex)
  have ok := List.all_eq_true.mp e1 d h
  obtain ⟨i, hi, ei⟩ := List.mem_iff_getElem.mp h
  have e2 : (prs.map (fun d => fnWa g.K (d.adr g.K)))[i]? = (prs.map PrD.val)[i]? := by rw [c.pr]
  rw [List.getElem?_map, List.getElem?_map, List.getElem?_eq_getElem hi, ei] at e2
  have e3 : fnWa g.K (d.adr g.K) = d.val := Option.some.inj e2
  unfold PrD.ok at ok
  obtain ⟨kp, ok⟩ := He.ba ok
  obtain ⟨c2, ok⟩ := He.ba ok
  obtain ⟨k1, ok⟩ := He.ba ok
  obtain ⟨k2, ok⟩ := He.ba ok
  obtain ⟨k3, ok⟩ := He.ba ok
  obtain ⟨k4, k5⟩ := He.ba ok
  refine ⟨?_, He.eqO_ok k1, He.eqO_ok k2, of_decide_eq_true k3, of_decide_eq_true k4, ?_⟩
  · unfold fnWa at e3
    cases q : g.K.lookup (d.adr g.K) with
    | none => rw [q] at c2; cases c2
    | some o =>
      obtain ⟨oc, od, dt, osl⟩ := o
      rw [q] at c2 e3
      cases dt with
      | func fd =>
        obtain ⟨n1, n2, n3, n4, n5, n6, n7, n8, n9, n10, n11, n12, n13, n14, n15⟩ := fd
        have e2 : (some (n1, n2, n3, n4, n5, n6, n7, n15) : He.FnW) = some (d.f, d.qual, d.params, .stmts d.body, d.scope, mainGlobals, [], builtinsNs) := e3
        simp only [Option.some.injEq, Prod.mk.injEq] at e2
        obtain ⟨h1, h2, h3, h4, h5, h6, h7, h8⟩ := e2
        subst h1 h2 h3 h4 h5 h6 h7 h8
        have c3 : (PySem.W.codeIn g.K n13 d.qual && (He.dflB g.K n8 [] && He.kwdB g.K n9 [])) = true := c2
        obtain ⟨m1, m2⟩ := He.ba c3
        obtain ⟨m3, m4⟩ := He.ba m2
        exact ⟨_, ⟨oc, od, n8, n9, n10, n11, n12, n13, n14, osl, rfl, q, m1, He.dflB_ok m3, He.kwdB_ok m4⟩, kp⟩
      | _ => cases c2
  · cases q : PySem.W.recIn g.K (proA g.K d.C d.f) "property" with
    | none => rw [q] at k5; cases k5
    | some l => rw [q] at k5; exact ⟨l, rfl, of_decide_eq_true k5⟩
theorem cvB_ok {K : PySem.W.Frag} {C f : Str} {v : He.Dv} (h : cvB K C f v = true) : CRead K (He.ga K C) (.type "type") ∧ ∃ u, CVal K (He.ga K C) (.type "type") f (v.v K) u := by
  unfold cvB at h
  obtain ⟨h1, h⟩ := He.ba h
  obtain ⟨h2, h⟩ := He.ba h
  refine ⟨⟨h1, He.eqO_ok h2⟩, ?_⟩
  cases q : PySem.W.findCls K (.ref (He.ga K C)) (.type "type") f with
  | none => rw [q] at h; cases h
  | some r =>
    rw [q] at h
    cases r with
    | val u => exact ⟨u, q, He.relB_ok h⟩
    | _ => cases h
theorem tupAtB_ok {K : PySem.W.Frag} {a : Addr} {vs : List V} (h : tupAtB K a vs = true) (H : Hp) : SqT K H a vs := by
  unfold tupAtB at h
  cases q : K.lookup a with
  | none => rw [q] at h; cases h
  | some o =>
    obtain ⟨oc, od, dt, osl⟩ := o
    rw [q] at h
    cases oc with
    | type c =>
      cases dt with
      | seq its n =>
        obtain ⟨h1, h2⟩ := He.ba (show (decide (c = "tuple") && (decide (its.size ≤ sizeLine) && He.relAll vs its.toList)) = true from h)
        obtain ⟨h3, h4⟩ := He.ba h2
        exact .inr ⟨_, its, n, q, congrArg Value.type (of_decide_eq_true h1), rfl, of_decide_eq_true h3, He.relAll_ok h4⟩
      | _ => cases h
    | _ => cases dt <;> cases h
/-- a constant of a class: as its reading asks -/
def CV (K : PySem.W.Frag) (C : Addr) (f : Str) (v : V) : Prop := ∃ mc u, CRead K C mc ∧ CVal K C mc f v u
theorem cv_of {K : PySem.W.Frag} {C f : Str} {v : He.Dv} (h : cvB K C f v = true) : CV K (He.ga K C) f (v.v K) := let ⟨a, u, b⟩ := cvB_ok h; ⟨_, u, a, b⟩
structure Cvs (K : PySem.W.Frag) : Prop where
  mostAsk : CV K (He.ga K "Reader") "MOST_ASK" (.int 9)
  mostStates : CV K (He.ga K "Reader") "MOST_STATES" (.int 6)
  mostParts : CV K (He.ga K "Table") "MOST_PARTS" (.int 4)
  mostRows : CV K (He.ga K "Table") "MOST_ROWS" (.int 300)
  marks : CV K (He.ga K "Reader") "MARKS" (.ref (cvA "Reader" "MARKS" K))
  inner : CV K (He.ga K "Reader") "INNER" (.ref (cvA "Reader" "INNER" K))
  orders : CV K (He.ga K "Reader") "ORDERS" (.ref (cvA "Reader" "ORDERS" K))
  tMarks : ∀ H, SqT K H (cvA "Reader" "MARKS" K) [.str "key", .str "from", .str "row", .str "each", .str "count", .str "rest"]
  tInner : ∀ H, SqT K H (cvA "Reader" "INNER" K) [.str "up", .str "down"]
  tOrders : ∀ H, SqT K H (cvA "Reader" "ORDERS" K) [.str "number", .str "back", .str "part"]
  empty : ∀ H, SqT K H (emptyAt K) []
theorem Tx.cv (T : Tx g) : Cvs g.K := by
  have h := T.ex
  unfold K48.ex at h
  obtain ⟨_, h⟩ := He.ba h
  obtain ⟨h1, h⟩ := He.ba h
  obtain ⟨h2, h⟩ := He.ba h
  obtain ⟨h3, h⟩ := He.ba h
  obtain ⟨h4, h⟩ := He.ba h
  obtain ⟨h5, h⟩ := He.ba h
  obtain ⟨h6, h⟩ := He.ba h
  obtain ⟨h7, h⟩ := He.ba h
  obtain ⟨h8, h⟩ := He.ba h
  obtain ⟨h9, h⟩ := He.ba h
  obtain ⟨h10, h⟩ := He.ba h
  obtain ⟨h11, h⟩ := He.ba h
  exact ⟨cv_of h1, cv_of h2, cv_of h3, cv_of h4, cv_of h5, cv_of h6, cv_of h7, tupAtB_ok h8, tupAtB_ok h9, tupAtB_ok h10, tupAtB_ok h11⟩
theorem Tx.tne (T : Tx g) : (He.cT g.K ("inner_sorted", none)).2 ≠ (He.cT g.K ("middle_sorted", none)).2 := by
  have h := T.ex
  unfold K48.ex at h
  obtain ⟨_, h⟩ := He.ba h
  obtain ⟨_, h⟩ := He.ba h
  obtain ⟨_, h⟩ := He.ba h
  obtain ⟨_, h⟩ := He.ba h
  obtain ⟨_, h⟩ := He.ba h
  obtain ⟨_, h⟩ := He.ba h
  obtain ⟨_, h⟩ := He.ba h
  obtain ⟨_, h⟩ := He.ba h
  obtain ⟨_, h⟩ := He.ba h
  obtain ⟨_, h⟩ := He.ba h
  obtain ⟨_, h⟩ := He.ba h
  obtain ⟨_, h⟩ := He.ba h
  obtain ⟨_, h⟩ := He.ba h
  obtain ⟨_, h⟩ := He.ba h
  intro e
  rw [e] at h
  have h2 : (!Nat.beq (He.cT g.K ("middle_sorted", none)).2 (He.cT g.K ("middle_sorted", none)).2) = true := h
  rw [Nat.beq_refl] at h2
  cases h2
end
/-! ### what may change from heap to heap: the objects at ms, the tables of code objects -/
/-- nothing is known at p, but perhaps a table of code objects -/
def Fr (H : Hp) (p : Addr) : Prop := ∀ o, H p = some o → ∃ ps, o = .tbl ps
theorem Fr.of {H : Hp} {p : Addr} (h : H p = none) : Fr H p := fun o e => by rw [h] at e; cases e
structure Up (K : PySem.W.Frag) (ms : List Addr) (H H' : Hp) : Prop where
  keep : ∀ b o, b ∉ ms → H b = some o → (∀ ps, o ≠ .tbl ps) → H' b = some o
  tabs : LamX.Tabs (tabT K) H → LamX.Tabs (tabT K) H'
  tup : ∀ b xs, H b = some (.tup xs) → H' b = some (.tup xs)
  has : ∀ b, Fr H' b → Fr H b
section
variable {K : PySem.W.Frag} {ms ms' : List Addr} {H H0 H1 H2 H' : Hp} {p a : Addr} {o u : HO} {xs ys : List V}
theorem Fr.ne (h : H a = some o) (f : Fr H p) (n : ∀ ps, o ≠ .tbl ps) : a ≠ p := fun e => by
  subst e
  obtain ⟨ps, z⟩ := f _ h
  exact n ps z
theorem Up.refl : Up K ms H H := ⟨fun _ _ _ h _ => h, fun h => h, fun _ _ h => h, fun _ h => h⟩
theorem Up.trans (a : Up K ms H H1) (b : Up K ms H1 H2) : Up K ms H H2 :=
  ⟨fun c o hm h n => b.keep c o hm (a.keep c o hm h n) n, fun h => b.tabs (a.tabs h), fun c xs h => b.tup c xs (a.tup c xs h), fun c h => a.has c (b.has c h)⟩
theorem Up.mono (a : Up K ms H H1) (h : ∀ x ∈ ms, x ∈ ms') : Up K ms' H H1 := ⟨fun b o hm => a.keep b o fun z => hm (h b z), a.tabs, a.tup, a.has⟩
theorem Up.wide (a : Up K [] H H1) : Up K ms H H1 := a.mono fun x h => by cases h
theorem Up.same (e : ∀ b o, H b = some o → H' b = some o) : Up K ms H H' := ⟨fun b o _ h _ => e b o h, fun t => t.ext e, fun b xs h => e b _ h, fun b h o q => h o (e b o q)⟩
/-- all but the tables stay, the tables stay right -/
theorem Up.lam (e : LamX.ExtN H H') (t : LamX.Tabs (tabT K) H') : Up K ms H H' := ⟨fun b o _ h n => e b o h n, fun _ => t, fun b xs h => e b _ h fun ps z => (by cases z), fun b f o q => by
  by_cases z : ∃ ps, o = .tbl ps
  · exact z
  · exact f o (e b o q fun ps y => z ⟨ps, y⟩)⟩
theorem Up.new (h : H p = none) : Up K ms H (upd H p o) := Up.same fun b u e => by
  rw [upd_ne (ne_of_none e h)]
  exact e
/-- one's own: a thing that may be written, no table and no tuple -/
def Own : HO → Prop
  | .lst _ => True
  | .dK _ => True
  | .dT _ => True
  | .set _ _ => True
  | .ins _ _ _ => True
  | .frz _ (.dT _) => True
  | .ext φ => ∀ (c : Addr) (q : Str), HO.ext φ ≠ LamX.CodeO c q
  | _ => False
theorem Own.nt (ho : Own o) : ∀ ps, o ≠ .tbl ps := fun ps z => by rw [z] at ho; exact ho
theorem Up.set (hp : H p = some o) (ho : Own o) (hm : p ∈ ms) (hu : ∀ ps, u ≠ .tbl ps := by intro ps z; cases z) : Up K ms H (upd H p u) := by
  have nt : ∀ b xs, H b = some (.tup xs) → b ≠ p := fun b xs h z => by rw [z, hp] at h; cases h; exact ho
  have nl : ∀ b ps, H b = some (.tbl ps) → b ≠ p := fun b ps h z => by rw [z, hp] at h; cases h; exact ho
  have nc : ∀ b c q, H b = some (LamX.CodeO c q) → b ≠ p := fun b c q h z => by rw [z, hp] at h; cases h; exact ho c q rfl
  refine ⟨fun b v hb h n => by rw [upd_ne (fun z => hb (by rw [z]; exact hm))]; exact h, fun t q hq => ?_, fun b xs h => by rw [upd_ne (nt b xs h)]; exact h, fun b h => ?_⟩
  · obtain ⟨ps, h1, h2, h3⟩ := t q hq
    refine ⟨ps, by rw [upd_ne (nl _ ps h1)]; exact h1, h2, fun pos cv hc => ?_⟩
    obtain ⟨c, e1, e2⟩ := h3 pos cv hc
    exact ⟨c, e1, by rw [upd_ne (nc _ _ _ e2)]; exact e2⟩
  · by_cases z : b = p
    · subst z
      obtain ⟨ps, y⟩ := h u upd_same
      exact absurd y (hu ps)
    · intro v e
      exact h v (by rw [upd_ne z]; exact e)
/-- a thing made since is written -/
theorem Up.mut (e : Up K ms H0 H) (h0 : Fr H0 p) (hp : H p = some o) (ho : Own o) (hu : ∀ ps, u ≠ .tbl ps := by intro ps z; cases z) : Up K ms H0 (upd H p u) := by
  have s := Up.set (K := K) (ms := [p]) (u := u) hp ho List.mem_cons_self hu
  refine ⟨fun b v hb h n => ?_, fun t => s.tabs (e.tabs t), fun b xs h => s.tup b xs (e.tup b xs h), fun b h => e.has b (s.has b h)⟩
  rw [upd_ne (Fr.ne h h0 n)]
  exact e.keep b v hb h n
/-- .. and forgotten: what was changed since was not there -/
theorem Up.drop (e : Up K (p :: ms) H0 H) (h0 : Fr H0 p) : Up K ms H0 H := by
  refine ⟨fun b v hb h n => e.keep b v (fun z => ?_) h n, e.tabs, e.tup, e.has⟩
  rcases List.mem_cons.mp z with rfl | z
  · exact Fr.ne h h0 n rfl
  · exact hb z
theorem Up.fresh (e : Up K ms H H') (h : H' p = none) : Fr H p := e.has p (.of h)
theorem Up.lst (e : Up K ms H H') (h : H a = some (.lst xs)) (hm : a ∉ ms := by simp) : H' a = some (.lst xs) := e.keep a _ hm h fun ps z => by cases z
theorem Up.ins {C dx : Addr} {fs : List (Str × V)} (e : Up K ms H H') (h : H a = some (.ins C dx fs)) (hm : a ∉ ms := by simp) : H' a = some (.ins C dx fs) := e.keep a _ hm h fun ps z => by cases z
theorem Up.dT {kvs : List (List L2.Key × V)} (e : Up K ms H H') (h : H a = some (.dT kvs)) (hm : a ∉ ms := by simp) : H' a = some (.dT kvs) := e.keep a _ hm h fun ps z => by cases z
theorem Up.rd (e : Up K ms H H') (h : Rd H a (.lst xs)) (hm : a ∉ ms := by simp) : Rd H' a (.lst xs) := by
  rcases h with h | ⟨o, h⟩
  · exact .inl (e.lst h hm)
  · exact .inr ⟨o, e.keep a _ hm h fun ps z => by cases z⟩
theorem Up.sqL (e : Up K ms H H') (h : SqL K H a xs) (hm : a ∉ ms := by simp) : SqL K H' a xs := by
  rcases h with h | h
  · exact .inl (e.rd h hm)
  · exact .inr h
end
/-! ### tuples of ints -/
abbrev Row := Int × Int × Nat
def PlV (H : Hp) (v : V) (p : Place) : Prop := ∃ a, v = .ref a ∧ H a = some (.tup [.int p.1, .int p.2])
def RwV (H : Hp) (v : V) (r : Row) : Prop := ∃ a b, v = .ref a ∧ H a = some (.tup [.int r.1, .int r.2.1, .ref b]) ∧ H b = some (.tup [.int r.2.2])
abbrev Pls (H : Hp) : List V → List Place → Prop := Paired (PlV H)
abbrev Rws (H : Hp) : List V → List Row → Prop := Paired (RwV H)
def TpS (H H' : Hp) : Prop := ∀ b xs, H b = some (.tup xs) → H' b = some (.tup xs)
section
variable {K : PySem.W.Frag} {ms : List Addr} {H H' : Hp} {v : V} {p : Place} {r : Row} {vs : List V} {ps : List Place} {rs : List Row}
theorem Up.ts (e : Up K ms H H') : TpS H H' := e.tup
theorem TpS.pl (e : TpS H H') (h : PlV H v p) : PlV H' v p := let ⟨a, h1, h2⟩ := h; ⟨a, h1, e _ _ h2⟩
theorem TpS.rw (e : TpS H H') (h : RwV H v r) : RwV H' v r := let ⟨a, b, h1, h2, h3⟩ := h; ⟨a, b, h1, e _ _ h2, e _ _ h3⟩
theorem TpS.pls (e : TpS H H') (h : Pls H vs ps) : Pls H' vs ps := L2.Paired.mapP h fun _ _ => e.pl
theorem TpS.rws (e : TpS H H') (h : Rws H vs rs) : Rws H' vs rs := L2.Paired.mapP h fun _ _ => e.rw
end
/-! ### calls in short -/
/-- a def of the module keeps a promise -/
def Cal (g : GX) (k : Nat) (x : Str) (sp : Sp) : Prop := ∃ (f : Addr) (fd : FuncData) (ps : List Str), FnOk g.P g.w g.K g.mg g.base CX0 k f fd ps sp ∧ g.mg x = some (.ref f) ∧ PySem.W.keepIn g.K (.ref f) = true ∧ Binds g.K fd ps []
/-- a method of the class -/
def CalM (g : GX) (k : Nat) (C m : Str) (sp : Sp) : Prop := ∃ (f : Addr) (fd : FuncData) (ps : List Str), FnOk g.P g.w g.K g.mg g.base CX0 k f fd ps sp ∧ Cls g.K (He.ga g.K C) ∧ Meth g.K (He.ga g.K C) m f ∧ Binds g.K fd ps []
/-- a property of the class -/
def CalP (g : GX) (k : Nat) (C m : Str) (sp : Sp) : Prop := ∃ (p f : Addr) (fd : FuncData) (ps : List Str), FnOk g.P g.w g.K g.mg g.base CX0 k f fd ps sp ∧ Cls g.K (He.ga g.K C) ∧ PropOf g.K (He.ga g.K C) m p f ∧ Binds g.K fd ps []
section
variable {X : Cx} {k j : Nat} {x m C : Str} {sp : Sp} {p pos apos : Pos} {e o : Expr} {es : List Expr} {t : TA} {ta : TE}
theorem pe_c (c : Cal (gOf X) k x sp) (hr : Room j X.A) (ha : PA X (e :: es) t) (hk : k ≤ j := by decide) (hg : Gl X x := by rfl) (hdb : (x == ("__debug__" : Str)) = false := by decide)
    (he : starEach (e :: es) X.env = (false, eval e X.env) :: starEach es X.env := by rfl) (hpl : (backTo pos (starEach es X.env)).any (·.1) = false := by rfl) :
    PE X (.Call (.Name x p) (e :: es) [] pos) (tCall sp [] E0 t) := by
  obtain ⟨f, fd, ps, F, h1, h2, h3⟩ := c
  exact pe_call F (hr.mono hk) hg h1 h2 h3 .nil pass0 ha hdb he hpl
theorem pe_m (c : CalM (gOf X) k C m sp) (hr : Room j X.A) (ho : PE X o ta) (ha : PA X (e :: es) t) (hk : k ≤ j := by decide) {pl : Sem Bool}
    (hst : starEach (e :: es) X.env = (false, eval e X.env) :: starEach es X.env := by rfl) (hpl : (backTo pos (starEach es X.env)).any (·.1) = false := by rfl)
    (ht : eval (.Call (.Attribute o m apos) (e :: es) [] pos) X.env = (do
      let ov ← eval o X.env
      standAt apos.atName
      let (f, first) ← holding [ov] (getMethod ov m pl)
      callWith pos f first (backTo pos (starEach (e :: es) X.env)) (backToKw pos (keywordEach [] X.env))) := by rfl) :
    PE X (.Call (.Attribute o m apos) (e :: es) [] pos) (tMeth (He.ga X.K C) m sp [] E0 ta t) := by
  obtain ⟨f, fd, ps, F, h1, h2, h3⟩ := c
  exact pe_meth ho h1 h2 F (hr.mono hk) h3 .nil pass0 ha hst hpl ht
theorem pe_m0 (c : CalM (gOf X) k C m sp) (hr : Room j X.A) (ho : PE X o ta) (hk : k ≤ j := by decide) {pl : Sem Bool}
    (ht : eval (.Call (.Attribute o m apos) [] [] pos) X.env = (do
      let ov ← eval o X.env
      standAt apos.atName
      let (f, first) ← holding [ov] (getMethod ov m pl)
      callWith pos f first (backTo pos (starEach [] X.env)) (backToKw pos (keywordEach [] X.env))) := by rfl) :
    PE X (.Call (.Attribute o m apos) [] [] pos) (tMeth (He.ga X.K C) m sp [] E0 ta tNil) := by
  obtain ⟨f, fd, ps, F, h1, h2, h3⟩ := c
  exact pe_meth0 ho h1 h2 F (hr.mono hk) h3 .nil pass0 ht
theorem pe_p (c : CalP (gOf X) k C m sp) (hr : Room j X.A) (ho : PE X o ta) (hk : k + 1 ≤ j := by decide) (hab : attributeBase o m X.env (eval o X.env) = eval o X.env := by rfl) :
    PE X (.Attribute o m pos) (tProp (He.ga X.K C) sp [] E0 ta) := by
  obtain ⟨q, f, fd, ps, F, h1, h2, h3⟩ := c
  exact pe_prop ho h1 h2 F (hr.mono hk) h3 .nil pass0 hab
end
/-! ### a def by its body -/
section
variable {g : GX}
theorem def_ok {x qual : Str} {params : Arguments} {body : List Stmt} {scope : Scope} {dvs : List V} {kws : List (Str × V)} {f : Addr} {fd : FuncData} {N ps : List Str} {k : Nat} {sp : Sp} (F : FunD g.K x qual params body scope dvs kws f fd) (S : FnScope N ps scope)
    (len : ∀ vs H Q E, sp vs H Q E → vs.length = ps.length)
    (hbody : ∀ (cdv : Value) (A : Around) (outer : List Env) (s : Shared) (H : Hp) (vs : List V) (Q : VK) (E : XK), Room k (A.deeper (envOfC qual scope s.heap.objs.size f cdv)) → sp vs H Q E →
      ∃ t, PSs (cxOf CX0 g.P g.w g.K g.mg g.base N qual scope f cdv A outer s H E).nox body t ∧ t { nx := fun _ H' => Q .non H', rt := Q } (start N vs) H) : FnOk g.P g.w g.K g.mg g.base CX0 (k + 1) f fd ps sp :=
  F.ok S len fun cdv A outer s H vs Q E hr h => by
    obtain ⟨t, h1, h2⟩ := hbody cdv A outer s H vs Q E hr h
    exact ⟨t, h1.nox, h2⟩
/-- .. and its code object is known -/
theorem def_okC {x qual : Str} {params : Arguments} {body : List Stmt} {scope : Scope} {dvs : List V} {kws : List (Str × V)} {p : Str × Option Str} {fd : FuncData} {N ps : List Str} {k : Nat} {sp : Sp} (F : FunD g.K x qual params body scope dvs kws (He.fAd g.K p) fd) (S : FnScope N ps scope)
    (len : ∀ vs H Q E, sp vs H Q E → vs.length = ps.length)
    (hbody : ∀ (A : Around) (outer : List Env) (s : Shared) (H : Hp) (vs : List V) (Q : VK) (E : XK), Room k (A.deeper (envOfC qual scope s.heap.objs.size (He.fAd g.K p) (.ref (He.cT g.K p).1))) → sp vs H Q E →
      ∃ t, PSs (cxOf CX0 g.P g.w g.K g.mg g.base N qual scope (He.fAd g.K p) (.ref (He.cT g.K p).1) A outer s H E).nox body t ∧ t { nx := fun _ H' => Q .non H', rt := Q } (start N vs) H) : FnOk g.P g.w g.K g.mg g.base CX0 (k + 1) (He.fAd g.K p) fd ps sp := by
  obtain ⟨oc, od, dV, kV, doc, pm, an, cdv, ct, osl, rfl, lk, hcd, _, _⟩ := F.ex
  obtain ⟨c, rfl⟩ := He.codeIn_ref hcd
  have e : (He.cT g.K p).1 = c := He.codeOf_eq lk rfl
  subst e
  refine fn_of lk hcd S len fun A outer s H vs Q E hr h => ?_
  obtain ⟨t, h1, h2⟩ := hbody A outer s H vs Q E hr h
  exact ⟨t, h1.nox, h2⟩
end
/-! ### some words -/
section
variable {X : Cx} {e a b : Expr} {te ta tb : TE} {pos p p2 : Pos}
/-- isinstance(e, T), T a built-in class -/
def tIsB (K : PySem.W.Frag) (T : String) (te : TE) : TE := fun σ H Q => te σ H fun x H1 => rIsi K [x, .ty T] H1 Q
theorem isB_ok {K : PySem.W.Frag} {H : Hp} {T U : String} {x : V} {b : Bool} {Q : VK} (ty : TyX K H x (.type U)) (h : kitB U T = some b) (q : Q (.bl b) H) : rIsi K [x, .ty T] H Q :=
  ⟨x, .ty T, _, _, b, rfl, .ty T, ty, kit_ty h, q⟩
theorem pe_isB {n : Str} (T : String) (he : PE X e te) (hm : X.mg "isinstance" = none) (hmT : X.mg n = none) (hv : bootBuiltins n = some (.type T) := by decide +kernel) (hg : Gl X "isinstance" := by rfl) (hgT : Gl X n := by rfl)
    (hn : n ≠ "__name__" := by decide) (hd : (n == ("__debug__" : Str)) = false := by decide)
    (hs : starEach [e, .Name n p2] X.env = (false, eval e X.env) :: starEach [.Name n p2] X.env := by rfl) (hpl : (backTo pos (starEach [.Name n p2] X.env)).any (·.1) = false := by rfl) :
    PE X (.Call (.Name "isinstance" p) [e, .Name n p2] [] pos) (tIsB X.K T te) := by
  have h1 : PE X (.Name n p2) (tC (.ty T)) := pe_bltn hgT hmT hv rfl hn hd
  exact pe_callB (p := p) (pos := pos) (x := "isinstance") call_isi hg hm (by decide +kernel) (pa_cons he (pa_cons h1 pa_nil) hs) (by decide) (by decide) hs hpl
end
end K48

namespace K48
open PySem PySem.Spec PyProof.Rows L2 ClX
variable {g : GX}
theorem g_is_number (T : Tx g) : g.mg "is_number" = some (.ref (He.ga g.K "is_number")) := T.glo _ (List.mem_of_getElem? (i := 0) (by rfl))
theorem g_is_tuple_of (T : Tx g) : g.mg "is_tuple_of" = some (.ref (He.ga g.K "is_tuple_of")) := T.glo _ (List.mem_of_getElem? (i := 1) (by rfl))
theorem g_are_parts (T : Tx g) : g.mg "are_parts" = some (.ref (He.ga g.K "are_parts")) := T.glo _ (List.mem_of_getElem? (i := 2) (by rfl))
theorem g_is_text_in (T : Tx g) : g.mg "is_text_in" = some (.ref (He.ga g.K "is_text_in")) := T.glo _ (List.mem_of_getElem? (i := 3) (by rfl))
theorem g_is_ask (T : Tx g) : g.mg "is_ask" = some (.ref (He.ga g.K "is_ask")) := T.glo _ (List.mem_of_getElem? (i := 4) (by rfl))
theorem g_are_asks (T : Tx g) : g.mg "are_asks" = some (.ref (He.ga g.K "are_asks")) := T.glo _ (List.mem_of_getElem? (i := 5) (by rfl))
theorem g_is_state (T : Tx g) : g.mg "is_state" = some (.ref (He.ga g.K "is_state")) := T.glo _ (List.mem_of_getElem? (i := 6) (by rfl))
theorem g_need_inner (T : Tx g) : g.mg "need_inner" = some (.ref (He.ga g.K "need_inner")) := T.glo _ (List.mem_of_getElem? (i := 7) (by rfl))
theorem g_need_order (T : Tx g) : g.mg "need_order" = some (.ref (He.ga g.K "need_order")) := T.glo _ (List.mem_of_getElem? (i := 8) (by rfl))
theorem g_is_place (T : Tx g) : g.mg "is_place" = some (.ref (He.ga g.K "is_place")) := T.glo _ (List.mem_of_getElem? (i := 9) (by rfl))
theorem g_is_row (T : Tx g) : g.mg "is_row" = some (.ref (He.ga g.K "is_row")) := T.glo _ (List.mem_of_getElem? (i := 10) (by rfl))
theorem g_need_part (T : Tx g) : g.mg "need_part" = some (.ref (He.ga g.K "need_part")) := T.glo _ (List.mem_of_getElem? (i := 11) (by rfl))
theorem g_need_many (T : Tx g) : g.mg "need_many" = some (.ref (He.ga g.K "need_many")) := T.glo _ (List.mem_of_getElem? (i := 12) (by rfl))
theorem g_inner_sorted (T : Tx g) : g.mg "inner_sorted" = some (.ref (He.ga g.K "inner_sorted")) := T.glo _ (List.mem_of_getElem? (i := 13) (by rfl))
theorem g_middle_sorted (T : Tx g) : g.mg "middle_sorted" = some (.ref (He.ga g.K "middle_sorted")) := T.glo _ (List.mem_of_getElem? (i := 14) (by rfl))
theorem g_judge (T : Tx g) : g.mg "judge" = some (.ref (He.ga g.K "judge")) := T.glo _ (List.mem_of_getElem? (i := 15) (by rfl))
theorem g_need_plain (T : Tx g) : g.mg "need_plain" = some (.ref (He.ga g.K "need_plain")) := T.glo _ (List.mem_of_getElem? (i := 16) (by rfl))
theorem g__law_open (T : Tx g) : g.mg "_law_open" = some (.ref (He.ga g.K "_law_open")) := T.glo _ (List.mem_of_getElem? (i := 17) (by rfl))
theorem g__law_draw (T : Tx g) : g.mg "_law_draw" = some (.ref (He.ga g.K "_law_draw")) := T.glo _ (List.mem_of_getElem? (i := 18) (by rfl))
theorem g__law_of (T : Tx g) : g.mg "_law_of" = some (.ref (He.ga g.K "_law_of")) := T.glo _ (List.mem_of_getElem? (i := 19) (by rfl))
theorem g__law_mixed (T : Tx g) : g.mg "_law_mixed" = some (.ref (He.ga g.K "_law_mixed")) := T.glo _ (List.mem_of_getElem? (i := 20) (by rfl))
theorem g__law_like (T : Tx g) : g.mg "_law_like" = some (.ref (He.ga g.K "_law_like")) := T.glo _ (List.mem_of_getElem? (i := 21) (by rfl))
theorem g__law_numbers (T : Tx g) : g.mg "_law_numbers" = some (.ref (He.ga g.K "_law_numbers")) := T.glo _ (List.mem_of_getElem? (i := 22) (by rfl))
theorem g__law_base (T : Tx g) : g.mg "_law_base" = some (.ref (He.ga g.K "_law_base")) := T.glo _ (List.mem_of_getElem? (i := 23) (by rfl))
theorem g__law_some_parts (T : Tx g) : g.mg "_law_some_parts" = some (.ref (He.ga g.K "_law_some_parts")) := T.glo _ (List.mem_of_getElem? (i := 24) (by rfl))
theorem g__law_rows (T : Tx g) : g.mg "_law_rows" = some (.ref (He.ga g.K "_law_rows")) := T.glo _ (List.mem_of_getElem? (i := 25) (by rfl))
theorem g__law_table (T : Tx g) : g.mg "_law_table" = some (.ref (He.ga g.K "_law_table")) := T.glo _ (List.mem_of_getElem? (i := 26) (by rfl))
theorem g__law_ties_drawn (T : Tx g) : g.mg "_law_ties_drawn" = some (.ref (He.ga g.K "_law_ties_drawn")) := T.glo _ (List.mem_of_getElem? (i := 27) (by rfl))
theorem g_law (T : Tx g) : g.mg "law" = some (.ref (He.ga g.K "law")) := T.glo _ (List.mem_of_getElem? (i := 28) (by rfl))
theorem g_Reader (T : Tx g) : g.mg "Reader" = some (.ref (He.ga g.K "Reader")) := T.glo _ (List.mem_of_getElem? (i := 29) (by rfl))
theorem g_Table (T : Tx g) : g.mg "Table" = some (.ref (He.ga g.K "Table")) := T.glo _ (List.mem_of_getElem? (i := 30) (by rfl))
theorem g_Run (T : Tx g) : g.mg "Run" = some (.ref (He.ga g.K "Run")) := T.glo _ (List.mem_of_getElem? (i := 31) (by rfl))
theorem g_Hand (T : Tx g) : g.mg "Hand" = some (.ref (He.ga g.K "Hand")) := T.glo _ (List.mem_of_getElem? (i := 32) (by rfl))
theorem f_isinstance (T : Tx g) : g.mg "isinstance" = none := T.free _ (List.mem_of_getElem? (i := 33) (by rfl))
theorem f_int (T : Tx g) : g.mg "int" = none := T.free _ (List.mem_of_getElem? (i := 34) (by rfl))
theorem f_bool (T : Tx g) : g.mg "bool" = none := T.free _ (List.mem_of_getElem? (i := 35) (by rfl))
theorem f_tuple (T : Tx g) : g.mg "tuple" = none := T.free _ (List.mem_of_getElem? (i := 36) (by rfl))
theorem f_str (T : Tx g) : g.mg "str" = none := T.free _ (List.mem_of_getElem? (i := 37) (by rfl))
theorem f_list (T : Tx g) : g.mg "list" = none := T.free _ (List.mem_of_getElem? (i := 38) (by rfl))
theorem f_len (T : Tx g) : g.mg "len" = none := T.free _ (List.mem_of_getElem? (i := 39) (by rfl))
theorem f_all (T : Tx g) : g.mg "all" = none := T.free _ (List.mem_of_getElem? (i := 40) (by rfl))
theorem f_zip (T : Tx g) : g.mg "zip" = none := T.free _ (List.mem_of_getElem? (i := 41) (by rfl))
theorem f_enumerate (T : Tx g) : g.mg "enumerate" = none := T.free _ (List.mem_of_getElem? (i := 42) (by rfl))
theorem f_range (T : Tx g) : g.mg "range" = none := T.free _ (List.mem_of_getElem? (i := 43) (by rfl))
theorem f_sorted (T : Tx g) : g.mg "sorted" = none := T.free _ (List.mem_of_getElem? (i := 44) (by rfl))
theorem f_set (T : Tx g) : g.mg "set" = none := T.free _ (List.mem_of_getElem? (i := 45) (by rfl))
theorem f_max (T : Tx g) : g.mg "max" = none := T.free _ (List.mem_of_getElem? (i := 46) (by rfl))
theorem f_min (T : Tx g) : g.mg "min" = none := T.free _ (List.mem_of_getElem? (i := 47) (by rfl))
theorem i_MOST_PARTS (T : Tx g) : ∃ t, g.mg "MOST_PARTS" = some (.int 4 t) := T.int _ _ (List.mem_of_getElem? (i := 48) (by rfl))
theorem i_MOST_SIZE (T : Tx g) : ∃ t, g.mg "MOST_SIZE" = some (.int 9 t) := T.int _ _ (List.mem_of_getElem? (i := 49) (by rfl))
theorem i_BOUND (T : Tx g) : ∃ t, g.mg "BOUND" = some (.int 1000000000 t) := T.int _ _ (List.mem_of_getElem? (i := 50) (by rfl))
theorem cl_Reader (T : Tx g) : Cls g.K (He.ga g.K "Reader") := T.cls (List.mem_of_getElem? (i := 51) (by rfl))
theorem mk_Reader (T : Tx g) : Mk g.K (He.ga g.K "Reader") (He.ma g.K (He.ga g.K "Reader") "__init__") := T.mkr (List.mem_of_getElem? (i := 52) (by rfl))
theorem n_Reader_own_mark (T : Tx g) : NoAttr g.K (He.ga g.K "Reader") "own_mark" := T.noat (List.mem_of_getElem? (i := 53) (by rfl))
theorem n_Reader_own_inner (T : Tx g) : NoAttr g.K (He.ga g.K "Reader") "own_inner" := T.noat (List.mem_of_getElem? (i := 54) (by rfl))
theorem n_Reader_own_order (T : Tx g) : NoAttr g.K (He.ga g.K "Reader") "own_order" := T.noat (List.mem_of_getElem? (i := 55) (by rfl))
theorem n_Reader_own_states (T : Tx g) : NoAttr g.K (He.ga g.K "Reader") "own_states" := T.noat (List.mem_of_getElem? (i := 56) (by rfl))
theorem cl_Table (T : Tx g) : Cls g.K (He.ga g.K "Table") := T.cls (List.mem_of_getElem? (i := 57) (by rfl))
theorem mk_Table (T : Tx g) : Mk g.K (He.ga g.K "Table") (He.ma g.K (He.ga g.K "Table") "__init__") := T.mkr (List.mem_of_getElem? (i := 58) (by rfl))
theorem n_Table_own_many (T : Tx g) : NoAttr g.K (He.ga g.K "Table") "own_many" := T.noat (List.mem_of_getElem? (i := 59) (by rfl))
theorem n_Table_own_rows (T : Tx g) : NoAttr g.K (He.ga g.K "Table") "own_rows" := T.noat (List.mem_of_getElem? (i := 60) (by rfl))
theorem cl_Run (T : Tx g) : Cls g.K (He.ga g.K "Run") := T.cls (List.mem_of_getElem? (i := 61) (by rfl))
theorem mk_Run (T : Tx g) : Mk g.K (He.ga g.K "Run") (He.ma g.K (He.ga g.K "Run") "__init__") := T.mkr (List.mem_of_getElem? (i := 62) (by rfl))
theorem n_Run_own_reader (T : Tx g) : NoAttr g.K (He.ga g.K "Run") "own_reader" := T.noat (List.mem_of_getElem? (i := 63) (by rfl))
theorem n_Run_stand (T : Tx g) : NoAttr g.K (He.ga g.K "Run") "stand" := T.noat (List.mem_of_getElem? (i := 64) (by rfl))
theorem n_Run_past (T : Tx g) : NoAttr g.K (He.ga g.K "Run") "past" := T.noat (List.mem_of_getElem? (i := 65) (by rfl))
theorem n_Run_ahead (T : Tx g) : NoAttr g.K (He.ga g.K "Run") "ahead" := T.noat (List.mem_of_getElem? (i := 66) (by rfl))
theorem cl_Hand (T : Tx g) : Cls g.K (He.ga g.K "Hand") := T.cls (List.mem_of_getElem? (i := 67) (by rfl))
theorem mk_Hand (T : Tx g) : Mk g.K (He.ga g.K "Hand") (He.ma g.K (He.ga g.K "Hand") "__init__") := T.mkr (List.mem_of_getElem? (i := 68) (by rfl))
theorem n_Hand_own_size (T : Tx g) : NoAttr g.K (He.ga g.K "Hand") "own_size" := T.noat (List.mem_of_getElem? (i := 69) (by rfl))
theorem n_Hand_own_asks (T : Tx g) : NoAttr g.K (He.ga g.K "Hand") "own_asks" := T.noat (List.mem_of_getElem? (i := 70) (by rfl))
theorem n_Hand_own_order (T : Tx g) : NoAttr g.K (He.ga g.K "Hand") "own_order" := T.noat (List.mem_of_getElem? (i := 71) (by rfl))
theorem n_Hand_unsent (T : Tx g) : NoAttr g.K (He.ga g.K "Hand") "unsent" := T.noat (List.mem_of_getElem? (i := 72) (by rfl))
theorem n_Hand_own_hand (T : Tx g) : NoAttr g.K (He.ga g.K "Hand") "own_hand" := T.noat (List.mem_of_getElem? (i := 73) (by rfl))
theorem n_Hand_told_places (T : Tx g) : NoAttr g.K (He.ga g.K "Hand") "told_places" := T.noat (List.mem_of_getElem? (i := 74) (by rfl))
theorem m_Reader_states (T : Tx g) : Meth g.K (He.ga g.K "Reader") "states" (He.ma g.K (He.ga g.K "Reader") "states") := T.meth (List.mem_of_getElem? (i := 75) (by rfl))
theorem m_Table_rows (T : Tx g) : Meth g.K (He.ga g.K "Table") "rows" (He.ma g.K (He.ga g.K "Table") "rows") := T.meth (List.mem_of_getElem? (i := 76) (by rfl))
theorem m_Table_places (T : Tx g) : Meth g.K (He.ga g.K "Table") "places" (He.ma g.K (He.ga g.K "Table") "places") := T.meth (List.mem_of_getElem? (i := 77) (by rfl))
theorem m_Table_part (T : Tx g) : Meth g.K (He.ga g.K "Table") "part" (He.ma g.K (He.ga g.K "Table") "part") := T.meth (List.mem_of_getElem? (i := 78) (by rfl))
theorem m_Table_row_of (T : Tx g) : Meth g.K (He.ga g.K "Table") "row_of" (He.ma g.K (He.ga g.K "Table") "row_of") := T.meth (List.mem_of_getElem? (i := 79) (by rfl))
theorem m_Table_parts_of (T : Tx g) : Meth g.K (He.ga g.K "Table") "parts_of" (He.ma g.K (He.ga g.K "Table") "parts_of") := T.meth (List.mem_of_getElem? (i := 80) (by rfl))
theorem m_Run_pages (T : Tx g) : Meth g.K (He.ga g.K "Run") "pages" (He.ma g.K (He.ga g.K "Run") "pages") := T.meth (List.mem_of_getElem? (i := 81) (by rfl))
theorem m_Run_told (T : Tx g) : Meth g.K (He.ga g.K "Run") "told" (He.ma g.K (He.ga g.K "Run") "told") := T.meth (List.mem_of_getElem? (i := 82) (by rfl))
theorem m_Run_open_rows (T : Tx g) : Meth g.K (He.ga g.K "Run") "open_rows" (He.ma g.K (He.ga g.K "Run") "open_rows") := T.meth (List.mem_of_getElem? (i := 83) (by rfl))
theorem m_Run_sent (T : Tx g) : Meth g.K (He.ga g.K "Run") "sent" (He.ma g.K (He.ga g.K "Run") "sent") := T.meth (List.mem_of_getElem? (i := 84) (by rfl))
theorem m_Run_at_hand (T : Tx g) : Meth g.K (He.ga g.K "Run") "at_hand" (He.ma g.K (He.ga g.K "Run") "at_hand") := T.meth (List.mem_of_getElem? (i := 85) (by rfl))
theorem m_Run_found_ahead (T : Tx g) : Meth g.K (He.ga g.K "Run") "found_ahead" (He.ma g.K (He.ga g.K "Run") "found_ahead") := T.meth (List.mem_of_getElem? (i := 86) (by rfl))
theorem m_Run_found_behind (T : Tx g) : Meth g.K (He.ga g.K "Run") "found_behind" (He.ma g.K (He.ga g.K "Run") "found_behind") := T.meth (List.mem_of_getElem? (i := 87) (by rfl))
theorem m_Run_keep (T : Tx g) : Meth g.K (He.ga g.K "Run") "keep" (He.ma g.K (He.ga g.K "Run") "keep") := T.meth (List.mem_of_getElem? (i := 88) (by rfl))
theorem m_Run_page (T : Tx g) : Meth g.K (He.ga g.K "Run") "page" (He.ma g.K (He.ga g.K "Run") "page") := T.meth (List.mem_of_getElem? (i := 89) (by rfl))
theorem m_Run___len__ (T : Tx g) : Meth g.K (He.ga g.K "Run") "__len__" (He.ma g.K (He.ga g.K "Run") "__len__") := T.meth (List.mem_of_getElem? (i := 90) (by rfl))
theorem m_Hand_fill (T : Tx g) : Meth g.K (He.ga g.K "Hand") "fill" (He.ma g.K (He.ga g.K "Hand") "fill") := T.meth (List.mem_of_getElem? (i := 91) (by rfl))
theorem m_Hand_page (T : Tx g) : Meth g.K (He.ga g.K "Hand") "page" (He.ma g.K (He.ga g.K "Hand") "page") := T.meth (List.mem_of_getElem? (i := 92) (by rfl))
theorem m_Hand_walk (T : Tx g) : Meth g.K (He.ga g.K "Hand") "walk" (He.ma g.K (He.ga g.K "Hand") "walk") := T.meth (List.mem_of_getElem? (i := 93) (by rfl))
theorem in_is_number : d_is_number ∈ fn := List.mem_of_getElem? (i := 0) (by rfl)
theorem in_is_tuple_of : d_is_tuple_of ∈ fn := List.mem_of_getElem? (i := 1) (by rfl)
theorem in_are_parts : d_are_parts ∈ fn := List.mem_of_getElem? (i := 2) (by rfl)
theorem in_is_text_in : d_is_text_in ∈ fn := List.mem_of_getElem? (i := 3) (by rfl)
theorem in_is_ask : d_is_ask ∈ fn := List.mem_of_getElem? (i := 4) (by rfl)
theorem in_are_asks : d_are_asks ∈ fn := List.mem_of_getElem? (i := 5) (by rfl)
theorem in_is_state : d_is_state ∈ fn := List.mem_of_getElem? (i := 6) (by rfl)
theorem in_need_inner : d_need_inner ∈ fn := List.mem_of_getElem? (i := 7) (by rfl)
theorem in_need_order : d_need_order ∈ fn := List.mem_of_getElem? (i := 8) (by rfl)
theorem in_is_place : d_is_place ∈ fn := List.mem_of_getElem? (i := 9) (by rfl)
theorem in_is_row : d_is_row ∈ fn := List.mem_of_getElem? (i := 10) (by rfl)
theorem in_need_part : d_need_part ∈ fn := List.mem_of_getElem? (i := 11) (by rfl)
theorem in_need_many : d_need_many ∈ fn := List.mem_of_getElem? (i := 12) (by rfl)
theorem in_inner_sorted : d_inner_sorted ∈ fn := List.mem_of_getElem? (i := 13) (by rfl)
theorem in_middle_sorted : d_middle_sorted ∈ fn := List.mem_of_getElem? (i := 14) (by rfl)
theorem in_judge : d_judge ∈ fn := List.mem_of_getElem? (i := 15) (by rfl)
theorem in_need_plain : d_need_plain ∈ fn := List.mem_of_getElem? (i := 16) (by rfl)
theorem in__law_open : d__law_open ∈ fn := List.mem_of_getElem? (i := 17) (by rfl)
theorem in__law_draw : d__law_draw ∈ fn := List.mem_of_getElem? (i := 18) (by rfl)
theorem in__law_of : d__law_of ∈ fn := List.mem_of_getElem? (i := 19) (by rfl)
theorem in__law_mixed : d__law_mixed ∈ fn := List.mem_of_getElem? (i := 20) (by rfl)
theorem in__law_like : d__law_like ∈ fn := List.mem_of_getElem? (i := 21) (by rfl)
theorem in__law_numbers : d__law_numbers ∈ fn := List.mem_of_getElem? (i := 22) (by rfl)
theorem in__law_base : d__law_base ∈ fn := List.mem_of_getElem? (i := 23) (by rfl)
theorem in__law_some_parts : d__law_some_parts ∈ fn := List.mem_of_getElem? (i := 24) (by rfl)
theorem in__law_rows : d__law_rows ∈ fn := List.mem_of_getElem? (i := 25) (by rfl)
theorem in__law_table : d__law_table ∈ fn := List.mem_of_getElem? (i := 26) (by rfl)
theorem in__law_ties_drawn : d__law_ties_drawn ∈ fn := List.mem_of_getElem? (i := 27) (by rfl)
theorem in_law : d_law ∈ fn := List.mem_of_getElem? (i := 28) (by rfl)
theorem in_Reader___init__ : d_Reader___init__ ∈ fn := List.mem_of_getElem? (i := 29) (by rfl)
theorem in_Reader_states : d_Reader_states ∈ fn := List.mem_of_getElem? (i := 30) (by rfl)
theorem in_Table___init__ : d_Table___init__ ∈ fn := List.mem_of_getElem? (i := 31) (by rfl)
theorem in_Table_rows : d_Table_rows ∈ fn := List.mem_of_getElem? (i := 32) (by rfl)
theorem in_Table_places : d_Table_places ∈ fn := List.mem_of_getElem? (i := 33) (by rfl)
theorem in_Table_part : d_Table_part ∈ fn := List.mem_of_getElem? (i := 34) (by rfl)
theorem in_Table_row_of : d_Table_row_of ∈ fn := List.mem_of_getElem? (i := 35) (by rfl)
theorem in_Table_parts_of : d_Table_parts_of ∈ fn := List.mem_of_getElem? (i := 36) (by rfl)
theorem in_Run___init__ : d_Run___init__ ∈ fn := List.mem_of_getElem? (i := 37) (by rfl)
theorem in_Run_pages : d_Run_pages ∈ fn := List.mem_of_getElem? (i := 38) (by rfl)
theorem in_Run_told : d_Run_told ∈ fn := List.mem_of_getElem? (i := 39) (by rfl)
theorem in_Run_open_rows : d_Run_open_rows ∈ fn := List.mem_of_getElem? (i := 40) (by rfl)
theorem in_Run_sent : d_Run_sent ∈ fn := List.mem_of_getElem? (i := 41) (by rfl)
theorem in_Run_at_hand : d_Run_at_hand ∈ fn := List.mem_of_getElem? (i := 42) (by rfl)
theorem in_Run_found_ahead : d_Run_found_ahead ∈ fn := List.mem_of_getElem? (i := 43) (by rfl)
theorem in_Run_found_behind : d_Run_found_behind ∈ fn := List.mem_of_getElem? (i := 44) (by rfl)
theorem in_Run_keep : d_Run_keep ∈ fn := List.mem_of_getElem? (i := 45) (by rfl)
theorem in_Run_page : d_Run_page ∈ fn := List.mem_of_getElem? (i := 46) (by rfl)
theorem in_Run___len__ : d_Run___len__ ∈ fn := List.mem_of_getElem? (i := 47) (by rfl)
theorem in_Hand___init__ : d_Hand___init__ ∈ fn := List.mem_of_getElem? (i := 48) (by rfl)
theorem in_Hand_fill : d_Hand_fill ∈ fn := List.mem_of_getElem? (i := 49) (by rfl)
theorem in_Hand_page : d_Hand_page ∈ fn := List.mem_of_getElem? (i := 50) (by rfl)
theorem in_Hand_walk : d_Hand_walk ∈ fn := List.mem_of_getElem? (i := 51) (by rfl)
theorem in_Reader_mark : d_Reader_mark ∈ prs := List.mem_of_getElem? (i := 0) (by rfl)
theorem in_Reader_inner : d_Reader_inner ∈ prs := List.mem_of_getElem? (i := 1) (by rfl)
theorem in_Reader_order : d_Reader_order ∈ prs := List.mem_of_getElem? (i := 2) (by rfl)
theorem in_Reader_parts : d_Reader_parts ∈ prs := List.mem_of_getElem? (i := 3) (by rfl)
theorem in_Table_parts : d_Table_parts ∈ prs := List.mem_of_getElem? (i := 4) (by rfl)
theorem in_Run_table : d_Run_table ∈ prs := List.mem_of_getElem? (i := 5) (by rfl)
theorem in_Run_state : d_Run_state ∈ prs := List.mem_of_getElem? (i := 6) (by rfl)
theorem in_Run_fault : d_Run_fault ∈ prs := List.mem_of_getElem? (i := 7) (by rfl)
theorem in_Hand_size_set : d_Hand_size_set ∈ prs := List.mem_of_getElem? (i := 8) (by rfl)
abbrev N_is_number : List Str := ["value", "least", "most"]
abbrev p_is_number : List Str := ["value", "least", "most"]
theorem sc_is_number : FnScope N_is_number p_is_number (defScope s_is_number) := ⟨rfl, rfl, rfl, by decide +kernel, rfl, by decide +kernel, by decide +kernel⟩
abbrev N_is_tuple_of : List Str := ["value", "many"]
abbrev p_is_tuple_of : List Str := ["value", "many"]
theorem sc_is_tuple_of : FnScope N_is_tuple_of p_is_tuple_of (defScope s_is_tuple_of) := ⟨rfl, rfl, rfl, by decide +kernel, rfl, by decide +kernel, by decide +kernel⟩
abbrev N_are_parts : List Str := ["value", "many", "early", "late", "part"]
abbrev p_are_parts : List Str := ["value", "many"]
theorem sc_are_parts : FnScope N_are_parts p_are_parts (defScope s_are_parts) := ⟨rfl, rfl, rfl, by decide +kernel, rfl, by decide +kernel, by decide +kernel⟩
abbrev N_is_text_in : List Str := ["value", "known"]
abbrev p_is_text_in : List Str := ["value", "known"]
theorem sc_is_text_in : FnScope N_is_text_in p_is_text_in (defScope s_is_text_in) := ⟨rfl, rfl, rfl, by decide +kernel, rfl, by decide +kernel, by decide +kernel⟩
abbrev N_is_ask : List Str := ["value"]
abbrev p_is_ask : List Str := ["value"]
theorem sc_is_ask : FnScope N_is_ask p_is_ask (defScope s_is_ask) := ⟨rfl, rfl, rfl, by decide +kernel, rfl, by decide +kernel, by decide +kernel⟩
abbrev N_are_asks : List Str := ["value", "ask"]
abbrev p_are_asks : List Str := ["value"]
theorem sc_are_asks : FnScope N_are_asks p_are_asks (defScope s_are_asks) := ⟨rfl, rfl, rfl, by decide +kernel, rfl, by decide +kernel, by decide +kernel⟩
abbrev N_is_state : List Str := ["value", "many", "goal"]
abbrev p_is_state : List Str := ["value", "many"]
theorem sc_is_state : FnScope N_is_state p_is_state (defScope s_is_state) := ⟨rfl, rfl, rfl, by decide +kernel, rfl, by decide +kernel, by decide +kernel⟩
abbrev N_need_inner : List Str := ["value"]
abbrev p_need_inner : List Str := ["value"]
theorem sc_need_inner : FnScope N_need_inner p_need_inner (defScope s_need_inner) := ⟨rfl, rfl, rfl, by decide +kernel, rfl, by decide +kernel, by decide +kernel⟩
abbrev N_need_order : List Str := ["value"]
abbrev p_need_order : List Str := ["value"]
theorem sc_need_order : FnScope N_need_order p_need_order (defScope s_need_order) := ⟨rfl, rfl, rfl, by decide +kernel, rfl, by decide +kernel, by decide +kernel⟩
abbrev N_is_place : List Str := ["value"]
abbrev p_is_place : List Str := ["value"]
theorem sc_is_place : FnScope N_is_place p_is_place (defScope s_is_place) := ⟨rfl, rfl, rfl, by decide +kernel, rfl, by decide +kernel, by decide +kernel⟩
abbrev N_is_row : List Str := ["value", "many"]
abbrev p_is_row : List Str := ["value", "many"]
theorem sc_is_row : FnScope N_is_row p_is_row (defScope s_is_row) := ⟨rfl, rfl, rfl, by decide +kernel, rfl, by decide +kernel, by decide +kernel⟩
abbrev N_need_part : List Str := ["value", "many"]
abbrev p_need_part : List Str := ["value", "many"]
theorem sc_need_part : FnScope N_need_part p_need_part (defScope s_need_part) := ⟨rfl, rfl, rfl, by decide +kernel, rfl, by decide +kernel, by decide +kernel⟩
abbrev N_need_many : List Str := ["value"]
abbrev p_need_many : List Str := ["value"]
theorem sc_need_many : FnScope N_need_many p_need_many (defScope s_need_many) := ⟨rfl, rfl, rfl, by decide +kernel, rfl, by decide +kernel, by decide +kernel⟩
abbrev N_inner_sorted : List Str := ["inner", "places"]
abbrev p_inner_sorted : List Str := ["inner", "places"]
theorem sc_inner_sorted : FnScope N_inner_sorted p_inner_sorted (defScope s_inner_sorted) := ⟨rfl, rfl, rfl, by decide +kernel, rfl, by decide +kernel, by decide +kernel⟩
abbrev N_middle_sorted : List Str := ["order", "hand"]
abbrev p_middle_sorted : List Str := ["order", "hand"]
theorem sc_middle_sorted : FnScope N_middle_sorted p_middle_sorted (defScope s_middle_sorted) := ⟨rfl, rfl, rfl, by decide +kernel, rfl, by decide +kernel, by decide +kernel⟩
abbrev N_judge : List Str := ["reader", "table", "moves", "run", "made", "number", "part", "move"]
abbrev p_judge : List Str := ["reader", "table", "moves"]
theorem sc_judge : FnScope N_judge p_judge (defScope s_judge) := ⟨rfl, rfl, rfl, by decide +kernel, rfl, by decide +kernel, by decide +kernel⟩
abbrev N_need_plain : List Str := ["table", "at", "key", "number", "some"]
abbrev p_need_plain : List Str := ["table"]
theorem sc_need_plain : FnScope N_need_plain p_need_plain (defScope s_need_plain) := ⟨rfl, rfl, rfl, by decide +kernel, rfl, by decide +kernel, by decide +kernel⟩
abbrev N__law_open : List Str := ["_law_script"]
abbrev p__law_open : List Str := ["_law_script"]
theorem sc__law_open : FnScope N__law_open p__law_open (defScope s__law_open) := ⟨rfl, rfl, rfl, by decide +kernel, rfl, by decide +kernel, by decide +kernel⟩
abbrev N__law_draw : List Str := ["_law_bag", "_law_many", "_law_cell", "_law_digit", "_law_seed"]
abbrev p__law_draw : List Str := ["_law_bag", "_law_many"]
theorem sc__law_draw : FnScope N__law_draw p__law_draw (defScope s__law_draw) := ⟨rfl, rfl, rfl, by decide +kernel, rfl, by decide +kernel, by decide +kernel⟩
abbrev N__law_of : List Str := ["_law_bag", "_law_things"]
abbrev p__law_of : List Str := ["_law_bag", "_law_things"]
theorem sc__law_of : FnScope N__law_of p__law_of (defScope s__law_of) := ⟨rfl, rfl, rfl, by decide +kernel, rfl, by decide +kernel, by decide +kernel⟩
abbrev N__law_mixed : List Str := ["_law_bag", "_law_things", "_law_found", "_law_thing"]
abbrev p__law_mixed : List Str := ["_law_bag", "_law_things"]
theorem sc__law_mixed : FnScope N__law_mixed p__law_mixed (defScope s__law_mixed) := ⟨rfl, rfl, rfl, by decide +kernel, rfl, by decide +kernel, by decide +kernel⟩
abbrev N__law_like : List Str := ["_law_found", "_law_due", "_law_one", "_law_other"]
abbrev p__law_like : List Str := ["_law_found", "_law_due"]
theorem sc__law_like : FnScope N__law_like p__law_like (defScope s__law_like) := ⟨rfl, rfl, rfl, by decide +kernel, rfl, by decide +kernel, by decide +kernel⟩
abbrev N__law_numbers : List Str := ["_law_bag", "_law_many", "_law_start", "_law_step", "_law_k"]
abbrev p__law_numbers : List Str := ["_law_bag", "_law_many"]
theorem sc__law_numbers : FnScope N__law_numbers p__law_numbers (defScope s__law_numbers) := ⟨rfl, rfl, rfl, by decide +kernel, rfl, by decide +kernel, by decide +kernel⟩
abbrev N__law_base : List Str := ["_law_bag"]
abbrev p__law_base : List Str := ["_law_bag"]
theorem sc__law_base : FnScope N__law_base p__law_base (defScope s__law_base) := ⟨rfl, rfl, rfl, by decide +kernel, rfl, by decide +kernel, by decide +kernel⟩
abbrev N__law_some_parts : List Str := ["_law_bag", "_law_parts", "_law_copies", "_law_first", "_law_part"]
abbrev p__law_some_parts : List Str := ["_law_bag", "_law_parts", "_law_copies"]
theorem sc__law_some_parts : FnScope N__law_some_parts p__law_some_parts (defScope s__law_some_parts) := ⟨rfl, rfl, rfl, by decide +kernel, rfl, by decide +kernel, by decide +kernel⟩
abbrev N__law_rows : List Str := ["_law_bag", "_law_parts", "_law_many", "_law_copies", "_law_base_here", "_law_span", "_law_found", "_law_number"]
abbrev p__law_rows : List Str := ["_law_bag", "_law_parts", "_law_many", "_law_copies"]
theorem sc__law_rows : FnScope N__law_rows p__law_rows (defScope s__law_rows) := ⟨rfl, rfl, rfl, by decide +kernel, rfl, by decide +kernel, by decide +kernel⟩
abbrev N__law_table : List Str := ["_law_parts", "_law_rows_here"]
abbrev p__law_table : List Str := ["_law_parts", "_law_rows_here"]
theorem sc__law_table : FnScope N__law_table p__law_table (defScope s__law_table) := ⟨rfl, rfl, rfl, by decide +kernel, rfl, by decide +kernel, by decide +kernel⟩
abbrev N__law_ties_drawn : List Str := ["_law_bag"]
abbrev p__law_ties_drawn : List Str := ["_law_bag"]
theorem sc__law_ties_drawn : FnScope N__law_ties_drawn p__law_ties_drawn (defScope s__law_ties_drawn) := ⟨rfl, rfl, rfl, by decide +kernel, rfl, by decide +kernel, by decide +kernel⟩
abbrev N_law : List Str := ["_law_script", "_law_bag", "_law_turn", "_law_parts", "_law_size", "_law_asks", "_law_rows_here", "_law_inner_z", "_law_order_z", "_law_made", "_law_page", "_law_found", "_law_reader", "_law_kind", "_law_number", "_law_pages", "_law_told", "_law_part", "_law_row"]
abbrev p_law : List Str := ["_law_script"]
theorem sc_law : FnScope N_law p_law (defScope s_law) := ⟨rfl, rfl, rfl, by decide +kernel, rfl, by decide +kernel, by decide +kernel⟩
abbrev N_Reader___init__ : List Str := ["self", "mark", "states", "inner", "order", "at", "state"]
abbrev p_Reader___init__ : List Str := ["self", "mark", "states", "inner", "order"]
theorem sc_Reader___init__ : FnScope N_Reader___init__ p_Reader___init__ (defScope s_Reader___init__) := ⟨rfl, rfl, rfl, by decide +kernel, rfl, by decide +kernel, by decide +kernel⟩
abbrev N_Reader_states : List Str := ["self"]
abbrev p_Reader_states : List Str := ["self"]
theorem sc_Reader_states : FnScope N_Reader_states p_Reader_states (defScope s_Reader_states) := ⟨rfl, rfl, rfl, by decide +kernel, rfl, by decide +kernel, by decide +kernel⟩
abbrev N_Table___init__ : List Str := ["self", "parts", "rows", "at", "row", "numbers", "number"]
abbrev p_Table___init__ : List Str := ["self", "parts", "rows"]
theorem sc_Table___init__ : FnScope N_Table___init__ p_Table___init__ (defScope s_Table___init__) := ⟨rfl, rfl, rfl, by decide +kernel, rfl, by decide +kernel, by decide +kernel⟩
abbrev N_Table_rows : List Str := ["self"]
abbrev p_Table_rows : List Str := ["self"]
theorem sc_Table_rows : FnScope N_Table_rows p_Table_rows (defScope s_Table_rows) := ⟨rfl, rfl, rfl, by decide +kernel, rfl, by decide +kernel, by decide +kernel⟩
abbrev N_Table_places : List Str := ["self", "key", "number", "some"]
abbrev p_Table_places : List Str := ["self"]
theorem sc_Table_places : FnScope N_Table_places p_Table_places (defScope s_Table_places) := ⟨rfl, rfl, rfl, by decide +kernel, rfl, by decide +kernel, by decide +kernel⟩
abbrev N_Table_part : List Str := ["self", "index", "key", "number", "some"]
abbrev p_Table_part : List Str := ["self", "index"]
theorem sc_Table_part : FnScope N_Table_part p_Table_part (defScope s_Table_part) := ⟨rfl, rfl, rfl, by decide +kernel, rfl, by decide +kernel, by decide +kernel⟩
abbrev N_Table_row_of : List Str := ["self", "number", "row"]
abbrev p_Table_row_of : List Str := ["self", "number"]
theorem sc_Table_row_of : FnScope N_Table_row_of p_Table_row_of (defScope s_Table_row_of) := ⟨rfl, rfl, rfl, by decide +kernel, rfl, by decide +kernel, by decide +kernel⟩
abbrev N_Table_parts_of : List Str := ["self", "number"]
abbrev p_Table_parts_of : List Str := ["self", "number"]
theorem sc_Table_parts_of : FnScope N_Table_parts_of p_Table_parts_of (defScope s_Table_parts_of) := ⟨rfl, rfl, rfl, by decide +kernel, rfl, by decide +kernel, by decide +kernel⟩
abbrev N_Run___init__ : List Str := ["self", "reader", "table"]
abbrev p_Run___init__ : List Str := ["self", "reader", "table"]
theorem sc_Run___init__ : FnScope N_Run___init__ p_Run___init__ (defScope s_Run___init__) := ⟨rfl, rfl, rfl, by decide +kernel, rfl, by decide +kernel, by decide +kernel⟩
abbrev N_Run_pages : List Str := ["self", "page"]
abbrev p_Run_pages : List Str := ["self"]
theorem sc_Run_pages : FnScope N_Run_pages p_Run_pages (defScope s_Run_pages) := ⟨rfl, rfl, rfl, by decide +kernel, rfl, by decide +kernel, by decide +kernel⟩
abbrev N_Run_told : List Str := ["self", "page", "key", "number"]
abbrev p_Run_told : List Str := ["self"]
theorem sc_Run_told : FnScope N_Run_told p_Run_told (defScope s_Run_told) := ⟨rfl, rfl, rfl, by decide +kernel, rfl, by decide +kernel, by decide +kernel⟩
abbrev N_Run_open_rows : List Str := ["self", "part", "places", "last", "here", "mark", "place", "some"]
abbrev p_Run_open_rows : List Str := ["self", "part"]
theorem sc_Run_open_rows : FnScope N_Run_open_rows p_Run_open_rows (defScope s_Run_open_rows) := ⟨rfl, rfl, rfl, by decide +kernel, rfl, by decide +kernel, by decide +kernel⟩
abbrev N_Run_sent : List Str := ["self", "part", "places"]
abbrev p_Run_sent : List Str := ["self", "part"]
theorem sc_Run_sent : FnScope N_Run_sent p_Run_sent (defScope s_Run_sent) := ⟨rfl, rfl, rfl, by decide +kernel, rfl, by decide +kernel, by decide +kernel⟩
abbrev N_Run_at_hand : List Str := ["self", "hand", "part", "place"]
abbrev p_Run_at_hand : List Str := ["self"]
theorem sc_Run_at_hand : FnScope N_Run_at_hand p_Run_at_hand (defScope s_Run_at_hand) := ⟨rfl, rfl, rfl, by decide +kernel, rfl, by decide +kernel, by decide +kernel⟩
abbrev N_Run_found_ahead : List Str := ["self", "opened", "known", "part", "place", "key", "number"]
abbrev p_Run_found_ahead : List Str := ["self"]
theorem sc_Run_found_ahead : FnScope N_Run_found_ahead p_Run_found_ahead (defScope s_Run_found_ahead) := ⟨rfl, rfl, rfl, by decide +kernel, rfl, by decide +kernel, by decide +kernel⟩
abbrev N_Run_found_behind : List Str := ["self", "known", "goes_on", "greatest", "key", "number"]
abbrev p_Run_found_behind : List Str := ["self", "known", "goes_on", "greatest"]
theorem sc_Run_found_behind : FnScope N_Run_found_behind p_Run_found_behind (defScope s_Run_found_behind) := ⟨rfl, rfl, rfl, by decide +kernel, rfl, by decide +kernel, by decide +kernel⟩
abbrev N_Run_keep : List Str := ["self", "stand"]
abbrev p_Run_keep : List Str := ["self", "stand"]
theorem sc_Run_keep : FnScope N_Run_keep p_Run_keep (defScope s_Run_keep) := ⟨rfl, rfl, rfl, by decide +kernel, rfl, by decide +kernel, by decide +kernel⟩
abbrev N_Run_page : List Str := ["self", "table", "state", "fault", "ended", "pages", "tellings", "size", "asks", "full", "thin", "page", "goal", "known", "key", "number", "place"]
abbrev p_Run_page : List Str := ["self"]
theorem sc_Run_page : FnScope N_Run_page p_Run_page (defScope s_Run_page) := ⟨rfl, rfl, rfl, by decide +kernel, rfl, by decide +kernel, by decide +kernel⟩
abbrev N_Run___len__ : List Str := ["self"]
abbrev p_Run___len__ : List Str := ["self"]
theorem sc_Run___len__ : FnScope N_Run___len__ p_Run___len__ (defScope s_Run___len__) := ⟨rfl, rfl, rfl, by decide +kernel, rfl, by decide +kernel, by decide +kernel⟩
abbrev N_Hand___init__ : List Str := ["self", "table", "asks", "size", "inner", "order", "ask", "part"]
abbrev p_Hand___init__ : List Str := ["self", "table", "asks", "size", "inner", "order"]
theorem sc_Hand___init__ : FnScope N_Hand___init__ p_Hand___init__ (defScope s_Hand___init__) := ⟨rfl, rfl, rfl, by decide +kernel, rfl, by decide +kernel, by decide +kernel⟩
abbrev N_Hand_fill : List Str := ["self", "part", "ask", "place", "lacking"]
abbrev p_Hand_fill : List Str := ["self"]
theorem sc_Hand_fill : FnScope N_Hand_fill p_Hand_fill (defScope s_Hand_fill) := ⟨rfl, rfl, rfl, by decide +kernel, rfl, by decide +kernel, by decide +kernel⟩
abbrev N_Hand_page : List Str := ["self", "page", "place"]
abbrev p_Hand_page : List Str := ["self"]
theorem sc_Hand_page : FnScope N_Hand_page p_Hand_page (defScope s_Hand_page) := ⟨rfl, rfl, rfl, by decide +kernel, rfl, by decide +kernel, by decide +kernel⟩
abbrev N_Hand_walk : List Str := ["self", "page"]
abbrev N_Reader_mark : List Str := ["self"]
abbrev p_Reader_mark : List Str := ["self"]
theorem sc_Reader_mark : FnScope N_Reader_mark p_Reader_mark (defScope s_Reader_mark) := ⟨rfl, rfl, rfl, by decide +kernel, rfl, by decide +kernel, by decide +kernel⟩
abbrev N_Reader_inner : List Str := ["self"]
abbrev p_Reader_inner : List Str := ["self"]
theorem sc_Reader_inner : FnScope N_Reader_inner p_Reader_inner (defScope s_Reader_inner) := ⟨rfl, rfl, rfl, by decide +kernel, rfl, by decide +kernel, by decide +kernel⟩
abbrev N_Reader_order : List Str := ["self"]
abbrev p_Reader_order : List Str := ["self"]
theorem sc_Reader_order : FnScope N_Reader_order p_Reader_order (defScope s_Reader_order) := ⟨rfl, rfl, rfl, by decide +kernel, rfl, by decide +kernel, by decide +kernel⟩
abbrev N_Reader_parts : List Str := ["self"]
abbrev p_Reader_parts : List Str := ["self"]
theorem sc_Reader_parts : FnScope N_Reader_parts p_Reader_parts (defScope s_Reader_parts) := ⟨rfl, rfl, rfl, by decide +kernel, rfl, by decide +kernel, by decide +kernel⟩
abbrev N_Table_parts : List Str := ["self"]
abbrev p_Table_parts : List Str := ["self"]
theorem sc_Table_parts : FnScope N_Table_parts p_Table_parts (defScope s_Table_parts) := ⟨rfl, rfl, rfl, by decide +kernel, rfl, by decide +kernel, by decide +kernel⟩
abbrev N_Run_table : List Str := ["self"]
abbrev p_Run_table : List Str := ["self"]
theorem sc_Run_table : FnScope N_Run_table p_Run_table (defScope s_Run_table) := ⟨rfl, rfl, rfl, by decide +kernel, rfl, by decide +kernel, by decide +kernel⟩
abbrev N_Run_state : List Str := ["self"]
abbrev p_Run_state : List Str := ["self"]
theorem sc_Run_state : FnScope N_Run_state p_Run_state (defScope s_Run_state) := ⟨rfl, rfl, rfl, by decide +kernel, rfl, by decide +kernel, by decide +kernel⟩
abbrev N_Run_fault : List Str := ["self"]
abbrev p_Run_fault : List Str := ["self"]
theorem sc_Run_fault : FnScope N_Run_fault p_Run_fault (defScope s_Run_fault) := ⟨rfl, rfl, rfl, by decide +kernel, rfl, by decide +kernel, by decide +kernel⟩
abbrev N_Hand_size_set : List Str := ["self", "value"]
abbrev p_Hand_size_set : List Str := ["self", "value"]
theorem sc_Hand_size_set : FnScope N_Hand_size_set p_Hand_size_set (defScope s_Hand_size_set) := ⟨rfl, rfl, rfl, by decide +kernel, rfl, by decide +kernel, by decide +kernel⟩
end K48

namespace K48
open PySem PySem.Spec PyProof.Rows L2 ClX
/-! ### isinstance, by kinds -/
section
variable {K : PySem.W.Frag} {H : Hp} {Q : VK} {a : Addr} {xs : List V}
theorem is_int_int (i : Int) (q : Q (.bl true) H) : rIsi K [.int i, .ty "int"] H Q := isB_ok (U := "int") (b := true) (.base (.int i)) (by decide +kernel) q
theorem is_int_bool (i : Int) (q : Q (.bl false) H) : rIsi K [.int i, .ty "bool"] H Q := isB_ok (U := "int") (b := false) (.base (.int i)) (by decide +kernel) q
theorem is_int_str (i : Int) (q : Q (.bl false) H) : rIsi K [.int i, .ty "str"] H Q := isB_ok (U := "int") (b := false) (.base (.int i)) (by decide +kernel) q
theorem is_int_tuple (i : Int) (q : Q (.bl false) H) : rIsi K [.int i, .ty "tuple"] H Q := isB_ok (U := "int") (b := false) (.base (.int i)) (by decide +kernel) q
theorem is_int_list (i : Int) (q : Q (.bl false) H) : rIsi K [.int i, .ty "list"] H Q := isB_ok (U := "int") (b := false) (.base (.int i)) (by decide +kernel) q
theorem is_str_int (z : Str) (q : Q (.bl false) H) : rIsi K [.str z, .ty "int"] H Q := isB_ok (U := "str") (b := false) (.base (.str z)) (by decide +kernel) q
theorem is_str_bool (z : Str) (q : Q (.bl false) H) : rIsi K [.str z, .ty "bool"] H Q := isB_ok (U := "str") (b := false) (.base (.str z)) (by decide +kernel) q
theorem is_str_str (z : Str) (q : Q (.bl true) H) : rIsi K [.str z, .ty "str"] H Q := isB_ok (U := "str") (b := true) (.base (.str z)) (by decide +kernel) q
theorem is_str_tuple (z : Str) (q : Q (.bl false) H) : rIsi K [.str z, .ty "tuple"] H Q := isB_ok (U := "str") (b := false) (.base (.str z)) (by decide +kernel) q
theorem is_str_list (z : Str) (q : Q (.bl false) H) : rIsi K [.str z, .ty "list"] H Q := isB_ok (U := "str") (b := false) (.base (.str z)) (by decide +kernel) q
theorem is_tuple_int (h : H a = some (.tup xs)) (q : Q (.bl false) H) : rIsi K [.ref a, .ty "int"] H Q := isB_ok (U := "tuple") (b := false) (.base (.tup h)) (by decide +kernel) q
theorem is_tuple_bool (h : H a = some (.tup xs)) (q : Q (.bl false) H) : rIsi K [.ref a, .ty "bool"] H Q := isB_ok (U := "tuple") (b := false) (.base (.tup h)) (by decide +kernel) q
theorem is_tuple_str (h : H a = some (.tup xs)) (q : Q (.bl false) H) : rIsi K [.ref a, .ty "str"] H Q := isB_ok (U := "tuple") (b := false) (.base (.tup h)) (by decide +kernel) q
theorem is_tuple_tuple (h : H a = some (.tup xs)) (q : Q (.bl true) H) : rIsi K [.ref a, .ty "tuple"] H Q := isB_ok (U := "tuple") (b := true) (.base (.tup h)) (by decide +kernel) q
theorem is_tuple_list (h : H a = some (.tup xs)) (q : Q (.bl false) H) : rIsi K [.ref a, .ty "list"] H Q := isB_ok (U := "tuple") (b := false) (.base (.tup h)) (by decide +kernel) q
theorem is_list_int (h : H a = some (.lst xs)) (q : Q (.bl false) H) : rIsi K [.ref a, .ty "int"] H Q := isB_ok (U := "list") (b := false) (.base (.lst h)) (by decide +kernel) q
theorem is_list_bool (h : H a = some (.lst xs)) (q : Q (.bl false) H) : rIsi K [.ref a, .ty "bool"] H Q := isB_ok (U := "list") (b := false) (.base (.lst h)) (by decide +kernel) q
theorem is_list_str (h : H a = some (.lst xs)) (q : Q (.bl false) H) : rIsi K [.ref a, .ty "str"] H Q := isB_ok (U := "list") (b := false) (.base (.lst h)) (by decide +kernel) q
theorem is_list_tuple (h : H a = some (.lst xs)) (q : Q (.bl false) H) : rIsi K [.ref a, .ty "tuple"] H Q := isB_ok (U := "list") (b := false) (.base (.lst h)) (by decide +kernel) q
theorem is_list_list (h : H a = some (.lst xs)) (q : Q (.bl true) H) : rIsi K [.ref a, .ty "list"] H Q := isB_ok (U := "list") (b := true) (.base (.lst h)) (by decide +kernel) q
theorem is_bool_int (b : Bool) (q : Q (.bl true) H) : rIsi K [.bl b, .ty "int"] H Q := isB_ok (U := "bool") (b := true) (.base (.bl b)) (by decide +kernel) q
theorem is_bool_bool (b : Bool) (q : Q (.bl true) H) : rIsi K [.bl b, .ty "bool"] H Q := isB_ok (U := "bool") (b := true) (.base (.bl b)) (by decide +kernel) q
theorem is_bool_str (b : Bool) (q : Q (.bl false) H) : rIsi K [.bl b, .ty "str"] H Q := isB_ok (U := "bool") (b := false) (.base (.bl b)) (by decide +kernel) q
theorem is_bool_tuple (b : Bool) (q : Q (.bl false) H) : rIsi K [.bl b, .ty "tuple"] H Q := isB_ok (U := "bool") (b := false) (.base (.bl b)) (by decide +kernel) q
theorem is_bool_list (b : Bool) (q : Q (.bl false) H) : rIsi K [.bl b, .ty "list"] H Q := isB_ok (U := "bool") (b := false) (.base (.bl b)) (by decide +kernel) q
theorem is_NoneType_int  (q : Q (.bl false) H) : rIsi K [.non, .ty "int"] H Q := isB_ok (U := "NoneType") (b := false) (.base .non) (by decide +kernel) q
theorem is_NoneType_bool  (q : Q (.bl false) H) : rIsi K [.non, .ty "bool"] H Q := isB_ok (U := "NoneType") (b := false) (.base .non) (by decide +kernel) q
theorem is_NoneType_str  (q : Q (.bl false) H) : rIsi K [.non, .ty "str"] H Q := isB_ok (U := "NoneType") (b := false) (.base .non) (by decide +kernel) q
theorem is_NoneType_tuple  (q : Q (.bl false) H) : rIsi K [.non, .ty "tuple"] H Q := isB_ok (U := "NoneType") (b := false) (.base .non) (by decide +kernel) q
theorem is_NoneType_list  (q : Q (.bl false) H) : rIsi K [.non, .ty "list"] H Q := isB_ok (U := "NoneType") (b := false) (.base .non) (by decide +kernel) q
end
/-! ### what an expression gives, the rest kept -/
/-- a promise's end: the rest is kept, R of the value -/
def Ret (K : PySem.W.Frag) (ms : List Addr) (H : Hp) (R : V → Hp → Prop) (Q : VK) : Prop := ∀ v H', Up K ms H H' → R v H' → Q v H'
def EvP (K : PySem.W.Frag) (ms : List Addr) (te : TE) (σ : L2.St) (H : Hp) (R : V → Hp → Prop) : Prop := ∀ Q : VK, Ret K ms H R Q → te σ H Q
def EvB (K : PySem.W.Frag) (ms : List Addr) (tt : TT) (σ : L2.St) (H : Hp) (b : Bool) : Prop := ∀ Q : Bool → Hp → Prop, (∀ H', Up K ms H H' → Q b H') → tt σ H Q
section
variable {K : PySem.W.Frag} {ms : List Addr} {H H' : Hp} {σ : L2.St} {v : V} {R : V → Hp → Prop} {te : TE}
theorem Ret.go {Q : VK} (k : Ret K ms H R Q) (e : Up K ms H H') : Ret K ms H' R Q := fun v H2 e2 r => k v H2 (e.trans e2) r
theorem EvB.yes : EvB K ms tYes σ H true := fun Q q => q H Up.refl
theorem deq_int {i j : Int} : decide (V.int i = V.int j) = decide (i = j) := decide_eq_decide.mpr ⟨fun h => V.int.inj h, fun h => by rw [h]⟩
theorem deq_str {i j : Str} : decide (V.str i = V.str j) = decide (i = j) := decide_eq_decide.mpr ⟨fun h => V.str.inj h, fun h => by rw [h]⟩
/-- which turns give something, and what is true of it -/
def LR (n : Nat) (f : Nat → Bool) (R : Nat → V → Hp → Prop) (H : Hp) (ys : List V) : Prop := Paired (fun (i : Nat) (y : V) => R i y H) ((List.range n).filter f) ys
theorem pair_app {α β : Type} {F : α → β → Prop} : ∀ {l : List α} {l' : List β} {a : α} {b : β}, Paired F l l' → F a b → Paired F (l ++ [a]) (l' ++ [b])
  | _, _, _, _, .nil, h => .cons h .nil
  | _, _, _, _, .cons r t, h => .cons r (pair_app t h)
theorem lr_yes {n : Nat} {f : Nat → Bool} {R : Nat → V → Hp → Prop} {ys : List V} {y : V} (h : LR n f R H ys) (hf : f n = true) (r : R n y H) : LR (n + 1) f R H (ys ++ [y]) := by
  unfold LR
  rw [List.range_succ, List.filter_append, List.filter_cons, if_pos hf]
  exact pair_app h r
theorem lr_no {n : Nat} {f : Nat → Bool} {R : Nat → V → Hp → Prop} {ys : List V} (h : LR n f R H ys) (hf : f n = false) : LR (n + 1) f R H ys := by
  unfold LR
  rw [List.range_succ, List.filter_append, List.filter_cons, if_neg (by rw [hf]; exact Bool.false_ne_true)]
  show Paired _ (_ ++ []) _
  rw [List.append_nil]
  exact h
theorem lr_len {n : Nat} {f : Nat → Bool} {R : Nat → V → Hp → Prop} {ys : List V} (h : LR n f R H ys) : ys.length ≤ n := by
  have e := Paired.length h
  have := List.length_filter_le f (List.range n)
  rw [List.length_range] at this
  omega
/-- a comprehension over anything that is walked: D the new list -/
theorem lc_walk {J : It} {n : Nat} {G : Hp → Prop} {Y : Nat → Hp → V → Hp → Prop} (w : Walk J n G Y) {g : TG} {tt : TT} {te : TE} {vs : List Nat} {H1 : Hp} {D : Addr} {Qd : Hp → Prop} (ms : List Addr) (f : Nat → Bool) (R : Nat → V → Hp → Prop)
    (hD : H1 D = none) (hG : ∀ H, Up K ms H1 H → G H) (hY : ∀ i H x H', Y i H x H' → Up K ms H H') (hn : n ≤ 100000) (hR : ∀ i y H H', Up K (D :: ms) H H' → R i y H → R i y H')
    (hs : ∀ i x H H', i < n → Up K ms H1 H → (∃ zs, H D = some (.lst zs)) → Y i H x H' → ∀ QQ : L2.St → Hp → Prop,
      (∀ σ2 H2, Up K ms H' H2 → wipe σ2 vs = wipe σ vs → EvB K ms tt σ2 H2 (f i) → (f i = true → ∀ H3, Up K ms H2 H3 → EvP K ms te σ2 H3 (R i)) → QQ σ2 H2) → g x (wipe σ vs) H' QQ)
    (hmD : D ∉ ms) (hd : ∀ ys H', Up K ms H1 H' → H' D = some (.lst ys) → LR n f R H' ys → Qd H') :
    ∃ W : Nat → Nat → Hp → Prop, (∃ m, W 0 m (upd H1 D (.lst []))) ∧ ∀ i m H, W i m H →
      (J.stop i H ∧ Qd H) ∨ (J.go i H ∧ ∃ Nx : Hp → Prop, (∀ H', Nx H' → ∃ m', m' < m ∧ W (i + 1) m' H') ∧ ∀ x H', J.yld i H x H' → g x (wipe σ vs) H' fun σ2 H2 => wipe σ2 vs = wipe σ vs ∧ tt σ2 H2 fun b H3 =>
        if b = true then te σ2 H3 fun y H4 => ∃ acc, H4 D = some (.lst acc) ∧ acc.length < sizeLine ∧ Nx (upd H4 D (.lst (acc ++ [y]))) else Nx H3) := by
  refine lc_it w (fun i H => Up K ms H1 H ∧ ∃ ys, H D = some (.lst ys) ∧ LR i f R H ys) ⟨Up.new hD, [], upd_same, .nil⟩ (fun i H _ p => hG H p.1) (fun i x H H' hi p y => ?_) fun H p => ?_
  · obtain ⟨e1, ys, eD, lr⟩ := p
    refine hs i x H H' hi e1 ⟨_, eD⟩ y _ fun σ2 H2 e2 hw hb ht => ⟨hw, hb _ fun H3 e3 => ?_⟩
    have eY := hY i H x H' y
    have e13 : Up K ms H H3 := (eY.trans e2).trans e3
    have lr3 : LR i f R H3 ys := L2.Paired.mapP lr fun j z r => hR j z H H3 (e13.mono fun c hc => List.mem_cons_of_mem _ hc) r
    cases hf : f i with
    | false =>
      exact ⟨e1.trans e13, ys, e13.lst eD hmD, lr_no lr3 hf⟩
    | true =>
      refine ht hf H3 e3 _ fun y4 H4 e4 r4 => ?_
      have e14 : Up K ms H H4 := e13.trans e4
      have d4 : H4 D = some (.lst ys) := e14.lst eD hmD
      have lr4 : LR i f R H4 ys := L2.Paired.mapP lr fun j z r => hR j z H H4 (e14.mono fun c hc => List.mem_cons_of_mem _ hc) r
      have es : Up K (D :: ms) H4 (upd H4 D (.lst (ys ++ [y4]))) := Up.set d4 trivial List.mem_cons_self
      refine ⟨ys, d4, Nat.lt_of_le_of_lt (lr_len lr4) (Nat.lt_of_lt_of_le hi (Nat.le_trans hn (by decide))), (e1.trans e14).mut (.of hD) d4 trivial, _, upd_same, lr_yes ?_ hf (hR i y4 H4 _ es r4)⟩
      exact L2.Paired.mapP lr4 fun j z r => hR j z H4 _ es r
  · obtain ⟨e1, ys, eD, lr⟩ := p
    exact hd ys H e1 eD lr
/-- a turn whose target is one name -/
theorem turn_name {H1 : Hp} {D : Addr} {tt : TT} {f : Nat → Bool} {R : Nat → V → Hp → Prop} {n : Nat} {j : Nat} {vs : List Nat} {xs : List V} (hj : j ∈ vs)
    (h : ∀ i x H, i < n → xs[i]? = some x → Up K ms H1 H → (∃ zs, H D = some (.lst zs)) → EvB K ms tt ((wipe σ vs).set j (some x)) H (f i) ∧ (f i = true → ∀ H3, Up K ms H H3 → EvP K ms te ((wipe σ vs).set j (some x)) H3 (R i))) :
    ∀ i x H H', i < n → Up K ms H1 H → (∃ zs, H D = some (.lst zs)) → YAt xs i H x H' → ∀ QQ : L2.St → Hp → Prop,
      (∀ σ2 H2, Up K ms H' H2 → wipe σ2 vs = wipe σ vs → EvB K ms tt σ2 H2 (f i) → (f i = true → ∀ H3, Up K ms H2 H3 → EvP K ms te σ2 H3 (R i)) → QQ σ2 H2) → gName j x (wipe σ vs) H' QQ := by
  intro i x H H' hi e hD y QQ q
  obtain ⟨rfl, hx⟩ := y
  obtain ⟨h1, h2⟩ := h i x H' hi hx e hD
  refine q _ H' Up.refl ?_ h1 h2
  have ws : ∀ (ws : List Nat) (σ : L2.St) (x : Option V), j ∈ ws → wipe ((wipe σ vs).set j x) ws = wipe (wipe σ vs) ws := by
    intro ws
    induction ws with
    | nil => intro _ _ hm; cases hm
    | cons w r ih =>
      intro σ x hm
      show (wipe ((wipe σ vs).set j x) r).set w none = (wipe (wipe σ vs) r).set w none
      by_cases hr : j ∈ r
      · rw [ih σ x hr]
      · rcases List.mem_cons.mp hm with rfl | hm
        · have no : ∀ (ws : List Nat) (τ : L2.St), j ∉ ws → wipe (τ.set j x) ws = (wipe τ ws).set j x := by
            intro ws
            induction ws with
            | nil => intro τ _; rfl
            | cons w r ih =>
              intro τ hn
              show (wipe (τ.set j x) r).set w none = ((wipe τ r).set w none).set j x
              rw [ih τ (fun h => hn (List.mem_cons_of_mem _ h)), List.set_comm _ _ (fun e => hn (by rw [e]; exact List.mem_cons_self))]
          rw [no r _ hr, List.set_set]
        · exact absurd hm hr
  have ww : ∀ (ws : List Nat) (τ : L2.St), wipe (wipe τ ws) ws = wipe τ ws := by
    intro ws
    induction ws with
    | nil => intro τ; rfl
    | cons w r ih =>
      intro τ
      have cm : ∀ (us : List Nat) (τ : L2.St), wipe (τ.set w none) us = (wipe τ us).set w none := by
        intro us
        induction us with
        | nil => intro τ; rfl
        | cons u us ihu =>
          intro τ
          show (wipe (τ.set w none) us).set u none = ((wipe τ us).set u none).set w none
          rw [ihu]
          by_cases e : w = u
          · rw [e]
          · rw [List.set_comm _ _ e]
      show (wipe ((wipe τ r).set w none) r).set w none = (wipe τ r).set w none
      rw [cm, ih, List.set_set]
  rw [ws vs σ _ hj, ww]
end
section
variable {K : PySem.W.Frag} {ms : List Addr} {a b : Addr} {xs ys : List V} {H H' : Hp}
theorem walk_zipT {n : Nat} (hn : n = min xs.length ys.length) : Walk (RZ.ItzT K a b) n (fun H => SqT K H a xs ∧ SqT K H b ys) (YPair (fun i => xs[i]?) (fun i => ys[i]?)) := by
  subst hn
  refine ⟨fun i _ hi q => ?_, fun _ q => ⟨xs, ys, q.1, q.2, by omega⟩, fun i H v H' _ q y => ?_⟩
  · have h1 : i < xs.length := by omega
    have h2 : i < ys.length := by omega
    exact ⟨xs, ys, xs[i], ys[i], q.1, q.2, by simp [h1], by simp [h2]⟩
  · obtain ⟨T, x, z, h1, h2, h3, h4, h5⟩ := y
    exact ⟨T, x, z, h1, h2, h3, h4 xs q.1, h5 ys q.2⟩
theorem yp_up {f g : Nat → Option V} {i : Nat} {x : V} (y : YPair f g i H x H') : Up K ms H H' := by
  obtain ⟨T, u, v, _, h1, rfl, _⟩ := y
  exact Up.new h1
theorem ya_up {i : Nat} {x : V} (y : YAt xs i H x H') : Up K ms H H' := by
  rw [y.1]
  exact Up.refl
end
end K48

namespace K48
open PySem PySem.Spec PyProof.Rows L2 ClX
variable {g : GX}
/-! ### words.py -/
def spNum : Sp := fun vs H Q _ => ∃ v a b : Int, vs = [.int v, .int a, .int b] ∧ Q (.bl (decide (a ≤ v ∧ v ≤ b))) H
theorem c_is_number (T : Tx g) : Cal g 1 "is_number" spNum := by
  obtain ⟨fd, F⟩ := T.fun_ in_is_number
  refine ⟨_, fd, p_is_number, def_ok F sc_is_number (fun vs H Q E h => ?_) (fun cdv A outer s H vs Q E hr h => ?_), g_is_number T, F.kp, F.bindsN fun _ _ _ _ _ _ us hl => match us, hl with | [_, _, _], _ => rfl⟩
  · obtain ⟨v, a, b, rfl, _⟩ := h
    rfl
  · obtain ⟨v, a, b, rfl, q⟩ := h
    have mi := f_isinstance T
    refine ⟨_, pss_one (ps_ret (pe_and (pe_isB "int" (pv 0) mi (f_int T)) (pe_and (pe_not (pe_isB "bool" (pv 0) mi (f_bool T))) (pe_one (pe_chain op_le op_le (pv 1) (pv 0) (pv 2)))))), ?_⟩
    refine ⟨_, rfl, is_int_int _ ⟨_, rfl, iteT ⟨_, rfl, is_int_bool _ ⟨_, rfl, _, rfl, iteT ⟨_, rfl, _, rfl, _, _, rfl, rfl, _, rfl, ?_⟩⟩⟩⟩⟩
    by_cases h1 : a ≤ v
    · rw [decide_eq_true h1]
      refine iteT ⟨_, rfl, _, _, rfl, rfl, ?_⟩
      have e : decide (a ≤ v ∧ v ≤ b) = decide (v ≤ b) := by simp [h1]
      rw [e] at q
      exact q
    · rw [decide_eq_false h1]
      refine iteF ?_
      have e : decide (a ≤ v ∧ v ≤ b) = false := by simp [h1]
      rw [e] at q
      exact q
def spTupOf : Sp := fun vs H Q _ => ∃ (a : Addr) (xs : List V) (m : Int), vs = [.ref a, .int m] ∧ H a = some (.tup xs) ∧ Q (.bl (decide ((xs.length : Int) = m))) H
theorem c_is_tuple_of (T : Tx g) : Cal g 1 "is_tuple_of" spTupOf := by
  obtain ⟨fd, F⟩ := T.fun_ in_is_tuple_of
  refine ⟨_, fd, p_is_tuple_of, def_ok F sc_is_tuple_of (fun vs H Q E h => ?_) (fun cdv A outer s H vs Q E hr h => ?_), g_is_tuple_of T, F.kp, F.bindsN fun _ _ _ _ _ _ us hl => match us, hl with | [_, _], _ => rfl⟩
  · obtain ⟨a, xs, m, rfl, _⟩ := h
    rfl
  · obtain ⟨a, xs, m, rfl, ha, q⟩ := h
    refine ⟨_, pss_one (ps_ret (pe_and (pe_isB "tuple" (pv 0) (f_isinstance T) (f_tuple T)) (pe_one (pe_cmpR op_eq (pe_callB call_len_seq (by rfl) (f_len T) PySem.boot_len (pa_cons (pv 0) pa_nil)) (pv 1) (nomark _))))), ?_⟩
    refine ⟨_, rfl, is_tuple_tuple ha ⟨_, rfl, iteT ⟨_, rfl, a, xs, rfl, .inr (SqT.of ha), _, rfl, rfl, ?_⟩⟩⟩
    rw [deq_int]
    exact q
def spTextIn (K : PySem.W.Frag) : Sp := fun vs H Q _ => ∃ (z : Str) (a : Addr) (xs : List V), vs = [.str z, .ref a] ∧ SqT K H a xs ∧ xs.all flatV = true ∧ inV (.str z) xs = true ∧ Q (.bl true) H
theorem c_is_text_in (T : Tx g) : Cal g 1 "is_text_in" (spTextIn g.K) := by
  obtain ⟨fd, F⟩ := T.fun_ in_is_text_in
  refine ⟨_, fd, p_is_text_in, def_ok F sc_is_text_in (fun vs H Q E h => ?_) (fun cdv A outer s H vs Q E hr h => ?_), g_is_text_in T, F.kp, F.bindsN fun _ _ _ _ _ _ us hl => match us, hl with | [_, _], _ => rfl⟩
  · obtain ⟨z, a, xs, rfl, _⟩ := h
    rfl
  · obtain ⟨z, a, xs, rfl, ha, hf, hi, q⟩ := h
    refine ⟨_, pss_one (ps_ret (pe_and (pe_isB "str" (pv 0) (f_isinstance T) (f_str T)) (pe_one (pe_cmpR op_in_seq (pv 0) (pv 1) rfl)))), ?_⟩
    refine ⟨_, rfl, is_str_str _ ⟨_, rfl, iteT ⟨_, rfl, _, rfl, a, xs, rfl, .inr ha, rfl, hf, ?_⟩⟩⟩
    show Q (.bl (if false = true then !inV (.str z) xs else inV (.str z) xs)) H
    rw [if_neg Bool.false_ne_true, hi]
    exact q
/-! ### readers.py: the checks -/
def spAsk : Sp := fun vs H Q _ => ∃ v : Int, vs = [.int v] ∧ Q (.bl (decide (1 ≤ v ∧ v ≤ 9))) H
theorem c_is_ask (T : Tx g) : Cal g 2 "is_ask" spAsk := by
  obtain ⟨fd, F⟩ := T.fun_ in_is_ask
  refine ⟨_, fd, p_is_ask, def_ok F sc_is_ask (fun vs H Q E h => ?_) (fun cdv A outer s H vs Q E hr h => ?_), g_is_ask T, F.kp, F.bindsN fun _ _ _ _ _ _ us hl => match us, hl with | [_], _ => rfl⟩
  · obtain ⟨v, rfl, _⟩ := h
    rfl
  · obtain ⟨v, rfl, q⟩ := h
    obtain ⟨mc, u, r, c⟩ := T.cv.mostAsk
    refine ⟨_, pss_one (ps_ret (pe_c (c_is_number T) hr (pa_cons (pv 0) (pa_cons pe_int (pa_cons (pe_cval (pe_glob (v := .ref (He.ga g.K "Reader")) rfl (g_Reader T) rfl)) pa_nil))))), ?_⟩
    exact ⟨_, rfl, _, mc, _, u, rfl, r, c, v, 1, 9, rfl, q⟩
def AsksOk (as : List Int) : Prop := 1 ≤ as.length ∧ as.length ≤ 4 ∧ ∀ z ∈ as, 1 ≤ z ∧ z ≤ 9
theorem all_true {n : Nat} {f : Nat → Bool} {R : Nat → V → Hp → Prop} {H : Hp} {ys : List V} (h : LR n f R H ys) (hr : ∀ i y, R i y H → y = .bl true) : ∃ bs : List Bool, ys = bs.map V.bl ∧ bs.all id = true := by
  have go : ∀ (l : List Nat) (ys : List V), Paired (fun (i : Nat) (y : V) => R i y H) l ys → ∃ bs : List Bool, ys = bs.map V.bl ∧ bs.all id = true := by
    intro l ys p
    induction p with
    | nil => exact ⟨[], rfl, rfl⟩
    | cons r t ih =>
      obtain ⟨bs, e1, e2⟩ := ih
      exact ⟨true :: bs, by rw [hr _ _ r, e1]; rfl, by simpa using e2⟩
  exact go _ _ h
def spAsks (K : PySem.W.Frag) : Sp := fun vs H Q _ => ∃ (a : Addr) (as : List Int), vs = [.ref a] ∧ H a = some (.tup (as.map V.int)) ∧ AsksOk as ∧ Ret K [] H (fun v _ => v = .bl true) Q
theorem c_are_asks (T : Tx g) : Cal g 3 "are_asks" (spAsks g.K) := by
  obtain ⟨fd, F⟩ := T.fun_ in_are_asks
  refine ⟨_, fd, p_are_asks, def_ok F sc_are_asks (fun vs H Q E h => ?_) (fun cdv A outer s H vs Q E hr h => ?_), g_are_asks T, F.kp, F.bindsN fun _ _ _ _ _ _ us hl => match us, hl with | [_], _ => rfl⟩
  · obtain ⟨a, as, rfl, _⟩ := h
    rfl
  · obtain ⟨a, as, rfl, ha, ⟨o1, o2, o3⟩, q⟩ := h
    obtain ⟨tk, mp⟩ := i_MOST_PARTS T
    refine ⟨_, pss_one (ps_ret (pe_and (pe_isB "tuple" (pv 0) (f_isinstance T) (f_tuple T)) (pe_and (pe_chain op_le op_le pe_int (pe_callB call_len_seq (by rfl) (f_len T) PySem.boot_len (pa_cons (pv 0) pa_nil)) (pe_glob (v := .int 4) rfl mp ⟨_, rfl⟩))
      (pe_one (pe_callB (cr_all rfl) (by rfl) (f_all T) (by decide +kernel) (pa_cons (pe_lc (own := [("ask", 1)]) (g := gName 1) (tt := tYes) rfl sc_are_asks.nd (pi_tup (pv 0)) (blkOk_by (N := N_are_asks) (sc := defScope s_are_asks) (by decide +kernel))
        (fun _ _ _ _ _ => pg_name (i := 1) sc_are_asks.nd rfl (Or.inl rfl)) (fun _ _ _ _ _ => pts_nil) (fun _ _ _ _ _ => pe_c (c_is_ask T) hr (pa_cons (pv 1) pa_nil))) pa_nil)))))), ?_⟩
    have hl : (as.map V.int).length = as.length := List.length_map _
    refine ⟨_, rfl, is_tuple_tuple ha ⟨_, rfl, iteT ⟨_, rfl, a, _, rfl, .inr (SqT.of ha), _, _, rfl, rfl, _, rfl, ?_⟩⟩⟩
    rw [decide_eq_true (show (1 : Int) ≤ (as.map V.int).length by omega)]
    refine iteT ⟨_, _, rfl, rfl, _, rfl, ?_⟩
    rw [decide_eq_true (show ((as.map V.int).length : Int) ≤ 4 by omega)]
    refine iteT ⟨_, rfl, a, rfl, ⟨_, SqT.of ha⟩, fun D hD => ?_⟩
    refine lc_walk (K := g.K) (walk_tup (xs := as.map V.int)) [] (fun _ => true) (fun _ y _ => y = .bl true) hD (fun H' e => SqT.of (e.tup _ _ ha)) (fun i H x H' y => by rw [y.1]; exact Up.refl) (by omega) (fun _ _ _ _ _ h => h)
      (turn_name (by simp) fun i x H2 hi hx e _ => ⟨EvB.yes, fun _ H3 e3 Q3 k3 => ?_⟩) (by simp) fun ys H' e eD lr => ?_
    · obtain ⟨z, hz, rfl⟩ : ∃ z, z ∈ as ∧ x = V.int z := by
        obtain ⟨z, h1, h2⟩ := List.mem_map.mp (List.mem_of_getElem? hx)
        exact ⟨z, h1, h2.symm⟩
      refine ⟨_, rfl, z, rfl, k3 _ _ Up.refl ?_⟩
      rw [decide_eq_true (o3 z hz)]
    · obtain ⟨bs, e1, e2⟩ := all_true lr fun _ _ h => h
      refine ⟨_, bs, rfl, SqL.of (by rw [eD, e1]), ?_⟩
      rw [e2]
      exact q _ _ e rfl
end K48

namespace K48
open PySem PySem.Spec PyProof.Rows L2 ClX
variable {g : GX}
def spNeedPart : Sp := fun vs H Q _ => ∃ p m : Int, vs = [.int p, .int m] ∧ 0 ≤ p ∧ p < m ∧ Q .non H
theorem c_need_part (T : Tx g) : Cal g 2 "need_part" spNeedPart := by
  obtain ⟨fd, F⟩ := T.fun_ in_need_part
  refine ⟨_, fd, p_need_part, def_ok F sc_need_part (fun vs H Q E h => ?_) (fun cdv A outer s H vs Q E hr h => ?_), g_need_part T, F.kp, F.bindsN fun _ _ _ _ _ _ us hl => match us, hl with | [_, _], _ => rfl⟩
  · obtain ⟨p, m, rfl, _⟩ := h
    rfl
  · obtain ⟨p, m, rfl, h1, h2, q⟩ := h
    refine ⟨_, pss_one (ps_if (pt_not (pt_val (pe_c (c_is_number T) hr (pa_cons (pv 0) (pa_cons pe_int (pa_cons (pe_op op_sub (pv 1) pe_int) pa_nil)))))) (pss_one ps_never) pss_nil), ?_⟩
    refine ⟨_, rfl, _, rfl, _, _, rfl, rfl, p, 0, m - 1, rfl, _, rfl, ?_⟩
    rw [decide_eq_true (show 0 ≤ p ∧ p ≤ m - 1 by omega)]
    exact iteF q
def spNeedMany : Sp := fun vs H Q _ => ∃ m : Int, vs = [.int m] ∧ 1 ≤ m ∧ m ≤ 4 ∧ Q .non H
theorem c_need_many (T : Tx g) : Cal g 2 "need_many" spNeedMany := by
  obtain ⟨fd, F⟩ := T.fun_ in_need_many
  refine ⟨_, fd, p_need_many, def_ok F sc_need_many (fun vs H Q E h => ?_) (fun cdv A outer s H vs Q E hr h => ?_), g_need_many T, F.kp, F.bindsN fun _ _ _ _ _ _ us hl => match us, hl with | [_], _ => rfl⟩
  · obtain ⟨m, rfl, _⟩ := h
    rfl
  · obtain ⟨m, rfl, h1, h2, q⟩ := h
    obtain ⟨mc, u, r, c⟩ := T.cv.mostParts
    refine ⟨_, pss_one (ps_if (pt_not (pt_val (pe_c (c_is_number T) hr (pa_cons (pv 0) (pa_cons pe_int (pa_cons (pe_cval (pe_glob (v := .ref (He.ga g.K "Table")) rfl (g_Table T) rfl)) pa_nil)))))) (pss_one ps_never) pss_nil), ?_⟩
    refine ⟨_, rfl, _, mc, _, u, rfl, r, c, m, 1, 4, rfl, _, rfl, ?_⟩
    rw [decide_eq_true (show 1 ≤ m ∧ m ≤ 4 by omega)]
    exact iteF q
/-- a text of the class's tuple -/
def spNeedTxt (K : PySem.W.Frag) (a : Addr) (xs : List V) : Sp := fun vs H Q _ => ∃ z : Str, vs = [.str z] ∧ inV (.str z) xs = true ∧ Q .non H
theorem c_need_inner (T : Tx g) : Cal g 2 "need_inner" (spNeedTxt g.K (cvA "Reader" "INNER" g.K) [.str "up", .str "down"]) := by
  obtain ⟨fd, F⟩ := T.fun_ in_need_inner
  refine ⟨_, fd, p_need_inner, def_ok F sc_need_inner (fun vs H Q E h => ?_) (fun cdv A outer s H vs Q E hr h => ?_), g_need_inner T, F.kp, F.bindsN fun _ _ _ _ _ _ us hl => match us, hl with | [_], _ => rfl⟩
  · obtain ⟨z, rfl, _⟩ := h
    rfl
  · obtain ⟨z, rfl, h1, q⟩ := h
    obtain ⟨mc, u, r, c⟩ := T.cv.inner
    refine ⟨_, pss_one (ps_if (pt_not (pt_val (pe_c (c_is_text_in T) hr (pa_cons (pv 0) (pa_cons (pe_cval (pe_glob (v := .ref (He.ga g.K "Reader")) rfl (g_Reader T) rfl)) pa_nil))))) (pss_one ps_never) pss_nil), ?_⟩
    exact ⟨_, rfl, _, mc, _, u, rfl, r, c, z, _, _, rfl, T.cv.tInner H, by decide +kernel, h1, _, rfl, iteF q⟩
theorem c_need_order (T : Tx g) : Cal g 2 "need_order" (spNeedTxt g.K (cvA "Reader" "ORDERS" g.K) [.str "number", .str "back", .str "part"]) := by
  obtain ⟨fd, F⟩ := T.fun_ in_need_order
  refine ⟨_, fd, p_need_order, def_ok F sc_need_order (fun vs H Q E h => ?_) (fun cdv A outer s H vs Q E hr h => ?_), g_need_order T, F.kp, F.bindsN fun _ _ _ _ _ _ us hl => match us, hl with | [_], _ => rfl⟩
  · obtain ⟨z, rfl, _⟩ := h
    rfl
  · obtain ⟨z, rfl, h1, q⟩ := h
    obtain ⟨mc, u, r, c⟩ := T.cv.orders
    refine ⟨_, pss_one (ps_if (pt_not (pt_val (pe_c (c_is_text_in T) hr (pa_cons (pv 0) (pa_cons (pe_cval (pe_glob (v := .ref (He.ga g.K "Reader")) rfl (g_Reader T) rfl)) pa_nil))))) (pss_one ps_never) pss_nil), ?_⟩
    exact ⟨_, rfl, _, mc, _, u, rfl, r, c, z, _, _, rfl, T.cv.tOrders H, by decide +kernel, h1, _, rfl, iteF q⟩
/-- a state of a reader with one state -/
def spState (K : PySem.W.Frag) : Sp := fun vs H Q _ => ∃ (a b : Addr) (size : Int) (as : List Int), vs = [.ref a, .int 1] ∧ H a = some (.tup [.int size, .ref b, .int 0, .int 0]) ∧ H b = some (.tup (as.map V.int)) ∧ 1 ≤ size ∧ size ≤ 9 ∧ AsksOk as ∧ Ret K [] H (fun v _ => v = .bl true) Q
theorem c_is_state (T : Tx g) : Cal g 4 "is_state" (spState g.K) := by
  obtain ⟨fd, F⟩ := T.fun_ in_is_state
  refine ⟨_, fd, p_is_state, def_ok F sc_is_state (fun vs H Q E h => ?_) (fun cdv A outer s H vs Q E hr h => ?_), g_is_state T, F.kp, F.bindsN fun _ _ _ _ _ _ us hl => match us, hl with | [_, _], _ => rfl⟩
  · obtain ⟨a, b, size, as, rfl, _⟩ := h
    rfl
  · obtain ⟨a, b, size, as, rfl, ha, hb, s1, s2, o, q⟩ := h
    obtain ⟨tk, mp⟩ := i_MOST_SIZE T
    refine ⟨_, pss_cons (ps_if (PW.pt (pw_or (pt_not (pt_val (pe_c (c_is_tuple_of T) hr (pa_cons (pv 0) (pa_cons pe_int pa_nil)))))
        (pw_or (pt_not (pt_val (pe_c (c_is_number T) hr (pa_cons (pe_ix ix_tup (pv 0) pe_int (fun _ _ => rfl)) (pa_cons pe_int (pa_cons (pe_glob (v := .int 9) rfl mp ⟨_, rfl⟩) pa_nil))))))
        (pw_or1 (pt_not (pt_val (pe_c (c_are_asks T) hr (pa_cons (pe_ix ix_tup (pv 0) pe_int (fun _ _ => rfl)) pa_nil)))))))) (pss_one ps_never) pss_nil)
      (pss_one (ps_ret (pe_callB (cr_all rfl) (by rfl) (f_all T) (by decide +kernel) (pa_cons (pe_lc (own := [("goal", 2)]) (g := gName 2) (tt := tYes) rfl sc_is_state.nd (pi_tup (pe_slice sl_tup (pv 0) (po_some pe_int) po_none)) (blkOk_by (N := N_is_state) (sc := defScope s_is_state) (by decide +kernel))
        (fun _ _ _ _ _ => pg_name (i := 2) sc_is_state.nd rfl (Or.inl rfl)) (fun _ _ _ _ _ => pts_nil)
        (fun _ _ _ _ _ => pe_or (pe_cmp (pc_isN (pv 2)) rfl) (pe_one (pe_c (c_is_number T) hr (pa_cons (pv 2) (pa_cons pe_int (pa_cons (pe_op op_sub (pv 1) pe_int) pa_nil))))))) pa_nil)))), ?_⟩
    refine ⟨_, rfl, a, _, 4, rfl, ha, _, rfl, iteF ⟨_, rfl, a, _, 0, _, rfl, rfl, SqT.of ha, rfl, _, 1, 9, rfl, _, rfl, ?_⟩⟩
    rw [decide_eq_true (show 1 ≤ size ∧ size ≤ 9 by omega)]
    refine iteF ⟨_, rfl, a, _, 1, _, rfl, rfl, SqT.of ha, rfl, b, as, rfl, hb, o, fun v H1 e1 hv => ⟨_, hv, iteF ?_⟩⟩
    have ha1 := e1.tup _ _ ha
    refine ⟨_, rfl, 2, rfl, a, _, rfl, SqT.of ha1, (by show ¬ (HT.sIx 4 0 (some 2) = 0 ∧ HT.sIx 4 4 none = 4); decide), fun p hp => ⟨p, rfl, ⟨_, SqT.of upd_same⟩, fun D hD => ?_⟩⟩
    have e2 : Up g.K [] H (upd H1 p (.tup (cutV [V.int size, V.ref b, V.int 0, V.int 0] (some 2) none))) := e1.trans (Up.new hp)
    refine lc_walk (K := g.K) (walk_tup (xs := [V.int 0, V.int 0])) [] (fun _ => true) (fun _ y _ => y = .bl true) hD (fun H' e => SqT.of (e.tup _ _ upd_same)) (fun i H x H' y => ya_up y) (by show 2 ≤ 100000; decide) (fun _ _ _ _ _ h => h)
      (turn_name (by simp) fun i x H2 hi hx e _ => ⟨EvB.yes, fun _ H3 e3 Q3 k3 => ?_⟩) (by simp) fun ys H' e eD lr => ?_
    · have hx0 : x = V.int 0 := by
        match i, hi, hx with
        | 0, _, h => exact (Option.some.inj h).symm
        | 1, _, h => exact (Option.some.inj h).symm
      subst hx0
      refine ⟨_, rfl, _, rfl, ?_⟩
      refine ⟨_, rfl, _, rfl, _, _, rfl, rfl, 0, 0, 0, rfl, k3 _ _ Up.refl rfl⟩
    · obtain ⟨bs, e3, e4⟩ := all_true lr fun _ _ h => h
      refine ⟨_, bs, rfl, SqL.of (by rw [eD, e3]), ?_⟩
      rw [e4]
      exact q _ _ (e2.trans e) rfl
/-! ### tables.py: the checks -/
abbrev BND : Int := 1000000000
def spPlace : Sp := fun vs H Q _ => ∃ (a : Addr) (k n : Int), vs = [.ref a] ∧ H a = some (.tup [.int k, .int n]) ∧ -BND ≤ k ∧ k ≤ BND ∧ 0 ≤ n ∧ n ≤ BND ∧ Q (.bl true) H
theorem c_is_place (T : Tx g) : Cal g 2 "is_place" spPlace := by
  obtain ⟨fd, F⟩ := T.fun_ in_is_place
  refine ⟨_, fd, p_is_place, def_ok F sc_is_place (fun vs H Q E h => ?_) (fun cdv A outer s H vs Q E hr h => ?_), g_is_place T, F.kp, F.bindsN fun _ _ _ _ _ _ us hl => match us, hl with | [_], _ => rfl⟩
  · obtain ⟨a, k, n, rfl, _⟩ := h
    rfl
  · obtain ⟨a, k, n, rfl, ha, h1, h2, h3, h4, q⟩ := h
    obtain ⟨tk, mp⟩ := i_BOUND T
    refine ⟨_, pss_one (ps_ret (pe_and (pe_c (c_is_tuple_of T) hr (pa_cons (pv 0) (pa_cons pe_int pa_nil)))
      (pe_and (pe_c (c_is_number T) hr (pa_cons (pe_ix ix_tup (pv 0) pe_int (fun _ _ => rfl)) (pa_cons (pe_un un_neg (pe_glob (v := .int BND) rfl mp ⟨_, rfl⟩)) (pa_cons (pe_glob (v := .int BND) rfl mp ⟨_, rfl⟩) pa_nil))))
      (pe_one (pe_c (c_is_number T) hr (pa_cons (pe_ix ix_tup (pv 0) pe_int (fun _ _ => rfl)) (pa_cons pe_int (pa_cons (pe_glob (v := .int BND) rfl mp ⟨_, rfl⟩) pa_nil)))))))), ?_⟩
    refine ⟨_, rfl, a, _, 2, rfl, ha, _, rfl, iteT ⟨_, rfl, a, _, 0, _, rfl, rfl, SqT.of ha, rfl, _, rfl, _, _, _, rfl, _, rfl, ?_⟩⟩
    rw [decide_eq_true (show -BND ≤ k ∧ k ≤ BND from ⟨h1, h2⟩)]
    refine iteT ⟨_, rfl, a, _, 1, _, rfl, rfl, SqT.of ha, rfl, _, _, _, rfl, ?_⟩
    rw [decide_eq_true (show 0 ≤ n ∧ n ≤ BND from ⟨h3, h4⟩)]
    exact q
/-- the tuple of one part -/
def spParts (K : PySem.W.Frag) : Sp := fun vs H Q _ => ∃ (a : Addr) (p m : Int), vs = [.ref a, .int m] ∧ H a = some (.tup [.int p]) ∧ 0 ≤ p ∧ p < m ∧ Ret K [] H (fun v _ => v = .bl true) Q
theorem c_are_parts (T : Tx g) : Cal g 2 "are_parts" (spParts g.K) := by
  obtain ⟨fd, F⟩ := T.fun_ in_are_parts
  refine ⟨_, fd, p_are_parts, def_ok F sc_are_parts (fun vs H Q E h => ?_) (fun cdv A outer s H vs Q E hr h => ?_), g_are_parts T, F.kp, F.bindsN fun _ _ _ _ _ _ us hl => match us, hl with | [_, _], _ => rfl⟩
  · obtain ⟨a, p, m, rfl, _⟩ := h
    rfl
  · obtain ⟨a, p, m, rfl, ha, h1, h2, q⟩ := h
    have nd := sc_are_parts.nd
    refine ⟨_, pss_cons (ps_if (PW.pt (pw_or (pt_not (pt_val (pe_isB "tuple" (pv 0) (f_isinstance T) (f_tuple T))))
        (pw_or1 (pt_not (pt_val (pe_callB (cr_all rfl) (by rfl) (f_all T) (by decide +kernel) (pa_cons (pe_lc (own := [("part", 4)]) (g := gName 4) (tt := tYes) rfl nd (pi_tup (pv 0)) (blkOk_by (N := N_are_parts) (sc := defScope s_are_parts) (by decide +kernel))
          (fun _ _ _ _ _ => pg_name (i := 4) nd rfl (Or.inl rfl)) (fun _ _ _ _ _ => pts_nil) (fun _ _ _ _ _ => pe_c (c_is_number T) hr (pa_cons (pv 4) (pa_cons pe_int (pa_cons (pe_op op_sub (pv 1) pe_int) pa_nil))))) pa_nil))))))) (pss_one ps_never) pss_nil)
      (pss_one (ps_ret (pe_callB (cr_all rfl) (by rfl) (f_all T) (by decide +kernel) (pa_cons (pe_lc (own := [("early", 2), ("late", 3)]) (g := gTup g.K 2 (gCons (gName 2) (gCons (gName 3) gNil))) (tt := tYes) rfl nd (RZ.pi_zipA (by rfl) (f_zip T) (pa_cons (pv 0) (pa_cons (pe_slice sl_tup (pv 0) (po_some pe_int) po_none) pa_nil))) (blkOk_by (N := N_are_parts) (sc := defScope s_are_parts) (by decide +kernel))
          (fun _ _ _ _ _ => pg_tup rfl (pgs_cons (pg_name (i := 2) nd rfl (Or.inl rfl)) (pgs_cons (pg_name (i := 3) nd rfl (Or.inl rfl)) pgs_nil))) (fun _ _ _ _ _ => pts_nil) (fun _ _ _ _ _ => pe_cmpR op_lt (pv 2) (pv 3) (nomark _))) pa_nil)))), ?_⟩
    refine ⟨_, rfl, is_tuple_tuple ha ⟨_, rfl, iteF ⟨_, rfl, a, rfl, ⟨_, SqT.of ha⟩, fun D hD => ?_⟩⟩⟩
    refine lc_walk (K := g.K) (walk_tup (xs := [V.int p])) [] (fun _ => true) (fun _ y _ => y = .bl true) hD (fun H' e => SqT.of (e.tup _ _ ha)) (fun i H x H' y => ya_up y) (by show 1 ≤ 100000; decide) (fun _ _ _ _ _ h => h)
      (turn_name (by simp) fun i x H2 hi hx e _ => ⟨EvB.yes, fun _ H3 e3 Q3 k3 => ?_⟩) (by simp) fun ys H' e eD lr => ?_
    · have hx0 : x = V.int p := by
        match i, hi, hx with
        | 0, _, h => exact (Option.some.inj h).symm
      subst hx0
      refine ⟨_, rfl, _, rfl, _, _, rfl, rfl, p, 0, m - 1, rfl, k3 _ _ Up.refl ?_⟩
      rw [decide_eq_true (show 0 ≤ p ∧ p ≤ m - 1 by omega)]
    · obtain ⟨bs, e3, e4⟩ := all_true lr fun _ _ h => h
      refine ⟨_, bs, rfl, SqL.of (by rw [eD, e3]), ?_⟩
      rw [e4]
      refine ⟨_, rfl, iteF ?_⟩
      have ha1 := e.tup _ _ ha
      refine ⟨_, rfl, _, rfl, 1, rfl, a, _, rfl, SqT.of ha1, (by show ¬ (HT.sIx 1 0 (some 1) = 0 ∧ HT.sIx 1 1 none = 1); decide), fun t ht => ⟨a, t, [V.int p], _, rfl, .inr ⟨SqT.of (by rw [upd_ne (ne_of_none ha1 ht)]; exact ha1), SqT.of upd_same, fun D2 hD2 => ?_⟩⟩⟩
      have e5 : Up g.K [] H (upd H' t (.tup (cutV [V.int p] (some 1) none))) := e.trans (Up.new ht)
      have ha2 : upd H' t (HO.tup (cutV [V.int p] (some 1) none)) a = some (.tup [V.int p]) := by rw [upd_ne (ne_of_none ha1 ht)]; exact ha1
      refine lc_walk (K := g.K) (walk_zipT (xs := [V.int p]) (ys := []) (n := 0) rfl) [] (fun _ => true) (fun _ y _ => y = .bl true) hD2 (fun H2 e2 => ⟨SqT.of (e2.tup _ _ ha2), SqT.of (e2.tup _ _ upd_same)⟩) (fun i H x H' y => yp_up y) (by decide) (fun _ _ _ _ _ h => h)
        (fun i x H2 H3 hi => absurd hi (Nat.not_lt_zero i)) (by simp) fun zs H3 e6 eD3 lr3 => ?_
      obtain ⟨bs3, f3, f4⟩ := all_true lr3 fun _ _ h => h
      refine ⟨_, bs3, rfl, SqL.of (by rw [eD3, f3]), ?_⟩
      rw [f4]
      exact q _ _ (e5.trans e6) rfl
def spRow (K : PySem.W.Frag) : Sp := fun vs H Q _ => ∃ (v : V) (r : Row) (m : Int), vs = [v, .int m] ∧ RwV H v r ∧ -BND ≤ r.1 ∧ r.1 ≤ BND ∧ 0 ≤ r.2.1 ∧ r.2.1 ≤ BND ∧ (r.2.2 : Int) < m ∧ Ret K [] H (fun v _ => v = .bl true) Q
theorem c_is_row (T : Tx g) : Cal g 3 "is_row" (spRow g.K) := by
  obtain ⟨fd, F⟩ := T.fun_ in_is_row
  refine ⟨_, fd, p_is_row, def_ok F sc_is_row (fun vs H Q E h => ?_) (fun cdv A outer s H vs Q E hr h => ?_), g_is_row T, F.kp, F.bindsN fun _ _ _ _ _ _ us hl => match us, hl with | [_, _], _ => rfl⟩
  · obtain ⟨v, r, m, rfl, _⟩ := h
    rfl
  · obtain ⟨v, ⟨k, n, p⟩, m, rfl, ⟨a, b, rfl, ha, hb⟩, h1, h2, h3, h4, h5, q⟩ := h
    dsimp only at ha hb h1 h2 h3 h4 h5
    have nd := sc_is_row.nd
    refine ⟨_, pss_cons (ps_if (PW.pt (pw_or (pt_not (pt_val (pe_c (c_is_tuple_of T) hr (pa_cons (pv 0) (pa_cons pe_int pa_nil)))))
        (pw_or1 (pt_not (pt_val (pe_c (c_is_place T) hr (pa_cons (pe_tup (pa_cons (pe_ix ix_tup (pv 0) pe_int (fun _ _ => rfl)) (pa_cons (pe_ix ix_tup (pv 0) pe_int (fun _ _ => rfl)) pa_nil))) pa_nil))))))) (pss_one ps_never) pss_nil)
      (pss_one (ps_ret (pe_and (pe_c (c_are_parts T) hr (pa_cons (pe_ix ix_tup (pv 0) pe_int (fun _ _ => rfl)) (pa_cons (pv 1) pa_nil))) (pe_one (pe_cmpR op_gt (pe_callB call_len_seq (by rfl) (f_len T) PySem.boot_len (pa_cons (pe_ix ix_tup (pv 0) pe_int (fun _ _ => rfl)) pa_nil)) pe_int (nomark _)))))), ?_⟩
    refine ⟨_, rfl, a, _, 3, rfl, ha, _, rfl, iteF ⟨_, rfl, a, _, 0, _, rfl, rfl, SqT.of ha, rfl, _, rfl, a, _, 1, _, rfl, rfl, SqT.of ha, rfl, (by show 2 ≤ sizeLine; decide), fun t ht => ?_⟩⟩
    have hu : Up g.K [] H (upd H t (.tup [V.int k, V.int n])) := Up.new ht
    refine ⟨t, k, n, rfl, upd_same, h1, h2, h3, h4, _, rfl, iteF ?_⟩
    have ha1 := hu.tup _ _ ha
    have hb1 := hu.tup _ _ hb
    refine ⟨_, rfl, a, _, 2, _, rfl, rfl, SqT.of ha1, rfl, _, rfl, b, p, m, rfl, hb1, by omega, h5, fun v H2 e2 hv => ⟨_, hv, iteT ?_⟩⟩
    have ha2 := e2.tup _ _ ha1
    have hb2 := e2.tup _ _ hb1
    refine ⟨_, rfl, a, _, 2, _, rfl, rfl, SqT.of ha2, rfl, b, _, rfl, .inr (SqT.of hb2), _, _, rfl, rfl, q _ _ (hu.trans e2) rfl⟩
end K48

namespace K48
open PySem PySem.Spec PyProof.Rows L2 ClX PySem.W
/-! ### sorted of data -/
section
variable {α : Type} {κ : α → List Int}
theorem dataLe_tup : dataLe false (fun b : α => .tuple ((κ b).map .int)) = leK κ := by
  funext p q
  show (!dataLt (.tuple ((κ q).map .int)) (.tuple ((κ p).map .int))) = _
  rw [dataLt_tuple]
  show (!rowLt ((κ q).map .int) ((κ p).map .int)) = _
  rw [dataLt_ints]
  unfold leK
  by_cases h : κ q < κ p
  · have h' : ¬ κ p ≤ κ q := fun r => List.not_lt.mpr r h
    simp [h, h']
  · have h' : κ p ≤ κ q := List.not_lt.mp h
    simp [h, h']
theorem alike_tup {κ : α → List Int} {bs : List α} : AllAlike (bs.map fun b => .tuple ((κ b).map .int)) := AllAlike.of fun b b' => by
  show alike (.tuple ((κ b).map .int)) (.tuple ((κ b').map .int)) = true
  rw [alike]
  exact alike_ints _ _
theorem sortable_tup {κ : α → List Int} {bs : List α} (h : ∀ b, κ b ≠ []) : Sortable (bs.map fun b => .tuple ((κ b).map .int)) := Sortable.tuples fun b => by
  cases e : κ b with
  | nil => exact absurd e (h b)
  | cons x r => exact ⟨_, _, rfl⟩
theorem depth_tup (l : List Int) : (PyData.tuple (l.map .int)).depth ≤ 8 := by
  rw [PyData.depth, depth_ints]
  decide
end
section
variable {δ : Type}
theorem each_of {F : Value → V × δ → Prop} : ∀ {bs : List (V × δ)} {us : List Value}, Vals (bs.map (·.1)) us → (∀ b ∈ bs, ∀ u, RelV b.1 u → F u b) → EachIs F us bs
  | [], [], _, _ => .nil
  | [], _ :: _, r, _ => by cases r
  | b :: bs, us, r, h => by
    cases r with
    | cons r t => exact .cons (h b List.mem_cons_self _ r) (each_of t fun c hc => h c (List.mem_cons_of_mem _ hc))
theorem vals_of : ∀ {bs : List (V × δ)} {us : List Value}, EachIs (fun u b => RelV b.1 u) us bs → Vals (bs.map (·.1)) us
  | _, _, .nil => .nil
  | _, _, .cons r t => .cons r (vals_of t)
/-- sorted(xs): the items read as data -/
def rSortD (K : PySem.W.Frag) (enc : δ → PyData) : List V → Hp → VK → Prop := fun vs H Q => ∃ (a : Addr) (bs : List (V × δ)), vs = [V.ref a] ∧ SqL K H a (bs.map (·.1)) ∧ (∀ b ∈ bs, Dp K H b.1 (enc b.2)) ∧ AllAlike (bs.map fun b => enc b.2) ∧ Sortable (bs.map fun b => enc b.2) ∧
  (∀ b ∈ bs, (enc b.2).depth ≤ 8) ∧ ∀ p, H p = none → Q (.ref p) (upd H p (.lst ((bs.mergeSort (dataLe false fun b => enc b.2)).map (·.1))))
theorem call_sortD {X : Cx} {enc : δ → PyData} (hu : X.A.units + 64 < cLine) : CallR X (.builtin "sorted") (rSortD X.K enc) := by
  intro pins s σ H vs us Q I r h
  obtain ⟨a, bs, rfl, hs, hd, hal, hk, hdp, q⟩ := h
  obtain rfl := Vals.ref1 r
  obtain ⟨its, rv, hl, hz⟩ := I.list hs
  have e1 : EachIs (fun u b => RelV b.1 u) its bs := each_of rv fun b _ u r => r
  have e2 : EachIs (fun u b => ∃ as, Reads s.heap u (enc b.2) as) its bs := each_of rv fun b hb u r => Dp.reads I _ _ _ (hd b hb) r
  rw [List.length_map] at hz
  refine sorted_data (enc := fun b => enc b.2) hl.isList e1 e2 hal hk hz (fun b hb => by have := hdp b hb; omega) fun out ho eo => ?_
  obtain ⟨ep, he'⟩ := PyProof.Rows.sortedAll_at s.heap its out.toArray
  have rv' := vals_of eo
  have hlen : ((bs.mergeSort (dataLe false fun b => enc b.2)).map (·.1)).length ≤ sizeLine := by
    rw [List.length_map, List.length_mergeSort]
    exact hz
  exact ⟨.ref _, upd H (s.heap.objs.size + 1) (.lst ((bs.mergeSort (dataLe false fun b => enc b.2)).map (·.1))), I.laid (t' := s.toks) (fun _ _ => PyProof.Rows.sortedAll_old) (Nat.le_succ _) ⟨hlen, _, ep, rv', he'⟩, rfl, q _ (I.hok.fresh (Nat.le_succ _))⟩
end
end K48

namespace K48
open PySem PySem.Spec PyProof.Rows L2 ClX PySem.W
/-! ### reading without change -/
abbrev KH (h h' : Heap) : Prop := ∀ b o, h.get? b = some o → h'.get? b = some o
theorem KH.cell {h h' : Heap} (k : KH h h') {c : Addr} {v : Option Value} (x : h.IsCell c v) : h'.IsCell c v := let ⟨o, e, d⟩ := x; ⟨o, k _ _ e, d⟩
theorem KH.tup {h h' : Heap} (k : KH h h') {a : Addr} {vs : Array Value} (x : IsTup h a vs) : IsTup h' a vs := let ⟨o, e, c, d⟩ := x; ⟨o, k _ _ e, c, d⟩
def RE (P : Program) (w : World) (A : Around) (env : Env) (h0 : Heap) (e : Expr) (φ : Value → Heap → Prop) : Prop :=
  ∀ (s : Shared) (h : Heap) (tk : Nat), KH h0 h → wpAny (model P w) A (eval e env) (fun v s' => ∃ h' tk', s' = { s with heap := h', toks := tk' } ∧ KH h h' ∧ φ v h') (fun _ _ => False) { s with heap := h, toks := tk }
def REs (P : Program) (w : World) (A : Around) (env : Env) (h0 : Heap) (pos : Pos) (es : List Expr) (φ : List Value → Prop) : Prop :=
  ∀ (s : Shared) (h : Heap) (tk : Nat), KH h0 h → wpAny (model P w) A (spliced (backTo pos (starEach es env))) (fun v s' => ∃ h' tk', s' = { s with heap := h', toks := tk' } ∧ KH h h' ∧ φ v) (fun _ _ => False) { s with heap := h, toks := tk }
section
variable {P : Program} {w : World} {A : Around} {env : Env} {h0 : Heap} {e a b : Expr} {es : List Expr} {x y z : Str} {p p2 p3 pos : Pos} {m : Str → Option Value} {v : Value} {c : Addr} {φ : Value → Heap → Prop} {ψ : Value → Prop} {ψs : List Value → Prop} {k : Nat}
theorem re_local (hk : env.scope.kind = .function) (hl : env.kindOf x = some .local) (hn : h0.Ns env.locals m) (hv : m x = some v) (hd : (x == ("__debug__" : Str)) = false := by decide) : RE P w A env h0 (.Name x p) fun u _ => u = v := fun s h tk kp =>
  wpAny_Name (wpAny_loadName_local hk hl (hn.keeps kp) hv ⟨h, tk, rfl, fun _ _ e => e, rfl⟩) hd
theorem re_free (hk : env.scope.kind = .function) (hl : env.kindOf x = some .free) (hc : env.cells.lookup x = some c) (hv : h0.IsCell c (some v)) (hd : (x == ("__debug__" : Str)) = false := by decide) (hcd : (x == ("__classdict__" : Str)) = false := by decide) :
    RE P w A env h0 (.Name x p) fun u _ => u = v := fun s h tk kp =>
  wpAny_Name (wpAny_loadName_free hk hl hc (KH.cell kp hv) ⟨h, tk, rfl, fun _ _ e => e, rfl⟩ hcd) hd
theorem re_ix {t : Addr} {its : List Value} {i : Nat} {u : Value} (he : RE P w A env h0 e fun u _ => u = .ref t) (ht : IsTup h0 t its.toArray) (hi : its[i]? = some u) (hl : its.length ≤ 9) :
    RE P w A env h0 (.Subscript e (.Constant (.int (i : Int)) k p) pos) fun r _ => r = u := by
  intro s h tk kp
  refine Subscript_ (thn (he s h tk kp) fun r s1 ⟨h1, tk1, e1, k1, e2⟩ => ?_)
  subst e1 e2
  refine wpAny_Constant_int ?_
  have hlt : i < its.length := (List.getElem?_eq_some_iff.mp hi).1
  have tp : IsTup h1 t its.toArray := KH.tup (fun b o q => k1 b o (kp b o q)) ht
  have hs : seqIndex? (i : Int) its.toArray.size = some i := by
    unfold seqIndex?
    rw [List.size_toArray]
    simp
    omega
  exact subscriptTail_builtinR (x := u) (s := { s with heap := h1, toks := tk1 + 1 }) (IsTup.typeIs tp) slot_tuple_getitem.lookup
    (getItem_tuple (s := { s with heap := h1, toks := tk1 + 1 }) (j := i) (Q := fun r s' => r = u ∧ _) tp (by omega) (by omega) hs (by simpa using hi) ⟨rfl, h1, tk1 + 1, rfl, k1, rfl⟩) (by rfl)
theorem re_neg (he : RE P w A env h0 e fun u _ => ∃ t, u = .int i t) : RE P w A env h0 (.UnaryOp .USub e pos) fun u _ => ∃ t, u = .int (-i) t := by
  intro s h tk kp
  refine wpAny_UnaryOp (thn (he s h tk kp) fun r s1 ⟨h1, tk1, e1, k1, t, e2⟩ => ?_)
  subst e1 e2
  exact PyProof.Rows.neg_int ⟨h1, tk1 + 1, rfl, k1, _, rfl⟩
theorem re_get {d t : Addr} {ks : List L2.Key} (hu : A.units + 1 < cLine) (ha : RE P w A env h0 a fun u _ => u = .ref d) (hb : RE P w A env h0 b fun u _ => u = .ref t)
    (hd : ∀ h, KH h0 h → ∃ xs q, h.DictOfH (tupleKind (mixKind P w)) d xs ∧ (tupleKind (mixKind P w)).is h ks t ∧ atKey xs ks = some q ∧ ψ q.2) (hs : PlainIx b) :
    RE P w A env h0 (.Subscript a b pos) fun u _ => ψ u := by
  intro s h tk kp
  refine Subscript_ (thn (ha s h tk kp) fun r s1 ⟨h1, tk1, e1, k1, e2⟩ => ?_)
  subst e1 e2
  refine thn (hb s h1 tk1 fun b o q => k1 b o (kp b o q)) fun r s2 ⟨h2, tk2, e3, k2, e4⟩ => ?_
  subst e3 e4
  obtain ⟨xs, q, d1, d2, d3, d4⟩ := hd h2 fun b o q => k2 b o (k1 b o (kp b o q))
  exact subscriptTail_builtinR (x := q.2) (s := { s with heap := h2, toks := tk2 }) d1.typeIs slot_dict_getitem.lookup
    (wpAny_getItem_heap (s := { s with heap := h2, toks := tk2 }) (Q := fun r s' => r = q.2 ∧ _) (tupleKind_room_in1 hu) d2 d1 d3 ⟨rfl, h2, _, rfl, fun b o q => k2 b o (k1 b o q), d4⟩) (hs _ _)
theorem re_nil : REs P w A env h0 pos [] fun us => us = [] := fun s h tk kp => Calls.spliced_nil ⟨h, tk, rfl, fun _ _ e => e, rfl⟩
theorem re_cons (he : RE P w A env h0 e fun u _ => ψ u) (hr : REs P w A env h0 pos es ψs) (hs : starEach (e :: es) env = (false, eval e env) :: starEach es env := by rfl) :
    REs P w A env h0 pos (e :: es) fun us => ∃ u r, us = u :: r ∧ ψ u ∧ ψs r := by
  intro s h tk kp
  rw [hs]
  show wpAny _ _ (spliced ((false, eval e env) :: backTo pos (starEach es env))) _ _ _
  refine Calls.spliced_cons (thn (he s h tk kp) fun r s1 ⟨h1, tk1, e1, k1, e2⟩ => ?_)
  subst e1
  refine thn (hr s h1 tk1 fun b o q => k1 b o (kp b o q)) fun us s2 ⟨h2, tk2, e3, k2, e4⟩ => ?_
  exact ⟨h2, tk2, e3, fun b o q => k2 b o (k1 b o q), r, us, rfl, e2, e4⟩
theorem re_tup {x1} (h : REs P w A env h0 pos es ψs) (hz : ∀ us, ψs us → us.length ≤ 9) (hq : ∀ us h' a, ψs us → IsTup h' a us.toArray → φ (.ref a) h') : RE P w A env h0 (.Tuple es x1 pos) φ := by
  intro s h1 tk kp
  refine wpAny_Tuple_spliced (thn (h s h1 tk kp) fun us s1 ⟨h2, tk2, e1, k2, e2⟩ => ⟨Nat.le_trans (hz us e2) (by decide), ?_⟩)
  subst e1
  exact ⟨_, tk2, rfl, fun b o q => Heap.get?_push_of_some _ (k2 b o q), hq us _ _ e2 ⟨_, Heap.get?_push_size _ rfl, rfl, _, rfl⟩⟩
theorem re_if {zt : Tok} {yes : Bool} (hx : RE P w A env h0 e fun u _ => u = .str z zt) (hyes : (z == y) = yes) (ha : yes = true → RE P w A env h0 a φ) (hb : yes = false → RE P w A env h0 b φ) :
    RE P w A env h0 (.IfExp (.Compare e [.Eq] [.Constant (.str y) k p2] p3) a b pos) φ := by
  intro s h tk kp
  refine wpAny_IfExp (wpAny_isTrue_Compare1 (thn (hx s h tk kp) fun u s1 ⟨h1, tk1, e1, k1, e2⟩ => ?_) (by rfl))
  subst e1 e2
  refine wpAny_Constant_str (PyProof.Rows.eq_str (wpAny_truthy_bool ?_))
  rw [hyes]
  cases yes with
  | true => exact thn (ha rfl s h1 (tk1 + 1) fun b o q => k1 b o (kp b o q)) fun u s1 ⟨h2, tk2, e1, k2, e2⟩ => ⟨h2, tk2, e1, fun b o q => k2 b o (k1 b o q), e2⟩
  | false => exact thn (hb rfl s h1 (tk1 + 1) fun b o q => k1 b o (kp b o q)) fun u s1 ⟨h2, tk2, e1, k2, e2⟩ => ⟨h2, tk2, e1, fun b o q => k2 b o (k1 b o q), e2⟩
end
/-! ### a key by a lambda -/
section
variable {X : Cx} {pins : List (Addr × Obj)} {σ : L2.St} {H : Hp} {s : Shared}
/-- the lambda's body at one item: the key -/
def LamKey (X : Cx) (s : Shared) (scope : Scope) (body : Expr) (a : Str) (v : Value) (k : PyData) (f c' : Addr) : Prop :=
  ∀ (L : Addr) (h1 : Heap), KH s.heap h1 → h1.Ns L (fun y => [(a, v)].reverse.lookup y) → RE X.prog X.w (X.A.in1.in1.deeper (LamX.lamEnv X scope L f c')) (LamX.lamEnv X scope L f c') h1 body fun u h' => Reads h' u k []
theorem lam_turn {f c' : Addr} {pm ctv : Value} {params : Arguments} {body : Expr} {scope : Scope} {a : Str} {j : Nat} {v : Value} {k : PyData} (I : Inv X pins σ H s) (hr : Room j X.A)
    (hf : s.heap.get? f = some (kla_obj "<lambda>" (X.env.qual ++ "<lambda>") params body scope (cloFrom X.env.cells scope.names []) pm c' ctv)) (hco : H c' = some (LamX.CodeO c' (X.env.qual ++ "<lambda>")))
    (hb : bindArgs (kla_fn "<lambda>" (X.env.qual ++ "<lambda>") params body scope (cloFrom X.env.cells scope.names []) pm (.ref c') ctv) ⟨[v], []⟩ = pure [(a, v)]) (sk : scope.kind = .function) (s1 : scope.isCoroutine = false) (s2 : scope.isGenerator = false)
    (s3 : ∀ x ∈ scope.names, x.2 ≠ .cell) (s4 : scope.names.lookup a = some .local) (hbody : LamKey X s scope body a v k f c') (h : Heap) (tk : Nat) (kp : KH s.heap h) :
    wpAny (model X.prog X.w) X.A.in1.in1 (call (.ref f) [v]) (KeyPure k { s with heap := h, toks := tk }) (fun _ _ => False) { s with heap := h, toks := tk } := by
  obtain ⟨⟨oc, vs, t, hoc, hdc, hvc⟩, _, _⟩ := I.hok c' _ hco
  refine wpAny_call (kla_callFunE (A := X.A.in1.in1) (s := { s with heap := h, toks := tk }) hr.depth (kp f _ hf) rfl s1 s2 rfl ⟨c', oc, vs, t, rfl, kp _ _ hoc, hdc, hvc⟩ ?_)
  rw [hb]
  refine wpAny_pure (wpAny_newFunctionEnv (s := { s with heap := h, toks := tk }) s3 (fun y hy => by
    rw [List.mem_singleton] at hy
    subst hy
    exact s4) (fun h₁ hns hsb => ⟨((I.nolimit).keeps kp).fresh _ hsb, ?_⟩) sk)
  show codeAny _ _ (.expr body (LamX.lamEnv X scope h.objs.size f c')) _ _
  have k1 : KH h h₁ := fun b o e => hsb.extBut b o (Nat.ne_of_lt (Heap.lt_size e)) (Heap.get?_push_of_some _ e)
  refine kla_codeExpr (wpAny_mono (hbody h.objs.size h₁ (fun b o e => k1 b o (kp b o e)) hns s h₁ _ fun _ _ e => e) (fun u s' ⟨h2, tk2, e1, k2, e2⟩ => ?_) fun _ _ z => z.elim)
  exact ⟨h2, tk2, e1, fun b o e => k2 b o (k1 b o e), e2⟩
def SortEnd {δ : Type} (K : PySem.W.Frag) (enc : δ → PyData) (κ : L2.St → Hp → V × δ → Prop) (σ : L2.St) (Q : VK) (vs : List V) (H1 : Hp) : Prop := LamX.Tabs (tabT K) H1 ∧ ∃ (a : Addr) (bs : List (V × δ)), vs = [V.ref a] ∧ SqL K H1 a (bs.map (·.1)) ∧ AllAlike (bs.map fun b => enc b.2) ∧
  Sortable (bs.map fun b => enc b.2) ∧ (∀ b ∈ bs, (enc b.2).depth ≤ 8) ∧ (∀ H2, Up K [] H1 H2 → ∀ b ∈ bs, κ σ H2 b) ∧
  ∀ H2 p, Up K [] H1 H2 → H2 p = none → Q (.ref p) (upd H2 p (.lst ((bs.mergeSort (dataLe false fun b => enc b.2)).map (·.1))))
def tSortK {δ : Type} (K : PySem.W.Frag) (enc : δ → PyData) (κ : L2.St → Hp → V × δ → Prop) (te : TE) : TE := fun σ H Q => te σ H fun v H1 => SortEnd K enc κ σ Q [v] H1
theorem pe_sortK {δ : Type} {enc : δ → PyData} {κ : L2.St → Hp → V × δ → Prop} {j : Nat} {e : Expr} {te : TE} {params : Arguments} {body : Expr} {scope : Scope} {a : Str} {c Pt : Addr} {p lpos pos kp : Pos} (he : PE X e te) (hr : Room j X.A)
    (hg : Gl X "sorted") (hm : X.mg "sorted" = none) (TB : LamX.TabB X.base X.mg c Pt) (hcode : X.env.code = .ref c) (hmT : (Pt, X.env.qual ++ "<lambda>") ∈ tabT X.K) (hu : ∀ p ∈ tabT X.K, p.1 = Pt → p.2 = X.env.qual ++ "<lambda>")
    (hdef : defaultsOf params X.env = ([], [])) (hfree : ∀ y ∈ scope.names, y.2 = .free → X.env.scope.names.lookup y.1 = some .cell ∨ X.env.scope.names.lookup y.1 = some .free)
    (hb : ∀ (q : Str) (cl : List (Str × Addr)) (pm cv ctv v : Value), bindArgs (kla_fn "<lambda>" q params body scope cl pm cv ctv) ⟨[v], []⟩ = pure [(a, v)]) (sk : scope.kind = .function) (s1 : scope.isCoroutine = false) (s2 : scope.isGenerator = false)
    (s3 : ∀ x ∈ scope.names, x.2 ≠ .cell) (s4 : scope.names.lookup a = some .local)
    (hbody : ∀ (pins : List (Addr × Obj)) (σ : L2.St) (s : Shared) (H : Hp), Inv X pins σ H s → ∀ (b : V × δ) (v : Value), RelV b.1 v → κ σ H b → ∀ f c', LamKey X s scope body a v (enc b.2) f c')
    (hs : starEach [e] X.env = (false, eval e X.env) :: starEach [] X.env := by rfl) (hpl : (backTo pos (starEach [e] X.env)).any (·.1) = false := by rfl)
    (he2 : backTo pos (starEach [e] X.env) = (false, eval e X.env) :: backTo pos (starEach [] X.env) := by rfl) :
    PE X (.Call (.Name "sorted" p) [e] [⟨some "key", .Lambda params body scope lpos, kp⟩] pos) (tSortK X.K enc κ te) := by
  refine ⟨fun pins s σ H Q I h => ?_⟩
  have hv : bootBuiltins "sorted" = some (.builtin "sorted") := by decide +kernel
  refine wpAny_Call_Name_kw (ld_blt I hg hm hv ?_ (by decide) (by decide))
  refine PyProof.Rows.callWith_kw (thn ((pa_cons he pa_nil hs).run pos pins s σ H (SortEnd X.K enc κ σ Q) I h) fun us sa ⟨vs, H1, I1, r1, q1⟩ => ?_) he2 hpl (by rfl) (by rfl)
  obtain ⟨hT, al, bs, rfl, hsq, hal, hso, hdp, hκ, q⟩ := q1
  obtain rfl := Vals.ref1 r1
  refine wpAny_evalAll_cons (wpAny_bind (LamX.lam_make2 I1 TB hcode hmT hu hT hdef (fun y hy e => I1.ok.has _ (hfree y hy e)) fun f c' pm ctv H2 s' I2 eN T2 hf hfn hfr hco => wpAny_bind (wpAny_standAt (wpAny_pure (wpAny_evalAll_nil ?_)))))
  have up : Up X.K [] H1 H2 := Up.lam eN T2
  obtain ⟨its, rv, hl, hz⟩ := I2.list (up.sqL hsq)
  have e1 : EachIs (fun v (b : V × δ) => RelV b.1 v) its bs := each_of rv fun b _ u r => r
  rw [List.length_map] at hz
  have hun := hr.units
  refine sorted_key_data (k := fun b => enc b.2) hl.isList e1 hal hso hz (fun b hb => by have := hdp b hb; omega) (PyProof.Rows.ksk_s1 _ _) (fun _ => PyProof.Rows.ksk_l1 _ _) (fun _ => PyProof.Rows.ksk_t1 _ _)
    (fun v x hR hx h tk kp => lam_turn I2 hr hf hco (hb _ _ _ _ _ _) sk s1 s2 s3 s4 (hbody pins σ s' H2 I2 x v hR (hκ H2 up x hx) f c') h tk kp) fun out cc h' tk k' fr hD hlen eo => ?_
  have rv' := vals_of eo
  have hlen' : ((bs.mergeSort (dataLe false fun b => enc b.2)).map (·.1)).length ≤ sizeLine := by
    rw [List.length_map, List.length_mergeSort]
    exact hz
  exact ⟨.ref _, upd H2 (s'.heap.objs.size + 1) (.lst ((bs.mergeSort (dataLe false fun b => enc b.2)).map (·.1))), I2.laid (t' := tk) k' (Nat.le_succ _) ⟨hlen', out, cc, rv', hD⟩, rfl, q H2 _ up (I2.hok.fresh (Nat.le_succ _))⟩
end
end K48

namespace K48
open PySem PySem.Spec PyProof.Rows L2 ClX PySem.W
variable {g : GX}
/-! ### runs.py: the two sorts -/
section
variable {X : Cx} {pins : List (Addr × Obj)} {σ : L2.St} {H : Hp} {s : Shared}
theorem RE.mono {P : Program} {w : World} {A : Around} {env : Env} {h0 : Heap} {e : Expr} {φ φ' : Value → Heap → Prop} (h : RE P w A env h0 e φ) (hq : ∀ u h', KH h0 h' → φ u h' → φ' u h') : RE P w A env h0 e φ' := fun s h1 tk kp =>
  thn (h s h1 tk kp) fun _ _ ⟨h3, tk1, q1, q2, q3⟩ => ⟨h3, tk1, q1, q2, hq _ _ (fun b o q => q2 b o (kp b o q)) q3⟩
theorem reads_two {h : Heap} {a : Addr} {i j : Int} {t u : Tok} (x : IsTup h a [Value.int i t, .int j u].toArray) : Reads h (.ref a) (.tuple [.int i, .int j]) [] := by
  obtain ⟨o, e, c, n, d⟩ := x
  exact Reads.tuple e c d (ReadsAll.cons (Reads.int _ _) (ReadsAll.cons (Reads.int _ _) ReadsAll.nil))
theorem reads_three {h : Heap} {a : Addr} {i j k : Int} {t u r : Tok} (x : IsTup h a [Value.int i t, .int j u, .int k r].toArray) : Reads h (.ref a) (.tuple [.int i, .int j, .int k]) [] := by
  obtain ⟨o, e, c, n, d⟩ := x
  exact Reads.tuple e c d (ReadsAll.cons (Reads.int _ _) (ReadsAll.cons (Reads.int _ _) (ReadsAll.cons (Reads.int _ _) ReadsAll.nil)))
theorem pl_at {a : Addr} {p : Place} (I : Inv X pins σ H s) (h : H a = some (.tup [.int p.1, .int p.2])) : ∃ t u, IsTup s.heap a [Value.int p.1 t, .int p.2 u].toArray := by
  obtain ⟨_, its, rv, x⟩ := (show ObjOk X.prog X.w H s.heap a (.tup [.int p.1, .int p.2]) from I.hok a _ h)
  obtain ⟨u1, u2, rfl, ⟨t, rfl⟩, ⟨u, rfl⟩⟩ := vals2 rv
  exact ⟨t, u, x⟩
section
variable {P : Program} {w : World} {A : Around} {env : Env} {h0 : Heap} {e : Expr} {a : Addr} {i j : Int} {t u : Tok} {k1 k2 x1 : Nat} {p1 p2 p3 p4 p5 p6 : Pos}
/-- (e[0], -e[1]) -/
theorem re_back {e2 : Expr} (he : RE P w A env h0 e fun u _ => u = .ref a) (he2 : RE P w A env h0 e2 fun u _ => u = .ref a) (ha : IsTup h0 a [Value.int i t, .int j u].toArray) :
    RE P w A env h0 (.Tuple [.Subscript e (.Constant (.int 0) k1 p1) p2, .UnaryOp .USub (.Subscript e2 (.Constant (.int 1) k2 p3) p4) p5] x1 p6) fun u h' => Reads h' u (.tuple [.int i, .int (-j)]) [] := by
  refine re_tup (re_cons (re_ix (i := 0) he ha rfl (by show 2 ≤ 9; decide)) (re_cons (re_neg fun s h tk kp => thn (re_ix (i := 1) he2 ha rfl (by show 2 ≤ 9; decide) s h tk kp) fun r s1 ⟨h1, tk1, q1, q2, q3⟩ => ⟨h1, tk1, q1, q2, _, q3⟩) re_nil)) (fun us q => ?_) fun us h' b q x => ?_
  · obtain ⟨_, _, rfl, _, _, _, rfl, _, rfl⟩ := q
    show 2 ≤ 9
    decide
  · obtain ⟨_, _, rfl, rfl, _, _, rfl, ⟨_, rfl⟩, rfl⟩ := q
    exact reads_two x
end
/-- (e[0], f[e], e[1]) -/
theorem re_part {P : Program} {w : World} {A : Around} {env : Env} {h0 : Heap} {e f e2 e3 : Expr} {a : Addr} {i j k : Int} {t u : Tok} {k1 k2 x1 : Nat} {p1 p2 p3 p4 p5 p6 : Pos}
    (he : RE P w A env h0 e fun u _ => u = .ref a) (hf : RE P w A env h0 (.Subscript f e2 p5) fun u _ => ∃ t, u = .int k t) (he3 : RE P w A env h0 e3 fun u _ => u = .ref a) (ha : IsTup h0 a [Value.int i t, .int j u].toArray) :
    RE P w A env h0 (.Tuple [.Subscript e (.Constant (.int 0) k1 p1) p2, .Subscript f e2 p5, .Subscript e3 (.Constant (.int 1) k2 p3) p4] x1 p6) fun u h' => Reads h' u (.tuple [.int i, .int k, .int j]) [] := by
  refine re_tup (re_cons (re_ix (i := 0) he ha rfl (by show 2 ≤ 9; decide)) (re_cons hf (re_cons (re_ix (i := 1) he3 ha rfl (by show 2 ≤ 9; decide)) re_nil))) (fun us q => ?_) fun us h' b q x => ?_
  · obtain ⟨_, _, rfl, _, _, _, rfl, _, _, _, rfl, _, rfl⟩ := q
    show 3 ≤ 9
    decide
  · obtain ⟨_, _, rfl, rfl, _, _, rfl, ⟨_, rfl⟩, _, _, rfl, rfl, rfl⟩ := q
    exact reads_three x
/-- a captured name -/
theorem cell_at {i : Nat} {x : Str} {v : V} (I : Inv X pins σ H s) (hN : X.N[i]? = some x) (hσ : σ[i]? = some (some v)) (hc : X.env.scope.names.lookup x = some .cell) : ∃ u c, RelV v u ∧ X.env.cells.lookup x = some c ∧ s.heap.IsCell c (some u) := by
  obtain ⟨m, _, hl⟩ := I.loc
  obtain ⟨u, r, q⟩ := hl i x v hN hσ (.inr (.inl hc))
  rcases q with ⟨k, _⟩ | ⟨_, c, e1, e2⟩
  · have k' : X.env.scope.names.lookup x = some .local := k
    rw [hc] at k'
    cases k'
  · exact ⟨u, c, r, e1, e2⟩
end
theorem clo_two {cells : List (Str × Addr)} {a x : Str} {c : Addr} (h : cells.lookup x = some c) : (cloFrom cells [(a, .local), (x, .free)] []).lookup x = some c := by simp [cloFrom, h]
def upS (up : Bool) : Str := if up then "up" else "down"
def midS : Mid → Str
  | .number => "number"
  | .back => "back"
  | .part => "part"
/-- the values and what they mean, one list -/
theorem pls_zip {H : Hp} : ∀ {xs : List V} {ps : List Place}, Pls H xs ps → ∃ bs : List (V × Place), bs.map (·.1) = xs ∧ bs.map (·.2) = ps ∧ ∀ b ∈ bs, PlV H b.1 b.2
  | _, _, .nil => ⟨[], rfl, rfl, fun b h => by cases h⟩
  | _, _, .cons (a := x) (b := p) r t => by
    obtain ⟨bs, h1, h2, h3⟩ := pls_zip t
    refine ⟨(x, p) :: bs, by rw [List.map_cons, h1], by rw [List.map_cons, h2], fun b hb => ?_⟩
    rcases List.mem_cons.mp hb with rfl | hb
    · exact r
    · exact h3 b hb
theorem pls_of {δ : Type} {H : Hp} (f : δ → Place) : ∀ {bs : List (V × δ)}, (∀ b ∈ bs, PlV H b.1 (f b.2)) → Pls H (bs.map (·.1)) ((bs.map (·.2)).map f)
  | [], _ => .nil
  | b :: bs, h => .cons (h b List.mem_cons_self) (pls_of f fun c hc => h c (List.mem_cons_of_mem _ hc))
theorem map_sort {δ : Type} {κ : δ → List Int} (bs : List (V × δ)) : (bs.mergeSort (dataLe false fun b => .tuple ((κ b.2).map .int))).map (·.2) = (bs.map (·.2)).mergeSort (leK κ) := by
  rw [dataLe_tup (κ := fun b : V × δ => κ b.2)]
  exact List.map_mergeSort fun _ _ _ _ => rfl
def spInner (K : PySem.W.Frag) : Sp := fun vs H Q _ => ∃ (up : Bool) (a : Addr) (xs : List V) (ps : List Place), vs = [.str (upS up), .ref a] ∧ SqL K H a xs ∧ Pls H xs ps ∧ LamX.Tabs (tabT K) H ∧
  Ret K [] H (fun v H' => ∃ p ys, v = .ref p ∧ Fr H p ∧ H' p = some (.lst ys) ∧ Pls H' ys (sti up ps)) Q
theorem sti_leK {up : Bool} {ps : List Place} : sti up ps = ps.mergeSort (leK (inKey up)) := rfl
theorem c_inner_sorted (T : Tx g) : Cal g 1 "inner_sorted" (spInner g.K) := by
  obtain ⟨fd, F⟩ := T.fun_ in_inner_sorted
  refine ⟨_, fd, p_inner_sorted, def_okC (p := ("inner_sorted", none)) F sc_inner_sorted (fun vs H Q E h => ?_) (fun A outer s H vs Q E hr h => ?_), g_inner_sorted T, F.kp, F.bindsN fun _ _ _ _ _ _ us hl => match us, hl with | [_, _], _ => rfl⟩
  · obtain ⟨_, _, _, _, rfl, _⟩ := h
    rfl
  · obtain ⟨up, a, xs, ps, rfl, hs, hp, ht, q⟩ := h
    refine ⟨_, pss_one (ps_ret (pe_sortK (δ := Place) (a := "place") (enc := fun p => .tuple ((inKey up p).map .int)) (κ := fun σ H b => σ[0]? = some (some (.str (upS up))) ∧ PlV H b.1 b.2) (pv 1) hr rfl (f_sorted T) T.tab1 rfl List.mem_cons_self
      (fun p hp e => ?_) rfl (fun y hy e => ?_) (fun _ _ _ _ _ _ => rfl) rfl rfl rfl (by decide +kernel) (by decide +kernel) (fun pins σ s H I b v r hκ f c' L h1 k1 hn => ?_))), ?_⟩
    · rcases List.mem_cons.mp hp with rfl | hp
      · rfl
      · rw [List.mem_singleton] at hp
        subst hp
        exact absurd e.symm T.tne
    · refine Or.inl ?_
      rcases List.mem_cons.mp hy with rfl | hy
      · exact absurd e (by decide)
      · rw [List.mem_singleton] at hy
        subst hy
        rfl
    · obtain ⟨h0, a, e1, ha⟩ := hκ
      rw [e1] at r
      obtain rfl : v = Value.ref a := r
      obtain ⟨u, c, ru, hc, hv⟩ := cell_at (x := "inner") I rfl h0 rfl
      obtain ⟨t1, rfl⟩ := ru
      obtain ⟨t, u, tp⟩ := pl_at I ha
      refine re_if (yes := up) (re_free (c := c) rfl rfl (clo_two (a := "place") hc) (KH.cell k1 hv)) (by cases up <;> decide +kernel) (fun e => ?_) (fun e => ?_)
      · subst e
        refine RE.mono (re_local (v := .ref a) rfl rfl hn rfl) fun u h' k e => ?_
        rw [e]
        exact reads_two (KH.tup (fun b o q => k b o (k1 b o q)) tp)
      · subst e
        exact re_back (re_local (v := .ref a) rfl rfl hn rfl) (re_local (v := .ref a) rfl rfl hn rfl) (KH.tup k1 tp)
    · obtain ⟨bs, e1, e2, hb⟩ := pls_zip hp
      refine ⟨_, rfl, ht, a, bs, rfl, by rw [e1]; exact hs, alike_tup (κ := fun b : V × Place => inKey up b.2), sortable_tup (κ := fun b : V × Place => inKey up b.2) (fun b => by unfold inKey; split <;> simp), fun b _ => depth_tup _, fun H2 u b hb2 => ⟨rfl, u.ts.pl (hb b hb2)⟩, fun H2 p u hp2 => ?_⟩
      refine q _ _ (u.trans (Up.new hp2)) ⟨p, _, rfl, u.fresh hp2, upd_same, ?_⟩
      rw [sti_leK, ← e2, ← map_sort (κ := inKey up)]
      have := pls_of (H := upd H2 p (HO.lst (List.map (fun x => x.fst) (bs.mergeSort (dataLe false fun b => PyData.tuple (List.map PyData.int (inKey up b.snd))))))) (fun x : Place => x) (bs := bs.mergeSort (dataLe false fun b => PyData.tuple (List.map PyData.int (inKey up b.snd)))) fun b hm =>
        (Up.ts (K := g.K) (ms := []) (Up.new hp2)).pl (u.ts.pl (hb b (List.mem_mergeSort.mp hm)))
      rw [List.map_id'] at this
      exact this
end K48

namespace K48
open PySem PySem.Spec PyProof.Rows L2 ClX PySem.W
variable {g : GX}
abbrev keyP (p : Place) : List L2.Key := [.inl p.1, .inl p.2]
abbrev kvP (x : Place × Nat) : List L2.Key × V := (keyP x.1, .int (x.2 : Int))
abbrev kvH (hd : List (Place × Nat)) : List (List L2.Key × V) := hd.map kvP
theorem keyP_inj {p q : Place} (h : keyP p = keyP q) : p = q := by
  injection h with h1 h2
  injection h2 with h2 _
  exact Prod.ext (Sum.inl.inj h1) (Sum.inl.inj h2)
theorem keys_zip {H : Hp} : ∀ {hd : List (Place × Nat)} {as : List Addr}, IsKeys H (kvH hd) as → ∃ bs : List (V × (Place × Nat)), bs.map (·.1) = as.map V.ref ∧ bs.map (·.2) = hd ∧ ∀ b ∈ bs, PlV H b.1 b.2.1
  | [], _, .nil => ⟨[], rfl, rfl, fun b h => by cases h⟩
  | x :: hd, _, .cons (b := a) r t => by
    obtain ⟨bs, h1, h2, h3⟩ := keys_zip t
    refine ⟨(.ref a, x) :: bs, by rw [List.map_cons, h1]; rfl, by rw [List.map_cons, h2], fun b hb => ?_⟩
    rcases List.mem_cons.mp hb with rfl | hb
    · exact ⟨a, rfl, r⟩
    · exact h3 b hb
theorem val_at : ∀ {hd : List (Place × Nat)} {x : Place × Nat}, (hd.map (·.1)).Nodup → x ∈ hd → valV (kvH hd) (keyP x.1) = some (.int (x.2 : Int))
  | [], _, _, h => by cases h
  | y :: hd, x, nd, h => by
    rw [List.map_cons, List.nodup_cons] at nd
    show valV (kvP y :: kvH hd) _ = _
    unfold valV
    rw [List.find?_cons]
    rcases List.mem_cons.mp h with rfl | h
    · simp
    · have ne : y.1 ≠ x.1 := fun e => nd.1 (by rw [e]; exact List.mem_map.mpr ⟨x, h, rfl⟩)
      have ne2 : (kvP y).1 ≠ keyP x.1 := fun e => ne (keyP_inj e)
      have := val_at nd.2 h
      unfold valV at this
      simpa [ne2] using this
theorem dp_place {K : PySem.W.Frag} {H : Hp} {v : V} {p : Place} (h : PlV H v p) : Dp K H v (.tuple [.int p.1, .int p.2]) := by
  obtain ⟨a, rfl, ha⟩ := h
  exact .tup (.of ha) (.cons (.int _) (.cons (.int _) .nil))
def spMiddle (K : PySem.W.Frag) : Sp := fun vs H Q _ => ∃ (o : Mid) (d : Addr) (hd : List (Place × Nat)), vs = [.str (midS o), .ref d] ∧ H d = some (.dT (kvH hd)) ∧ (hd.map (·.1)).Nodup ∧ LamX.Tabs (tabT K) H ∧
  Ret K [] H (fun v H' => ∃ p ys, v = .ref p ∧ Fr H p ∧ H' p = some (.lst ys) ∧ Pls H' ys (sm o hd)) Q
theorem stm_leK {o : Mid} {hd : List (Place × Nat)} : stm o hd = hd.mergeSort (leK o.key) := rfl
theorem mid_end {K : PySem.W.Frag} {o : Mid} {hd : List (Place × Nat)} {H H2 : Hp} {Q : VK} {p : Addr} {bs : List (V × (Place × Nat))} (e2 : bs.map (·.2) = hd) (hb : ∀ b ∈ bs, PlV H2 b.1 b.2.1) (u : Up K [] H H2) (hp : H2 p = none)
    (q : Ret K [] H (fun v H' => ∃ p ys, v = .ref p ∧ Fr H p ∧ H' p = some (.lst ys) ∧ Pls H' ys (sm o hd)) Q) : Q (.ref p) (upd H2 p (.lst ((bs.mergeSort (dataLe false fun b => .tuple ((o.key b.2).map .int))).map (·.1)))) := by
  refine q _ _ (u.trans (Up.new hp)) ⟨p, _, rfl, u.fresh hp, upd_same, ?_⟩
  unfold sm
  rw [stm_leK, ← e2, ← map_sort (κ := o.key)]
  exact pls_of (fun x : Place × Nat => x.1) fun b hm => (Up.ts (K := K) (ms := []) (Up.new hp)).pl (hb b (List.mem_mergeSort.mp hm))
theorem c_middle_sorted (T : Tx g) : Cal g 1 "middle_sorted" (spMiddle g.K) := by
  obtain ⟨fd, F⟩ := T.fun_ in_middle_sorted
  refine ⟨_, fd, p_middle_sorted, def_okC (p := ("middle_sorted", none)) F sc_middle_sorted (fun vs H Q E h => ?_) (fun A outer s H vs Q E hr h => ?_), g_middle_sorted T, F.kp, F.bindsN fun _ _ _ _ _ _ us hl => match us, hl with | [_, _], _ => rfl⟩
  · obtain ⟨_, _, _, rfl, _⟩ := h
    rfl
  · obtain ⟨o, d, hd, rfl, hh, nd, ht, q⟩ := h
    have hu := hr.units
    refine ⟨_, pss_cons (ps_if (pt_cmpR op_eq (pv 0) pe_str (nomark _)) (pss_one (ps_ret (pe_callB (call_sortD (δ := Place × Nat) (enc := fun x => .tuple ((Mid.key .number x).map .int)) hu) (by rfl) (f_sorted T) (by decide +kernel)
        (pa_cons (pe_callTy (call_list_dT rfl) (by rfl) (f_list T) boot_list (pa_cons (pv 1) pa_nil)) pa_nil)))) pss_nil)
      (pss_cons (ps_if (pt_cmpR op_eq (pv 0) pe_str (nomark _)) (pss_one (ps_ret (pe_sortK (δ := Place × Nat) (a := "place") (enc := fun x => .tuple ((Mid.key .back x).map .int)) (κ := fun σ H b => PlV H b.1 b.2.1)
        (pe_callTy (call_list_dT rfl) (by rfl) (f_list T) boot_list (pa_cons (pv 1) pa_nil)) hr rfl (f_sorted T) T.tab2 rfl (List.mem_cons_of_mem _ List.mem_cons_self)
        (fun p hp e => ?_) rfl (fun y hy e => ?_) (fun _ _ _ _ _ _ => rfl) rfl rfl rfl (by decide +kernel) (by decide +kernel) (fun pins σ s H I b v r hκ f c' L h1 k1 hn => ?_)))) pss_nil)
      (pss_one (ps_ret (pe_sortK (δ := Place × Nat) (a := "one") (enc := fun x => .tuple ((Mid.key .part x).map .int)) (κ := fun σ H b => PlV H b.1 b.2.1 ∧ σ[1]? = some (some (.ref d)) ∧ H d = some (.dT (kvH hd)) ∧ b.2 ∈ hd)
        (pe_callTy (call_list_dT rfl) (by rfl) (f_list T) boot_list (pa_cons (pv 1) pa_nil)) hr rfl (f_sorted T) T.tab2 rfl (List.mem_cons_of_mem _ List.mem_cons_self)
        (fun p hp e => ?_) rfl (fun y hy e => ?_) (fun _ _ _ _ _ _ => rfl) rfl rfl rfl (by decide +kernel) (by decide +kernel) (fun pins σ s H I b v r hκ f c' L h1 k1 hn => ?_))))), ?_⟩
    · rcases List.mem_cons.mp hp with rfl | hp
      · exact absurd e T.tne
      · rw [List.mem_singleton] at hp
        subst hp
        rfl
    · rw [List.mem_singleton] at hy
      subst hy
      exact absurd e (by decide)
    · obtain ⟨a, e1, ha⟩ := hκ
      rw [e1] at r
      obtain rfl : v = Value.ref a := r
      obtain ⟨t, u, tp⟩ := pl_at I ha
      exact re_back (re_local (v := .ref a) rfl rfl hn rfl) (re_local (v := .ref a) rfl rfl hn rfl) (KH.tup k1 tp)
    · rcases List.mem_cons.mp hp with rfl | hp
      · exact absurd e T.tne
      · rw [List.mem_singleton] at hp
        subst hp
        rfl
    · refine Or.inl ?_
      rcases List.mem_cons.mp hy with rfl | hy
      · exact absurd e (by decide)
      · rw [List.mem_singleton] at hy
        subst hy
        rfl
    · obtain ⟨⟨a, e1, ha⟩, h0, hh, hm⟩ := hκ
      rw [e1] at r
      obtain rfl : v = Value.ref a := r
      obtain ⟨t, u, tp⟩ := pl_at I ha
      obtain ⟨u2, c, ru, hc, hv⟩ := cell_at (x := "hand") I rfl h0 rfl
      obtain rfl : u2 = Value.ref d := ru
      refine re_part (re_local (v := .ref a) rfl rfl hn rfl) (re_get (ks := keyP b.2.1) (by show A.units + 3 + 1 + 1 + 3 + 1 < cLine; have hu2 : A.units + 3 + 64 < cLine := hu; omega) (re_free (c := c) rfl rfl (clo_two (a := "one") hc) (KH.cell k1 hv)) (re_local (v := .ref a) rfl rfl hn rfl) (fun h kp => ?_) (fun _ _ => rfl)) (re_local (v := .ref a) rfl rfl hn rfl) (KH.tup k1 tp)
      have ok := I.hok.kept (fun b o e => kp b o (k1 b o e))
      obtain ⟨z, hs, xs, rel, dd⟩ := dt_of ok hh
      obtain ⟨w', hw, rw'⟩ := RelO.some_of (v := .int (b.2.2 : Int)) (o := (atKey xs (keyP b.2.1)).map (·.2)) (by rw [← val_at nd hm]; exact rel.val _)
      obtain ⟨p, hp, hp2⟩ := Option.map_eq_some_iff.mp hw
      exact ⟨xs, p, dd, key_of ok ha, hp, by rw [hp2]; exact rw'⟩
    · have sort : ∀ (o2 : Mid) (b : Place × Nat), o2.key b ≠ [] := fun o2 b => by cases o2 <;> simp [Mid.key]
      refine ⟨_, rfl, rfl, _, rfl, ?_⟩
      rw [deq_str]
      cases o with
      | number =>
        rw [decide_eq_true (show midS .number = "number" from rfl)]
        refine iteT ⟨_, rfl, d, _, rfl, .inl hh, fun p as hp ik => ?_⟩
        obtain ⟨bs, e1, e2, hb⟩ := keys_zip ik
        have u : Up g.K [] H (upd H p (.lst (as.map V.ref))) := Up.new hp
        have hb1 := fun b hm => u.ts.pl (hb b hm)
        exact ⟨p, bs, rfl, SqL.of (by rw [upd_same, e1]), fun b hm => dp_place (hb1 b hm), alike_tup (κ := fun b : V × (Place × Nat) => Mid.key .number b.2), sortable_tup (κ := fun b : V × (Place × Nat) => Mid.key .number b.2) (fun b => sort _ _), fun b _ => depth_tup _,
          fun p2 hp2 => mid_end (o := .number) e2 hb1 u hp2 q⟩
      | back =>
        rw [decide_eq_false (show ¬ midS .back = "number" by decide +kernel)]
        refine iteF ⟨_, rfl, rfl, _, rfl, ?_⟩
        rw [deq_str, decide_eq_true (show midS .back = "back" from rfl)]
        refine iteT ⟨_, rfl, d, _, rfl, .inl hh, fun p as hp ik => ?_⟩
        obtain ⟨bs, e1, e2, hb⟩ := keys_zip ik
        have u : Up g.K [] H (upd H p (.lst (as.map V.ref))) := Up.new hp
        have hb1 := fun b hm => u.ts.pl (hb b hm)
        exact ⟨u.tabs ht, p, bs, rfl, SqL.of (by rw [upd_same, e1]), alike_tup (κ := fun b : V × (Place × Nat) => Mid.key .back b.2), sortable_tup (κ := fun b : V × (Place × Nat) => Mid.key .back b.2) (fun b => sort _ _), fun b _ => depth_tup _,
          fun H2 u2 b hm => u2.ts.pl (hb1 b hm), fun H2 p2 u2 hp2 => mid_end (o := .back) e2 (fun b hm => u2.ts.pl (hb1 b hm)) (u.trans u2) hp2 q⟩
      | part =>
        rw [decide_eq_false (show ¬ midS .part = "number" by decide +kernel)]
        refine iteF ⟨_, rfl, rfl, _, rfl, ?_⟩
        rw [deq_str, decide_eq_false (show ¬ midS .part = "back" by decide +kernel)]
        refine iteF ⟨_, rfl, d, _, rfl, .inl hh, fun p as hp ik => ?_⟩
        obtain ⟨bs, e1, e2, hb⟩ := keys_zip ik
        have u : Up g.K [] H (upd H p (.lst (as.map V.ref))) := Up.new hp
        have hb1 := fun b hm => u.ts.pl (hb b hm)
        exact ⟨u.tabs ht, p, bs, rfl, SqL.of (by rw [upd_same, e1]), alike_tup (κ := fun b : V × (Place × Nat) => Mid.key .part b.2), sortable_tup (κ := fun b : V × (Place × Nat) => Mid.key .part b.2) (fun b => sort _ _), fun b _ => depth_tup _,
          fun H2 u2 b hm => ⟨u2.ts.pl (hb1 b hm), rfl, (u.trans u2).dT hh, by rw [← e2]; exact List.mem_map.mpr ⟨b, hm, rfl⟩⟩, fun H2 p2 u2 hp2 => mid_end (o := .part) e2 (fun b hm => u2.ts.pl (hb1 b hm)) (u.trans u2) hp2 q⟩
end K48

namespace K48
open PySem PySem.Spec PyProof.Rows L2 ClX PySem.W
/-! ### dicts with tuple keys: del, setdefault -/
section
variable {X : Cx} {pins : List (Addr × Obj)} {σ : L2.St} {H : Hp} {s : Shared} {a b : Addr} {kvs : List (List L2.Key × V)} {k : List L2.Key} {d : V} {r : Value} {A : Around} {E : Value → Shared → Prop}
theorem d_delT {Q : Unit → Shared → Prop} (hu : A.units + 1 < cLine) (I : Inv X pins σ H s) (e : H a = some (.dT kvs)) (eb : H b = some (.tup (k.map kV))) (l : (valV kvs k).isSome = true) (h : ∀ s', Inv X pins σ (upd H a (.dT (dropK kvs k))) s' → Q () s') :
    wpAny (model X.prog X.w) A (delItem (.ref a) (.ref b)) Q E s := by
  obtain ⟨z, hd, xs, rel, dd⟩ := dt_of I.hok e
  have hz : xs.length ≤ sizeLine := by rw [← Paired.length rel]; exact z
  obtain ⟨v, hv⟩ := Option.isSome_iff_exists.mp l
  obtain ⟨w', hw, rw'⟩ := RelO.some_of (v := v) (o := (atKey xs k).map (·.2)) (by rw [← hv]; exact rel.val k)
  obtain ⟨p, hp, hp2⟩ := Option.map_eq_some_iff.mp hw
  refine wpAny_delItem_heap (hsz := hz) (tupleKind_room_in1 hu) (key_of I.hok eb) hd dd hp fun h' dd' hs => h _ ?_
  obtain ⟨q, es, ep, hq, h2, h3, h4, _, h5⟩ := dd'
  refine d_write I (by rw [e]; exact True.intro) hs ⟨q, hq⟩ ⟨Nat.le_trans (dropK_le kvs k) z, hd, _, (L2.DX.KT_drop k rel).keeps fun c ys ec => ?_, q, es, ep, hq, h2, h3, h4, h5⟩
  rw [upd_ne (ne_of ec e (fun z => nomatch z))]
  exact ec
theorem d_setdT {Q : Value → Shared → Prop} (hu : A.units + 1 < cLine) (I : Inv X pins σ H s) (e : H a = some (.dT kvs)) (eb : H b = some (.tup (k.map kV))) (rd : RelV d r) (hl : kvs.length < sizeLine)
    (h1 : ∀ v, valV kvs k = some v → ∀ (w' : Value) (s' : Shared), Inv X pins σ H s' → RelV v w' → Q w' s') (h2 : valV kvs k = none → ∀ (w' : Value) (s' : Shared), Inv X pins σ (upd H a (.dT (putK kvs k d))) s' → RelV d w' → Q w' s') :
    wpAny (model X.prog X.w) A (call (.builtin "dict.setdefault") [.ref a, .ref b, r]) Q E s := by
  obtain ⟨z, hd, xs, rel, dd⟩ := dt_of I.hok e
  have hz : xs.length ≤ sizeLine := by rw [← Paired.length rel]; exact z
  refine call_setdefault_heap (hsz := hz) (tupleKind_room_in1 hu) (key_of I.hok eb) hd dd (fun p hp => ?_) fun hn h' dd' hs => ?_
  · have q := rel.val k
    rw [hp] at q
    cases q0 : valV kvs k with
    | none =>
      rw [q0] at q
      exact (show False from q).elim
    | some v0 =>
      rw [q0] at q
      exact h1 v0 q0 _ _ (I.tok _) q
  · have q := rel.val k
    rw [hn] at q
    cases q0 : valV kvs k with
    | some v0 =>
      rw [q0] at q
      exact (show False from q).elim
    | none =>
      have hl2 : (putK kvs k d).length ≤ sizeLine := by
        have := length_putK kvs k d
        omega
      obtain ⟨q, es, ep, hq, h3, h4, h5, _, h6⟩ := dd'
      refine h2 q0 _ _ (d_write I (by rw [e]; exact True.intro) hs ⟨q, hq⟩ ⟨hl2, hd, _, (rel.put k eb rd).keeps fun c ys ec => ?_, q, es, ep, hq, h3, h4, h5, h6⟩) rd
      rw [upd_ne (ne_of ec e (fun z => nomatch z))]
      exact ec
end
def sDelT (td ty : TE) : TS := fun D σ H => td σ H fun x H1 => ty σ H1 fun y H2 => ∃ (a b : Addr) (kvs : List (List L2.Key × V)) (k : List L2.Key), x = .ref a ∧ y = .ref b ∧ H2 a = some (.dT kvs) ∧ H2 b = some (.tup (k.map kV)) ∧ (valV kvs k).isSome = true ∧ D.nx σ (upd H2 a (.dT (dropK kvs k)))
def tSetdT (td ty tx : TE) : TE := fun σ H Q => td σ H fun x H1 => ∃ a, x = .ref a ∧ IsD H1 a ∧ ty σ H1 fun y H2 => tx σ H2 fun z H3 => ∃ (b : Addr) (kvs : List (List L2.Key × V)) (k : List L2.Key), y = .ref b ∧ H3 a = some (.dT kvs) ∧ H3 b = some (.tup (k.map kV)) ∧ kvs.length < sizeLine ∧
  (∀ v, valV kvs k = some v → Q v H3) ∧ (valV kvs k = none → Q z (upd H3 a (.dT (putK kvs k z))))
section
variable {X : Cx} {o i e f : Expr} {td ty tx : TE} {apos cpos tpos pos : Pos}
theorem ps_delT (hu : X.A.units + 1 < cLine) (ho : PE X o td) (hi : PE X i ty) : PS X (.Delete [.Subscript o i tpos] pos) (sDelT td ty) := by
  refine ⟨fun pins s σ H D I h => ?_⟩
  refine wpAny_Delete (wpAny_deleteEach_cons (wpAny_delete_Subscript (thn (ho.run pins s σ H _ I h) fun u s1 ⟨x, H1, I1, rx, q1⟩ => thn (hi.run pins s1 σ H1 _ I1 q1) fun iv s2 ⟨y, H2, I2, ry, a, b, kvs, k, ex, ey, e, eb, l, q2⟩ => ?_)))
  subst ex ey
  obtain rfl : u = Value.ref a := rx
  obtain rfl : iv = Value.ref b := ry
  exact d_delT hu I2 e eb l fun s3 I3 => wpAny_deleteEach_nil ⟨σ, _, I3, q2⟩
theorem pe_setdT (hu : X.A.units + 1 < cLine) (ho : PE X o td) (he : PE X e ty) (hf : PE X f tx) (m : M2 X o "setdefault" apos e f cpos) : PE X (.Call (.Attribute o "setdefault" apos) [e, f] [] cpos) (tSetdT td ty tx) := by
  refine ⟨fun pins s σ H Q I h => ?_⟩
  refine wpAny_Call_method m.base m.few m.line PySem.F.plainAttrs_dict PySem.F.slot_dict_setdefault PySem.F.type_dict_setdefault (thn (ho.run pins s σ H _ I h) fun u s1 ⟨x, H1, I1, rx, a, ex, d, q1⟩ => ?_)
  subst ex
  obtain rfl : u = Value.ref a := rx
  obtain ⟨t1, t2, _⟩ := isD_at I1 d
  refine ⟨t1, t2, ?_⟩
  rw [m.trees]
  refine Calls.callWith_builtin rfl (Calls.evalArgs_plain (Calls.spliced_cons (thn (he.run pins s1 σ H1 _ I1 q1) fun iv s2 ⟨y, H2, I2, ry, q2⟩ =>
    Calls.spliced_cons (thn (hf.run pins s2 σ H2 _ I2 q2) fun fv s3 ⟨z, H3, I3, rz, b, kvs, k, ey, ea, eb, hl, q3, q4⟩ => Calls.spliced_nil ?_))))
  subst ey
  obtain rfl : iv = Value.ref b := ry
  exact d_setdT hu I3 ea eb rz hl (fun v hv w' s4 I4 rw' => ⟨v, _, I4, rw', q3 v hv⟩) fun hn w' s4 I4 rw' => ⟨z, _, I4, rw', q4 hn⟩
end
end K48

namespace K48
open PySem PySem.Spec PyProof.Rows L2 ClX PySem.W
/-! ### a property is set -/
structure PropSet (K : PySem.W.Frag) (C : Addr) (f : Str) (p g : Addr) : Prop where
  tk : PySem.W.takerIn K C f = some (some (.ref p))
  ty : PySem.W.typeIn K (.ref p) = some (.type "property")
  rec_ : ∃ a rest, PySem.W.recIn K p "property" = some (a :: .ref g :: rest)
def sProp (C : Addr) (sp : Sp) (E : XK) (ta tv : TE) : L2.TS := fun D σ H => tv σ H fun y H1 => ta σ H1 fun x H2 => ∃ a dx fs, x = .ref a ∧ H2 a = some (.ins C dx fs) ∧ sp [.ref a, y] H2 (fun _ H3 => D.nx σ H3) E
section
variable {X : Cx} {CX : CXT} {k : Nat} {C p g a dx : Addr} {fs : List (Str × V)} {f : Str} {fd : FuncData} {ps : List Str} {sp : Sp} {E : XK} {o value : Expr} {pos pos' : Pos} {ta tv : TE}
theorem setprop_ok {pins : List (Addr × Obj)} {σ : L2.St} {H : Hp} {s : Shared} {Q : Hp → Prop} {R : Unit → Shared → Prop} {y : V} {u : Value} (I : Inv X pins σ H s) (ea : H a = some (.ins C dx fs)) (c : Cls X.K C) (hp : PropSet X.K C f p g) (ry : RelV y u)
    (F : FnOk X.prog X.w X.K X.mg X.base CX k g fd ps sp) (hr : Room (k + 2) X.A) (hb : Binds X.K fd ps []) (hx : Passes CX X E) (h : sp [.ref a, y] H (fun _ H3 => Q H3) E) (hQ : ∀ H' s', Inv X pins σ H' s' → Q H' → R () s') :
    wpAny (model X.prog X.w) X.A (setAttr (.ref a) f u) R X.xe s := by
  obtain ⟨mA, O, _, _, _, _⟩ := ins_get I.hok ea
  obtain ⟨od, J, _⟩ := O.look
  obtain ⟨a0, rest, hrec⟩ := hp.rec_
  have I1 := I.tok (s.toks + 1)
  have hl : ([Value.ref a, u] ++ []).length = ps.length := by
    rw [← F.len _ _ _ _ h]
    rfl
  refine set_plain I.kIn J c.sa (osa_descr (s := { s with toks := s.toks + 1 }) KF.slot_pset I.kIn J c.po hp.tk hp.ty (prop_set (s := { s with toks := s.toks + 1 }) I.kIn hrec ?_))
  have hr2 : Room k X.A.in1.in1 := (hr.in1 (k := k + 1)).in1
  refine codeAny_mono (F.run X.A.in1.in1 X.stack { s with toks := s.toks + 1 } H ⟨[.ref a, u], []⟩ ([.ref a, u] ++ []) [.ref a, y] (fun _ H3 => Q H3) E hr2 I1.env0.in1.in1 (hb _ [.ref a, u] I1.kIn hl) (.cons rfl (.cons ry .nil)) h) fun r s' hq => ?_
  cases r with
  | error er => exact hx pins σ H { s with toks := s.toks + 1 } er s' I1 hq
  | ok fl =>
    cases fl with
    | ret w =>
      obtain ⟨v, H', I3, rv, q3⟩ := I1.after hq
      exact hQ H' s' I3 q3
    | next => exact False.elim hq
    | brk => exact False.elim hq
    | cont => exact False.elim hq
theorem ps_setprop (ha : PE X o ta) (hv : PE X value tv) (c : Cls X.K C) (hp : PropSet X.K C f p g) (F : FnOk X.prog X.w X.K X.mg X.base CX k g fd ps sp) (hr : Room (k + 2) X.A) (hb : Binds X.K fd ps []) (hx : Passes CX X E)
    (hs : swapsWith value (some (.Attribute o f pos')) pos.line X.env = pure false := by rfl) : PS X (.Assign [.Attribute o f pos'] value pos) (sProp C sp E ta tv) := by
  refine ⟨fun pins s σ H D I h => ?_⟩
  refine plainObj_wpAny_Assign_Attribute (thn (hv.run pins s σ H _ I h) fun u s1 ⟨y, H1, I1, ry, q⟩ => thn (ha.run pins s1 σ H1 _ I1 q) fun ov s2 ⟨x, H2, I2, rx, a, dx, fs, ex, ea, q2⟩ => ?_) hs
  subst ex
  obtain rfl : ov = Value.ref a := rx
  exact setprop_ok (Q := fun H3 => D.nx σ H3) I2 ea c hp ry F hr hb hx q2 fun H' s' I3 q3 => ⟨σ, H', I3, q3⟩
end
theorem propSet_of {K : PySem.W.Frag} {C : Addr} {f : Str} {p g : Addr} (h1 : PySem.W.findIn K (.ref C) f = some (some (.ref p))) (h2 : PySem.W.takesIn K (.ref p) = some true) (h3 : PySem.W.typeIn K (.ref p) = some (.type "property"))
    (h4 : ∃ l, PySem.W.recIn K p "property" = some l ∧ l[1]? = some (.ref g)) : PropSet K C f p g := by
  refine ⟨?_, h3, ?_⟩
  · unfold PySem.W.takerIn
    rw [h1]
    show (PySem.W.takesIn K (.ref p)).map _ = _
    rw [h2]
    rfl
  · obtain ⟨l, e1, e2⟩ := h4
    match l, e2 with
    | a :: b :: rest, e2 =>
      obtain rfl : b = Value.ref g := Option.some.inj e2
      exact ⟨a, rest, e1⟩
theorem propOf_of {K : PySem.W.Frag} {C : Addr} {f : Str} {p g : Addr} (h1 : PySem.W.findIn K (.ref C) f = some (some (.ref p))) (hg : PySem.W.specialIn K (.ref p) "__get__" = some (some (.builtin "property.__get__"))) (h2 : PySem.W.takesIn K (.ref p) = some true)
    (h4 : ∃ l, PySem.W.recIn K p "property" = some l ∧ l[0]? = some (.ref g)) : PropOf K C f p g := by
  obtain ⟨l, e1, e2⟩ := h4
  match l, e2 with
  | a :: rest, e2 =>
    obtain rfl : a = Value.ref g := Option.some.inj e2
    exact ⟨h1, hg, h2, rest, e1⟩
end K48

namespace K48
open PySem PySem.Spec PyProof.Rows L2 ClX PySem.W
/-! ### sets of tuples: set(), add, in -/
section
variable {P : Program} {w : World} {A : Around} {E : Value → Shared → Prop} {s : Shared} {a x : Addr} {L : List (Addr × List Int)} {es : Array (Int × Value)} {ep : Nat} {t : SetTable} {q : List Int}
/-- a stop on a hash's way -/
abbrev stopAt (t : SetTable) (hh : Int) (n : Nat) : SetTable.Probe := nth t.mask (runAt t.mask (SetTable.bits hh % (t.mask + 1)) (SetTable.bits hh)) n
theorem stop_clean (t : SetTable) (hh : Int) (n : Nat) : (stopAt t hh n).dummy = none := by
  have go : ∀ (j : Nat) (u : SetTable.Probe), u.dummy = none → (nth t.mask u j).dummy = none := by
    intro j
    induction j with
    | zero => exact fun u e => e
    | succ j step =>
      intro u e
      have e' : (adv t.mask u).dummy = none := by
        unfold adv
        split <;> exact e
      exact step _ e'
  exact go n _ rfl
theorem stop_more (t : SetTable) (hh : Int) (n d : Nat) : nth t.mask (stopAt t hh n) d = stopAt t hh (n + d) := (nth_add _ _ _ _).symm
/-- looked up, nothing being added -/
theorem look_from (R : SetTR P w s.heap a L es ep t) (isx : IsT P w s.heap q x) (room : A.units < cLine) {far : Nat} (f1 : far < 10 * SetTable.turns t.mask) (f2 : way t.mask (thash P w q) far ∉ t.place.toList)
    (f3 : ∀ n, n < far → way t.mask (thash P w q) n ∈ t.place.toList) {Q : SetFound → Shared → Prop} (yes : q ∈ L.map (·.2) → ∀ i, Q (.there (some i)) s) (no : q ∉ L.map (·.2) → ∀ j, Q (.free j false) s) (fuel : Nat) :
    ∀ (n : Nat) (st : Option SetTable.Probe), st.getD (t.probeStart (thash P w q)) = stopAt t (thash P w q) n → n ≤ far → far - n < fuel →
      (∀ (i : Nat) r, L[i]? = some r → r.2 = q → ∃ n', n ≤ n' ∧ n' < far ∧ t.place.toList[i]? = some (way t.mask (thash P w q) n')) → wpAny (model P w) A (setSearchFrom a (.ref x) (thash P w q) false fuel st) Q E s := by
  obtain ⟨ob, hob, hset, hdat⟩ := R.ob
  have hashed : ∀ (i : Nat) r, L[i]? = some r → (es[i]?.map (·.1)).getD 0 = thash P w r.2 := fun i r hr => by rw [R.entry hr]; rfl
  induction fuel with
  | zero => exact fun n st _ _ bad => absurd bad (Nat.not_lt_zero _)
  | succ fuel again =>
    intro n st hst hn hfu reach
    rw [setSearchFrom_succ]
    refine wpAny_bind (wpAny_setState_of hob hdat R.fits ?_)
    dsimp only
    refine wp_if_neg R.gw (wpAny_bind (wpAny_pure ?_))
    have place_at : ∀ d, (nth t.mask (stopAt t (thash P w q) n) d).j = way t.mask (thash P w q) (n + d) := fun d => congrArg SetTable.Probe.j (stop_more t _ n d)
    have last : n + (far - n) = far := by omega
    have got := go_spec t R.tab.ris R.tab.dm (fun i => (es[i]?.map (·.1)).getD 0) (thash P w q) (10 * SetTable.turns t.mask) (far - n) (stopAt t (thash P w q) n) (stop_clean _ _ _) (by omega) (fun d hd => by rw [place_at]; exact f3 _ (by omega)) (by rw [place_at, last]; exact f2)
    have missed : ∀ (i : Nat) r, L[i]? = some r → r.2 = q → ∀ (d : Nat), (∀ (k' i' : Nat), k' < d → t.place.toList[i']? = some (nth t.mask (stopAt t (thash P w q) n) k').j → (es[i']?.map (·.1)).getD 0 ≠ thash P w q) → ∃ n', n + d ≤ n' ∧ n' < far ∧ t.place.toList[i]? = some (way t.mask (thash P w q) n') := by
      intro i r hr hq d nope
      obtain ⟨n', a1, a2, a3⟩ := reach i r hr hq
      refine ⟨n', ?_, a2, a3⟩
      refine Nat.le_of_not_lt fun small => ?_
      have dd : n + (n' - n) = n' := by omega
      refine nope (n' - n) i (by omega) (by rw [place_at, dd]; exact a3) ?_
      rw [hashed i r hr, hq]
    rcases got with ⟨d, i, hd, hi, hh, nope, hgo⟩ | ⟨nope, hgo⟩
    · have hpr : t.probe (fun i => (es[i]?.map (·.1)).getD 0) (thash P w q) (st.getD (t.probeStart (thash P w q))) = some (.candidate (way t.mask (thash P w q) (n + d)) i (stopAt t (thash P w q) (n + (d + 1)))) := by
        rw [hst, ← place_at, ← stop_more]
        exact hgo
      rw [hpr]
      dsimp only
      rw [place_at] at hi
      have inL : i < L.length := by
        have l1 : i < t.place.toList.length := (List.getElem?_eq_some_iff.mp hi).1
        have l2 := R.tab.sz
        rw [List.length_map] at l2
        rw [Array.length_toList] at l1
        omega
      obtain ⟨r, hr⟩ : ∃ r, L[i]? = some r := ⟨_, List.getElem?_eq_getElem inL⟩
      have rmem := List.mem_of_getElem? hr
      have live := slot_live R.tab.ris hi
      have tail : wpAny (model P w) A (searchRest a (.ref x) (thash P w q) false fuel es t (way t.mask (thash P w q) (n + d)) i (stopAt t (thash P w q) (n + (d + 1)))) Q E s := by
        unfold searchRest
        rw [R.entry hr]
        dsimp only
        refine wpAny_bind (wpAny_holding (wpAny_eqBool_tuple room (R.tup r rmem) isx (wpAny_bind (wpAny_setState_of hob hdat R.fits ?_))))
        dsimp only
        refine wp_if_neg (by simp) (wpAny_bind (wpAny_pure ?_))
        rw [sameMem]
        dsimp only
        simp only [if_true, live, R.entry hr]
        refine wpAny_bind (wpAny_isSame_ref_self (wpAny_bind (wpAny_pure ?_)))
        simp only [if_true]
        by_cases eqq : r.2 = q
        · refine wp_if_pos (by simp [eqq]) (wpAny_pure (yes (List.mem_map.mpr ⟨r, rmem, eqq⟩) i))
        · refine wp_if_neg (by simp [eqq]) ?_
          refine again (n + (d + 1)) _ rfl (by omega) (by omega) fun i2 r2 hr2 hq2 => ?_
          obtain ⟨n', b1, b2, b3⟩ := missed i2 r2 hr2 hq2 d nope
          refine ⟨n', Nat.lt_of_le_of_ne b1 fun same => ?_, b2, b3⟩
          subst same
          have live2 := live.symm.trans (slot_live R.tab.ris b3)
          injection live2 with same
          subst same
          rw [hr] at hr2
          exact eqq (by rw [Option.some.inj hr2]; exact hq2)
      by_cases led : t.led = true
      · exact wp_if_neg (by simp [led]) (wpAny_bind (wpAny_pure tail))
      · refine wp_if_pos (by simp [led]) (wpAny_bind (seen_tup isx (fun y hy => ?_) (wp_if_neg (by decide) (wpAny_bind (wpAny_pure tail)))))
        obtain ⟨e, he, rfl⟩ := List.mem_map.mp hy
        have he2 : e ∈ es.toList := by
          have both : e ∈ es ∧ e.1 = thash P w q := by simpa using he
          simpa using both.1
        rw [R.rows] at he2
        obtain ⟨r2, hr2, rfl⟩ := List.mem_map.mp he2
        exact ⟨r2.2, r2.1, rfl, R.tup r2 hr2⟩
    · have hpr : t.probe (fun i => (es[i]?.map (·.1)).getD 0) (thash P w q) (st.getD (t.probeStart (thash P w q))) = some (.empty (way t.mask (thash P w q) far) none) := by
        have e2 : way t.mask (thash P w q) far = (nth t.mask (stopAt t (thash P w q) n) (far - n)).j := by rw [place_at, last]
        rw [hst, e2]
        exact hgo
      rw [hpr]
      dsimp only
      refine wpAny_pure (no (fun hm => ?_) _)
      obtain ⟨r, hr, hq⟩ := List.mem_map.mp hm
      obtain ⟨i, hi, e⟩ := List.getElem_of_mem hr
      obtain ⟨n', b1, b2, b3⟩ := missed i r (by rw [List.getElem?_eq_getElem hi, e]) hq (far - n) nope
      omega
end
end K48

namespace K48
open PySem PySem.Spec PyProof.Rows L2 ClX PySem.W
section
variable {P : Program} {w : World} {A : Around} {E : Value → Shared → Prop} {s : Shared} {a x : Addr} {L : List (Addr × List Int)} {es : Array (Int × Value)} {ep : Nat} {t : SetTable} {q : List Int}
theorem look_at (R : SetTR P w s.heap a L es ep t) (isx : IsT P w s.heap q x) (room : A.units < cLine) {Q : SetFound → Shared → Prop} (yes : q ∈ L.map (·.2) → ∀ i, Q (.there (some i)) s) (no : q ∉ L.map (·.2) → ∀ j, Q (.free j false) s) :
    wpAny (model P w) A (setSearch a (.ref x) (thash P w q)) Q E s := by
  have big := R.room
  obtain ⟨far, f1, f2, f3⟩ := R.tab.first (by rw [List.length_map]; omega) (thash P w q)
  have turns : 10 * SetTable.turns t.mask ≤ 1420 := by
    unfold SetTable.turns
    rcases R.tab.mok with e | e | e <;> omega
  unfold setSearch
  refine look_from R isx room f1 f2 f3 yes no 100000 0 none rfl (Nat.zero_le _) (by omega) fun i r hr hq => ?_
  have hi : (L.map fun p => thash P w p.2)[i]? = some (thash P w q) := by
    rw [List.getElem?_map, hr, ← hq]
    rfl
  have inL : i < t.place.toList.length := by
    have l1 : i < L.length := (List.getElem?_eq_some_iff.mp hr).1
    have l2 := R.tab.sz
    rw [List.length_map] at l2
    rw [Array.length_toList]
    omega
  have hj := List.getElem?_eq_getElem inL
  obtain ⟨n, hn, e⟩ := R.tab.before f2 hi hj
  exact ⟨n, Nat.zero_le _, hn, by rw [hj, e]⟩
theorem tset_is (R : SetTR P w s.heap a L es ep t) : s.TypeIs (.ref a) "set" := let ⟨o, e, c, _⟩ := R.ob; ⟨o, e, c.1⟩
theorem tset_has (R : SetTR P w s.heap a L es ep t) (isx : IsT P w s.heap q x) (room : A.units + 8 < cLine) {Q : Bool → Shared → Prop} (h : ∀ tk, Q (decide (q ∈ L.map (·.2))) { s with toks := tk }) : wpAny (model P w) A (contains (.ref a) (.ref x)) Q E s := by
  obtain ⟨ob, hob, hset, hdat⟩ := R.ob
  unfold contains
  try with_reducible refine wpAny_holding ?_
  refine wpAny_bind (wpAny_specialOf (tset_is R) F.slot_set_contains.lookup ?_)
  show wpAny _ _ (if (some (Value.builtin "set.__contains__") == some Value.none) = true then _ else _) _ E s
  rw [if_neg (by rw [beq_builtin_none]; exact Bool.false_ne_true)]
  refine wpAny_bind (wpAny_callSpecialUnlessNone?_slot (name := Str.ofString "__contains__") (tset_is R) F.slot_set_contains (wpAny_call_entry F.slot_set_contains (tset_is R) entry_set_contains ?_ (F.args_set_contains_2 _ _)))
  unfold Builtin.«frozenset.__contains__» Builtin.Frozenset.oneOther
  simp only [List.isEmpty_nil, bind_assoc]
  unfold Builtin.Frozenset.addrOf Builtin.Frozenset.withSetAsKey setContains
  refine wpAny_bind (wpAny_pure ?_)
  dsimp only
  refine wpAny_bind (wpAny_pure ?_)
  dsimp only
  refine wpAny_bind (wpAny_tryCatch (wpAny_holding (wpAny_bind (wpAny_pyHash_tuple (by show A.units + 1 < cLine; omega) isx ?_))))
  unfold setFind
  rw [show (100000 : Nat) = 99999 + 1 from rfl, setFindIn]
  refine wpAny_bind (wpAny_bind (wpAny_setState_of (s := { s with toks := s.toks + (q.length + 1) }) hob hdat R.fits ?_))
  dsimp only
  refine wp_if_neg (by simp [byScan, Value.scannable]) (wpAny_bind ?_)
  refine look_at (s := { s with toks := s.toks + (q.length + 1) }) R isx (by show A.units + 1 < cLine; omega) (fun hm i => ?_) fun hm j => ?_
  · refine wpAny_pure (wpAny_pure ?_)
    show wpAny _ _ (ret (Value.bool true)) _ _ _
    have := h (s.toks + (q.length + 1))
    rw [decide_eq_true hm] at this
    exact wpAny_pure ⟨_, rfl, wpAny_truthy_bool this⟩
  · refine wpAny_pure (wpAny_pure ?_)
    show wpAny _ _ (ret (Value.bool false)) _ _ _
    have := h (s.toks + (q.length + 1))
    rw [decide_eq_false hm] at this
    exact wpAny_pure ⟨_, rfl, wpAny_truthy_bool this⟩
theorem tset_put (R : SetTR P w s.heap a L es ep t) (isx : IsT P w s.heap q x) (room : A.units + 8 < cLine) (few : L.length + 1 < 64) {Q : Value → Shared → Prop}
    (h : ∀ h' L' es' ep' t' tk, Heap.SameBut a s.heap h' → SetTR P w h' a L' es' ep' t' → (q ∈ L.map (·.2) → L' = L) → (q ∉ L.map (·.2) → L'.Perm ((x, q) :: L)) → Q .none { s with heap := h', toks := tk }) :
    wpAny (model P w) A (call (.builtin "set.add") [.ref a, .ref x]) Q E s := by
  refine wpAny_call_entry F.slot_set_add (tset_is R) F.entry_set_add ?_ (F.args_set_add_2 _ _)
  unfold Builtin.«set.add» Builtin.Frozenset.oneOther
  simp only [List.isEmpty_nil, bind_assoc]
  unfold Builtin.Frozenset.addrOf setAdd
  refine wpAny_bind (wpAny_pure ?_)
  try dsimp only
  refine wpAny_bind (wpAny_pure ?_)
  try dsimp only
  refine wpAny_bind (wpAny_holding (wpAny_bind (wpAny_pyHash_tuple (by show A.units + 1 < cLine; omega) isx ?_)))
  refine add_at (s := { s with toks := s.toks + (q.length + 1) }) R isx (by show A.units + 1 < cLine; omega) few fun b h' L' es' ep' t' sb R' q1 q2 => ?_
  show wpAny _ _ (ret Value.none) _ _ _
  exact wpAny_pure ⟨_, rfl, h h' L' es' ep' t' _ sb R' q1 q2⟩
end
section
variable {X : Cx}
/-- set(), to hold tuples of ints -/
def rTs0 (P : Program) (w : World) : List V → Hp → VK → Prop := fun xs H Q => xs = [] ∧ ∀ p, H p = none → Q (.ref p) (upd H p (SetTO P w p []))
theorem cr_ts0 : CallR X (.type "set") (rTs0 X.prog X.w) := by
  intro pins s σ H xs us Q I r h
  obtain ⟨rfl, q⟩ := h
  cases r
  refine setR_new fun _ => ?_
  have ob := setTR_fresh (P := X.prog) (w := X.w) (Heap.get?_push_size (o := { cls := .type "set", dict := none, data := .set #[] 0 (.fresh 0 0 (!X.w.params.followText "set-order")) }) s.heap rfl)
  exact ⟨.ref _, upd H s.heap.objs.size (SetTO X.prog X.w s.heap.objs.size []), I.laid (t' := s.toks) (fun b u e => Heap.get?_push_of_some _ e) (Nat.le_refl _) (setTO_new ob.t0), rfl, q _ (I.hok.fresh (Nat.le_refl _))⟩
theorem tset_at {pins : List (Addr × Obj)} {σ : L2.St} {H : Hp} {s : Shared} {a : Addr} {L : List (Addr × List Int)} (I : Inv X pins σ H s) (ha : H a = some (SetTO X.prog X.w a L)) (hk : ∀ p ∈ L, SqT X.K H p.1 (p.2.map V.int)) : ∃ es ep t, SetTR X.prog X.w s.heap a L es ep t :=
  have R0 : SetT0 X.prog X.w s.heap a L := (I.hok a _ ha).1
  R0.full fun p hp => I.isT (hk p hp)
/-- a.add(b) -/
def rTadd (K : PySem.W.Frag) (P : Program) (w : World) : V → List V → Hp → VK → Prop := fun x xs H Q => ∃ (a b : Addr) (k : List Int) (L : List (Addr × List Int)), x = V.ref a ∧ xs = [V.ref b] ∧ H a = some (SetTO P w a L) ∧ (∀ p ∈ L, SqT K H p.1 (p.2.map V.int)) ∧ SqT K H b (k.map V.int) ∧ L.length + 1 < 64 ∧
  ∀ L', (k ∈ L.map (·.2) → L' = L) → (k ∉ L.map (·.2) → L'.Perm ((b, k) :: L)) → Q .non (upd H a (SetTO P w a L'))
theorem mt_tadd (hu : X.A.units + 64 < cLine) : MtR X "set.add" (rTadd X.K X.prog X.w) := by
  intro pins s σ H x xs v us Q I rx rxs h
  obtain ⟨a, b, k, L, rfl, rfl, ha, hk, hb, few, q⟩ := h
  cases rx
  rw [Vals.ref1 rxs]
  obtain ⟨es, ep, t, R⟩ := tset_at I ha hk
  refine tset_put R (I.isT hb) (by omega) few fun h' L' es' ep' t' tk sb R' q1 q2 => ?_
  have he : ∃ u, h'.get? a = some u := let ⟨o, e, _⟩ := R'.ob; ⟨o, e⟩
  exact ⟨.non, upd H a (SetTO X.prog X.w a L'), I.write (e := a) (t' := tk) (by rw [ha]; trivial) (.inl rfl) (fun c u hc hu => (sb.2 c hc).trans hu) he (setTO_new R'.t0), rfl, q L' q1 q2⟩
def tTadd (K : PySem.W.Frag) (P : Program) (w : World) (to : TE) (t : TA) : TE := fun σ H Q => to σ H fun x H1 => (∃ a L, x = V.ref a ∧ H1 a = some (SetTO P w a L)) ∧ t σ H1 fun xs H2 => rTadd K P w x xs H2 Q
theorem pe_tadd {o e : Expr} {to : TE} {t : TA} {apos cpos : Pos} (hu : X.A.units + 64 < cLine) (ho : PE X o to) (ha : PA X [e] t) (hbase : attributeBase o "add" X.env (eval o X.env) = eval o X.env := by rfl)
    (hfew : ((backTo cpos (starEach [e] X.env)).all (fun x => !x.1) && (backToKw cpos (keywordEach [] X.env)).all (fun x => x.1.isSome) && decide ([e].length + ([] : List Keyword).length + (if ([] : List Keyword).isEmpty then 0 else 1) < 30)) = true := by rfl)
    (hline : (apos.endLine == cpos.line) = true := by rfl) (hs : starEach [e] X.env = (false, eval e X.env) :: starEach [] X.env := by rfl) : PE X (.Call (.Attribute o "add" apos) [e] [] cpos) (tTadd X.K X.prog X.w to t) := by
  refine ⟨fun pins s σ H Q I h => ?_⟩
  refine wpAny_Call_method_late hbase hfew hline rfl (thn (ho.run pins s σ H _ I h) fun v s1 ⟨x, H1, I1, r1, ty, q1⟩ => ?_)
  obtain ⟨a, L, rfl, hka⟩ := ty
  cases r1
  obtain ⟨es, ep, tt, ⟨o1, e1, c1, _⟩, _⟩ := SetT0.ex (show SetT0 X.prog X.w s1.heap a L from (I1.hok a _ hka).1)
  refine ⟨"set", "set.add", F.plainAttrs_set, F.slot_set_add, F.type_set_add, ⟨o1, e1, c1.1⟩, fun b eb => ⟨o1, by cases eb; exact e1, c1.2.1⟩, ?_⟩
  have hA := ha.run cpos pins s1 σ H1 _ I1 q1
  rw [hs] at hA ⊢
  refine Calls.callWith_builtin (by rfl) (Calls.evalArgs_plain ?_)
  exact thn hA fun us s2 ⟨vs, H2, I2, r2, q2⟩ => mt_tadd hu pins s2 σ H2 (.ref a) vs (.ref a) us Q I2 rfl r2 q2
/-- b in a, b not in a -/
def rTin (K : PySem.W.Frag) (P : Program) (w : World) (f : Bool → Bool) : V → V → Hp → VK → Prop := fun x y H Q => ∃ (a b : Addr) (k : List Int) (L : List (Addr × List Int)), x = V.ref b ∧ y = V.ref a ∧ H a = some (SetTO P w a L) ∧ (∀ p ∈ L, SqT K H p.1 (p.2.map V.int)) ∧ SqT K H b (k.map V.int) ∧ Q (.bl (f (decide (k ∈ L.map (·.2))))) H
theorem or_tin (hu : X.A.units + 64 < cLine) : OpR X (compareOp .In) (rTin X.K X.prog X.w id) := by
  intro pins s σ H x y v u Q I rx ry h
  obtain ⟨a, b, k, L, rfl, rfl, ha, hk, hb, q⟩ := h
  cases rx
  cases ry
  obtain ⟨es, ep, t, R⟩ := tset_at I ha hk
  show wpAny _ _ (do return Value.bool (← contains (Value.ref a) (Value.ref b))) _ _ s
  exact wpAny_bind (tset_has R (I.isT hb) (by omega) fun tk => wpAny_pure ⟨.bl (decide (k ∈ L.map fun p : Addr × List Int => p.2)), H, I.tok tk, rfl, q⟩)
theorem or_tnotin (hu : X.A.units + 64 < cLine) : OpR X (compareOp .NotIn) (rTin X.K X.prog X.w not) := by
  intro pins s σ H x y v u Q I rx ry h
  obtain ⟨a, b, k, L, rfl, rfl, ha, hk, hb, q⟩ := h
  cases rx
  cases ry
  obtain ⟨es, ep, t, R⟩ := tset_at I ha hk
  show wpAny _ _ (do return Value.bool (!(← contains (Value.ref a) (Value.ref b)))) _ _ s
  exact wpAny_bind (tset_has R (I.isT hb) (by omega) fun tk => wpAny_pure ⟨.bl (!decide (k ∈ L.map fun p : Addr × List Int => p.2)), H, I.tok tk, rfl, q⟩)
/-- set(xs), the ints of xs all different -/
def rSetI (K : PySem.W.Frag) : List V → Hp → VK → Prop := fun vs H Q => ∃ (l : Addr) (ns : List Int), vs = [V.ref l] ∧ SqL K H l (ns.map V.int) ∧ ns.Nodup ∧ ns.length ≤ 1000 ∧ ∀ p, H p = none → Q (.ref p) (upd H p (.set (fun k => ns.any (· == k)) ns.length))
theorem cr_setI (hc : X.calm = true) : CallR X (.type "set") (rSetI X.K) := by
  intro pins s σ H vs us Q I r h
  obtain ⟨l, ns, rfl, hl, nd, hz, q⟩ := h
  rw [Vals.ref1 r]
  obtain ⟨its, rv, pl, _⟩ := I.list hl
  have sz : its.toArray.size = ns.length := by rw [List.size_toArray, ← rv.length, List.length_map]
  refine call_set_list (I.ok.hd hc) pl.isList (ns := ns) (by simpa using rv.ints) (by rw [sz]; unfold scanBound; omega) fun h' tk hS hk => ?_
  rw [sz, firstMet_nodup ns nd ns.length (Nat.le_refl _), List.take_length] at hS
  exact ⟨.ref _, upd H s.heap.objs.size (.set (fun k => ns.any (· == k)) ns.length), I.laid (t' := tk) (fun b o e => hk b o (Heap.lt_size e) e) (Nat.le_refl _) hS, rfl, q _ (I.hok.fresh (Nat.le_refl _))⟩
def rIinS (f : Bool → Bool) : V → V → Hp → VK → Prop := fun x y H Q => ∃ (k : Int) (a : Addr) (S : Int → Bool) (n : Nat), x = V.int k ∧ y = V.ref a ∧ H a = some (.set S n) ∧ Q (.bl (f (S k))) H
theorem or_iin : OpR X (compareOp .In) (rIinS id) := by
  intro pins s σ H x y v u Q I rx ry h
  obtain ⟨k, a, S, n, rfl, rfl, ha, q⟩ := h
  obtain ⟨tk, rfl⟩ := rx
  cases ry
  have st : s.heap.SetOf (intKind X.prog X.w) a S n := I.hok a _ ha
  exact wpAny_inSet_of (intKind_is _ _ _ _) rfl st ⟨.bl (S k), H, I.tok _, rfl, q⟩
theorem or_inotin : OpR X (compareOp .NotIn) (rIinS not) := by
  intro pins s σ H x y v u Q I rx ry h
  obtain ⟨k, a, S, n, rfl, rfl, ha, q⟩ := h
  obtain ⟨tk, rfl⟩ := rx
  cases ry
  have st : s.heap.SetOf (intKind X.prog X.w) a S n := I.hok a _ ha
  exact wpAny_notInSet_of (intKind_is _ _ _ _) rfl st ⟨.bl (!S k), H, I.tok _, rfl, q⟩
end
/-- such a set is no code object -/
def manyO (ob : Obj) : Nat → Heap
  | 0 => {}
  | n + 1 => (manyO ob n).push ob
theorem manyO_size (ob : Obj) : ∀ n, (manyO ob n).objs.size = n
  | 0 => rfl
  | n + 1 => by
    show ((manyO ob n).push ob).objs.size = _
    rw [Heap.size_push, manyO_size ob n]
theorem manyO_get (ob : Obj) (hf : ob.isFreed = false) : ∀ n b, b < n → (manyO ob n).get? b = some ob
  | 0, b, h => absurd h (Nat.not_lt_zero b)
  | n + 1, b, h => by
    by_cases e : b = n
    · subst e
      have := Heap.get?_push_size (manyO ob b) (o := ob) hf
      rw [manyO_size] at this
      exact this
    · exact Heap.get?_push_of_some _ (manyO_get ob hf n b (by omega))
theorem setTO_ne {P : Program} {w : World} {a : Addr} {L : List (Addr × List Int)} (c : Addr) (q : Str) : SetTO P w a L ≠ LamX.CodeO c q := by
  intro e
  injection e with e
  let ob : Obj := { cls := .none, data := .fields #[.none, .str q 0] }
  have yes : (∃ (oc : Obj) (vs : Array Value) (t : Tok), (manyO ob (c + 1)).get? c = some oc ∧ oc.data = .fields vs ∧ vs[1]? = some (.str q t)) := ⟨ob, _, 0, manyO_get ob rfl _ _ (Nat.lt_succ_self c), rfl, rfl⟩
  have no : SetT0 P w (manyO ob (c + 1)) a L := by
    have := congrFun e (manyO ob (c + 1))
    exact this ▸ yes
  obtain ⟨es, ep, t, ⟨o, ho, _, hd⟩, _⟩ := no.ex
  have hlt : a < c + 1 := by
    have := Heap.lt_size ho
    rw [manyO_size] at this
    exact this
  rw [manyO_get ob rfl _ _ hlt] at ho
  rw [← Option.some.inj ho] at hd
  cases hd
end K48

namespace K48
open PySem PySem.Spec PyProof.Rows L2 ClX PySem.W GenW
/-! ### a generator that a comprehension empties -/
/-- the object of a block's names -/
def Dk (C : Addr) (o : Obj) : Prop := (∀ v, o.data ≠ .cell v) ∧ ∃ m, ∀ h : Heap, h.get? C = some o → h.Ns C m
theorem dk_of_ns {h : Heap} {C : Addr} {m : Str → Option Value} (x : h.Ns C m) : ∃ o, h.get? C = some o ∧ Dk C o := by
  obtain ⟨o, es, ep, ho, hd, r⟩ := x
  exact ⟨o, ho, fun v e => (by rw [hd] at e; cases e), m, fun h' e => ⟨o, es, ep, e, hd, r⟩⟩
/-- what its consumer does while it sleeps: an item more at D, the block's names at C; all else stays -/
structure Rested (D C : Addr) (v : Value) (s s' : Shared) : Prop where
  os : s'.os = s.os
  bare : AllBare s'.gens
  rest : ∀ b o, b ≠ D → b ≠ C → s.heap.get? b = some o → s'.heap.get? b = some o
  list : ∀ acc c, s.heap.get? D = some (lstObj acc c) → ∃ c', s'.heap.get? D = some (lstObj (acc.push v) c')
  dict : ∃ o', s'.heap.get? C = some o' ∧ Dk C o'
/-- running: ys is out; go: its own object -/
def GJ (X : Cx) (go : Addr × Obj) (D C : Addr) (ys : List V) (σ : L2.St) (H : Hp) (s : Shared) : Prop :=
  ∃ acc c oC, Vals ys acc.toList ∧ Dk C oC ∧ Inv X [go, (D, lstObj acc c), (C, oC)] σ H s
structure Aside (X : Cx) (a D C : Addr) : Prop where
  young : ∀ b, b = D ∨ b = C → X.s_0.heap.objs.size ≤ b ∧ b ≠ X.env.locals ∧ ∀ x c, X.env.cells.lookup x = some c → c ≠ b
  aD : a ≠ D
  aC : a ≠ C
  DC : D ≠ C
  pn : X.pn = []
theorem GJ.woken {X : Cx} {go : Addr × Obj} {D C : Addr} {ys : List V} {x : V} {v : Value} {σ : L2.St} {H : Hp} {s s' : Shared} (ap : Aside X go.1 D C) (h : GJ X go D C ys σ H s) (rv : RelV x v) (z : Rested D C v s s') : GJ X go D C (ys ++ [x]) σ H s' := by
  obtain ⟨acc, c, oC, r, hoC, I⟩ := h
  have pG := I.pin go (List.mem_append_right _ List.mem_cons_self)
  have pD := I.pin (D, lstObj acc c) (List.mem_append_right _ (List.mem_cons_of_mem _ List.mem_cons_self))
  have pC := I.pin (C, oC) (List.mem_append_right _ (List.mem_cons_of_mem _ (List.mem_cons_of_mem _ List.mem_cons_self)))
  have I0 : Inv X [go] σ H s := I.pins_of fun p hp => by rw [List.mem_singleton.mp hp]; exact pG
  obtain ⟨z1, z2, z3, z4, o', z5, z6⟩ := z
  obtain ⟨c', eD⟩ := z4 acc c pD.1
  have tracked : ∀ b u, H b = some u → b ≠ D ∧ b ≠ C := fun b u q => ⟨fun e => (by rw [e, pD.2.1] at q; cases q), fun e => (by rw [e, pC.2.1] at q; cases q)⟩
  obtain ⟨hh, gn, dr, tk, os⟩ := s'
  have e1 : os = s.os := z1
  subst e1
  have off : ∀ b, b ∉ [D, C] → b ≠ D ∧ b ≠ C := fun b hb => ⟨fun e => hb (by simp [e]), fun e => hb (by simp [e])⟩
  have J : Inv X [go] σ H { s with heap := hh, gens := gn, drawn := dr, toks := tk } := by
    refine I0.step (g' := gn) (t' := tk) (d' := dr) (ch := [D, C]) (fun b hb => ?_) (fun b ob _ _ hc q _ => z3 b ob (off b hc).1 (off b hc).2 q) (fun b ob _ _ hc q _ => ⟨ob.slots, z3 b ob (off b hc).1 (off b hc).2 q⟩) (fun _ _ _ _ n => n)
      (fun b ob hc q => ⟨ob, z3 b ob (off b hc).1 (off b hc).2 q⟩) (fun _ _ q => q) (fun _ _ _ q => q) (fun b ps q => ⟨#[], by rw [q]; simp⟩) (fun m hm => ?_) (fun b u q => ?_) z2
    · have hb2 : b = D ∨ b = C := by simpa using hb
      obtain ⟨y1, y2, y3⟩ := ap.young b hb2
      refine ⟨.inr y1, y2, y3, fun p hp => ?_⟩
      rw [ap.pn] at hp
      rw [List.mem_singleton.mp hp]
      rcases hb2 with e | e
      · rw [e]; exact ap.aD
      · rw [e]; exact ap.aC
    · obtain ⟨ob, es, ep, ho, rr⟩ := hm
      exact ⟨ob, es, ep, z3 _ ob (Ne.symm (ap.young D (.inl rfl)).2.1) (Ne.symm (ap.young C (.inr rfl)).2.1) ho, rr⟩
    · refine (I0.hok b u q).stay (fun d w hd y => ?_) (fun _ y => y) fun _ _ y => y
      have hd2 : ∃ u, H d = some u := by
        rcases hd with e | e
        · exact ⟨u, by rw [e]; exact q⟩
        · exact ⟨_, e⟩
      obtain ⟨u2, hu2⟩ := hd2
      exact z3 d w (tracked d u2 hu2).1 (tracked d u2 hu2).2 y
  refine ⟨acc.push v, c', o', by rw [Array.toList_push]; exact r.append (.cons rv .nil), z6, J.pins_of fun p hp => ?_⟩
  rcases List.mem_cons.mp hp with e | hp
  · rw [e]
    exact J.pin go (List.mem_append_right _ List.mem_cons_self)
  · rcases List.mem_cons.mp hp with e | hp
    · rw [e]
      exact ⟨eD, pD.2.1, pD.2.2.1, pD.2.2.2.1, fun v q => by cases q⟩
    · rw [List.mem_singleton.mp hp]
      exact ⟨z5, pC.2.1, pC.2.2.1, pC.2.2.2.1, z6.1⟩
def YJ (X : Cx) (go : Addr × Obj) (D C : Addr) : Protocol := fun n s₀ v s1 kap => ∃ ys x σ H, n + 1 + ys.length = sizeLine ∧ RelV x v ∧ GJ X go D C ys σ H s1 ∧ ∀ s', Rested D C v s1 s' → kap (.send .none) s'
def FJ (X : Cx) (go : Addr × Obj) (D C : Addr) (Q : List V → Hp → Prop) (n : Nat) (s₀ s1 : Shared) : Prop := ∃ ys σ H, ys.length ≤ sizeLine ∧ GJ X go D C ys σ H s1 ∧ Q ys H
def RJ (X : Cx) (go : Addr × Obj) (D C : Addr) (Q : List V → Hp → Prop) : GenEnd := fun n s₀ r s1 => ((r = .ok (.ret .none) ∨ r = .ok .next) ∧ FJ X go D C Q n s₀ s1) ∨ ∃ e, r = .error e ∧ False
/-- a1; while tst: yield ye; a2 -/
def tGen (t1 : L2.TS) (tc : TT) (te : TE) (t2 : L2.TS) (Q : List V → Hp → Prop) : L2.St → Hp → Prop := fun σ H => ∃ W : Nat → List V → L2.St → Hp → Prop, t1 { nx := fun σ1 H1 => ∃ m, W m [] σ1 H1, rt := fun _ _ => False } σ H ∧
  ∀ m ys σ H, W m ys σ H → tc σ H fun b H1 => if b = true then ys.length < sizeLine ∧ te σ H1 fun x H2 => t2 { nx := fun σ3 H3 => ∃ m', m' < m ∧ W m' (ys ++ [x]) σ3 H3, rt := fun _ _ => False } σ H2 else ys.length ≤ sizeLine ∧ Q ys H1
section
variable {X : Cx} {A : Around} {go : Addr × Obj} {D C : Addr} {a1 a2 : Stmt} {tst ye : Expr} {yp p1 p2 : Pos} {t1 t2 : L2.TS} {tc : TT} {te : TE} {Q : List V → Hp → Prop}
theorem gen_seg (hA : A.deeper X.env = X.A) (hxe : X.xe = fun _ _ => False) (ap : Aside X go.1 D C) (h1 : PS X a1 t1) (hc : PT X tst tc) (hy : PE X ye te) (h2 : PS X a2 t2) (hco : X.env.scope.isCoroutine = false) (hin : interactive X.env = false)
    {σ : L2.St} {H : Hp} {s s₀ : Shared} (G : GJ X go D C [] σ H s) (ht : tGen t1 tc te t2 Q σ H) :
    Seg (model X.prog X.w) A (RJ X go D C Q) (YJ X go D C) sizeLine s₀ (.func [a1, .While tst [.Expr (.Yield (some ye) yp) p1, a2] [] p2] X.env) ((model X.prog X.w).den (.func [a1, .While tst [.Expr (.Yield (some ye) yp) p1, a2] [] p2] X.env)) [] s := by
  obtain ⟨W, w0, turn⟩ := ht
  have noxe : ∀ {α : Sort _} {e : Value} {s' : Shared}, X.xe e s' → α := fun {α e s'} x => by rw [hxe] at x; exact False.elim x
  have ovf : ∀ {body : List Stmt}, A.over (.func body X.env) [] = X.A := over_func.trans hA
  have step : ∀ {st : Stmt} {t : L2.TS} {A' : Around} {n : Nat} {ys : List V} {σ : L2.St} {H : Hp} {s s₀ : Shared} {c : Code} {fs : List Frame} {K : Flow → Sem PySem.Fin} {J : Value → Sem PySem.Fin} {gd : Bool → Bool} {lv : List Value → List Value} {N : L2.St → Hp → Prop},
      PS X st t → A'.over c fs = X.A → GJ X go D C ys σ H s → t { nx := N, rt := fun _ _ => False } σ H →
      (∀ σ' H' s', GJ X go D C ys σ' H' s' → N σ' H' → Seg (model X.prog X.w) A' (RJ X go D C Q) (YJ X go D C) n s₀ c (K .next) fs s') → Seg (model X.prog X.w) A' (RJ X go D C Q) (YJ X go D C) n s₀ c ((exec st X.env).wrap K J gd lv) fs s := by
    intro st t A' n ys σ H s s₀ c fs K J gd lv N hst hov hG hw k
    obtain ⟨acc, cc, oC, r, hoC, I⟩ := hG
    refine seg_wrap ?_
    rw [hov]
    refine wpAny_mono (hst.run _ s σ H _ I hw) (fun f s' hs => ?_) fun x s' hx => noxe hx
    cases f with
    | next =>
      obtain ⟨σ', H', I', q⟩ := hs
      exact k σ' H' s' ⟨acc, cc, oC, r, hoC, I'⟩ q
    | brk => obtain ⟨_, _, _, q⟩ := hs; exact q.elim
    | cont => obtain ⟨_, _, _, q⟩ := hs; exact q.elim
    | ret u => obtain ⟨_, _, _, _, _, q⟩ := hs; exact q.elim
  refine seg_func (seg_execs_cons (step h1 ovf G w0 fun σ1 H1 s1 G1 w1 => seg_execs_cons (seg_While fun p => ?_)))
  obtain ⟨m0, w1⟩ := w1
  generalize hkk : (fun (r : Result) => _) = kk
  have fin : ∀ {n : Nat} {ys : List V} {σ : L2.St} {H : Hp} {s s₀ : Shared}, ys.length ≤ sizeLine → GJ X go D C ys σ H s → Q ys H → Seg (model X.prog X.w) A (RJ X go D C Q) (YJ X go D C) n s₀ (.func [a1, .While tst [.Expr (.Yield (some ye) yp) p1, a2] [] p2] X.env) (kk (.ok .next)) [] s := by
    intro n ys σ H s s₀ hl hG hq
    rw [← hkk]
    exact seg_end (.ok (.ret .none)) (.inl ⟨.inl rfl, ys, σ, H, hl, hG, hq⟩)
  clear hkk
  have loop : ∀ (m n : Nat) (ys : List V) (s₀ s : Shared) (σ : L2.St) (H : Hp), n + ys.length = sizeLine → W m ys σ H → GJ X go D C ys σ H s →
      Seg (model X.prog X.w) A (RJ X go D C Q) (YJ X go D C) n s₀ (.whileLoop tst [.Expr (.Yield (some ye) yp) p1, a2] [] X.env) ((model X.prog X.w).den (.whileLoop tst [.Expr (.Yield (some ye) yp) p1, a2] [] X.env))
        [.ret kk none (id false) (id []) (.func [a1, .While tst [.Expr (.Yield (some ye) yp) p1, a2] [] p2] X.env) p []] s := by
    intro m
    induction m using Nat.strongRecOn with
    | ind m ih =>
      intro n ys s₀ s σ H hn w hG
      have ovw : A.over (.whileLoop tst [.Expr (.Yield (some ye) yp) p1, a2] [] X.env) [.ret kk none (id false) (id []) (.func [a1, .While tst [.Expr (.Yield (some ye) yp) p1, a2] [] p2] X.env) p []] = X.A := (over_loop rfl rfl).trans ovf
      obtain ⟨acc, cc, oC, r, hoC, I⟩ := hG
      refine seg_whileLoop ?_
      rw [ovw]
      refine wpAny_mono (hc.run _ s σ H _ I (turn m ys σ H w)) (fun b s1 hb => ?_) fun x s' hx => noxe hx
      obtain ⟨H1, I1, q1⟩ := hb
      cases b with
      | false =>
        rw [if_neg Bool.false_ne_true] at q1 ⊢
        exact seg_execs_nil (seg_leaf (.ok .next) (fin q1.1 ⟨acc, cc, oC, r, hoC, I1⟩ q1.2))
      | true =>
        rw [if_pos rfl] at q1 ⊢
        obtain ⟨hlt, q1⟩ := q1
        obtain ⟨n, rfl⟩ : ∃ k, n = k + 1 := ⟨n - 1, by omega⟩
        refine seg_execs_cons (seg_Expr_Yield rfl rfl rfl ?_ hco hin)
        rw [ovw]
        refine wpAny_mono (hy.run _ s1 σ H1 _ I1 q1) (fun v s2 hv => ?_) fun x s' hx => noxe hx
        obtain ⟨x, H2, I2, rv, q2⟩ := hv
        have G2 : GJ X go D C ys σ H2 s2 := ⟨acc, cc, oC, r, hoC, I2⟩
        intro kap hk
        refine ⟨ys, x, σ, H2, hn, rv, G2, fun s3 z => hk .none s3 ?_⟩
        have hn2 : n + (ys ++ [x]).length = sizeLine := by
          rw [List.length_append, List.length_singleton]
          omega
        refine seg_execs_cons (step h2 ovw (G2.woken ap rv z) q2 fun σ4 H4 s4 G4 w4 => ?_)
        obtain ⟨m', hm, w4⟩ := w4
        exact seg_execs_nil (seg_again rfl (ih m' hm n (ys ++ [x]) _ s4 σ4 H4 hn2 w4 G4))
  exact loop m0 sizeLine [] _ s1 σ1 H1 (Nat.add_zero _) w1 G1
end
end K48

namespace K48
open PySem PySem.Spec PyProof.Rows L2 ClX PySem.W GenW
/-- the running generator's context -/
abbrev genCx (P : Program) (w : World) (K : PySem.W.Frag) (mg : Str → Option Value) (base : Heap) (N : List Str) (qual : Str) (scope : Scope) (f : Addr) (cd : Value) (A : Around) (outer : List Env) (s : Shared) (H : Hp) : Cx := (cxOf CX0 P w K mg base N qual scope f cd A outer s H E0).nox
theorem inv_gen {P : Program} {w : World} {K : PySem.W.Frag} {mg : Str → Option Value} {base : Heap} {N : List Str} {qual : Str} {scope : Scope} {f : Addr} {cd : Value} {A : Around} {outer : List Env} {s s1 : Shared} {H H' : Hp} {E : XK} {pins : List (Addr × Obj)} {σ : L2.St}
    (I : Inv (gcxOf P w K mg base N qual scope f cd A outer s H E []) pins σ H' s1) : Inv (genCx P w K mg base N qual scope f cd A outer s H) pins σ H' s1 :=
  ⟨⟨I.ok.mod, I.ok.kind, I.ok.glob, I.ok.blt, I.ok.above, I.ok.inj, I.ok.has, I.ok.cab, I.ok.hd, I.ok.frames, I.ok.stk, I.ok.exf, I.ok.bs, I.ok.bsz, I.ok.noex, I.ok.exfs, I.ok.funs, I.ok.frf⟩, I.os, I.bare, I.base, I.loc, I.cell, I.free, I.freeC, I.pin, I.hok, I.len⟩
/-- a generator method's def: what it hands out -/
structure GenF (g : GX) (k : Nat) (f : Addr) (fd : FuncData) (sp : Addr → Hp → (List V → Hp → Prop) → Prop) : Prop where
  ex : ∃ (N : List Str) (name qual : Str) (params : Arguments) (scope : Scope) (dV kV doc pm cdv ct oc : Value) (an od : Option Addr) (osl : Array (Option Value)) (a1 a2 : Stmt) (tst ye : Expr) (yp p1 p2 : Pos),
    fd = PySem.W.fnOf name qual params [a1, .While tst [.Expr (.Yield (some ye) yp) p1, a2] [] p2] scope dV kV doc pm an cdv ct ∧ g.K.lookup f = some ⟨oc, od, .func fd, osl⟩ ∧ PySem.W.codeIn g.K cdv qual = true ∧ GScope N ["self"] scope ∧ (∀ x ∈ scope.names, x.2 ≠ .cell) ∧ Binds g.K fd ["self"] [] ∧
    ∀ (A : Around) (outer : List Env) (s : Shared) (H : Hp) (h : Addr) (Q : List V → Hp → Prop), Room k (A.deeper (envOfC qual scope s.heap.objs.size f cdv)) → sp h H Q →
      ∃ t1 tc te t2, PS (genCx g.P g.w g.K g.mg g.base N qual scope f cdv A outer s H) a1 t1 ∧ PT (genCx g.P g.w g.K g.mg g.base N qual scope f cdv A outer s H) tst tc ∧ PE (genCx g.P g.w g.K g.mg g.base N qual scope f cdv A outer s H) ye te ∧
        PS (genCx g.P g.w g.K g.mg g.base N qual scope f cdv A outer s H) a2 t2 ∧ tGen t1 tc te t2 Q (start N [.ref h]) H
theorem pushCells_all {names : List (Str × NameKind)} (h : ∀ x ∈ names, x.2 = .local) : ∀ hp : Heap, pushCells hp names = hp := by
  induction names with
  | nil => exact fun _ => rfl
  | cons x r ih =>
    intro hp
    obtain ⟨n, k⟩ := x
    have e : k = .local := h (n, k) List.mem_cons_self
    subst e
    exact ih (fun y hy => h y (List.mem_cons_of_mem _ hy)) hp
def tWalkG (C : Addr) (m : Str) (sp : Addr → Hp → (List V → Hp → Prop) → Prop) (to : TE) : TE := fun σ H Q => to σ H fun x H1 => ∃ a dx fs, x = .ref a ∧ H1 a = some (.ins C dx fs) ∧ fs.lookup m = none ∧ sp a H1 fun ys H2 => ∀ D, H2 D = none → Q (.ref D) (upd H2 D (.lst ys))
theorem gl_core {X : Cx} {pins : List (Addr × Obj)} {s : Shared} {σ : L2.St} {H : Hp} {Q : VK} {o : Expr} {to : TE} {y m : Str} {py1 py2 apos cpos pos pos' : Pos} {cscope : Scope} {C0 f : Addr} {fd : FuncData} {k : Nat} {sp : Addr → Hp → (List V → Hp → Prop) → Prop} {use : Option (Value → Sem Unit)} {Qf : Value → Shared → Prop} {pl : Sem Bool}
    (I : Inv X pins σ H s) (ho : PE X o to) (c : Cls X.K C0) (hm : Meth X.K C0 m f) (F : GenF (gOf X) k f fd sp) (hr : Room (k + 2) X.A) (hnm : ∀ x ∈ cscope.names, x.2 = .local) (hck : cscope.kind = .function) (hlk : ∀ x ∈ cscope.names, cscope.names.lookup x.1 = some .local)
    (hky : ∀ cl C, (compEnvC cscope cl C X.env).kindOf y = some .local) (hkk : ∀ cl C, (compEnvC cscope cl C X.env).scope.kind = .function) (hydb : (y == ("__debug__" : Str)) = false)
    (ht : eval (.Call (.Attribute o m apos) [] [] cpos) X.env = (do
      let ov ← eval o X.env
      standAt apos.atName
      let (f, first) ← holding [ov] (getMethod ov m pl)
      callWith cpos f first (backTo cpos (starEach [] X.env)) (backToKw cpos (keywordEach [] X.env))))
    (hs : ∀ x, foldedSetIterable (.Call (.Attribute o m apos) [] [] cpos) X.env x = pure x) (h : tWalkG C0 m sp to σ H Q)
    (hRR : ∀ D C s' mC H', Inv X pins σ H' s' → Q (.ref D) H' → s'.heap.Ns C mC → FpOk X pins H' C → compPost (model X.prog X.w) X.A X.xe use Qf (.ref D) C (.ok .next) s') :
    wpAny (model X.prog X.w) X.A (comprehension (.ListComp (.Name y py1) [⟨.Name y py2, .Call (.Attribute o m apos) [] [] cpos, [], 0⟩] cscope pos) cscope X.env pos' (newList []) false (eval (.Call (.Attribute o m apos) [] [] cpos) X.env) use) Qf X.xe s := by
  refine wpAny_comprehension_free (use := use) rfl hs (closure_ok fun z hz e => by rw [hnm z hz] at e; cases e) hck (fun z hz _ => hlk z hz) ?_
  refine PySem.W.methodCall_KW (pl := pl) (thn (ho.run pins s σ H _ I h) fun u s1 ⟨x, H1, I1, rx, a0, dx, fs, ex, ea, l, q⟩ => ?_) ht
  subst ex
  obtain rfl : u = Value.ref a0 := rx
  refine getmeth_ok I1 ea c hm l ?_
  refine PySem.W.callWith_K0 (first := [.ref a0]) I1.kIn hm.kp ?_
  obtain ⟨N, name, qual, params, scope, dV, kV, doc, pm, cdv, ct, oc, an, od, osl, a1, a2, tst, ye, yp, p1, p2, rfl, lk, hcd, S, nocell, hb, hbody⟩ := F.ex
  have hr1 : Room (k + 1) X.A.in1 := hr.in1
  refine wpAny_call (codeAny_call_generator hr.depth (I1.kIn _ _ lk) rfl S.co S.gen rfl (PySem.W.codeRec_of I1.kIn hcd) (hb s1 [.ref a0] I1.kIn rfl _ _ _ _ ?_))
  refine wpAny_newFunctionEnv_cells S.kind (fun z hz => Or.inl ?_) fun env he s2 xin => ?_
  · have hz1 : z.1 ∈ (["self"] : List Str) := (List.of_mem_zip hz).1
    rcases S.par z.1 hz1 with e | e
    · exact e
    · exact absurd rfl (nocell _ (PySem.mem_of_lookup e))
  subst he
  have I2g := inv_gen (inv_startG (E := E0) S hr1.hd (I1.env0.in1) rfl (.cons rfl .nil : Vals [V.ref a0] [Value.ref a0]) xin)
  have lim1 : s2.heap.NoLimit := (I1.nolimit).keeps xin.toInCall.keep
  obtain ⟨hh1, tk1, es1, hk1⟩ := xin.done
  have lt1 : s1.heap.objs.size < s2.heap.objs.size := xin.toInCall.ns.lt
  have kp1 : KH s1.heap s2.heap := xin.toInCall.keep
  have os1 : s2.os = s1.os := by rw [es1]
  have bare1 : AllBare s2.gens := by rw [es1]; exact I1.bare
  refine ⟨lim1, ?_⟩
  dsimp only
  generalize hob : (Obj.mk (.type "generator") none (.fields #[.int s2.gens.size 0, .str _ s2.toks, .str _ (s2.toks + 1)]) #[]) = ob
  have hgen : ∀ hp : Heap, hp.get? s2.heap.objs.size = some ob → hp.IsGen s2.heap.objs.size s2.gens.size := fun hp e => ⟨ob, _, _, e, by rw [← hob], by rw [← hob], by rw [← hob]⟩
  have hobc : ∀ v, ob.data ≠ .cell v := fun v e => by rw [← hob] at e; cases e
  have pushed : (s2.heap.push ob).get? s2.heap.objs.size = some ob := Heap.get?_push_size _ (by rw [← hob]; rfl)
  refine wpAny_pyIter_gen (hgen _ pushed) ?_
  refine wpAny_newObj_type (newEnv_comp ?_) (by show 0 ≤ sizeLine; decide)
  rw [pushCells_all hnm]
  generalize hD : (s2.heap.push ob).objs.size = D
  have D1 : D = s2.heap.objs.size + 1 := by rw [← hD, Heap.size_push]
  generalize hhB : (s2.heap.push ob).push { cls := .type "list", data := .seq ([] : List Value).toArray } = hB
  generalize hC : hB.objs.size = C
  have C1 : C = D + 1 := by rw [← hC, ← hhB, Heap.size_push, hD]
  have kA : KH s2.heap (s2.heap.push ob) := fun b o e => Heap.get?_push_of_some _ e
  have kB : KH (s2.heap.push ob) hB := fun b o e => by rw [← hhB]; exact Heap.get?_push_of_some _ e
  have kC : KH hB (hB.push { cls := .type "dict", data := .dict #[] }) := fun b o e => Heap.get?_push_of_some _ e
  have gD : hB.get? D = some (lstObj #[] 0) := by rw [← hhB, ← hD]; exact Heap.get?_push_size _ rfl
  have nC : (hB.push { cls := .type "dict", data := .dict #[] }).Ns C fun _ => none := by rw [← hC]; exact Heap.Ns.new ..
  show codeAny _ _ (.compStart (.ListComp (.Name y py1) [⟨.Name y py2, .Call (.Attribute o m apos) [] [] cpos, [], 0⟩] cscope pos) 0 (.ref s2.heap.objs.size) (.ref D) (compEnvC cscope (cellsFrom (C + 1) cscope.names (cloFrom X.env.cells cscope.names [])) C X.env)) (compPost (model X.prog X.w) X.A X.xe use Qf (.ref D) C)
    { s2 with heap := hB.push { cls := .type "dict", data := .dict #[] }, gens := s2.gens.push (.fresh (.func [a1, .While tst [.Expr (.Yield (some ye) yp) p1, a2] [] p2] (envOfC qual scope s1.heap.objs.size f cdv))), toks := s2.toks + 1 + 1 }
  have kind_y := hky (cellsFrom (C + 1) cscope.names (cloFrom X.env.cells cscope.names [])) C
  have kind_s := hkk (cellsFrom (C + 1) cscope.names (cloFrom X.env.cells cscope.names [])) C
  generalize hce : compEnvC cscope (cellsFrom (C + 1) cscope.names (cloFrom X.env.cells cscope.names [])) C X.env = ce at kind_y kind_s
  have ceL : ce.locals = C := by rw [← hce]; rfl
  -- the state in which the block starts
  generalize hs4 : ({ s2 with heap := hB.push { cls := .type "dict", data := .dict #[] }, gens := s2.gens.push (.fresh (.func [a1, .While tst [.Expr (.Yield (some ye) yp) p1, a2] [] p2] (envOfC qual scope s1.heap.objs.size f cdv))), toks := s2.toks + 1 + 1 } : Shared) = s4
  have h4 : s4.heap = hB.push { cls := .type "dict", data := .dict #[] } := by rw [← hs4]
  have k4 : KH s2.heap s4.heap := fun b o e => by rw [h4]; exact kC b o (kB b o (kA b o e))
  have go4 : s4.heap.get? s2.heap.objs.size = some ob := by rw [h4]; exact kC _ _ (kB _ _ pushed)
  have gD4 : s4.heap.get? D = some (lstObj #[] 0) := by rw [h4]; exact kC _ _ gD
  have nC4 : s4.heap.Ns C fun _ => none := by rw [h4]; exact nC
  have os4 : s4.os = s1.os := by rw [← hs4]; exact os1
  have gens4 : s4.gens = s2.gens.push (.fresh (.func [a1, .While tst [.Expr (.Yield (some ye) yp) p1, a2] [] p2] (envOfC qual scope s1.heap.objs.size f cdv))) := by rw [← hs4]
  have bare4 : AllBare s4.gens := by rw [gens4]; exact AllBare.push bare1 rfl
  clear hs4
  have young : ∀ b, s2.heap.objs.size ≤ b → H1 b = none ∧ b ≠ s1.heap.objs.size ∧ b ∉ frs X.stack ∧ s1.heap.objs.size ≤ b ∧ ∀ z c, (cellsFrom (s1.heap.objs.size + 1) scope.names []).lookup z = some c → c ≠ b := fun b hb => by
    refine ⟨I2g.hok.fresh hb, Nat.ne_of_gt (Nat.lt_of_lt_of_le lt1 hb), I2g.nofs hb, Nat.le_trans (Nat.le_of_lt lt1) hb, fun z c e same => ?_⟩
    obtain ⟨v, cellc⟩ := I2g.cell z c e
    exact absurd (Nat.lt_of_lt_of_le cellc.lt (by rw [same]; exact hb)) (Nat.lt_irrefl _)
  have yD := young D (by omega)
  have yC := young C (by omega)
  have ya := young s2.heap.objs.size (Nat.le_refl _)
  obtain ⟨oC0, gC4, dk0⟩ := dk_of_ns nC4
  obtain ⟨t1, tc, te, t2, q1, q2, q3, q4, q5⟩ := hbody X.A.in1 X.stack s1 H1 a0 _ (hr1.deeper _) q
  have ap : Aside (genCx X.prog X.w X.K X.mg X.base N qual scope f cdv X.A.in1 X.stack s1 H1) s2.heap.objs.size D C := by
    refine ⟨fun b hb => ?_, Nat.ne_of_lt (show s2.heap.objs.size < D by omega), Nat.ne_of_lt (show s2.heap.objs.size < C by omega), Nat.ne_of_lt (show D < C by omega), rfl⟩
    rcases hb with rfl | rfl
    · exact ⟨yD.2.2.2.1, yD.2.1, yD.2.2.2.2⟩
    · exact ⟨yC.2.2.2.1, yC.2.1, yC.2.2.2.2⟩
  have G4 : GJ (genCx X.prog X.w X.K X.mg X.base N qual scope f cdv X.A.in1 X.stack s1 H1) (s2.heap.objs.size, ob) D C [] (start N [.ref a0]) H1 (s4.setGen s2.gens.size .running) := by
    have I4 : Inv (genCx X.prog X.w X.K X.mg X.base N qual scope f cdv X.A.in1 X.stack s1 H1) [] (start N [.ref a0]) H1 (s4.setGen s2.gens.size .running) :=
      I2g.call' (ch := []) (os4.trans os1.symm) (Un.kept k4) (I2g.hok.kept k4) (allBare_setGen bare4 rfl) fun b z => by simp at z
    refine ⟨#[], 0, oC0, .nil, dk0, I4.pins_of fun p hp => ?_⟩
    rcases List.mem_cons.mp hp with e | hp
    · rw [e]
      exact ⟨go4, ya.1, ya.2.1, ya.2.2.1, hobc⟩
    · rcases List.mem_cons.mp hp with e | hp
      · rw [e]
        exact ⟨gD4, yD.1, yD.2.1, yD.2.2.1, fun v e => by cases e⟩
      · rw [List.mem_singleton.mp hp]
        exact ⟨gC4, yC.1, yC.2.1, yC.2.2.1, dk0.1⟩
  have seg := fun s₀ => gen_seg (A := X.A.in1) (s₀ := s₀) (yp := yp) (p1 := p1) (p2 := p2) rfl rfl ap q1 q2 q3 q4 S.co I2g.quiet G4 q5
  generalize hXg : genCx X.prog X.w X.K X.mg X.base N qual scope f cdv X.A.in1 X.stack s1 H1 = Xg at G4 ap seg
  have loop : codeAny (model X.prog X.w) X.A (.compLoop (.ListComp (.Name y py1) [⟨.Name y py2, .Call (.Attribute o m apos) [] [] cpos, [], 0⟩] cscope pos) 0 (.ref s2.heap.objs.size) (.ref D) ce) (compPost (model X.prog X.w) X.A X.xe use Qf (.ref D) C) s4 := by
    refine compLoop_any (fun n s' => ∃ gs acc cc mC, s'.gens[s2.gens.size]? = some gs ∧ s'.heap.NoLimit ∧ s'.heap.IsGen s2.heap.objs.size s2.gens.size ∧ s'.heap.get? D = some (lstObj acc cc) ∧ s'.heap.Ns C mC ∧
      gs.Goes (model X.prog X.w) X.A.in1 (RJ Xg (s2.heap.objs.size, ob) D C fun ys H2 => ∀ D, H2 D = none → Q (.ref D) (upd H2 D (.lst ys))) (YJ Xg (s2.heap.objs.size, ob) D C) n (.send .none) (s'.setGen s2.gens.size .running)) ?_ sizeLine ?_
    · rintro n s5 ⟨gs, acc, cc, mC, g1, g2, g3, g4, g5, g6⟩
      have glt : s2.gens.size < s5.gens.size := (Array.getElem?_eq_some_iff.mp g1).1
      refine wpAny_gsz (n := s2.gens.size + 1) glt (next_genG (A := X.A) hr.hd g2 hr.depth g3 g1 g6 (fun v s6 gs' hbare hv hsz => ?_) (fun s6 hp h' hk hsz => ?_) fun e s6 he => he.elim)
      · obtain ⟨ys, x, σg, Hg, hn, rv, hJ, hwake⟩ := hv
        obtain ⟨acc6, cc6, oC6, r6, dk6, J⟩ := hJ
        have pG := J.pin (s2.heap.objs.size, ob) (List.mem_append_right _ List.mem_cons_self)
        have pD := J.pin (D, lstObj acc6 cc6) (List.mem_append_right _ (List.mem_cons_of_mem _ List.mem_cons_self))
        have pC := J.pin (C, oC6) (List.mem_append_right _ (List.mem_cons_of_mem _ (List.mem_cons_of_mem _ List.mem_cons_self)))
        have glt6 : s2.gens.size < s6.gens.size := by
          have e : (s6.setGen s2.gens.size gs').gens.size = s6.gens.size := setGen_size _ _ _
          omega
        cases n with
        | zero =>
          have up := Heap.SameBut.update s6.heap D (Obj.mapSeq (·.push v))
          exact (hwake { s6 with heap := s6.heap.update D (Obj.mapSeq (·.push v)) } ⟨rfl, J.bare, fun b o hb _ e => (up.2 b hb).trans e, fun a1 c1 e => ⟨_, Heap.get?_update_self _ e rfl⟩, oC6, (up.2 C (Ne.symm ap.DC)).trans pC.1, dk6⟩).elim
        | succ n =>
          have ns6 : s6.heap.Ns C (Classical.choose dk6.2) := Classical.choose_spec dk6.2 _ pC.1
          have small : acc6.size ≤ sizeLine := by
            have e1 := r6.length
            have e2 : acc6.toList.length = acc6.size := by simp
            omega
          show wpAny _ _ (letOwnedTupleGo (.Name y py2) (.ref s2.heap.objs.size) v) _ _ _
          refine wpAny_pure ?_
          refine wpAny_assign_Name (wpAny_storeName_local kind_y (by rw [ceL]; exact ns6) (fun h7 ns7 sb7 => ?_) (by rw [kind_s]; rfl))
          rw [ceL] at ns7 sb7
          refine wpAny_tests_nil ?_
          rw [if_pos rfl]
          refine wpAny_Name (wpAny_loadName_local kind_s kind_y (by rw [ceL]; exact ns7) (if_pos rfl) ?_) hydb
          have gD7 : h7.get? D = some (lstObj acc6 cc6) := (sb7.2 D ap.DC).trans pD.1
          refine append_at (hsz := small) gD7 fun h8 sb8 gD8 => ⟨n, Nat.lt_succ_self n, gs', acc6.push v, cc6 + 1, _, setGen_at glt6, ?_, ?_, gD8, ns7.sameBut sb8 (Ne.symm ap.DC), ?_⟩
          · obtain ⟨mc, n1, n2⟩ := J.nolimit
            have low : cStatics < s2.heap.objs.size := let ⟨_, n3, _⟩ := lim1; n3.lt
            exact ⟨mc, n1.at' fun o e => (sb8.2 _ (Nat.ne_of_lt (Nat.lt_of_lt_of_le low (show s2.heap.objs.size ≤ D by omega)))).trans ((sb7.2 _ (Nat.ne_of_lt (Nat.lt_of_lt_of_le low (show s2.heap.objs.size ≤ C by omega)))).trans e), n2⟩
          · exact hgen _ ((sb8.2 _ ap.aD).trans ((sb7.2 _ ap.aC).trans pG.1))
          · refine hwake _ ⟨rfl, ?_, fun b o hb hb2 e => (sb8.2 b hb).trans ((sb7.2 b hb2).trans e), fun a1 c1 e => ?_, dk_of_ns (ns7.sameBut sb8 (Ne.symm ap.DC))⟩
            · exact allBare_setGen (allBare_setGen J.bare hbare) rfl
            · rw [pD.1] at e
              cases e
              exact ⟨_, gD8⟩
      · obtain ⟨ys, σg, Hg, hlen, hJ, hq⟩ := hp
        obtain ⟨acc6, cc6, oC6, r6, dk6, J⟩ := hJ
        have pD := J.pin (D, lstObj acc6 cc6) (List.mem_append_right _ (List.mem_cons_of_mem _ List.mem_cons_self))
        have pC := J.pin (C, oC6) (List.mem_append_right _ (List.mem_cons_of_mem _ (List.mem_cons_of_mem _ List.mem_cons_self)))
        subst hXg
        have I7 : Inv X pins σ (upd Hg D (.lst ys)) { s6.setGen s2.gens.size .finished with heap := h' } :=
          I1.drained yD.2.2.2.1 hlen (hk _ _ pD.1) r6 ExOk.nil J.os (allBare_setGen J.bare rfl) (J.base.trans (Un.kept hk)) (J.hok.kept hk) pD.2.1
        obtain ⟨mC7, ns7⟩ := dk6.2
        exact hRR D C _ mC7 _ I7 (hq D pD.2.1) (ns7 _ (hk _ _ pC.1)) (I1.fpOk yC.2.2.2.1 (by rw [upd_ne (Ne.symm ap.DC)]; exact pC.2.1))
    · refine ⟨.fresh (.func [a1, .While tst [.Expr (.Yield (some ye) yp) p1, a2] [] p2] (envOfC qual scope s1.heap.objs.size f cdv)), #[], 0, _, by rw [gens4]; exact Array.getElem?_push_size .., lim1.keeps k4, hgen _ go4, gD4, nC4, rfl, ?_⟩
      subst hXg
      exact seg _
  exact codeAny_compStart_list loop (wpAny_pyIter_gen (hgen _ go4) loop)
/-- found = [y for y in o.m()] on one line, found a local -/
theorem ps_setGl {X : Cx} {i : Nat} {z : Str} {pz : Pos} {o : Expr} {to : TE} {y m : Str} {py1 py2 apos cpos pos spos : Pos} {cscope : Scope} {C0 f : Addr} {fd : FuncData} {k : Nat} {sp : Addr → Hp → (List V → Hp → Prop) → Prop} {pl : Sem Bool}
    (hN : X.N.Nodup) (hz : X.N[i]? = some z) (hzl : X.env.scope.names.lookup z = some .local) (hsw : swapsWith (.ListComp (.Name y py1) [⟨.Name y py2, .Call (.Attribute o m apos) [] [] cpos, [], 0⟩] cscope pos) (some (.Name z pz)) spos.line X.env = pure true)
    (ho : PE X o to) (c : Cls X.K C0) (hm : Meth X.K C0 m f) (F : GenF (gOf X) k f fd sp) (hr : Room (k + 2) X.A) (hnm : ∀ x ∈ cscope.names, x.2 = .local) (hck : cscope.kind = .function) (hlk : ∀ x ∈ cscope.names, cscope.names.lookup x.1 = some .local)
    (hky : ∀ cl C, (compEnvC cscope cl C X.env).kindOf y = some .local) (hkk : ∀ cl C, (compEnvC cscope cl C X.env).scope.kind = .function) (hydb : (y == ("__debug__" : Str)) = false := by decide)
    (ht : eval (.Call (.Attribute o m apos) [] [] cpos) X.env = (do
      let ov ← eval o X.env
      standAt apos.atName
      let (f, first) ← holding [ov] (getMethod ov m pl)
      callWith cpos f first (backTo cpos (starEach [] X.env)) (backToKw cpos (keywordEach [] X.env))) := by rfl)
    (hs : ∀ x, foldedSetIterable (.Call (.Attribute o m apos) [] [] cpos) X.env x = pure x := by intro _; rfl) :
    PS X (.Assign [.Name z pz] (.ListComp (.Name y py1) [⟨.Name y py2, .Call (.Attribute o m apos) [] [] cpos, [], 0⟩] cscope pos) spos) (tAsg (tWalkG C0 m sp to) (gName i)) := by
  refine ⟨fun pins s σ H D I h => ?_⟩
  rw [exec_Assign_Name_used _ _ _ _ hsw]
  refine wpAny_bind (wpAny_standAt (wpAny_bind ?_))
  have h : tWalkG C0 m sp to σ H (fun x H1 => gName i x σ H1 D.nx) := h
  refine wpAny_bind (thn (gl_core (use := some (assign (.Name z pz) X.env)) (pos' := firstIterPos [⟨.Name y py2, .Call (.Attribute o m apos) [] [] cpos, [], 0⟩] pos) (Qf := fun _ s' => SP X pins D .next s') I ho c hm F hr hnm hck hlk hky hkk hydb ht hs h fun L C s' mC H' I' q hn fp => ?_) fun _ s' hq => wpAny_pure (wpAny_pure hq))
  obtain ⟨f0, f1, f2, f3, f4, f5⟩ := fp
  show wpAny _ _ (assign (.Name z pz) X.env (.ref L)) _ _ _
  refine wpAny_assign_Name (store_ok2 (v := V.ref L) I' hN hz (.inl hzl) rfl (fun s2 I2 ⟨a, sb, ha⟩ => ?_) (.inr hzl))
  have apart : C ≠ a := by
    rcases ha with e | e
    · rw [e]; exact f1
    · exact fun same => f4 z a e same.symm
  exact ⟨mC, hn.sameBut sb apart, fun h3 sb3 => ⟨_, H', I2.turned (t' := s2.toks) (fun b o hb e => (sb3.2 b hb).trans e) f0 f1 f3 f4 f5, q⟩⟩
end K48

namespace K48
open PySem PySem.Spec PyProof.Rows L2 ClX
variable {g : GX}
/-! ### in short: loops, pairs, constructors -/
section
variable {K : PySem.W.Frag} {H H' : Hp} {σ : L2.St} {x : V} {Q : L2.St → Hp → Prop} {f h : Nat → Option V} {i a b c : Nat}
theorem gt2 (y : YPair f h i H x H') (q : ∀ u v, f i = some u → h i = some v → Q ((σ.set a (some u)).set b (some v)) H') : gTup K 2 (gCons (gName a) (gCons (gName b) gNil)) x σ H' Q := by
  obtain ⟨T, u, v, rfl, h1, rfl, h2, h3⟩ := y
  exact ⟨T, [u, v], rfl, SqT.of upd_same, rfl, u, [v], rfl, v, [], rfl, rfl, q u v h2 h3⟩
theorem gt_tup {t : Addr} {u v : V} (ht : SqT K H t [u, v]) (q : Q ((σ.set a (some u)).set b (some v)) H) : gTup K 2 (gCons (gName a) (gCons (gName b) gNil)) (.ref t) σ H Q :=
  ⟨t, [u, v], rfl, ht, rfl, u, [v], rfl, v, [], rfl, rfl, q⟩
theorem gt_tup3 {t : Addr} {u v w : V} (ht : SqT K H t [u, v, w]) (q : Q (((σ.set a (some u)).set b (some v)).set c (some w)) H) : gTup K 3 (gCons (gName a) (gCons (gName b) (gCons (gName c) gNil))) (.ref t) σ H Q :=
  ⟨t, [u, v, w], rfl, ht, rfl, u, [v, w], rfl, v, [w], rfl, w, [], rfl, rfl, q⟩
end
theorem noxe {X : Cx} : PassesOwn (model X.nox.prog X.nox.w) X.nox.A X.nox.env X.nox.xe := fun _ _ h => False.elim h
/-- a class is made: positional arguments alone -/
def CalI (g : GX) (k : Nat) (C : Str) (sp : Sp) : Prop := ∃ (f : Addr) (fd : FuncData) (ps : List Str), FnOk g.P g.w g.K g.mg g.base CX0 k f fd ps sp ∧ Mk g.K (He.ga g.K C) f ∧ Binds g.K fd ps []
section
variable {X : Cx} {k j : Nat} {x C : Str} {sp : Sp} {p pos : Pos} {e : Expr} {es : List Expr} {t : TA}
theorem pe_i (c : CalI (gOf X) k C sp) (hr : Room j X.A) (hg : Gl X C) (hm : X.mg C = some (.ref (He.ga X.K C))) (ha : PA X (e :: es) t) (hk : k + 1 ≤ j := by decide) (hdb : (C == ("__debug__" : Str)) = false := by decide)
    (he : starEach (e :: es) X.env = (false, eval e X.env) :: starEach es X.env := by rfl) (hpl : (backTo pos (starEach es X.env)).any (·.1) = false := by rfl) : PE X (.Call (.Name C p) (e :: es) [] pos) (tMake (He.ga X.K C) sp [] E0 t) := by
  obtain ⟨f, fd, ps, F, h1, h2⟩ := c
  exact pe_make h1 F (hr.mono hk) hg hm h2 .nil pass0 ha hdb he hpl
end
theorem rws_get {H : Hp} {xs : List V} {rs : List Row} (h : Rws H xs rs) {i : Nat} {x : V} (e : xs[i]? = some x) : ∃ r, rs[i]? = some r ∧ RwV H x r := by
  induction h generalizing i with
  | nil => cases e
  | cons r t ih =>
    cases i with
    | zero => exact ⟨_, rfl, by rw [← Option.some.inj e]; exact r⟩
    | succ i => exact ih e
theorem rws_len {H : Hp} {xs : List V} {rs : List Row} (h : Rws H xs rs) : xs.length = rs.length := Paired.length h
theorem cut_to (xs : List V) (i : Nat) : cutV xs none (some (i : Int)) = xs.take i := by
  unfold cutV
  rw [HT.sIx_none, HT.sIx_nat, List.drop_zero, Nat.sub_zero]
  by_cases h : i ≤ xs.length
  · rw [Nat.min_eq_left h]
  · rw [Nat.min_eq_right (by omega), List.take_of_length_le (Nat.le_refl _), List.take_of_length_le (by omega)]
theorem cut_from (xs : List V) (i : Nat) : cutV xs (some (i : Int)) none = xs.drop i := by
  unfold cutV
  rw [HT.sIx_none, HT.sIx_nat]
  by_cases h : i ≤ xs.length
  · rw [Nat.min_eq_left h, List.take_of_length_le (by rw [List.length_drop]; omega)]
  · rw [Nat.min_eq_right (by omega), List.drop_of_length_le (Nat.le_refl _), List.drop_of_length_le (by omega)]
    simp
theorem flat_ints (ns : List Int) : (ns.map V.int).all flatV = true := by
  rw [List.all_map, List.all_eq_true]
  exact fun _ _ => rfl
theorem in_ints (k : Int) (ns : List Int) : inV (.int k) (ns.map V.int) = decide (k ∈ ns) := by
  unfold inV
  rw [List.any_map, Bool.eq_iff_iff, List.any_eq_true, decide_eq_true_eq]
  constructor
  · rintro ⟨n, hn, e⟩
    have e2 : n = k := by
      have : eqV (.int n) (.int k) = true := e
      simpa [eqV] using this
    rw [← e2]
    exact hn
  · exact fun h => ⟨k, h, by show eqV (.int k) (.int k) = true; simp [eqV]⟩
theorem pair_get {α β : Type} {F : α → β → Prop} : ∀ {l : List α} {l' : List β} {i : Nat} {b : β}, Paired F l l' → l'[i]? = some b → ∃ a, l[i]? = some a ∧ F a b
  | _, _, _, _, .nil, e => by cases e
  | _, _, 0, _, .cons r t, e => ⟨_, rfl, by rw [← Option.some.inj e]; exact r⟩
  | _, _, i + 1, _, .cons r t, e => pair_get (i := i) t e
theorem lr_map {α : Type} {l : List α} {f : α → V} {n : Nat} {H : Hp} {ys : List V} (hn : n = l.length) (h : LR n (fun _ => true) (fun i y _ => ∃ r, l[i]? = some r ∧ y = f r) H ys) : ys = l.map f := by
  unfold LR at h
  rw [List.filter_eq_self.mpr fun _ _ => rfl] at h
  have hl := Paired.length h
  rw [List.length_range] at hl
  refine List.ext_getElem? fun i => ?_
  cases e : ys[i]? with
  | none =>
    have := List.getElem?_eq_none_iff.mp e
    rw [List.getElem?_map, List.getElem?_eq_none_iff.mpr (by omega)]
    rfl
  | some y =>
    obtain ⟨j, hj, r, hr, rfl⟩ := pair_get h e
    obtain ⟨hi, e2⟩ := List.getElem?_eq_some_iff.mp hj
    rw [List.getElem_range] at e2
    subst e2
    rw [List.getElem?_map, hr]
    rfl
theorem dp_row {K : PySem.W.Frag} {H : Hp} {v : V} {r : Row} (h : RwV H v r) : Dp K H v (.tuple [.int r.1, .int r.2.1, .tuple [.int r.2.2]]) := by
  obtain ⟨a, b, rfl, ha, hb⟩ := h
  exact .tup (.of ha) (.cons (.int _) (.cons (.int _) (.cons (.tup (.of hb) (.cons (.int _) .nil)) .nil)))
theorem rws_zip {H : Hp} : ∀ {xs : List V} {rs : List Row}, Rws H xs rs → ∃ bs : List (V × Row), bs.map (·.1) = xs ∧ bs.map (·.2) = rs ∧ ∀ b ∈ bs, RwV H b.1 b.2
  | _, _, .nil => ⟨[], rfl, rfl, fun b h => by cases h⟩
  | _, _, .cons (a := x) (b := p) r t => by
    obtain ⟨bs, h1, h2, h3⟩ := rws_zip t
    refine ⟨(x, p) :: bs, by rw [List.map_cons, h1], by rw [List.map_cons, h2], fun b hb => ?_⟩
    rcases List.mem_cons.mp hb with rfl | hb
    · exact r
    · exact h3 b hb
theorem rws_of {H : Hp} : ∀ {bs : List (V × Row)}, (∀ b ∈ bs, RwV H b.1 b.2) → Rws H (bs.map (·.1)) (bs.map (·.2))
  | [], _ => .nil
  | b :: bs, h => .cons (h b List.mem_cons_self) (rws_of fun c hc => h c (List.mem_cons_of_mem _ hc))
/-! ### tables.py: Table -/
structure RowsOk (P : Nat) (rs : List Row) : Prop where
  key : ∀ r ∈ rs, -BND ≤ r.1 ∧ r.1 ≤ BND ∧ 0 ≤ r.2.1 ∧ r.2.1 ≤ BND ∧ r.2.2 < P
  nd : (rs.map (·.2.1)).Nodup
  few : rs.length ≤ 63
def spTable (K : PySem.W.Frag) : Sp := fun vs H Q _ => ∃ (t a dx : Addr) (P : Nat) (xs : List V) (rs : List Row), vs = [.ref t, .int P, .ref a] ∧ H t = some (.ins (He.ga K "Table") dx []) ∧ H a = some (.lst xs) ∧ Rws H xs rs ∧ 1 ≤ P ∧ P ≤ 4 ∧ RowsOk P rs ∧
  ∀ H' r ys rs', Up K [t] H H' → Fr H r → H' t = some (.ins (He.ga K "Table") dx [("own_many", .int P), ("own_rows", .ref r)]) → H' r = some (.lst ys) → Rws H' ys rs' → rs'.Perm rs → Q .non H'
theorem c_Table (T : Tx g) : CalI g 4 "Table" (spTable g.K) := by
  obtain ⟨fd, F⟩ := T.fun_ in_Table___init__
  refine ⟨_, fd, p_Table___init__, def_ok F sc_Table___init__ (fun vs H Q E h => ?_) (fun cdv A outer s H vs Q E hr h => ?_), mk_Table T, F.bindsN fun _ _ _ _ _ _ us hl => match us, hl with | [_, _, _], _ => rfl⟩
  · obtain ⟨_, _, _, _, _, _, rfl, _⟩ := h
    rfl
  · obtain ⟨t, a, dx, P, xs, rs, rfl, ht, ha, hx, p1, p4, ok, q⟩ := h
    have nd := sc_Table___init__.nd
    obtain ⟨mc, uu, rr, cc⟩ := T.cv.mostRows
    refine ⟨_, pss_cons (ps_expr (pe_c (c_need_many T) hr (pa_cons (pv 1) pa_nil)))
      (pss_cons (ps_for (g := gTup g.K 2 (gCons (gName 3) (gCons (gName 4) gNil))) noxe rfl (pi_enum (by rfl) (f_enumerate T) (pa_cons (pv 2) pa_nil)) (pg_tup rfl (pgs_cons (pg_name (i := 3) nd rfl (Or.inl rfl)) (pgs_cons (pg_name (i := 4) nd rfl (Or.inl rfl)) pgs_nil)))
        (pss_one (ps_if (pt_not (pt_val (pe_c (c_is_row T) hr (pa_cons (pv 4) (pa_cons (pv 1) pa_nil))))) (pss_one ps_never) pss_nil)))
      (pss_cons (ps_setLc (i := 5) (own := [("row", 4)]) (g := gName 4) (tt := tYes) rfl nd rfl rfl (sw_true rfl rfl rfl rfl) (pi_list (pv 2)) (blkOk_by (N := N_Table___init__) (sc := defScope s_Table___init__) (by decide +kernel))
        (fun _ _ _ _ _ => pg_name (i := 4) nd rfl (Or.inl rfl)) (fun _ _ _ _ _ => pts_nil) (fun _ _ _ _ _ => pe_ix (r := rIxT g.K) ix_tup (pv 4) pe_int (fun _ _ => rfl)))
      (pss_cons (ps_for (g := gTup g.K 2 (gCons (gName 3) (gCons (gName 6) gNil))) noxe rfl (pi_enum (by rfl) (f_enumerate T) (pa_cons (pv 5) pa_nil)) (pg_tup rfl (pgs_cons (pg_name (i := 3) nd rfl (Or.inl rfl)) (pgs_cons (pg_name (i := 6) nd rfl (Or.inl rfl)) pgs_nil)))
        (pss_one (ps_if (pt_cmpR op_in_seq (pv 6) (pe_slice sl_list (pv 5) po_none (po_some (pv 3))) rfl) (pss_one ps_never) pss_nil)))
      (pss_cons (ps_if (pt_cmpR op_gt (pe_callB call_len_seq (by rfl) (f_len T) PySem.boot_len (pa_cons (pv 2) pa_nil)) (pe_cval (pe_glob (v := .ref (He.ga g.K "Table")) rfl (g_Table T) rfl)) (nomark _)) (pss_one ps_never) pss_nil)
      (pss_cons (ps_fld (f := "own_many") (pv 0) (pv 1) rfl)
      (pss_one (ps_fld (f := "own_rows") (pv 0) (pe_callB (call_sortD (δ := Row) (enc := fun r => .tuple [.int r.1, .int r.2.1, .tuple [.int r.2.2]]) hr.units) (by rfl) (f_sorted T) (by decide +kernel) (pa_cons (pv 2) pa_nil)) rfl))))))), ?_⟩
    refine ⟨_, rfl, P, rfl, by omega, by omega, _, rfl, a, xs, rfl, SqL.of ha, for_it walk_enum (fun i σ H2 => Up g.K [] H H2 ∧ ∃ u v, σ = [some (.ref t), some (.int P), some (.ref a), u, v, none, none]) ⟨Up.refl, _, _, rfl⟩ (fun i σ H2 _ p => SqL.of (p.1.lst ha)) ?_ ?_⟩
    · rintro i x σ H2 H3 hi ⟨e, u, v, rfl⟩ y
      have e3 := e.trans (yp_up (ms := []) y)
      refine gt2 y fun u2 v2 h1 h2 => ?_
      obtain ⟨r, hr2, hrw⟩ := rws_get hx h2
      obtain ⟨k1, k2, k3, k4, k5⟩ := ok.key r (List.mem_of_getElem? hr2)
      exact ⟨_, rfl, _, rfl, v2, r, P, rfl, e3.ts.rw hrw, k1, k2, k3, k4, by omega, fun w H4 e4 hw => ⟨_, hw, iteF ⟨e3.trans e4, _, _, rfl⟩⟩⟩
    · rintro σ H2 ⟨e, u, v, rfl⟩
      refine ⟨_, rfl, a, rfl, ⟨xs, SqL.of (e.lst ha)⟩, fun D hD => ?_⟩
      have hlen := rws_len hx
      refine lc_walk (K := g.K) (walk_list (xs := xs)) [] (fun _ => true) (fun i y _ => ∃ r, rs[i]? = some r ∧ y = .int r.2.1) hD (fun H' e2 => SqL.of (e2.lst (e.lst ha))) (fun i H x H' y => ya_up y) (by have := ok.few; omega) (fun _ _ _ _ _ h => h)
        (turn_name (by simp) fun i x H3 hi hx3 e3 _ => ⟨EvB.yes, fun _ H4 e4 Q4 k4 => ?_⟩) (by simp) fun ys H3 e3 eD lr => ?_
      · obtain ⟨r, hr2, b1, b2, rfl, hb1, hb2⟩ := rws_get hx hx3
        have up := (e.trans e3).trans e4
        exact ⟨_, rfl, b1, _, 1, _, rfl, rfl, SqT.of (up.tup _ _ hb1), rfl, k4 _ _ Up.refl ⟨r, hr2, rfl⟩⟩
      · obtain rfl := lr_map hlen lr
        have eN : (rs.map fun r => V.int r.2.1) = (rs.map (·.2.1)).map V.int := by rw [List.map_map]; rfl
        rw [eN] at eD
        have up3 := e.trans e3
        refine ⟨_, rfl, D, _, rfl, SqL.of eD, for_it walk_enum (fun i σ H4 => Up g.K [] H H4 ∧ H4 D = some (.lst ((rs.map (·.2.1)).map V.int)) ∧ ∃ u v w, σ = [some (.ref t), some (.int P), some (.ref a), u, v, some (.ref D), w]) ⟨up3, eD, _, _, _, rfl⟩ (fun i σ H2 _ p => SqL.of p.2.1) ?_ ?_⟩
        · rintro i x σ H4 H5 hi ⟨e4, eD4, u, v, w, rfl⟩ y
          have eY := yp_up (K := g.K) (ms := []) y
          refine gt2 y fun u2 v2 h1 h2 => ?_
          have eD5 := eY.lst eD4
          rw [List.getElem?_map] at h2
          obtain ⟨k, hk, rfl⟩ := Option.map_eq_some_iff.mp h2
          obtain rfl := Option.some.inj h1
          refine ⟨_, rfl, _, rfl, _, rfl, i, rfl, D, _, rfl, SqL.of eD5, fun p hp => ?_⟩
          have no : inV (.int k) (cutV ((rs.map (·.2.1)).map V.int) none (some (i : Int))) = false := by
            rw [cut_to, ← List.map_take, in_ints, decide_eq_false_iff_not]
            intro hm
            obtain ⟨j, hj, ej⟩ := List.getElem_of_mem hm
            rw [List.getElem_take] at ej
            obtain ⟨hi2, ek⟩ := List.getElem?_eq_some_iff.mp hk
            rw [List.length_take] at hj
            exact absurd (ej.trans ek.symm) (List.pairwise_iff_getElem.mp ok.nd j i (by omega) hi2 (by omega))
          refine ⟨p, _, rfl, .inl (SqL.of upd_same), rfl, by rw [cut_to, ← List.map_take]; exact flat_ints _, _, rfl, ?_⟩
          rw [if_neg Bool.false_ne_true, no]
          have eP : Up g.K [] H5 (upd H5 p (.lst (cutV ((rs.map (·.2.1)).map V.int) none (some (i : Int))))) := Up.new hp
          exact iteF ⟨(e4.trans eY).trans eP, eP.lst eD5, _, _, _, rfl⟩
        · rintro σ H4 ⟨e4, eD4, u, v, w, rfl⟩
          refine ⟨_, rfl, a, xs, rfl, .inl (SqL.of (e4.lst ha)), _, mc, _, uu, rfl, rr, cc, _, _, rfl, rfl, _, rfl, ?_⟩
          have l1 : ¬ (300 : Int) < (xs.length : Int) := by have := rws_len hx; have := ok.few; omega
          rw [decide_eq_false l1]
          refine iteF ⟨_, rfl, _, rfl, t, _, dx, [], rfl, e4.ins ht, cl_Table T, n_Table_own_many T, by decide, ?_⟩
          have e5 : Up g.K [t] H (upd H4 t (.ins (He.ga g.K "Table") dx (putF "own_many" (.int P) []))) := e4.wide.trans (Up.set (e4.ins ht) trivial (by simp))
          obtain ⟨bs, b1, b2, hb⟩ := rws_zip hx
          refine ⟨_, rfl, a, bs, rfl, SqL.of ?_, fun b hb2 => dp_row (e5.ts.rw (hb b hb2)), PySem.W.AllAlike.of fun b b' => by simp [PySem.W.alike, PySem.W.alikeAll], PySem.W.Sortable.tuples fun b => ⟨_, _, rfl⟩, fun b _ => by simp [PyData.depth, PyData.depthAll], fun r hr2 => ⟨_, rfl, t, _, dx, [("own_many", .int P)], rfl, ?_, cl_Table T, n_Table_own_rows T, by show 1 < 1000; decide, ?_⟩⟩
          · rw [b1]
            exact e5.lst ha (by rw [List.mem_singleton]; exact fun e => by rw [e, ht] at ha; cases ha)
          · have et : upd H4 t (.ins (He.ga g.K "Table") dx (putF "own_many" (.int P) [])) t = some (.ins (He.ga g.K "Table") dx [("own_many", .int P)]) := upd_same
            rw [upd_ne (ne_of_none et hr2)]
            exact et
          · have et : upd H4 t (.ins (He.ga g.K "Table") dx (putF "own_many" (.int P) [])) t = some (.ins (He.ga g.K "Table") dx [("own_many", .int P)]) := upd_same
            have ne : t ≠ r := ne_of_none et hr2
            have e6 := e5.trans (Up.new (K := g.K) (ms := [t]) (o := .lst ((bs.mergeSort (PySem.W.dataLe false fun b : V × Row => .tuple [.int b.2.1, .int b.2.2.1, .tuple [.int b.2.2.2]])).map (·.1))) hr2)
            have et6 : upd (upd H4 t (.ins (He.ga g.K "Table") dx (putF "own_many" (.int P) []))) r (.lst ((bs.mergeSort (PySem.W.dataLe false fun b : V × Row => .tuple [.int b.2.1, .int b.2.2.1, .tuple [.int b.2.2.2]])).map (·.1))) t = some (.ins (He.ga g.K "Table") dx [("own_many", .int P)]) := by
              rw [upd_ne ne]
              exact et
            have e7 := e6.trans (Up.set (u := .ins (He.ga g.K "Table") dx (putF "own_rows" (.ref r) [("own_many", .int P)])) et6 trivial (by simp))
            refine q _ r _ ((bs.mergeSort (PySem.W.dataLe false fun b : V × Row => .tuple [.int b.2.1, .int b.2.2.1, .tuple [.int b.2.2.2]])).map (·.2)) e7 (e5.fresh hr2) upd_same (by rw [upd_ne (Ne.symm ne)]; exact upd_same) (rws_of fun b hm => e7.ts.rw (hb b (List.mem_mergeSort.mp hm))) ?_
            rw [← b2]
            exact (List.mergeSort_perm _ _).map _
end K48

namespace K48
open PySem PySem.Spec PyProof.Rows L2 ClX
variable {g : GX}
/-! ### comprehensions over rows -/
theorem wipe_set {x : Option V} {j : Nat} : ∀ {ws : List Nat} {τ : L2.St}, j ∈ ws → wipe (τ.set j x) ws = wipe τ ws := by
  intro ws
  induction ws with
  | nil => intro τ hm; cases hm
  | cons w r ih =>
    intro τ hm
    show (wipe (τ.set j x) r).set w none = (wipe τ r).set w none
    by_cases hr : j ∈ r
    · rw [ih hr]
    · rcases List.mem_cons.mp hm with rfl | hm
      · have no : ∀ (us : List Nat) (υ : L2.St), j ∉ us → wipe (υ.set j x) us = (wipe υ us).set j x := by
          intro us
          induction us with
          | nil => exact fun _ _ => rfl
          | cons u us ihu =>
            intro υ hn
            show (wipe (υ.set j x) us).set u none = ((wipe υ us).set u none).set j x
            rw [ihu υ (fun h => hn (List.mem_cons_of_mem _ h)), List.set_comm _ _ (fun e => hn (by rw [e]; exact List.mem_cons_self))]
        rw [no r _ hr, List.set_set]
      · exact absurd hm hr
theorem wipe_one {w : Nat} : ∀ {us : List Nat} {τ : L2.St}, wipe (τ.set w none) us = (wipe τ us).set w none := by
  intro us
  induction us with
  | nil => exact rfl
  | cons u us ih =>
    intro τ
    show (wipe (τ.set w none) us).set u none = ((wipe τ us).set u none).set w none
    rw [ih]
    by_cases e : w = u
    · rw [e]
    · rw [List.set_comm _ _ e]
theorem wipe_two : ∀ {ws : List Nat} {τ : L2.St}, wipe (wipe τ ws) ws = wipe τ ws := by
  intro ws
  induction ws with
  | nil => exact rfl
  | cons w r ih =>
    intro τ
    show (wipe ((wipe τ r).set w none) r).set w none = (wipe τ r).set w none
    rw [wipe_one, ih, List.set_set]
section
variable {K : PySem.W.Frag} {σ : L2.St} {te : TE} {tt : TT} {D : Addr} {H1 : Hp}
/-- a turn whose target is a row's three items -/
theorem turn_row {a b c : Nat} {ms vs : List Nat} {mm : List Addr} {xs : List V} {rs : List Row} {n : Nat} {f : Nat → Bool} {R : Nat → V → Hp → Prop} (hx : ∀ H, Up K mm H1 H → Rws H xs rs) (ha : a ∈ vs) (hb : b ∈ vs) (hc : c ∈ vs)
    (h : ∀ i r p H, i < n → rs[i]? = some r → Up K mm H1 H → (∃ zs, H D = some (.lst zs)) → H p = some (.tup [.int r.2.2]) →
      EvB K mm tt ((((wipe σ vs).set a (some (.int r.1))).set b (some (.int r.2.1))).set c (some (.ref p))) H (f i) ∧ (f i = true → ∀ H3, Up K mm H H3 → EvP K mm te ((((wipe σ vs).set a (some (.int r.1))).set b (some (.int r.2.1))).set c (some (.ref p))) H3 (R i))) :
    ∀ i x H H', i < n → Up K mm H1 H → (∃ zs, H D = some (.lst zs)) → YAt xs i H x H' → ∀ QQ : L2.St → Hp → Prop,
      (∀ σ2 H2, Up K mm H' H2 → wipe σ2 vs = wipe σ vs → EvB K mm tt σ2 H2 (f i) → (f i = true → ∀ H3, Up K mm H2 H3 → EvP K mm te σ2 H3 (R i)) → QQ σ2 H2) → gTup K 3 (gCons (gName a) (gCons (gName b) (gCons (gName c) gNil))) x (wipe σ vs) H' QQ := by
  intro i x H H' hi e hD y QQ q
  obtain ⟨rfl, hx2⟩ := y
  obtain ⟨r, hr, t, p, rfl, ht, hp⟩ := rws_get (hx H' e) hx2
  obtain ⟨h1, h2⟩ := h i r p H' hi hr e hD hp
  exact gt_tup3 (SqT.of ht) (q _ H' Up.refl (by rw [wipe_set hc, wipe_set hb, wipe_set ha, wipe_two]) h1 h2)
end
theorem lr_filter {α : Type} {l : List α} {f : Nat → Bool} {φ : α → Bool} {F : V → α → Hp → Prop} {n : Nat} {H : Hp} {ys : List V} (hn : n = l.length) (hf : ∀ i r, l[i]? = some r → f i = φ r) (h : LR n f (fun i y H => ∃ r, l[i]? = some r ∧ F y r H) H ys) :
    Paired (fun y r => F y r H) ys (l.filter φ) := by
  subst hn
  have e : ∀ n, n ≤ l.length → ((List.range n).filter f).filterMap (fun i => l[i]?) = (l.take n).filter φ := by
    intro n
    induction n with
    | zero => intro _; simp
    | succ n ih =>
      intro hn
      have hx : l[n]? = some (l[n]'(by omega)) := List.getElem?_eq_getElem (by omega)
      rw [List.range_succ, List.filter_append, List.filterMap_append, ih (by omega), List.take_succ, List.filter_append, hx]
      congr 1
      have e2 := hf n _ hx
      cases q : f n with
      | true =>
        rw [q] at e2
        rw [List.filter_cons, if_pos q]
        simp [hx, ← e2]
      | false =>
        rw [q] at e2
        rw [List.filter_cons, if_neg (by rw [q]; exact Bool.false_ne_true)]
        simp [← e2]
  have e1 := e l.length (Nat.le_refl _)
  rw [List.take_of_length_le (Nat.le_refl _)] at e1
  rw [← e1]
  unfold LR at h
  generalize (List.range l.length).filter f = is at h
  induction h with
  | nil => exact .nil
  | cons r t ih =>
    obtain ⟨x, hx, hF⟩ := r
    rw [List.filterMap_cons, hx]
    exact .cons hF ih
/-! ### the table -/
abbrev plc (r : Row) : Place := (r.1, r.2.1)
structure TabO (K : PySem.W.Frag) (H : Hp) (t r : Addr) (P : Nat) (rs : List Row) : Prop where
  ins : ∃ dx, H t = some (.ins (He.ga K "Table") dx [("own_many", .int P), ("own_rows", .ref r)])
  row : ∃ ys, H r = some (.lst ys) ∧ Rws H ys rs
theorem TabO.up {K : PySem.W.Frag} {ms : List Addr} {H H' : Hp} {t r : Addr} {P : Nat} {rs : List Row} (o : TabO K H t r P rs) (e : Up K ms H H') (h1 : t ∉ ms := by simp) (h2 : r ∉ ms := by simp) : TabO K H' t r P rs := by
  obtain ⟨⟨dx, a⟩, ys, b, c⟩ := o
  exact ⟨⟨dx, e.ins a h1⟩, ys, e.lst b h2, e.ts.rws c⟩
/-- self.own_rows, self.own_many -/
def spRows (K : PySem.W.Frag) : Sp := fun vs H Q _ => ∃ (t r : Addr) (P : Nat) (rs : List Row), vs = [.ref t] ∧ TabO K H t r P rs ∧ Ret K [] H (fun v H' => ∃ p ys, v = .ref p ∧ Fr H p ∧ H' p = some (.lst ys) ∧ Rws H' ys rs) Q
theorem c_Table_rows (T : Tx g) : CalM g 1 "Table" "rows" (spRows g.K) := by
  obtain ⟨fd, F⟩ := T.fun_ in_Table_rows
  refine ⟨_, fd, p_Table_rows, def_ok F sc_Table_rows (fun vs H Q E h => ?_) (fun cdv A outer s H vs Q E hr h => ?_), cl_Table T, m_Table_rows T, F.bindsN fun _ _ _ _ _ _ us hl => match us, hl with | [_], _ => rfl⟩
  · obtain ⟨_, _, _, _, rfl, _⟩ := h
    rfl
  · obtain ⟨t, r, P, rs, rfl, ⟨⟨dx, ht⟩, ys, hr2, hy⟩, q⟩ := h
    refine ⟨_, pss_one (ps_ret (pe_callTy call_list_of (by rfl) (f_list T) boot_list (pa_cons (pe_fld (f := "own_rows") (pv 0) rfl) pa_nil))), ?_⟩
    refine ⟨_, rfl, t, _, dx, _, _, rfl, ht, cl_Table T, n_Table_own_rows T, rfl, r, ys, rfl, .inl (SqL.of hr2), fun l hl => ?_⟩
    have e : Up g.K [] H (upd H l (.lst ys)) := Up.new hl
    exact q _ _ e ⟨l, ys, rfl, .of hl, upd_same, e.ts.rws hy⟩
def spPlaces (K : PySem.W.Frag) : Sp := fun vs H Q _ => ∃ (t r : Addr) (P : Nat) (rs : List Row), vs = [.ref t] ∧ TabO K H t r P rs ∧ rs.length ≤ 63 ∧ Ret K [] H (fun v H' => ∃ p ys, v = .ref p ∧ Fr H p ∧ H' p = some (.lst ys) ∧ Pls H' ys (rs.map plc)) Q
theorem c_Table_places (T : Tx g) : CalM g 1 "Table" "places" (spPlaces g.K) := by
  obtain ⟨fd, F⟩ := T.fun_ in_Table_places
  refine ⟨_, fd, p_Table_places, def_ok F sc_Table_places (fun vs H Q E h => ?_) (fun cdv A outer s H vs Q E hr h => ?_), cl_Table T, m_Table_places T, F.bindsN fun _ _ _ _ _ _ us hl => match us, hl with | [_], _ => rfl⟩
  · obtain ⟨_, _, _, _, rfl, _⟩ := h
    rfl
  · obtain ⟨t, r, P, rs, rfl, ⟨⟨dx, ht⟩, ys, hr2, hy⟩, few, q⟩ := h
    have nd := sc_Table_places.nd
    refine ⟨_, pss_one (ps_ret (pe_lc (own := [("key", 1), ("number", 2), ("some", 3)]) (g := gTup g.K 3 (gCons (gName 1) (gCons (gName 2) (gCons (gName 3) gNil)))) (tt := tYes) rfl nd (pi_list (pe_fld (f := "own_rows") (pv 0) rfl))
      (blkOk_by (N := N_Table_places) (sc := defScope s_Table_places) (by decide +kernel)) (fun _ _ _ _ _ => pg_tup rfl (pgs_cons (pg_name (i := 1) nd rfl (Or.inl rfl)) (pgs_cons (pg_name (i := 2) nd rfl (Or.inl rfl)) (pgs_cons (pg_name (i := 3) nd rfl (Or.inl rfl)) pgs_nil))))
      (fun _ _ _ _ _ => pts_nil) (fun _ _ _ _ _ => pe_tup (pa_cons (pv 1) (pa_cons (pv 2) pa_nil))))), ?_⟩
    refine ⟨_, rfl, t, _, dx, _, _, rfl, ht, cl_Table T, n_Table_own_rows T, rfl, r, rfl, ⟨ys, SqL.of hr2⟩, fun D hD => ?_⟩
    have hlen := rws_len hy
    refine lc_walk (K := g.K) (walk_list (xs := ys)) [] (fun _ => true) (fun i y H => ∃ r, rs[i]? = some r ∧ PlV H y (plc r)) hD (fun H' e => SqL.of (e.lst hr2)) (fun i H x H' y => ya_up y) (by omega) (fun i y H H' e h => let ⟨r, h1, h2⟩ := h; ⟨r, h1, e.ts.pl h2⟩)
      (turn_row (vs := [1, 2, 3]) (ms := []) (fun H2 e => e.ts.rws hy) (by simp) (by simp) (by simp) fun i r p H2 hi hr e _ hp => ⟨EvB.yes, fun _ H3 e3 Q3 k3 => ?_⟩) (by simp) fun zs H3 e eD lr => ?_
    · refine ⟨_, rfl, _, rfl, (by show 2 ≤ sizeLine; decide), fun T hT => ?_⟩
      exact k3 _ _ (Up.new hT) ⟨r, hr, T, rfl, upd_same⟩
    · have := lr_filter (φ := fun _ => true) (F := fun y r H => PlV H y (plc r)) hlen (fun _ _ _ => rfl) lr
      rw [List.filter_eq_self.mpr fun _ _ => rfl] at this
      refine q _ _ e ⟨D, zs, rfl, .of hD, eD, ?_⟩
      have mp : ∀ {zs : List V} {rs : List Row}, Paired (fun y r => PlV H3 y (plc r)) zs rs → Pls H3 zs (rs.map plc) := by
        intro zs rs h
        induction h with
        | nil => exact .nil
        | cons r t ih => exact .cons r ih
      exact mp this
end K48

namespace K48
open PySem PySem.Spec PyProof.Rows L2 ClX
variable {g : GX}
theorem pls_map {H : Hp} : ∀ {zs : List V} {rs : List Row}, Paired (fun y r => PlV H y (plc r)) zs rs → Pls H zs (rs.map plc)
  | _, _, .nil => .nil
  | _, _, .cons r t => .cons r (pls_map t)
def ofP (p : Nat) (rs : List Row) : List Place := (rs.filter fun r => decide (r.2.2 = p)).map plc
def spPart (K : PySem.W.Frag) : Sp := fun vs H Q _ => ∃ (t r : Addr) (P p : Nat) (rs : List Row), vs = [.ref t, .int p] ∧ TabO K H t r P rs ∧ p < P ∧ rs.length ≤ 63 ∧ Ret K [] H (fun v H' => ∃ d ys, v = .ref d ∧ Fr H d ∧ H' d = some (.lst ys) ∧ Pls H' ys (ofP p rs)) Q
theorem c_Table_part (T : Tx g) : CalM g 3 "Table" "part" (spPart g.K) := by
  obtain ⟨fd, F⟩ := T.fun_ in_Table_part
  refine ⟨_, fd, p_Table_part, def_ok F sc_Table_part (fun vs H Q E h => ?_) (fun cdv A outer s H vs Q E hr h => ?_), cl_Table T, m_Table_part T, F.bindsN fun _ _ _ _ _ _ us hl => match us, hl with | [_, _], _ => rfl⟩
  · obtain ⟨_, _, _, _, _, rfl, _⟩ := h
    rfl
  · obtain ⟨t, r, P, p, rs, rfl, ⟨⟨dx, ht⟩, ys, hr2, hy⟩, hp, few, q⟩ := h
    have nd := sc_Table_part.nd
    refine ⟨_, pss_cons (ps_expr (pe_c (c_need_part T) hr (pa_cons (pv 1) (pa_cons (pe_fld (f := "own_many") (pv 0) rfl) pa_nil))))
      (pss_one (ps_ret (pe_lc (own := [("key", 2), ("number", 3), ("some", 4)]) (g := gTup g.K 3 (gCons (gName 2) (gCons (gName 3) (gCons (gName 4) gNil)))) (tt := tTest (tOp (rIn g.K false) (tVar 1) (tVar 4))) rfl nd (pi_list (pe_fld (f := "own_rows") (pv 0) rfl))
      (blkOk_by (N := N_Table_part) (sc := defScope s_Table_part) (by decide +kernel)) (fun _ _ _ _ _ => pg_tup rfl (pgs_cons (pg_name (i := 2) nd rfl (Or.inl rfl)) (pgs_cons (pg_name (i := 3) nd rfl (Or.inl rfl)) (pgs_cons (pg_name (i := 4) nd rfl (Or.inl rfl)) pgs_nil))))
      (fun _ _ _ _ _ => pts_one (pt_cmpR op_in_seq (pv 1) (pv 4) rfl)) (fun _ _ _ _ _ => pe_tup (pa_cons (pv 2) (pa_cons (pv 3) pa_nil)))))), ?_⟩
    refine ⟨_, rfl, _, rfl, t, _, dx, _, _, rfl, ht, cl_Table T, n_Table_own_many T, rfl, p, P, rfl, by omega, by omega, ?_⟩
    refine ⟨_, rfl, t, _, dx, _, _, rfl, ht, cl_Table T, n_Table_own_rows T, rfl, r, rfl, ⟨ys, SqL.of hr2⟩, fun D hD => ?_⟩
    have hlen := rws_len hy
    refine lc_walk (K := g.K) (walk_list (xs := ys)) [] (fun i => (rs[i]?.map fun r => decide (r.2.2 = p)).getD false) (fun i y H => ∃ r, rs[i]? = some r ∧ PlV H y (plc r)) hD (fun H' e => SqL.of (e.lst hr2)) (fun i H x H' y => ya_up y) (by omega) (fun i y H H' e h => let ⟨r, h1, h2⟩ := h; ⟨r, h1, e.ts.pl h2⟩)
      (turn_row (vs := [2, 3, 4]) (ms := []) (fun H2 e => e.ts.rws hy) (by simp) (by simp) (by simp) fun i r2 b H2 hi hr3 e _ hb => ⟨fun Q3 k3 => ?_, fun _ H3 e3 Q3 k3 => ?_⟩) (by simp) fun zs H3 e eD lr => ?_
    · refine ⟨_, rfl, _, rfl, b, _, rfl, .inr (SqT.of hb), rfl, rfl, _, rfl, ?_⟩
      rw [if_neg Bool.false_ne_true]
      have e1 : inV (.int (p : Int)) [.int (r2.2.2 : Int)] = decide (r2.2.2 = p) := by
        have := in_ints (p : Int) [(r2.2.2 : Int)]
        rw [show [V.int (r2.2.2 : Int)] = [(r2.2.2 : Int)].map V.int from rfl, this]
        apply decide_eq_decide.mpr
        rw [List.mem_singleton]
        omega
      rw [e1]
      have := k3 H2 Up.refl
      rw [hr3] at this
      exact this
    · refine ⟨_, rfl, _, rfl, (by show 2 ≤ sizeLine; decide), fun T hT => ?_⟩
      exact k3 _ _ (Up.new hT) ⟨r2, hr3, T, rfl, upd_same⟩
    · have := lr_filter (φ := fun r => decide (r.2.2 = p)) (F := fun y r H => PlV H y (plc r)) hlen (fun i r h => by rw [h]; rfl) lr
      exact q _ _ e ⟨D, zs, rfl, .of hD, eD, pls_map this⟩
def spRowOf (K : PySem.W.Frag) : Sp := fun vs H Q _ => ∃ (t r : Addr) (P : Nat) (n : Int) (rs : List Row), vs = [.ref t, .int n] ∧ TabO K H t r P rs ∧ rs.length ≤ 63 ∧ (∃ w ∈ rs, w.2.1 = n) ∧ Ret K [] H (fun v H' => ∃ w ∈ rs, w.2.1 = n ∧ RwV H' v w) Q
theorem c_Table_row_of (T : Tx g) : CalM g 2 "Table" "row_of" (spRowOf g.K) := by
  obtain ⟨fd, F⟩ := T.fun_ in_Table_row_of
  refine ⟨_, fd, p_Table_row_of, def_ok F sc_Table_row_of (fun vs H Q E h => ?_) (fun cdv A outer s H vs Q E hr h => ?_), cl_Table T, m_Table_row_of T, F.bindsN fun _ _ _ _ _ _ us hl => match us, hl with | [_, _], _ => rfl⟩
  · obtain ⟨_, _, _, _, _, rfl, _⟩ := h
    rfl
  · obtain ⟨t, r, P, n, rs, rfl, ⟨⟨dx, ht⟩, ys, hr2, hy⟩, few, ⟨w0, hw0, ew0⟩, q⟩ := h
    have nd := sc_Table_row_of.nd
    refine ⟨_, pss_cons (ps_for (g := gName 2) noxe rfl (pi_list (pe_fld (f := "own_rows") (pv 0) rfl)) (pg_name (i := 2) nd rfl (Or.inl rfl))
        (pss_one (ps_if (pt_val (pe_c (c_is_number T) hr (pa_cons (pv 1) (pa_cons (pe_ix ix_tup (pv 2) pe_int (fun _ _ => rfl)) (pa_cons (pe_ix ix_tup (pv 2) pe_int (fun _ _ => rfl)) pa_nil))))) (pss_one (ps_ret (pv 2))) pss_nil)))
      (pss_one ps_never), ?_⟩
    have hlen := rws_len hy
    refine ⟨_, rfl, t, _, dx, _, _, rfl, ht, cl_Table T, n_Table_own_rows T, rfl, r, rfl, ⟨ys, SqL.of hr2⟩, for_it (walk_list (xs := ys)) (fun i σ H2 => H2 = H ∧ (∃ u, σ = [some (.ref t), some (.int n), u]) ∧ ∀ j w, j < i → rs[j]? = some w → w.2.1 ≠ n) ⟨rfl, ⟨_, rfl⟩, fun j _ h => absurd h (Nat.not_lt_zero j)⟩ (fun i σ H2 _ p => by rw [p.1]; exact SqL.of hr2) ?_ ?_⟩
    · rintro i x σ H2 H3 hi ⟨rfl, ⟨u, rfl⟩, before⟩ ⟨rfl, hx⟩
      obtain ⟨w, hw, a, b, rfl, ha, hb⟩ := rws_get hy hx
      refine ⟨_, rfl, _, rfl, a, _, 1, _, rfl, rfl, SqT.of ha, rfl, _, rfl, a, _, 1, _, rfl, rfl, SqT.of ha, rfl, n, w.2.1, w.2.1, rfl, _, rfl, ?_⟩
      by_cases e : w.2.1 = n
      · rw [decide_eq_true (show w.2.1 ≤ n ∧ n ≤ w.2.1 by omega)]
        exact iteT ⟨_, rfl, q _ _ Up.refl ⟨w, List.mem_of_getElem? hw, e, a, b, rfl, ha, hb⟩⟩
      · rw [decide_eq_false (show ¬ (w.2.1 ≤ n ∧ n ≤ w.2.1) by omega)]
        refine iteF ⟨rfl, ⟨_, rfl⟩, fun j w2 hj hw2 => ?_⟩
        by_cases e2 : j = i
        · subst e2
          rw [hw] at hw2
          rw [← Option.some.inj hw2]
          exact e
        · exact before j w2 (by omega) hw2
    · rintro σ H2 ⟨_, _, all⟩
      obtain ⟨j, hj, ej⟩ := List.getElem_of_mem hw0
      exact absurd ew0 (all j w0 (by omega) (by rw [List.getElem?_eq_getElem hj, ej]))
def spPartsOf (K : PySem.W.Frag) : Sp := fun vs H Q _ => ∃ (t r : Addr) (P : Nat) (n : Int) (rs : List Row), vs = [.ref t, .int n] ∧ TabO K H t r P rs ∧ rs.length ≤ 63 ∧ (∃ w ∈ rs, w.2.1 = n) ∧ Ret K [] H (fun v H' => ∃ w ∈ rs, w.2.1 = n ∧ ∃ b, v = .ref b ∧ H' b = some (.tup [.int w.2.2])) Q
theorem c_Table_parts_of (T : Tx g) : CalM g 3 "Table" "parts_of" (spPartsOf g.K) := by
  obtain ⟨fd, F⟩ := T.fun_ in_Table_parts_of
  refine ⟨_, fd, p_Table_parts_of, def_ok F sc_Table_parts_of (fun vs H Q E h => ?_) (fun cdv A outer s H vs Q E hr h => ?_), cl_Table T, m_Table_parts_of T, F.bindsN fun _ _ _ _ _ _ us hl => match us, hl with | [_, _], _ => rfl⟩
  · obtain ⟨_, _, _, _, _, rfl, _⟩ := h
    rfl
  · obtain ⟨t, r, P, n, rs, rfl, tb, few, ex, q⟩ := h
    refine ⟨_, pss_one (ps_ret (pe_ix ix_tup (pe_m (c_Table_row_of T) hr (pv 0) (pa_cons (pv 1) pa_nil)) pe_int (fun _ _ => rfl))), ?_⟩
    obtain ⟨dx, ht⟩ := tb.ins
    refine ⟨_, rfl, t, dx, _, rfl, ht, rfl, _, rfl, t, r, P, n, rs, rfl, tb, few, ex, fun v H1 e ⟨w, hw, ew, a, b, hv, ha, hb⟩ => ?_⟩
    subst hv
    exact ⟨a, _, 2, _, rfl, rfl, SqT.of ha, rfl, q _ _ e ⟨w, hw, ew, b, rfl, hb⟩⟩
theorem c_Table_parts (T : Tx g) : CalP g 1 "Table" "parts" (getSp (He.ga g.K "Table") "own_many") := by
  obtain ⟨⟨fd, F⟩, h1, h2, h3, h4, h5⟩ := T.prop in_Table_parts
  refine ⟨_, _, fd, p_Table_parts, def_ok F sc_Table_parts (fun vs H Q E h => ?_) (fun cdv A outer s H vs Q E hr h => ?_), cl_Table T, propOf_of h1 h2 h3 h5, F.bindsN fun _ _ _ _ _ _ us hl => match us, hl with | [_], _ => rfl⟩
  · obtain ⟨_, _, _, _, rfl, _⟩ := h
    rfl
  · obtain ⟨a, dx, fs, v, rfl, ha, hl, q⟩ := h
    exact ⟨_, pss_one (ps_ret (pe_fld (f := "own_many") (pv 0) rfl)), _, rfl, a, _, dx, fs, v, rfl, ha, cl_Table T, n_Table_own_many T, hl, q⟩
end K48

namespace K48
open PySem PySem.Spec PyProof.Rows L2 ClX
variable {g : GX}
/-! ### readers.py: Reader -/
abbrev rdFs (up : Bool) (o : Mid) (st : Addr) : List (Str × V) := [("own_mark", .str "rest"), ("own_inner", .str (upS up)), ("own_order", .str (midS o)), ("own_states", .ref st)]
structure RdO (K : PySem.W.Frag) (H : Hp) (rd : Addr) (up : Bool) (o : Mid) (size : Int) (as : List Int) : Prop where
  ex : ∃ dx st b c, H rd = some (.ins (He.ga K "Reader") dx (rdFs up o st)) ∧ H st = some (.tup [.ref b]) ∧ H b = some (.tup [.int size, .ref c, .int 0, .int 0]) ∧ H c = some (.tup (as.map V.int))
theorem RdO.up {K : PySem.W.Frag} {ms : List Addr} {H H' : Hp} {rd : Addr} {up : Bool} {o : Mid} {size : Int} {as : List Int} (x : RdO K H rd up o size as) (e : Up K ms H H') (h : rd ∉ ms := by simp) : RdO K H' rd up o size as := by
  obtain ⟨dx, st, b, c, h1, h2, h3, h4⟩ := x
  exact ⟨dx, st, b, c, e.ins h1 h, e.tup _ _ h2, e.tup _ _ h3, e.tup _ _ h4⟩
def spReader (K : PySem.W.Frag) : Sp := fun vs H Q _ => ∃ (t a b c dx : Addr) (up : Bool) (o : Mid) (size : Int) (as : List Int), vs = [.ref t, .str "rest", .ref a, .str (upS up), .str (midS o)] ∧ H t = some (.ins (He.ga K "Reader") dx []) ∧ H a = some (.lst [.ref b]) ∧ H b = some (.tup [.int size, .ref c, .int 0, .int 0]) ∧
  H c = some (.tup (as.map V.int)) ∧ 1 ≤ size ∧ size ≤ 9 ∧ AsksOk as ∧ ∀ H', Up K [t] H H' → RdO K H' t up o size as → Q .non H'
theorem r_Reader (T : Tx g) : ∃ fd, FnOk g.P g.w g.K g.mg g.base CX0 5 (He.ma g.K (He.ga g.K "Reader") "__init__") fd p_Reader___init__ (spReader g.K) ∧ Mk g.K (He.ga g.K "Reader") (He.ma g.K (He.ga g.K "Reader") "__init__") ∧
    FunD g.K d_Reader___init__.name d_Reader___init__.qual d_Reader___init__.params d_Reader___init__.body d_Reader___init__.scope (d_Reader___init__.dvs g.K) (d_Reader___init__.kws g.K) (He.ma g.K (He.ga g.K "Reader") "__init__") fd := by
  obtain ⟨fd, F⟩ := T.fun_ in_Reader___init__
  refine ⟨fd, def_ok F sc_Reader___init__ (fun vs H Q E h => ?_) (fun cdv A outer s H vs Q E hr h => ?_), mk_Reader T, F⟩
  · obtain ⟨_, _, _, _, _, _, _, _, _, rfl, _⟩ := h
    rfl
  · obtain ⟨t, a, b, c, dx, up, o, size, as, rfl, ht, ha, hb, hc, s1, s2, ok, q⟩ := h
    have nd := sc_Reader___init__.nd
    obtain ⟨m1, u1, r1, c1⟩ := T.cv.marks
    obtain ⟨m2, u2, r2, c2⟩ := T.cv.mostStates
    refine ⟨_, pss_cons (ps_if (pt_not (pt_val (pe_c (c_is_text_in T) hr (pa_cons (pv 1) (pa_cons (pe_cval (pe_glob (v := .ref (He.ga g.K "Reader")) rfl (g_Reader T) rfl)) pa_nil))))) (pss_one ps_never) pss_nil)
      (pss_cons (ps_expr (pe_c (c_need_inner T) hr (pa_cons (pv 3) pa_nil))) (pss_cons (ps_expr (pe_c (c_need_order T) hr (pa_cons (pv 4) pa_nil)))
      (pss_cons (ps_for (g := gTup g.K 2 (gCons (gName 5) (gCons (gName 6) gNil))) noxe rfl (pi_enum (by rfl) (f_enumerate T) (pa_cons (pv 2) pa_nil)) (pg_tup rfl (pgs_cons (pg_name (i := 5) nd rfl (Or.inl rfl)) (pgs_cons (pg_name (i := 6) nd rfl (Or.inl rfl)) pgs_nil)))
        (pss_one (ps_if (PW.pt (pw_or (pt_not (pt_val (pe_c (c_is_state T) hr (pa_cons (pv 6) (pa_cons (pe_callB call_len_seq (by rfl) (f_len T) PySem.boot_len (pa_cons (pv 2) pa_nil)) pa_nil)))))
          (pw_or (pt_cmpR op_ne (pe_callB call_len_seq (by rfl) (f_len T) PySem.boot_len (pa_cons (pe_ix ix_tup (pv 6) pe_int (fun _ _ => rfl)) pa_nil)) (pe_callB call_len_seq (by rfl) (f_len T) PySem.boot_len (pa_cons (pe_ix ix_tup (pe_ix ix_list (pv 2) pe_int (fun _ _ => rfl)) pe_int (fun _ _ => rfl)) pa_nil)) (nomark _))
          (pw_or1 (pt_cmpR op_ge (pv 5) (pe_cval (pe_glob (v := .ref (He.ga g.K "Reader")) rfl (g_Reader T) rfl)) (nomark _)))))) (pss_one ps_never) pss_nil)))
      (pss_cons (ps_if (pt_cmpR op_eq (pe_callB call_len_seq (by rfl) (f_len T) PySem.boot_len (pa_cons (pv 2) pa_nil)) pe_int (nomark _)) (pss_one ps_never) pss_nil)
      (pss_cons (ps_fld (f := "own_mark") (pv 0) (pv 1) rfl) (pss_cons (ps_fld (f := "own_inner") (pv 0) (pv 3) rfl) (pss_cons (ps_fld (f := "own_order") (pv 0) (pv 4) rfl)
      (pss_one (ps_fld (f := "own_states") (pv 0) (pe_callTy call_tuple_of (by rfl) (f_tuple T) (by decide +kernel) (pa_cons (pv 2) pa_nil)) rfl))))))))), ?_⟩
    refine ⟨_, rfl, _, m1, _, u1, rfl, r1, c1, _, _, _, rfl, T.cv.tMarks H, by decide +kernel, by decide +kernel, _, rfl, iteF ?_⟩
    refine ⟨_, rfl, _, rfl, by cases up <;> decide +kernel, _, rfl, _, rfl, by cases o <;> decide +kernel, ?_⟩
    refine ⟨_, rfl, a, [.ref b], rfl, SqL.of ha, for_it walk_enum (fun i σ H2 => Up g.K [] H H2 ∧ ∃ u v, σ = [some (.ref t), some (.str "rest"), some (.ref a), some (.str (upS up)), some (.str (midS o)), u, v]) ⟨Up.refl, _, _, rfl⟩ (fun i σ H2 _ p => SqL.of (p.1.lst ha)) ?_ ?_⟩
    · rintro i x σ H2 H3 hi ⟨e, u, v, rfl⟩ y
      have e3 := e.trans (yp_up (ms := []) y)
      refine gt2 y fun u2 v2 h1 h2 => ?_
      obtain rfl : i = 0 := by
        have : i < 1 := hi
        omega
      obtain rfl := Option.some.inj h1
      obtain rfl := Option.some.inj h2
      refine ⟨_, rfl, _, rfl, a, [.ref b], rfl, .inl (SqL.of (e3.lst ha)), b, c, size, as, rfl, e3.tup _ _ hb, e3.tup _ _ hc, s1, s2, ok, fun w H4 e4 hw => ⟨_, hw, iteF ?_⟩⟩
      have e5 := e3.trans e4
      refine ⟨_, rfl, b, _, 1, _, rfl, rfl, SqT.of (e5.tup _ _ hb), rfl, c, _, rfl, .inr (SqT.of (e5.tup _ _ hc)), _, rfl, a, [.ref b], 0, _, rfl, rfl, SqL.of (e5.lst ha), rfl, b, _, 1, _, rfl, rfl, SqT.of (e5.tup _ _ hb), rfl, c, _, rfl, .inr (SqT.of (e5.tup _ _ hc)), rfl, _, rfl, ?_⟩
      rw [decide_eq_true rfl]
      refine iteF ⟨_, rfl, _, m2, _, u2, rfl, r2, c2, _, _, rfl, rfl, _, rfl, ?_⟩
      exact iteF ⟨e5, _, _, rfl⟩
    · rintro σ H2 ⟨e, u, v, rfl⟩
      refine ⟨_, rfl, a, [.ref b], rfl, .inl (SqL.of (e.lst ha)), rfl, _, rfl, ?_⟩
      rw [deq_int, decide_eq_false (show ¬ (([V.ref b].length : Nat) : Int) = 0 by show ¬ (1 : Int) = 0; decide)]
      have k0 := e.ins ht
      refine iteF ⟨_, rfl, _, rfl, t, _, dx, [], rfl, k0, cl_Reader T, n_Reader_own_mark T, by decide, ?_⟩
      refine ⟨_, rfl, _, rfl, t, _, dx, _, rfl, upd_same, cl_Reader T, n_Reader_own_inner T, by show 1 < 1000; decide, ?_⟩
      refine ⟨_, rfl, _, rfl, t, _, dx, _, rfl, upd_same, cl_Reader T, n_Reader_own_order T, by show 2 < 1000; decide, ?_⟩
      rw [upd_upd, upd_upd]
      have e1 : Up g.K [t] H (upd H2 t (.ins (He.ga g.K "Reader") dx [("own_mark", .str "rest"), ("own_inner", .str (upS up)), ("own_order", .str (midS o))])) := e.wide.trans (Up.set k0 trivial (by simp))
      have et : upd H2 t (.ins (He.ga g.K "Reader") dx [("own_mark", .str "rest"), ("own_inner", .str (upS up)), ("own_order", .str (midS o))]) t = some (.ins (He.ga g.K "Reader") dx [("own_mark", .str "rest"), ("own_inner", .str (upS up)), ("own_order", .str (midS o))]) := upd_same
      have ea := e1.lst ha (by rw [List.mem_singleton]; exact fun z => by rw [z, ht] at ha; cases ha)
      refine ⟨_, rfl, a, [.ref b], rfl, .inl ⟨SqL.of ea, fun l hl => ?_⟩⟩
      have ne : t ≠ l := ne_of_none et hl
      have e2 := e1.trans (Up.new (K := g.K) (ms := [t]) (o := .tup [.ref b]) hl)
      refine ⟨_, rfl, t, _, dx, _, rfl, (upd_ne ne).trans et, cl_Reader T, n_Reader_own_states T, by show 3 < 1000; decide, ?_⟩
      have e3 := e2.trans (Up.set (u := .ins (He.ga g.K "Reader") dx (rdFs up o l)) ((upd_ne ne).trans et) trivial (by simp))
      exact q _ e3 ⟨dx, l, b, c, upd_same, (upd_ne (Ne.symm ne)).trans upd_same, e3.tup _ _ hb, e3.tup _ _ hc⟩
/-- self.own_mark, .. -/
theorem c_Reader_mark (T : Tx g) : CalP g 1 "Reader" "mark" (getSp (He.ga g.K "Reader") "own_mark") := by
  obtain ⟨⟨fd, F⟩, h1, h2, h3, h4, h5⟩ := T.prop in_Reader_mark
  refine ⟨_, _, fd, p_Reader_mark, def_ok F sc_Reader_mark (fun vs H Q E h => ?_) (fun cdv A outer s H vs Q E hr h => ?_), cl_Reader T, propOf_of h1 h2 h3 h5, F.bindsN fun _ _ _ _ _ _ us hl => match us, hl with | [_], _ => rfl⟩
  · obtain ⟨_, _, _, _, rfl, _⟩ := h
    rfl
  · obtain ⟨a, dx, fs, v, rfl, ha, hl, q⟩ := h
    exact ⟨_, pss_one (ps_ret (pe_fld (f := "own_mark") (pv 0) rfl)), _, rfl, a, _, dx, fs, v, rfl, ha, cl_Reader T, n_Reader_own_mark T, hl, q⟩
theorem c_Reader_inner (T : Tx g) : CalP g 1 "Reader" "inner" (getSp (He.ga g.K "Reader") "own_inner") := by
  obtain ⟨⟨fd, F⟩, h1, h2, h3, h4, h5⟩ := T.prop in_Reader_inner
  refine ⟨_, _, fd, p_Reader_inner, def_ok F sc_Reader_inner (fun vs H Q E h => ?_) (fun cdv A outer s H vs Q E hr h => ?_), cl_Reader T, propOf_of h1 h2 h3 h5, F.bindsN fun _ _ _ _ _ _ us hl => match us, hl with | [_], _ => rfl⟩
  · obtain ⟨_, _, _, _, rfl, _⟩ := h
    rfl
  · obtain ⟨a, dx, fs, v, rfl, ha, hl, q⟩ := h
    exact ⟨_, pss_one (ps_ret (pe_fld (f := "own_inner") (pv 0) rfl)), _, rfl, a, _, dx, fs, v, rfl, ha, cl_Reader T, n_Reader_own_inner T, hl, q⟩
theorem c_Reader_order (T : Tx g) : CalP g 1 "Reader" "order" (getSp (He.ga g.K "Reader") "own_order") := by
  obtain ⟨⟨fd, F⟩, h1, h2, h3, h4, h5⟩ := T.prop in_Reader_order
  refine ⟨_, _, fd, p_Reader_order, def_ok F sc_Reader_order (fun vs H Q E h => ?_) (fun cdv A outer s H vs Q E hr h => ?_), cl_Reader T, propOf_of h1 h2 h3 h5, F.bindsN fun _ _ _ _ _ _ us hl => match us, hl with | [_], _ => rfl⟩
  · obtain ⟨_, _, _, _, rfl, _⟩ := h
    rfl
  · obtain ⟨a, dx, fs, v, rfl, ha, hl, q⟩ := h
    exact ⟨_, pss_one (ps_ret (pe_fld (f := "own_order") (pv 0) rfl)), _, rfl, a, _, dx, fs, v, rfl, ha, cl_Reader T, n_Reader_own_order T, hl, q⟩
def spRParts (K : PySem.W.Frag) : Sp := fun vs H Q _ => ∃ (rd : Addr) (up : Bool) (o : Mid) (size : Int) (as : List Int), vs = [.ref rd] ∧ RdO K H rd up o size as ∧ Q (.int as.length) H
theorem c_Reader_parts (T : Tx g) : CalP g 1 "Reader" "parts" (spRParts g.K) := by
  obtain ⟨⟨fd, F⟩, h1, h2, h3, h4, h5⟩ := T.prop in_Reader_parts
  refine ⟨_, _, fd, p_Reader_parts, def_ok F sc_Reader_parts (fun vs H Q E h => ?_) (fun cdv A outer s H vs Q E hr h => ?_), cl_Reader T, propOf_of h1 h2 h3 h5, F.bindsN fun _ _ _ _ _ _ us hl => match us, hl with | [_], _ => rfl⟩
  · obtain ⟨_, _, _, _, _, rfl, _⟩ := h
    rfl
  · obtain ⟨rd, up, o, size, as, rfl, ⟨dx, st, b, c, h1, h2, h3, h4⟩, q⟩ := h
    refine ⟨_, pss_one (ps_ret (pe_callB call_len_seq (by rfl) (f_len T) PySem.boot_len (pa_cons (pe_ix ix_tup (pe_ix ix_tup (pe_fld (f := "own_states") (pv 0) rfl) pe_int (fun _ _ => rfl)) pe_int (fun _ _ => rfl)) pa_nil))), ?_⟩
    refine ⟨_, rfl, rd, _, dx, _, _, rfl, h1, cl_Reader T, n_Reader_own_states T, rfl, st, _, 0, _, rfl, rfl, SqT.of h2, rfl, b, _, 1, _, rfl, rfl, SqT.of h3, rfl, c, _, rfl, .inr (SqT.of h4), ?_⟩
    rw [List.length_map]
    exact q
def spStates (K : PySem.W.Frag) : Sp := fun vs H Q _ => ∃ (rd : Addr) (up : Bool) (o : Mid) (size : Int) (as : List Int), vs = [.ref rd] ∧ RdO K H rd up o size as ∧
  Ret K [] H (fun v H' => ∃ p b c, v = .ref p ∧ H' p = some (.lst [.ref b]) ∧ H' b = some (.tup [.int size, .ref c, .int 0, .int 0]) ∧ H' c = some (.tup (as.map V.int))) Q
theorem c_Reader_states (T : Tx g) : CalM g 1 "Reader" "states" (spStates g.K) := by
  obtain ⟨fd, F⟩ := T.fun_ in_Reader_states
  refine ⟨_, fd, p_Reader_states, def_ok F sc_Reader_states (fun vs H Q E h => ?_) (fun cdv A outer s H vs Q E hr h => ?_), cl_Reader T, m_Reader_states T, F.bindsN fun _ _ _ _ _ _ us hl => match us, hl with | [_], _ => rfl⟩
  · obtain ⟨_, _, _, _, _, rfl, _⟩ := h
    rfl
  · obtain ⟨rd, up, o, size, as, rfl, ⟨dx, st, b, c, h1, h2, h3, h4⟩, q⟩ := h
    refine ⟨_, pss_one (ps_ret (pe_callTy call_list_of (by rfl) (f_list T) boot_list (pa_cons (pe_fld (f := "own_states") (pv 0) rfl) pa_nil))), ?_⟩
    refine ⟨_, rfl, rd, _, dx, _, _, rfl, h1, cl_Reader T, n_Reader_own_states T, rfl, st, _, rfl, .inr (SqT.of h2), fun l hl => ?_⟩
    have e : Up g.K [] H (upd H l (.lst [.ref b])) := Up.new hl
    exact q _ _ e ⟨l, b, c, rfl, upd_same, e.tup _ _ h3, e.tup _ _ h4⟩
end K48

namespace K48
open PySem PySem.Spec PyProof.Rows L2 ClX
variable {g : GX}
/-! ### places as data -/
def plD (p : Place) : PyData := .tuple [.int p.1, .int p.2]
theorem plD_eqv (p q : Place) : PyData.eqv (plD p) (plD q) = decide (p = q) := by
  obtain ⟨a, b⟩ := p
  obtain ⟨c, d⟩ := q
  rw [Bool.eq_iff_iff]
  simp [plD, PyData.eqv, PyData.eqvAll]
theorem eqv_list (ps qs : List Place) : PyData.eqvAll (ps.map plD) (qs.map plD) = decide (ps = qs) := by
  induction ps generalizing qs with
  | nil => cases qs <;> simp [PyData.eqvAll]
  | cons p ps ih =>
    cases qs with
    | nil => simp [PyData.eqvAll]
    | cons q qs =>
      rw [List.map_cons, List.map_cons, PyData.eqvAll, plD_eqv, ih, Bool.eq_iff_iff]
      simp
theorem depthAll_le {ds : List PyData} {n : Nat} (h : ∀ d ∈ ds, d.depth ≤ n) : PyData.depthAll ds ≤ n := by
  induction ds with
  | nil => rw [PyData.depthAll]; exact Nat.zero_le _
  | cons d ds ih =>
    rw [PyData.depthAll]
    exact Nat.max_le.mpr ⟨h d List.mem_cons_self, ih fun e he => h e (List.mem_cons_of_mem _ he)⟩
theorem dp_pls {K : PySem.W.Frag} {H : Hp} : ∀ {xs : List V} {ps : List Place}, Pls H xs ps → DpAll K H xs (ps.map plD)
  | _, _, .nil => .nil
  | _, _, .cons r t => .cons (dp_place r) (dp_pls t)
/-- no dict, no odd text, nested n deep at most -/
def Sh (n : Nat) (d : PyData) : Prop := d.canLay0 = true ∧ d.depth ≤ n
theorem canAll {ds : List PyData} (h : ∀ d ∈ ds, d.canLay0 = true) : PyData.canLayAll0 ds = true := by
  induction ds with
  | nil => rw [PyData.canLayAll0]
  | cons d ds ih => rw [PyData.canLayAll0, h d List.mem_cons_self, ih fun e he => h e (List.mem_cons_of_mem _ he)]; rfl
theorem Sh.list {n : Nat} {ds : List PyData} (h : ∀ d ∈ ds, Sh n d) : Sh (n + 1) (.list ds) := ⟨by rw [PyData.canLay0]; exact canAll fun d hd => (h d hd).1, by rw [PyData.depth]; exact Nat.succ_le_succ (depthAll_le fun d hd => (h d hd).2)⟩
theorem Sh.tuple {n : Nat} {ds : List PyData} (h : ∀ d ∈ ds, Sh n d) : Sh (n + 1) (.tuple ds) := ⟨by rw [PyData.canLay0]; exact canAll fun d hd => (h d hd).1, by rw [PyData.depth]; exact Nat.succ_le_succ (depthAll_le fun d hd => (h d hd).2)⟩
theorem Sh.int (i : Int) : Sh 0 (.int i) := ⟨by rw [PyData.canLay0], by rw [PyData.depth]; exact Nat.le_refl _⟩
theorem Sh.ok {n : Nat} {d : PyData} (h : Sh n d) (hn : n ≤ 64) : SeqAt.shaped d = true := by
  unfold SeqAt.shaped
  rw [h.1, decide_eq_true (Nat.le_trans h.2 hn)]
  rfl
theorem sh_pl (p : Place) : Sh 1 (plD p) := Sh.tuple fun d hd => by
  rcases List.mem_cons.mp hd with rfl | hd
  · exact .int _
  · rw [List.mem_singleton.mp hd]
    exact .int _
theorem sh_pls (ps : List Place) : Sh 2 (.list (ps.map plD)) := Sh.list fun d hd => by
  obtain ⟨p, _, rfl⟩ := List.mem_map.mp hd
  exact sh_pl p
theorem sh_plt (ps : List Place) : Sh 2 (.tuple (ps.map plD)) := Sh.tuple fun d hd => by
  obtain ⟨p, _, rfl⟩ := List.mem_map.mp hd
  exact sh_pl p
/-! ### runs.py: what a run holds -/
structure Dat where
  P : Nat
  rs : List Row
  up : Bool
  o : Mid
  size : Nat
  as : List Nat
def Dat.geo (d : Dat) : Geo := ⟨d.P, fun p => sti d.up (ofP p d.rs), fun p => (d.as[p]?).getD 0, d.size, d.o⟩
structure Dat.Ok (d : Dat) : Prop where
  p1 : 1 ≤ d.P
  p4 : d.P ≤ 4
  rows : RowsOk d.P d.rs
  s1 : 1 ≤ d.size
  s9 : d.size ≤ 9
  al : d.as.length = d.P
  ask : ∀ a ∈ d.as, 1 ≤ a ∧ a ≤ 9
theorem parts_perm (rs : List Row) : ∀ n, ((List.range n).flatMap fun p => ofP p rs).Perm ((rs.filter fun r => decide (r.2.2 < n)).map plc)
  | 0 => by
    have e : (rs.filter fun r => decide (r.2.2 < 0)) = [] := List.filter_eq_nil_iff.mpr fun r _ => by simp
    rw [e]
    exact List.Perm.refl _
  | n + 1 => by
    rw [List.range_succ, List.flatMap_append]
    have e1 : [n].flatMap (fun p => ofP p rs) = ofP n rs := by simp
    rw [e1]
    refine ((parts_perm rs n).append_right _).trans ?_
    unfold ofP
    rw [← List.map_append]
    refine List.Perm.map _ ?_
    have h := List.filter_append_perm (fun r : Row => decide (r.2.2 < n)) (rs.filter fun r => decide (r.2.2 < n + 1))
    refine List.Perm.trans ?_ h
    rw [List.filter_filter, List.filter_filter]
    refine List.Perm.of_eq ?_
    congr 1
    · apply List.filter_congr
      intro r _
      rw [Bool.eq_iff_iff]
      simp
      omega
    · apply List.filter_congr
      intro r _
      rw [Bool.eq_iff_iff]
      simp
      omega
theorem flat_perm {α β : Type} {f h : α → List β} (e : ∀ p, (f p).Perm (h p)) : ∀ l : List α, (l.flatMap f).Perm (l.flatMap h)
  | [] => List.Perm.refl _
  | a :: l => by
    rw [List.flatMap_cons, List.flatMap_cons]
    exact (e a).append (flat_perm e l)
theorem Dat.Ok.all {d : Dat} (ok : d.Ok) : d.geo.all.Perm (d.rs.map plc) := by
  have h1 : d.geo.all.Perm ((List.range d.P).flatMap fun p => ofP p d.rs) := flat_perm (fun p => sti_perm) _
  refine h1.trans ((parts_perm d.rs d.P).trans ?_)
  rw [List.filter_eq_self.mpr fun r hr => decide_eq_true (ok.rows.key r hr).2.2.2.2]
theorem Dat.Ok.plcs {d : Dat} (ok : d.Ok) : (d.rs.map plc).Nodup := by
  have h := ok.rows.nd
  have e : d.rs.map (·.2.1) = (d.rs.map plc).map (·.2) := by rw [List.map_map]; rfl
  rw [e] at h
  exact List.Pairwise.of_map (·.2) (fun _ _ hne e => hne (congrArg (·.2) e)) h
theorem Dat.Ok.geo {d : Dat} (ok : d.Ok) : d.geo.Ok := by
  refine ⟨(ok.all.nodup_iff).mpr ok.plcs, fun p hp => ?_, ok.s1⟩
  have hlt : p < d.as.length := by rw [ok.al]; exact hp
  show 1 ≤ (d.as[p]?).getD 0
  rw [List.getElem?_eq_getElem hlt]
  exact (ok.ask _ (List.getElem_mem hlt)).1
theorem Dat.Ok.len {d : Dat} (ok : d.Ok) : d.geo.all.length ≤ 63 := by
  rw [ok.all.length_eq, List.length_map]
  exact ok.rows.few
abbrev asI (as : List Nat) : List Int := as.map fun (a : Nat) => (a : Int)
/-- the reader and the table -/
structure Gv (K : PySem.W.Frag) (H : Hp) (d : Dat) (rd t r : Addr) : Prop where
  rd : RdO K H rd d.up d.o d.size (asI d.as)
  tab : TabO K H t r d.P d.rs
theorem Gv.up {K : PySem.W.Frag} {ms : List Addr} {H H' : Hp} {d : Dat} {rd t r : Addr} (x : Gv K H d rd t r) (e : Up K ms H H') (h1 : rd ∉ ms := by simp) (h2 : t ∉ ms := by simp) (h3 : r ∉ ms := by simp) : Gv K H' d rd t r := ⟨x.rd.up e h1, x.tab.up e h2 h3⟩
def PageV (H : Hp) (v : V) (ps : List Place) : Prop := ∃ a xs, v = .ref a ∧ H a = some (.tup xs) ∧ Pls H xs ps
def TellV (H : Hp) (v : V) (x : Place × Nat) : Prop := ∃ a b c, v = .ref a ∧ H a = some (.tup [.ref b, .ref c]) ∧ H b = some (.tup [.int x.1.1, .int x.1.2]) ∧ H c = some (.tup [.int x.2])
theorem TpS.page {H H' : Hp} (e : TpS H H') {v : V} {ps : List Place} (h : PageV H v ps) : PageV H' v ps := let ⟨a, xs, h1, h2, h3⟩ := h; ⟨a, xs, h1, e _ _ h2, e.pls h3⟩
theorem TpS.tell {H H' : Hp} (e : TpS H H') {v : V} {x : Place × Nat} (h : TellV H v x) : TellV H' v x := let ⟨a, b, c, h1, h2, h3, h4⟩ := h; ⟨a, b, c, h1, e _ _ h2, e _ _ h3, e _ _ h4⟩
/-- what a run told -/
structure Tl where
  pages : List (List Place)
  tells : List (Place × Nat)
def Tl.T (x : Tl) : List Place := x.pages.flatten
structure Tl.Ok (x : Tl) (d : Dat) : Prop where
  ne : ∀ p ∈ x.pages, p ≠ []
  same : x.tells.map (·.1) = x.T
  at_ : ∀ y ∈ x.tells, y.2 < d.P ∧ y.1 ∈ d.geo.L y.2
  told : Told d.geo x.T
structure StdO (H : Hp) (sa : Addr) (t : Addr) (x : Tl) (st fl en : V) : Prop where
  ex : ∃ pg tq ps ts, H sa = some (.tup [.ref t, st, fl, en, .ref pg, .ref tq]) ∧ H pg = some (.tup ps) ∧ Paired (PageV H) ps x.pages ∧ H tq = some (.tup ts) ∧ Paired (TellV H) ts x.tells
theorem StdO.ts {H H' : Hp} {sa t : Addr} {x : Tl} {st fl en : V} (h : StdO H sa t x st fl en) (e : TpS H H') : StdO H' sa t x st fl en := by
  obtain ⟨pg, tq, ps, ts, h1, h2, h3, h4, h5⟩ := h
  exact ⟨pg, tq, ps, ts, e _ _ h1, e _ _ h2, L2.Paired.mapP h3 fun _ _ => e.page, e _ _ h4, L2.Paired.mapP h5 fun _ _ => e.tell⟩
structure RunO (K : PySem.W.Frag) (H : Hp) (ru pa rd t : Addr) (m : Nat) (x : Tl) (st fl en : V) : Prop where
  ex : ∃ dx sa ha, H ru = some (.ins (He.ga K "Run") dx [("own_reader", .ref rd), ("stand", .ref sa), ("past", .ref pa), ("ahead", .ref ha)]) ∧ StdO H sa t x st fl en
  past : ∃ xs, H pa = some (.lst xs) ∧ xs.length ≤ m
theorem RunO.up {K : PySem.W.Frag} {ms : List Addr} {H H' : Hp} {ru pa rd t : Addr} {m : Nat} {x : Tl} {st fl en : V} (h : RunO K H ru pa rd t m x st fl en) (e : Up K ms H H') (h1 : ru ∉ ms := by simp) (h2 : pa ∉ ms := by simp) : RunO K H' ru pa rd t m x st fl en := by
  obtain ⟨⟨dx, sa, ha, a, b⟩, xs, c, l⟩ := h
  exact ⟨⟨dx, sa, ha, e.ins a h1, b.ts e.ts⟩, xs, e.lst c h2, l⟩
end K48

namespace K48
open PySem PySem.Spec PyProof.Rows L2 ClX
variable {g : GX}
/-! ### one's own object while it is filled -/
theorem st_new {K : PySem.W.Frag} {ms : List Addr} {H H1 : Hp} {a p : Addr} {o u : HO} (e : Up K ms H H1 ∧ H1 a = some o) (hp : H1 p = none) : Up K ms H (upd H1 p u) ∧ upd H1 p u a = some o :=
  ⟨e.1.trans (Up.new hp), by rw [upd_ne (ne_of_none e.2 hp)]; exact e.2⟩
theorem st_set {K : PySem.W.Frag} {ms : List Addr} {H H1 : Hp} {a C dx : Addr} {fs fs' : List (Str × V)} (e : Up K ms H H1 ∧ H1 a = some (.ins C dx fs)) (hm : a ∈ ms := by simp) : Up K ms H (upd H1 a (.ins C dx fs')) ∧ upd H1 a (.ins C dx fs') a = some (.ins C dx fs') :=
  ⟨e.1.trans (Up.set e.2 trivial hm), upd_same⟩
theorem Gv.ne {K : PySem.W.Frag} {H : Hp} {d : Dat} {rd t r a C dx : Addr} (x : Gv K H d rd t r) (h : H a = some (.ins C dx [])) : rd ∉ [a] ∧ t ∉ [a] ∧ r ∉ [a] := by
  obtain ⟨⟨_, _, _, _, h1, _⟩, ⟨_, h2⟩, _, h3, _⟩ := x
  simp only [List.mem_singleton]
  refine ⟨fun e => ?_, fun e => ?_, fun e => ?_⟩
  · rw [e, h] at h1; cases h1
  · rw [e, h] at h2; cases h2
  · rw [e, h] at h3; cases h3
/-! ### runs.py: Run -/
theorem run_fill {K : PySem.W.Frag} {Hs H4 : Hp} {ru rd C dx p3 p4 p5 : Addr} (e : Up K [ru] Hs H4 ∧ H4 ru = some (.ins C dx [("own_reader", .ref rd)])) (hp4 : upd H4 ru (.ins C dx [("own_reader", .ref rd), ("stand", .ref p3)]) p4 = none)
    (hp5 : upd (upd (upd H4 ru (.ins C dx [("own_reader", .ref rd), ("stand", .ref p3)])) p4 (.lst [])) ru (.ins C dx [("own_reader", .ref rd), ("stand", .ref p3), ("past", .ref p4)]) p5 = none) :
    Up K [ru] Hs (upd (upd (upd (upd (upd H4 ru (.ins C dx [("own_reader", .ref rd), ("stand", .ref p3)])) p4 (.lst [])) ru (.ins C dx [("own_reader", .ref rd), ("stand", .ref p3), ("past", .ref p4)])) p5 (.lst [])) ru (.ins C dx [("own_reader", .ref rd), ("stand", .ref p3), ("past", .ref p4), ("ahead", .ref p5)])) :=
  (st_set (st_new (st_set (st_new (st_set e) hp4)) hp5)).1
def spRun (K : PySem.W.Frag) : Sp := fun vs H Q _ => ∃ (ru rd t r dx : Addr) (d : Dat), vs = [.ref ru, .ref rd, .ref t] ∧ H ru = some (.ins (He.ga K "Run") dx []) ∧ Gv K H d rd t r ∧ d.Ok ∧
  ∀ H' pa, Up K [ru] H H' → Fr H pa → RunO K H' ru pa rd t 0 ⟨[], []⟩ (.int 0) .non (.bl false) → Q .non H'
theorem c_Run (T : Tx g) : CalI g 3 "Run" (spRun g.K) := by
  obtain ⟨fd, F⟩ := T.fun_ in_Run___init__
  refine ⟨_, fd, p_Run___init__, def_ok F sc_Run___init__ (fun vs H Q E h => ?_) (fun cdv A outer s H vs Q E hr h => ?_), mk_Run T, F.bindsN fun _ _ _ _ _ _ us hl => match us, hl with | [_, _, _], _ => rfl⟩
  · obtain ⟨_, _, _, _, _, _, rfl, _⟩ := h
    rfl
  · obtain ⟨ru, rd, t, r, dx, d, rfl, hu, gv, ok, q⟩ := h
    refine ⟨_, pss_cons (ps_if (pt_cmpR op_ne (pe_p (c_Reader_parts T) hr (pv 1)) (pe_p (c_Table_parts T) hr (pv 2)) (nomark _)) (pss_one ps_never) pss_nil)
      (pss_cons (ps_fld (f := "own_reader") (pv 0) (pv 1) rfl)
      (pss_cons (ps_fld (f := "stand") (pv 0) (pe_tup (pa_cons (pv 2) (pa_cons pe_int (pa_cons pe_non (pa_cons pe_bl (pa_cons (pe_tup pa_nil) (pa_cons (pe_tup pa_nil) pa_nil))))))) rfl)
      (pss_cons (ps_fld (f := "past") (pv 0) (pe_lst pa_nil) rfl) (pss_one (ps_fld (f := "ahead") (pv 0) (pe_lst pa_nil) rfl))))), ?_⟩
    obtain ⟨rdx, st, b, c, rh, rh2, rh3, rh4⟩ := gv.rd.ex
    obtain ⟨tdx, th⟩ := gv.tab.ins
    refine ⟨_, rfl, rd, rdx, _, rfl, rh, rd, d.up, d.o, d.size, asI d.as, rfl, gv.rd, _, rfl, t, tdx, _, rfl, th, t, tdx, _, _, rfl, th, rfl, rfl, _, rfl, ?_⟩
    have el : (asI d.as).length = d.P := by rw [List.length_map]; exact ok.al
    rw [deq_int, el, decide_eq_true rfl]
    have e0 : Up g.K [ru] H H ∧ H ru = some (.ins (He.ga g.K "Run") dx []) := ⟨Up.refl, hu⟩
    refine iteF ⟨_, rfl, _, rfl, ru, _, dx, [], rfl, hu, cl_Run T, n_Run_own_reader T, by decide, ?_⟩
    have e1 := st_set (fs' := [("own_reader", .ref rd)]) e0
    refine ⟨_, rfl, ⟨Nat.zero_le _, fun p1 hp1 => ⟨Nat.zero_le _, fun p2 hp2 => ⟨by show 6 ≤ sizeLine; decide, fun p3 hp3 => ?_⟩⟩⟩⟩
    have e2 := st_new (u := .tup []) e1 hp1
    have e3 := st_new (u := .tup []) e2 hp2
    have e4 := st_new (u := .tup [.ref t, .int 0, .non, .bl false, .ref p1, .ref p2]) e3 hp3
    refine ⟨_, rfl, ru, _, dx, _, rfl, e4.2, cl_Run T, n_Run_stand T, by show 1 < 1000; decide, ?_⟩
    have e5 := st_set (fs' := [("own_reader", .ref rd), ("stand", .ref p3)]) e4
    refine ⟨Nat.zero_le _, fun p4 hp4 => ?_⟩
    have e6 := st_new (u := .lst []) e5 hp4
    refine ⟨_, rfl, ru, _, dx, _, rfl, e6.2, cl_Run T, n_Run_past T, by show 2 < 1000; decide, ?_⟩
    have e7 := st_set (fs' := [("own_reader", .ref rd), ("stand", .ref p3), ("past", .ref p4)]) e6
    refine ⟨Nat.zero_le _, fun p5 hp5 => ?_⟩
    have e8 := st_new (u := .lst []) e7 hp5
    refine ⟨_, rfl, ru, _, dx, _, rfl, e8.2, cl_Run T, n_Run_ahead T, by show 3 < 1000; decide, ?_⟩
    have e9 := st_set (fs' := [("own_reader", .ref rd), ("stand", .ref p3), ("past", .ref p4), ("ahead", .ref p5)]) e8
    have c3 := (run_fill (K := g.K) ⟨Up.refl, e4.2⟩ hp4 hp5).ts _ _ upd_same
    have c2 := (run_fill (K := g.K) (st_new (u := .tup [.ref t, .int 0, .non, .bl false, .ref p1, .ref p2]) ⟨Up.refl, e3.2⟩ hp3) hp4 hp5).ts _ _ upd_same
    have c1 := (run_fill (K := g.K) (st_new (u := .tup [.ref t, .int 0, .non, .bl false, .ref p1, .ref p2]) (st_new (u := .tup []) ⟨Up.refl, e2.2⟩ hp2) hp3) hp4 hp5).ts _ _ upd_same
    have n4 : p4 ≠ ru := Ne.symm (ne_of_none e5.2 hp4)
    have c4 := (st_set (fs' := [("own_reader", .ref rd), ("stand", .ref p3), ("past", .ref p4), ("ahead", .ref p5)]) (st_new (u := .lst []) (st_set (fs' := [("own_reader", .ref rd), ("stand", .ref p3), ("past", .ref p4)]) ⟨Up.refl (K := g.K) (ms := [ru]), e6.2⟩) hp5)).1.lst upd_same (by simpa using n4)
    exact q _ p4 e9.1 (e5.1.fresh hp4) ⟨⟨dx, p3, p5, e9.2, p1, p2, [], [], c3, c1, .nil, c2, .nil⟩, [], c4, Nat.zero_le _⟩
end K48

namespace K48
open PySem PySem.Spec PyProof.Rows L2 ClX
variable {g : GX}
/-- a walk, turn by turn -/
theorem walk_W {J : It} {n : Nat} {G : Hp → Prop} {Y : Nat → Hp → V → Hp → Prop} (w : Walk J n G Y) {body : V → Hp → (Hp → Prop) → Prop} {Qd : Hp → Prop} {H0 : Hp} (Pv : Nat → Hp → Prop) (h0 : Pv 0 H0) (hG : ∀ i H, i ≤ n → Pv i H → G H)
    (hs : ∀ i x H H', i < n → Pv i H → Y i H x H' → body x H' (Pv (i + 1))) (hd : ∀ H, Pv n H → Qd H) :
    ∃ W : Nat → Nat → Hp → Prop, (∃ m, W 0 m H0) ∧ ∀ i m H, W i m H → (J.stop i H ∧ Qd H) ∨ (J.go i H ∧ ∃ Nx : Hp → Prop, (∀ H', Nx H' → ∃ m', m' < m ∧ W (i + 1) m' H') ∧ ∀ x H', J.yld i H x H' → body x H' Nx) := by
  refine ⟨fun i m H => m = n - i ∧ i ≤ n ∧ Pv i H, ⟨n, by simp, Nat.zero_le _, h0⟩, ?_⟩
  rintro i m H ⟨rfl, hi, p⟩
  have q := hG i H hi p
  by_cases hlt : i < n
  · exact .inr ⟨w.goes i H hlt q, Pv (i + 1), fun H' p' => ⟨n - (i + 1), by omega, rfl, hlt, p'⟩, fun x H' y => hs i x H H' hlt p (w.yields i H x H' hlt q y)⟩
  · have e : i = n := by omega
    subst e
    exact .inl ⟨w.stops H q, hd H p⟩
theorem pair_fwd {α β : Type} {F : α → β → Prop} : ∀ {l : List α} {l' : List β} {i : Nat} {a : α}, Paired F l l' → l[i]? = some a → ∃ b, l'[i]? = some b ∧ F a b
  | _, _, _, _, .nil, e => by cases e
  | _, _, 0, _, .cons r t, e => ⟨_, rfl, by rw [← Option.some.inj e]; exact r⟩
  | _, _, i + 1, _, .cons r t, e => pair_fwd (i := i) t e
theorem flat_take {α : Type} {l : List (List α)} {i : Nat} {p : List α} (h : l[i]? = some p) : (l.take (i + 1)).flatten = (l.take i).flatten ++ p := by
  rw [List.take_succ, h, List.flatten_append]
  simp
theorem flat_le {α : Type} {l : List (List α)} {i : Nat} : (l.take i).flatten.length ≤ l.flatten.length := by
  have e : l.flatten = (l.take i).flatten ++ (l.drop i).flatten := by rw [← List.flatten_append, List.take_append_drop]
  rw [e, List.length_append]
  omega
theorem yesI {σ : L2.St} {H : Hp} {f h : Hp → Prop} (q : f H) : tYes σ H fun b H => if b = true then f H else h H := by
  show (if true = true then f H else h H)
  rw [if_pos rfl]
  exact q
/-! ### runs.py: reading -/
def spTab (K : PySem.W.Frag) : Sp := fun vs H Q _ => ∃ (ru pa rd t : Addr) (m : Nat) (x : Tl) (st fl en : V), vs = [.ref ru] ∧ RunO K H ru pa rd t m x st fl en ∧ Q (.ref t) H
def spSt (K : PySem.W.Frag) : Sp := fun vs H Q _ => ∃ (ru pa rd t : Addr) (m : Nat) (x : Tl) (st fl en : V), vs = [.ref ru] ∧ RunO K H ru pa rd t m x st fl en ∧ Q st H
def spFl (K : PySem.W.Frag) : Sp := fun vs H Q _ => ∃ (ru pa rd t : Addr) (m : Nat) (x : Tl) (st fl en : V), vs = [.ref ru] ∧ RunO K H ru pa rd t m x st fl en ∧ Q fl H
theorem c_Run_table (T : Tx g) : CalP g 1 "Run" "table" (spTab g.K) := by
  obtain ⟨⟨fd, F⟩, h1, h2, h3, h4, h5⟩ := T.prop in_Run_table
  refine ⟨_, _, fd, p_Run_table, def_ok F sc_Run_table (fun vs H Q E h => ?_) (fun cdv A outer s H vs Q E hr h => ?_), cl_Run T, propOf_of h1 h2 h3 h5, F.bindsN fun _ _ _ _ _ _ us hl => match us, hl with | [_], _ => rfl⟩
  · obtain ⟨_, _, _, _, _, _, _, _, _, rfl, _⟩ := h
    rfl
  · obtain ⟨ru, pa, rd, t, m, x, st, fl, en, rfl, ⟨⟨dx, sa, ha, k1, pg, tq, ps, ts, k2, k3, k4, k5, k6⟩, _⟩, q⟩ := h
    exact ⟨_, pss_one (ps_ret (pe_ix ix_tup (pe_fld (f := "stand") (pv 0) rfl) pe_int (fun _ _ => rfl))), _, rfl, ru, _, dx, _, _, rfl, k1, cl_Run T, n_Run_stand T, rfl, sa, _, 0, _, rfl, rfl, SqT.of k2, rfl, q⟩
theorem c_Run_state (T : Tx g) : CalP g 1 "Run" "state" (spSt g.K) := by
  obtain ⟨⟨fd, F⟩, h1, h2, h3, h4, h5⟩ := T.prop in_Run_state
  refine ⟨_, _, fd, p_Run_state, def_ok F sc_Run_state (fun vs H Q E h => ?_) (fun cdv A outer s H vs Q E hr h => ?_), cl_Run T, propOf_of h1 h2 h3 h5, F.bindsN fun _ _ _ _ _ _ us hl => match us, hl with | [_], _ => rfl⟩
  · obtain ⟨_, _, _, _, _, _, _, _, _, rfl, _⟩ := h
    rfl
  · obtain ⟨ru, pa, rd, t, m, x, st, fl, en, rfl, ⟨⟨dx, sa, ha, k1, pg, tq, ps, ts, k2, k3, k4, k5, k6⟩, _⟩, q⟩ := h
    exact ⟨_, pss_one (ps_ret (pe_ix ix_tup (pe_fld (f := "stand") (pv 0) rfl) pe_int (fun _ _ => rfl))), _, rfl, ru, _, dx, _, _, rfl, k1, cl_Run T, n_Run_stand T, rfl, sa, _, 1, _, rfl, rfl, SqT.of k2, rfl, q⟩
theorem c_Run_fault (T : Tx g) : CalP g 1 "Run" "fault" (spFl g.K) := by
  obtain ⟨⟨fd, F⟩, h1, h2, h3, h4, h5⟩ := T.prop in_Run_fault
  refine ⟨_, _, fd, p_Run_fault, def_ok F sc_Run_fault (fun vs H Q E h => ?_) (fun cdv A outer s H vs Q E hr h => ?_), cl_Run T, propOf_of h1 h2 h3 h5, F.bindsN fun _ _ _ _ _ _ us hl => match us, hl with | [_], _ => rfl⟩
  · obtain ⟨_, _, _, _, _, _, _, _, _, rfl, _⟩ := h
    rfl
  · obtain ⟨ru, pa, rd, t, m, x, st, fl, en, rfl, ⟨⟨dx, sa, ha, k1, pg, tq, ps, ts, k2, k3, k4, k5, k6⟩, _⟩, q⟩ := h
    exact ⟨_, pss_one (ps_ret (pe_ix ix_tup (pe_fld (f := "stand") (pv 0) rfl) pe_int (fun _ _ => rfl))), _, rfl, ru, _, dx, _, _, rfl, k1, cl_Run T, n_Run_stand T, rfl, sa, _, 2, _, rfl, rfl, SqT.of k2, rfl, q⟩
def spLen (K : PySem.W.Frag) : Sp := fun vs H Q _ => ∃ (ru pa rd t : Addr) (m : Nat) (x : Tl) (st fl en : V), vs = [.ref ru] ∧ RunO K H ru pa rd t m x st fl en ∧ Q (.int x.pages.length) H
theorem c_Run_len (T : Tx g) : CalM g 1 "Run" "__len__" (spLen g.K) := by
  obtain ⟨fd, F⟩ := T.fun_ in_Run___len__
  refine ⟨_, fd, p_Run___len__, def_ok F sc_Run___len__ (fun vs H Q E h => ?_) (fun cdv A outer s H vs Q E hr h => ?_), cl_Run T, m_Run___len__ T, F.bindsN fun _ _ _ _ _ _ us hl => match us, hl with | [_], _ => rfl⟩
  · obtain ⟨_, _, _, _, _, _, _, _, _, rfl, _⟩ := h
    rfl
  · obtain ⟨ru, pa, rd, t, m, x, st, fl, en, rfl, ⟨⟨dx, sa, ha, k1, pg, tq, ps, ts, k2, k3, k4, k5, k6⟩, _⟩, q⟩ := h
    refine ⟨_, pss_one (ps_ret (pe_callB call_len_seq (by rfl) (f_len T) PySem.boot_len (pa_cons (pe_ix ix_tup (pe_fld (f := "stand") (pv 0) rfl) pe_int (fun _ _ => rfl)) pa_nil))), ?_⟩
    refine ⟨_, rfl, ru, _, dx, _, _, rfl, k1, cl_Run T, n_Run_stand T, rfl, sa, _, 4, _, rfl, rfl, SqT.of k2, rfl, pg, _, rfl, .inr (SqT.of k3), ?_⟩
    rw [Paired.length k4]
    exact q
/-- a new list that holds the ints -/
def NewI (ns : List Int) (H0 : Hp) : V → Hp → Prop := fun v H' => ∃ p, v = .ref p ∧ Fr H0 p ∧ H' p = some (.lst (ns.map V.int))
def spTold (K : PySem.W.Frag) : Sp := fun vs H Q _ => ∃ (ru pa rd t : Addr) (m : Nat) (x : Tl) (st fl en : V), vs = [.ref ru] ∧ RunO K H ru pa rd t m x st fl en ∧ x.T.length ≤ 1000 ∧ Ret K [] H (NewI (x.T.map (·.2)) H) Q
theorem c_Run_told (T : Tx g) : CalM g 1 "Run" "told" (spTold g.K) := by
  obtain ⟨fd, F⟩ := T.fun_ in_Run_told
  refine ⟨_, fd, p_Run_told, def_ok F sc_Run_told (fun vs H Q E h => ?_) (fun cdv A outer s H vs Q E hr h => ?_), cl_Run T, m_Run_told T, F.bindsN fun _ _ _ _ _ _ us hl => match us, hl with | [_], _ => rfl⟩
  · obtain ⟨_, _, _, _, _, _, _, _, _, rfl, _⟩ := h
    rfl
  · obtain ⟨ru, pa, rd, t, m, x, st, fl, en, rfl, ⟨⟨dx, sa, ha, k1, pg, tq, ps, ts, k2, k3, k4, k5, k6⟩, _⟩, few, q⟩ := h
    have nd := sc_Run_told.nd
    refine ⟨_, pss_one (ps_ret (pe_lc2 (own := [("page", 1), ("key", 2), ("number", 3)]) (vs1 := [2, 3]) (g := gName 1) (g1 := gTup g.K 2 (gCons (gName 2) (gCons (gName 3) gNil))) (tt := tYes) (tt1 := tYes) rfl nd (pi_tup (pe_ix ix_tup (pe_fld (f := "stand") (pv 0) rfl) pe_int (fun _ _ => rfl)))
      (blkOk_by (N := N_Run_told) (sc := defScope s_Run_told) (by decide +kernel)) (by decide) (fun _ _ _ _ _ => pg_name (i := 1) nd rfl (Or.inl rfl)) (fun _ _ _ _ _ => pts_nil) (wi1 := iTup g.K (tVar 1)) (fun _ _ _ _ _ => pi_tup (pv 1))
      (fun _ _ _ _ _ => pg_tup rfl (pgs_cons (pg_name (i := 2) nd rfl (Or.inl rfl)) (pgs_cons (pg_name (i := 3) nd rfl (Or.inl rfl)) pgs_nil))) (fun _ _ _ _ _ => pts_nil) (fun _ _ _ _ _ => pv 3))), ?_⟩
    refine ⟨_, rfl, ru, _, dx, _, _, rfl, k1, cl_Run T, n_Run_stand T, rfl, sa, _, 4, _, rfl, rfl, SqT.of k2, rfl, pg, rfl, ⟨ps, SqT.of k3⟩, fun D hD => ?_⟩
    have e0 : Up g.K [] H (upd H D (.lst [])) := Up.new hD
    refine walk_W (walk_tup (xs := ps)) (fun i H2 => Up g.K [] H H2 ∧ H2 D = some (.lst ((((x.pages.take i).flatten).map (·.2)).map V.int))) ⟨e0, upd_same⟩ (fun i H2 _ p => SqT.of (p.1.tup _ _ k3)) ?_ ?_
    · rintro i v H2 H3 hi ⟨e, hD2⟩ ⟨rfl, hv⟩
      obtain ⟨page, hp, a, xs, rfl, ha, hx⟩ := pair_fwd k4 hv
      have ha2 := e.tup _ _ ha
      have hlen := Paired.length hx
      have tot := flat_le (l := x.pages) (i := i + 1)
      rw [flat_take hp, List.length_append] at tot
      refine ⟨wipe_set (by simp), yesI ⟨_, rfl, a, rfl, ⟨xs, SqT.of ha2⟩, ?_⟩⟩
      refine walk_W (walk_tup (xs := xs)) (fun j H5 => Up g.K [] H H5 ∧ H5 D = some (.lst ((((x.pages.take i).flatten ++ page.take j).map (·.2)).map V.int))) ⟨e, by rw [List.take_zero, List.append_nil]; exact hD2⟩ (fun j H5 _ p => SqT.of (p.1.tup _ _ ha)) ?_ ?_
      · rintro j w H5 H6 hj ⟨e5, hD5⟩ ⟨rfl, hw⟩
        obtain ⟨pl, hpl, b, rfl, hb⟩ := pair_fwd hx hw
        refine gt_tup (SqT.of (e5.tup _ _ hb)) ⟨?_, yesI ⟨_, rfl, _, hD5, ?_, e5.mut (.of hD) hD5 trivial, ?_⟩⟩
        · rw [wipe_set (by simp), wipe_set (by simp), wipe_two]
        · rw [List.length_map, List.length_map, List.length_append, List.length_take]
          have : min j page.length ≤ page.length := Nat.min_le_right _ _
          have := few
          unfold Tl.T at few
          exact Nat.lt_of_le_of_lt (show _ ≤ 1000 by omega) (by decide)
        · rw [upd_same, List.take_succ, hpl]
          simp
      · rintro H5 ⟨e5, hD5⟩
        refine ⟨e5, ?_⟩
        rw [hD5, hlen, List.take_of_length_le (Nat.le_refl _), flat_take hp]
    · rintro H2 ⟨e, hD2⟩
      refine q _ _ e ⟨D, rfl, .of hD, ?_⟩
      rw [hD2, List.take_of_length_le (by rw [Paired.length k4]; exact Nat.le_refl _)]
      rfl
end K48

namespace K48
open PySem PySem.Spec PyProof.Rows L2 ClX
variable {g : GX}
def rListOf (K : PySem.W.Frag) : List V → Hp → VK → Prop := fun xs H Q => ∃ p ys, xs = [.ref p] ∧ (SqL K H p ys ∨ SqT K H p ys) ∧ ∀ l, H l = none → Q (.ref l) (upd H l (.lst ys))
theorem call_listOf {X : Cx} : CallR X (.type "list") (rListOf X.K) := call_list_of
theorem pe_dead {X : Cx} {e : Expr} : PE X e (fun _ _ _ => False) := ⟨fun _ _ _ _ _ _ h => h.elim⟩
theorem room65 {k : Nat} {A : Around} (r : Room k A) : A.units + 65 < cLine := by have := r.un; omega
def PgL (H : Hp) (v : V) (ps : List Place) : Prop := ∃ a xs, v = .ref a ∧ H a = some (.lst xs) ∧ Pls H xs ps
/-- a new list of lists of places -/
def NewPgs (ps : List (List Place)) (H0 : Hp) : V → Hp → Prop := fun v H' => ∃ p xs, v = .ref p ∧ Fr H0 p ∧ H' p = some (.lst xs) ∧ Paired (PgL H') xs ps
def spPages (K : PySem.W.Frag) : Sp := fun vs H Q _ => ∃ (ru pa rd t : Addr) (m : Nat) (x : Tl) (st fl en : V), vs = [.ref ru] ∧ RunO K H ru pa rd t m x st fl en ∧ x.pages.length ≤ 1000 ∧ Ret K [] H (NewPgs x.pages H) Q
theorem c_Run_pages (T : Tx g) : CalM g 1 "Run" "pages" (spPages g.K) := by
  obtain ⟨fd, F⟩ := T.fun_ in_Run_pages
  refine ⟨_, fd, p_Run_pages, def_ok F sc_Run_pages (fun vs H Q E h => ?_) (fun cdv A outer s H vs Q E hr h => ?_), cl_Run T, m_Run_pages T, F.bindsN fun _ _ _ _ _ _ us hl => match us, hl with | [_], _ => rfl⟩
  · obtain ⟨_, _, _, _, _, _, _, _, _, rfl, _⟩ := h
    rfl
  · obtain ⟨ru, pa, rd, t, m, x, st, fl, en, rfl, ⟨⟨dx, sa, ha, k1, pg, tq, ps, ts, k2, k3, k4, k5, k6⟩, _⟩, few, q⟩ := h
    have nd := sc_Run_pages.nd
    refine ⟨_, pss_one (ps_ret (pe_lc (own := [("page", 1)]) (g := gName 1) (tt := tYes) rfl nd (pi_tup (pe_ix ix_tup (pe_fld (f := "stand") (pv 0) rfl) pe_int (fun _ _ => rfl)))
      (blkOk_by (N := N_Run_pages) (sc := defScope s_Run_pages) (by decide +kernel)) (fun _ _ _ _ _ => pg_name (i := 1) nd rfl (Or.inl rfl)) (fun _ _ _ _ _ => pts_nil) (fun _ _ _ _ _ => pe_callTy (r := rListOf g.K) call_listOf (by rfl) (f_list T) boot_list (pa_cons (pv 1) pa_nil)))), ?_⟩
    refine ⟨_, rfl, ru, _, dx, _, _, rfl, k1, cl_Run T, n_Run_stand T, rfl, sa, _, 4, _, rfl, rfl, SqT.of k2, rfl, pg, rfl, ⟨ps, SqT.of k3⟩, fun D hD => ?_⟩
    have hlen := Paired.length k4
    refine lc_walk (K := g.K) (walk_tup (xs := ps)) [] (fun _ => true) (fun i y H => ∃ pgi, x.pages[i]? = some pgi ∧ ∃ a xs, y = .ref a ∧ a ≠ D ∧ H a = some (.lst xs) ∧ Pls H xs pgi) hD (fun H' e => SqT.of (e.tup _ _ k3)) (fun i H x H' y => ya_up y) (by omega)
      (fun i y H H' e h => ?_) (turn_name (by simp) fun i v H2 hi hv e hD2 => ⟨EvB.yes, fun _ H3 e3 Q3 k3 => ?_⟩) (by simp) fun ys H2 e eD lr => ?_
    · obtain ⟨pgi, h1, a, xs, rfl, h2, h3, h4⟩ := h
      exact ⟨pgi, h1, a, xs, rfl, h2, e.lst h3 (by simpa using h2), e.ts.pls h4⟩
    · obtain ⟨pgi, hp, a, xs, rfl, ha2, hx⟩ := pair_fwd k4 hv
      have e13 := e.trans e3
      refine ⟨_, rfl, a, xs, rfl, .inr (SqT.of (e13.tup _ _ ha2)), fun l hl => ?_⟩
      have e4 : Up g.K [] H3 (upd H3 l (.lst xs)) := Up.new hl
      refine k3 _ _ e4 ⟨pgi, hp, l, xs, rfl, ?_, upd_same, (e13.trans e4).ts.pls hx⟩
      rintro rfl
      obtain ⟨zs, hz⟩ := hD2
      have := e3.lst hz
      rw [hl] at this
      cases this
    · have := lr_filter (φ := fun _ => true) (F := fun y pgi H => ∃ a xs, y = .ref a ∧ a ≠ D ∧ H a = some (.lst xs) ∧ Pls H xs pgi) hlen (fun _ _ _ => rfl) lr
      rw [List.filter_eq_self.mpr fun _ _ => rfl] at this
      exact q _ _ e ⟨D, ys, rfl, .of hD, eD, L2.Paired.mapP this fun y pgi h => let ⟨a, xs, h1, _, h3, h4⟩ := h; ⟨a, xs, h1, h3, h4⟩⟩
end K48

namespace K48
open PySem PySem.Spec PyProof.Rows L2 ClX
variable {g : GX}
theorem dp_pages {K : PySem.W.Frag} {H : Hp} : ∀ {xs : List V} {ps : List (List Place)}, Paired (PageV H) xs ps → DpAll K H xs (ps.map fun p => .tuple (p.map plD))
  | _, _, .nil => .nil
  | _, _, .cons ⟨a, ys, e, ha, hy⟩ t => .cons (by rw [e]; exact .tup (.of ha) (dp_pls hy)) (dp_pages t)
theorem sh_pages (ps : List (List Place)) : Sh 3 (.tuple (ps.map fun p => .tuple (p.map plD))) := Sh.tuple fun d hd => by
  obtain ⟨p, _, rfl⟩ := List.mem_map.mp hd
  exact sh_plt p
theorem eqv_empty (ps : List (List Place)) : PyData.eqv (.tuple (ps.map fun p => .tuple (p.map plD))) (.tuple []) = decide (ps = []) := by
  cases ps <;> simp [PyData.eqv, PyData.eqvAll]
theorem tl_at {d : Dat} {x : Tl} (ok : d.geo.Ok) (tk : x.Ok d) {p : Nat} (hp : p < d.P) {y : Place} (hy : y ∈ d.geo.L p) : (y ∈ (x.tells.filter fun z => decide (z.2 = p)).map (·.1)) ↔ y ∈ x.T := by
  rw [← tk.same]
  simp only [List.mem_map, List.mem_filter, decide_eq_true_eq]
  constructor
  · rintro ⟨z, ⟨h1, _⟩, rfl⟩
    exact ⟨z, h1, rfl⟩
  · rintro ⟨z, h1, rfl⟩
    obtain ⟨h2, h3⟩ := tk.at_ z h1
    exact ⟨z, ⟨h1, ok.one h2 hp h3 hy⟩, rfl⟩
theorem opn_here {d : Dat} {x : Tl} (ok : d.geo.Ok) (tk : x.Ok d) {p : Nat} (hp : p < d.P) : (d.geo.L p).filter (fun y => decide (y ∉ (x.tells.filter fun z => decide (z.2 = p)).map (·.1))) = d.geo.opn x.T p := by
  unfold Geo.opn
  refine List.filter_congr fun y hy => ?_
  exact decide_eq_decide.mpr (not_congr (tl_at ok tk hp hy))
/-- a new list of places -/
def NewP (ps : List Place) (H0 : Hp) : V → Hp → Prop := fun v H' => ∃ q ys, v = .ref q ∧ Fr H0 q ∧ H' q = some (.lst ys) ∧ Pls H' ys ps
theorem any_eqv (ps : List Place) (p : Place) : ((ps.map plD).any fun z => PyData.eqv z (plD p)) = decide (p ∈ ps) := by
  rw [List.any_map, Bool.eq_iff_iff, List.any_eq_true, decide_eq_true_eq]
  constructor
  · rintro ⟨q, hq, e⟩
    have e2 : PyData.eqv (plD q) (plD p) = true := e
    rw [plD_eqv, decide_eq_true_eq] at e2
    rw [← e2]
    exact hq
  · exact fun h => ⟨p, h, by show PyData.eqv (plD p) (plD p) = true; rw [plD_eqv]; exact decide_eq_true rfl⟩
theorem pls_filter {H : Hp} {f : Nat → Bool} {ps : List Place} {φ : Place → Bool} {n : Nat} {ys : List V} (hn : n = ps.length) (hf : ∀ i r, ps[i]? = some r → f i = φ r) (h : LR n f (fun i y H => ∃ r, ps[i]? = some r ∧ PlV H y r) H ys) : Pls H ys (ps.filter φ) := lr_filter (F := fun y r H => PlV H y r) hn hf h
theorem pair_last {α β : Type} {F : α → β → Prop} {l : List α} {l' : List β} (h : Paired F l l') (hn : l' ≠ []) : ∃ l0 a b, l = l0 ++ [a] ∧ F a b ∧ b ∈ l' := by
  have hl := Paired.length h
  have hn2 : l ≠ [] := fun e => by
    rw [e] at hl
    exact hn (List.eq_nil_of_length_eq_zero hl.symm)
  have e := List.dropLast_concat_getLast hn2
  have hp : 0 < l.length := List.length_pos_iff.mpr hn2
  have g : l[l.length - 1]? = some (l.getLast hn2) := by rw [List.getLast_eq_getElem]; exact List.getElem?_eq_getElem (by omega)
  obtain ⟨b, hb, f⟩ := pair_fwd h g
  exact ⟨_, _, b, e.symm, f, List.mem_of_getElem? hb⟩
theorem tells_map {H : Hp} : ∀ {zs : List V} {l : List (Place × Nat)}, Paired (fun y z => PlV H y z.1) zs l → Pls H zs (l.map (·.1))
  | _, _, .nil => .nil
  | _, _, .cons r t => .cons r (tells_map t)
/-- the run and what it runs on -/
structure RunG (K : PySem.W.Frag) (H : Hp) (d : Dat) (ru pa rd t r : Addr) (m : Nat) (x : Tl) (st fl en : V) : Prop where
  gv : Gv K H d rd t r
  run : RunO K H ru pa rd t m x st fl en
  tabs : LamX.Tabs (tabT K) H
  tk : x.Ok d
theorem RunG.up {K : PySem.W.Frag} {ms : List Addr} {H H' : Hp} {d : Dat} {ru pa rd t r : Addr} {m : Nat} {x : Tl} {st fl en : V} (h : RunG K H d ru pa rd t r m x st fl en) (e : Up K ms H H') (h1 : ru ∉ ms := by simp) (h2 : pa ∉ ms := by simp) (h3 : rd ∉ ms := by simp) (h4 : t ∉ ms := by simp) (h5 : r ∉ ms := by simp) :
    RunG K H' d ru pa rd t r m x st fl en := ⟨h.gv.up e h3 h4 h5, h.run.up e h1 h2, e.tabs h.tabs, h.tk⟩
def spOpen (K : PySem.W.Frag) : Sp := fun vs H Q _ => ∃ (d : Dat) (ru pa rd t r : Addr) (m p : Nat) (x : Tl) (st fl en : V), vs = [.ref ru, .int p] ∧ RunG K H d ru pa rd t r m x st fl en ∧ d.Ok ∧ p < d.P ∧ Ret K [] H (NewP (d.geo.opn x.T p) H) Q
theorem c_Run_open_rows (T : Tx g) : CalM g 4 "Run" "open_rows" (spOpen g.K) := by
  obtain ⟨fd, F⟩ := T.fun_ in_Run_open_rows
  refine ⟨_, fd, p_Run_open_rows, def_ok F sc_Run_open_rows (fun vs H Q E h => ?_) (fun cdv A outer s H vs Q E hr h => ?_), cl_Run T, m_Run_open_rows T, F.bindsN fun _ _ _ _ _ _ us hl => match us, hl with | [_, _], _ => rfl⟩
  · obtain ⟨_, _, _, _, _, _, _, _, _, _, _, _, rfl, _⟩ := h
    rfl
  · obtain ⟨d, ru, pa, rd, t, r, m, p, x, st, fl, en, rfl, G, ok, hp, q⟩ := h
    have nd := sc_Run_open_rows.nd
    refine ⟨_, pss_cons (ps_expr (pe_c (c_need_part T) hr (pa_cons (pv 1) (pa_cons (pe_p (c_Table_parts T) hr (pe_p (c_Run_table T) hr (pv 0))) pa_nil))))
      (pss_cons (ps_set (i := 2) nd rfl (Or.inl rfl) (pe_c (c_inner_sorted T) hr (pa_cons (pe_p (c_Reader_inner T) hr (pe_fld (f := "own_reader") (pv 0) rfl)) (pa_cons (pe_m (c_Table_part T) hr (pe_p (c_Run_table T) hr (pv 0)) (pa_cons (pv 1) pa_nil)) pa_nil))))
      (pss_cons (ps_if (pt_cmpR (op_eqD hr.units) (pe_ix ix_tup (pe_fld (f := "stand") (pv 0) rfl) pe_int (fun _ _ => rfl)) (pe_tup pa_nil) (nomark _)) (pss_one (ps_ret (pv 2))) pss_nil)
      (pss_cons (ps_set (i := 3) nd rfl (Or.inr rfl) (pe_ix ix_tup (pe_ix ix_tup (pe_ix ix_tup (pe_fld (f := "stand") (pv 0) rfl) pe_int (fun _ _ => rfl)) (pe_un un_neg pe_int) (fun _ _ => rfl)) (pe_un un_neg pe_int) (fun _ _ => rfl)))
      (pss_cons (ps_set (i := 4) nd rfl (Or.inr rfl) (pe_lc (own := [("place", 6), ("some", 7)]) (g := gTup g.K 2 (gCons (gName 6) (gCons (gName 7) gNil))) (tt := tTest (tOp (rIn g.K false) (tVar 1) (tVar 7))) rfl nd (pi_tup (pe_ix ix_tup (pe_fld (f := "stand") (pv 0) rfl) pe_int (fun _ _ => rfl)))
        (blkOk_by (N := N_Run_open_rows) (sc := defScope s_Run_open_rows) (by decide +kernel)) (fun _ _ _ _ _ => pg_tup rfl (pgs_cons (pg_name (i := 6) nd rfl (Or.inl rfl)) (pgs_cons (pg_name (i := 7) nd rfl (Or.inl rfl)) pgs_nil))) (fun _ _ _ _ _ => pts_one (pt_cmpR op_in_seq (pv 1) (pv 7) rfl)) (fun _ _ _ _ _ => pv 6)))
      (pss_cons (ps_set (i := 5) nd rfl (Or.inl rfl) (pe_p (c_Reader_mark T) hr (pe_fld (f := "own_reader") (pv 0) rfl)))
      (pss_cons (ps_if (pt_cmpR op_eq (pv 5) pe_str (nomark _)) (pss_one ps_never) pss_nil) (pss_cons (ps_if (pt_cmpR op_eq (pv 5) pe_str (nomark _)) (pss_one ps_never) pss_nil)
      (pss_cons (ps_if (pt_cmpR op_eq (pv 5) pe_str (nomark _)) (pss_one ps_never) pss_nil) (pss_cons (ps_if (pt_cmpR op_eq (pv 5) pe_str (nomark _)) (pss_one ps_never) pss_nil)
      (pss_one (ps_ret (pe_ifExp (pt_cmpR op_eq (pv 5) pe_str (nomark _)) pe_dead (pe_lc (own := [("place", 6)]) (g := gName 6) (tt := tTest (tOp (rNotInD g.K) (tVar 6) (tVar 4))) rfl nd (pi_list (pv 2)) (blkOk_by (N := N_Run_open_rows) (sc := defScope s_Run_open_rows) (by decide +kernel))
        (fun _ _ _ _ _ => pg_name (i := 6) nd rfl (Or.inl rfl)) (fun _ _ _ _ _ => pts_one (pt_cmpR (op_notInD (room65 hr)) (pv 6) (pv 4) rfl)) (fun _ _ _ _ _ => pv 6)))))))))))))), ?_⟩
    obtain ⟨⟨dx, sa, ha, k1, pg, tq, ps, ts, k2, k3, k4, k5, k6⟩, pasts⟩ := G.run
    obtain ⟨tdx, th⟩ := G.gv.tab.ins
    obtain ⟨rdx, rst, rb, rc, rh, _⟩ := G.gv.rd.ex
    refine ⟨_, rfl, _, rfl, ru, dx, _, rfl, k1, ru, pa, rd, t, m, x, st, fl, en, rfl, G.run, t, tdx, _, rfl, th, t, tdx, _, _, rfl, th, rfl, p, d.P, rfl, by omega, by omega, ?_⟩
    refine ⟨_, rfl, ru, _, dx, _, _, rfl, k1, cl_Run T, n_Run_own_reader T, rfl, rd, rdx, _, rfl, rh, rd, rdx, _, _, rfl, rh, rfl, _, rfl, ru, dx, _, rfl, k1, ru, pa, rd, t, m, x, st, fl, en, rfl, G.run, t, tdx, _, rfl, th, rfl, _, rfl, t, r, d.P, p, d.rs, rfl, G.gv.tab, hp, ok.rows.few, fun v H1 e1 hv => ?_⟩
    obtain ⟨l, ys, rfl, fr, hl, hys⟩ := hv
    refine ⟨d.up, l, ys, ofP p d.rs, rfl, SqL.of hl, hys, e1.tabs G.tabs, fun v2 H2 e2 hv2 => ?_⟩
    obtain ⟨l2, ys2, rfl, fr2, hl2, hys2⟩ := hv2
    have hys2 : Pls H2 ys2 (d.geo.L p) := hys2
    have e12 := e1.trans e2
    refine ⟨_, rfl, ru, _, dx, _, _, rfl, e12.ins k1, cl_Run T, n_Run_stand T, rfl, sa, _, 4, _, rfl, rfl, SqT.of (e12.tup _ _ k2), rfl, Nat.zero_le _, fun q0 hq0 => ?_⟩
    have e3' : Up g.K [] H2 (upd H2 q0 (.tup [])) := Up.new hq0
    have e123 := e12.trans e3'
    refine ⟨_, .tuple [], .tup (.of (e123.tup _ _ k3)) (dp_pages (L2.Paired.mapP k4 fun _ _ => e123.ts.page)), .tup (.of upd_same) .nil, (sh_pages _).ok (by decide), (Sh.tuple (n := 0) fun d hd => by cases hd).ok (by decide), _, rfl, ?_⟩
    rw [eqv_empty]
    by_cases hx : x.pages = []
    · rw [decide_eq_true hx]
      refine iteT ⟨_, rfl, q _ _ e123 ⟨l2, ys2, rfl, e1.has l2 fr2, e3'.lst hl2, ?_⟩⟩
      have e : x.T = [] := by unfold Tl.T; rw [hx]; rfl
      rw [e, opn_nil]
      exact e3'.ts.pls hys2
    · rw [decide_eq_false hx]
      obtain ⟨ps0, pv0, pg0, hps, ⟨a0, xs0, rfl, hxs0, hp0⟩, hpg0⟩ := pair_last k4 hx
      obtain ⟨xs1, lv, lp, hxs1, _, _⟩ := pair_last hp0 (G.tk.ne pg0 hpg0)
      refine iteF ⟨_, rfl, ru, _, dx, _, _, rfl, e123.ins k1, cl_Run T, n_Run_stand T, rfl, sa, _, 4, _, rfl, rfl, SqT.of (e123.tup _ _ k2), rfl, _, rfl, pg, _, -1, _, rfl, rfl, SqT.of (e123.tup _ _ k3), (by rw [hps]; exact atI_last _ _), _, rfl, a0, _, -1, lv, rfl, rfl, SqT.of (e123.tup _ _ hxs0), (by rw [hxs1]; exact atI_last _ _), ?_⟩
      refine ⟨_, rfl, ru, _, dx, _, _, rfl, e123.ins k1, cl_Run T, n_Run_stand T, rfl, sa, _, 5, _, rfl, rfl, SqT.of (e123.tup _ _ k2), rfl, tq, rfl, ⟨ts, SqT.of (e123.tup _ _ k5)⟩, fun D hD => ?_⟩
      have hlt := Paired.length k6
      have fewT : x.tells.length ≤ 100 := by
        have h1 := congrArg List.length G.tk.same
        rw [List.length_map] at h1
        have h2 := G.tk.told.len
        have h3 := ok.len
        omega
      refine lc_walk (K := g.K) (walk_tup (xs := ts)) [] (fun i => (x.tells[i]?.map fun z => decide (z.2 = p)).getD false) (fun i y H => ∃ z, x.tells[i]? = some z ∧ PlV H y z.1) hD (fun H' e => SqT.of (e.tup _ _ (e123.tup _ _ k5))) (fun i H x H' y => ya_up y) (by omega) (fun i y H H' e h => let ⟨z, h1, h2⟩ := h; ⟨z, h1, e.ts.pl h2⟩)
        (fun i v H3 H4 hi e3 hD3 hy QQ qq => ?_) (by simp) fun zs H3 e3 eD lr => ?_
      · obtain ⟨rfl, hv⟩ := hy
        obtain ⟨z, hz, za, zb, zc, rfl, h1, h2, h3⟩ := pair_fwd k6 hv
        have e4 := e123.trans e3
        refine gt_tup (SqT.of (e4.tup _ _ h1)) (qq _ H4 Up.refl (by rw [wipe_set (by simp), wipe_set (by simp), wipe_two]) (fun Q3 k3 => ?_) fun _ H5 e5 Q5 k5 => ?_)
        · refine ⟨_, rfl, _, rfl, zc, _, rfl, .inr (SqT.of (e4.tup _ _ h3)), rfl, rfl, _, rfl, ?_⟩
          rw [if_neg Bool.false_ne_true]
          have e1 : inV (.int (p : Int)) [.int (z.2 : Int)] = decide (z.2 = p) := by
            have := in_ints (p : Int) [(z.2 : Int)]
            rw [show [V.int (z.2 : Int)] = [(z.2 : Int)].map V.int from rfl, this]
            apply decide_eq_decide.mpr
            rw [List.mem_singleton]
            omega
          rw [e1]
          have := k3 H4 Up.refl
          rw [hz] at this
          exact this
        · exact ⟨_, rfl, k5 _ _ Up.refl ⟨z, hz, zb, rfl, (e4.trans e5).tup _ _ h2⟩⟩
      · have here := lr_filter (φ := fun z : Place × Nat => decide (z.2 = p)) (F := fun y z H => PlV H y z.1) hlt (fun i z h => by rw [h]; rfl) lr
        have e4 := e123.trans e3
        have here2 : Pls H3 zs ((x.tells.filter fun z => decide (z.2 = p)).map (·.1)) := tells_map here
        refine ⟨_, rfl, ru, _, dx, _, _, rfl, e4.ins k1, cl_Run T, n_Run_own_reader T, rfl, rd, rdx, _, rfl, e4.ins rh, rd, rdx, _, _, rfl, e4.ins rh, rfl, ?_⟩
        refine ⟨_, rfl, rfl, _, rfl, ?_⟩
        rw [deq_str, decide_eq_false (show ¬ ("rest" : Str) = "key" by decide +kernel)]
        refine iteF ⟨_, rfl, rfl, _, rfl, ?_⟩
        rw [deq_str, decide_eq_false (show ¬ ("rest" : Str) = "from" by decide +kernel)]
        refine iteF ⟨_, rfl, rfl, _, rfl, ?_⟩
        rw [deq_str, decide_eq_false (show ¬ ("rest" : Str) = "row" by decide +kernel)]
        refine iteF ⟨_, rfl, rfl, _, rfl, ?_⟩
        rw [deq_str, decide_eq_false (show ¬ ("rest" : Str) = "each" by decide +kernel)]
        refine iteF ⟨_, rfl, rfl, _, rfl, ?_⟩
        rw [deq_str, decide_eq_false (show ¬ ("rest" : Str) = "count" by decide +kernel)]
        have e5 : Up g.K [] H2 H3 := e3'.trans e3
        have hl5 := e5.lst hl2
        have hys5 := e5.ts.pls hys2
        have fewL : ys2.length ≤ 100 := by
          rw [Paired.length hys2]
          show (sti d.up (ofP p d.rs)).length ≤ 100
          rw [sti_perm.length_eq]
          unfold ofP
          rw [List.length_map]
          have := List.length_filter_le (fun r : Row => decide (r.2.2 = p)) d.rs
          have := ok.rows.few
          omega
        refine iteF ⟨_, rfl, l2, rfl, ⟨ys2, SqL.of hl5⟩, fun D2 hD2 => ?_⟩
        refine lc_walk (K := g.K) (walk_list (xs := ys2)) [] (fun i => ((d.geo.L p)[i]?.map fun y => decide (y ∉ (x.tells.filter fun z => decide (z.2 = p)).map (·.1))).getD false) (fun i y H => ∃ z, (d.geo.L p)[i]? = some z ∧ PlV H y z) hD2 (fun H' e => SqL.of (e.lst hl5)) (fun i H x H' y => ya_up y) (by omega) (fun i y H H' e h => let ⟨z, h1, h2⟩ := h; ⟨z, h1, e.ts.pl h2⟩)
          (turn_name (by simp) fun i v H6 hi hv e6 _ => ⟨fun Q3 k3 => ?_, fun _ H7 e7 Q5 k5 => ?_⟩) (by simp) fun ws H6 e6 eD6 lr6 => ?_
        · obtain ⟨z, hz, hzv⟩ := pair_fwd hys5 hv
          refine ⟨_, rfl, _, rfl, plD z, _, dp_place (e6.ts.pl hzv), .lst (SqL.of (e6.lst eD)) (dp_pls (e6.ts.pls here2)), (sh_pl z).ok (by decide), (sh_pls _).ok (by decide), _, rfl, ?_⟩
          rw [any_eqv]
          have := k3 H6 Up.refl
          rw [hz] at this
          have e1 : (!decide (z ∈ (x.tells.filter fun z => decide (z.2 = p)).map (·.1))) = decide (z ∉ (x.tells.filter fun z => decide (z.2 = p)).map (·.1)) := by rw [Bool.eq_iff_iff]; simp
          rw [e1]
          exact this
        · obtain ⟨z, hz, hzv⟩ := pair_fwd hys5 hv
          exact ⟨_, rfl, k5 _ _ Up.refl ⟨z, hz, (e6.trans e7).ts.pl hzv⟩⟩
        · have fin := pls_filter (φ := fun y => decide (y ∉ (x.tells.filter fun z => decide (z.2 = p)).map (·.1))) (Paired.length hys2) (fun i z h => by rw [h]; rfl) lr6
          rw [opn_here ok.geo G.tk hp] at fin
          exact q _ _ (e4.trans e6) ⟨D2, ws, rfl, (e4.fresh hD2), eD6, fin⟩
end K48

namespace K48
open PySem PySem.Spec PyProof.Rows L2 ClX
variable {g : GX}
theorem L_few {d : Dat} (ok : d.Ok) (p : Nat) : (d.geo.L p).length ≤ 63 := by
  show (sti d.up (ofP p d.rs)).length ≤ 63
  rw [sti_perm.length_eq]
  unfold ofP
  rw [List.length_map]
  have := List.length_filter_le (fun r : Row => decide (r.2.2 = p)) d.rs
  have := ok.rows.few
  omega
theorem snt_few {d : Dat} (ok : d.Ok) (T : List Place) (p : Nat) : (d.geo.snt T p).length ≤ 63 := by
  unfold Geo.snt
  rw [List.length_take]
  have h1 : (d.geo.opn T p).length ≤ (d.geo.L p).length := List.length_filter_le _ _
  have h2 := L_few ok p
  have h3 := Nat.min_le_right (d.geo.ask p) (d.geo.opn T p).length
  omega
theorem Pls.take {H : Hp} : ∀ {xs : List V} {ps : List Place} (n : Nat), Pls H xs ps → Pls H (xs.take n) (ps.take n)
  | _, _, 0, _ => .nil
  | _, _, n + 1, .nil => .nil
  | _, _, n + 1, .cons r t => .cons r (Pls.take n t)
theorem Pls.drop {H : Hp} : ∀ {xs : List V} {ps : List Place} (n : Nat), Pls H xs ps → Pls H (xs.drop n) (ps.drop n)
  | _, _, 0, h => h
  | _, _, n + 1, .nil => .nil
  | _, _, n + 1, .cons r t => Pls.drop n t
theorem pls_cong {H : Hp} {xs ys : List V} {ps : List Place} (e : xs = ys) (h : Pls H ys ps) : Pls H xs ps := by rw [e]; exact h
def spSent (K : PySem.W.Frag) : Sp := fun vs H Q _ => ∃ (d : Dat) (ru pa rd t r : Addr) (m p : Nat) (x : Tl) (fl en : V), vs = [.ref ru, .int p] ∧ RunG K H d ru pa rd t r m x (.int 0) fl en ∧ d.Ok ∧ p < d.P ∧ Ret K [] H (NewP (d.geo.snt x.T p) H) Q
theorem c_Run_sent (T : Tx g) : CalM g 5 "Run" "sent" (spSent g.K) := by
  obtain ⟨fd, F⟩ := T.fun_ in_Run_sent
  refine ⟨_, fd, p_Run_sent, def_ok F sc_Run_sent (fun vs H Q E h => ?_) (fun cdv A outer s H vs Q E hr h => ?_), cl_Run T, m_Run_sent T, F.bindsN fun _ _ _ _ _ _ us hl => match us, hl with | [_, _], _ => rfl⟩
  · obtain ⟨_, _, _, _, _, _, _, _, _, _, _, rfl, _⟩ := h
    rfl
  · obtain ⟨d, ru, pa, rd, t, r, m, p, x, fl, en, rfl, G, ok, hp, q⟩ := h
    have nd := sc_Run_sent.nd
    refine ⟨_, pss_cons (ps_set (i := 2) nd rfl (Or.inl rfl) (pe_m (c_Run_open_rows T) hr (pv 0) (pa_cons (pv 1) pa_nil)))
      (pss_one (ps_ret (pe_ifExp (pt_cmp (pc_isN (pe_p (c_Run_state T) hr (pv 0)))) (pe_lst pa_nil) (pe_slice sl_list (pv 2) po_none (po_some (pe_ix ix_tup (pe_ix ix_tup (pe_ix ix_list (pe_m0 (c_Reader_states T) hr (pe_fld (f := "own_reader") (pv 0) rfl)) (pe_p (c_Run_state T) hr (pv 0)) (fun _ _ => rfl)) pe_int (fun _ _ => rfl)) (pv 1) (fun _ _ => rfl))))))), ?_⟩
    obtain ⟨⟨dx, sa, ha, k1, _⟩, pasts⟩ := G.run
    obtain ⟨rdx, rst, rb, rc, rh, _⟩ := G.gv.rd.ex
    refine ⟨_, rfl, ru, dx, _, rfl, k1, rfl, _, rfl, d, ru, pa, rd, t, r, m, p, x, _, _, _, rfl, G, ok, hp, fun v H1 e1 hv => ?_⟩
    obtain ⟨l, ys, rfl, fr, hl, hys⟩ := hv
    have G1 := G.up e1
    refine ⟨_, rfl, ru, dx, _, rfl, e1.ins k1, ru, pa, rd, t, m, x, _, _, _, rfl, G1.run, _, rfl, iteF ⟨_, rfl, _, rfl, ru, _, dx, _, _, rfl, e1.ins k1, cl_Run T, n_Run_own_reader T, rfl, rd, rdx, _, rfl, e1.ins rh, rfl, rd, d.up, d.o, d.size, asI d.as, rfl, G1.gv.rd, fun v2 H2 e2 hv2 => ?_⟩⟩
    obtain ⟨sl, b, c, rfl, h1, h2, h3⟩ := hv2
    have G2 := G1.up e2
    have hlt : p < d.as.length := by rw [ok.al]; exact hp
    refine ⟨_, rfl, ru, dx, _, rfl, e2.ins (e1.ins k1), ru, pa, rd, t, m, x, _, _, _, rfl, G2.run, sl, _, 0, _, rfl, rfl, SqL.of h1, rfl, b, _, 1, _, rfl, rfl, SqT.of h2, rfl, _, rfl, c, _, p, .int ((d.as[p]'hlt : Nat) : Int), rfl, rfl, SqT.of h3, atI_nat (by rw [List.getElem?_map, List.getElem?_map, List.getElem?_eq_getElem hlt]; rfl), _, rfl, l, ys, rfl, SqL.of (e2.lst hl), fun z hz => ?_⟩
    have e3 : Up g.K [] H2 (upd H2 z (.lst (cutV ys none (some ((d.as[p]'hlt : Nat) : Int))))) := Up.new hz
    refine q _ _ ((e1.trans e2).trans e3) ⟨z, _, rfl, (e1.trans e2).fresh hz, upd_same, ?_⟩
    have ea : d.geo.ask p = d.as[p]'hlt := by
      show (d.as[p]?).getD 0 = _
      rw [List.getElem?_eq_getElem hlt]
      rfl
    unfold Geo.snt
    rw [ea]
    exact pls_cong (cut_to ys (d.as[p]'hlt)) (Pls.take _ ((e2.trans e3).ts.pls hys))
theorem val_no {hd : List (Place × Nat)} {y : Place} (h : y ∉ hd.map (·.1)) : valV (kvH hd) (keyP y) = none := by
  induction hd with
  | nil => rfl
  | cons z hd ih =>
    rw [List.map_cons, List.mem_cons, not_or] at h
    have ne : (kvP z).1 ≠ keyP y := fun e => h.1 (keyP_inj e).symm
    have := ih h.2
    unfold valV at this ⊢
    show (List.find? _ (kvP z :: kvH hd)).map _ = none
    rw [List.find?_cons]
    simpa [ne] using this
theorem put_new {hd : List (Place × Nat)} {y : Place} {p : Nat} (h : y ∉ hd.map (·.1)) : putK (kvH hd) (keyP y) (.int (p : Int)) = kvH (hd ++ [(y, p)]) := by
  unfold putK
  rw [if_neg]
  · simp [kvH]
  · rw [Bool.not_eq_true, List.any_eq_false]
    intro z hz e
    obtain ⟨w, hw, rfl⟩ := List.mem_map.mp hz
    have e2 : (kvP w).1 = keyP y := of_decide_eq_true e
    exact h (List.mem_map.mpr ⟨w, hw, keyP_inj e2⟩)
theorem room1 {k : Nat} {A : Around} (r : Room k A) : A.units + 1 < cLine := by have := r.un; omega
theorem walk_upto {n : Nat} : Walk (Itr 0 n) n (fun _ => True) (fun i H x H' => H' = H ∧ x = .int (i : Int)) := walk_range.mono (fun _ h => h) fun i H x H' _ _ y => ⟨y.1, by rw [y.2]; simp⟩
def spAtHand (K : PySem.W.Frag) : Sp := fun vs H Q _ => ∃ (d : Dat) (ru pa rd t r : Addr) (m : Nat) (x : Tl) (fl en : V), vs = [.ref ru] ∧ RunG K H d ru pa rd t r m x (.int 0) fl en ∧ d.Ok ∧ Ret K [] H (NewP (sm d.o (d.geo.hnd x.T)) H) Q
theorem c_Run_at_hand (T : Tx g) : CalM g 6 "Run" "at_hand" (spAtHand g.K) := by
  obtain ⟨fd, F⟩ := T.fun_ in_Run_at_hand
  refine ⟨_, fd, p_Run_at_hand, def_ok F sc_Run_at_hand (fun vs H Q E h => ?_) (fun cdv A outer s H vs Q E hr h => ?_), cl_Run T, m_Run_at_hand T, F.bindsN fun _ _ _ _ _ _ us hl => match us, hl with | [_], _ => rfl⟩
  · obtain ⟨_, _, _, _, _, _, _, _, _, _, rfl, _⟩ := h
    rfl
  · obtain ⟨d, ru, pa, rd, t, r, m, x, fl, en, rfl, G, ok, q⟩ := h
    have nd := sc_Run_at_hand.nd
    refine ⟨_, pss_cons (ps_set (i := 1) nd rfl (Or.inl rfl) pe_dnewT)
      (pss_cons (ps_for (g := gName 2) noxe rfl (pi_range1 (by rfl) (f_range T) (pa_cons (pe_p (c_Table_parts T) hr (pe_p (c_Run_table T) hr (pv 0))) pa_nil)) (pg_name (i := 2) nd rfl (Or.inl rfl))
        (pss_one (ps_for (g := gName 3) noxe rfl (pi_list (pe_m (c_Run_sent T) hr (pv 0) (pa_cons (pv 2) pa_nil))) (pg_name (i := 3) nd rfl (Or.inl rfl))
          (pss_one (ps_expr (pe_setdT (room1 hr) (pv 1) (pv 3) (pv 2) ⟨rfl, rfl, rfl, rfl⟩))))))
      (pss_one (ps_ret (pe_c (c_middle_sorted T) hr (pa_cons (pe_p (c_Reader_order T) hr (pe_fld (f := "own_reader") (pv 0) rfl)) (pa_cons (pv 1) pa_nil)))))), ?_⟩
    obtain ⟨⟨dx, sa, ha, k1, _⟩, pasts⟩ := G.run
    obtain ⟨rdx, rst, rb, rc, rh, _⟩ := G.gv.rd.ex
    obtain ⟨tdx, th⟩ := G.gv.tab.ins
    refine fun hd hhd => ?_
    have e0 : Up g.K [] H (upd H hd (.dT [])) := Up.new hhd
    refine ⟨_, rfl, ru, dx, _, rfl, e0.ins k1, ru, pa, rd, t, m, x, _, fl, en, rfl, (G.up e0).run, t, tdx, _, rfl, e0.ins th, t, tdx, _, _, rfl, e0.ins th, rfl, d.P, rfl, by have := ok.p4; omega, by have := ok.p4; omega, ?_⟩
    rw [Int.toNat_natCast]
    refine for_it (walk_upto (n := d.P)) (fun i σ H2 => Up g.K [] H H2 ∧ H2 hd = some (.dT (kvH (d.geo.handTo x.T i))) ∧ ∃ u v, σ = [some (.ref ru), some (.ref hd), u, v]) ⟨e0, upd_same, _, _, rfl⟩ (fun _ _ _ _ _ => trivial) ?_ ?_
    · rintro i v σ H2 H3 hi ⟨e2, hh, u, w, rfl⟩ ⟨rfl, rfl⟩
      have G2 := G.up e2
      refine ⟨_, rfl, ru, dx, _, rfl, e2.ins k1, rfl, _, rfl, d, ru, pa, rd, t, r, m, i, x, fl, en, rfl, G2, ok, hi, fun v H3 e3 hv => ?_⟩
      obtain ⟨l, ys, rfl, fr, hl, hys⟩ := hv
      have hndi := hand_nd (T := x.T) ok.geo (i + 1) hi
      rw [handTo_succ] at hndi
      have few := snt_few ok x.T i
      have few2 : (d.geo.handTo x.T i).length ≤ 63 := by
        have h1 : ((d.geo.handTo x.T i).map (·.1)).length ≤ d.geo.all.length := nodup_le (hand_nd ok.geo i (Nat.le_of_lt hi)) fun y hy => by
          obtain ⟨p, hp, hy⟩ := hand_keys.mp hy
          exact mem_all.mpr ⟨p, Nat.lt_trans hp hi, (mem_opn.mp (snt_sub hy)).1⟩
        rw [List.length_map] at h1
        exact Nat.le_trans h1 ok.len
      refine ⟨l, rfl, ⟨ys, SqL.of hl⟩, for_it (walk_list (xs := ys)) (fun j σ H4 => Up g.K [] H H4 ∧ Up g.K [hd] H3 H4 ∧ H4 hd = some (.dT (kvH (d.geo.handTo x.T i ++ ((d.geo.snt x.T i).take j).map fun y => (y, i)))) ∧ ∃ w2, σ = [some (.ref ru), some (.ref hd), some (.int i), w2])
        ⟨e2.trans e3, Up.refl, by rw [List.take_zero, List.map_nil, List.append_nil]; exact e3.dT hh, _, rfl⟩ (fun j σ H4 _ p => SqL.of (p.2.1.lst hl ?_)) ?_ ?_⟩
      · rw [List.mem_singleton]
        intro e
        have := e3.dT hh
        rw [← e, hl] at this
        cases this
      · rintro j v2 σ H4 H5 hj ⟨e4, e34, hh4, w2, rfl⟩ ⟨rfl, hv2⟩
        obtain ⟨y, hy, b, rfl, hb⟩ := pair_fwd hys hv2
        have hb4 := e34.tup _ _ hb
        have hnew : y ∉ (d.geo.handTo x.T i ++ ((d.geo.snt x.T i).take j).map fun y => (y, i)).map (·.1) := by
          have hj2 : (d.geo.snt x.T i).take (j + 1) = (d.geo.snt x.T i).take j ++ [y] := by rw [List.take_succ, hy]; rfl
          have sub : ((d.geo.handTo x.T i ++ ((d.geo.snt x.T i).take (j + 1)).map fun y => (y, i)).map (·.1)).Nodup := hndi.sublist ((List.Sublist.append_left ((List.take_sublist _ _).map _) _).map _)
          have hj3 : (d.geo.handTo x.T i ++ ((d.geo.snt x.T i).take (j + 1)).map fun y => (y, i)).map (·.1) = (d.geo.handTo x.T i ++ ((d.geo.snt x.T i).take j).map fun y => (y, i)).map (·.1) ++ [y] := by rw [hj2]; simp
          rw [hj3, List.nodup_append] at sub
          exact fun hm => sub.2.2 y hm y (by simp) rfl
        refine ⟨_, rfl, hd, rfl, .inr ⟨_, .inl hh4⟩, _, rfl, _, rfl, b, _, keyP y, rfl, hh4, hb4, ?_, fun v hv => ?_, fun hv => ⟨?_, ?_, ?_, _, rfl⟩⟩
        · have h1 : ((d.geo.snt x.T i).take j).length ≤ 63 := Nat.le_trans (by rw [List.length_take]; exact Nat.min_le_right _ _) few
          have h2 : (kvH (d.geo.handTo x.T i ++ ((d.geo.snt x.T i).take j).map fun y => (y, i))).length ≤ 126 := by
            unfold kvH
            rw [List.length_map, List.length_append, List.length_map]
            omega
          exact Nat.lt_of_le_of_lt h2 (by decide)
        · rw [val_no hnew] at hv
          cases hv
        · exact e4.mut (.of hhd) hh4 trivial
        · exact e34.trans (Up.set hh4 trivial (by simp))
        · rw [upd_same, put_new hnew, List.append_assoc]
          have hj2 : (d.geo.snt x.T i).take (j + 1) = (d.geo.snt x.T i).take j ++ [y] := by rw [List.take_succ, hy]; rfl
          rw [hj2, List.map_append]
          rfl
      · rintro σ H4 ⟨e4, e34, hh4, w2, rfl⟩
        refine ⟨e4, ?_, _, _, rfl⟩
        rw [hh4, handTo_succ, List.take_of_length_le (by rw [Paired.length hys]; exact Nat.le_refl _)]
    · rintro σ H2 ⟨e2, hh, u, w, rfl⟩
      refine ⟨_, rfl, ru, _, dx, _, _, rfl, e2.ins k1, cl_Run T, n_Run_own_reader T, rfl, rd, rdx, _, rfl, e2.ins rh, rd, rdx, _, _, rfl, e2.ins rh, rfl, _, rfl, d.o, hd, _, rfl, hh, hand_nd ok.geo _ (Nat.le_refl _), e2.tabs G.tabs, fun v H3 e3 hv => ?_⟩
      obtain ⟨l, ys, rfl, fr, hl, hys⟩ := hv
      exact q _ _ (e2.trans e3) ⟨l, ys, rfl, e2.has l fr, hl, hys⟩
end K48

namespace K48
open PySem PySem.Spec PyProof.Rows L2 ClX
variable {g : GX}
theorem boot_setT : bootBuiltins "set" = some (.type "set") := by decide +kernel
theorem room64 {k : Nat} {A : Around} (r : Room k A) : A.units + 64 < cLine := by have := r.un; omega
/-! ### numbers name places -/
theorem nodup_by {α β : Type} {f : α → β} {l : List α} (h : (l.map f).Nodup) {a b : α} (ha : a ∈ l) (hb : b ∈ l) (e : f a = f b) : a = b := by
  induction l with
  | nil => cases ha
  | cons x r ih =>
    rw [List.map_cons, List.nodup_cons] at h
    rcases List.mem_cons.mp ha with rfl | ha
    · rcases List.mem_cons.mp hb with rfl | hb
      · rfl
      · exact absurd (List.mem_map.mpr ⟨b, hb, e.symm⟩) h.1
    · rcases List.mem_cons.mp hb with rfl | hb
      · exact absurd (show f b ∈ r.map f from List.mem_map.mpr ⟨a, by assumption, e⟩) h.1
      · exact ih h.2 (by assumption) (by assumption)
theorem Dat.Ok.num {d : Dat} (ok : d.Ok) {x y : Place} (hx : x ∈ d.geo.all) (hy : y ∈ d.geo.all) (e : x.2 = y.2) : x = y := by
  have h := ok.rows.nd
  have e2 : d.rs.map (·.2.1) = (d.rs.map plc).map (·.2) := by rw [List.map_map]; rfl
  rw [e2] at h
  exact nodup_by h (ok.all.mem_iff.mp hx) (ok.all.mem_iff.mp hy) e
theorem num_in {d : Dat} (ok : d.Ok) {T : List Place} (t : Told d.geo T) {z : Place} (hz : z ∈ d.geo.all) : z.2 ∈ T.map (·.2) ↔ z ∈ T := by
  constructor
  · intro h
    obtain ⟨y, hy, e⟩ := List.mem_map.mp h
    rw [← ok.num (t.sub y hy) hz e]
    exact hy
  · exact fun h => List.mem_map.mpr ⟨z, h, rfl⟩
theorem nodup_on {α β : Type} {f : α → β} : ∀ {l : List α}, l.Nodup → (∀ x ∈ l, ∀ y ∈ l, f x = f y → x = y) → (l.map f).Nodup
  | [], _, _ => by simp
  | a :: l, h, i => by
    have h2 := List.nodup_cons.mp h
    rw [List.map_cons, List.nodup_cons]
    refine ⟨fun hm => ?_, nodup_on h2.2 fun x hx y hy => i x (List.mem_cons_of_mem _ hx) y (List.mem_cons_of_mem _ hy)⟩
    obtain ⟨y, hy, e⟩ := List.mem_map.mp hm
    rw [i y (List.mem_cons_of_mem _ hy) a List.mem_cons_self e] at hy
    exact h2.1 hy
theorem num_nd {d : Dat} (ok : d.Ok) {T : List Place} (t : Told d.geo T) : (T.map (·.2)).Nodup := by
  exact nodup_on t.nd fun x hx y hy e => ok.num (t.sub x hx) (t.sub y hy) e
theorem any_num (ns : List Int) (k : Int) : (ns.any fun n => n == k) = decide (k ∈ ns) := by
  rw [Bool.eq_iff_iff, List.any_eq_true, decide_eq_true_eq]
  constructor
  · rintro ⟨n, hn, e⟩
    rw [← eq_of_beq e]
    exact hn
  · exact fun h => ⟨k, h, beq_self_eq_true k⟩
/-! ### sets of places -/
def kI (p : Place) : List Int := [p.1, p.2]
theorem kI_inj {p q : Place} (h : kI p = kI q) : p = q := by
  unfold kI at h
  obtain ⟨a, b⟩ := p
  obtain ⟨c, d⟩ := q
  simp at h
  rw [h.1, h.2]
structure PsS (P : Program) (w : World) (H : Hp) (a : Addr) (ys : List Place) : Prop where
  ex : ∃ L : List (Addr × List Int), H a = some (SetTO P w a L) ∧ (∀ p ∈ L, H p.1 = some (.tup (p.2.map V.int))) ∧ (∀ y : Place, kI y ∈ L.map (·.2) ↔ y ∈ ys) ∧ L.length ≤ ys.length
theorem PsS.up {P : Program} {w : World} {K : PySem.W.Frag} {ms : List Addr} {H H' : Hp} {a : Addr} {ys : List Place} (h : PsS P w H a ys) (e : Up K ms H H') (hm : a ∉ ms := by simp) : PsS P w H' a ys := by
  obtain ⟨L, h1, h2, h3, h4⟩ := h
  exact ⟨L, e.keep a _ hm h1 (fun ps z => by cases z), fun p hp => e.tup _ _ (h2 p hp), h3, h4⟩
theorem PsS.add {P : Program} {w : World} {K : PySem.W.Frag} {H : Hp} {a b : Addr} {ys : List Place} {y : Place} (h : PsS P w H a ys) (hb : H b = some (.tup [.int y.1, .int y.2])) (few : ys.length ≤ 62) {Q : VK}
    (q : ∀ H', (∀ ms, a ∈ ms → Up K ms H H') → (∀ H0, Up K [] H0 H → Fr H0 a → Up K [] H0 H') → PsS P w H' a (ys ++ [y]) → Q .non H') : rTadd K P w (.ref a) [.ref b] H Q := by
  obtain ⟨L, h1, h2, h3, h4⟩ := h
  refine ⟨a, b, kI y, L, rfl, rfl, h1, fun p hp => SqT.of (h2 p hp), SqT.of hb, by omega, fun L' q1 q2 => ?_⟩
  have own : Own (SetTO P w a L) := fun c q => setTO_ne c q
  have s : Up K [a] H (upd H a (SetTO P w a L')) := Up.set h1 own (by simp) (fun ps z => by cases z)
  refine q _ (fun ms hm => Up.set h1 own hm (fun ps z => by cases z)) (fun H0 e f => e.mut f h1 own (fun ps z => by cases z)) ?_
  by_cases hk : kI y ∈ L.map (·.2)
  · obtain rfl := q1 hk
    refine ⟨L', upd_same, fun p hp => s.tup _ _ (h2 p hp), fun z => ?_, by rw [List.length_append]; omega⟩
    rw [h3 z, List.mem_append, List.mem_singleton]
    constructor
    · exact .inl
    · rintro (h | rfl)
      · exact h
      · exact (h3 z).mp hk
  · have p := q2 hk
    refine ⟨L', upd_same, fun p2 hp => s.tup _ _ ?_, fun z => ?_, by rw [p.length_eq, List.length_append, List.length_cons]; show L.length + 1 ≤ ys.length + 1; omega⟩
    · rcases List.mem_cons.mp (p.mem_iff.mp hp) with rfl | hp
      · exact hb
      · exact h2 _ hp
    · rw [(p.map (·.2)).mem_iff, List.map_cons, List.mem_cons, h3 z, List.mem_append, List.mem_singleton]
      constructor
      · rintro (h | h)
        · exact .inr (kI_inj h)
        · exact .inl h
      · rintro (h | rfl)
        · exact .inr h
        · exact .inl rfl
theorem PsS.isin {P : Program} {w : World} {K : PySem.W.Frag} {H : Hp} {a b : Addr} {ys : List Place} {y : Place} (f : Bool → Bool) (h : PsS P w H a ys) (hb : H b = some (.tup [.int y.1, .int y.2])) {Q : VK}
    (q : Q (.bl (f (decide (y ∈ ys)))) H) : rTin K P w f (.ref b) (.ref a) H Q := by
  obtain ⟨L, h1, h2, h3, h4⟩ := h
  refine ⟨a, b, kI y, L, rfl, rfl, h1, fun p hp => SqT.of (h2 p hp), SqT.of hb, ?_⟩
  rw [decide_eq_decide.mpr (h3 y)]
  exact q
/-! ### what is open -/
def Geo.opnTo (G : Geo) (T : List Place) (i : Nat) : List Place := (List.range i).flatMap fun p => G.opn T p
theorem opnTo_succ {G : Geo} {T : List Place} {i : Nat} : G.opnTo T (i + 1) = G.opnTo T i ++ G.opn T i := by
  unfold Geo.opnTo
  rw [List.range_succ, List.flatMap_append]
  simp
theorem opnTo_le {G : Geo} {T : List Place} {i n : Nat} (h : i ≤ n) : (G.opnTo T i).length ≤ (G.opnTo T n).length := by
  induction h with
  | refl => exact Nat.le_refl _
  | step _ ih =>
    rw [opnTo_succ, List.length_append]
    omega
theorem mem_opnTo {G : Geo} {T : List Place} {x : Place} : x ∈ G.opnTo T G.P ↔ x ∈ G.all ∧ x ∉ T := by
  unfold Geo.opnTo
  simp only [List.mem_flatMap, List.mem_range, mem_opn, mem_all]
  constructor
  · rintro ⟨p, hp, h1, h2⟩
    exact ⟨⟨p, hp, h1⟩, h2⟩
  · rintro ⟨⟨p, hp, h1⟩, h2⟩
    exact ⟨p, hp, h1, h2⟩
theorem opnTo_few {d : Dat} (ok : d.Ok) (T : List Place) {i : Nat} (hi : i ≤ d.P) : (d.geo.opnTo T i).length ≤ 63 := by
  refine Nat.le_trans (opnTo_le (n := d.geo.P) hi) (Nat.le_trans ?_ ok.len)
  unfold Geo.opnTo Geo.all
  generalize List.range d.geo.P = l
  induction l with
  | nil => exact Nat.le_refl _
  | cons a l ih =>
    rw [List.flatMap_cons, List.flatMap_cons, List.length_append, List.length_append]
    have : (d.geo.opn T a).length ≤ (d.geo.L a).length := List.length_filter_le _ _
    omega
/-! ### found_ahead -/
def spAhead (K : PySem.W.Frag) : Sp := fun vs H Q _ => ∃ (d : Dat) (ru pa rd t r : Addr) (m : Nat) (x : Tl) (st fl en : V), vs = [.ref ru] ∧ RunG K H d ru pa rd t r m x st fl en ∧ d.Ok ∧ Ret K [] H (fun v _ => v = .non) Q
theorem c_Run_found_ahead (T : Tx g) : CalM g 5 "Run" "found_ahead" (spAhead g.K) := by
  obtain ⟨fd, F⟩ := T.fun_ in_Run_found_ahead
  refine ⟨_, fd, p_Run_found_ahead, def_ok F sc_Run_found_ahead (fun vs H Q E h => ?_) (fun cdv A outer s H vs Q E hr h => ?_), cl_Run T, m_Run_found_ahead T, F.bindsN fun _ _ _ _ _ _ us hl => match us, hl with | [_], _ => rfl⟩
  · obtain ⟨_, _, _, _, _, _, _, _, _, _, _, rfl, _⟩ := h
    rfl
  · obtain ⟨d, ru, pa, rd, t, r, m, x, st, fl, en, rfl, G, ok, q⟩ := h
    have nd := sc_Run_found_ahead.nd
    refine ⟨_, pss_cons (ps_set (i := 1) nd rfl (Or.inl rfl) (pe_callTy0 cr_ts0 (by rfl) (f_set T) boot_setT))
      (pss_cons (ps_set (i := 2) nd rfl (Or.inl rfl) (pe_callTy (cr_setI rfl) (by rfl) (f_set T) boot_setT (pa_cons (pe_m0 (c_Run_told T) hr (pv 0)) pa_nil)))
      (pss_cons (ps_for (g := gName 3) noxe rfl (pi_range1 (by rfl) (f_range T) (pa_cons (pe_p (c_Table_parts T) hr (pe_p (c_Run_table T) hr (pv 0))) pa_nil)) (pg_name (i := 3) nd rfl (Or.inl rfl))
        (pss_one (ps_for (g := gName 4) noxe rfl (pi_list (pe_m (c_Run_open_rows T) hr (pv 0) (pa_cons (pv 3) pa_nil))) (pg_name (i := 4) nd rfl (Or.inl rfl))
          (pss_one (ps_expr (pe_tadd (room64 hr) (pv 1) (pa_cons (pv 4) pa_nil)))))))
      (pss_cons (ps_for (g := gTup g.K 2 (gCons (gName 5) (gCons (gName 6) gNil))) noxe rfl (pi_list (pe_m0 (c_Table_places T) hr (pe_p (c_Run_table T) hr (pv 0)))) (pg_tup rfl (pgs_cons (pg_name (i := 5) nd rfl (Or.inl rfl)) (pgs_cons (pg_name (i := 6) nd rfl (Or.inl rfl)) pgs_nil)))
        (pss_one (ps_if (PW.pt (pw_and (pt_cmpR or_inotin (pv 6) (pv 2) rfl) (pw_and1 (pt_cmpR (or_tnotin (room64 hr)) (pe_tup (pa_cons (pv 5) (pa_cons (pv 6) pa_nil))) (pv 1) rfl)))) (pss_one ps_never) pss_nil)))
      (pss_cons (ps_for (g := gTup g.K 2 (gCons (gName 5) (gCons (gName 6) gNil))) noxe rfl (pi_list (pe_m0 (c_Table_places T) hr (pe_p (c_Run_table T) hr (pv 0)))) (pg_tup rfl (pgs_cons (pg_name (i := 5) nd rfl (Or.inl rfl)) (pgs_cons (pg_name (i := 6) nd rfl (Or.inl rfl)) pgs_nil)))
        (pss_one (ps_if (PW.pt (pw_and (pt_cmpR or_iin (pv 6) (pv 2) rfl) (pw_and1 (pt_cmpR (or_tin (room64 hr)) (pe_tup (pa_cons (pv 5) (pa_cons (pv 6) pa_nil))) (pv 1) rfl)))) (pss_one ps_never) pss_nil)))
      (pss_one (ps_ret pe_non)))))), ?_⟩
    obtain ⟨⟨dx, sa, ha, k1, _⟩, pasts⟩ := G.run
    obtain ⟨tdx, th⟩ := G.gv.tab.ins
    refine ⟨rfl, fun hs hhs => ?_⟩
    have e0 : Up g.K [] H (upd H hs (SetTO g.P g.w hs [])) := Up.new hhs
    have p0 : PsS g.P g.w (upd H hs (SetTO g.P g.w hs [])) hs [] := ⟨[], upd_same, fun p hp => (by cases hp), fun y => by simp, Nat.le_refl _⟩
    have fewT := G.tk.told.len
    have lenA := ok.len
    refine ⟨_, rfl, ru, dx, _, rfl, e0.ins k1, rfl, ru, pa, rd, t, m, x, st, fl, en, rfl, (G.up e0).run, by omega, fun v H1 e1 hv => ?_⟩
    obtain ⟨tl, rfl, ftl, htl⟩ := hv
    refine ⟨tl, _, rfl, SqL.of htl, num_nd ok G.tk.told, by rw [List.length_map]; omega, fun kn hkn => ?_⟩
    have e2 : Up g.K [] H1 (upd H1 kn (.set (fun k => (x.T.map (·.2)).any (· == k)) (x.T.map (·.2)).length)) := Up.new hkn
    have e02 := (e0.trans e1).trans e2
    have p2 := (p0.up (K := g.K) e1).up e2
    have K2 : upd H1 kn (.set (fun k => (x.T.map (·.2)).any (· == k)) (x.T.map (·.2)).length) kn = some (.set (fun k => (x.T.map (·.2)).any (· == k)) (x.T.map (·.2)).length) := upd_same
    have hkn2 : Fr H kn := (e0.trans e1).fresh hkn
    generalize (upd H1 kn (.set (fun k => (x.T.map (·.2)).any (· == k)) (x.T.map (·.2)).length)) = H2 at e2 e02 p2 K2 ⊢
    refine ⟨_, rfl, ru, dx, _, rfl, e02.ins k1, ru, pa, rd, t, m, x, st, fl, en, rfl, (G.up e02).run, t, tdx, _, rfl, e02.ins th, t, tdx, _, _, rfl, e02.ins th, rfl, d.P, rfl, by have := ok.p4; omega, by have := ok.p4; omega, ?_⟩
    rw [Int.toNat_natCast]
    have nks : kn ≠ hs := fun e => by
      obtain ⟨L, h, _⟩ := p2
      rw [e, h] at K2
      cases K2
    refine for_it (walk_upto (n := d.P)) (fun i σ H3 => Up g.K [] H H3 ∧ Up g.K [hs] H2 H3 ∧ PsS g.P g.w H3 hs (d.geo.opnTo x.T i) ∧ ∃ u v, σ = [some (.ref ru), some (.ref hs), some (.ref kn), u, v, none, none]) ⟨e02, Up.refl, p2, _, _, rfl⟩ (fun _ _ _ _ _ => trivial) ?_ ?_
    · rintro i v σ H3 H4 hi ⟨e3, e23, p3, u, w, rfl⟩ ⟨rfl, rfl⟩
      refine ⟨_, rfl, ru, dx, _, rfl, e3.ins k1, rfl, _, rfl, d, ru, pa, rd, t, r, m, i, x, st, fl, en, rfl, G.up e3, ok, hi, fun v H4 e4 hv => ?_⟩
      obtain ⟨l, ys, rfl, fr, hl, hys⟩ := hv
      have few : (d.geo.opnTo x.T (i + 1)).length ≤ 63 := opnTo_few ok x.T hi
      rw [opnTo_succ, List.length_append] at few
      refine ⟨l, rfl, ⟨ys, SqL.of hl⟩, for_it (walk_list (xs := ys)) (fun j σ H5 => Up g.K [] H H5 ∧ Up g.K [hs] H2 H5 ∧ Up g.K [hs] H4 H5 ∧ PsS g.P g.w H5 hs (d.geo.opnTo x.T i ++ (d.geo.opn x.T i).take j) ∧ ∃ w2, σ = [some (.ref ru), some (.ref hs), some (.ref kn), some (.int i), w2, none, none])
        ⟨e3.trans e4, e23.trans e4.wide, Up.refl, by rw [List.take_zero, List.append_nil]; exact p3.up e4, _, rfl⟩ (fun j σ H5 _ p => SqL.of (p.2.2.1.lst hl ?_)) ?_ ?_⟩
      · rw [List.mem_singleton]
        rintro rfl
        obtain ⟨L, h, _⟩ := p3
        exact absurd (fr _ h) (by rintro ⟨ps, z⟩; cases z)
      · rintro j v2 σ H5 H6 hj ⟨e5, e25, e45, p5, w2, rfl⟩ ⟨rfl, hv2⟩
        obtain ⟨y, hy, b, rfl, hb⟩ := pair_fwd hys hv2
        have hlt := (List.getElem?_eq_some_iff.mp hy).1
        obtain ⟨L, hL, hL2⟩ := p5.ex
        refine ⟨_, rfl, ⟨hs, L, rfl, hL⟩, _, rfl, ?_⟩
        unfold tNil
        dsimp only
        refine p5.add (e45.tup _ _ hb) (by rw [List.length_append, List.length_take]; omega) fun H7 c1 c2 p7 => ⟨c2 _ e5 (.of hhs), e25.trans (c1 _ (by simp)), e45.trans (c1 _ (by simp)), ?_, _, rfl⟩
        have hj2 : (d.geo.opn x.T i).take (j + 1) = (d.geo.opn x.T i).take j ++ [y] := by rw [List.take_succ, hy]; rfl
        rw [hj2, ← List.append_assoc]
        exact p7
      · rintro σ H5 ⟨e5, e25, e45, p5, w2, rfl⟩
        refine ⟨e5, e25, ?_, _, _, rfl⟩
        rw [opnTo_succ]
        rw [List.take_of_length_le (by rw [Paired.length hys]; exact Nat.le_refl _)] at p5
        exact p5
    · rintro σ H3 ⟨e3, e23, p3, u, w, rfl⟩
      have K3 : H3 kn = some (.set (fun k => (x.T.map (·.2)).any (· == k)) (x.T.map (·.2)).length) := e23.keep _ _ (by simpa using nks) K2 (fun ps z => by cases z)
      have few3 := ok.rows.few
      refine ⟨_, rfl, ru, dx, _, rfl, e3.ins k1, ru, pa, rd, t, m, x, st, fl, en, rfl, (G.up e3).run, t, tdx, _, rfl, e3.ins th, rfl, t, r, d.P, d.rs, rfl, (G.up e3).gv.tab, few3, fun v H4 e4 hv => ?_⟩
      obtain ⟨l, ys, rfl, fr, hl, hys⟩ := hv
      have e04 := e3.trans e4
      have K4 := e4.keep _ _ (by simp) K3 (fun ps z => by cases z)
      have p4 := p3.up e4
      have inA : ∀ z : Place, z ∈ d.rs.map plc → z ∈ d.geo.all := fun z hz => ok.all.mem_iff.mpr hz
      refine ⟨l, rfl, ⟨ys, SqL.of hl⟩, for_it (walk_list (xs := ys)) (fun j σ H5 => Up g.K [] H4 H5 ∧ ∃ u v u2 v2, σ = [some (.ref ru), some (.ref hs), some (.ref kn), u, v, u2, v2]) ⟨Up.refl, _, _, _, _, rfl⟩ (fun j σ H5 _ p => SqL.of (p.1.lst hl)) ?_ ?_⟩
      · rintro j v2 σ H5 H6 hj ⟨e5, u, v, u2, v3, rfl⟩ ⟨rfl, hv2⟩
        obtain ⟨z, hz, b, rfl, hb⟩ := pair_fwd hys hv2
        have hz2 := inA z (List.mem_of_getElem? hz)
        refine gt_tup (SqT.of (e5.tup _ _ hb)) ⟨_, rfl, _, rfl, z.2, kn, _, _, rfl, rfl, e5.keep _ _ (by simp) K4 (fun ps z => by cases z), _, rfl, ?_⟩
        rw [any_num, decide_eq_decide.mpr (num_in ok G.tk.told hz2)]
        by_cases ht : z ∈ x.T
        · rw [decide_eq_true ht]
          exact iteF (iteF ⟨e5, _, _, _, _, rfl⟩)
        · rw [decide_eq_false ht]
          refine iteT ⟨_, rfl, _, rfl, by show 2 ≤ sizeLine; decide, fun p hp => ?_⟩
          have e6 : Up g.K [] H6 (upd H6 p (.tup [.int z.1, .int z.2])) := Up.new hp
          refine ⟨_, rfl, PsS.isin not ((p4.up e5).up e6) upd_same ⟨_, rfl, ?_⟩⟩
          rw [decide_eq_true (show z ∈ d.geo.opnTo x.T d.P from mem_opnTo.mpr ⟨hz2, ht⟩)]
          exact iteF ⟨e5.trans e6, _, _, _, _, rfl⟩
      · rintro σ H5 ⟨e5, u, v, u2, v3, rfl⟩
        have e05 := e04.trans e5
        refine ⟨_, rfl, ru, dx, _, rfl, e05.ins k1, ru, pa, rd, t, m, x, st, fl, en, rfl, (G.up e05).run, t, tdx, _, rfl, e05.ins th, rfl, t, r, d.P, d.rs, rfl, (G.up e05).gv.tab, few3, fun v H6 e6 hv => ?_⟩
        obtain ⟨l2, ys2, rfl, fr2, hl2, hys2⟩ := hv
        have e06 := e05.trans e6
        have K6 := (e5.trans e6).keep _ _ (by simp) K4 (fun ps z => by cases z)
        have p6 := p4.up (e5.trans e6)
        refine ⟨l2, rfl, ⟨ys2, SqL.of hl2⟩, for_it (walk_list (xs := ys2)) (fun j σ H7 => Up g.K [] H6 H7 ∧ ∃ u v u2 v2, σ = [some (.ref ru), some (.ref hs), some (.ref kn), u, v, u2, v2]) ⟨Up.refl, _, _, _, _, rfl⟩ (fun j σ H7 _ p => SqL.of (p.1.lst hl2)) ?_ ?_⟩
        · rintro j v2 σ H7 H8 hj ⟨e7, u, v, u2, v3, rfl⟩ ⟨rfl, hv2⟩
          obtain ⟨z, hz, b, rfl, hb⟩ := pair_fwd hys2 hv2
          have hz2 := inA z (List.mem_of_getElem? hz)
          refine gt_tup (SqT.of (e7.tup _ _ hb)) ⟨_, rfl, _, rfl, z.2, kn, _, _, rfl, rfl, e7.keep _ _ (by simp) K6 (fun ps z => by cases z), _, rfl, ?_⟩
          rw [any_num, decide_eq_decide.mpr (num_in ok G.tk.told hz2)]
          by_cases ht : z ∈ x.T
          · rw [decide_eq_true ht]
            refine iteT ⟨_, rfl, _, rfl, by show 2 ≤ sizeLine; decide, fun p hp => ?_⟩
            have e8 : Up g.K [] H8 (upd H8 p (.tup [.int z.1, .int z.2])) := Up.new hp
            refine ⟨_, rfl, PsS.isin id ((p6.up e7).up e8) upd_same ⟨_, rfl, ?_⟩⟩
            rw [decide_eq_false (show ¬ z ∈ d.geo.opnTo x.T d.P from fun hm => (mem_opnTo.mp hm).2 ht)]
            exact iteF ⟨e7.trans e8, _, _, _, _, rfl⟩
          · rw [decide_eq_false ht]
            exact iteF (iteF ⟨e7, _, _, _, _, rfl⟩)
        · rintro σ H7 ⟨e7, u, v, u2, v3, rfl⟩
          exact q _ _ (e06.trans e7) rfl
end K48

namespace K48
open PySem PySem.Spec PyProof.Rows L2 ClX
variable {g : GX}
/-- no fault, or a late row -/
def FlV (H : Hp) (v : V) : Prop := v = .non ∨ ∃ a n, v = .ref a ∧ H a = some (.tup [.str "late", .int n])
theorem TpS.fl {H H' : Hp} (e : TpS H H') {v : V} (h : FlV H v) : FlV H' v := by
  rcases h with h | ⟨a, n, h1, h2⟩
  · exact .inl h
  · exact .inr ⟨a, n, h1, e _ _ h2⟩
theorem num_notin (k : Int) (ns : List Int) : (!inV (.int k) (ns.map V.int)) = decide (k ∉ ns) := by
  rw [in_ints, Bool.eq_iff_iff]
  simp
def spBehind (K : PySem.W.Frag) : Sp := fun vs H Q _ => ∃ (d : Dat) (ru pa rd t r kl : Addr) (m : Nat) (x : Tl) (st fl en : V) (ns : List Int) (gr : Int), vs = [.ref ru, .ref kl, .bl true, .int gr] ∧ RunG K H d ru pa rd t r m x st fl en ∧ d.Ok ∧ H kl = some (.lst (ns.map V.int)) ∧ Ret K [] H (fun v H' => FlV H' v) Q
theorem c_Run_found_behind (T : Tx g) : CalM g 3 "Run" "found_behind" (spBehind g.K) := by
  obtain ⟨fd, F⟩ := T.fun_ in_Run_found_behind
  refine ⟨_, fd, p_Run_found_behind, def_ok F sc_Run_found_behind (fun vs H Q E h => ?_) (fun cdv A outer s H vs Q E hr h => ?_), cl_Run T, m_Run_found_behind T, F.bindsN fun _ _ _ _ _ _ us hl => match us, hl with | [_, _, _, _], _ => rfl⟩
  · obtain ⟨_, _, _, _, _, _, _, _, _, _, _, _, _, _, rfl, _⟩ := h
    rfl
  · obtain ⟨d, ru, pa, rd, t, r, kl, m, x, st, fl, en, ns, gr, rfl, G, ok, hkl, q⟩ := h
    have nd := sc_Run_found_behind.nd
    refine ⟨_, pss_cons (ps_for (g := gTup g.K 2 (gCons (gName 4) (gCons (gName 5) gNil))) noxe rfl (pi_list (pe_m0 (c_Table_places T) hr (pe_p (c_Run_table T) hr (pv 0)))) (pg_tup rfl (pgs_cons (pg_name (i := 4) nd rfl (Or.inl rfl)) (pgs_cons (pg_name (i := 5) nd rfl (Or.inl rfl)) pgs_nil)))
        (pss_one (ps_if (PW.pt (pw_and (pt_cmpR op_notIn_seq (pv 5) (pv 1) rfl) (pw_and1 (pt_cmpR op_lt (pv 4) (pv 3) (nomark _))))) (pss_one (ps_ret (pe_tup (pa_cons pe_str (pa_cons (pv 5) pa_nil))))) pss_nil)))
      (pss_cons (ps_for (g := gTup g.K 2 (gCons (gName 4) (gCons (gName 5) gNil))) noxe rfl (pi_list (pe_m0 (c_Table_places T) hr (pe_p (c_Run_table T) hr (pv 0)))) (pg_tup rfl (pgs_cons (pg_name (i := 4) nd rfl (Or.inl rfl)) (pgs_cons (pg_name (i := 5) nd rfl (Or.inl rfl)) pgs_nil)))
        (pss_one (ps_if (PW.pt (pw_and (pt_cmpR op_notIn_seq (pv 5) (pv 1) rfl) (pw_and1 (pt_not (pt_val (pv 2)))))) (pss_one ps_never) pss_nil)))
      (pss_one (ps_ret pe_non))), ?_⟩
    obtain ⟨⟨dx, sa, ha, k1, _⟩, pasts⟩ := G.run
    obtain ⟨tdx, th⟩ := G.gv.tab.ins
    have few3 := ok.rows.few
    refine ⟨_, rfl, ru, dx, _, rfl, k1, ru, pa, rd, t, m, x, st, fl, en, rfl, G.run, t, tdx, _, rfl, th, rfl, t, r, d.P, d.rs, rfl, G.gv.tab, few3, fun v H4 e4 hv => ?_⟩
    obtain ⟨l, ys, rfl, fr, hl, hys⟩ := hv
    have K4 := e4.lst hkl
    refine ⟨l, rfl, ⟨ys, SqL.of hl⟩, for_it (walk_list (xs := ys)) (fun j σ H5 => Up g.K [] H4 H5 ∧ ∃ u v, σ = [some (.ref ru), some (.ref kl), some (.bl true), some (.int gr), u, v]) ⟨Up.refl, _, _, rfl⟩ (fun j σ H5 _ p => SqL.of (p.1.lst hl)) ?_ ?_⟩
    · rintro j v2 σ H5 H6 hj ⟨e5, u, v, rfl⟩ ⟨rfl, hv2⟩
      obtain ⟨z, hz, b, rfl, hb⟩ := pair_fwd hys hv2
      refine gt_tup (SqT.of (e5.tup _ _ hb)) ⟨_, rfl, _, rfl, kl, _, rfl, .inl (SqL.of (e5.lst K4)), rfl, flat_ints _, _, rfl, ?_⟩
      rw [if_pos rfl]
      cases (!inV (.int z.2) (ns.map V.int)) with
      | false => exact iteF (iteF ⟨e5, _, _, rfl⟩)
      | true =>
        refine iteT ⟨_, rfl, _, rfl, z.1, gr, rfl, rfl, _, rfl, ?_⟩
        cases decide (z.1 < gr) with
        | false => exact iteF ⟨e5, _, _, rfl⟩
        | true =>
          refine iteT ⟨_, rfl, by show 2 ≤ sizeLine; decide, fun p hp => ?_⟩
          exact q _ _ ((e4.trans e5).trans (Up.new hp)) (.inr ⟨p, z.2, rfl, upd_same⟩)
    · rintro σ H5 ⟨e5, u, v, rfl⟩
      have e05 := e4.trans e5
      refine ⟨_, rfl, ru, dx, _, rfl, e05.ins k1, ru, pa, rd, t, m, x, st, fl, en, rfl, (G.up e05).run, t, tdx, _, rfl, e05.ins th, rfl, t, r, d.P, d.rs, rfl, (G.up e05).gv.tab, few3, fun v H6 e6 hv => ?_⟩
      obtain ⟨l2, ys2, rfl, fr2, hl2, hys2⟩ := hv
      have e06 := e05.trans e6
      refine ⟨l2, rfl, ⟨ys2, SqL.of hl2⟩, for_it (walk_list (xs := ys2)) (fun j σ H7 => Up g.K [] H6 H7 ∧ ∃ u v, σ = [some (.ref ru), some (.ref kl), some (.bl true), some (.int gr), u, v]) ⟨Up.refl, _, _, rfl⟩ (fun j σ H7 _ p => SqL.of (p.1.lst hl2)) ?_ ?_⟩
      · rintro j v2 σ H7 H8 hj ⟨e7, u, v, rfl⟩ ⟨rfl, hv2⟩
        obtain ⟨z, hz, b, rfl, hb⟩ := pair_fwd hys2 hv2
        refine gt_tup (SqT.of (e7.tup _ _ hb)) ⟨_, rfl, _, rfl, kl, _, rfl, .inl (SqL.of ((e06.trans e7).lst hkl)), rfl, flat_ints _, _, rfl, ?_⟩
        rw [if_pos rfl]
        cases (!inV (.int z.2) (ns.map V.int)) with
        | false => exact iteF (iteF ⟨e7, _, _, rfl⟩)
        | true => exact iteT ⟨_, rfl, _, rfl, iteF ⟨e7, _, _, rfl⟩⟩
      · rintro σ H7 ⟨e7, u, v, rfl⟩
        exact q _ _ (e06.trans e7) (.inl rfl)
/-! ### keep -/
def spKeep (K : PySem.W.Frag) : Sp := fun vs H Q _ => ∃ (ru pa rd t s2 : Addr) (m : Nat) (x x2 : Tl) (st fl en st2 fl2 en2 : V), vs = [.ref ru, .ref s2] ∧ RunO K H ru pa rd t m x st fl en ∧ StdO H s2 t x2 st2 fl2 en2 ∧ m ≤ 1000 ∧
  ∀ H', Up K [ru, pa] H H' → RunO K H' ru pa rd t (m + 1) x2 st2 fl2 en2 → Q .non H'
theorem c_Run_keep (T : Tx g) : CalM g 1 "Run" "keep" (spKeep g.K) := by
  obtain ⟨fd, F⟩ := T.fun_ in_Run_keep
  refine ⟨_, fd, p_Run_keep, def_ok F sc_Run_keep (fun vs H Q E h => ?_) (fun cdv A outer s H vs Q E hr h => ?_), cl_Run T, m_Run_keep T, F.bindsN fun _ _ _ _ _ _ us hl => match us, hl with | [_, _], _ => rfl⟩
  · obtain ⟨_, _, _, _, _, _, _, _, _, _, _, _, _, _, rfl, _⟩ := h
    rfl
  · obtain ⟨ru, pa, rd, t, s2, m, x, x2, st, fl, en, st2, fl2, en2, rfl, R, S, hm, q⟩ := h
    have nd := sc_Run_keep.nd
    refine ⟨_, pss_cons (ps_expr (pe_bm PySem.F.plainAttrs_list PySem.F.slot_list_append PySem.F.type_list_append mt_append (pe_fld (f := "past") (pv 0) rfl) (pa_cons (pe_fld (f := "stand") (pv 0) rfl) pa_nil)))
      (pss_cons (ps_fld (f := "ahead") (pv 0) (pe_lst pa_nil) rfl) (pss_one (ps_fld (f := "stand") (pv 0) (pv 1) rfl))), ?_⟩
    obtain ⟨⟨dx, sa, ha, k1, S0⟩, xs, hpa, hxs⟩ := R
    refine ⟨_, rfl, ru, _, dx, _, _, rfl, k1, cl_Run T, n_Run_past T, rfl, .inl ⟨rfl, xs, SqL.of hpa⟩, _, rfl, ru, _, dx, _, _, rfl, k1, cl_Run T, n_Run_stand T, rfl, ?_⟩
    refine ⟨pa, xs, _, rfl, rfl, hpa, Nat.lt_of_le_of_lt (Nat.le_trans hxs hm) (by decide), ?_⟩
    have npr : pa ≠ ru := fun e => by rw [e, k1] at hpa; cases hpa
    have e1 : Up g.K [ru, pa] H (upd H pa (.lst (xs ++ [.ref sa]))) := Up.set hpa trivial (by simp)
    have k2 : upd H pa (.lst (xs ++ [.ref sa])) ru = some (.ins (He.ga g.K "Run") dx [("own_reader", .ref rd), ("stand", .ref sa), ("past", .ref pa), ("ahead", .ref ha)]) := by rw [upd_ne (Ne.symm npr)]; exact k1
    refine ⟨Nat.zero_le _, fun p hp => ?_⟩
    have e2 := st_new (u := .lst []) ⟨e1, k2⟩ hp
    refine ⟨_, rfl, ru, _, dx, _, rfl, e2.2, cl_Run T, n_Run_ahead T, by show 4 < 1000; decide, ?_⟩
    have e3 := st_set (fs' := [("own_reader", .ref rd), ("stand", .ref sa), ("past", .ref pa), ("ahead", .ref p)]) e2
    refine ⟨_, rfl, _, rfl, ru, _, dx, _, rfl, e3.2, cl_Run T, n_Run_stand T, by show 4 < 1000; decide, ?_⟩
    have e4 := st_set (fs' := [("own_reader", .ref rd), ("stand", .ref s2), ("past", .ref pa), ("ahead", .ref p)]) e3
    have hpa1 : upd H pa (.lst (xs ++ [.ref sa])) pa = some (.lst (xs ++ [.ref sa])) := upd_same
    have npp : pa ≠ p := ne_of_none hpa1 hp
    refine q _ e4.1 ⟨⟨dx, s2, p, e4.2, S.ts e4.1.ts⟩, xs ++ [.ref sa], ?_, by rw [List.length_append]; exact Nat.succ_le_succ hxs⟩
    show upd (upd (upd (upd H pa (.lst (xs ++ [.ref sa]))) p _) ru _) ru _ pa = _
    rw [upd_ne npr, upd_ne npr, upd_ne npp, upd_same]
end K48

namespace K48
open PySem PySem.Spec PyProof.Rows L2 ClX
variable {g : GX}
theorem pls_nil {x : List (List Place)} {p : List Place} : (x ++ [p]).flatten = x.flatten ++ p := by simp
theorem flat_len : ∀ {l : List (List Place)}, (∀ p ∈ l, p ≠ []) → l.length ≤ l.flatten.length
  | [], _ => Nat.le_refl _
  | p :: l, h => by
    have h1 := List.length_pos_iff.mpr (h p List.mem_cons_self)
    have h2 := flat_len fun q hq => h q (List.mem_cons_of_mem _ hq)
    rw [List.flatten_cons, List.length_append, List.length_cons]
    omega
theorem tells_of {H : Hp} {G : Place → Nat → Prop} : ∀ {ys : List V} {zs : List Place}, Paired (fun y z => ∃ n, G z n ∧ TellV H y (z, n)) ys zs → ∃ ts : List (Place × Nat), ts.map (·.1) = zs ∧ Paired (TellV H) ys ts ∧ ∀ y ∈ ts, G y.1 y.2
  | _, _, .nil => ⟨[], rfl, .nil, fun _ h => by cases h⟩
  | _, _, .cons (b := z) ⟨n, h1, h2⟩ t => by
    obtain ⟨ts, e, p, a⟩ := tells_of t
    refine ⟨(z, n) :: ts, by rw [List.map_cons, e], .cons h2 p, fun y hy => ?_⟩
    rcases List.mem_cons.mp hy with rfl | hy
    · exact h1
    · exact a y hy
theorem pair_cat {α β : Type} {F : α → β → Prop} : ∀ {l : List α} {l' : List β} {m : List α} {m' : List β}, Paired F l l' → Paired F m m' → Paired F (l ++ m) (l' ++ m')
  | _, _, _, _, .nil, h => h
  | _, _, _, _, .cons r t, h => .cons r (pair_cat t h)
/-- the names' values, written out -/
theorem go {t : TS} {D : Ends} {σ σ' : L2.St} {H : Hp} (h : t D σ' H) (e : σ = σ' := by rfl) : t D σ H := by rw [e]; exact h
theorem if_two {c : Prop} [Decidable c] {i j : Nat} {σ : L2.St} {H : Hp} {Q : VK} {v : V} (h1 : σ[i]? = some (some v)) (h2 : σ[j]? = some (some v)) (q : Q v H) : if c then tVar i σ H Q else tVar j σ H Q := by
  by_cases h : c
  · rw [if_pos h]
    exact ⟨v, h1, q⟩
  · rw [if_neg h]
    exact ⟨v, h2, q⟩
theorem eqv_nil (ps : List Place) : PyData.eqv (.list (ps.map plD)) (.list []) = decide (ps = []) := by
  cases ps <;> simp [PyData.eqv, PyData.eqvAll]
theorem of_rows {d : Dat} (ok : d.Ok) {z : Place} (hz : z ∈ d.geo.all) : ∃ w ∈ d.rs, w.2.1 = z.2 := by
  obtain ⟨w, hw, e⟩ := List.mem_map.mp (ok.all.mem_iff.mp hz)
  exact ⟨w, hw, by rw [← e]⟩
theorem row_at {d : Dat} (ok : d.Ok) {z : Place} (hz : z ∈ d.geo.all) {w : Row} (hw : w ∈ d.rs) (e : w.2.1 = z.2) : w.2.2 < d.P ∧ z ∈ d.geo.L w.2.2 := by
  obtain ⟨w2, hw2, e2⟩ := List.mem_map.mp (ok.all.mem_iff.mp hz)
  have e3 : w = w2 := nodup_by ok.rows.nd hw hw2 (by show w.2.1 = w2.2.1; rw [e, ← e2])
  subst e3
  refine ⟨(ok.rows.key w hw).2.2.2.2, ?_⟩
  show z ∈ sti d.up (ofP w.2.2 d.rs)
  rw [sti_perm.mem_iff]
  unfold ofP
  rw [List.mem_map]
  exact ⟨w, List.mem_filter.mpr ⟨hw, decide_eq_true rfl⟩, e2⟩
theorem RunG.neA {K : PySem.W.Frag} {H : Hp} {d : Dat} {ru pa rd t r : Addr} {m : Nat} {x : Tl} {st fl en : V} (G : RunG K H d ru pa rd t r m x st fl en) (n : pa ≠ r) : rd ∉ [ru, pa] ∧ t ∉ [ru, pa] ∧ r ∉ [ru, pa] := by
  obtain ⟨⟨dx, sa, ha, k1, _⟩, xs, hp, _⟩ := G.run
  obtain ⟨rdx, rst, rb, rc, rh, _⟩ := G.gv.rd.ex
  obtain ⟨tdx, th⟩ := G.gv.tab.ins
  obtain ⟨ys, hr, _⟩ := G.gv.tab.row
  simp only [List.mem_cons, List.not_mem_nil, or_false, not_or]
  refine ⟨⟨fun e => ?_, fun e => ?_⟩, ⟨fun e => ?_, fun e => ?_⟩, fun e => ?_, fun e => n e.symm⟩
  · rw [e, k1] at rh; injection rh with rh; injection rh with _ _ rh; injection rh with rh _; injection rh with rh _; exact absurd rh (by decide +kernel)
  · rw [e, hp] at rh; cases rh
  · rw [e, k1] at th; injection th with th; injection th with _ _ th; injection th with th _; injection th with th _; exact absurd th (by decide +kernel)
  · rw [e, hp] at th; cases th
  · rw [e, k1] at hr; cases hr
/-- what is known after the page -/
def PgPost (K : PySem.W.Frag) (H' : Hp) (d : Dat) (ru pa rd t r : Addr) (m : Nat) (x : Tl) : Prop :=
  (d.geo.pg x.T ≠ [] ∧ ∃ x2 st2 fl2 en2, x2.pages = x.pages ++ [d.geo.pg x.T] ∧ RunG K H' d ru pa rd t r (m + 1) x2 st2 fl2 en2 ∧ ((st2 = .int 0 ∧ fl2 = .non) ∨ (st2 = .non ∧ ∃ a n, fl2 = .ref a ∧ H' a = some (.tup [.str "late", .int n])))) ∨
  (d.geo.pg x.T = [] ∧ RunG K H' d ru pa rd t r (m + 1) x .non .non (.bl true))
def spPage (K : PySem.W.Frag) : Sp := fun vs H Q _ => ∃ (d : Dat) (ru pa rd t r : Addr) (m : Nat) (x : Tl) (fl en : V), vs = [.ref ru] ∧ RunG K H d ru pa rd t r m x (.int 0) fl en ∧ d.Ok ∧ pa ≠ r ∧ m ≤ 1000 ∧
  ∀ v H', Up K [ru, pa] H H' → PgPost K H' d ru pa rd t r m x → Q v H'
theorem c_Run_page (T : Tx g) : CalM g 7 "Run" "page" (spPage g.K) := by
  obtain ⟨fd, F⟩ := T.fun_ in_Run_page
  refine ⟨_, fd, p_Run_page, def_ok F sc_Run_page (fun vs H Q E h => ?_) (fun cdv A outer s H vs Q E hr h => ?_), cl_Run T, m_Run_page T, F.bindsN fun _ _ _ _ _ _ us hl => match us, hl with | [_], _ => rfl⟩
  · obtain ⟨_, _, _, _, _, _, _, _, _, _, rfl, _⟩ := h
    rfl
  · obtain ⟨d, ru, pa, rd, t, r, m, x, fl, en, rfl, G, ok, npr, hm, q⟩ := h
    have nd := sc_Run_page.nd
    refine ⟨_, pss_cons (ps_asg (pe_fld (f := "stand") (pv 0) rfl) (pg_tup (n := 6) rfl (pgs_cons (pg_name (i := 1) nd rfl (Or.inr rfl)) (pgs_cons (pg_name (i := 2) nd rfl (Or.inl rfl)) (pgs_cons (pg_name (i := 3) nd rfl (Or.inl rfl)) (pgs_cons (pg_name (i := 4) nd rfl (Or.inl rfl)) (pgs_cons (pg_name (i := 5) nd rfl (Or.inl rfl)) (pgs_cons (pg_name (i := 6) nd rfl (Or.inl rfl)) pgs_nil))))))))
      (pss_cons (ps_if (pt_cmp (pc_isN (pv 2))) (pss_one ps_never) pss_nil)
      (pss_cons (ps_set (i := 3) nd rfl (Or.inl rfl) (pe_m0 (c_Run_found_ahead T) hr (pv 0)))
      (pss_cons (ps_if (pt_cmp (pc_notN (pv 3))) (pss_cons ps_never (pss_one ps_never)) pss_nil)
      (pss_cons (ps_asg (pe_ix ix_list (pe_m0 (c_Reader_states T) hr (pe_fld (f := "own_reader") (pv 0) rfl)) (pv 2) (fun _ _ => rfl)) (pg_tup (n := 4) rfl (pgs_cons (pg_name (i := 7) nd rfl (Or.inl rfl)) (pgs_cons (pg_name (i := 8) nd rfl (Or.inl rfl)) (pgs_cons (pg_name (i := 9) nd rfl (Or.inl rfl)) (pgs_cons (pg_name (i := 10) nd rfl (Or.inl rfl)) pgs_nil))))))
      (pss_cons (ps_set (i := 11) nd rfl (Or.inl rfl) (pe_slice sl_list (pe_m0 (c_Run_at_hand T) hr (pv 0)) po_none (po_some (pv 7))))
      (pss_cons (ps_if (pt_cmpR (op_eqD hr.units) (pv 11) (pe_lst pa_nil) (nomark _)) (pss_cons (ps_expr (pe_m (c_Run_keep T) hr (pv 0) (pa_cons (pe_tup (pa_cons (pv 1) (pa_cons pe_non (pa_cons pe_non (pa_cons pe_bl (pa_cons (pv 5) (pa_cons (pv 6) pa_nil))))))) pa_nil))) (pss_one (ps_ret (pe_lst pa_nil)))) pss_nil)
      (pss_cons (ps_set (i := 12) nd rfl (Or.inl rfl) (pe_ifExp (pt_cmpR op_eq (pe_callB call_len_seq (by rfl) (f_len T) PySem.boot_len (pa_cons (pv 11) pa_nil)) (pv 7) (nomark _)) (pv 9) (pv 10)))
      (pss_cons (ps_set (i := 13) nd rfl (Or.inl rfl) (pe_op op_cat (pe_m0 (c_Run_told T) hr (pv 0)) (pe_lc (own := [("key", 14), ("number", 15)]) (g := gTup g.K 2 (gCons (gName 14) (gCons (gName 15) gNil))) (tt := tYes) rfl nd (pi_list (pv 11)) (blkOk_by (N := N_Run_page) (sc := defScope s_Run_page) (by decide +kernel))
        (fun _ _ _ _ _ => pg_tup rfl (pgs_cons (pg_name (i := 14) nd rfl (Or.inl rfl)) (pgs_cons (pg_name (i := 15) nd rfl (Or.inl rfl)) pgs_nil))) (fun _ _ _ _ _ => pts_nil) (fun _ _ _ _ _ => pv 15))))
      (pss_cons (ps_set (i := 3) nd rfl (Or.inl rfl) (pe_m (c_Run_found_behind T) hr (pv 0) (pa_cons (pv 13) (pa_cons (pe_cmp (pc_notN (pv 12))) (pa_cons (pe_ix ix_tup (pe_ix ix_list (pv 11) (pe_un un_neg pe_int) (fun _ _ => rfl)) pe_int (fun _ _ => rfl)) pa_nil)))))
      (pss_cons (ps_set (i := 6) nd rfl (Or.inl rfl) (pe_tup (StX.pa_star (pv 6) (StX.pa_star (pe_lc (own := [("place", 16)]) (g := gName 16) (tt := tYes) (te := tTup (tCons (tVar 16) (tCons (tMeth (He.ga g.K "Table") "parts_of" (spPartsOf g.K) [] E0 (tVar 1) (tCons (tOp (rIxT g.K) (tVar 16) (tC (.int 1))) tNil)) tNil))) rfl nd (pi_list (pv 11)) (blkOk_by (N := N_Run_page) (sc := defScope s_Run_page) (by decide +kernel))
        (fun _ _ _ _ _ => pg_name (i := 16) nd rfl (Or.inl rfl)) (fun _ _ _ _ _ => pts_nil) (fun _ _ _ _ _ => pe_tup (pa_cons (pv 16) (pa_cons (pe_m (c_Table_parts_of T) hr (pv 1) (pa_cons (pe_ix (r := rIxT g.K) ix_tup (pv 16) pe_int (fun _ _ => rfl)) pa_nil)) pa_nil)))) pa_nil))))
      (pss_cons (ps_set (i := 12) nd rfl (Or.inl rfl) (pe_ifExp (pt_cmp (pc_notN (pv 3))) pe_non (pv 12)))
      (pss_cons (ps_expr (pe_m (c_Run_keep T) hr (pv 0) (pa_cons (pe_tup (pa_cons (pv 1) (pa_cons (pv 12) (pa_cons (pv 3) (pa_cons (pe_and (pe_cmp (pc_isN (pv 3))) (pe_one (pe_cmp (pc_isN (pv 12))))) (pa_cons (pe_tup (StX.pa_star (pv 5) (pa_cons (pe_callTy call_tuple_of (by rfl) (f_tuple T) (by decide +kernel) (pa_cons (pv 11) pa_nil)) pa_nil))) (pa_cons (pv 6) pa_nil))))))) pa_nil)))
      (pss_one (ps_ret (pv 11))))))))))))))), ?_⟩
    obtain ⟨⟨dx, sa, ha, k1, pg, tq, ps, ts, k2, k3, k4, k5, k6⟩, pasts⟩ := G.run
    obtain ⟨tdx, th⟩ := G.gv.tab.ins
    obtain ⟨rdx, rst, rb, rc, rh, _⟩ := G.gv.rd.ex
    have fewT := G.tk.told.len
    have lenA := ok.len
    have few3 := ok.rows.few
    obtain ⟨n1, n2, n3⟩ := G.neA npr
    refine ⟨_, rfl, ru, _, dx, _, _, rfl, k1, cl_Run T, n_Run_stand T, rfl, sa, _, rfl, SqT.of k2, rfl, _, _, rfl, _, _, rfl, _, _, rfl, _, _, rfl, _, _, rfl, _, _, rfl, rfl, ?_⟩
    refine ⟨_, rfl, _, rfl, iteF ⟨_, rfl, ru, dx, _, rfl, k1, rfl, d, ru, pa, rd, t, r, m, x, _, fl, en, rfl, G, ok, fun v H1 e1 hv => ?_⟩⟩
    subst hv
    refine ⟨_, rfl, _, rfl, iteF ⟨_, rfl, ru, _, dx, _, _, rfl, e1.ins k1, cl_Run T, n_Run_own_reader T, rfl, rd, rdx, _, rfl, e1.ins rh, rfl, rd, d.up, d.o, d.size, asI d.as, rfl, (G.up e1).gv.rd, fun v2 H2 e2 hv2 => ?_⟩⟩
    obtain ⟨sl, b, c, rfl, h1, h2, h3⟩ := hv2
    have e12 := e1.trans e2
    refine ⟨_, rfl, sl, _, 0, _, rfl, rfl, SqL.of h1, rfl, b, _, rfl, SqT.of h2, rfl, _, _, rfl, _, _, rfl, _, _, rfl, _, _, rfl, rfl, ?_⟩
    refine ⟨_, rfl, ru, dx, _, rfl, e12.ins k1, rfl, d, ru, pa, rd, t, r, m, x, fl, en, rfl, G.up e12, ok, fun v3 H3 e3 hv3 => ?_⟩
    obtain ⟨l, ys, rfl, fr, hl, hys⟩ := hv3
    refine ⟨_, rfl, _, rfl, l, ys, rfl, SqL.of hl, fun z hz => ?_⟩
    have e4 : Up g.K [] H3 (upd H3 z (.lst (cutV ys none (some (d.size : Int))))) := Up.new hz
    have z4 : upd H3 z (.lst (cutV ys none (some (d.size : Int)))) z = some (.lst (ys.take d.size)) := by rw [upd_same, cut_to]
    have p4 : Pls (upd H3 z (.lst (cutV ys none (some (d.size : Int))))) (ys.take d.size) (d.geo.pg x.T) := Pls.take d.size (e4.ts.pls hys)
    have e04 := (e12.trans e3).trans e4
    generalize (upd H3 z (.lst (cutV ys none (some (d.size : Int))))) = H4 at e4 z4 p4 e04 ⊢
    show tSeq _ _ _ _ _
    refine go (σ' := [some (.ref ru), some (.ref t), some (.int 0), some .non, some en, some (.ref pg), some (.ref tq), some (.int d.size), some (.ref c), some (.int 0), some (.int 0), some (.ref z), none, none, none, none, none]) ?_
    have pgl : (d.geo.pg x.T).length ≤ 9 := Nat.le_trans pg_len ok.s9
    have plen := Paired.length p4
    refine ⟨_, rfl, Nat.zero_le _, fun q0 hq0 => ?_⟩
    have e5' : Up g.K [] H4 (upd H4 q0 (.lst [])) := Up.new hq0
    have e05 := e04.trans e5'
    refine ⟨.list ((d.geo.pg x.T).map plD), .list [], .lst (SqL.of (e5'.lst z4)) (dp_pls (e5'.ts.pls p4)), .lst (SqL.of upd_same) .nil, (sh_pls _).ok (by decide), (Sh.list (n := 0) fun d hd => by cases hd).ok (by decide), _, rfl, ?_⟩
    rw [eqv_nil]
    have z5 := e5'.lst z4
    have p5 := e5'.ts.pls p4
    generalize (upd H4 q0 (.lst [])) = H5 at e5' e05 z5 p5 ⊢
    have G5 := G.up e05
    by_cases hpg : d.geo.pg x.T = []
    · rw [decide_eq_true hpg]
      refine iteT ⟨_, rfl, ru, dx, _, rfl, e05.ins k1, rfl, _, rfl, _, rfl, _, rfl, by show 6 ≤ sizeLine; decide, fun s2 hs2 => ?_⟩
      have e6 : Up g.K [] H5 (upd H5 s2 (.tup [.ref t, .non, .non, .bl true, .ref pg, .ref tq])) := Up.new hs2
      have e06 := e05.trans e6
      refine ⟨ru, pa, rd, t, s2, m, x, x, _, fl, en, .non, .non, .bl true, rfl, (G.up e06).run, ⟨pg, tq, ps, ts, upd_same, e06.tup _ _ k3, L2.Paired.mapP k4 fun _ _ => e06.ts.page, e06.tup _ _ k5, L2.Paired.mapP k6 fun _ _ => e06.ts.tell⟩, hm, fun H7 e7 R7 => ?_⟩
      refine ⟨Nat.zero_le _, fun p hp => ?_⟩
      have e8 : Up g.K [] H7 (upd H7 p (.lst [])) := Up.new hp
      refine q _ _ ((e06.wide.trans e7).trans e8.wide) (.inr ⟨hpg, ?_⟩)
      exact RunG.up ⟨(G.up e06).gv.up e7 n1 n2 n3, R7, e7.tabs (e06.tabs G.tabs), G.tk⟩ e8
    · rw [decide_eq_false hpg]
      refine iteF ⟨_, rfl, z, _, rfl, .inl (SqL.of z5), _, rfl, rfl, _, rfl, ?_⟩
      refine if_two rfl rfl ?_
      refine ⟨_, rfl, ru, dx, _, rfl, e05.ins k1, rfl, ru, pa, rd, t, m, x, _, fl, en, rfl, G5.run, by omega, fun v6 H6 e6 hv6 => ?_⟩
      obtain ⟨tl, rfl, ftl, htl⟩ := hv6
      have z6 := e6.lst z5
      have p6 := e6.ts.pls p5
      have e06 := e05.trans e6
      refine ⟨_, rfl, z, rfl, ⟨ys.take d.size, SqL.of z6⟩, fun D hD => ?_⟩
      refine lc_walk (K := g.K) (walk_list (xs := ys.take d.size)) [] (fun _ => true) (fun i y _ => ∃ w, (d.geo.pg x.T)[i]? = some w ∧ y = .int w.2) hD (fun H' e => SqL.of (e.lst z6)) (fun i H x H' y => ya_up y) (by omega) (fun _ _ _ _ _ h => h)
        (fun i v H7 H8 hi e7 hD7 hy QQ qq => ?_) (by simp) fun ks H7 e7 eD lr => ?_
      · obtain ⟨rfl, hv⟩ := hy
        obtain ⟨w, hw, b2, rfl, hb2⟩ := pair_fwd p6 hv
        refine gt_tup (SqT.of (e7.tup _ _ hb2)) (qq _ _ Up.refl (by rw [wipe_set (by simp), wipe_set (by simp), wipe_two]) EvB.yes fun _ H9 e9 Q9 k9 => ?_)
        exact ⟨_, rfl, k9 _ _ Up.refl ⟨w, hw, rfl⟩⟩
      · obtain rfl := lr_map plen lr
        have e07 := e06.trans e7
        refine ⟨tl, D, _, _, rfl, rfl, e7.lst htl, eD, ?_, fun kl hkl => ?_⟩
        · rw [List.length_map, List.length_map, List.length_map]
          exact Nat.le_trans (show _ ≤ 100 by omega) (by decide)
        have e8' : Up g.K [] H7 (upd H7 kl (.lst ((x.T.map (·.2)).map V.int ++ (d.geo.pg x.T).map fun w => V.int w.2))) := Up.new hkl
        have kl8 : upd H7 kl (.lst ((x.T.map (·.2)).map V.int ++ (d.geo.pg x.T).map fun w => V.int w.2)) kl = some (.lst (((x.T ++ d.geo.pg x.T).map (·.2)).map V.int)) := by
          rw [upd_same, List.map_append, List.map_append, List.map_map, List.map_map]
          rfl
        have e08 := e07.trans e8'
        have z8 := e8'.lst (e7.lst z6)
        have p8 := e8'.ts.pls (e7.ts.pls p6)
        generalize (upd H7 kl (.lst ((x.T.map (·.2)).map V.int ++ (d.geo.pg x.T).map fun w => V.int w.2))) = H8 at e8' kl8 e08 z8 p8 ⊢
        have G8 := G.up e08
        have hne : ys.take d.size ≠ [] := fun e => by
          rw [e] at plen
          exact hpg (List.eq_nil_of_length_eq_zero plen.symm)
        obtain ⟨pl0, lv, lp, hpl, ⟨lb, rfl, hlb⟩, _⟩ := pair_last p8 hpg
        refine ⟨_, rfl, ru, dx, _, rfl, e08.ins k1, rfl, _, rfl, _, rfl, _, rfl, _, rfl, z, _, -1, _, rfl, rfl, SqL.of z8, (by rw [hpl]; exact atI_last _ _), lb, _, 0, _, rfl, rfl, SqT.of hlb, rfl, ?_⟩
        refine ⟨d, ru, pa, rd, t, r, kl, m, x, _, fl, en, _, _, rfl, G8, ok, kl8, fun v9 H9 e9 hv9 => ?_⟩
        have e09 := e08.trans e9
        have z9 := e9.lst z8
        have p9 := e9.ts.pls p8
        have k59 := e09.tup _ _ k5
        have G9 := G.up e09
        show tSeq _ _ _ _ _
        refine go (σ' := [some (.ref ru), some (.ref t), some (.int 0), some v9, some en, some (.ref pg), some (.ref tq), some (.int d.size), some (.ref c), some (.int 0), some (.int 0), some (.ref z), some (.int 0), some (.ref kl), none, none, none]) ?_
        refine ⟨_, rfl, tq, ts, rfl, .inl (SqT.of k59), _, rfl, z, rfl, ⟨ys.take d.size, SqL.of z9⟩, fun D2 hD2 => ?_⟩
        refine lc_walk (K := g.K) (walk_list (xs := ys.take d.size)) [] (fun _ => true) (fun i y H => ∃ w, (d.geo.pg x.T)[i]? = some w ∧ ∃ n, (n < d.P ∧ w ∈ d.geo.L n) ∧ TellV H y (w, n)) hD2 (fun H' e => SqL.of (e.lst z9)) (fun i H x H' y => ya_up y) (by omega) (fun i y H H' e h => let ⟨w, h1, n, h2, h3⟩ := h; ⟨w, h1, n, h2, e.ts.tell h3⟩)
          (turn_name (by simp) fun i v H10 hi hv e10 _ => ⟨EvB.yes, fun _ H11 e11 Q11 k11 => ?_⟩) (by simp) fun ws H10 e10 eD2 lr2 => ?_
        · obtain ⟨w, hw, b2, rfl, hb2⟩ := pair_fwd p9 hv
          have e911 := e10.trans e11
          have e011 := e09.trans e911
          have wA : w ∈ d.geo.all := (pg_all ok.geo (List.mem_of_getElem? hw)).1
          refine ⟨_, rfl, _, rfl, t, tdx, _, rfl, e011.ins th, rfl, _, rfl, b2, _, 1, _, rfl, rfl, SqT.of (e911.tup _ _ hb2), rfl, t, r, d.P, w.2, d.rs, rfl, (G.up e011).gv.tab, few3, of_rows ok wA, fun v12 H12 e12 hv12 => ?_⟩
          obtain ⟨w2, hw2, ew2, b3, rfl, hb3⟩ := hv12
          refine ⟨by show 2 ≤ sizeLine; decide, fun p hp => ?_⟩
          have e13 : Up g.K [] H12 (upd H12 p (.tup [.ref b2, .ref b3])) := Up.new hp
          exact k11 _ _ (e12.trans e13) ⟨w, hw, w2.2.2, row_at ok wA hw2 ew2, p, b2, b3, rfl, upd_same, (e911.trans (e12.trans e13)).tup _ _ hb2, e13.tup _ _ hb3⟩
        · have tl2 := lr_filter (φ := fun _ => true) (F := fun y w H => ∃ n, (n < d.P ∧ w ∈ d.geo.L n) ∧ TellV H y (w, n)) plen (fun _ _ _ => rfl) lr2
          rw [List.filter_eq_self.mpr fun _ _ => rfl] at tl2
          obtain ⟨ts2, et2, ptl2, at2⟩ := tells_of tl2
          have e010 := e09.trans e10
          have lts : ts.length ≤ 63 := by
            rw [Paired.length k6]
            have := congrArg List.length G.tk.same
            rw [List.length_map] at this
            omega
          have lws : ws.length ≤ 9 := by
            have := Paired.length tl2
            omega
          have fewAll : (ts ++ (ws ++ [])).length ≤ sizeLine := by
            rw [List.length_append, List.length_append]
            exact Nat.le_trans (show ts.length + (ws.length + 0) ≤ 100 by omega) (by decide)
          refine ⟨D2, ws, rfl, .inr (SqL.of eD2), fewAll, fun tq2 htq2 => ?_⟩
          have e11' : Up g.K [] H10 (upd H10 tq2 (.tup (ts ++ (ws ++ [])))) := Up.new htq2
          have t11 : upd H10 tq2 (.tup (ts ++ (ws ++ []))) tq2 = some (.tup (ts ++ ws)) := by rw [upd_same, List.append_nil]
          have e011 := e010.trans e11'
          have z11 := e11'.lst (e10.lst z9)
          have p11 := e11'.ts.pls (e10.ts.pls p9)
          have ptl11 := L2.Paired.mapP ptl2 fun _ _ => e11'.ts.tell
          have fl11 := e11'.ts.fl (e10.ts.fl hv9)
          generalize (upd H10 tq2 (.tup (ts ++ (ws ++ [])))) = H11 at e11' t11 e011 z11 p11 ptl11 fl11 ⊢
          show tSeq _ _ _ _ _
          refine go (σ' := [some (.ref ru), some (.ref t), some (.int 0), some v9, some en, some (.ref pg), some (.ref tq2), some (.int d.size), some (.ref c), some (.int 0), some (.int 0), some (.ref z), some (.int 0), some (.ref kl), none, none, none]) ?_
          have tk2 : Tl.Ok ⟨x.pages ++ [d.geo.pg x.T], x.tells ++ ts2⟩ d := by
            refine ⟨fun p hp => ?_, ?_, fun y hy => ?_, ?_⟩
            · rcases List.mem_append.mp hp with hp | hp
              · exact G.tk.ne p hp
              · rw [List.mem_singleton.mp hp]
                exact hpg
            · show (x.tells ++ ts2).map (·.1) = (x.pages ++ [d.geo.pg x.T]).flatten
              rw [List.map_append, et2, G.tk.same, pls_nil]
              rfl
            · rcases List.mem_append.mp hy with hy | hy
              · exact G.tk.at_ y hy
              · exact at2 y hy
            · show Told d.geo (x.pages ++ [d.geo.pg x.T]).flatten
              rw [pls_nil]
              exact G.tk.told.more ok.geo
          have fin : ∀ (H12 : Hp) (l p5 s2 : Addr) (st2 fl2 en2 : V), Up g.K [] H11 H12 → H12 p5 = some (.tup (ps ++ [.ref l])) → H12 l = some (.tup (ys.take d.size)) → H12 s2 = some (.tup [.ref t, st2, fl2, en2, .ref p5, .ref tq2]) →
              StdO H12 s2 t ⟨x.pages ++ [d.geo.pg x.T], x.tells ++ ts2⟩ st2 fl2 en2 := fun H12 l p5 s2 st2 fl2 en2 e h1 h2 h3 =>
            ⟨p5, tq2, _, _, h3, h1, pair_app (L2.Paired.mapP k4 fun _ _ => (e011.trans e).ts.page) ⟨l, _, rfl, h2, e.ts.pls p11⟩, e.tup _ _ t11, pair_cat (L2.Paired.mapP k6 fun _ _ => (e011.trans e).ts.tell) (L2.Paired.mapP ptl11 fun _ _ => e.ts.tell)⟩
          have lps : ps.length ≤ 63 := by
            rw [Paired.length k4]
            have h1 := flat_len G.tk.ne
            have h2 : x.T.length ≤ 63 := Nat.le_trans fewT lenA
            exact Nat.le_trans h1 h2
          rcases fl11 with rfl | ⟨fa, fn, rfl, hfa⟩
          · refine ⟨_, rfl, _, rfl, iteF ⟨_, rfl, _, rfl, ru, dx, _, rfl, e011.ins k1, rfl, _, rfl, _, rfl, _, rfl, _, rfl, _, rfl, iteT ⟨_, rfl, ?_⟩⟩⟩
            refine ⟨_, rfl, pg, ps, rfl, .inl (SqT.of (e011.tup _ _ k3)), _, rfl, z, _, rfl, .inl ⟨SqL.of z11, fun l hl => ⟨?_, fun p5 hp5 => ?_⟩⟩⟩
            · show (ps ++ [V.ref l]).length ≤ sizeLine
              rw [List.length_append]
              exact Nat.le_trans (show ps.length + 1 ≤ 100 by omega) (by decide)
            have e12 : Up g.K [] H11 (upd H11 l (.tup (ys.take d.size))) := Up.new hl
            have e13 := e12.trans (Up.new (K := g.K) (ms := []) (o := .tup (ps ++ [.ref l])) hp5)
            refine ⟨_, rfl, by show 6 ≤ sizeLine; decide, fun s2 hs2 => ?_⟩
            have e14 := e13.trans (Up.new (K := g.K) (ms := []) (o := .tup [.ref t, .int 0, .non, .bl false, .ref p5, .ref tq2]) hs2)
            have e34 := Up.new (K := g.K) (ms := []) (o := .tup [.ref t, .int 0, .non, .bl false, .ref p5, .ref tq2]) hs2
            have e24 := (Up.new (K := g.K) (ms := []) (o := .tup (ps ++ [.ref l])) hp5).trans e34
            have e014 := e011.trans e14
            refine ⟨ru, pa, rd, t, s2, m, x, ⟨x.pages ++ [d.geo.pg x.T], x.tells ++ ts2⟩, _, fl, en, _, _, _, rfl, (G.up e014).run, fin _ l p5 s2 _ _ _ e14 (e34.tup _ _ upd_same) (e24.tup _ _ upd_same) upd_same, hm, fun H15 e15 R15 => ?_⟩
            refine ⟨_, rfl, q _ _ (e014.wide.trans e15) (.inl ⟨hpg, ⟨x.pages ++ [d.geo.pg x.T], x.tells ++ ts2⟩, _, _, _, rfl, ⟨(G.up e014).gv.up e15 n1 n2 n3, R15, e15.tabs (e014.tabs G.tabs), tk2⟩, .inl ⟨rfl, rfl⟩⟩)⟩
          · refine ⟨_, rfl, _, rfl, iteT ⟨_, rfl, ru, dx, _, rfl, e011.ins k1, rfl, _, rfl, _, rfl, _, rfl, _, rfl, _, rfl, iteF ?_⟩⟩
            refine ⟨_, rfl, pg, ps, rfl, .inl (SqT.of (e011.tup _ _ k3)), _, rfl, z, _, rfl, .inl ⟨SqL.of z11, fun l hl => ⟨?_, fun p5 hp5 => ?_⟩⟩⟩
            · show (ps ++ [V.ref l]).length ≤ sizeLine
              rw [List.length_append]
              exact Nat.le_trans (show ps.length + 1 ≤ 100 by omega) (by decide)
            have e12 : Up g.K [] H11 (upd H11 l (.tup (ys.take d.size))) := Up.new hl
            have e13 := e12.trans (Up.new (K := g.K) (ms := []) (o := .tup (ps ++ [.ref l])) hp5)
            refine ⟨_, rfl, by show 6 ≤ sizeLine; decide, fun s2 hs2 => ?_⟩
            have e14 := e13.trans (Up.new (K := g.K) (ms := []) (o := .tup [.ref t, .non, .ref fa, .bl false, .ref p5, .ref tq2]) hs2)
            have e34 := Up.new (K := g.K) (ms := []) (o := .tup [.ref t, .non, .ref fa, .bl false, .ref p5, .ref tq2]) hs2
            have e24 := (Up.new (K := g.K) (ms := []) (o := .tup (ps ++ [.ref l])) hp5).trans e34
            have e014 := e011.trans e14
            refine ⟨ru, pa, rd, t, s2, m, x, ⟨x.pages ++ [d.geo.pg x.T], x.tells ++ ts2⟩, _, fl, en, _, _, _, rfl, (G.up e014).run, fin _ l p5 s2 _ _ _ e14 (e34.tup _ _ upd_same) (e24.tup _ _ upd_same) upd_same, hm, fun H15 e15 R15 => ?_⟩
            refine ⟨_, rfl, q _ _ (e014.wide.trans e15) (.inl ⟨hpg, ⟨x.pages ++ [d.geo.pg x.T], x.tells ++ ts2⟩, _, _, _, rfl, ⟨(G.up e014).gv.up e15 n1 n2 n3, R15, e15.tabs (e014.tabs G.tabs), tk2⟩, .inr ⟨rfl, fa, fn, rfl, e15.tup _ _ (e14.tup _ _ hfa)⟩⟩)⟩
end K48

namespace K48
open PySem PySem.Spec PyProof.Rows L2 ClX
variable {g : GX}
/-! ### len(e), e of a class with its own __len__ -/
def rLenOwn (C : Addr) (sp : Sp) : List V → Hp → VK → Prop := fun xs H Q => ∃ a dx fs, xs = [V.ref a] ∧ H a = some (.ins C dx fs) ∧ sp [.ref a] H (fun v H' => ∃ n : Nat, v = .int (n : Int) ∧ n < 2 ^ 62 ∧ Q (.int (n : Int)) H') E0
theorem call_lenOwn {X : Cx} {k : Nat} {C : Str} {sp : Sp} (c : CalM (gOf X) k C "__len__" sp) (hr : Room (k + 1) X.A) : CallR X (.builtin "len") (rLenOwn (He.ga X.K C) sp) := by
  intro pins s σ H xs us Q I r h
  obtain ⟨f, fd, ps, F, h1, h2, h3⟩ := c
  obtain ⟨a, dx, fs, rfl, ha, q⟩ := h
  rw [Vals.ref1 r]
  obtain ⟨mA, O, _, _, _, _⟩ := ins_get I.hok ha
  obtain ⟨od, J, _⟩ := O.look
  obtain ⟨m, hF⟩ := I.fr
  refine PySem.W.len_K hF I.ok.mod.kin J h2.at_ h2.fn (wpAny_call ?_)
  refine codeAny_mono ((F.raw h3 .nil) X.A.in1 X.stack s H [.ref a] [.ref a] _ E0 hr.in1 I.env0.in1 (.cons rfl .nil) q) fun r s' hq => ?_
  cases r with
  | error e => exact False.elim hq
  | ok fl =>
    cases fl with
    | ret u =>
      obtain ⟨v, H', I2, rv, n, rfl, hn, q⟩ := I.after hq
      obtain ⟨t, rfl⟩ := rv
      exact ⟨⟨by omega, by omega⟩, .int n, H', I2.tok _, ⟨_, rfl⟩, q⟩
    | next => exact False.elim hq
    | brk => exact False.elim hq
    | cont => exact False.elim hq
theorem pts_dead {X : Cx} {es : List Expr} : PTs X es (fun _ _ _ => False) := ⟨fun _ _ _ _ _ _ h => h.elim⟩
theorem PgL.up {K : PySem.W.Frag} {H H' : Hp} {v : V} {ps : List Place} (h : PgL H v ps) (e : Up K [] H H') : PgL H' v ps := let ⟨a, xs, h1, h2, h3⟩ := h; ⟨a, xs, h1, e.lst h2, e.ts.pls h3⟩
/-- where the run stands -/
def JSt (d : Dat) (H : Hp) (m n : Nat) (x : Tl) (st fl : V) : Prop :=
  (st = .int 0 ∧ m = x.pages.length ∧ x.pages ++ d.geo.pages x.T = d.geo.pages [] ∧ n + x.T.length = 64) ∨
  (st = .non ∧ ((fl = .non ∧ x.pages = d.geo.pages []) ∨ ∃ a k, fl = .ref a ∧ H a = some (.tup [.str "late", .int k]) ∧ d.geo.pages [] = x.pages ++ d.geo.pages x.T))
/-! ### runs.py: judge -/
structure JgR (H' : Hp) (d : Dat) (v : V) : Prop where
  ex : ∃ a kd nm p xs pgs, v = .ref a ∧ H' a = some (.tup [.str kd, nm, .ref p]) ∧ H' p = some (.lst xs) ∧ Paired (PgL H') xs pgs ∧ ((kd = "right" ∧ pgs = d.geo.pages []) ∨ (kd = "late" ∧ ∃ rest, d.geo.pages [] = pgs ++ rest))
def spJudge (K : PySem.W.Frag) : Sp := fun vs H Q _ => ∃ (d : Dat) (rd t r : Addr), vs = [.ref rd, .ref t, .ref (emptyAt K)] ∧ Gv K H d rd t r ∧ LamX.Tabs (tabT K) H ∧ d.Ok ∧ Ret K [] H (fun v H' => JgR H' d v) Q
theorem c_judge (T : Tx g) : ∃ fd, FnOk g.P g.w g.K g.mg g.base CX0 8 (He.ga g.K "judge") fd p_judge (spJudge g.K) ∧ PySem.W.keepIn g.K (.ref (He.ga g.K "judge")) = true ∧ ∃ ds, Vals [V.ref (emptyAt g.K)] ds ∧ Binds g.K fd p_judge ds := by
  obtain ⟨fd, F⟩ := T.fun_ in_judge
  refine ⟨fd, def_ok F sc_judge (fun vs H Q E h => ?_) (fun cdv A outer s H vs Q E hr h => ?_), F.kp, F.binds0 2 (by intro e; cases e) rfl fun D doc pm an cdv ct us ks hl hk => match us, hl, ks, hk with | [_, _], _, [_], _ => ⟨_, _, _, _, _, _, rfl, rfl, rfl⟩⟩
  · obtain ⟨_, _, _, _, rfl, _⟩ := h
    rfl
  · obtain ⟨d, rd, t, r, rfl, gv, tabs, ok, q⟩ := h
    have nd := sc_judge.nd
    refine ⟨_, pss_cons (ps_asg (pe_tup (pa_cons (pe_i (c_Run T) hr (by rfl) (g_Run T) (pa_cons (pv 0) (pa_cons (pv 1) pa_nil))) (pa_cons (pe_un un_neg pe_int) pa_nil))) (pg_tup (n := 2) rfl (pgs_cons (pg_name (i := 3) nd rfl (Or.inr rfl)) (pgs_cons (pg_name (i := 4) nd rfl (Or.inr rfl)) pgs_nil))))
      (pss_cons (ps_while noxe (pt_cmp (pc_notN (pe_p (c_Run_state T) hr (pv 3))))
        (pss_cons (ps_for (g := gTup g.K 2 (gCons (gName 5) (gCons (gName 6) gNil))) noxe rfl (pi_list (pe_lc (own := [("move", 7)]) (g := gName 7) (tt := fun _ _ _ => False) (te := fun _ _ _ => False) rfl nd (pi_tup (pv 2)) (blkOk_by (N := N_judge) (sc := defScope s_judge) (by decide +kernel))
          (fun _ _ _ _ _ => pg_name (i := 7) nd rfl (Or.inl rfl)) (fun _ _ _ _ _ => pts_dead) (fun _ _ _ _ _ => pe_dead))) (pg_tup rfl (pgs_cons (pg_name (i := 5) nd rfl (Or.inl rfl)) (pgs_cons (pg_name (i := 6) nd rfl (Or.inl rfl)) pgs_nil))) (pss_one ps_never))
        (pss_cons (ps_set (i := 4) nd rfl (Or.inr rfl) (pe_callB (call_lenOwn (c_Run_len T) (hr.mono (by decide))) (by rfl) (f_len T) PySem.boot_len (pa_cons (pv 3) pa_nil)))
        (pss_one (ps_expr (pe_m0 (c_Run_page T) hr (pv 3)))))))
      (pss_cons (ps_if (pt_cmp (pc_isN (pe_p (c_Run_fault T) hr (pv 3)))) (pss_one (ps_ret (pe_tup (pa_cons pe_str (pa_cons pe_non (pa_cons (pe_m0 (c_Run_pages T) hr (pv 3)) pa_nil)))))) pss_nil)
      (pss_one (ps_ret (pe_tup (pa_cons (pe_ix ix_tup (pe_p (c_Run_fault T) hr (pv 3)) pe_int (fun _ _ => rfl)) (pa_cons (pe_ix ix_tup (pe_p (c_Run_fault T) hr (pv 3)) pe_int (fun _ _ => rfl)) (pa_cons (pe_m0 (c_Run_pages T) hr (pv 3)) pa_nil)))))))), ?_⟩
    refine ⟨_, rfl, _, rfl, fun ru dx hru hdx hne => ?_⟩
    have hru2 : upd H dx (.own ru) ru = none := by rw [upd_ne (Ne.symm hne)]; exact hru
    have e0 : Up g.K [] H (upd (upd H dx (.own ru)) ru (.ins (He.ga g.K "Run") dx [])) := (Up.new hdx).trans (Up.new hru2)
    refine ⟨ru, rd, t, r, dx, d, rfl, upd_same, gv.up e0, ok, fun H2 pa e2 fpa R => ⟨rfl, ?_⟩⟩
    obtain ⟨ry, hr1, _⟩ := (gv.up e0).tab.row
    have npr : pa ≠ r := fun e => Fr.ne hr1 fpa (fun ps z => by cases z) e.symm
    have fru : Fr H ru := .of hru
    have fpa0 : Fr H pa := e0.has pa fpa
    refine ⟨_, rfl, by show 2 ≤ sizeLine; decide, fun p hp => ?_⟩
    have e3 : Up g.K [] H2 (upd H2 p (.tup [.ref ru, .int (-1)])) := Up.new hp
    have e03 : Up g.K [] H (upd H2 p (.tup [.ref ru, .int (-1)])) := ((e0.wide.trans e2).drop fru).trans e3
    have few63 := ok.len
    refine ⟨p, _, rfl, SqT.of upd_same, rfl, _, _, rfl, _, _, rfl, rfl, ?_⟩
    refine ⟨fun n σ H3 => ∃ (m : Nat) (x : Tl) (st fl en mv : V), σ = [some (.ref rd), some (.ref t), some (.ref (emptyAt g.K)), some (.ref ru), some mv, none, none, none] ∧ Up g.K [] H H3 ∧ RunG g.K H3 d ru pa rd t r m x st fl en ∧ JSt d H3 m n x st fl,
      ⟨64, 0, ⟨[], []⟩, _, _, _, _, rfl, e03, ⟨gv.up e03, R.up e3, e03.tabs tabs, (fun p h => by cases h), rfl, (fun p h => by cases h), Told.nil⟩, .inl ⟨rfl, rfl, rfl, rfl⟩⟩, ?_⟩
    rintro n σ H3 ⟨m, x, st, fl, en, mv, rfl, e3, G, J⟩
    obtain ⟨⟨dx2, sa, ha, k1, _⟩, pasts⟩ := G.run
    refine ⟨_, rfl, ru, dx2, _, rfl, k1, ru, pa, rd, t, m, x, st, fl, en, rfl, G.run, _, rfl, ?_⟩
    have lenP : x.pages.length ≤ 63 := Nat.le_trans (flat_len G.tk.ne) (Nat.le_trans G.tk.told.len few63)
    rcases J with ⟨rfl, rfl, J2, J3⟩ | ⟨rfl, J2⟩
    · refine iteT ⟨fun σ' H4 => ∃ n', n' < n ∧ _, fun σ' H4 h => h, ?_⟩
      refine ⟨_, rfl, emptyAt g.K, rfl, ⟨[], T.cv.empty H3⟩, fun D hD => ?_⟩
      refine walk_W (walk_tup (K := g.K) (xs := [])) (fun i H4 => Up g.K [] H3 H4 ∧ H4 D = some (.lst [])) ⟨Up.new hD, upd_same⟩ (fun i H4 _ _ => T.cv.empty H4) (fun i x H4 H5 hi => absurd hi (Nat.not_lt_zero _)) ?_
      rintro H4 ⟨e4, eD⟩
      refine ⟨D, rfl, ⟨[], SqL.of eD⟩, for_it (walk_list (K := g.K) (xs := [])) (fun _ σ H5 => H5 = H4 ∧ σ = [some (.ref rd), some (.ref t), some (.ref (emptyAt g.K)), some (.ref ru), some mv, none, none, none]) ⟨rfl, rfl⟩ (fun j σ H5 _ p => by rw [p.1]; exact SqL.of eD) (fun i x σ H5 H6 hi => absurd hi (Nat.not_lt_zero _)) ?_⟩
      rintro σ H5 ⟨rfl, rfl⟩
      have G5 := G.up e4
      refine ⟨_, rfl, ru, dx2, _, rfl, e4.ins k1, ru, pa, rd, t, _, x, _, fl, en, rfl, G5.run, x.pages.length, rfl, Nat.lt_of_le_of_lt lenP (by decide), ?_⟩
      refine ⟨_, rfl, ru, dx2, _, rfl, e4.ins k1, rfl, d, ru, pa, rd, t, r, _, x, fl, en, rfl, G5, ok, npr, Nat.le_trans lenP (by decide), fun v H6 e6 post => ?_⟩
      have e06 : Up g.K [] H H6 := (((e3.trans e4).wide.trans e6).drop fru).drop fpa0
      have len0 : x.T.length ≤ 63 := Nat.le_trans G.tk.told.len few63
      rcases post with ⟨hpg, x2, st2, fl2, en2, hx2, G2, hst⟩ | ⟨hpg, G2⟩
      · have hT : x2.T = x.T ++ d.geo.pg x.T := by
          unfold Tl.T
          rw [hx2, pls_nil]
          rfl
        have hP : x2.pages ++ d.geo.pages x2.T = d.geo.pages [] := by
          rw [hT, hx2, List.append_assoc, ← J2, pages_cons ok.geo G.tk.told hpg]
          rfl
        have hl := congrArg List.length hT
        rw [List.length_append] at hl
        have hp := List.length_pos_iff.mpr hpg
        have len2 : x2.T.length ≤ 63 := Nat.le_trans G2.tk.told.len few63
        rcases hst with ⟨rfl, rfl⟩ | ⟨rfl, fa, fk, rfl, hfa⟩
        · exact ⟨64 - x2.T.length, by omega, _, x2, _, _, en2, _, rfl, e06, G2, .inl ⟨rfl, by rw [hx2, List.length_append]; rfl, hP, by omega⟩⟩
        · exact ⟨64 - x2.T.length, by omega, _, x2, _, _, en2, _, rfl, e06, G2, .inr ⟨rfl, .inr ⟨fa, fk, rfl, hfa, hP.symm⟩⟩⟩
      · refine ⟨0, by omega, _, x, _, _, _, _, rfl, e06, G2, .inr ⟨rfl, .inl ⟨rfl, ?_⟩⟩⟩
        rw [pages_nil hpg, List.append_nil] at J2
        exact J2
    · refine iteF ?_
      refine ⟨_, rfl, ru, dx2, _, rfl, k1, ru, pa, rd, t, m, x, _, fl, en, rfl, G.run, _, rfl, ?_⟩
      rcases J2 with ⟨rfl, J3⟩ | ⟨fa, fk, rfl, hfa, J3⟩
      · refine iteT ⟨_, rfl, ru, dx2, _, rfl, k1, rfl, ru, pa, rd, t, m, x, _, _, en, rfl, G.run, Nat.le_trans lenP (by decide), fun v H4 e4 hv => ⟨by show 3 ≤ sizeLine; decide, fun p hp => ?_⟩⟩
        obtain ⟨pl, xs, rfl, fpl, hpl, hxs⟩ := hv
        have e5 : Up g.K [] H4 (upd H4 p (.tup [.str "right", .non, .ref pl])) := Up.new hp
        exact q _ _ ((e3.trans e4).trans e5) ⟨p, "right", .non, pl, xs, x.pages, rfl, upd_same, e5.lst hpl, L2.Paired.mapP hxs fun _ _ h => h.up e5, .inl ⟨rfl, J3⟩⟩
      · refine iteF ⟨_, rfl, ru, dx2, _, rfl, k1, ru, pa, rd, t, m, x, _, _, en, rfl, G.run, fa, _, 0, _, rfl, rfl, SqT.of hfa, rfl, _, rfl, ru, dx2, _, rfl, k1, ru, pa, rd, t, m, x, _, _, en, rfl, G.run, fa, _, 1, _, rfl, rfl, SqT.of hfa, rfl, ?_⟩
        refine ⟨_, rfl, ru, dx2, _, rfl, k1, rfl, ru, pa, rd, t, m, x, _, _, en, rfl, G.run, Nat.le_trans lenP (by decide), fun v H4 e4 hv => ⟨by show 3 ≤ sizeLine; decide, fun p hp => ?_⟩⟩
        obtain ⟨pl, xs, rfl, fpl, hpl, hxs⟩ := hv
        have e5 : Up g.K [] H4 (upd H4 p (.tup [.str "late", .int fk, .ref pl])) := Up.new hp
        exact q _ _ ((e3.trans e4).trans e5) ⟨p, "late", .int fk, pl, xs, x.pages, rfl, upd_same, e5.lst hpl, L2.Paired.mapP hxs fun _ _ h => h.up e5, .inr ⟨rfl, _, J3⟩⟩
end K48

namespace K48
open PySem PySem.Spec PyProof.Rows L2 ClX
open PySem.AutoSeq1 (wpAny_loadPart')
/-! ### enumerate(tuple) -/
theorem meets_enum_newT (l : Addr) (items : Array Value) (n : Nat) (dct : Option Addr) (sl : Array (Option Value)) :
    Meets (Builtin.«enumerate.__new__» ⟨[.type "enumerate", .ref l], []⟩) (fun _ R s => s.heap.get? l = some { cls := .type "tuple", dict := dct, data := .seq items n, slots := sl } ∧
      R (.ok (.ret (.ref (s.heap.push { cls := .type "tuple_iterator", data := .fields #[.ref l, .int 0 0] }).objs.size)))
        { s with heap := (s.heap.push { cls := .type "tuple_iterator", data := .fields #[.ref l, .int 0 0] }).push { cls := .type "enumerate", data := .fields #[.none, .bool false, .ref s.heap.objs.size, rawInt 0, .none, .none] } }) :=
  .of_wp fun prog w A R s h => by
    obtain ⟨hp, g, d, tk, os⟩ := s; obtain ⟨hl, h⟩ := h
    have hsub := sub_enumerate
    have hL : Heap.IsTuple (Shared.heap ⟨hp, g, d, tk, os⟩) l items := ⟨_, hl, rfl, n, rfl⟩
    wp_walk using wpAny_loadPart' hl
    refine wpAny_stack_any fun st => wpAny_pure ?_
    split
    · rename_i c _ _ _ _ _
      cases (c == Value.type "enumerate")
      · wp_walk using wpAny_loadPart' hl, wpAny_pyIter_tuple hL
        exact ⟨_, rfl, h⟩
      · wp_walk using wpAny_loadPart' hl, wpAny_pyIter_tuple hL
        exact ⟨_, rfl, h⟩
    · wp_walk using wpAny_loadPart' hl, wpAny_pyIter_tuple hL
      exact ⟨_, rfl, h⟩
section
variable {prog : Program} {w : World} {A : Around} {E : Value → Shared → Prop} {s : Shared}
theorem call_enumT {l : Addr} {items : Array Value} {Q : Value → Shared → Prop} (hL : s.heap.IsTuple l items)
    (h : ∀ h', IsEnum h' (s.heap.objs.size + 1) s.heap.objs.size 0 .none → h'.IsTupleIter s.heap.objs.size l 0 → h'.objs.size = s.heap.objs.size + 2 →
      (∀ b o, s.heap.get? b = some o → h'.get? b = some o) → Q (.ref (s.heap.objs.size + 1)) { s with heap := h' }) :
    wpAny (model prog w) A (call (.type "enumerate") [.ref l]) Q E s := by
  obtain ⟨⟨c, dct, dt, sl⟩, hl, hc, n, hd⟩ := hL
  replace hc : c = .type "tuple" := hc
  replace hd : dt = .seq items n := hd
  subst hc hd
  refine callType_new F.called_enumerate (by decide) (F.typeCall_enumerate_1 _) (F.newCall_enumerate_1 _) (fun obj => F.args_object_init_2 obj _) F.entry_enumerate_new
    (meets_enum_newT l items n dct sl) ⟨hl, ?_⟩
  have hz : (s.heap.push { cls := .type "tuple_iterator", data := .fields #[.ref l, .int 0 0] }).objs.size = s.heap.objs.size + 1 := Heap.size_push ..
  show _ ∧ _
  rw [hz]
  have he : IsEnum ((s.heap.push { cls := .type "tuple_iterator", data := .fields #[.ref l, .int 0 0] }).push
      { cls := .type "enumerate", data := .fields #[.none, .bool false, .ref s.heap.objs.size, rawInt 0, .none, .none] }) (s.heap.objs.size + 1) s.heap.objs.size 0 .none := by
    have := Heap.get?_push_size (s.heap.push { cls := .type "tuple_iterator", data := .fields #[.ref l, .int 0 0] })
      (o := { cls := .type "enumerate", data := .fields #[.none, .bool false, .ref s.heap.objs.size, rawInt 0, .none, .none] }) rfl
    rw [hz] at this; exact this
  refine ⟨⟨_, he, rfl⟩, h _ he ⟨_, Heap.get?_push_of_some _ (Heap.get?_push_size _ rfl), rfl, rfl⟩ (by rw [Heap.size_push, hz]) fun b o x => Heap.get?_push_of_some _ (Heap.get?_push_of_some _ x)⟩
end
/-- the tuple at a, each item in a new pair -/
def IteT (K : PySem.W.Frag) (a : Addr) : It :=
  ⟨fun i H => ∃ (xs : List V) (x : V), SqT K H a xs ∧ xs[i]? = some x, fun i H v H' => ∃ T x, v = .ref T ∧ H T = none ∧ H' = upd H T (.tup [.int (i : Nat), x]) ∧ ∀ xs, SqT K H a xs → xs[i]? = some x, fun i H => ∃ xs : List V, SqT K H a xs ∧ xs.length = i⟩
theorem turn_enumT {P : Program} {w : World} {K : PySem.W.Frag} {elts : List Expr} {kk : Nat} {tpos : Pos} (a e it : Addr) (hai : a ≠ it) (hea : e ≠ a) :
    Turn P w K (.Tuple elts kk tpos) (IteT K a) [e, it] e (fun i h => (∃ old, IsEnum h e it ((i : Nat) : Int) old) ∧ h.IsTupleIter it a i ∧ e ≠ it) where
  mem := by simp
  obj := fun i h st b hb => by
    obtain ⟨⟨old, he⟩, ⟨o, ho, hc, hd⟩, _⟩ := st
    have e' : b = e ∨ b = it := by simpa using hb
    rcases e' with z | z
    · rw [z]; exact ⟨_, he, fun v q => nomatch q⟩
    · rw [z]; exact ⟨o, ho, fun v q => by rw [hd] at q; cases q⟩
  keep := fun i h h' st k => let ⟨⟨old, he⟩, hi, hne⟩ := st; ⟨⟨old, k e (by simp) _ he⟩, hi.at fun o q => k it (by simp) o q, hne⟩
  item := by
    intro X hP hw hK hc i pins s σ H E I hf st hg
    subst hP hw hK
    obtain ⟨⟨old, he⟩, hit, hne⟩ := st
    obtain ⟨xs, x, hq, hx⟩ := hg
    obtain ⟨its, rv, p, hz⟩ := I.tuple hq
    obtain ⟨u, hu, ru⟩ := rv.get hx
    have hel : e < s.heap.objs.size := Heap.lt_size he
    have hil : it < s.heap.objs.size := by obtain ⟨_, q, _⟩ := hit; exact Heap.lt_size q
    have D := Draws.tuple (prog := X.prog) (w := X.w) (A := X.A.in1) (by rw [Around.in1]; exact I.ok.hd hc) it a hai its.toArray
    have hi : i < its.toArray.size := by
      have := (List.getElem?_eq_some_iff.mp hu).1
      rw [List.size_toArray]
      exact this
    refine wpAny_pyNext_enum_itemD D he ⟨hit, show s.heap.IsTuple a its.toArray from p⟩ hi hne (by simp [hne, hea]) fun v h' tk hv ho hit' hT hsz hk => ?_
    obtain rfl : v = u := by
      have hv : its.toArray[i]? = some v := hv
      rw [List.getElem?_toArray, hu] at hv
      exact (Option.some.inj hv).symm
    refine ⟨_, rfl, wpAny_letOwnedTupleGo_enum (s := { s with heap := h', toks := tk + 1 }) ho fun h'' he' sb => ?_⟩
    have hT2 : h''.get? s.heap.objs.size = some { cls := .type "tuple", data := .seq #[.int i tk, v] } := (sb.2 _ (Nat.ne_of_gt hel)).trans hT
    have new : ObjOk X.prog X.w (upd H s.heap.objs.size (.tup [.int (i : Nat), x])) h'' s.heap.objs.size (.tup [.int (i : Nat), x]) :=
      ⟨by show 2 ≤ sizeLine; decide, [.int i tk, v], .cons ⟨_, rfl⟩ (.cons ru .nil), ⟨_, hT2, rfl, _, rfl⟩⟩
    have I1 : Inv X pins σ (upd H s.heap.objs.size (.tup [.int (i : Nat), x])) { s with heap := h'', toks := tk + 1 } :=
      I.turnedNew (ch := [e, it]) (fun b ob hb q => (sb.2 b (fun z => hb (by simp [z]))).trans (hk b ob (fun z => hb (by simp [z])) (fun z => hb (by simp [z])) q)) hf (Nat.le_refl _) new
    refine ⟨.ref s.heap.objs.size, _, I1, rfl, ⟨_, x, rfl, I.hok.fresh (Nat.le_refl _), rfl, fun ys hy => by rw [I.tuple_inj hy hq]; exact hx⟩, ⟨⟨v, ?_⟩, hit'.1.at fun o q => (sb.2 it (Ne.symm hne)).trans q, hne⟩, fun b hb => ?_⟩
    · have e1 : ((i + 1 : Nat) : Int) = (i : Int) + 1 := by omega
      rw [e1]; exact he'
    · have hb' : b < s.heap.objs.size := by
        have e' : b = e ∨ b = it := by simpa using hb
        rcases e' with z | z
        · rw [z]; exact hel
        · rw [z]; exact hil
      rw [upd_ne (Nat.ne_of_lt hb')]
      exact (hf b hb).1
  done := by
    intro X hP hw hK hc i pins s σ H E I hf st hg
    subst hP hw hK
    obtain ⟨⟨old, he⟩, hit, hne⟩ := st
    obtain ⟨xs, hq, hx⟩ := hg
    obtain ⟨its, rv, p, hz⟩ := I.tuple hq
    obtain ⟨f0, f1, f2, f3, f4, f5⟩ := hf it (by simp)
    have hl := rv.length
    have D := Draws.tuple (prog := X.prog) (w := X.w) (A := X.A.in1) (by rw [Around.in1]; exact I.ok.hd hc) it a hai its.toArray
    have hn : i = its.toArray.size := by rw [List.size_toArray]; omega
    rw [hn] at hit
    exact wpAny_pyNext_enum_endD D he ⟨hit, show s.heap.IsTuple a its.toArray from p⟩ fun h' eb => ⟨rfl, I.turned (t' := s.toks) (fun b o hb q => eb b o hb q) f0 f1 f3 f4 f5⟩
  self := fun A i s Q E st h => let ⟨⟨_, he⟩, _⟩ := st; wpAny_pyIter_enum he h
def iEnumT (K : PySem.W.Frag) (ta : TA) : TI := fun σ H R => ta σ H fun vs H1 => ∃ a xs, vs = [.ref a] ∧ SqT K H1 a xs ∧ R (IteT K a) H1
theorem pi_enumT {X : Cx} {e : Expr} {ta : TA} {p pos tpos : Pos} {elts : List Expr} {kk : Nat} (hg : Gl X "enumerate") (hm : X.mg "enumerate" = none) (ha : PA X [e] ta) (hs : starEach [e] X.env = [(false, eval e X.env)] := by rfl) :
    PI X (.Tuple elts kk tpos) (.Call (.Name "enumerate" p) [e] [] pos) (iEnumT X.K ta) := by
  refine ⟨fun pins s σ H R I h => ?_⟩
  refine Call_ (ld_blt I hg hm boot_enumerate (PyProof.Rows.callWith_type1 (thn (ha.run pos pins s σ H _ I h) fun us s1 ⟨vs, H1, I1, r1, q1⟩ => ?_) hs rfl))
  obtain ⟨a, xs, ex, hq, q⟩ := q1
  subst ex
  cases r1 with
  | cons r rr =>
    cases rr
    cases r
    obtain ⟨its, rv, p', hz⟩ := I1.tuple hq
    have hal : a < s1.heap.objs.size := by obtain ⟨o, q, _⟩ := p'; exact Heap.lt_size q
    refine call_enumT (show s1.heap.IsTuple a its.toArray from p') fun h' he hit hsz hk => wpAny_pyIter_enum he ?_
    have I2 : Inv X pins σ H1 { s1 with heap := h' } := I1.kept (t' := s1.toks) hk
    refine ⟨s1.heap.objs.size + 1, [s1.heap.objs.size + 1, s1.heap.objs.size], _, _, H1, rfl, I2, turn_enumT a (s1.heap.objs.size + 1) s1.heap.objs.size (Nat.ne_of_lt hal) (Nat.ne_of_gt (Nat.lt_succ_of_lt hal)), ⟨⟨.none, he⟩, hit, Nat.succ_ne_self _⟩, fun b hb => ?_, q⟩
    have e' : b = s1.heap.objs.size + 1 ∨ b = s1.heap.objs.size := by simpa using hb
    have hle : s1.heap.objs.size ≤ b := by
      rcases e' with z | z
      · rw [z]; exact Nat.le_add_right _ _
      · rw [z]; exact Nat.le_refl _
    exact I1.fpOk hle (I1.hok.fresh hle)
theorem walk_enumT {K : PySem.W.Frag} {a : Addr} {xs : List V} : Walk (IteT K a) xs.length (fun H => SqT K H a xs) (YPair (fun i => some (.int (i : Nat))) (fun i => xs[i]?)) := by
  refine ⟨fun i _ hi q => ⟨xs, xs[i], q, by simp [hi]⟩, fun _ q => ⟨xs, q, rfl⟩, fun i H v H' _ q y => ?_⟩
  obtain ⟨T, x, h1, h2, h3, h4⟩ := y
  exact ⟨T, .int (i : Nat), x, h1, h2, h3, rfl, h4 xs q⟩
end K48

namespace K48
open PySem PySem.Spec PyProof.Rows L2 ClX
variable {g : GX}
/-! ### hands.py -/
/-- the parts' lists of what was not sent -/
structure UnO (H : Hp) (un tp : Addr) (P : Nat) (U : Nat → List Place) : Prop where
  ex : ∃ us, H un = some (.lst us) ∧ us.length = P ∧ ∀ p, p < P → ∃ l xs, us[p]? = some (.ref l) ∧ l ≠ un ∧ l ≠ tp ∧ H l = some (.lst xs) ∧ Pls H xs (U p)
structure HdO (K : PySem.W.Frag) (H : Hp) (a un hh tp : Addr) (d : Dat) (T : List Place) (hd : List (Place × Nat)) (U : Nat → List Place) : Prop where
  ins : ∃ dx c, H a = some (.ins (He.ga K "Hand") dx [("own_size", .int d.size), ("own_asks", .ref c), ("own_order", .str (midS d.o)), ("unsent", .ref un), ("own_hand", .ref hh), ("told_places", .ref tp)]) ∧ H c = some (.tup ((asI d.as).map V.int))
  uns : UnO H un tp d.P U
  hnd : H hh = some (.dT (kvH hd))
  tld : ∃ xs, H tp = some (.lst xs) ∧ xs.length = T.length
  ne : un ≠ tp
theorem UnO.up {K : PySem.W.Frag} {H H' : Hp} {un tp : Addr} {P : Nat} {U : Nat → List Place} {ms : List Addr} (h : UnO H un tp P U) (e : Up K ms H H') (hm : ∀ b xs, H b = some (.lst xs) → b ∈ ms → b = tp := by intro _ _ _ h; cases h) (n : un ≠ tp) : UnO H' un tp P U := by
  obtain ⟨us, h1, h2, h3⟩ := h
  have k : ∀ b xs, b ≠ tp → H b = some (.lst xs) → H' b = some (.lst xs) := fun b xs hb hl => e.lst hl fun z => hb (hm b xs hl z)
  refine ⟨us, k _ _ n h1, h2, fun p hp => ?_⟩
  obtain ⟨l, xs, q1, q2, q3, q4, q5⟩ := h3 p hp
  exact ⟨l, xs, q1, q2, q3, k _ _ q3 q4, e.ts.pls q5⟩
theorem HdO.up {K : PySem.W.Frag} {H H' : Hp} {a un hh tp : Addr} {d : Dat} {T : List Place} {hd : List (Place × Nat)} {U : Nat → List Place} (h : HdO K H a un hh tp d T hd U) (e : Up K [] H H') : HdO K H' a un hh tp d T hd U := by
  obtain ⟨⟨dx, c, h1, h2⟩, h3, h4, ⟨xs, h5, h6⟩, n⟩ := h
  exact ⟨⟨dx, c, e.ins h1, e.tup _ _ h2⟩, h3.up (K := K) (ms := []) e (fun _ _ _ z => by cases z) n, e.dT h4, ⟨xs, e.lst h5, h6⟩, n⟩
theorem HdO.na {K : PySem.W.Frag} {H : Hp} {a un hh tp : Addr} {d : Dat} {T : List Place} {hd : List (Place × Nat)} {U : Nat → List Place} (h : HdO K H a un hh tp d T hd U) : a ≠ hh ∧ a ≠ un ∧ a ≠ tp ∧ un ≠ hh ∧ tp ≠ hh := by
  obtain ⟨⟨dx, c, h1, h2⟩, ⟨us, h3, _⟩, h4, ⟨xs, h5, h6⟩, n⟩ := h
  refine ⟨fun e => ?_, fun e => ?_, fun e => ?_, fun e => ?_, fun e => ?_⟩
  · rw [e, h4] at h1; cases h1
  · rw [e, h3] at h1; cases h1
  · rw [e, h5] at h1; cases h1
  · rw [e, h4] at h3; cases h3
  · rw [e, h4] at h5; cases h5
/-- the hand's dict changes -/
theorem HdO.upH {K : PySem.W.Frag} {H H' : Hp} {a un hh tp : Addr} {d : Dat} {T : List Place} {hd hd' : List (Place × Nat)} {U : Nat → List Place} (h : HdO K H a un hh tp d T hd U) (e : Up K [hh] H H') (k : H' hh = some (.dT (kvH hd'))) : HdO K H' a un hh tp d T hd' U := by
  obtain ⟨n1, n2, n3, n4, n5⟩ := h.na
  obtain ⟨⟨dx, c, h1, h2⟩, h3, h4, ⟨xs, h5, h6⟩, n⟩ := h
  refine ⟨⟨dx, c, e.ins h1 (by simpa using n1), e.tup _ _ h2⟩, h3.up (K := K) e (fun b xs hb z => ?_) n, k, ⟨xs, e.lst h5 (by simpa using n5), h6⟩, n⟩
  rw [List.mem_singleton.mp z, h4] at hb
  cases hb
/-- one part's list changes -/
theorem HdO.upU {K : PySem.W.Frag} {H H' : Hp} {a un hh tp : Addr} {d : Dat} {T : List Place} {hd : List (Place × Nat)} {U : Nat → List Place} (h : HdO K H a un hh tp d T hd U) {us : List V} {i : Nat} {z : Addr} {xs : List V} {ps : List Place} (e : Up K [un] H H') (hu : H un = some (.lst us)) (k : H' un = some (.lst (us.set i (.ref z))))
    (hi : i < d.P) (hz : H z = some (.lst xs)) (hp : Pls H xs ps) (z1 : z ≠ un) (z2 : z ≠ tp) : HdO K H' a un hh tp d T hd (setU U i ps) := by
  obtain ⟨n1, n2, n3, n4, n5⟩ := h.na
  obtain ⟨⟨dx, c, h1, h2⟩, ⟨us2, h3, q1, q2⟩, h4, ⟨ts, h5, h6⟩, n⟩ := h
  rw [hu] at h3
  cases h3
  refine ⟨⟨dx, c, e.ins h1 (by simpa using n2), e.tup _ _ h2⟩, ⟨_, k, by rw [List.length_set]; exact q1, fun p hp2 => ?_⟩, e.dT h4 (by simpa using Ne.symm n4), ⟨ts, e.lst h5 (by simpa using Ne.symm n), h6⟩, n⟩
  by_cases pe : i = p
  · subst pe
    refine ⟨z, xs, by rw [List.getElem?_set_self (by omega)], z1, z2, e.lst hz (by simpa using z1), ?_⟩
    unfold setU
    rw [if_pos rfl]
    exact e.ts.pls hp
  · obtain ⟨l, ys, r1, r2, r3, r4, r5⟩ := q2 p hp2
    refine ⟨l, ys, by rw [List.getElem?_set_ne pe]; exact r1, r2, r3, e.lst r4 (by simpa using r2), ?_⟩
    unfold setU
    rw [if_neg (Ne.symm pe)]
    exact e.ts.pls r5
end K48

namespace K48
open PySem PySem.Spec PyProof.Rows L2 ClX
variable {g : GX}
def spFill (K : PySem.W.Frag) : Sp := fun vs H Q _ => ∃ (a un hh tp : Addr) (d : Dat) (T : List Place) (hd : List (Place × Nat)) (U : Nat → List Place), vs = [.ref a] ∧ HdO K H a un hh tp d T hd U ∧ d.Ok ∧ HI d.geo T hd U ∧ T.length ≤ 63 ∧
  ∀ H' hd' U', Up K [un, hh] H H' → HdO K H' a un hh tp d T hd' U' → FI d.geo T d.P hd' U' → Q .non H'
theorem c_Hand_fill (T : Tx g) : CalM g 1 "Hand" "fill" (spFill g.K) := by
  obtain ⟨fd, F⟩ := T.fun_ in_Hand_fill
  refine ⟨_, fd, p_Hand_fill, def_ok F sc_Hand_fill (fun vs H Q E h => ?_) (fun cdv A outer s H vs Q E hr h => ?_), cl_Hand T, m_Hand_fill T, F.bindsN fun _ _ _ _ _ _ us hl => match us, hl with | [_], _ => rfl⟩
  · obtain ⟨_, _, _, _, _, _, _, _, rfl, _⟩ := h
    rfl
  · obtain ⟨a, un, hh, tp, d, Td, hd, U, rfl, O, ok, hi, few, q⟩ := h
    have nd := sc_Hand_fill.nd
    refine ⟨_, pss_one (ps_for (g := gTup g.K 2 (gCons (gName 1) (gCons (gName 2) gNil))) noxe rfl (pi_enumT (by rfl) (f_enumerate T) (pa_cons (pe_fld (f := "own_asks") (pv 0) rfl) pa_nil)) (pg_tup rfl (pgs_cons (pg_name (i := 1) nd rfl (Or.inr rfl)) (pgs_cons (pg_name (i := 2) nd rfl (Or.inl rfl)) pgs_nil)))
      (pss_cons (ps_set (i := 4) nd rfl (Or.inl rfl) (pe_callB (call_max2 rfl) (by rfl) (f_max T) (by decide +kernel) (pa_cons pe_int (pa_cons (pe_op op_sub (pv 2) (pe_callB call_len_seq (by rfl) (f_len T) PySem.boot_len (pa_cons (pe_lock (pe_lc (own := [("place", 3)]) (g := gName 3) (tt := tTest (tOp rEq (tDGet (tFld g.K (tVar 0) "own_hand") (tVar 3)) (tVar 1))) rfl nd (pi_keys (pe_fld (f := "own_hand") (pv 0) rfl)) (blkOk_by (N := N_Hand_fill) (sc := defScope s_Hand_fill) (by decide +kernel))
          (fun _ _ _ _ _ => pg_name (i := 3) nd rfl (Or.inl rfl)) (fun _ _ _ _ _ => pts_one (pt_cmpR op_eq (pe_dget (room1 hr) (pe_fld (f := "own_hand") (pv 0) rfl) (pv 3) (fun _ _ => rfl)) (pv 1) (nomark _))) (fun _ _ _ _ _ => pv 3))) pa_nil))) pa_nil))))
      (pss_cons (ps_for (g := gName 3) noxe rfl (pi_list (pe_slice sl_list (pe_ix ix_list (pe_fld (f := "unsent") (pv 0) rfl) (pv 1) (fun _ _ => rfl)) po_none (po_some (pv 4)))) (pg_name (i := 3) nd rfl (Or.inl rfl))
        (pss_one (ps_dput (room1 hr) (pe_fld (f := "own_hand") (pv 0) rfl) (pv 3) (pv 1) rfl)))
      (pss_one (ps_asg (pe_slice sl_list (pe_ix ix_list (pe_fld (f := "unsent") (pv 0) rfl) (pv 1) (fun _ _ => rfl)) (po_some (pv 4)) po_none) (L2.pg_sub (pe_fld (f := "unsent") (pv 0) rfl) (pv 1) set_list)))))), ?_⟩
    obtain ⟨dx, c, hins, hc⟩ := O.ins
    obtain ⟨na1, na2, na3, na4, na5⟩ := O.na
    have cl := cl_Hand T
    have alen : ((asI d.as).map V.int).length = d.P := by rw [List.length_map, List.length_map]; exact ok.al
    refine ⟨_, rfl, a, _, dx, _, _, rfl, hins, cl, n_Hand_own_asks T, rfl, c, _, rfl, SqT.of hc, ?_⟩
    refine for_it (walk_enumT (K := g.K) (xs := (asI d.as).map V.int)) (fun i σ H2 => ∃ hd2 U2, Up g.K [un, hh] H H2 ∧ HdO g.K H2 a un hh tp d Td hd2 U2 ∧ FI d.geo Td i hd2 U2 ∧ ∃ u v w z, σ = [some (.ref a), u, v, w, z])
      ⟨hd, U, Up.refl, O, hi.fi, _, _, _, _, rfl⟩ (fun i σ H2 _ p => let ⟨_, _, e, _⟩ := p; SqT.of (e.tup _ _ hc)) ?_ ?_
    · rintro i y σ H2 H3 hip ⟨hd2, U2, e2, O2, f2, u0, v0, w0, z0, rfl⟩ hy
      have e3 := yp_up (K := g.K) (ms := []) hy
      have O3 := O2.up e3
      have e03 := e2.trans e3.wide
      clear O2
      rw [alen] at hip
      have hlt : i < d.as.length := by rw [ok.al]; exact hip
      have hask : d.geo.ask i = d.as[i]'hlt := by
        show (d.as[i]?).getD 0 = _
        rw [List.getElem?_eq_getElem hlt]
        rfl
      refine gt2 hy fun u2 v2 q1 q2 => ?_
      obtain rfl := Option.some.inj q1
      rw [List.getElem?_map, List.getElem?_map, List.getElem?_eq_getElem hlt, ← hask] at q2
      obtain rfl := Option.some.inj q2
      obtain ⟨dx3, c3, hins3, hc3⟩ := O3.ins
      have nd2 := f2.nd
      -- how many are lacking
      refine ⟨_, rfl, hh, _, O3.hnd, trivial, fun od => ?_⟩
      have eL : Up g.K [hh] H3 (upd H3 hh (.frz od (.dT (kvH hd2)))) := Up.set O3.hnd trivial (by simp)
      have kL : upd H3 hh (.frz od (.dT (kvH hd2))) hh = some (.frz od (.dT (kvH hd2))) := upd_same
      have insL := eL.ins hins3 (by simpa using na1)
      have O3h := O3.hnd
      have O3L : HdO g.K H3 a un hh tp d Td hd2 U2 := O3
      generalize (upd H3 hh (.frz od (.dT (kvH hd2)))) = HL at eL kL insL ⊢
      refine ⟨_, rfl, a, _, dx3, _, _, rfl, insL, cl, n_Hand_own_hand T, rfl, hh, od, rfl, .inr ⟨_, kL, fun D hD => ?_⟩⟩
      have hdlen : hd2.length ≤ 63 := by
        have h1 : (hd2.map (·.1)).length ≤ d.geo.all.length := nodup_le nd2 fun y hy => by
          obtain ⟨⟨y, p⟩, hm, rfl⟩ := List.mem_map.mp hy
          exact mem_all.mpr ⟨p, f2.parts _ hm, (mem_opn.mp (f2.toHI.key hm)).1⟩
        rw [List.length_map] at h1
        exact Nat.le_trans h1 ok.len
      have klen : (kvH hd2).length = hd2.length := List.length_map _
      refine lc_walk (K := g.K) (walk_keysT (kvs := kvH hd2)) [] (fun j => (hd2[j]?.map fun z => decide (z.2 = i)).getD false) (fun j y H => ∃ z, hd2[j]? = some z ∧ PlV H y z.1) hD (fun H' e => e.keep _ _ (by simp) kL (fun ps z => by cases z)) (fun j H x H' y => by rw [y.1]; exact Up.refl) (by omega) (fun j y H H' e h => let ⟨w, h1, h2⟩ := h; ⟨w, h1, e.ts.pl h2⟩)
        (fun j v H4 H5 hj e4 hD4 hy4 QQ qq => ?_) (by simp) fun zs H4 e4 eD lr => ?_
      · obtain ⟨rfl, k, v, b, hk, rfl, hb⟩ := hy4
        rw [List.getElem?_map] at hk
        obtain ⟨z, hz, ez⟩ := Option.map_eq_some_iff.mp hk
        obtain rfl : keyP z.1 = k := congrArg Prod.fst ez
        refine qq _ _ Up.refl (by rw [wipe_set (by simp), wipe_two]) (fun Q3 k3 => ?_) fun _ H6 e6 Q6 k6 => ?_
        · refine ⟨_, rfl, a, _, dx3, _, _, rfl, e4.ins insL, cl, n_Hand_own_hand T, rfl, _, rfl, hh, .int z.2, rfl, .inr ⟨_, _, b, .inr ⟨od, e4.keep _ _ (by simp) kL (fun ps z => by cases z)⟩, rfl, hb, (val_at nd2 (List.mem_of_getElem? hz)).symm⟩, _, rfl, rfl, _, rfl, ?_⟩
          rw [deq_int]
          have := k3 H5 Up.refl
          rw [hz] at this
          have e1 : decide ((z.2 : Int) = (i : Int)) = decide (z.2 = i) := decide_eq_decide.mpr (by omega)
          rw [e1]
          exact this
        · exact ⟨_, rfl, k6 _ _ Up.refl ⟨z, hz, b, rfl, e6.tup _ _ hb⟩⟩
      · have kF := e4.keep _ _ (by simp) kL (fun ps z => by cases z)
        refine ⟨kF, ?_⟩
        have eU : Up g.K [hh] H4 (upd H4 hh (.dT (kvH hd2))) := Up.set kF trivial (by simp)
        have kU : upd H4 hh (.dT (kvH hd2)) hh = some (.dT (kvH hd2)) := upd_same
        have nDh : D ≠ hh := fun e => by rw [e, kL] at hD; cases hD
        have eDU := eU.lst eD (by simpa using nDh)
        have eHU : Up g.K [hh] H3 (upd H4 hh (.dT (kvH hd2))) := (eL.trans e4.wide).trans eU
        generalize (upd H4 hh (.dT (kvH hd2))) = H5 at eU kU eDU eHU ⊢
        have O5 := O3L.upH eHU kU
        have e05 : Up g.K [un, hh] H H5 := e03.trans (eHU.mono (by simp))
        have mine := lr_filter (φ := fun z : Place × Nat => decide (z.2 = i)) (F := fun y z H => PlV H y z.1) klen (fun j z h => by rw [h]; rfl) lr
        have nz : zs.length = (ofPart hd2 i).length := by
          rw [Paired.length mine]
          unfold ofPart
          rw [List.length_map]
        refine ⟨D, _, rfl, .inl (SqL.of eDU), _, _, rfl, rfl, _, _, rfl, ?_⟩
        rw [nz]
        have eM : (if ((d.geo.ask i : Nat) : Int) - ((ofPart hd2 i).length : Int) > 0 then ((d.geo.ask i : Nat) : Int) - ((ofPart hd2 i).length : Int) else 0) = ((d.geo.ask i - (ofPart hd2 i).length : Nat) : Int) := by
          split <;> omega
        rw [eM]
        have st := f2.step ok.geo hip
        generalize hlk : d.geo.ask i - (ofPart hd2 i).length = lk at st ⊢
        clear eM
        show tSeq _ _ _ _ _
        refine go (σ' := [some (.ref a), some (.int i), some (.int (d.geo.ask i)), w0, some (.int lk)]) ?_
        obtain ⟨dx5, c5, hins5, hc5⟩ := O5.ins
        obtain ⟨us, hus, husl, hul⟩ := O5.uns.ex
        obtain ⟨l, xs, hl1, hl2, hl3, hl4, hl5⟩ := hul i hip
        refine ⟨_, rfl, a, _, dx5, _, _, rfl, hins5, cl, n_Hand_unsent T, rfl, _, rfl, un, us, i, _, rfl, rfl, SqL.of hus, atI_nat hl1, _, rfl, _, rfl, l, xs, rfl, SqL.of hl4, fun z hz => ?_⟩
        have e6 : Up g.K [] H5 (upd H5 z (.lst (cutV xs none (some (lk : Int))))) := Up.new hz
        have z6 : upd H5 z (.lst (cutV xs none (some (lk : Int)))) z = some (.lst (xs.take lk)) := by rw [upd_same, cut_to]
        have p6 : Pls (upd H5 z (.lst (cutV xs none (some (lk : Int))))) (xs.take lk) ((U2 i).take lk) := Pls.take lk (e6.ts.pls hl5)
        have nzh : z ≠ hh := fun e => by rw [e, O5.hnd] at hz; cases hz
        generalize (upd H5 z (.lst (cutV xs none (some (lk : Int))))) = H6 at e6 z6 p6 ⊢
        have O6 := O5.up e6
        have e06 := e05.trans e6.wide
        refine ⟨z, rfl, ⟨_, SqL.of z6⟩, for_it (walk_list (K := g.K) (xs := xs.take lk)) (fun j σ H7 => Up g.K [hh] H6 H7 ∧ H7 hh = some (.dT (kvH (hd2 ++ ((U2 i).take j).map fun y => (y, i)))) ∧ ∃ w, σ = [some (.ref a), some (.int i), some (.int (d.geo.ask i)), w, some (.int lk)])
          ⟨Up.refl, by rw [List.take_zero, List.map_nil, List.append_nil]; exact O6.hnd, _, rfl⟩ (fun j σ H7 _ p => SqL.of (p.1.lst z6 (by simpa using nzh))) ?_ ?_⟩
        · rintro j v σ H7 H8 hj ⟨e7, k7, w, rfl⟩ ⟨rfl, hv⟩
          obtain ⟨y, hy, b, rfl, hb⟩ := pair_fwd p6 hv
          rw [List.getElem?_take] at hy
          split at hy
          case isFalse => cases hy
          case isTrue hjl =>
          have O7 := O6.upH e7 k7
          obtain ⟨dx7, c7, hins7, hc7⟩ := O7.ins
          have hj2 : (U2 i).take (j + 1) = (U2 i).take j ++ [y] := by rw [List.take_succ, hy]; rfl
          have hnew : y ∉ (hd2 ++ ((U2 i).take j).map fun y => (y, i)).map (·.1) := by
            have sub : ((hd2 ++ ((U2 i).take (j + 1)).map fun y => (y, i)).map (·.1)).Nodup := by
              refine st.nd.sublist ((List.Sublist.append_left (List.Sublist.map _ ?_) _).map _)
              have e : (U2 i).take (j + 1) = ((U2 i).take lk).take (j + 1) := by rw [List.take_take, Nat.min_eq_left (by omega)]
              rw [e]
              exact List.take_sublist _ _
            have hj3 : (hd2 ++ ((U2 i).take (j + 1)).map fun y => (y, i)).map (·.1) = (hd2 ++ ((U2 i).take j).map fun y => (y, i)).map (·.1) ++ [y] := by rw [hj2]; simp
            rw [hj3, List.nodup_append] at sub
            exact fun hm => sub.2.2 y hm y (by simp) rfl
          refine ⟨_, rfl, _, rfl, a, _, dx7, _, _, rfl, hins7, cl, n_Hand_own_hand T, rfl, _, rfl, hh, _, rfl, DPut.t (k := keyP y) k7 (e7.tup _ _ hb) ?_, ?_⟩
          · have l1 : ((U2 i).take j).length ≤ j := by rw [List.length_take]; omega
            have l2 := (ok.ask _ (List.getElem_mem hlt)).2
            have l3 : (kvH (hd2 ++ ((U2 i).take j).map fun y => (y, i))).length ≤ 100 := by
              unfold kvH
              rw [List.length_map, List.length_append, List.length_map]
              omega
            exact Nat.lt_of_le_of_lt l3 (by decide)
          · refine ⟨e7.trans (Up.set k7 trivial (by simp)), ?_, _, rfl⟩
            rw [upd_same, put_new hnew, List.append_assoc, hj2, List.map_append]
            rfl
        · rintro σ H7 ⟨e7, k7, w, rfl⟩
          have et : (U2 i).take (xs.take lk).length = (U2 i).take lk := by
            rw [Paired.length p6, List.length_take]
            exact (List.take_eq_take_min ..).symm
          rw [et] at k7
          have O7 := O6.upH e7 k7
          have e07 : Up g.K [un, hh] H H7 := e06.trans (e7.mono (by simp))
          obtain ⟨dx7, c7, hins7, hc7⟩ := O7.ins
          obtain ⟨us7, hus7, husl7, hul7⟩ := O7.uns.ex
          obtain ⟨l7, xs7, hm1, hm2, hm3, hm4, hm5⟩ := hul7 i hip
          refine ⟨_, rfl, a, _, dx7, _, _, rfl, hins7, cl, n_Hand_unsent T, rfl, _, rfl, un, us7, i, _, rfl, rfl, SqL.of hus7, atI_nat hm1, _, rfl, _, rfl, l7, xs7, rfl, SqL.of hm4, fun z2 hz2 => ?_⟩
          have e8 : Up g.K [] H7 (upd H7 z2 (.lst (cutV xs7 (some (lk : Int)) none))) := Up.new hz2
          have z8 : upd H7 z2 (.lst (cutV xs7 (some (lk : Int)) none)) z2 = some (.lst (xs7.drop lk)) := by rw [upd_same, cut_from]
          have p8 : Pls (upd H7 z2 (.lst (cutV xs7 (some (lk : Int)) none))) (xs7.drop lk) ((U2 i).drop lk) := Pls.drop lk (e8.ts.pls hm5)
          have n1 : z2 ≠ un := fun e => by rw [e, hus7] at hz2; cases hz2
          have n2 : z2 ≠ tp := fun e => by
            obtain ⟨xs, h, _⟩ := O7.tld
            rw [e, h] at hz2
            cases hz2
          generalize (upd H7 z2 (.lst (cutV xs7 (some (lk : Int)) none))) = H8 at e8 z8 p8 ⊢
          have O8 := O7.up e8
          have hus8 := e8.lst hus7
          refine ⟨_, rfl, a, _, dx7, _, _, rfl, e8.ins hins7, cl, n_Hand_unsent T, rfl, _, rfl, un, us7, i, i, rfl, rfl, hus8, Evl.ixN_nat (by omega), ?_⟩
          have e9 : Up g.K [un] H8 (upd H8 un (.lst (us7.set i (.ref z2)))) := Up.set hus8 trivial (by simp)
          exact ⟨_, _, (e07.trans e8.wide).trans (e9.mono (by simp)), O8.upU e9 hus8 upd_same hip z8 p8 n1 n2, st, _, _, _, _, rfl⟩
    · rintro σ H2 ⟨hd2, U2, e2, O2, f2, u, v, w, z, rfl⟩
      rw [alen] at f2
      exact q _ _ _ e2 O2 f2
end K48

namespace K48
open PySem PySem.Spec PyProof.Rows L2 ClX
variable {g : GX}
theorem drop_kv {hd : List (Place × Nat)} {ps : List Place} {y : Place} : dropK (kvH (hd.filter fun x => decide (x.1 ∉ ps))) (keyP y) = kvH (hd.filter fun x => decide (x.1 ∉ ps ++ [y])) := by
  unfold dropK kvH
  rw [List.filter_map, List.filter_filter]
  congr 1
  apply List.filter_congr
  intro x _
  rw [Bool.eq_iff_iff]
  simp only [Function.comp, Bool.and_eq_true, decide_eq_true_eq, List.mem_append, List.mem_singleton, not_or]
  constructor
  · rintro ⟨h1, h2⟩
    exact ⟨h2, fun e => h1 (by rw [e])⟩
  · rintro ⟨h1, h2⟩
    exact ⟨fun e => h2 (keyP_inj e), h1⟩
def spHPage (K : PySem.W.Frag) : Sp := fun vs H Q _ => ∃ (a un hh tp : Addr) (d : Dat) (T : List Place) (hd : List (Place × Nat)) (U : Nat → List Place), vs = [.ref a] ∧ HdO K H a un hh tp d T hd U ∧ d.Ok ∧ HI d.geo T hd U ∧ Told d.geo T ∧ LamX.Tabs (tabT K) H ∧
  ∀ v H' hd' U', Up K [un, hh, tp] H H' → HdO K H' a un hh tp d (T ++ d.geo.pg T) hd' U' → HI d.geo (T ++ d.geo.pg T) hd' U' → NewP (d.geo.pg T) H v H' → Q v H'
theorem c_Hand_page (T : Tx g) : CalM g 2 "Hand" "page" (spHPage g.K) := by
  obtain ⟨fd, F⟩ := T.fun_ in_Hand_page
  refine ⟨_, fd, p_Hand_page, def_ok F sc_Hand_page (fun vs H Q E h => ?_) (fun cdv A outer s H vs Q E hr h => ?_), cl_Hand T, m_Hand_page T, F.bindsN fun _ _ _ _ _ _ us hl => match us, hl with | [_], _ => rfl⟩
  · obtain ⟨_, _, _, _, _, _, _, _, rfl, _⟩ := h
    rfl
  · obtain ⟨a, un, hh, tp, d, Td, hd, U, rfl, O, ok, hi, told, tabs, q⟩ := h
    have nd := sc_Hand_page.nd
    refine ⟨_, pss_cons (ps_expr (pe_m0 (c_Hand_fill T) hr (pv 0)))
      (pss_cons (ps_set (i := 1) nd rfl (Or.inl rfl) (pe_slice sl_list (pe_c (c_middle_sorted T) hr (pa_cons (pe_fld (f := "own_order") (pv 0) rfl) (pa_cons (pe_fld (f := "own_hand") (pv 0) rfl) pa_nil))) po_none (po_some (pe_fld (f := "own_size") (pv 0) rfl))))
      (pss_cons (ps_for (g := gName 2) noxe rfl (pi_list (pv 1)) (pg_name (i := 2) nd rfl (Or.inl rfl)) (pss_one (ps_delT (room1 hr) (pe_fld (f := "own_hand") (pv 0) rfl) (pv 2))))
      (pss_cons (ps_expr (pe_bm PySem.F.plainAttrs_list PySem.F.slot_list_extend PySem.F.type_list_extend mt_extend (pe_fld (f := "told_places") (pv 0) rfl) (pa_cons (pv 1) pa_nil)))
      (pss_one (ps_ret (pv 1)))))), ?_⟩
    obtain ⟨dx, c, hins, hc⟩ := O.ins
    obtain ⟨na1, na2, na3, na4, na5⟩ := O.na
    have cl := cl_Hand T
    have lenA := ok.len
    have lenT := told.len
    refine ⟨_, rfl, a, dx, _, rfl, hins, rfl, a, un, hh, tp, d, Td, hd, U, rfl, O, ok, hi, by omega, fun H1 hd1 U1 e1 O1 f1 => ?_⟩
    obtain ⟨dx1, c1, hins1, hc1⟩ := O1.ins
    refine ⟨_, rfl, a, _, dx1, _, _, rfl, hins1, cl, n_Hand_own_order T, rfl, _, rfl, a, _, dx1, _, _, rfl, hins1, cl, n_Hand_own_hand T, rfl, d.o, hh, hd1, rfl, O1.hnd, f1.nd, e1.tabs tabs, fun v H2 e2 hv => ?_⟩
    obtain ⟨l, ys, rfl, fr, hl, hys⟩ := hv
    have O2 := O1.up e2
    obtain ⟨dx2, c2, hins2, hc2⟩ := O2.ins
    refine ⟨_, rfl, a, _, dx2, _, _, rfl, hins2, cl, n_Hand_own_size T, rfl, _, rfl, l, ys, rfl, SqL.of hl, fun z hz => ?_⟩
    have e3 : Up g.K [] H2 (upd H2 z (.lst (cutV ys none (some (d.size : Int))))) := Up.new hz
    have z3 : upd H2 z (.lst (cutV ys none (some (d.size : Int)))) z = some (.lst (ys.take d.size)) := by rw [upd_same, cut_to]
    have hpage : (sm d.o hd1).take d.size = d.geo.pg Td := f1.page ok.geo
    have p3 : Pls (upd H2 z (.lst (cutV ys none (some (d.size : Int))))) (ys.take d.size) (d.geo.pg Td) := by
      rw [← hpage]
      exact Pls.take d.size (e3.ts.pls hys)
    have fz : Fr H z := (e1.trans e2.wide).fresh hz
    have e03 : Up g.K [un, hh] H (upd H2 z (.lst (cutV ys none (some (d.size : Int))))) := e1.trans (e2.trans e3).wide
    have nzh : z ≠ hh := fun e => by rw [e, O2.hnd] at hz; cases hz
    have nzt : z ≠ tp := fun e => by
      obtain ⟨xs, h, _⟩ := O2.tld
      rw [e, h] at hz
      cases hz
    have O3 := O2.up e3
    generalize (upd H2 z (.lst (cutV ys none (some (d.size : Int))))) = H3 at e3 z3 p3 e03 O3 ⊢
    refine ⟨_, rfl, z, rfl, ⟨_, SqL.of z3⟩, for_it (walk_list (K := g.K) (xs := ys.take d.size)) (fun j σ H4 => Up g.K [hh] H3 H4 ∧ H4 hh = some (.dT (kvH (hd1.filter fun x => decide (x.1 ∉ (d.geo.pg Td).take j)))) ∧ ∃ w, σ = [some (.ref a), some (.ref z), w])
      ⟨Up.refl, ?_, _, rfl⟩ (fun j σ H4 _ p => SqL.of (p.1.lst z3 (by simpa using nzh))) ?_ ?_⟩
    · rw [List.take_zero, List.filter_eq_self.mpr (by intro x _; simp)]
      exact O3.hnd
    · rintro j v σ H4 H5 hj ⟨e4, k4, w, rfl⟩ ⟨rfl, hv⟩
      obtain ⟨y, hy, b, rfl, hb⟩ := pair_fwd p3 hv
      have hj2 : (d.geo.pg Td).take (j + 1) = (d.geo.pg Td).take j ++ [y] := by rw [List.take_succ, hy]; rfl
      have O4 := O3.upH e4 k4
      obtain ⟨dx4, c4, hins4, hc4⟩ := O4.ins
      have hin : y ∈ hd1.map (·.1) := by
        have h1 := List.mem_of_getElem? hy
        rw [← hpage] at h1
        exact sm_mem.mp (List.mem_of_mem_take h1)
      obtain ⟨x, hx, ex⟩ := List.mem_map.mp hin
      have hnot : y ∉ (d.geo.pg Td).take j := by
        have nd2 : ((d.geo.pg Td).take (j + 1)).Nodup := (pg_nd ok.geo).sublist (List.take_sublist _ _)
        rw [hj2, List.nodup_append] at nd2
        exact fun hm => nd2.2.2 y hm y (by simp) rfl
      have hval := val_at (x := x) (f1.nd.sublist ((List.filter_sublist (p := fun x : Place × Nat => decide (x.1 ∉ (d.geo.pg Td).take j))).map (fun x : Place × Nat => x.1))) (List.mem_filter.mpr ⟨hx, decide_eq_true (by rw [ex]; exact hnot)⟩)
      rw [ex] at hval
      refine ⟨_, rfl, a, _, dx4, _, _, rfl, hins4, cl, n_Hand_own_hand T, rfl, _, rfl, hh, b, _, keyP y, rfl, rfl, k4, e4.tup _ _ hb, by rw [hval]; rfl, e4.trans (Up.set k4 trivial (by simp)), ?_, _, rfl⟩
      rw [upd_same, drop_kv, hj2]
    · rintro σ H4 ⟨e4, k4, w, rfl⟩
      rw [List.take_of_length_le (by rw [Paired.length p3]; exact Nat.le_refl _)] at k4
      have O4 := O3.upH e4 k4
      obtain ⟨dx4, c4, hins4, hc4⟩ := O4.ins
      obtain ⟨ts, ht, htl⟩ := O4.tld
      have z4 := e4.lst z3 (by simpa using nzh)
      have p4 := e4.ts.pls p3
      have plen := Paired.length p4
      have pgl : (d.geo.pg Td).length ≤ 9 := Nat.le_trans pg_len ok.s9
      refine ⟨_, rfl, a, _, dx4, _, _, rfl, hins4, cl, n_Hand_told_places T, rfl, .inl ⟨rfl, ts, SqL.of ht⟩, _, rfl, tp, z, ts, _, rfl, rfl, ht, z4, Nat.le_trans (show _ ≤ 100 by omega) (by decide), ?_⟩
      have e5 : Up g.K [tp] H4 (upd H4 tp (.lst (ts ++ ys.take d.size))) := Up.set ht trivial (by simp)
      have k5 : upd H4 tp (.lst (ts ++ ys.take d.size)) tp = some (.lst (ts ++ ys.take d.size)) := upd_same
      generalize (upd H4 tp (.lst (ts ++ ys.take d.size))) = H5 at e5 k5 ⊢
      refine ⟨_, rfl, q _ H5 _ _ ((e03.mono (by simp)).trans ((e4.mono (by simp)).trans (e5.mono (by simp)))) ?_ (f1.told ok.geo) ⟨z, _, rfl, fz, e5.lst z4 (by simpa using nzt), e5.ts.pls p4⟩⟩
      obtain ⟨m1, m2, m3, m4, m5⟩ := O4.na
      refine ⟨⟨dx4, c4, e5.ins hins4 (by simpa using m3), e5.tup _ _ hc4⟩, O4.uns.up (K := g.K) e5 (fun b xs hb hm => List.mem_singleton.mp hm) O4.ne, e5.dT k4 (by simpa using Ne.symm m5), ⟨_, k5, ?_⟩, O4.ne⟩
      rw [List.length_append, List.length_append]
      omega
end K48

namespace K48
open PySem PySem.Spec PyProof.Rows L2 ClX GenW
variable {g : GX}
/-- a page apart from the hand's own lists -/
def PgX (un hh tp : Addr) (H : Hp) (v : V) (ps : List Place) : Prop := ∃ a xs, v = .ref a ∧ a ≠ un ∧ a ≠ hh ∧ a ≠ tp ∧ H a = some (.lst xs) ∧ Pls H xs ps
theorem PgX.up {K : PySem.W.Frag} {un hh tp : Addr} {H H' : Hp} {v : V} {ps : List Place} (h : PgX un hh tp H v ps) (e : Up K [un, hh, tp] H H') : PgX un hh tp H' v ps := by
  obtain ⟨a, xs, h1, h2, h3, h4, h5, h6⟩ := h
  exact ⟨a, xs, h1, h2, h3, h4, e.lst h5 (by simp [h2, h3, h4]), e.ts.pls h6⟩
theorem NewP.pgx {H0 H' : Hp} {K : PySem.W.Frag} {a un hh tp : Addr} {d : Dat} {T ps : List Place} {hd : List (Place × Nat)} {U : Nat → List Place} {v : V} (h : NewP ps H0 v H') (O : HdO K H0 a un hh tp d T hd U) : PgX un hh tp H' v ps := by
  obtain ⟨q, ys, rfl, fr, hl, hp⟩ := h
  obtain ⟨us, h1, _⟩ := O.uns.ex
  obtain ⟨ts, h2, _⟩ := O.tld
  exact ⟨q, ys, rfl, (Fr.ne h1 fr fun ps z => by cases z).symm, (Fr.ne O.hnd fr fun ps z => by cases z).symm, (Fr.ne h2 fr fun ps z => by cases z).symm, hl, hp⟩
def spWalk (K : PySem.W.Frag) (a : Addr) (H : Hp) (Q : List V → Hp → Prop) : Prop := ∃ (un hh tp : Addr) (d : Dat) (U : Nat → List Place), HdO K H a un hh tp d [] [] U ∧ d.Ok ∧ HI d.geo [] [] U ∧ LamX.Tabs (tabT K) H ∧
  ∀ ys H', Up K [un, hh, tp] H H' → Paired (PgL H') ys (d.geo.pages []) → Q ys H'
theorem eqv_neg (ps : List Place) : (!PyData.eqv (.list (ps.map plD)) (.list [])) = decide (ps ≠ []) := by
  rw [eqv_nil, ← decide_not]
theorem gs_walk : GScope N_Hand_walk ["self"] (defScope s_Hand_walk) := ⟨rfl, rfl, rfl, by decide +kernel, rfl, by decide +kernel, by decide +kernel⟩
theorem gen_walk (T : Tx g) : ∃ fd, GenF g 2 (He.ma g.K (He.ga g.K "Hand") "walk") fd (spWalk g.K) := by
  obtain ⟨fd, F⟩ := T.fun_ in_Hand_walk
  have hb : Binds g.K fd ["self"] [] := F.bindsN fun _ _ _ _ _ _ us hl => match us, hl with | [_], _ => rfl
  obtain ⟨oc, od, dV, kV, doc, pm, an, cdv, ct, osl, rfl, lk, hcd, _, _⟩ := F.ex
  refine ⟨_, ⟨N_Hand_walk, _, _, _, _, dV, kV, doc, pm, cdv, ct, oc, an, od, osl, _, _, _, _, _, _, _, rfl, lk, hcd, gs_walk, by decide +kernel, hb, fun A outer s H a Q hr h => ?_⟩⟩
  obtain ⟨un, hh, tp, d, U, O, ok, hi, tabs, q⟩ := h
  have nd := gs_walk.nd
  refine ⟨_, _, _, _, ps_set (i := 1) nd rfl (Or.inl rfl) (pe_m0 (c_Hand_page T) hr (pv 0)), pt_cmpR (op_neD hr.units) (pv 1) (pe_lst pa_nil) (nomark _), pv 1, ps_set (i := 1) nd rfl (Or.inl rfl) (pe_m0 (c_Hand_page T) hr (pv 0)), ?_⟩
  have lenA := ok.len
  refine ⟨fun m ys σ H1 => ∃ (Td : List Place) (hd : List (Place × Nat)) (U : Nat → List Place) (v : V) (done : List (List Place)), σ = [some (.ref a), some v] ∧ Up g.K [un, hh, tp] H H1 ∧ HdO g.K H1 a un hh tp d (Td ++ d.geo.pg Td) hd U ∧ HI d.geo (Td ++ d.geo.pg Td) hd U ∧ Told d.geo Td ∧ PgX un hh tp H1 v (d.geo.pg Td) ∧
    Paired (PgX un hh tp H1) ys done ∧ done ++ d.geo.pages Td = d.geo.pages [] ∧ m + Td.length = 64 ∧ ys.length ≤ Td.length, ?_, ?_⟩
  · obtain ⟨dx, c, hins, hc⟩ := O.ins
    refine ⟨_, rfl, a, dx, _, rfl, hins, rfl, a, un, hh, tp, d, [], [], U, rfl, O, ok, hi, Told.nil, tabs, fun v H1 hd1 U1 e1 O1 f1 hv => ?_⟩
    exact ⟨64, [], hd1, U1, v, [], rfl, e1, O1, f1, Told.nil, hv.pgx O, .nil, rfl, rfl, Nat.le_refl _⟩
  · rintro m ys σ H1 ⟨Td, hd, U1, v, done, rfl, e1, O1, f1, told, hv, hys, hdone, hm, hle⟩
    have lenT := told.len
    obtain ⟨p, xs, rfl, n1, n2, n3, hp, hx⟩ := hv
    refine ⟨_, rfl, Nat.zero_le _, fun q0 hq0 => ?_⟩
    have e2 : Up g.K [] H1 (upd H1 q0 (.lst [])) := Up.new hq0
    have k2 : upd H1 q0 (.lst []) q0 = some (.lst []) := upd_same
    generalize (upd H1 q0 (.lst [])) = H2 at e2 k2 ⊢
    refine ⟨.list ((d.geo.pg Td).map plD), .list [], .lst (SqL.of (e2.lst hp)) (dp_pls (e2.ts.pls hx)), .lst (SqL.of k2) .nil, (sh_pls _).ok (by decide), (Sh.list (n := 0) fun d hd => by cases hd).ok (by decide), _, rfl, ?_⟩
    rw [eqv_neg]
    have hv2 : PgX un hh tp H2 (.ref p) (d.geo.pg Td) := ⟨p, xs, rfl, n1, n2, n3, e2.lst hp, e2.ts.pls hx⟩
    have hys2 := L2.Paired.mapP hys fun _ _ h => PgX.up h (e2.wide (ms := [un, hh, tp]))
    have O2 := O1.up e2
    have e02 := e1.trans e2.wide
    by_cases hpg : d.geo.pg Td = []
    · rw [decide_eq_false (not_not_intro hpg)]
      refine iteF ⟨Nat.le_trans (show _ ≤ 100 by omega) (by decide), q _ _ e02 ?_⟩
      rw [pages_nil hpg, List.append_nil] at hdone
      rw [← hdone]
      exact L2.Paired.mapP hys2 fun _ _ h => let ⟨b, zs, r1, _, _, _, r2, r3⟩ := h; ⟨b, zs, r1, r2, r3⟩
    · rw [decide_eq_true hpg]
      obtain ⟨dx2, c2, hins2, hc2⟩ := O2.ins
      have pos := List.length_pos_iff.mpr hpg
      refine iteT ⟨Nat.lt_of_le_of_lt (show _ ≤ 100 by omega) (by decide), _, rfl, _, rfl, a, dx2, _, rfl, hins2, rfl, a, un, hh, tp, d, _, hd, U1, rfl, O2, ok, f1, told.more ok.geo, e02.tabs tabs, fun v3 H3 hd3 U3 e3 O3 f3 hv3 => ?_⟩
      have len3 := (told.more ok.geo).len
      rw [List.length_append] at len3
      refine ⟨64 - (Td ++ d.geo.pg Td).length, by rw [List.length_append]; omega, _, hd3, U3, v3, done ++ [d.geo.pg Td], rfl, e02.trans e3, O3, f3, told.more ok.geo, hv3.pgx O2, pair_app (L2.Paired.mapP hys2 fun _ _ h => PgX.up h e3) (hv2.up e3), ?_, ?_, ?_⟩
      · rw [List.append_assoc, ← hdone, pages_cons ok.geo told hpg]
        rfl
      · rw [List.length_append]; omega
      · rw [List.length_append, List.length_append]
        show ys.length + 1 ≤ _
        omega
end K48

namespace K48
open PySem PySem.Spec PyProof.Rows L2 ClX
variable {g : GX}
def spPlain (K : PySem.W.Frag) : Sp := fun vs H Q _ => ∃ (t r : Addr) (P : Nat) (rs : List Row), vs = [.ref t] ∧ TabO K H t r P rs ∧ rs.length ≤ 63 ∧ Ret K [] H (fun v _ => v = .non) Q
theorem c_need_plain (T : Tx g) : Cal g 2 "need_plain" (spPlain g.K) := by
  obtain ⟨fd, F⟩ := T.fun_ in_need_plain
  refine ⟨_, fd, p_need_plain, def_ok F sc_need_plain (fun vs H Q E h => ?_) (fun cdv A outer s H vs Q E hr h => ?_), g_need_plain T, F.kp, F.bindsN fun _ _ _ _ _ _ us hl => match us, hl with | [_], _ => rfl⟩
  · obtain ⟨_, _, _, _, rfl, _⟩ := h
    rfl
  · obtain ⟨t, r, P, rs, rfl, tab, few, q⟩ := h
    have nd := sc_need_plain.nd
    refine ⟨_, pss_one (ps_for (g := gTup g.K 2 (gCons (gName 1) (gCons (gTup g.K 3 (gCons (gName 2) (gCons (gName 3) (gCons (gName 4) gNil)))) gNil))) noxe rfl (pi_enum (by rfl) (f_enumerate T) (pa_cons (pe_m0 (c_Table_rows T) hr (pv 0)) pa_nil))
      (pg_tup rfl (pgs_cons (pg_name (i := 1) nd rfl (Or.inl rfl)) (pgs_cons (pg_tup rfl (pgs_cons (pg_name (i := 2) nd rfl (Or.inl rfl)) (pgs_cons (pg_name (i := 3) nd rfl (Or.inl rfl)) (pgs_cons (pg_name (i := 4) nd rfl (Or.inl rfl)) pgs_nil)))) pgs_nil)))
      (pss_one (ps_if (pt_cmpR op_gt (pe_callB call_len_seq (by rfl) (f_len T) PySem.boot_len (pa_cons (pv 4) pa_nil)) pe_int (nomark _)) (pss_one ps_never) pss_nil))), ?_⟩
    obtain ⟨tdx, th⟩ := tab.ins
    refine ⟨_, rfl, t, tdx, _, rfl, th, rfl, t, r, P, rs, rfl, tab, fun v H1 e1 hv => ?_⟩
    obtain ⟨l, ys, rfl, fr, hl, hys⟩ := hv
    refine ⟨l, ys, rfl, SqL.of hl, for_it (walk_enum (K := g.K) (xs := ys)) (fun i σ H2 => Up g.K [] H1 H2 ∧ ∃ u v w z, σ = [some (.ref t), u, v, w, z]) ⟨Up.refl, _, _, _, _, rfl⟩ (fun i σ H2 _ p => SqL.of (p.1.lst hl)) ?_ ?_⟩
    · rintro i y σ H2 H3 hi ⟨e2, u, v, w, z, rfl⟩ hy
      have e3 := yp_up (K := g.K) (ms := []) hy
      obtain ⟨Tu, u2, v2, rfl, h1, rfl, h2, h3⟩ := hy
      obtain ⟨rw_, hrw, b1, b2, rfl, hb1, hb2⟩ := rws_get hys h3
      have e12 := e2.trans e3
      refine ⟨Tu, [u2, .ref b1], rfl, SqT.of upd_same, rfl, u2, _, rfl, .ref b1, [], rfl, gt_tup3 (SqT.of (e12.tup _ _ hb1)) ⟨rfl, ?_⟩⟩
      refine ⟨_, rfl, b2, _, rfl, .inr (SqT.of (e12.tup _ _ hb2)), 1, 1, rfl, rfl, _, rfl, ?_⟩
      exact iteF ⟨e12, _, _, _, _, rfl⟩
    · rintro σ H2 ⟨e2, u, v, w, z, rfl⟩
      exact q _ _ (e1.trans e2) rfl
theorem goH {t : TS} {D : Ends} {σ : L2.St} {H H' : Hp} (h : t D σ H') (e : H = H' := by rfl) : t D σ H := by rw [e]; exact h
/-! ### Hand -/
def spSize (K : PySem.W.Frag) : Sp := fun vs H Q _ => ∃ (a dx : Addr) (fs : List (Str × V)) (n : Int), vs = [.ref a, .int n] ∧ H a = some (.ins (He.ga K "Hand") dx fs) ∧ fs.length < 1000 ∧ 1 ≤ n ∧ n ≤ 9 ∧ Q .non (upd H a (.ins (He.ga K "Hand") dx (putF "own_size" (.int n) fs)))
theorem c_Hand_size (T : Tx g) : ∃ p f fd, FnOk g.P g.w g.K g.mg g.base CX0 2 f fd p_Hand_size_set (spSize g.K) ∧ PropSet g.K (He.ga g.K "Hand") "size" p f ∧ Binds g.K fd p_Hand_size_set [] := by
  obtain ⟨⟨fd, F⟩, h1, h2, h3, h4, h5⟩ := T.prop in_Hand_size_set
  refine ⟨_, _, fd, def_ok F sc_Hand_size_set (fun vs H Q E h => ?_) (fun cdv A outer s H vs Q E hr h => ?_), propSet_of h1 h3 h4 h5, F.bindsN fun _ _ _ _ _ _ us hl => match us, hl with | [_, _], _ => rfl⟩
  · obtain ⟨_, _, _, _, rfl, _⟩ := h
    rfl
  · obtain ⟨a, dx, fs, n, rfl, ha, hf, n1, n9, q⟩ := h
    obtain ⟨tk, mp⟩ := i_MOST_SIZE T
    refine ⟨_, pss_cons (ps_if (pt_not (pt_val (pe_c (c_is_number T) hr (pa_cons (pv 1) (pa_cons pe_int (pa_cons (pe_glob (v := .int 9) rfl mp ⟨_, rfl⟩) pa_nil)))))) (pss_one ps_never) pss_nil) (pss_one (ps_fld (f := "own_size") (pv 0) (pv 1) rfl)), ?_⟩
    refine ⟨_, rfl, n, 1, 9, rfl, _, rfl, ?_⟩
    rw [decide_eq_true (show 1 ≤ n ∧ n ≤ 9 from ⟨n1, n9⟩)]
    exact iteF ⟨_, rfl, _, rfl, a, _, dx, fs, rfl, ha, cl_Hand T, n_Hand_own_size T, hf, q⟩
def spHand (K : PySem.W.Frag) : Sp := fun vs H Q _ => ∃ (a t r c dx : Addr) (d : Dat), vs = [.ref a, .ref t, .ref c, .int d.size, .str (upS d.up), .str (midS d.o)] ∧ H a = some (.ins (He.ga K "Hand") dx []) ∧ TabO K H t r d.P d.rs ∧ H c = some (.tup ((asI d.as).map V.int)) ∧ d.Ok ∧ LamX.Tabs (tabT K) H ∧
  ∀ H' un hh tp, Up K [a] H H' → HdO K H' a un hh tp d [] [] d.geo.L → Fr H un → Fr H hh → Fr H tp → Q .non H'
theorem r_Hand (T : Tx g) : ∃ fd, FnOk g.P g.w g.K g.mg g.base CX0 5 (He.ma g.K (He.ga g.K "Hand") "__init__") fd p_Hand___init__ (spHand g.K) ∧ Mk g.K (He.ga g.K "Hand") (He.ma g.K (He.ga g.K "Hand") "__init__") ∧
    FunD g.K d_Hand___init__.name d_Hand___init__.qual d_Hand___init__.params d_Hand___init__.body d_Hand___init__.scope (d_Hand___init__.dvs g.K) (d_Hand___init__.kws g.K) (He.ma g.K (He.ga g.K "Hand") "__init__") fd := by
  obtain ⟨fd, F⟩ := T.fun_ in_Hand___init__
  obtain ⟨sp_, sf, sfd, SF, SP, SB⟩ := c_Hand_size T
  refine ⟨fd, def_ok F sc_Hand___init__ (fun vs H Q E h => ?_) (fun cdv A outer s H vs Q E hr h => ?_), mk_Hand T, F⟩
  · obtain ⟨_, _, _, _, _, _, rfl, _⟩ := h
    rfl
  · obtain ⟨a, t, r, c, dx, d, rfl, ha, tab, hc, ok, tabs, q⟩ := h
    have nd := sc_Hand___init__.nd
    refine ⟨_, pss_cons (ps_expr (pe_c (c_need_plain T) hr (pa_cons (pv 1) pa_nil)))
      (pss_cons (ps_if (PW.pt (pw_or (pt_not (pt_val (pe_isB "tuple" (pv 2) (f_isinstance T) (f_tuple T)))) (pw_or1 (pt_cmpR op_ne (pe_callB call_len_seq (by rfl) (f_len T) PySem.boot_len (pa_cons (pv 2) pa_nil)) (pe_p (c_Table_parts T) hr (pv 1)) (nomark _))))) (pss_one ps_never) pss_nil)
      (pss_cons (ps_for (g := gName 6) noxe rfl (pi_tup (pv 2)) (pg_name (i := 6) nd rfl (Or.inl rfl)) (pss_one (ps_if (pt_not (pt_val (pe_c (c_is_ask T) hr (pa_cons (pv 6) pa_nil)))) (pss_one ps_never) pss_nil)))
      (pss_cons (ps_fld (f := "own_size") (pv 0) pe_int rfl)
      (pss_cons (ps_setprop (f := "size") (pv 0) (pv 3) (cl_Hand T) SP SF (hr.mono (by decide)) SB pass0)
      (pss_cons (ps_expr (pe_c (c_need_inner T) hr (pa_cons (pv 4) pa_nil))) (pss_cons (ps_expr (pe_c (c_need_order T) hr (pa_cons (pv 5) pa_nil)))
      (pss_cons (ps_fld (f := "own_asks") (pv 0) (pv 2) rfl) (pss_cons (ps_fld (f := "own_order") (pv 0) (pv 5) rfl)
      (pss_cons (ps_fld (f := "unsent") (pv 0) (pe_lc (own := [("part", 7)]) (g := gName 7) (tt := tYes) (te := tCall (spInner g.K) [] E0 (tCons (tVar 4) (tCons (tMeth (He.ga g.K "Table") "part" (spPart g.K) [] E0 (tVar 1) (tCons (tVar 7) tNil)) tNil))) rfl nd (pi_range1 (by rfl) (f_range T) (pa_cons (pe_p (c_Table_parts T) hr (pv 1)) pa_nil))
        (blkOk_by (N := N_Hand___init__) (sc := defScope s_Hand___init__) (by decide +kernel)) (fun _ _ _ _ _ => pg_name (i := 7) nd rfl (Or.inl rfl)) (fun _ _ _ _ _ => pts_nil) (fun _ _ _ _ _ => pe_c (c_inner_sorted T) hr (pa_cons (pv 4) (pa_cons (pe_m (c_Table_part T) hr (pv 1) (pa_cons (pv 7) pa_nil)) pa_nil)))) rfl)
      (pss_cons (ps_fld (f := "own_hand") (pv 0) pe_dnewT rfl) (pss_one (ps_fld (f := "told_places") (pv 0) (pe_lst pa_nil) rfl)))))))))))), ?_⟩
    obtain ⟨tdx, th⟩ := tab.ins
    have few3 := ok.rows.few
    have cl := cl_Hand T
    have alen : ((asI d.as).map V.int).length = d.P := by rw [List.length_map, List.length_map]; exact ok.al
    obtain ⟨ry, hr1, _⟩ := tab.row
    have nta : t ∉ [a] ∧ r ∉ [a] := by
      simp only [List.mem_singleton]
      exact ⟨fun e => (by rw [e, ha] at th; injection th with th; injection th with _ _ th; cases th), fun e => (by rw [e, ha] at hr1; cases hr1)⟩
    refine ⟨_, rfl, t, r, d.P, d.rs, rfl, tab, few3, fun v H1 e1 hv => ?_⟩
    have hc1 := e1.tup _ _ hc
    refine ⟨_, rfl, is_tuple_tuple hc1 ⟨_, rfl, iteF ⟨_, rfl, c, _, rfl, .inr (SqT.of hc1), _, rfl, t, tdx, _, rfl, e1.ins th, t, tdx, _, _, rfl, e1.ins th, rfl, rfl, _, rfl, ?_⟩⟩⟩
    rw [deq_int, alen, decide_eq_true rfl]
    refine iteF ⟨_, rfl, c, rfl, ⟨_, SqT.of hc1⟩, for_it (walk_tup (K := g.K) (xs := (asI d.as).map V.int)) (fun i σ H2 => H2 = H1 ∧ ∃ w, σ = [some (.ref a), some (.ref t), some (.ref c), some (.int d.size), some (.str (upS d.up)), some (.str (midS d.o)), w, none]) ⟨rfl, _, rfl⟩ (fun i σ H2 _ p => by rw [p.1]; exact SqT.of hc1) ?_ ?_⟩
    · rintro i x σ H2 H3 hi ⟨rfl, w, rfl⟩ ⟨rfl, hx⟩
      rw [List.getElem?_map, List.getElem?_map] at hx
      obtain ⟨k, hk, rfl⟩ := Option.map_eq_some_iff.mp hx
      obtain ⟨k2, hk2, rfl⟩ := Option.map_eq_some_iff.mp hk
      obtain ⟨m1, m2⟩ := ok.ask _ (List.mem_of_getElem? hk2)
      refine ⟨_, rfl, _, rfl, _, rfl, ?_⟩
      rw [decide_eq_true (show 1 ≤ (k2 : Int) ∧ (k2 : Int) ≤ 9 by omega)]
      exact iteF ⟨rfl, _, rfl⟩
    rintro σ H2 ⟨rfl, w, rfl⟩
    have s0 : Up g.K [a] H H2 ∧ H2 a = some (.ins (He.ga g.K "Hand") dx []) := ⟨e1.wide, e1.ins ha⟩
    refine ⟨_, rfl, a, _, dx, _, rfl, s0.2, cl, n_Hand_own_size T, by decide, ?_⟩
    have s1 := st_set (fs' := [("own_size", .int 1)]) s0
    have s9 := ok.s9
    have s1' := ok.s1
    refine ⟨_, rfl, _, rfl, a, dx, _, rfl, s1.2, a, dx, _, _, rfl, s1.2, by show 1 < 1000; decide, by omega, by omega, ?_⟩
    have s2 := st_set (fs' := [("own_size", .int d.size)]) s1
    refine ⟨_, rfl, _, rfl, by cases d.up <;> decide +kernel, _, rfl, _, rfl, by cases d.o <;> decide +kernel, ?_⟩
    refine ⟨_, rfl, _, rfl, a, _, dx, _, rfl, s2.2, cl, n_Hand_own_asks T, by show 1 < 1000; decide, ?_⟩
    have s3 := st_set (fs' := [("own_size", .int d.size), ("own_asks", .ref c)]) s2
    refine ⟨_, rfl, _, rfl, a, _, dx, _, rfl, s3.2, cl, n_Hand_own_order T, by show 2 < 1000; decide, ?_⟩
    have s4 := st_set (fs' := [("own_size", .int d.size), ("own_asks", .ref c), ("own_order", .str (midS d.o))]) s3
    have s4' : ∃ H3, H3 = upd (upd (upd (upd H2 a (.ins (He.ga g.K "Hand") dx [("own_size", .int 1)])) a (.ins (He.ga g.K "Hand") dx [("own_size", .int d.size)])) a (.ins (He.ga g.K "Hand") dx [("own_size", .int d.size), ("own_asks", .ref c)])) a (.ins (He.ga g.K "Hand") dx [("own_size", .int d.size), ("own_asks", .ref c), ("own_order", .str (midS d.o))]) := ⟨_, rfl⟩
    obtain ⟨H3, eH3⟩ := s4'
    show tSeq _ _ _ _ _
    refine goH (H' := H3) ?_ (by rw [eH3]; rfl)
    rw [← eH3] at s4
    clear eH3 s1 s2 s3
    obtain ⟨e4, a4⟩ := s4
    have th4 := e4.ins th nta.1
    refine ⟨_, rfl, t, tdx, _, rfl, th4, t, tdx, _, _, rfl, th4, rfl, d.P, rfl, by have := ok.p4; omega, by have := ok.p4; omega, ?_⟩
    rw [Int.toNat_natCast]
    intro D hD
    have p4 := ok.p4
    have tab4 := tab.up e4 nta.1 nta.2
    refine lc_walk (K := g.K) (walk_upto (n := d.P)) [] (fun _ => true) (fun i y H => ∃ l xs, y = .ref l ∧ l ≠ D ∧ H l = some (.lst xs) ∧ Pls H xs (d.geo.L i)) hD (fun _ _ => trivial) (fun i H x H' y => by rw [y.1]; exact Up.refl) (by omega) (fun i y H H' e h => ?_)
      (fun i v H5 H6 hi e5 hD5 hy QQ qq => ?_) (by simp) fun us H5 e5 eD lr => ?_
    · obtain ⟨l, xs, h1, h2, h3, h4⟩ := h
      exact ⟨l, xs, h1, h2, e.lst h3 (by simpa using h2), e.ts.pls h4⟩
    · obtain ⟨rfl, rfl⟩ := hy
      refine qq _ _ Up.refl (by rw [wipe_set (by simp), wipe_two]) EvB.yes fun _ H7 e7 Q7 k7 => ?_
      have e57 := e5.trans e7
      refine ⟨_, rfl, _, rfl, t, tdx, _, rfl, e57.ins th4, rfl, _, rfl, t, r, d.P, i, d.rs, rfl, tab4.up e57, hi, few3, fun v8 H8 e8 hv8 => ?_⟩
      obtain ⟨l, ys, rfl, fr, hl, hys⟩ := hv8
      refine ⟨d.up, l, ys, ofP i d.rs, rfl, SqL.of hl, hys, e8.tabs (e57.tabs (e4.tabs tabs)), fun v9 H9 e9 hv9 => ?_⟩
      obtain ⟨l9, ys9, rfl, fr9, hl9, hys9⟩ := hv9
      obtain ⟨zs, hz⟩ := hD5
      exact k7 _ _ (e8.trans e9) ⟨l9, ys9, rfl, (Fr.ne ((e7.trans e8).lst hz) fr9 fun ps z => by cases z).symm, hl9, hys9⟩
    · have lus : us.length = d.P := by
        have := Paired.length lr
        rw [List.filter_eq_self.mpr fun _ _ => rfl, List.length_range] at this
        exact this.symm
      have hus : ∀ p, p < d.P → ∃ l xs, us[p]? = some (.ref l) ∧ l ≠ D ∧ H5 l = some (.lst xs) ∧ Pls H5 xs (d.geo.L p) := fun p hp => by
        have hp2 : ((List.range d.P).filter fun _ => true)[p]? = some p := by
          rw [List.filter_eq_self.mpr fun _ _ => rfl, List.getElem?_range hp]
        obtain ⟨y, hy, l, xs, rfl, h2, h3, h4⟩ := pair_fwd lr hp2
        exact ⟨l, xs, hy, h2, h3, h4⟩
      have chain : ∀ {Hs : Hp} {p q0 : Addr}, Up g.K [a] Hs H5 → upd H5 a (.ins (He.ga g.K "Hand") dx [("own_size", .int d.size), ("own_asks", .ref c), ("own_order", .str (midS d.o)), ("unsent", .ref D)]) p = none →
          upd (upd (upd H5 a (.ins (He.ga g.K "Hand") dx [("own_size", .int d.size), ("own_asks", .ref c), ("own_order", .str (midS d.o)), ("unsent", .ref D)])) p (.dT [])) a (.ins (He.ga g.K "Hand") dx [("own_size", .int d.size), ("own_asks", .ref c), ("own_order", .str (midS d.o)), ("unsent", .ref D), ("own_hand", .ref p)]) q0 = none →
          Up g.K [a] Hs (upd (upd (upd (upd (upd H5 a (.ins (He.ga g.K "Hand") dx [("own_size", .int d.size), ("own_asks", .ref c), ("own_order", .str (midS d.o)), ("unsent", .ref D)])) p (.dT [])) a (.ins (He.ga g.K "Hand") dx [("own_size", .int d.size), ("own_asks", .ref c), ("own_order", .str (midS d.o)), ("unsent", .ref D), ("own_hand", .ref p)])) q0 (.lst [])) a (.ins (He.ga g.K "Hand") dx [("own_size", .int d.size), ("own_asks", .ref c), ("own_order", .str (midS d.o)), ("unsent", .ref D), ("own_hand", .ref p), ("told_places", .ref q0)])) := fun e hp hq =>
        (st_set (st_new (st_set (st_new (st_set ⟨e, e5.ins a4⟩) hp)) hq)).1
      have s5 : Up g.K [a] H H5 ∧ H5 a = some (.ins (He.ga g.K "Hand") dx [("own_size", .int d.size), ("own_asks", .ref c), ("own_order", .str (midS d.o))]) := ⟨e4.trans e5.wide, e5.ins a4⟩
      have s6 := st_set (fs' := [("own_size", .int d.size), ("own_asks", .ref c), ("own_order", .str (midS d.o)), ("unsent", .ref D)]) s5
      have t6 := st_set (fs' := [("own_size", .int d.size), ("own_asks", .ref c), ("own_order", .str (midS d.o)), ("unsent", .ref D)]) ⟨Up.refl (K := g.K) (ms := [a]), s5.2⟩
      refine ⟨_, rfl, a, _, dx, _, rfl, s5.2, cl, n_Hand_unsent T, by show 3 < 1000; decide, fun p hp => ?_⟩
      have s7 := st_new (u := .dT []) s6 hp
      have s8 := st_set (fs' := [("own_size", .int d.size), ("own_asks", .ref c), ("own_order", .str (midS d.o)), ("unsent", .ref D), ("own_hand", .ref p)]) s7
      have t8 := st_set (fs' := [("own_size", .int d.size), ("own_asks", .ref c), ("own_order", .str (midS d.o)), ("unsent", .ref D), ("own_hand", .ref p)]) (st_new (u := .dT []) t6 hp)
      refine ⟨_, rfl, a, _, dx, _, rfl, s7.2, cl, n_Hand_own_hand T, by show 4 < 1000; decide, Nat.zero_le _, fun q0 hq0 => ?_⟩
      have s9 := st_new (u := .lst []) s8 hq0
      refine ⟨_, rfl, a, _, dx, _, rfl, s9.2, cl, n_Hand_told_places T, by show 5 < 1000; decide, ?_⟩
      have eE := chain s5.1 hp hq0
      have eF := chain (Hs := H5) Up.refl hp hq0
      have eP : Up g.K [a] _ _ := (st_set (fs' := [("own_size", .int d.size), ("own_asks", .ref c), ("own_order", .str (midS d.o)), ("unsent", .ref D), ("own_hand", .ref p), ("told_places", .ref q0)]) (st_new (u := .lst []) (st_set (fs' := [("own_size", .int d.size), ("own_asks", .ref c), ("own_order", .str (midS d.o)), ("unsent", .ref D), ("own_hand", .ref p)]) ⟨Up.refl (K := g.K) (ms := [a]), s7.2⟩) hq0)).1
      have npa : p ≠ a := (ne_of_none s6.2 hp).symm
      have nqa : q0 ≠ a := (ne_of_none s8.2 hq0).symm
      have lk : ∀ l xs, H5 l = some (.lst xs) → l ≠ a := fun l xs h e => by rw [e, s5.2] at h; cases h
      have lq : ∀ l xs, H5 l = some (.lst xs) → l ≠ q0 := fun l xs h => ne_of_none (t8.1.lst h (by simpa using lk l xs h)) hq0
      refine q _ D p q0 eE ⟨⟨dx, c, upd_same, eE.tup _ _ hc⟩, ⟨us, eF.lst eD (by simpa using lk _ _ eD), lus, fun p2 hp2 => ?_⟩, eP.dT upd_same (by simpa using npa), ⟨[], ?_, rfl⟩, lq _ _ eD⟩ (e4.fresh hD) (s6.1.fresh hp) (s8.1.fresh hq0)
      · obtain ⟨l, xs, h1, h2, h3, h4⟩ := hus p2 hp2
        exact ⟨l, xs, h1, h2, lq _ _ h3, eF.lst h3 (by simpa using lk _ _ h3), eF.ts.pls h4⟩
      · refine (upd_ne nqa).trans upd_same
end K48

namespace K48
open PySem PySem.Spec PyProof.Rows L2 ClX
variable {g : GX}
theorem boot_intT : bootBuiltins "int" = some (.type "int") := by decide +kernel
/-! ### the law's bag -/
structure BagO (H : Hp) (b s : Addr) : Prop where
  ex : ∃ (cells : List Int) (i : Nat) (d ed c : Int), H b = some (.lst [.ref s, .int i, .int d, .int ed, .int c]) ∧ H s = some (.lst (cells.map V.int)) ∧ 0 ≤ ed ∧ ed < 2147483587 ∧ cells.length ≤ 63
  ne : s ≠ b
theorem BagO.up {K : PySem.W.Frag} {ms : List Addr} {H H' : Hp} {b s : Addr} (h : BagO H b s) (e : Up K ms H H') (h1 : b ∉ ms := by simp) (h2 : s ∉ ms := by simp) : BagO H' b s := by
  obtain ⟨⟨cells, i, d, ed, c, q1, q2, q3, q4, q5⟩, n⟩ := h
  exact ⟨⟨cells, i, d, ed, c, e.lst q1 h1, e.lst q2 h2, q3, q4, q5⟩, n⟩
theorem BagO.put {H : Hp} {b s : Addr} {xs : List V} {cells : List Int} {i : Nat} {d ed c : Int} (kb : H b = some (.lst xs)) (hs : H s = some (.lst (cells.map V.int))) (n : s ≠ b) (e1 : 0 ≤ ed) (e2 : ed < 2147483587) (hl : cells.length ≤ 63) : BagO (upd H b (.lst [.ref s, .int i, .int d, .int ed, .int c])) b s :=
  ⟨⟨cells, i, d, ed, c, upd_same, (upd_ne n).trans hs, e1, e2, hl⟩, n⟩
def spOpenB (K : PySem.W.Frag) : Sp := fun vs H Q _ => ∃ (l : Addr) (ns : List Int), vs = [.ref l] ∧ SqL K H l (ns.map V.int) ∧ ns.length ≤ 63 ∧ ∀ H' b s, Up K [] H H' → Fr H b → Fr H s → BagO H' b s → Q (.ref b) H'
theorem c__law_open (T : Tx g) : Cal g 1 "_law_open" (spOpenB g.K) := by
  obtain ⟨fd, F⟩ := T.fun_ in__law_open
  refine ⟨_, fd, p__law_open, def_ok F sc__law_open (fun vs H Q E h => ?_) (fun cdv A outer s H vs Q E hr h => ?_), g__law_open T, F.kp, F.bindsN fun _ _ _ _ _ _ us hl => match us, hl with | [_], _ => rfl⟩
  · obtain ⟨_, _, rfl, _⟩ := h
    rfl
  · obtain ⟨l, ns, rfl, hl, few, q⟩ := h
    refine ⟨_, pss_one (ps_ret (pe_lst (pa_cons (pe_callTy (r := rListOf g.K) call_listOf (by rfl) (f_list T) boot_list (pa_cons (pe_slice sl_list (pv 0) po_none (po_some pe_int)) pa_nil)) (pa_cons pe_int (pa_cons pe_int (pa_cons pe_int (pa_cons pe_int pa_nil))))))), ?_⟩
    refine ⟨_, rfl, 63, rfl, l, _, rfl, hl, fun z hz => ⟨z, _, rfl, .inl (SqL.of upd_same), fun s2 hs2 => ⟨by show 5 ≤ sizeLine; decide, fun b hb => ?_⟩⟩⟩
    have et : cutV (ns.map V.int) none (some 63) = ns.map V.int := by
      have := cut_to (ns.map V.int) 63
      rw [show ((63 : Nat) : Int) = 63 from rfl] at this
      rw [this, List.take_of_length_le (by rw [List.length_map]; exact few)]
    rw [et] at hs2 hb ⊢
    have e1 : Up g.K [] H (upd H z (.lst (ns.map V.int))) := Up.new hz
    have e2 := e1.trans (Up.new (K := g.K) (ms := []) (o := .lst (ns.map V.int)) hs2)
    have k2 : upd (upd H z (.lst (ns.map V.int))) s2 (.lst (ns.map V.int)) s2 = some (.lst (ns.map V.int)) := upd_same
    have n : s2 ≠ b := ne_of_none k2 hb
    exact q _ b s2 (e2.trans (Up.new hb)) (e2.fresh hb) (e1.fresh hs2) ⟨⟨ns, 0, 0, 100081, 0, upd_same, (upd_ne n).trans k2, by decide, by decide, few⟩, n⟩
theorem if_pick {c : Prop} [Decidable c] {i : Nat} {σ : L2.St} {H : Hp} {Q : VK} {v : Int} (h1 : σ[i]? = some (some (.int v))) (q : ∀ k : Int, Q (.int k) H) : if c then tVar i σ H Q else tC (.int 0) σ H Q := by
  by_cases h : c
  · rw [if_pos h]
    exact ⟨_, h1, q v⟩
  · rw [if_neg h]
    exact q 0
theorem seq_join {A R : TS} {D : Ends} {σ : L2.St} {H : Hp} (P : L2.St → Hp → Prop) (hR : ∀ σ' H', P σ' H' → R D σ' H') (h : (∀ σ' H', P σ' H' → R D σ' H') → A { D with nx := R D } σ H) : tSeq A R D σ H := h hR
def spDraw (K : PySem.W.Frag) : Sp := fun vs H Q _ => ∃ (b s : Addr) (many : Nat), vs = [.ref b, .int many] ∧ BagO H b s ∧ 1 ≤ many ∧ many ≤ 1000000 ∧ ∀ (k : Nat) H', k < many → Up K [b] H H' → BagO H' b s → Q (.int k) H'
theorem c__law_draw (T : Tx g) : Cal g 1 "_law_draw" (spDraw g.K) := by
  obtain ⟨fd, F⟩ := T.fun_ in__law_draw
  refine ⟨_, fd, p__law_draw, def_ok F sc__law_draw (fun vs H Q E h => ?_) (fun cdv A outer s H vs Q E hr h => ?_), g__law_draw T, F.kp, F.bindsN fun _ _ _ _ _ _ us hl => match us, hl with | [_, _], _ => rfl⟩
  · obtain ⟨_, _, _, rfl, _⟩ := h
    rfl
  · obtain ⟨b, s, many, rfl, ⟨⟨cells, i, d, ed, c, kb, hcl, e1, e2, few⟩, hsb⟩, m1, m2, q⟩ := h
    have nd := sc__law_draw.nd
    refine ⟨_, pss_cons (ps_if (PW.pt (pw_and (pt_cmpR op_eq (pe_ix ix_list (pv 0) pe_int (fun _ _ => rfl)) pe_int (nomark _)) (pw_and1 (pt_cmpR op_lt (pe_ix ix_list (pv 0) pe_int (fun _ _ => rfl)) (pe_callB call_len_seq (by rfl) (f_len T) PySem.boot_len (pa_cons (pe_ix ix_list (pv 0) pe_int (fun _ _ => rfl)) pa_nil)) (nomark _)))))
        (pss_cons (ps_set (i := 2) nd rfl (Or.inl rfl) (pe_ix ix_list (pe_ix ix_list (pv 0) pe_int (fun _ _ => rfl)) (pe_ix ix_list (pv 0) pe_int (fun _ _ => rfl)) (fun _ _ => rfl)))
        (pss_cons (ps_asg (pe_op op_add (pe_ix ix_list (pv 0) pe_int (fun _ _ => rfl)) pe_int) (L2.pg_sub (pv 0) pe_int set_list))
        (pss_cons (ps_asg (pe_ifExp (pt_cmpR op_ge (pv 2) (pe_op op_pow pe_int pe_int) (nomark _)) (pv 2) pe_int) (L2.pg_sub (pv 0) pe_int set_list))
        (pss_one (ps_asg (pe_op op_mod (pe_callTy call_int1 (by rfl) (f_int T) boot_intT (pa_cons (pe_op op_add (pe_op op_add (pe_op op_mul (pe_ix ix_list (pv 0) pe_int (fun _ _ => rfl)) pe_int) (pe_op op_mul (pe_op op_mod (pe_callTy call_int1 (by rfl) (f_int T) boot_intT (pa_cons (pv 2) pa_nil)) pe_int) pe_int)) pe_int) pa_nil)) pe_int) (L2.pg_sub (pv 0) pe_int set_list)))))) pss_nil)
      (pss_cons (ps_if (pt_cmpR op_gt (pe_ix ix_list (pv 0) pe_int (fun _ _ => rfl)) pe_int (nomark _))
        (pss_cons (ps_set (i := 3) nd rfl (Or.inl rfl) (pe_op op_mod (pe_callTy call_int1 (by rfl) (f_int T) boot_intT (pa_cons (pe_ix ix_list (pv 0) pe_int (fun _ _ => rfl)) pa_nil)) (pv 1)))
        (pss_cons (ps_asg (pe_op op_fdiv (pe_ix ix_list (pv 0) pe_int (fun _ _ => rfl)) (pv 1)) (L2.pg_sub (pv 0) pe_int set_list)) (pss_one (ps_ret (pv 3))))) pss_nil)
      (pss_cons (ps_asg (pe_op op_add (pe_ix ix_list (pv 0) pe_int (fun _ _ => rfl)) pe_int) (L2.pg_sub (pv 0) pe_int set_list))
      (pss_cons (ps_set (i := 4) nd rfl (Or.inl rfl) (pe_ix ix_list (pv 0) pe_int (fun _ _ => rfl)))
      (pss_cons (ps_asg (pe_op op_mod (pe_callTy call_int1 (by rfl) (f_int T) boot_intT (pa_cons (pe_op op_add (pe_op op_add (pe_op op_add (pe_op op_mul (pv 4) (pv 4)) (pe_op op_mul pe_int (pv 4))) (pe_op op_mul pe_int (pe_ix ix_list (pv 0) pe_int (fun _ _ => rfl)))) pe_int) pa_nil)) pe_int) (L2.pg_sub (pv 0) pe_int set_list))
      (pss_one (ps_ret (pe_op op_mod (pe_callTy call_int1 (by rfl) (f_int T) boot_intT (pa_cons (pe_op op_add (pe_op op_add (pe_op op_fdiv (pe_ix ix_list (pv 0) pe_int (fun _ _ => rfl)) pe_int) (pe_op op_mul (pv 4) pe_int)) (pe_ix ix_list (pv 0) pe_int (fun _ _ => rfl))) pa_nil)) (pv 1)))))))), ?_⟩
    have fin : ∀ (X : Int) (H2 : Hp), Up g.K [b] H H2 → BagO H2 b s → Q (.int (X % (many : Int))) H2 := fun X H2 u o => by
      have n1 := Int.emod_nonneg X (show (many : Int) ≠ 0 by omega)
      have n2 := Int.emod_lt_of_pos X (show (0 : Int) < many by omega)
      have := q (X % (many : Int)).toNat H2 (by omega) u o
      rw [Int.toNat_of_nonneg n1] at this
      exact this
    show tSeq _ _ _ _ _
    refine seq_join (fun σ' H' => ∃ (i1 : Nat) (d1 ed1 c1 : Int) (w : Option V), σ' = [some (.ref b), some (.int many), w, none, none] ∧ Up g.K [b] H H' ∧ H' b = some (.lst [.ref s, .int i1, .int d1, .int ed1, .int c1]) ∧ H' s = some (.lst (cells.map V.int)) ∧ 0 ≤ ed1 ∧ ed1 < 2147483587) ?_ fun rest => ?_
    · rintro σ' H1 ⟨i1, d1, ed1, c1, w, rfl, up, kb1, hcl1, e11, e21⟩
      have m0 : (many : Int) ≠ 0 := by omega
      refine ⟨_, rfl, b, _, 2, _, rfl, rfl, SqL.of kb1, rfl, _, 0, rfl, rfl, _, rfl, ?_⟩
      by_cases hd : 0 < d1
      · rw [decide_eq_true hd]
        refine iteT ⟨_, rfl, b, _, 2, _, rfl, rfl, SqL.of kb1, rfl, .inl ⟨_, rfl, _, rfl, _, _, rfl, rfl, by omega, ?_⟩⟩
        refine ⟨_, rfl, b, _, 2, _, rfl, rfl, SqL.of kb1, rfl, _, rfl, _, _, rfl, rfl, ⟨by omega, by omega⟩, _, rfl, b, _, 2, 2, rfl, rfl, kb1, rfl, _, rfl, ?_⟩
        exact fin _ _ (up.trans (Up.set kb1 trivial (by simp))) (BagO.put kb1 hcl1 hsb e11 e21 few)
      · rw [decide_eq_false hd]
        refine iteF ⟨_, rfl, b, _, 4, _, rfl, rfl, SqL.of kb1, rfl, _, 1, rfl, rfl, _, rfl, b, _, 4, 4, rfl, rfl, kb1, rfl, ?_⟩
        have kb2 : upd H1 b (.lst [.ref s, .int i1, .int d1, .int ed1, .int (c1 + 1)]) b = some (.lst [.ref s, .int i1, .int d1, .int ed1, .int (c1 + 1)]) := upd_same
        refine ⟨_, rfl, b, _, 3, _, rfl, rfl, SqL.of kb2, rfl, ?_⟩
        refine ⟨_, rfl, _, rfl, _, _, rfl, rfl, .inl ⟨by omega, by omega⟩, _, rfl, _, _, rfl, rfl, .inl ⟨by omega, by omega⟩, _, _, rfl, rfl, _, rfl, b, _, 4, _, rfl, rfl, SqL.of kb2, rfl, _, _, rfl, rfl, .inl ⟨by omega, by omega⟩, _, _, rfl, rfl, _, _, rfl, rfl, .inl ⟨_, rfl, ?_⟩⟩
        generalize (ed1 * ed1 + 65063 * ed1 + 6661 * (c1 + 1) + 40009 : Int) = X
        refine ⟨_, _, rfl, rfl, by omega, _, rfl, b, _, 3, 3, rfl, rfl, kb2, rfl, ?_⟩
        have x1 := Int.emod_nonneg X (show (2147483587 : Int) ≠ 0 by omega)
        have x2 := Int.emod_lt_of_pos X (show (0 : Int) < 2147483587 by omega)
        have kb3 : upd (upd H1 b (.lst [.ref s, .int i1, .int d1, .int ed1, .int (c1 + 1)])) b (.lst [.ref s, .int i1, .int d1, .int (X % 2147483587), .int (c1 + 1)]) b = some (.lst [.ref s, .int i1, .int d1, .int (X % 2147483587), .int (c1 + 1)]) := upd_same
        refine ⟨_, rfl, b, _, 3, _, rfl, rfl, SqL.of kb3, rfl, _, _, rfl, rfl, ⟨by omega, by omega⟩, _, rfl, _, _, rfl, rfl, .inl ⟨by omega, by omega⟩, _, _, rfl, rfl, _, rfl, b, _, 4, _, rfl, rfl, SqL.of kb3, rfl, _, _, rfl, rfl, .inl ⟨_, rfl, _, rfl, _, _, rfl, rfl, by omega, ?_⟩⟩
        exact fin _ _ (up.trans ((Up.set kb1 trivial (by simp)).trans (Up.set kb2 trivial (by simp)))) (BagO.put kb2 ((upd_ne hsb).trans hcl1) hsb x1 x2 few)
    · refine ⟨_, rfl, b, _, 2, _, rfl, rfl, SqL.of kb, rfl, rfl, _, rfl, ?_⟩
      rw [deq_int]
      by_cases hd : d = 0
      · rw [decide_eq_true hd]
        refine iteT ⟨_, rfl, b, _, 1, _, rfl, rfl, SqL.of kb, rfl, _, rfl, b, _, 0, _, rfl, rfl, SqL.of kb, rfl, s, _, rfl, .inl (SqL.of hcl), _, _, rfl, rfl, _, rfl, ?_⟩
        by_cases hi : (i : Int) < (((cells.map V.int).length : Nat) : Int)
        · rw [decide_eq_true hi]
          have hi2 : i < cells.length := by rw [List.length_map] at hi; omega
          have hcell : (cells.map V.int)[i]? = some (.int (cells[i]'hi2)) := by rw [List.getElem?_map, List.getElem?_eq_getElem hi2]; rfl
          generalize cells[i]'hi2 = cell at hcell
          refine iteT ⟨_, rfl, b, _, 0, _, rfl, rfl, SqL.of kb, rfl, _, rfl, b, _, 1, _, rfl, rfl, SqL.of kb, rfl, s, _, (i : Int), .int cell, rfl, rfl, SqL.of hcl, atI_nat hcell, ?_⟩
          refine ⟨_, rfl, b, _, 1, _, rfl, rfl, SqL.of kb, rfl, _, _, rfl, rfl, _, rfl, b, _, 1, 1, rfl, rfl, kb, rfl, ?_⟩
          have kb2 : upd H b (.lst [.ref s, .int ((i : Int) + 1), .int d, .int ed, .int c]) b = some (.lst [.ref s, .int ((i : Int) + 1), .int d, .int ed, .int c]) := upd_same
          have u2 : Up g.K [b] H (upd H b (.lst [.ref s, .int ((i : Int) + 1), .int d, .int ed, .int c])) := Up.set kb trivial (by simp)
          have hcl2 := (upd_ne (o := HO.lst [.ref s, .int ((i : Int) + 1), .int d, .int ed, .int c]) hsb (H := H)).trans hcl
          refine ⟨_, rfl, _, _, rfl, rfl, ⟨by omega, by omega, by decide⟩, _, _, rfl, rfl, _, rfl, ?_⟩
          refine if_pick rfl fun dd => ?_
          refine ⟨_, rfl, b, _, 2, 2, rfl, rfl, kb2, rfl, ?_⟩
          have kb3 : upd (upd H b (.lst [.ref s, .int ((i : Int) + 1), .int d, .int ed, .int c])) b (.lst [.ref s, .int ((i : Int) + 1), .int dd, .int ed, .int c]) b = some (.lst [.ref s, .int ((i : Int) + 1), .int dd, .int ed, .int c]) := upd_same
          have u3 : Up g.K [b] H (upd (upd H b (.lst [.ref s, .int ((i : Int) + 1), .int d, .int ed, .int c])) b (.lst [.ref s, .int ((i : Int) + 1), .int dd, .int ed, .int c])) := u2.trans (Up.set kb2 trivial (by simp))
          have hcl3 := (upd_ne (o := HO.lst [.ref s, .int ((i : Int) + 1), .int dd, .int ed, .int c]) hsb (H := upd H b (.lst [.ref s, .int ((i : Int) + 1), .int d, .int ed, .int c]))).trans hcl2
          refine ⟨_, rfl, b, _, 3, _, rfl, rfl, SqL.of kb3, rfl, _, _, rfl, rfl, .inl ⟨by omega, by omega⟩, _, rfl, .inl ⟨_, rfl, _, _, rfl, rfl, by omega, _, _, rfl, rfl, .inr ⟨by omega, by omega⟩, _, _, rfl, rfl, _, _, rfl, rfl, .inl ⟨_, rfl, ?_⟩⟩⟩
          generalize (ed * 40013 + cell % 2147483549 * 293 + 2003 : Int) = X
          have x1 := Int.emod_nonneg X (show (2147483587 : Int) ≠ 0 by omega)
          have x2 := Int.emod_lt_of_pos X (show (0 : Int) < 2147483587 by omega)
          refine ⟨_, _, rfl, rfl, by omega, _, rfl, b, _, 3, 3, rfl, rfl, kb3, rfl, ?_⟩
          exact rest _ _ ⟨i + 1, dd, X % 2147483587, c, some (.int cell), rfl, u3.trans (Up.set kb3 trivial (by simp)), upd_same, (upd_ne hsb).trans hcl3, x1, x2⟩
        · rw [decide_eq_false hi]
          exact iteF (rest _ _ ⟨i, d, ed, c, none, rfl, Up.refl, kb, hcl, e1, e2⟩)
      · rw [decide_eq_false hd]
        exact iteF (iteF (rest _ _ ⟨i, d, ed, c, none, rfl, Up.refl, kb, hcl, e1, e2⟩))
end K48

namespace K48
open PySem PySem.Spec PyProof.Rows L2 ClX
variable {g : GX}
def spOf (K : PySem.W.Frag) : Sp := fun vs H Q _ => ∃ (b s l : Addr) (xs : List V), vs = [.ref b, .ref l] ∧ BagO H b s ∧ H l = some (.lst xs) ∧ l ≠ b ∧ 1 ≤ xs.length ∧ xs.length ≤ 1000 ∧ ∀ v H', v ∈ xs → Up K [b] H H' → BagO H' b s → Q v H'
theorem c__law_of (T : Tx g) : Cal g 2 "_law_of" (spOf g.K) := by
  obtain ⟨fd, F⟩ := T.fun_ in__law_of
  refine ⟨_, fd, p__law_of, def_ok F sc__law_of (fun vs H Q E h => ?_) (fun cdv A outer s H vs Q E hr h => ?_), g__law_of T, F.kp, F.bindsN fun _ _ _ _ _ _ us hl => match us, hl with | [_, _], _ => rfl⟩
  · obtain ⟨_, _, _, _, rfl, _⟩ := h
    rfl
  · obtain ⟨b, s, l, xs, rfl, B, hl, ne, l1, l2, q⟩ := h
    refine ⟨_, pss_one (ps_ret (pe_ix ix_list (pv 1) (pe_c (c__law_draw T) hr (pa_cons (pv 0) (pa_cons (pe_callB call_len_seq (by rfl) (f_len T) PySem.boot_len (pa_cons (pv 1) pa_nil)) pa_nil))) (fun _ _ => rfl))), ?_⟩
    refine ⟨_, rfl, _, rfl, _, rfl, l, xs, rfl, .inl (SqL.of hl), b, s, xs.length, rfl, B, l1, by omega, fun k H' hk e B' => ?_⟩
    exact ⟨l, xs, k, xs[k], rfl, rfl, SqL.of (e.lst hl (by simpa using ne)), atI_nat (List.getElem?_eq_getElem hk), q _ _ (List.getElem_mem hk) e B'⟩
def spMixed (K : PySem.W.Frag) : Sp := fun vs H Q _ => ∃ (b s l : Addr) (xs : List V), vs = [.ref b, .ref l] ∧ BagO H b s ∧ H l = some (.lst xs) ∧ l ≠ b ∧ xs.length ≤ 1000 ∧ ∀ p ys H', ys.Perm xs → Up K [b] H H' → BagO H' b s → Fr H p → H' p = some (.lst ys) → Q (.ref p) H'
theorem perm_ins {α : Type} (xs : List α) (y : α) (k : Nat) : (xs.take k ++ [y] ++ xs.drop k).Perm (xs ++ [y]) := by
  have h : (xs.take k ++ [y] ++ xs.drop k).Perm (xs.take k ++ xs.drop k ++ [y]) := by
    rw [List.append_assoc, List.append_assoc]
    exact List.Perm.append_left _ List.perm_append_comm
  rw [List.take_append_drop] at h
  exact h
theorem c__law_mixed (T : Tx g) : Cal g 2 "_law_mixed" (spMixed g.K) := by
  obtain ⟨fd, F⟩ := T.fun_ in__law_mixed
  refine ⟨_, fd, p__law_mixed, def_ok F sc__law_mixed (fun vs H Q E h => ?_) (fun cdv A outer s H vs Q E hr h => ?_), g__law_mixed T, F.kp, F.bindsN fun _ _ _ _ _ _ us hl => match us, hl with | [_, _], _ => rfl⟩
  · obtain ⟨_, _, _, _, rfl, _⟩ := h
    rfl
  · obtain ⟨b, s, l, xs, rfl, B, hl, ne, l2, q⟩ := h
    have nd := sc__law_mixed.nd
    refine ⟨_, pss_cons (ps_set (i := 2) nd rfl (Or.inl rfl) (pe_lst pa_nil)) (pss_cons (ps_for (g := gName 3) noxe rfl (pi_list (pv 1)) (pg_name (i := 3) nd rfl (Or.inl rfl))
      (pss_one (ps_expr (pe_bm PySem.F.plainAttrs_list PySem.F.slot_list_insert PySem.F.type_list_insert mt_insert (pv 2) (pa_cons (pe_c (c__law_draw T) hr (pa_cons (pv 0) (pa_cons (pe_op op_add (pe_callB call_len_seq (by rfl) (f_len T) PySem.boot_len (pa_cons (pv 2) pa_nil)) pe_int) pa_nil))) (pa_cons (pv 3) pa_nil)))))) (pss_one (ps_ret (pv 2)))), ?_⟩
    refine ⟨Nat.zero_le _, fun p hp => ?_⟩
    have e0 : Up g.K [] H (upd H p (.lst [])) := Up.new hp
    have npb : p ≠ b := fun e => by
      obtain ⟨cells, i, d, ed, c, q1, _⟩ := B.ex
      rw [e, q1] at hp
      cases hp
    have nps : p ≠ s := fun e => by
      obtain ⟨cells, i, d, ed, c, q1, q2, _⟩ := B.ex
      rw [e, q2] at hp
      cases hp
    have npl : p ≠ l := fun e => by rw [e, hl] at hp; cases hp
    refine ⟨_, rfl, l, rfl, ⟨xs, SqL.of (e0.lst hl)⟩, for_it (walk_list (K := g.K) (xs := xs)) (fun i σ H2 => Up g.K [b] H H2 ∧ BagO H2 b s ∧ (∃ ys, H2 p = some (.lst ys) ∧ ys.Perm (xs.take i)) ∧ ∃ w, σ = [some (.ref b), some (.ref l), some (.ref p), w])
      ⟨e0.wide, B.up e0, ⟨[], upd_same, by rw [List.take_zero]⟩, _, rfl⟩ (fun i σ H2 _ h => SqL.of (h.1.lst hl (by simpa using ne))) ?_ ?_⟩
    · rintro i v σ H2 H3 hi ⟨e2, B2, ⟨ys, hy, hys⟩, w, rfl⟩ ⟨rfl, hv⟩
      have yl : ys.length = i := by rw [hys.length_eq, List.length_take]; omega
      have few : ys.length ≤ 1000 := by omega
      refine ⟨_, rfl, .inl ⟨rfl, ys, SqL.of hy⟩, _, rfl, _, rfl, p, ys, rfl, .inl (SqL.of hy), _, _, rfl, rfl, b, s, ys.length + 1, rfl, B2, by omega, by omega, fun k H4 hk e4 B4 => ?_⟩
      have hy4 := e4.lst hy (by simpa using npb)
      refine ⟨_, rfl, p, ys, (k : Int), v, rfl, rfl, hy4, Nat.lt_of_le_of_lt few (by decide), by omega, Int.lt_of_lt_of_le (show (k : Int) < 1002 by omega) (by decide), ?_⟩
      have e5 : Up g.K [p] H4 (upd H4 p (.lst (ys.take k ++ [v] ++ ys.drop k))) := Up.set hy4 trivial (by simp)
      refine ⟨(e2.trans e4).mut (.of hp) hy4 trivial, B4.up e5 (by simpa using Ne.symm npb) (by simpa using Ne.symm nps), ⟨_, upd_same, ?_⟩, _, rfl⟩
      rw [List.take_succ, hv]
      exact (perm_ins ys v k).trans (hys.append_right _)
    · rintro σ H2 ⟨e2, B2, ⟨ys, hy, hys⟩, w, rfl⟩
      rw [List.take_of_length_le (Nat.le_refl _)] at hys
      exact ⟨_, rfl, q p ys H2 hys e2 B2 (.of hp) hy⟩
def spBase (K : PySem.W.Frag) : Sp := fun vs H Q _ => ∃ (b s : Addr), vs = [.ref b] ∧ BagO H b s ∧ ∀ (k : Int) H', -BND ≤ k → k ≤ BND - 9 → Up K [b] H H' → BagO H' b s → Q (.int k) H'
theorem c__law_base (T : Tx g) : Cal g 3 "_law_base" (spBase g.K) := by
  obtain ⟨fd, F⟩ := T.fun_ in__law_base
  refine ⟨_, fd, p__law_base, def_ok F sc__law_base (fun vs H Q E h => ?_) (fun cdv A outer s H vs Q E hr h => ?_), g__law_base T, F.kp, F.bindsN fun _ _ _ _ _ _ us hl => match us, hl with | [_], _ => rfl⟩
  · obtain ⟨_, _, rfl, _⟩ := h
    rfl
  · obtain ⟨b, s, rfl, B, q⟩ := h
    refine ⟨_, pss_one (ps_ret (pe_c (c__law_of T) hr (pa_cons (pv 0) (pa_cons (pe_lst (pa_cons pe_int (pa_cons pe_int (pa_cons (pe_op op_sub pe_int pe_int) (pa_cons (pe_op op_sub (pe_op op_pow pe_int pe_int) pe_int) (pa_cons (pe_op op_sub pe_int (pe_op op_pow pe_int pe_int)) pa_nil)))))) pa_nil)))), ?_⟩
    refine ⟨_, rfl, _, _, rfl, rfl, _, _, rfl, rfl, ⟨by omega, by omega, by decide⟩, _, _, rfl, rfl, _, _, rfl, rfl, ⟨by omega, by omega, by decide⟩, _, _, rfl, rfl, by show 5 ≤ sizeLine; decide, fun p hp => ?_⟩
    have npb : p ≠ b := fun e => by
      obtain ⟨cells, i, d, ed, c, q1, _⟩ := B.ex
      rw [e, q1] at hp
      cases hp
    refine ⟨b, s, p, _, rfl, B.up (Up.new (K := g.K) (ms := []) hp), upd_same, npb, by show 1 ≤ 5; decide, by show 5 ≤ 1000; decide, fun v H' hv e B' => ?_⟩
    have up : Up g.K [b] H H' := (Up.new hp).trans e
    simp only [List.mem_cons, List.not_mem_nil, or_false] at hv
    rcases hv with rfl | rfl | rfl | rfl | rfl <;> exact q _ _ (by decide) (by decide) up B'
end K48

namespace K48
open PySem PySem.Spec PyProof.Rows L2 ClX
variable {g : GX}
theorem BagO.fresh {H : Hp} {b s p : Addr} (B : BagO H b s) (hp : H p = none) : p ≠ b ∧ p ≠ s := by
  obtain ⟨cells, i, d, ed, c, q1, q2, _⟩ := B.ex
  exact ⟨fun e => (by rw [e, q1] at hp; cases hp), fun e => (by rw [e, q2] at hp; cases hp)⟩
structure NumsOk (ns : List Int) (many : Nat) : Prop where
  len : ns.length = many
  nd : ns.Nodup
  in_ : ∀ n ∈ ns, 0 ≤ n ∧ n ≤ BND
def spNums (K : PySem.W.Frag) : Sp := fun vs H Q _ => ∃ (b s : Addr) (many : Nat), vs = [.ref b, .int many] ∧ BagO H b s ∧ many ≤ 20 ∧ ∀ p ns H', NumsOk ns many → Up K [b] H H' → BagO H' b s → Fr H p → H' p = some (.lst (ns.map V.int)) → Q (.ref p) H'
theorem nums_ok {st sp : Int} {many : Nat} (h0 : 0 ≤ st) (h1 : st ≤ BND - 3000) (s1 : 1 ≤ sp) (s9 : sp ≤ 9) (m : many ≤ 20) {ns : List Int} (h : ns.Perm ((List.range many).map fun k : Nat => st + sp * (k : Int))) : NumsOk ns many := by
  refine ⟨by rw [h.length_eq, List.length_map, List.length_range], h.nodup_iff.mpr ?_, fun n hn => ?_⟩
  · refine nodup_on List.nodup_range fun x _ y _ e => ?_
    have e2 : sp * (x : Int) = sp * (y : Int) := by omega
    have e3 := Int.eq_of_mul_eq_mul_left (by omega) e2
    omega
  · obtain ⟨k, hk, rfl⟩ := List.mem_map.mp (h.mem_iff.mp hn)
    rw [List.mem_range] at hk
    have a1 : 0 ≤ sp * (k : Int) := Int.mul_nonneg (by omega) (by omega)
    have a2 : sp * (k : Int) ≤ 9 * 20 := Int.mul_le_mul s9 (by omega) (by omega) (by omega)
    unfold BND at *
    omega
theorem perm_map_int {ys : List V} {ns : List Int} (h : ys.Perm (ns.map V.int)) : ∃ ms : List Int, ys = ms.map V.int ∧ ms.Perm ns := by
  have un : ∀ y ∈ ys, ∃ i, y = V.int i := fun y hy => by
    obtain ⟨i, _, e⟩ := List.mem_map.mp (h.mem_iff.mp hy)
    exact ⟨i, e.symm⟩
  have ex : ∀ zs : List V, (∀ y ∈ zs, ∃ i, y = V.int i) → ∃ ms : List Int, zs = ms.map V.int := by
    intro zs
    induction zs with
    | nil => exact fun _ => ⟨[], rfl⟩
    | cons z zs ih =>
      intro h
      obtain ⟨i, rfl⟩ := h z List.mem_cons_self
      obtain ⟨ms, rfl⟩ := ih fun y hy => h y (List.mem_cons_of_mem _ hy)
      exact ⟨i :: ms, rfl⟩
  obtain ⟨ms, rfl⟩ := ex ys un
  refine ⟨ms, rfl, ?_⟩
  have h2 := h.map fun v : V => match v with | .int i => i | _ => 0
  rw [List.map_map, List.map_map] at h2
  have id1 : ∀ l : List Int, l.map ((fun v : V => match v with | .int i => i | _ => 0) ∘ V.int) = l := fun l => List.map_id' l
  rw [id1, id1] at h2
  exact h2
theorem c__law_numbers (T : Tx g) : Cal g 3 "_law_numbers" (spNums g.K) := by
  obtain ⟨fd, F⟩ := T.fun_ in__law_numbers
  refine ⟨_, fd, p__law_numbers, def_ok F sc__law_numbers (fun vs H Q E h => ?_) (fun cdv A outer s H vs Q E hr h => ?_), g__law_numbers T, F.kp, F.bindsN fun _ _ _ _ _ _ us hl => match us, hl with | [_, _], _ => rfl⟩
  · obtain ⟨_, _, _, rfl, _⟩ := h
    rfl
  · obtain ⟨b, s, many, rfl, B, m20, q⟩ := h
    have nd := sc__law_numbers.nd
    refine ⟨_, pss_cons (ps_asg (pe_tup (pa_cons (pe_c (c__law_of T) hr (pa_cons (pv 0) (pa_cons (pe_lst (pa_cons pe_int (pa_cons pe_int (pa_cons (pe_c (c__law_draw T) hr (pa_cons (pv 0) (pa_cons pe_int pa_nil))) (pa_cons (pe_op op_sub (pe_op op_pow pe_int pe_int) pe_int) pa_nil))))) pa_nil)))
        (pa_cons (pe_op op_add pe_int (pe_c (c__law_draw T) hr (pa_cons (pv 0) (pa_cons pe_int pa_nil)))) pa_nil))) (pg_tup (n := 2) rfl (pgs_cons (pg_name (i := 2) nd rfl (Or.inr rfl)) (pgs_cons (pg_name (i := 3) nd rfl (Or.inr rfl)) pgs_nil))))
      (pss_one (ps_ret (pe_c (c__law_mixed T) hr (pa_cons (pv 0) (pa_cons (pe_lc (own := [("_law_k", 4)]) (g := gName 4) (tt := tYes) rfl nd (pi_range1 (by rfl) (f_range T) (pa_cons (pv 1) pa_nil)) (blkOk_by (N := N__law_numbers) (sc := defScope s__law_numbers) (by decide +kernel))
        (fun _ _ _ _ _ => pg_name (i := 4) nd rfl (Or.inl rfl)) (fun _ _ _ _ _ => pts_nil) (fun _ _ _ _ _ => pe_op op_add (pv 2) (pe_op op_mul (pv 3) (pv 4)))) pa_nil))))), ?_⟩
    refine ⟨_, rfl, _, rfl, b, s, 1000, rfl, B, by omega, by omega, fun k H1 hk e1 B1 => ?_⟩
    refine ⟨_, _, rfl, rfl, ⟨by omega, by omega, by decide⟩, _, _, rfl, rfl, by show 4 ≤ sizeLine; decide, fun p hp => ?_⟩
    obtain ⟨npb, nps⟩ := B1.fresh hp
    have e2 : Up g.K [] H1 (upd H1 p (.lst [.int 0, .int 1, .int k, .int (10 ^ (18 - 9 : Int).toNat - 3000)])) := Up.new hp
    refine ⟨b, s, p, _, rfl, B1.up (Up.new (K := g.K) (ms := []) hp), upd_same, npb, by show 1 ≤ 4; decide, by show 4 ≤ 1000; decide, fun v H2 hv e3 B2 => ?_⟩
    have e02 : Up g.K [b] H H2 := e1.trans ((Up.new hp).trans e3)
    have hst : ∃ st : Int, v = .int st ∧ 0 ≤ st ∧ st ≤ BND - 3000 := by
      simp only [List.mem_cons, List.not_mem_nil, or_false] at hv
      rcases hv with rfl | rfl | rfl | rfl
      · exact ⟨0, rfl, by decide, by decide⟩
      · exact ⟨1, rfl, by decide, by decide⟩
      · exact ⟨k, rfl, by omega, by unfold BND; omega⟩
      · exact ⟨_, rfl, by decide, by decide⟩
    obtain ⟨st, rfl, st0, st1⟩ := hst
    refine ⟨_, rfl, b, s, 9, rfl, B2, by omega, by omega, fun k2 H3 hk2 e4 B3 => ?_⟩
    refine ⟨_, _, rfl, rfl, by show 2 ≤ sizeLine; decide, fun p2 hp2 => ?_⟩
    have e5 : Up g.K [] H3 (upd H3 p2 (.tup [.int st, .int (1 + (k2 : Int))])) := Up.new hp2
    refine ⟨p2, _, rfl, SqT.of upd_same, rfl, _, _, rfl, _, _, rfl, rfl, ?_⟩
    have B4 := B3.up e5
    generalize (upd H3 p2 (.tup [.int st, .int (1 + (k2 : Int))])) = H4 at e5 B4 ⊢
    have e04 : Up g.K [b] H H4 := (e02.trans e4).trans e5.wide
    refine ⟨_, rfl, _, rfl, many, rfl, by omega, by omega, ?_⟩
    rw [Int.toNat_natCast]
    intro D hD
    obtain ⟨nDb, nDs⟩ := B4.fresh hD
    refine lc_walk (K := g.K) (walk_upto (n := many)) [] (fun _ => true) (fun i y _ => ∃ w, (List.range many)[i]? = some w ∧ y = .int (st + (1 + (k2 : Int)) * (w : Int))) hD (fun _ _ => trivial) (fun i H x H' y => by rw [y.1]; exact Up.refl) (by omega) (fun _ _ _ _ _ h => h)
      (fun i v H5 H6 hi e6 hD6 hy QQ qq => ?_) (by simp) fun us H5 e6 eD lr => ?_
    · obtain ⟨rfl, rfl⟩ := hy
      refine qq _ _ Up.refl (by rw [wipe_set (by simp), wipe_two]) EvB.yes fun _ H7 e7 Q7 k7 => ?_
      refine ⟨_, rfl, _, rfl, _, rfl, _, _, rfl, rfl, .inl ⟨by omega, by omega⟩, _, _, rfl, rfl, k7 _ _ Up.refl ⟨i, by rw [List.getElem?_range hi], rfl⟩⟩
    · obtain rfl := lr_map (f := fun w : Nat => V.int (st + (1 + (k2 : Int)) * (w : Int))) (List.length_range).symm lr
      refine ⟨b, s, D, _, rfl, B4.up e6, eD, nDb, by rw [List.length_map, List.length_range]; omega, fun p3 ys H6 hys e7 B6 f3 h3 => ?_⟩
      have em : (List.range many).map (fun w : Nat => V.int (st + (1 + (k2 : Int)) * (w : Int))) = ((List.range many).map fun w : Nat => st + (1 + (k2 : Int)) * (w : Int)).map V.int := by rw [List.map_map]; rfl
      rw [em] at hys
      obtain ⟨ms, rfl, hms⟩ := perm_map_int hys
      exact q p3 ms H6 (nums_ok st0 st1 (by omega) (by omega) m20 hms) (e04.trans (e6.wide.trans e7)) B6 ((e04.trans e6.wide).has _ f3) h3
end K48

namespace K48
open PySem PySem.Spec PyProof.Rows L2 ClX
variable {g : GX}
def spSome (K : PySem.W.Frag) : Sp := fun vs H Q _ => ∃ (b s : Addr) (P : Nat), vs = [.ref b, .int P, .bl false] ∧ BagO H b s ∧ 1 ≤ P ∧ P ≤ 4 ∧ ∀ p (k : Nat) H', k < P → Up K [b] H H' → BagO H' b s → H' p = some (.tup [.int k]) → Q (.ref p) H'
theorem c__law_some_parts (T : Tx g) : Cal g 2 "_law_some_parts" (spSome g.K) := by
  obtain ⟨fd, F⟩ := T.fun_ in__law_some_parts
  refine ⟨_, fd, p__law_some_parts, def_ok F sc__law_some_parts (fun vs H Q E h => ?_) (fun cdv A outer s H vs Q E hr h => ?_), g__law_some_parts T, F.kp, F.bindsN fun _ _ _ _ _ _ us hl => match us, hl with | [_, _, _], _ => rfl⟩
  · obtain ⟨_, _, _, rfl, _⟩ := h
    rfl
  · obtain ⟨b, s, P, rfl, B, p1, p4, q⟩ := h
    have nd := sc__law_some_parts.nd
    refine ⟨_, pss_cons (ps_set (i := 3) nd rfl (Or.inr rfl) (pe_c (c__law_draw T) hr (pa_cons (pv 0) (pa_cons (pv 1) pa_nil))))
      (pss_cons (ps_if (PW.pt (pw_or (pt_not (pt_val (pv 2))) (pw_or1 (pt_cmpR op_eq (pe_c (c__law_draw T) hr (pa_cons (pv 0) (pa_cons pe_int pa_nil))) pe_int (nomark _))))) (pss_one (ps_ret (pe_tup (pa_cons (pv 3) pa_nil)))) pss_nil) (pss_one ps_never)), ?_⟩
    refine ⟨_, rfl, _, rfl, b, s, P, rfl, B, p1, by omega, fun k H1 hk e1 B1 => ?_⟩
    refine ⟨_, rfl, _, rfl, iteT (iteT ⟨_, rfl, by show 1 ≤ sizeLine; decide, fun p hp => ?_⟩)⟩
    exact q p k _ hk (e1.trans (Up.new hp)) (B1.up (Up.new (K := g.K) (ms := []) hp)) upd_same
def spTies (K : PySem.W.Frag) : Sp := fun vs H Q _ => ∃ (b s : Addr), vs = [.ref b] ∧ BagO H b s ∧ ∀ p (up : Bool) (o : Mid) H', Up K [b] H H' → BagO H' b s → H' p = some (.tup [.str (upS up), .str (midS o)]) → Q (.ref p) H'
theorem c__law_ties_drawn (T : Tx g) : Cal g 3 "_law_ties_drawn" (spTies g.K) := by
  obtain ⟨fd, F⟩ := T.fun_ in__law_ties_drawn
  refine ⟨_, fd, p__law_ties_drawn, def_ok F sc__law_ties_drawn (fun vs H Q E h => ?_) (fun cdv A outer s H vs Q E hr h => ?_), g__law_ties_drawn T, F.kp, F.bindsN fun _ _ _ _ _ _ us hl => match us, hl with | [_], _ => rfl⟩
  · obtain ⟨_, _, rfl, _⟩ := h
    rfl
  · obtain ⟨b, s, rfl, B, q⟩ := h
    refine ⟨_, pss_one (ps_ret (pe_tup (pa_cons (pe_c (c__law_of T) hr (pa_cons (pv 0) (pa_cons (pe_lst (pa_cons pe_str (pa_cons pe_str pa_nil))) pa_nil))) (pa_cons (pe_c (c__law_of T) hr (pa_cons (pv 0) (pa_cons (pe_lst (pa_cons pe_str (pa_cons pe_str (pa_cons pe_str pa_nil)))) pa_nil))) pa_nil)))), ?_⟩
    refine ⟨_, rfl, by show 2 ≤ sizeLine; decide, fun l1 hl1 => ?_⟩
    obtain ⟨n1, n2⟩ := B.fresh hl1
    refine ⟨b, s, l1, _, rfl, B.up (Up.new (K := g.K) (ms := []) hl1), upd_same, n1, by show 1 ≤ 2; decide, by show 2 ≤ 1000; decide, fun v1 H1 hv1 e1 B1 => ?_⟩
    refine ⟨_, rfl, by show 3 ≤ sizeLine; decide, fun l2 hl2 => ?_⟩
    obtain ⟨n3, n4⟩ := B1.fresh hl2
    refine ⟨b, s, l2, _, rfl, B1.up (Up.new (K := g.K) (ms := []) hl2), upd_same, n3, by show 1 ≤ 3; decide, by show 3 ≤ 1000; decide, fun v2 H2 hv2 e2 B2 => ?_⟩
    refine ⟨by show 2 ≤ sizeLine; decide, fun p hp => ?_⟩
    have h1 : ∃ up : Bool, v1 = .str (upS up) := by
      simp only [List.mem_cons, List.not_mem_nil, or_false] at hv1
      rcases hv1 with rfl | rfl
      · exact ⟨true, rfl⟩
      · exact ⟨false, rfl⟩
    have h2 : ∃ o : Mid, v2 = .str (midS o) := by
      simp only [List.mem_cons, List.not_mem_nil, or_false] at hv2
      rcases hv2 with rfl | rfl | rfl
      · exact ⟨.number, rfl⟩
      · exact ⟨.back, rfl⟩
      · exact ⟨.part, rfl⟩
    obtain ⟨up, rfl⟩ := h1
    obtain ⟨o, rfl⟩ := h2
    exact q p up o _ ((((Up.new hl1).trans e1).trans ((Up.new hl2).trans e2)).trans (Up.new hp)) (B2.up (Up.new (K := g.K) (ms := []) hp)) upd_same
theorem RowsOk.perm {P : Nat} {rs rs' : List Row} (h : RowsOk P rs) (p : rs'.Perm rs) : RowsOk P rs' :=
  ⟨fun r hr => h.key r (p.mem_iff.mp hr), (p.map (·.2.1)).nodup_iff.mpr h.nd, by rw [p.length_eq]; exact h.few⟩
def spTableL (K : PySem.W.Frag) : Sp := fun vs H Q _ => ∃ (l : Addr) (P : Nat) (xs : List V) (rs : List Row), vs = [.int P, .ref l] ∧ H l = some (.lst xs) ∧ Rws H xs rs ∧ 1 ≤ P ∧ P ≤ 4 ∧ RowsOk P rs ∧ ∀ t r rs' H', Up K [] H H' → rs'.Perm rs → TabO K H' t r P rs' → Q (.ref t) H'
theorem c__law_table (T : Tx g) : Cal g 6 "_law_table" (spTableL g.K) := by
  obtain ⟨fd, F⟩ := T.fun_ in__law_table
  refine ⟨_, fd, p__law_table, def_ok F sc__law_table (fun vs H Q E h => ?_) (fun cdv A outer s H vs Q E hr h => ?_), g__law_table T, F.kp, F.bindsN fun _ _ _ _ _ _ us hl => match us, hl with | [_, _], _ => rfl⟩
  · obtain ⟨_, _, _, _, rfl, _⟩ := h
    rfl
  · obtain ⟨l, P, xs, rs, rfl, hl, hx, p1, p4, ok, q⟩ := h
    refine ⟨_, pss_one (ps_ret (pe_i (c_Table T) hr (by rfl) (g_Table T) (pa_cons (pv 0) (pa_cons (pe_callTy (r := rListOf g.K) call_listOf (by rfl) (f_list T) boot_list (pa_cons (pv 1) pa_nil)) pa_nil)))), ?_⟩
    refine ⟨_, rfl, _, rfl, l, xs, rfl, .inl (SqL.of hl), fun l2 hl2 t dx ht hdx hne => ?_⟩
    have e1 : Up g.K [] H (upd H l2 (.lst xs)) := Up.new hl2
    have k1 : upd H l2 (.lst xs) l2 = some (.lst xs) := upd_same
    generalize (upd H l2 (.lst xs)) = H1 at e1 k1 ht hdx ⊢
    have ht2 : upd H1 dx (.own t) t = none := by rw [upd_ne (Ne.symm hne)]; exact ht
    have e2 : Up g.K [] H1 (upd (upd H1 dx (.own t)) t (.ins (He.ga g.K "Table") dx [])) := (Up.new hdx).trans (Up.new ht2)
    refine ⟨t, l2, dx, P, xs, rs, rfl, upd_same, e2.lst k1, (e1.trans e2).ts.rws hx, p1, p4, ok, fun H' r ys rs' e3 fr h1 h2 h3 h4 => ⟨rfl, ?_⟩⟩
    exact q t r rs' H' (((e1.trans e2).wide.trans e3).drop (e1.fresh ht)) h4 ⟨⟨dx, h1⟩, ys, h2, h3⟩
end K48

namespace K48
open PySem PySem.Spec PyProof.Rows L2 ClX
variable {g : GX}
def spRowsL (K : PySem.W.Frag) : Sp := fun vs H Q _ => ∃ (b s : Addr) (P many : Nat), vs = [.ref b, .int P, .int many, .bl false] ∧ BagO H b s ∧ 1 ≤ P ∧ P ≤ 4 ∧ many ≤ 20 ∧ ∀ p ys rs H', RowsOk P rs → Up K [b] H H' → BagO H' b s → Fr H p → H' p = some (.lst ys) → Rws H' ys rs → Q (.ref p) H'
theorem c__law_rows (T : Tx g) : Cal g 4 "_law_rows" (spRowsL g.K) := by
  obtain ⟨fd, F⟩ := T.fun_ in__law_rows
  refine ⟨_, fd, p__law_rows, def_ok F sc__law_rows (fun vs H Q E h => ?_) (fun cdv A outer s H vs Q E hr h => ?_), g__law_rows T, F.kp, F.bindsN fun _ _ _ _ _ _ us hl => match us, hl with | [_, _, _, _], _ => rfl⟩
  · obtain ⟨_, _, _, _, rfl, _⟩ := h
    rfl
  · obtain ⟨b, s, P, many, rfl, B, p1, p4, m20, q⟩ := h
    have nd := sc__law_rows.nd
    refine ⟨_, pss_cons (ps_par3 (i := 4) (j := 5) (l := 6) rfl nd rfl rfl rfl (by decide) (by decide) (by decide) rfl rfl rfl (pa_cons (pe_c (c__law_base T) hr (pa_cons (pv 0) pa_nil)) (pa_cons (pe_op op_add pe_int (pe_c (c__law_draw T) hr (pa_cons (pv 0) (pa_cons pe_int pa_nil)))) (pa_cons (pe_lst pa_nil) pa_nil))) rfl)
      (pss_cons (ps_for (g := gName 7) noxe rfl (pi_list (pe_c (c__law_numbers T) hr (pa_cons (pv 0) (pa_cons (pv 2) pa_nil)))) (pg_name (i := 7) nd rfl (Or.inl rfl))
        (pss_one (ps_expr (pe_bm PySem.F.plainAttrs_list PySem.F.slot_list_append PySem.F.type_list_append mt_append (pv 6) (pa_cons (pe_tup (pa_cons (pe_op op_add (pv 4) (pe_c (c__law_draw T) hr (pa_cons (pv 0) (pa_cons (pv 5) pa_nil)))) (pa_cons (pv 7) (pa_cons (pe_c (c__law_some_parts T) hr (pa_cons (pv 0) (pa_cons (pv 1) (pa_cons (pv 3) pa_nil)))) pa_nil)))) pa_nil)))))
      (pss_one (ps_ret (pv 6)))), ?_⟩
    refine ⟨_, rfl, b, s, rfl, B, fun base H1 b0 b1 e1 B1 => ?_⟩
    refine ⟨_, rfl, b, s, 6, rfl, B1, by omega, by omega, fun k H2 hk e2 B2 => ?_⟩
    refine ⟨_, _, rfl, rfl, Nat.zero_le _, fun p hp => ?_⟩
    have e3 : Up g.K [] H2 (upd H2 p (.lst [])) := Up.new hp
    obtain ⟨npb, nps⟩ := B2.fresh hp
    have fp : Fr H p := (e1.trans e2).fresh hp
    have e03 : Up g.K [b] H (upd H2 p (.lst [])) := (e1.trans e2).trans e3.wide
    have B3 := B2.up e3
    have k3 : upd H2 p (.lst []) p = some (.lst []) := upd_same
    generalize (upd H2 p (.lst [])) = H3 at e3 e03 B3 k3 ⊢
    refine ⟨_, _, _, rfl, ?_⟩
    show tSeq _ _ _ _ _
    refine go (σ' := [some (.ref b), some (.int P), some (.int many), some (.bl false), some (.int base), some (.int (1 + (k : Int))), some (.ref p), none]) ?_
    refine ⟨_, rfl, _, rfl, b, s, many, rfl, B3, m20, fun l ns H4 nok e4 B4 fl hl => ?_⟩
    have k4 : H4 p = some (.lst []) := e4.lst k3 (by simpa using npb)
    have npl : p ≠ l := Fr.ne k3 fl fun ps z => by cases z
    have nlb : l ≠ b := fun e => by
      obtain ⟨cells, i, d, ed, c, q1, _⟩ := B3.ex
      exact (Fr.ne q1 fl fun ps z => by cases z) e.symm
    refine ⟨l, rfl, ⟨_, SqL.of hl⟩, for_it (walk_list (K := g.K) (xs := ns.map V.int)) (fun i σ H5 => Up g.K [b, p] H4 H5 ∧ BagO H5 b s ∧ (∃ ys rs, H5 p = some (.lst ys) ∧ Rws H5 ys rs ∧ rs.map (·.2.1) = ns.take i ∧ ∀ r ∈ rs, -BND ≤ r.1 ∧ r.1 ≤ BND ∧ r.2.2 < P) ∧ ∃ w, σ = [some (.ref b), some (.int P), some (.int many), some (.bl false), some (.int base), some (.int (1 + (k : Int))), some (.ref p), w])
      ⟨Up.refl, B4, ⟨[], [], k4, .nil, by rw [List.take_zero]; rfl, fun r hr => (by cases hr)⟩, _, rfl⟩ (fun i σ H5 _ h => SqL.of (h.1.lst hl (by simp [nlb, Ne.symm npl]))) ?_ ?_⟩
    · rintro i v σ H5 H6 hi ⟨e5, B5, ⟨ys, rs, hy, hrs, hns, hb⟩, w, rfl⟩ ⟨rfl, hv⟩
      rw [List.getElem?_map] at hv
      obtain ⟨n, hn, rfl⟩ := Option.map_eq_some_iff.mp hv
      refine ⟨_, rfl, .inl ⟨rfl, ys, SqL.of hy⟩, _, rfl, _, rfl, _, rfl, b, s, 1 + k, by rw [Int.natCast_add]; rfl, B5, by omega, by omega, fun k2 H7 hk2 e7 B7 => ?_⟩
      refine ⟨_, _, rfl, rfl, _, rfl, _, rfl, _, rfl, _, rfl, b, s, P, rfl, B7, p1, p4, fun tp k3 H8 hk3 e8 B8 htp => ?_⟩
      refine ⟨by show 3 ≤ sizeLine; decide, fun r hr => ?_⟩
      have e9 : Up g.K [] H8 (upd H8 r (.tup [.int (base + (k2 : Int)), .int n, .ref tp])) := Up.new hr
      have hy8 := (e7.trans e8).lst hy (by simpa using npb)
      have yl : ys.length ≤ 1000 := by
        have h1 := rws_len hrs
        have h2 := congrArg List.length hns
        rw [List.length_map, List.length_take] at h2
        have := nok.len
        omega
      refine ⟨p, ys, _, rfl, rfl, e9.lst hy8, Nat.lt_of_le_of_lt yl (by decide), ?_⟩
      have e59 : Up g.K [b] H6 (upd H8 r (.tup [.int (base + (k2 : Int)), .int n, .ref tp])) := (e7.trans e8).trans e9.wide
      have e10 : Up g.K [p] (upd H8 r (.tup [.int (base + (k2 : Int)), .int n, .ref tp])) (upd (upd H8 r (.tup [.int (base + (k2 : Int)), .int n, .ref tp])) p (.lst (ys ++ [.ref r]))) := Up.set (e9.lst hy8) trivial (by simp)
      have eF := (e59.mono (ms' := [b, p]) (by simp)).trans (e10.mono (by simp))
      refine ⟨e5.trans eF, (B8.up e9).up e10 (by simpa using Ne.symm npb) (by simpa using Ne.symm nps), ⟨_, rs ++ [(base + (k2 : Int), n, k3)], upd_same, pair_app (eF.ts.rws hrs) ⟨r, tp, rfl, e10.tup _ _ upd_same, e10.tup _ _ (e9.tup _ _ htp)⟩, ?_, fun x hx => ?_⟩, _, rfl⟩
      · rw [List.map_append, hns, List.take_succ, hn]
        rfl
      · rcases List.mem_append.mp hx with hx | hx
        · exact hb x hx
        · rw [List.mem_singleton.mp hx]
          unfold BND at *
          exact ⟨by omega, by omega, hk3⟩
    · rintro σ H5 ⟨e5, B5, ⟨ys, rs, hy, hrs, hns, hb⟩, w, rfl⟩
      rw [List.length_map, List.take_of_length_le (Nat.le_refl _)] at hns
      refine ⟨_, rfl, q p ys rs H5 ⟨fun r hr => ?_, by rw [hns]; exact nok.nd, ?_⟩ ?_ B5 fp hy hrs⟩
      · obtain ⟨h1, h2, h3⟩ := hb r hr
        have hm : r.2.1 ∈ ns := by rw [← hns]; exact List.mem_map.mpr ⟨r, hr, rfl⟩
        obtain ⟨h4, h5⟩ := nok.in_ _ hm
        exact ⟨h1, h2, h4, h5, h3⟩
      · have h2 := congrArg List.length hns
        rw [List.length_map] at h2
        have := nok.len
        omega
      · have e05 : Up g.K [p, b] H H5 := ((e03.trans e4).mono (by simp)).trans (e5.mono fun x hx => by simp at hx ⊢; exact hx.symm)
        exact e05.drop fp
end K48

namespace K48
open PySem PySem.Spec PyProof.Rows L2 ClX
variable {g : GX}
theorem boot_tupT : bootBuiltins "tuple" = some (.type "tuple") := by decide +kernel
theorem zip_all {α : Type} [DecidableEq α] : ∀ {as bs : List α}, as.length = bs.length → ((as.zip bs).map fun w => decide (w.1 = w.2)).all id = decide (as = bs)
  | [], [], _ => by simp
  | [], b :: bs, h => by cases h
  | a :: as, [], h => by cases h
  | a :: as, b :: bs, h => by
    have ih := zip_all (as := as) (bs := bs) (by simpa using h)
    rw [List.zip_cons_cons, List.map_cons, List.all_cons, ih, Bool.eq_iff_iff]
    simp
def spLike (K : PySem.W.Frag) {α : Type} [DecidableEq α] (R : Hp → V → α → Prop) : Sp := fun vs H Q _ => ∃ x y a b, vs = [x, y] ∧ R H x a ∧ R H y b ∧ Ret K [] H (fun v _ => v = .bl (decide (a = b))) Q
def IntV (H : Hp) (v : V) (i : Int) : Prop := v = .int i
theorem like_int (T : Tx g) : Cal g 1 "_law_like" (spLike g.K IntV) := by
  obtain ⟨fd, F⟩ := T.fun_ in__law_like
  refine ⟨_, fd, p__law_like, def_ok F sc__law_like (fun vs H Q E h => ?_) (fun cdv A outer s H vs Q E hr h => ?_), g__law_like T, F.kp, F.bindsN fun _ _ _ _ _ _ us hl => match us, hl with | [_, _], _ => rfl⟩
  · obtain ⟨_, _, _, _, rfl, _⟩ := h
    rfl
  · obtain ⟨x, y, i, j, rfl, rfl, rfl, q⟩ := h
    have nd := sc__law_like.nd
    refine ⟨_, pss_cons (ps_if (pt_val (pe_callB call_isiT (by rfl) (f_isinstance T) (by decide +kernel) (pa_cons (pv 1) (pa_cons (pe_tup (pa_cons (pe_bltn (v := .ty "list") (by rfl) (f_list T) boot_list rfl) (pa_cons (pe_bltn (v := .ty "tuple") (by rfl) (f_tuple T) boot_tupT rfl) pa_nil))) pa_nil))))
        (pss_cons (ps_if (PW.pt (pw_or (pt_cmpR op_ne (pe_isB "list" (pv 0) (f_isinstance T) (f_list T)) (pe_isB "list" (pv 1) (f_isinstance T) (f_list T)) (nomark _)) (pw_or1 (pt_cmpR op_ne (pe_isB "tuple" (pv 0) (f_isinstance T) (f_tuple T)) (pe_isB "tuple" (pv 1) (f_isinstance T) (f_tuple T)) (nomark _))))) (pss_one ps_never) pss_nil)
        (pss_one (ps_ret (pe_and (pe_cmpR op_eq (pe_callB call_len_seq (by rfl) (f_len T) PySem.boot_len (pa_cons (pv 0) pa_nil)) (pe_callB call_len_seq (by rfl) (f_len T) PySem.boot_len (pa_cons (pv 1) pa_nil)) (nomark _)) (pe_one (pe_callB (cr_all rfl) (by rfl) (f_all T) (by decide +kernel) (pa_cons (pe_lc (own := [("_law_one", 2), ("_law_other", 3)]) (g := gTup g.K 2 (gCons (gName 2) (gCons (gName 3) gNil))) (tt := tYes) (te := fun _ _ _ => False) rfl nd (RZ.pi_zipA (by rfl) (f_zip T) (pa_cons (pv 0) (pa_cons (pv 1) pa_nil)))
          (blkOk_by (N := N__law_like) (sc := defScope s__law_like) (by decide +kernel)) (fun _ _ _ _ _ => pg_tup rfl (pgs_cons (pg_name (i := 2) nd rfl (Or.inl rfl)) (pgs_cons (pg_name (i := 3) nd rfl (Or.inl rfl)) pgs_nil))) (fun _ _ _ _ _ => pts_nil) (fun _ _ _ _ _ => pe_dead)) pa_nil))))))) pss_nil)
      (pss_cons (ps_if (PW.pt (pw_or (pt_cmp (pc_isN (pv 1))) (pw_or1 (pt_cmp (pc_isN (pv 0)))))) (pss_one ps_never) pss_nil)
      (pss_cons (ps_if (PW.pt (pw_or (pt_cmpR op_ne (pe_isB "bool" (pv 0) (f_isinstance T) (f_bool T)) (pe_isB "bool" (pv 1) (f_isinstance T) (f_bool T)) (nomark _)) (pw_or1 (pt_cmpR op_ne (pe_isB "int" (pv 0) (f_isinstance T) (f_int T)) (pe_isB "int" (pv 1) (f_isinstance T) (f_int T)) (nomark _))))) (pss_one ps_never) pss_nil)
      (pss_one (ps_ret (pe_and (pe_cmpR op_eq (pe_isB "str" (pv 0) (f_isinstance T) (f_str T)) (pe_isB "str" (pv 1) (f_isinstance T) (f_str T)) (nomark _)) (pe_one (pe_cmpR op_eq (pv 0) (pv 1) (nomark _)))))))), ?_⟩
    refine ⟨_, rfl, by show 2 ≤ sizeLine; decide, fun p hp => ?_⟩
    have e1 : Up g.K [] H (upd H p (.tup [.ty "list", .ty "tuple"])) := Up.new hp
    refine ⟨.int j, p, _, .type "int", _, false, rfl, upd_same, .cons (.ty _) (.cons (.ty _) .nil), .base (.int j), kitAny_cons (kit_ty (b := "list") (r := false) (by decide +kernel)) (fun _ => kitAny_cons (kit_ty (b := "tuple") (r := false) (by decide +kernel)) (fun _ => kitAny_nil) (fun e => by cases e)) (fun e => by cases e), _, rfl, iteF ?_⟩
    refine ⟨_, rfl, _, rfl, iteF ⟨_, rfl, _, rfl, iteF ?_⟩⟩
    refine ⟨_, rfl, is_int_bool i ⟨_, rfl, is_int_bool j ⟨rfl, _, rfl, iteF ⟨_, rfl, is_int_int i ⟨_, rfl, is_int_int j ⟨rfl, _, rfl, iteF ?_⟩⟩⟩⟩⟩⟩
    refine ⟨_, rfl, is_int_str i ⟨_, rfl, is_int_str j ⟨rfl, _, rfl, iteT ⟨_, rfl, _, rfl, rfl, ?_⟩⟩⟩⟩
    rw [deq_int]
    exact q _ _ e1 rfl
/-- a tuple of items -/
def TupV {α : Type} (R : Hp → V → α → Prop) (H : Hp) (v : V) (as : List α) : Prop := ∃ a xs, v = .ref a ∧ H a = some (.tup xs) ∧ Paired (R H) xs as ∧ as.length ≤ 100000
theorem TupV.up {K : PySem.W.Frag} {α : Type} {R : Hp → V → α → Prop} (st : ∀ H H' v a, Up K [] H H' → R H v a → R H' v a) (H H' : Hp) (v : V) (as : List α) (e : Up K [] H H') (h : TupV R H v as) : TupV R H' v as :=
  let ⟨a, xs, h1, h2, h3, h4⟩ := h; ⟨a, xs, h1, e.tup _ _ h2, L2.Paired.mapP h3 (fun v a => st H H' v a e), h4⟩
theorem like_Tup (T : Tx g) {α : Type} [DecidableEq α] {R : Hp → V → α → Prop} {k : Nat} (c : Cal g k "_law_like" (spLike g.K R)) (st : ∀ H H' v a, Up g.K [] H H' → R H v a → R H' v a) : Cal g (k + 1) "_law_like" (spLike g.K (TupV R)) := by
  obtain ⟨fd, F⟩ := T.fun_ in__law_like
  refine ⟨_, fd, p__law_like, def_ok F sc__law_like (fun vs H Q E h => ?_) (fun cdv A outer s H vs Q E hr h => ?_), g__law_like T, F.kp, F.bindsN fun _ _ _ _ _ _ us hl => match us, hl with | [_, _], _ => rfl⟩
  · obtain ⟨_, _, _, _, rfl, _⟩ := h
    rfl
  · obtain ⟨x, y, as, bs, rfl, ⟨a, xs, rfl, ha, hx, few⟩, ⟨b, ys, rfl, hb, hy, _⟩, q⟩ := h
    have nd := sc__law_like.nd
    refine ⟨_, pss_cons (ps_if (pt_val (pe_callB call_isiT (by rfl) (f_isinstance T) (by decide +kernel) (pa_cons (pv 1) (pa_cons (pe_tup (pa_cons (pe_bltn (v := .ty "list") (by rfl) (f_list T) boot_list rfl) (pa_cons (pe_bltn (v := .ty "tuple") (by rfl) (f_tuple T) boot_tupT rfl) pa_nil))) pa_nil))))
        (pss_cons (ps_if (PW.pt (pw_or (pt_cmpR op_ne (pe_isB "list" (pv 0) (f_isinstance T) (f_list T)) (pe_isB "list" (pv 1) (f_isinstance T) (f_list T)) (nomark _)) (pw_or1 (pt_cmpR op_ne (pe_isB "tuple" (pv 0) (f_isinstance T) (f_tuple T)) (pe_isB "tuple" (pv 1) (f_isinstance T) (f_tuple T)) (nomark _))))) (pss_one ps_never) pss_nil)
        (pss_one (ps_ret (pe_and (pe_cmpR op_eq (pe_callB call_len_seq (by rfl) (f_len T) PySem.boot_len (pa_cons (pv 0) pa_nil)) (pe_callB call_len_seq (by rfl) (f_len T) PySem.boot_len (pa_cons (pv 1) pa_nil)) (nomark _)) (pe_one (pe_callB (cr_all rfl) (by rfl) (f_all T) (by decide +kernel) (pa_cons (pe_lc (own := [("_law_one", 2), ("_law_other", 3)]) (g := gTup g.K 2 (gCons (gName 2) (gCons (gName 3) gNil))) (tt := tYes) (te := tCall (spLike g.K R) [] E0 (tCons (tVar 2) (tCons (tVar 3) tNil))) rfl nd (RZ.pi_zipA (by rfl) (f_zip T) (pa_cons (pv 0) (pa_cons (pv 1) pa_nil)))
          (blkOk_by (N := N__law_like) (sc := defScope s__law_like) (by decide +kernel)) (fun _ _ _ _ _ => pg_tup rfl (pgs_cons (pg_name (i := 2) nd rfl (Or.inl rfl)) (pgs_cons (pg_name (i := 3) nd rfl (Or.inl rfl)) pgs_nil))) (fun _ _ _ _ _ => pts_nil) (fun _ _ _ _ _ => pe_c c hr (pa_cons (pv 2) (pa_cons (pv 3) pa_nil)) (Nat.le_refl _))) pa_nil))))))) pss_nil)
      (pss_cons (ps_if (PW.pt (pw_or (pt_cmp (pc_isN (pv 1))) (pw_or1 (pt_cmp (pc_isN (pv 0)))))) (pss_one ps_never) pss_nil)
      (pss_cons (ps_if (PW.pt (pw_or (pt_cmpR op_ne (pe_isB "bool" (pv 0) (f_isinstance T) (f_bool T)) (pe_isB "bool" (pv 1) (f_isinstance T) (f_bool T)) (nomark _)) (pw_or1 (pt_cmpR op_ne (pe_isB "int" (pv 0) (f_isinstance T) (f_int T)) (pe_isB "int" (pv 1) (f_isinstance T) (f_int T)) (nomark _))))) (pss_one ps_never) pss_nil)
      (pss_one (ps_ret (pe_and (pe_cmpR op_eq (pe_isB "str" (pv 0) (f_isinstance T) (f_str T)) (pe_isB "str" (pv 1) (f_isinstance T) (f_str T)) (nomark _)) (pe_one (pe_cmpR op_eq (pv 0) (pv 1) (nomark _)))))))), ?_⟩
    refine ⟨_, rfl, by show 2 ≤ sizeLine; decide, fun p hp => ?_⟩
    have e1 : Up g.K [] H (upd H p (.tup [.ty "list", .ty "tuple"])) := Up.new hp
    have k1 : upd H p (.tup [.ty "list", .ty "tuple"]) p = some (.tup [.ty "list", .ty "tuple"]) := upd_same
    generalize (upd H p (.tup [.ty "list", .ty "tuple"])) = H1 at e1 k1 ⊢
    have ha1 := e1.tup _ _ ha
    have hb1 := e1.tup _ _ hb
    have lx := Paired.length hx
    have ly := Paired.length hy
    refine ⟨.ref b, p, _, .type "tuple", _, true, rfl, k1, .cons (.ty _) (.cons (.ty _) .nil), .base (.tup hb1), kitAny_cons (kit_ty (b := "list") (r := false) (by decide +kernel)) (fun _ => kitAny_cons (kit_ty (b := "tuple") (r := true) (by decide +kernel)) (fun e => by cases e) (fun _ => rfl)) (fun e => by cases e), _, rfl, iteT ?_⟩
    refine ⟨_, rfl, is_tuple_list ha1 ⟨_, rfl, is_tuple_list hb1 ⟨rfl, _, rfl, iteF ⟨_, rfl, is_tuple_tuple ha1 ⟨_, rfl, is_tuple_tuple hb1 ⟨rfl, _, rfl, iteF ?_⟩⟩⟩⟩⟩⟩
    refine ⟨_, rfl, a, _, rfl, .inr (SqT.of ha1), _, rfl, b, _, rfl, .inr (SqT.of hb1), rfl, _, rfl, ?_⟩
    rw [deq_int, lx, ly]
    by_cases hl : as.length = bs.length
    · rw [decide_eq_true (show ((as.length : Nat) : Int) = (bs.length : Int) by omega)]
      refine iteT ⟨_, rfl, _, rfl, a, b, xs, ys, rfl, .inr ⟨SqT.of ha1, SqT.of hb1, fun D hD => ?_⟩⟩
      refine lc_walk (K := g.K) (walk_zipT (n := (as.zip bs).length) (by rw [List.length_zip, lx, ly])) [] (fun _ => true) (fun i y _ => ∃ w, (as.zip bs)[i]? = some w ∧ y = .bl (decide (w.1 = w.2))) hD (fun H' e => ⟨SqT.of (e.tup _ _ ha1), SqT.of (e.tup _ _ hb1)⟩) (fun i H x H' y => yp_up y) (by rw [List.length_zip]; omega) (fun _ _ _ _ _ h => h)
          (fun i v H2 H3 hi e2 hD2 hyp QQ qq => ?_) (by simp) fun zs H2 e2 eD lr => ?_
      · have e3 := yp_up (K := g.K) (ms := []) hyp
        refine gt2 hyp fun u w h1 h2 => qq _ _ Up.refl (by rw [wipe_set (by simp), wipe_set (by simp), wipe_two]) EvB.yes fun _ H4 e4 Q4 k4 => ?_
        obtain ⟨u', hu, ru⟩ := pair_fwd hx h1
        obtain ⟨w', hw, rw_⟩ := pair_fwd hy h2
        have e14 := e1.trans (e2.trans (e3.trans e4))
        refine ⟨_, rfl, _, rfl, u, w, u', w', rfl, st _ _ _ _ e14 ru, st _ _ _ _ e14 rw_, fun v5 H5 e5 hv5 => ?_⟩
        exact k4 _ _ e5 ⟨(u', w'), by rw [List.getElem?_zip_eq_some]; exact ⟨hu, hw⟩, hv5⟩
      · obtain rfl := lr_map (f := fun w : α × α => V.bl (decide (w.1 = w.2))) rfl lr
        refine ⟨D, (as.zip bs).map fun w => decide (w.1 = w.2), rfl, SqL.of (by rw [eD, List.map_map]; rfl), ?_⟩
        rw [zip_all hl]
        exact q _ _ (e1.trans e2) rfl
    · rw [decide_eq_false (show ¬ ((as.length : Nat) : Int) = (bs.length : Int) by omega)]
      refine iteF (q _ _ e1 ?_)
      rw [decide_eq_false fun e => hl (by rw [e])]
/-- a list of items -/
def LstV {α : Type} (R : Hp → V → α → Prop) (H : Hp) (v : V) (as : List α) : Prop := ∃ a xs, v = .ref a ∧ H a = some (.lst xs) ∧ Paired (R H) xs as ∧ as.length ≤ 100000
theorem LstV.up {K : PySem.W.Frag} {α : Type} {R : Hp → V → α → Prop} (st : ∀ H H' v a, Up K [] H H' → R H v a → R H' v a) (H H' : Hp) (v : V) (as : List α) (e : Up K [] H H') (h : LstV R H v as) : LstV R H' v as :=
  let ⟨a, xs, h1, h2, h3, h4⟩ := h; ⟨a, xs, h1, e.lst h2, L2.Paired.mapP h3 (fun v a => st H H' v a e), h4⟩
theorem like_Lst (T : Tx g) {α : Type} [DecidableEq α] {R : Hp → V → α → Prop} {k : Nat} (c : Cal g k "_law_like" (spLike g.K R)) (st : ∀ H H' v a, Up g.K [] H H' → R H v a → R H' v a) : Cal g (k + 1) "_law_like" (spLike g.K (LstV R)) := by
  obtain ⟨fd, F⟩ := T.fun_ in__law_like
  refine ⟨_, fd, p__law_like, def_ok F sc__law_like (fun vs H Q E h => ?_) (fun cdv A outer s H vs Q E hr h => ?_), g__law_like T, F.kp, F.bindsN fun _ _ _ _ _ _ us hl => match us, hl with | [_, _], _ => rfl⟩
  · obtain ⟨_, _, _, _, rfl, _⟩ := h
    rfl
  · obtain ⟨x, y, as, bs, rfl, ⟨a, xs, rfl, ha, hx, few⟩, ⟨b, ys, rfl, hb, hy, _⟩, q⟩ := h
    have nd := sc__law_like.nd
    refine ⟨_, pss_cons (ps_if (pt_val (pe_callB call_isiT (by rfl) (f_isinstance T) (by decide +kernel) (pa_cons (pv 1) (pa_cons (pe_tup (pa_cons (pe_bltn (v := .ty "list") (by rfl) (f_list T) boot_list rfl) (pa_cons (pe_bltn (v := .ty "tuple") (by rfl) (f_tuple T) boot_tupT rfl) pa_nil))) pa_nil))))
        (pss_cons (ps_if (PW.pt (pw_or (pt_cmpR op_ne (pe_isB "list" (pv 0) (f_isinstance T) (f_list T)) (pe_isB "list" (pv 1) (f_isinstance T) (f_list T)) (nomark _)) (pw_or1 (pt_cmpR op_ne (pe_isB "tuple" (pv 0) (f_isinstance T) (f_tuple T)) (pe_isB "tuple" (pv 1) (f_isinstance T) (f_tuple T)) (nomark _))))) (pss_one ps_never) pss_nil)
        (pss_one (ps_ret (pe_and (pe_cmpR op_eq (pe_callB call_len_seq (by rfl) (f_len T) PySem.boot_len (pa_cons (pv 0) pa_nil)) (pe_callB call_len_seq (by rfl) (f_len T) PySem.boot_len (pa_cons (pv 1) pa_nil)) (nomark _)) (pe_one (pe_callB (cr_all rfl) (by rfl) (f_all T) (by decide +kernel) (pa_cons (pe_lc (own := [("_law_one", 2), ("_law_other", 3)]) (g := gTup g.K 2 (gCons (gName 2) (gCons (gName 3) gNil))) (tt := tYes) (te := tCall (spLike g.K R) [] E0 (tCons (tVar 2) (tCons (tVar 3) tNil))) rfl nd (RZ.pi_zipA (by rfl) (f_zip T) (pa_cons (pv 0) (pa_cons (pv 1) pa_nil)))
          (blkOk_by (N := N__law_like) (sc := defScope s__law_like) (by decide +kernel)) (fun _ _ _ _ _ => pg_tup rfl (pgs_cons (pg_name (i := 2) nd rfl (Or.inl rfl)) (pgs_cons (pg_name (i := 3) nd rfl (Or.inl rfl)) pgs_nil))) (fun _ _ _ _ _ => pts_nil) (fun _ _ _ _ _ => pe_c c hr (pa_cons (pv 2) (pa_cons (pv 3) pa_nil)) (Nat.le_refl _))) pa_nil))))))) pss_nil)
      (pss_cons (ps_if (PW.pt (pw_or (pt_cmp (pc_isN (pv 1))) (pw_or1 (pt_cmp (pc_isN (pv 0)))))) (pss_one ps_never) pss_nil)
      (pss_cons (ps_if (PW.pt (pw_or (pt_cmpR op_ne (pe_isB "bool" (pv 0) (f_isinstance T) (f_bool T)) (pe_isB "bool" (pv 1) (f_isinstance T) (f_bool T)) (nomark _)) (pw_or1 (pt_cmpR op_ne (pe_isB "int" (pv 0) (f_isinstance T) (f_int T)) (pe_isB "int" (pv 1) (f_isinstance T) (f_int T)) (nomark _))))) (pss_one ps_never) pss_nil)
      (pss_one (ps_ret (pe_and (pe_cmpR op_eq (pe_isB "str" (pv 0) (f_isinstance T) (f_str T)) (pe_isB "str" (pv 1) (f_isinstance T) (f_str T)) (nomark _)) (pe_one (pe_cmpR op_eq (pv 0) (pv 1) (nomark _)))))))), ?_⟩
    refine ⟨_, rfl, by show 2 ≤ sizeLine; decide, fun p hp => ?_⟩
    have e1 : Up g.K [] H (upd H p (.tup [.ty "list", .ty "tuple"])) := Up.new hp
    have k1 : upd H p (.tup [.ty "list", .ty "tuple"]) p = some (.tup [.ty "list", .ty "tuple"]) := upd_same
    generalize (upd H p (.tup [.ty "list", .ty "tuple"])) = H1 at e1 k1 ⊢
    have ha1 := e1.lst ha
    have hb1 := e1.lst hb
    have lx := Paired.length hx
    have ly := Paired.length hy
    refine ⟨.ref b, p, _, .type "list", _, true, rfl, k1, .cons (.ty _) (.cons (.ty _) .nil), .base (.lst hb1), kitAny_cons (kit_ty (b := "list") (r := true) (by decide +kernel)) (fun e => by cases e) (fun _ => rfl), _, rfl, iteT ?_⟩
    refine ⟨_, rfl, is_list_list ha1 ⟨_, rfl, is_list_list hb1 ⟨rfl, _, rfl, iteF ⟨_, rfl, is_list_tuple ha1 ⟨_, rfl, is_list_tuple hb1 ⟨rfl, _, rfl, iteF ?_⟩⟩⟩⟩⟩⟩
    refine ⟨_, rfl, a, _, rfl, .inl (SqL.of ha1), _, rfl, b, _, rfl, .inl (SqL.of hb1), rfl, _, rfl, ?_⟩
    rw [deq_int, lx, ly]
    by_cases hl : as.length = bs.length
    · rw [decide_eq_true (show ((as.length : Nat) : Int) = (bs.length : Int) by omega)]
      refine iteT ⟨_, rfl, _, rfl, a, b, xs, ys, rfl, .inl ⟨SqL.of ha1, SqL.of hb1, fun D hD => ?_⟩⟩
      refine lc_walk (K := g.K) (walk_zip (n := (as.zip bs).length) (by rw [List.length_zip, lx, ly])) [] (fun _ => true) (fun i y _ => ∃ w, (as.zip bs)[i]? = some w ∧ y = .bl (decide (w.1 = w.2))) hD (fun H' e => ⟨SqL.of (e.lst ha1), SqL.of (e.lst hb1)⟩) (fun i H x H' y => yp_up y) (by rw [List.length_zip]; omega) (fun _ _ _ _ _ h => h)
          (fun i v H2 H3 hi e2 hD2 hyp QQ qq => ?_) (by simp) fun zs H2 e2 eD lr => ?_
      · have e3 := yp_up (K := g.K) (ms := []) hyp
        refine gt2 hyp fun u w h1 h2 => qq _ _ Up.refl (by rw [wipe_set (by simp), wipe_set (by simp), wipe_two]) EvB.yes fun _ H4 e4 Q4 k4 => ?_
        obtain ⟨u', hu, ru⟩ := pair_fwd hx h1
        obtain ⟨w', hw, rw_⟩ := pair_fwd hy h2
        have e14 := e1.trans (e2.trans (e3.trans e4))
        refine ⟨_, rfl, _, rfl, u, w, u', w', rfl, st _ _ _ _ e14 ru, st _ _ _ _ e14 rw_, fun v5 H5 e5 hv5 => ?_⟩
        exact k4 _ _ e5 ⟨(u', w'), by rw [List.getElem?_zip_eq_some]; exact ⟨hu, hw⟩, hv5⟩
      · obtain rfl := lr_map (f := fun w : α × α => V.bl (decide (w.1 = w.2))) rfl lr
        refine ⟨D, (as.zip bs).map fun w => decide (w.1 = w.2), rfl, SqL.of (by rw [eD, List.map_map]; rfl), ?_⟩
        rw [zip_all hl]
        exact q _ _ (e1.trans e2) rfl
    · rw [decide_eq_false (show ¬ ((as.length : Nat) : Int) = (bs.length : Int) by omega)]
      refine iteF (q _ _ e1 ?_)
      rw [decide_eq_false fun e => hl (by rw [e])]
end K48

namespace K48
open PySem PySem.Spec PyProof.Rows L2 ClX
variable {g : GX}
theorem kb_Hand {K : PySem.W.Frag} {f : Addr} {fd : FuncData} (F : FunD K d_Hand___init__.name d_Hand___init__.qual d_Hand___init__.params d_Hand___init__.body d_Hand___init__.scope (d_Hand___init__.dvs K) (d_Hand___init__.kws K) f fd) :
    ∃ mv : List Value, KBn K fd p_Hand___init__ 4 ["inner", "order"] (fun us ws => us ++ ws) (fun vs zs => vs ++ zs) :=
  F.kbinds0 4 ["inner", "order"] [] (fun us _ ws => us ++ ws) (by intro e; cases e) (fun q h => by cases h) (fun h1 _ h3 => h1.append h3) fun D doc pm an cdv ct us mv ws h1 h2 h3 => match us, h1, mv, h2, ws, h3 with | [_, _, _, _], _, [], _, [_, _], _ => rfl
theorem kb_Reader {K : PySem.W.Frag} {f : Addr} {fd : FuncData} (F : FunD K d_Reader___init__.name d_Reader___init__.qual d_Reader___init__.params d_Reader___init__.body d_Reader___init__.scope (d_Reader___init__.dvs K) (d_Reader___init__.kws K) f fd) :
    ∃ mv : List Value, KBn K fd p_Reader___init__ 3 ["inner", "order"] (fun us ws => us ++ ws) (fun vs zs => vs ++ zs) :=
  F.kbinds0 3 ["inner", "order"] [] (fun us _ ws => us ++ ws) (by intro e; cases e) (fun q h => by cases h) (fun h1 _ h3 => h1.append h3) fun D doc pm an cdv ct us mv ws h1 h2 h3 => match us, h1, mv, h2, ws, h3 with | [_, _, _], _, [], _, [_, _], _ => rfl
theorem pair_take {α β : Type} {F : α → β → Prop} : ∀ {l : List α} {l' : List β} (n : Nat), Paired F l l' → Paired F (l.take n) (l'.take n)
  | _, _, 0, _ => .nil
  | _, _, n + 1, .nil => .nil
  | _, _, n + 1, .cons r t => .cons r (pair_take n t)
theorem st_int {K : PySem.W.Frag} (H H' : Hp) (v : V) (i : Int) (e : Up K [] H H') (h : IntV H v i) : IntV H' v i := h
abbrev PlR : Hp → V → List Int → Prop := TupV IntV
abbrev PgR : Hp → V → List (List Int) → Prop := LstV PlR
theorem plr_of {H : Hp} {v : V} {p : Place} (h : PlV H v p) : PlR H v (kI p) := let ⟨a, h1, h2⟩ := h; ⟨a, _, h1, h2, .cons rfl (.cons rfl .nil), by show 2 ≤ 100000; decide⟩
theorem plrs_of {H : Hp} : ∀ {xs : List V} {ps : List Place}, Pls H xs ps → Paired (PlR H) xs (ps.map kI)
  | _, _, .nil => .nil
  | _, _, .cons r t => .cons (plr_of r) (plrs_of t)
theorem pgrs_of {H : Hp} : ∀ {xs : List V} {ps : List (List Place)}, Paired (PgL H) xs ps → (∀ p ∈ ps, p.length ≤ 100000) → Paired (PgR H) xs (ps.map fun p => p.map kI)
  | _, _, .nil, _ => .nil
  | _, _, .cons r t, h => .cons (let ⟨a, xs, h1, h2, h3⟩ := r; ⟨a, xs, h1, h2, plrs_of h3, by rw [List.length_map]; exact h _ List.mem_cons_self⟩) (pgrs_of t fun p hp => h p (List.mem_cons_of_mem _ hp))
theorem mem_flat_len {l : List (List Place)} {p : List Place} (h : p ∈ l) : p.length ≤ l.flatten.length := by
  induction l with
  | nil => cases h
  | cons q l ih =>
    rw [List.flatten_cons, List.length_append]
    rcases List.mem_cons.mp h with rfl | h
    · omega
    · have := ih h
      omega
/-- told in any order, sorted -/
theorem sorted_same {xs ys : List Place} (h : xs.Perm ys) : xs.mergeSort (leK kI) = ys.mergeSort (leK kI) := sort_perm_eq kI h fun _ _ _ _ e => kI_inj e
theorem pls_of2 {H : Hp} : ∀ {bs : List (V × Place)}, (∀ b ∈ bs, PlV H b.1 b.2) → Pls H (bs.map (·.1)) (bs.map (·.2))
  | [], _ => .nil
  | b :: bs, h => .cons (h b List.mem_cons_self) (pls_of2 fun c hc => h c (List.mem_cons_of_mem _ hc))
/-- a sorted list of places, as it stands -/
theorem sort_at {H : Hp} {bs : List (V × Place)} {ps : List Place} (e : bs.map (·.2) = ps) (h : ∀ b ∈ bs, PlV H b.1 b.2) : Pls H ((bs.mergeSort (PySem.W.dataLe false fun b => plD b.2)).map (·.1)) (ps.mergeSort (leK kI)) := by
  have h1 := pls_of2 (bs := bs.mergeSort (PySem.W.dataLe false fun b => plD b.2)) fun b hb => h b (List.mem_mergeSort.mp hb)
  have h2 : (bs.mergeSort (PySem.W.dataLe false fun b => plD b.2)).map (·.2) = (bs.map (·.2)).mergeSort (leK kI) := map_sort (κ := kI) bs
  rw [h2, e] at h1
  exact h1
theorem any_empty {ps : List (List Place)} (h : ∀ p ∈ ps, p ≠ []) : ((ps.map fun p => PyData.list (p.map plD)).any fun z => PyData.eqv z (.list [])) = false := by
  rw [List.any_eq_false]
  intro z hz e
  obtain ⟨p, hp, rfl⟩ := List.mem_map.mp hz
  have e2 : PyData.eqv (.list (p.map plD)) (.list []) = true := e
  rw [eqv_nil, decide_eq_true_eq] at e2
  exact h p hp e2
theorem dp_pgl {K : PySem.W.Frag} {H : Hp} : ∀ {xs : List V} {ps : List (List Place)}, Paired (PgL H) xs ps → DpAll K H xs (ps.map fun p => .list (p.map plD))
  | _, _, .nil => .nil
  | _, _, .cons ⟨a, ys, e, ha, hy⟩ t => .cons (by rw [e]; exact .lst (SqL.of ha) (dp_pls hy)) (dp_pgl t)
theorem sh_pgl (ps : List (List Place)) : Sh 3 (.list (ps.map fun p => .list (p.map plD))) := Sh.list fun d hd => by
  obtain ⟨p, _, rfl⟩ := List.mem_map.mp hd
  exact sh_pls p
end K48

namespace K48
open PySem PySem.Spec PyProof.Rows L2 ClX
variable {g : GX}
theorem lk_places (T : Tx g) : Cal g 3 "_law_like" (spLike g.K PgR) := like_Lst T (like_Tup T (like_int T) st_int) (TupV.up st_int)
theorem lk_pages (T : Tx g) : Cal g 4 "_law_like" (spLike g.K (LstV PgR)) := like_Lst T (lk_places T) (LstV.up (TupV.up st_int))
def spLaw (K : PySem.W.Frag) : Sp := fun vs H Q _ => ∃ (l : Addr) (ns : List Int), vs = [.ref l] ∧ SqL K H l (ns.map V.int) ∧ ns.length ≤ 63 ∧ LamX.Tabs (tabT K) H ∧ ∀ H', Q (.bl true) H'
theorem c_law (T : Tx g) : ∃ fd, FnOk g.P g.w g.K g.mg g.base CX0 9 (He.ga g.K "law") fd p_law (spLaw g.K) ∧ FunD g.K d_law.name d_law.qual d_law.params d_law.body d_law.scope (d_law.dvs g.K) (d_law.kws g.K) (He.ga g.K "law") fd := by
  obtain ⟨fd, F⟩ := T.fun_ in_law
  obtain ⟨fdw, GW⟩ := gen_walk T
  obtain ⟨fdh, FH, MH, DH⟩ := r_Hand T
  obtain ⟨mvh, KH⟩ := kb_Hand DH
  obtain ⟨fdr, FR, MR, DR⟩ := r_Reader T
  obtain ⟨mvr, KR⟩ := kb_Reader DR
  obtain ⟨fdj, FJ, kpj, dsj, rdj, bdj⟩ := c_judge T
  refine ⟨fd, def_ok F sc_law (fun vs H Q E h => ?_) (fun cdv A outer s H vs Q E hr h => ?_), F⟩
  · obtain ⟨_, _, rfl, _⟩ := h
    rfl
  · obtain ⟨l, ns, rfl, hl, few, tabs, q⟩ := h
    have nd := sc_law.nd
    refine ⟨_, pss_cons (ps_set (i := 1) nd rfl (Or.inr rfl) (pe_c (c__law_open T) hr (pa_cons (pv 0) pa_nil)))
      (pss_cons (ps_for (g := gName 2) noxe rfl (pi_range1 (by rfl) (f_range T) (pa_cons pe_int pa_nil)) (pg_name (i := 2) nd rfl (Or.inl rfl))
        (pss_cons (ps_asg (pe_tup (pa_cons (pe_op op_add pe_int (pe_c (c__law_draw T) hr (pa_cons (pv 1) (pa_cons pe_int pa_nil)))) (pa_cons (pe_op op_add pe_int (pe_c (c__law_draw T) hr (pa_cons (pv 1) (pa_cons pe_int pa_nil)))) pa_nil))) (pg_tup (n := 2) rfl (pgs_cons (pg_name (i := 3) nd rfl (Or.inl rfl)) (pgs_cons (pg_name (i := 4) nd rfl (Or.inr rfl)) pgs_nil))))
        (pss_cons (ps_set (i := 5) nd rfl (Or.inl rfl) (pe_callTy call_tuple_of (by rfl) (f_tuple T) (by decide +kernel) (pa_cons (pe_lc (own := [("_law_part", 17)]) (g := gName 17) (tt := tYes)
            (te := tCB (fun xs H Q => ∃ i j, xs = [V.int i, .int j] ∧ Q (.int (if j < i then j else i)) H) (tCons (tC (.int 9)) (tCons (tCall (spOf g.K) [] E0 (tCons (tVar 1) (tCons (tLst (tCons (tVar 4) (tCons (tOp (rI0 fun i j => .int (i + j)) (tVar 4) (tC (.int 1))) (tCons (tOp (rI0 fun i j => .int (i + j)) (tC (.int 1)) (tCall (spDraw g.K) [] E0 (tCons (tVar 1) (tCons (tC (.int 9)) tNil)))) tNil)))) tNil))) tNil)))
            rfl nd (pi_range1 (by rfl) (f_range T) (pa_cons (pv 3) pa_nil)) (blkOk_by (N := N_law) (sc := defScope s_law) (by decide +kernel)) (fun _ _ _ _ _ => pg_name (i := 17) nd rfl (Or.inl rfl)) (fun _ _ _ _ _ => pts_nil)
            (fun _ _ _ _ _ => pe_callB (call_min2 rfl) (by rfl) (f_min T) (by decide +kernel) (pa_cons pe_int (pa_cons (pe_c (c__law_of T) hr (pa_cons (pv 1) (pa_cons (pe_lst (pa_cons (pv 4) (pa_cons (pe_op op_add (pv 4) pe_int) (pa_cons (pe_op op_add pe_int (pe_c (c__law_draw T) hr (pa_cons (pv 1) (pa_cons pe_int pa_nil)))) pa_nil)))) pa_nil))) pa_nil)))) pa_nil)))
        (pss_cons (ps_set (i := 6) nd rfl (Or.inl rfl) (pe_c (c__law_rows T) hr (pa_cons (pv 1) (pa_cons (pv 3) (pa_cons (pe_c (c__law_draw T) hr (pa_cons (pv 1) (pa_cons pe_int pa_nil))) (pa_cons pe_bl pa_nil))))))
        (pss_cons (ps_asg (pe_c (c__law_ties_drawn T) hr (pa_cons (pv 1) pa_nil)) (pg_tup (n := 2) rfl (pgs_cons (pg_name (i := 7) nd rfl (Or.inl rfl)) (pgs_cons (pg_name (i := 8) nd rfl (Or.inl rfl)) pgs_nil))))
        (pss_cons (ps_set (i := 9) nd rfl (Or.inl rfl) (pe_c (c__law_table T) hr (pa_cons (pv 3) (pa_cons (pv 6) pa_nil))))
        (pss_cons (ps_setGl (i := 11) nd rfl rfl (sw_true rfl rfl rfl rfl) (pe_makeK MH FH (hr.mono (by decide)) (by rfl) (g_Hand T) KH pass0 (pa_cons (pv 9) (pa_cons (pv 5) (pa_cons (pv 4) pa_nil))) (pk_cons (pv 7) (pk_cons (pv 8) pk_nil))) (cl_Hand T) (m_Hand_walk T) GW (hr.mono (by decide)) (by decide +kernel) rfl (by decide +kernel) (fun _ _ => rfl) (fun _ _ => rfl))
        (pss_cons (ps_set (i := 12) nd rfl (Or.inl rfl) (pe_makeK MR FR (hr.mono (by decide)) (by rfl) (g_Reader T) KR pass0 (pa_cons pe_str (pa_cons (pe_lst (pa_cons (pe_tup (pa_cons (pv 4) (pa_cons (pv 5) (pa_cons pe_int (pa_cons pe_int pa_nil))))) pa_nil)) pa_nil)) (pk_cons (pv 7) (pk_cons (pv 8) pk_nil))))
        (pss_cons (ps_asg (pe_call FJ (hr.mono (by decide)) (by rfl) (g_judge T) kpj bdj rdj pass0 (pa_cons (pv 12) (pa_cons (pv 9) pa_nil))) (pg_tup (n := 3) rfl (pgs_cons (pg_name (i := 13) nd rfl (Or.inl rfl)) (pgs_cons (pg_name (i := 14) nd rfl (Or.inl rfl)) (pgs_cons (pg_name (i := 15) nd rfl (Or.inl rfl)) pgs_nil)))))
        (pss_cons (ps_if (PW.pt (pw_or (pt_not (pt_val (pe_c (lk_pages T) hr (pa_cons (pe_slice sl_list (pv 11) po_none (po_some (pe_callB call_len_seq (by rfl) (f_len T) PySem.boot_len (pa_cons (pv 15) pa_nil)))) (pa_cons (pv 15) pa_nil))))) (pw_or1 (pt_cmpR op_notIn_seq (pv 13) (pe_lst (pa_cons pe_str (pa_cons pe_str pa_nil))) rfl)))) (pss_one ps_never) pss_nil)
        (pss_cons (ps_if (PW.pt (pw_and (pt_cmpR op_eq (pv 13) pe_str (nomark _)) (pw_and1 (pt_not (pt_val (pe_c (lk_pages T) hr (pa_cons (pv 11) (pa_cons (pv 15) pa_nil)))))))) (pss_one ps_never) pss_nil)
        (pss_cons (ps_set (i := 16) nd rfl (Or.inl rfl) (pe_lst pa_nil))
        (pss_cons (ps_for (g := gName 10) noxe rfl (pi_list (pv 11)) (pg_name (i := 10) nd rfl (Or.inl rfl)) (pss_one (ps_set (i := 16) nd rfl (Or.inl rfl) (pe_op op_cat (pv 16) (pv 10)))))
        (pss_one (ps_if (PW.pt (pw_or (pt_not (pt_val (pe_c (lk_places T) hr (pa_cons (pe_callB (call_sortD (δ := Place) (enc := plD) hr.units) (by rfl) (f_sorted T) (by decide +kernel) (pa_cons (pv 16) pa_nil))
            (pa_cons (pe_callB (call_sortD (δ := Place) (enc := plD) hr.units) (by rfl) (f_sorted T) (by decide +kernel) (pa_cons (pe_lc (own := [("_law_row", 18)]) (g := gName 18) (tt := tYes) (te := tSl (rSlT g.K) (tVar 18) tNoPart (tPart (tC (.int 2)))) rfl nd (pi_list (pv 6)) (blkOk_by (N := N_law) (sc := defScope s_law) (by decide +kernel)) (fun _ _ _ _ _ => pg_name (i := 18) nd rfl (Or.inl rfl)) (fun _ _ _ _ _ => pts_nil) (fun _ _ _ _ _ => pe_slice sl_tup (pv 18) po_none (po_some pe_int))) pa_nil)) pa_nil))))) (pw_or1 (pt_cmpR (op_inD (room65 hr)) (pe_lst pa_nil) (pv 11) rfl)))) (pss_one ps_never) pss_nil)))))))))))))))
      (pss_one (ps_ret pe_bl))), ?_⟩
    refine ⟨_, rfl, l, ns, rfl, hl, few, fun H1 b s e1 fb fs B1 => ?_⟩
    refine ⟨4, rfl, by omega, by omega, for_it (walk_upto (n := 4)) (fun i σ H2 => Up g.K [b] H1 H2 ∧ BagO H2 b s ∧ ∃ u2 u3 u4 u5 u6 u7 u8 u9 u10 u11 u12 u13 u14 u15 u16, σ = [some (.ref l), some (.ref b), u2, u3, u4, u5, u6, u7, u8, u9, u10, u11, u12, u13, u14, u15, u16, none, none])
      ⟨Up.refl, B1, _, _, _, _, _, _, _, _, _, _, _, _, _, _, _, rfl⟩ (fun _ _ _ _ _ => trivial) ?_ ?_⟩
    rotate_left
    · rintro σ H2 _
      exact q H2
    rintro i v σ H2' H2 hi ⟨e2, B2, u2, u3, u4, u5, u6, u7, u8, u9, u10, u11, u12, u13, u14, u15, u16, rfl⟩ ⟨rfl, rfl⟩
    have tabs2 := e2.tabs (e1.tabs tabs)
    -- parts, size
    refine ⟨_, rfl, b, s, 4, rfl, B2, by omega, by omega, fun kp H3 hkp e3 B3 => ?_⟩
    refine ⟨_, _, rfl, rfl, _, rfl, b, s, 9, rfl, B3, by omega, by omega, fun ks H4 hks e4 B4 => ?_⟩
    refine ⟨_, _, rfl, rfl, by show 2 ≤ sizeLine; decide, fun p hp => ?_⟩
    have e5 : Up g.K [] H4 (upd H4 p (.tup [.int (1 + (kp : Int)), .int (1 + (ks : Int))])) := Up.new hp
    refine ⟨p, _, rfl, SqT.of upd_same, rfl, _, _, rfl, _, _, rfl, rfl, ?_⟩
    have B5 := B4.up e5
    have e25 : Up g.K [b] H2 (upd H4 p (.tup [.int (1 + (kp : Int)), .int (1 + (ks : Int))])) := (e3.trans e4).trans e5.wide
    generalize (upd H4 p (.tup [.int (1 + (kp : Int)), .int (1 + (ks : Int))])) = H5 at e5 B5 e25 ⊢
    obtain ⟨P, hP⟩ : ∃ P, P = 1 + kp := ⟨_, rfl⟩
    obtain ⟨S, hS⟩ : ∃ S, S = 1 + ks := ⟨_, rfl⟩
    show tSeq _ _ _ _ _
    refine go (σ' := [some (.ref l), some (.ref b), some (.int i), some (.int P), some (.int S), u5, u6, u7, u8, u9, u10, u11, u12, u13, u14, u15, u16, none, none]) ?_ (by rw [hP, hS]; rfl)
    have p1 : 1 ≤ P := by omega
    have p4 : P ≤ 4 := by omega
    have s1 : 1 ≤ S := by omega
    have s9 : S ≤ 9 := by omega
    clear hP hS hkp hks
    -- asks
    refine ⟨_, rfl, (P : Int), rfl, by omega, by omega, ?_⟩
    rw [Int.toNat_natCast]
    intro D hD
    obtain ⟨nDb, nDs⟩ := B5.fresh hD
    refine walk_W (walk_upto (n := P)) (fun j H6 => Up g.K [b] H5 H6 ∧ BagO H6 b s ∧ ∃ as : List Nat, as.length = j ∧ H6 D = some (.lst (as.map fun a : Nat => V.int (a : Int))) ∧ ∀ a ∈ as, 1 ≤ a ∧ a ≤ 9) ⟨Up.new hD, B5.up (Up.new (K := g.K) (ms := []) hD), [], rfl, upd_same, fun a h => (by cases h)⟩ (fun _ _ _ _ => trivial) ?_ ?_
    · rintro j x H6 H7 hj ⟨e6, B6, as, al, hDl, hb⟩ ⟨rfl, rfl⟩
      refine ⟨wipe_set (by simp), yesI ⟨_, rfl, _, rfl, _, rfl, _, _, rfl, rfl, _, rfl, b, s, 9, rfl, B6, by omega, by omega, fun k H8 hk e8 B8 => ?_⟩⟩
      refine ⟨_, _, rfl, rfl, by show 3 ≤ sizeLine; decide, fun p2 hp2 => ?_⟩
      obtain ⟨npb, nps⟩ := B8.fresh hp2
      refine ⟨b, s, p2, _, rfl, B8.up (Up.new (K := g.K) (ms := []) hp2), upd_same, npb, by show 1 ≤ 3; decide, by show 3 ≤ 1000; decide, fun v9 H9 hv9 e9 B9 => ?_⟩
      have e69 : Up g.K [b] H7 H9 := e8.trans ((Up.new hp2).trans e9)
      have hv : ∃ m : Nat, v9 = .int (m : Int) ∧ 1 ≤ m := by
        simp only [List.mem_cons, List.not_mem_nil, or_false] at hv9
        rcases hv9 with rfl | rfl | rfl
        · exact ⟨S, rfl, s1⟩
        · exact ⟨S + 1, rfl, by omega⟩
        · exact ⟨1 + k, rfl, by omega⟩
      obtain ⟨m, rfl, m1⟩ := hv
      refine ⟨_, _, rfl, _, e69.lst hDl (by simpa using nDb), ?_, ?_, ?_, as ++ [min 9 m], ?_, ?_, ?_⟩
      · rw [List.length_map]
        exact Nat.lt_of_le_of_lt (show as.length ≤ 100 by omega) (by decide)
      · exact (e6.trans e69).mut (.of hD) (e69.lst hDl (by simpa using nDb)) trivial
      · exact B9.up (Up.set (K := g.K) (ms := [D]) (e69.lst hDl (by simpa using nDb)) trivial (by simp)) (by simpa using Ne.symm nDb) (by simpa using Ne.symm nDs)
      · rw [List.length_append, al]; rfl
      · rw [upd_same, List.map_append]
        have em : (if (m : Int) < 9 then (m : Int) else 9) = ((min 9 m : Nat) : Int) := by split <;> omega
        rw [em]
        rfl
      · intro a ha
        rcases List.mem_append.mp ha with ha | ha
        · exact hb a ha
        · rw [List.mem_singleton.mp ha]; omega
    rintro H6 ⟨e6, B6, as, al, hDl, hask⟩
    refine ⟨D, _, rfl, .inl ⟨SqL.of hDl, fun c hc => ?_⟩⟩
    have e7 : Up g.K [] H6 (upd H6 c (.tup (as.map fun a : Nat => V.int (a : Int)))) := Up.new hc
    have k7 : upd H6 c (.tup (as.map fun a : Nat => V.int (a : Int))) c = some (.tup ((asI as).map V.int)) := by rw [upd_same, List.map_map]; rfl
    have e27 := (e25.trans e6).trans e7.wide
    have B7 := B6.up e7
    generalize (upd H6 c (.tup (as.map fun a : Nat => V.int (a : Int)))) = H7 at e7 k7 e27 B7 ⊢
    show tSeq _ _ _ _ _
    refine go (σ' := [some (.ref l), some (.ref b), some (.int i), some (.int P), some (.int S), some (.ref c), u6, u7, u8, u9, u10, u11, u12, u13, u14, u15, u16, none, none]) ?_
    -- rows
    refine ⟨_, rfl, _, rfl, _, rfl, b, s, 21, rfl, B7, by omega, by omega, fun many H8 hmany e8 B8 => ?_⟩
    refine ⟨b, s, P, many, rfl, B8, p1, p4, by omega, fun rp rys rs H9 rok e9 B9 frp hrp hrs => ?_⟩
    have k9 := (e8.trans e9).tup _ _ k7
    have e29 := e27.trans (e8.trans e9)
    have nrb : rp ≠ b := fun e => by
      obtain ⟨cells, i, d, ed, c, q1, _⟩ := B8.ex
      exact (Fr.ne q1 frp fun ps z => by cases z) e.symm
    -- ties
    refine ⟨_, rfl, b, s, rfl, B9, fun tp up o H10 e10 B10 htp => ⟨tp, _, rfl, SqT.of htp, rfl, _, _, rfl, _, _, rfl, rfl, ?_⟩⟩
    have hrp10 := e10.lst hrp (by simpa using nrb)
    have hrs10 := e10.ts.rws hrs
    have k10 := e10.tup _ _ k9
    have e210 := e29.trans e10
    -- table
    refine ⟨_, rfl, _, rfl, rp, P, rys, rs, rfl, hrp10, hrs10, p1, p4, rok, fun t r rs' H11 e11 perm tab => ?_⟩
    have ok : Dat.Ok ⟨P, rs', up, o, S, as⟩ := ⟨p1, p4, rok.perm perm, s1, s9, al, hask⟩
    obtain ⟨d, hd⟩ : ∃ d : Dat, d = ⟨P, rs', up, o, S, as⟩ := ⟨_, rfl⟩
    rw [← hd] at ok
    have tab11 : TabO g.K H11 t r d.P d.rs := by rw [hd]; exact tab
    have k11 : H11 c = some (.tup ((asI d.as).map V.int)) := by rw [hd]; exact e11.tup _ _ k10
    have hrp11 := e11.lst hrp10
    have hrs11 := e11.ts.rws hrs10
    have hpl : (d.rs.map plc).Perm (rs.map plc) := by rw [hd]; exact perm.map plc
    have e211 := e210.trans e11.wide
    have B11 := B10.up e11
    have tabs11 := e211.tabs tabs2
    show tSeq _ _ _ _ _
    refine go (σ' := [some (.ref l), some (.ref b), some (.int i), some (.int d.P), some (.int d.size), some (.ref c), some (.ref rp), some (.str (upS d.up)), some (.str (midS d.o)), some (.ref t), u10, u11, u12, u13, u14, u15, u16, none, none]) ?_ (by rw [hd]; rfl)
    clear hd tab
    -- the hand
    refine ⟨_, rfl, _, rfl, _, rfl, _, rfl, _, rfl, rfl, rfl, fun a dx ha hdx hne => ?_⟩
    have ha2 : upd H11 dx (.own a) a = none := by rw [upd_ne (Ne.symm hne)]; exact ha
    have e12 : Up g.K [] H11 (upd (upd H11 dx (.own a)) a (.ins (He.ga g.K "Hand") dx [])) := (Up.new hdx).trans (Up.new ha2)
    refine ⟨a, t, r, c, dx, d, rfl, upd_same, tab11.up e12, e12.tup _ _ k11, ok, e12.tabs tabs11, fun H13 un hh tpl e13 O fun_ fhh ftp => ⟨rfl, ?_⟩⟩
    have e1113 : Up g.K [] H11 H13 := (e12.wide.trans e13).drop (.of ha)
    obtain ⟨dx2, c2, hins2, hc2⟩ := O.ins
    refine ⟨a, dx2, _, rfl, hins2, rfl, un, hh, tpl, d, d.geo.L, O, ok, HI.start, e1113.tabs tabs11, fun fs H14 e14 hfs E hE => ?_⟩
    have e1114 : Up g.K [] H11 H14 := (((e1113.wide.trans e14).drop (e12.has un fun_)).drop (e12.has hh fhh)).drop (e12.has tpl ftp)
    have e15 : Up g.K [] H14 (upd H14 E (.lst fs)) := Up.new hE
    have k15 : upd H14 E (.lst fs) E = some (.lst fs) := upd_same
    have e1115 := e1114.trans e15
    have hfs15 : Paired (PgL (upd H14 E (.lst fs))) fs (d.geo.pages []) := L2.Paired.mapP hfs fun _ _ h => h.up e15
    clear O hins2 hc2 e12 e13 e1113 e14 e1114 hfs
    generalize (upd H14 E (.lst fs)) = H15 at e15 k15 e1115 hfs15 ⊢
    show tSeq _ _ _ _ _
    refine go (σ' := [some (.ref l), some (.ref b), some (.int i), some (.int d.P), some (.int d.size), some (.ref c), some (.ref rp), some (.str (upS d.up)), some (.str (midS d.o)), some (.ref t), u10, some (.ref E), u12, u13, u14, u15, u16, none, none]) ?_
    -- the reader
    refine ⟨_, rfl, _, rfl, by show 4 ≤ sizeLine; decide, fun tb htb => ⟨by show 1 ≤ sizeLine; decide, fun lb hlb => ?_⟩⟩
    have e16 : Up g.K [] H15 (upd H15 tb (.tup [.int d.size, .ref c, .int 0, .int 0])) := Up.new htb
    have e17 := e16.trans (Up.new (K := g.K) (ms := []) (o := .lst [.ref tb]) hlb)
    have e17' := Up.new (K := g.K) (ms := []) (o := .lst [.ref tb]) hlb
    refine ⟨_, rfl, _, rfl, rfl, rfl, fun rd dxr hrd hdxr hner => ?_⟩
    have k17b : upd (upd H15 tb (.tup [.int d.size, .ref c, .int 0, .int 0])) lb (.lst [.ref tb]) lb = some (.lst [.ref tb]) := upd_same
    have k17t := e17'.tup _ _ (upd_same (H := H15) (a := tb) (o := .tup [.int d.size, .ref c, .int 0, .int 0]))
    generalize (upd (upd H15 tb (.tup [.int d.size, .ref c, .int 0, .int 0])) lb (.lst [.ref tb])) = H17 at e17 k17b k17t hrd hdxr ⊢
    have hrd2 : upd H17 dxr (.own rd) rd = none := by rw [upd_ne (Ne.symm hner)]; exact hrd
    have e18 : Up g.K [] H17 (upd (upd H17 dxr (.own rd)) rd (.ins (He.ga g.K "Reader") dxr [])) := (Up.new hdxr).trans (Up.new hrd2)
    have e1118 := (e1115.trans e17).trans e18
    have alen : (asI d.as).length = d.P := by rw [List.length_map]; exact ok.al
    refine ⟨rd, lb, tb, c, dxr, d.up, d.o, d.size, asI d.as, rfl, upd_same, e18.lst k17b, e18.tup _ _ k17t, e1118.tup _ _ k11, by have := ok.s1; omega, by have := ok.s9; omega, ⟨by rw [alen]; exact ok.p1, by rw [alen]; exact ok.p4, fun z hz => ?_⟩, fun H19 e19 RO => ⟨rfl, ?_⟩⟩
    · obtain ⟨z2, hz2, rfl⟩ := List.mem_map.mp hz
      have := ok.ask _ hz2
      omega
    have e1519 : Up g.K [] H15 H19 := ((e17.trans e18).wide.trans e19).drop (e17.has _ (.of hrd))
    have e1119 := e1115.trans e1519
    -- judge
    refine ⟨_, rfl, _, rfl, d, rd, t, r, rfl, ⟨RO, tab11.up e1119⟩, e1119.tabs tabs11, ok, fun v20 H20 e20 hv20 => ?_⟩
    obtain ⟨ja, kd, nm, jp, jxs, pgs, rfl, hja, hjp, hjx, hkd⟩ := hv20
    refine ⟨ja, _, rfl, SqT.of hja, rfl, _, _, rfl, _, _, rfl, _, _, rfl, rfl, ?_⟩
    have e1520 := e1519.trans e20
    have e1120 := e1115.trans e1520
    have k20 := e1520.lst k15
    have hfs20 : Paired (PgL H20) fs (d.geo.pages []) := L2.Paired.mapP hfs15 fun _ _ h => h.up e1520
    have hrp20 := e1120.lst hrp11
    have hrs20 := e1120.ts.rws hrs11
    have B20 := B11.up e1120
    have e220 : Up g.K [b] H2 H20 := e211.trans e1120.wide
    clear e3 e4 e5 e6 e7 e8 e9 e10 e11 e15 e16 e17 e17' e18 e19 e20 e25 e27 e29 e210 e211 e1115 e1118 e1119 e1120 e1519 e1520 RO
    dsimp only
    show tSeq (tIfS _ _ _) _ _ _ _
    refine go (σ' := [some (.ref l), some (.ref b), some (.int i), some (.int d.P), some (.int d.size), some (.ref c), some (.ref rp), some (.str (upS d.up)), some (.str (midS d.o)), some (.ref t), u10, some (.ref E), some (.ref rd), some (.str kd), some nm, some (.ref jp), u16, none, none]) ?_
    have hfl : (d.geo.pages []).flatten.Perm d.geo.all := pages_all ok.geo Told.nil
    have lfl : (d.geo.pages []).flatten.length ≤ 63 := by rw [hfl.length_eq]; exact ok.len
    have lall : (d.geo.pages []).length ≤ 63 := Nat.le_trans (flat_len pages_ne) lfl
    have lpg : ∀ p ∈ d.geo.pages [], p.length ≤ 100000 := fun p hp => Nat.le_trans (mem_flat_len hp) (by omega)
    have hpre : (d.geo.pages []).take pgs.length = pgs := by
      rcases hkd with ⟨_, e⟩ | ⟨_, rest, e⟩
      · rw [e, List.take_of_length_le (Nat.le_refl _)]
      · rw [e, List.take_left]
    have hpsub : ∀ p ∈ pgs, p ∈ d.geo.pages [] := fun p hp => by rw [← hpre] at hp; exact List.mem_of_mem_take hp
    have lpgs : pgs.length ≤ 63 := by
      have := congrArg List.length hpre
      rw [List.length_take] at this
      omega
    have ljx := Paired.length hjx
    -- the pages are the same as far as the reader's go
    show tSeq (tIfS _ _ _) _ _ _ _
    refine seq_join (fun σ' H' => Up g.K [] H20 H' ∧ σ' = [some (.ref l), some (.ref b), some (.int i), some (.int d.P), some (.int d.size), some (.ref c), some (.ref rp), some (.str (upS d.up)), some (.str (midS d.o)), some (.ref t), u10, some (.ref E), some (.ref rd), some (.str kd), some nm, some (.ref jp), u16, none, none]) ?_ fun rest1 => ?_
    rotate_left
    · refine ⟨_, rfl, _, rfl, jp, _, rfl, .inl (SqL.of hjp), _, rfl, E, fs, rfl, SqL.of k20, fun z hz => ?_⟩
      have e21 : Up g.K [] H20 (upd H20 z (.lst (cutV fs none (some ((jxs.length : Nat) : Int))))) := Up.new hz
      have z21 : upd H20 z (.lst (cutV fs none (some ((jxs.length : Nat) : Int)))) z = some (.lst (fs.take jxs.length)) := by rw [upd_same, cut_to]
      generalize (upd H20 z (.lst (cutV fs none (some ((jxs.length : Nat) : Int))))) = H21 at e21 z21 ⊢
      have hz21 : Paired (PgL H21) (fs.take jxs.length) pgs := by
        have := pair_take pgs.length (L2.Paired.mapP hfs20 fun _ _ h => PgL.up h e21)
        rw [hpre, ← ljx] at this
        exact this
      have hj21 := L2.Paired.mapP hjx fun _ _ h => PgL.up h e21
      have lp2 : ∀ p ∈ pgs, p.length ≤ 100000 := fun p hp => lpg p (hpsub p hp)
      have lm : (pgs.map fun p => p.map kI).length ≤ 100000 := by rw [List.length_map]; omega
      refine ⟨_, rfl, .ref z, .ref jp, _, _, rfl, ⟨z, _, rfl, z21, pgrs_of hz21 lp2, lm⟩, ⟨jp, _, rfl, e21.lst hjp, pgrs_of hj21 lp2, lm⟩, fun v22 H22 e22 hv22 => ?_⟩
      rw [decide_eq_true rfl] at hv22
      subst hv22
      refine ⟨_, rfl, iteF ⟨_, rfl, by show 2 ≤ sizeLine; decide, fun q2 hq2 => ?_⟩⟩
      have hin : inV (.str kd) [.str "right", .str "late"] = true := by rcases hkd with ⟨rfl, _⟩ | ⟨rfl, _⟩ <;> decide +kernel
      refine ⟨q2, _, rfl, .inl (SqL.of upd_same), rfl, rfl, _, rfl, ?_⟩
      rw [if_pos rfl, hin]
      exact iteF (rest1 _ _ ⟨(e21.trans e22).trans (Up.new hq2), rfl⟩)
    rintro σ' H23 ⟨e23, rfl⟩
    -- all of them, if its run is right
    show tSeq (tIfS _ _ _) _ _ _ _
    refine seq_join (fun σ' H' => Up g.K [] H20 H' ∧ σ' = [some (.ref l), some (.ref b), some (.int i), some (.int d.P), some (.int d.size), some (.ref c), some (.ref rp), some (.str (upS d.up)), some (.str (midS d.o)), some (.ref t), u10, some (.ref E), some (.ref rd), some (.str kd), some nm, some (.ref jp), u16, none, none]) ?_ fun rest2 => ?_
    rotate_left
    · refine ⟨_, rfl, rfl, _, rfl, ?_⟩
      rw [deq_str]
      by_cases hk : kd = "right"
      · rw [decide_eq_true hk]
        have hpe : pgs = d.geo.pages [] := by
          rcases hkd with ⟨_, e⟩ | ⟨e, _⟩
          · exact e
          · rw [e] at hk
            exact absurd hk (by decide +kernel)
        have lm : ((d.geo.pages []).map fun p => p.map kI).length ≤ 100000 := by rw [List.length_map]; omega
        have hj23 := L2.Paired.mapP hjx fun _ _ h => PgL.up h e23
        rw [hpe] at hj23
        refine iteT ⟨_, rfl, _, rfl, .ref E, .ref jp, _, _, rfl, ⟨E, _, rfl, e23.lst k20, pgrs_of (L2.Paired.mapP hfs20 fun _ _ h => PgL.up h e23) lpg, lm⟩, ⟨jp, _, rfl, e23.lst hjp, pgrs_of hj23 lpg, lm⟩, fun v24 H24 e24 hv24 => ?_⟩
        rw [decide_eq_true rfl] at hv24
        subst hv24
        exact ⟨_, rfl, iteF (rest2 _ _ ⟨e23.trans e24, rfl⟩)⟩
      · rw [decide_eq_false hk]
        exact iteF (iteF (rest2 _ _ ⟨e23, rfl⟩))
    rintro σ' H25 ⟨e25, rfl⟩
    -- what was told
    refine ⟨Nat.zero_le _, fun q0 hq0 => ?_⟩
    have e26 : Up g.K [] H25 (upd H25 q0 (.lst [])) := Up.new hq0
    have k26 : upd H25 q0 (.lst []) q0 = some (.lst []) := upd_same
    generalize (upd H25 q0 (.lst [])) = H26 at e26 k26 ⊢
    have e2026 := e25.trans e26
    have hfs26 : Paired (PgL H26) fs (d.geo.pages []) := L2.Paired.mapP hfs20 fun _ _ h => PgL.up h e2026
    have k26E := e2026.lst k20
    refine ⟨_, rfl, E, rfl, ⟨fs, SqL.of k26E⟩, for_it (walk_list (K := g.K) (xs := fs)) (fun j σ H' => Up g.K [] H26 H' ∧ ∃ qq ys w, H' qq = some (.lst ys) ∧ Pls H' ys ((d.geo.pages []).take j).flatten ∧ σ = [some (.ref l), some (.ref b), some (.int i), some (.int d.P), some (.int d.size), some (.ref c), some (.ref rp), some (.str (upS d.up)), some (.str (midS d.o)), some (.ref t), w, some (.ref E), some (.ref rd), some (.str kd), some nm, some (.ref jp), some (.ref qq), none, none])
      ⟨Up.refl, q0, [], u10, k26, .nil, rfl⟩ (fun j σ H' _ h => SqL.of (h.1.lst k26E)) ?_ ?_⟩
    · rintro j v σ H27' H27 hj ⟨e27, qq, ys, w, hqq, hys, rfl⟩ ⟨rfl, hv⟩
      obtain ⟨pg, hpg, a2, xs2, rfl, ha2, hx2⟩ := pair_fwd hfs26 hv
      have ha27 := e27.lst ha2
      have tot := flat_le (l := d.geo.pages []) (i := j + 1)
      have l1 := Paired.length hys
      have l2 := Paired.length hx2
      rw [flat_take hpg, List.length_append] at tot
      refine ⟨_, rfl, _, rfl, qq, a2, ys, xs2, rfl, rfl, hqq, ha27, Nat.le_trans (show _ ≤ 100 by omega) (by decide), fun p hp => ?_⟩
      have e28 : Up g.K [] H27 (upd H27 p (.lst (ys ++ xs2))) := Up.new hp
      refine ⟨e27.trans e28, p, _, _, upd_same, ?_, rfl⟩
      rw [flat_take hpg]
      exact pair_cat (e28.ts.pls hys) ((e27.trans e28).ts.pls hx2)
    rintro σ' H28 ⟨e28, qq, ys, w, hqq, hys, rfl⟩
    rw [Paired.length hfs26, List.take_of_length_le (Nat.le_refl _)] at hys
    have e2028 := e2026.trans e28
    obtain ⟨bs, b1, b2, hb⟩ := pls_zip hys
    refine ⟨_, rfl, qq, bs, rfl, SqL.of (by rw [b1]; exact hqq), fun x hx => dp_place (hb x hx), PySem.W.AllAlike.of fun x y => by simp [plD, PySem.W.alike, PySem.W.alikeAll], PySem.W.Sortable.tuples fun x => ⟨_, _, rfl⟩, fun x _ => by simp [plD, PyData.depth, PyData.depthAll], fun p1_ hp1 => ?_⟩
    have e29 : Up g.K [] H28 (upd H28 p1_ (.lst ((bs.mergeSort (PySem.W.dataLe false fun b => plD b.2)).map (·.1)))) := Up.new hp1
    have k29 : upd H28 p1_ (.lst ((bs.mergeSort (PySem.W.dataLe false fun b => plD b.2)).map (·.1))) p1_ = some (.lst ((bs.mergeSort (PySem.W.dataLe false fun b => plD b.2)).map (·.1))) := upd_same
    have s29 := e29.ts.pls (sort_at b2 hb)
    generalize (upd H28 p1_ (.lst ((bs.mergeSort (PySem.W.dataLe false fun b => plD b.2)).map (·.1)))) = H29 at e29 k29 s29 ⊢
    have e2029 := e2028.trans e29
    have hrp29 := e2029.lst hrp20
    have hrs29 := e2029.ts.rws hrs20
    have lrs := rws_len hrs29
    have lr20 := rok.few
    refine ⟨_, rfl, rp, rfl, ⟨rys, SqL.of hrp29⟩, fun D2 hD2 => ?_⟩
    refine lc_walk (K := g.K) (walk_list (xs := rys)) [] (fun _ => true) (fun j y H => ∃ w, rs[j]? = some w ∧ PlV H y (plc w)) hD2 (fun H' e => SqL.of (e.lst hrp29)) (fun j H x H' y => ya_up y) (by omega) (fun j y H H' e h => let ⟨w, h1, h2⟩ := h; ⟨w, h1, e.ts.pl h2⟩)
      (turn_name (by simp) fun j v H30 hj hv e30 _ => ⟨EvB.yes, fun _ H31 e31 Q31 k31 => ?_⟩) (by simp) fun zs H30 e30 eD2 lr => ?_
    · obtain ⟨w, hw, t1, t2, rfl, ht1, ht2⟩ := rws_get hrs29 hv
      have e2931 := e30.trans e31
      refine ⟨_, rfl, _, rfl, t1, _, rfl, SqT.of (e2931.tup _ _ ht1), (by show ¬ (HT.sIx 3 0 none = 0 ∧ HT.sIx 3 3 (some 2) = 3); decide), fun p hp => ?_⟩
      exact k31 _ _ (Up.new hp) ⟨w, hw, p, rfl, upd_same⟩
    have rp30 := lr_filter (φ := fun _ => true) (F := fun y w H => PlV H y (plc w)) lrs (fun _ _ _ => rfl) lr
    rw [List.filter_eq_self.mpr fun _ _ => rfl] at rp30
    have zs30 : Pls H30 zs (rs.map plc) := by
      have cv : ∀ {l : List V} {r : List Row}, Paired (fun y w => PlV H30 y (plc w)) l r → Pls H30 l (r.map plc) := fun h => by
        induction h with
        | nil => exact .nil
        | cons r t ih => exact .cons r ih
      exact cv rp30
    obtain ⟨cs, c1, c2, hcb⟩ := pls_zip zs30
    refine ⟨D2, cs, rfl, SqL.of (by rw [c1]; exact eD2), fun x hx => dp_place (hcb x hx), PySem.W.AllAlike.of fun x y => by simp [plD, PySem.W.alike, PySem.W.alikeAll], PySem.W.Sortable.tuples fun x => ⟨_, _, rfl⟩, fun x _ => by simp [plD, PyData.depth, PyData.depthAll], fun p2_ hp2 => ?_⟩
    have e31 : Up g.K [] H30 (upd H30 p2_ (.lst ((cs.mergeSort (PySem.W.dataLe false fun b => plD b.2)).map (·.1)))) := Up.new hp2
    have k31 : upd H30 p2_ (.lst ((cs.mergeSort (PySem.W.dataLe false fun b => plD b.2)).map (·.1))) p2_ = some (.lst ((cs.mergeSort (PySem.W.dataLe false fun b => plD b.2)).map (·.1))) := upd_same
    have s31 := e31.ts.pls (sort_at c2 hcb)
    generalize (upd H30 p2_ (.lst ((cs.mergeSort (PySem.W.dataLe false fun b => plD b.2)).map (·.1)))) = H31 at e31 k31 s31 ⊢
    have same : (d.geo.pages []).flatten.mergeSort (leK kI) = (rs.map plc).mergeSort (leK kI) := sorted_same (hfl.trans (ok.all.trans hpl))
    rw [← same] at s31
    have e2931 := e30.trans e31
    have lm : (((d.geo.pages []).flatten.mergeSort (leK kI)).map kI).length ≤ 100000 := by
      rw [List.length_map, (List.mergeSort_perm _ _).length_eq]
      omega
    refine ⟨.ref p1_, .ref p2_, _, _, rfl, ⟨p1_, _, rfl, e2931.lst k29, plrs_of (e2931.ts.pls s29), lm⟩, ⟨p2_, _, rfl, k31, plrs_of s31, lm⟩, fun v32 H32 e32 hv32 => ?_⟩
    rw [decide_eq_true rfl] at hv32
    subst hv32
    have e2032 := e2029.trans (e2931.trans e32)
    refine ⟨_, rfl, iteF ⟨Nat.zero_le _, fun q3 hq3 => ?_⟩⟩
    have e33 : Up g.K [] H32 (upd H32 q3 (.lst [])) := Up.new hq3
    have k33 : upd H32 q3 (.lst []) q3 = some (.lst []) := upd_same
    generalize (upd H32 q3 (.lst [])) = H33 at e33 k33 ⊢
    have e2033 := e2032.trans e33
    refine ⟨_, rfl, .list [], _, .lst (SqL.of k33) .nil, .lst (SqL.of (e2033.lst k20)) (dp_pgl (L2.Paired.mapP hfs20 fun _ _ h => PgL.up h e2033)), (Sh.list (n := 0) fun d hd => by cases hd).ok (by decide), (sh_pgl _).ok (by decide), _, rfl, ?_⟩
    rw [any_empty pages_ne]
    exact iteF ⟨e2.trans (e220.trans e2033.wide), B20.up e2033, _, _, _, _, _, _, _, _, _, _, _, _, _, _, _, rfl⟩
end K48

namespace K48
open PySem PySem.Spec PyProof.Rows L2 ClX
theorem tx_of {P : Program} {w : World} {K : PySem.W.Frag} {mg : Str → Option Value} {h base : Heap} (c : SaysY w h K) (X : K.In base) (G : base.Ns mainGlobals mg)
    (t1 : LamX.TabB base mg (He.cT K ("inner_sorted", none)).1 (He.cT K ("inner_sorted", none)).2) (t2 : LamX.TabB base mg (He.cT K ("middle_sorted", none)).1 (He.cT K ("middle_sorted", none)).2) : Tx ⟨P, w, K, mg, base⟩ :=
  ⟨⟨w, h, c⟩, fun x hx => He.glo_ok X G (c.x.t.d.facts hx), fun x hx => He.free_ok X G (c.x.t.d.facts hx), fun x i hx => He.int_ok X G (c.x.t.d.facts hx), t1, t2⟩
theorem tab_none {pos : Pos} {cv : Value} (z : codeAmong pos (#[] : Array Value).toList = some cv) : False := by
  have e : codeAmong pos (#[] : Array Value).toList = none := rfl
  rw [e] at z
  cases z
theorem tabs_of {K : PySem.W.Frag} {H : Hp} (ok : TriplesOk (#[] : Array Value).toList) (h1 : H (He.cT K ("inner_sorted", none)).2 = some (.tbl #[])) (h2 : H (He.cT K ("middle_sorted", none)).2 = some (.tbl #[])) : LamX.Tabs (tabT K) H := fun q hq => by
  unfold tabT at hq
  rcases List.mem_cons.mp hq with rfl | hq
  · exact ⟨#[], h1, ok, fun pos cv z => (tab_none z).elim⟩
  · rw [List.mem_singleton.mp hq]
    exact ⟨#[], h2, ok, fun pos cv z => (tab_none z).elim⟩
abbrev csT (K : PySem.W.Frag) : List (Addr × Addr) := [He.cT K ("inner_sorted", none), He.cT K ("middle_sorted", none)]
theorem law_at {P : Program} {w : World} {K : PySem.W.Frag} {mg : Str → Option Value} {fa : Addr} {h : Heap} (X : K.In h) (G : h.Ns mainGlobals mg) (hfa : mg ("law" : Str) = some (.ref fa)) (c : SaysY w h K) :
    ∃ fd : FuncData, (∀ (s : Shared) (u : Value), BindsTo s fd ⟨[u], []⟩ [("_law_script", u)]) ∧ ∀ base : Heap, K.In base → base.Ns mainGlobals mg → (∀ p ∈ csT K, LamX.TabB base mg p.1 p.2) → FnOk P w K mg base CX0 9 fa fd ["_law_script"] (spLaw K) := by
  obtain ⟨fd, F⟩ := c.x.t.d.defs in_law
  have e1 : mg ("law" : Str) = some (.ref (He.ga K "law")) := He.glo_ok X G (c.x.t.d.facts (f := .glo "law") (List.mem_of_getElem? (i := 28) (by rfl)))
  have e := hfa.symm.trans e1
  cases e
  have b := FunD.bindsA (ps := ["_law_script"]) F fun _ _ _ _ _ _ us hl => match us, hl with | [_], _ => rfl
  refine ⟨fd, fun s v => b s [v] rfl, fun base Xb Gb tb => ?_⟩
  have T : Tx ⟨P, w, K, mg, base⟩ := tx_of c Xb Gb (tb _ List.mem_cons_self) (tb _ (List.mem_cons_of_mem _ List.mem_cons_self))
  obtain ⟨fd2, ok, F2⟩ := c_law T
  obtain ⟨oc, od, dV, kV, doc, pm, an, cdv, ct, osl, rfl, lk, _⟩ := F.ex
  obtain ⟨oc2, od2, dV2, kV2, doc2, pm2, an2, cdv2, ct2, osl2, rfl, lk2, _⟩ := F2.ex
  have ee := (show K.lookup (He.ga K "law") = _ from lk).symm.trans lk2
  injection ee with ee
  injection ee with _ _ ee _
  injection ee with ee
  rw [ee]
  exact ok
end K48

open PySem PySem.W PySem.Calls PyProof.Rows
theorem PySem.Challenge.cw_partfirsts_k48_whole_hands_tell_as_reade_holds : PySem.Challenge.rw_partfirsts_k48_whole_hands_tell_as_reade.Holds := by
  w_on; o_law
  refine HandSHeadRun.head_any (r := K48.R) (q := view K48.R.prog [58]) (H := K48.hookY) (ob := K48.ob) (M := 20000) (loose := K48.loose) (d := HandSHeadRun.topDef K48.R.prog 58) (kwd := []) K48.ob_eq
    (by kernel_rfl) (fun s => by kernel_rfl) K48.run (by kernel_rfl) (by kernel_rfl) (by kernel_rfl) (by rfl) (by first | assumption | decide +kernel) (by decide +kernel) ⟨rfl, rfl, rfl, rfl, rfl, by decide +kernel⟩ ?hw ?hc
  case hw => w_witness2
  case hc =>
    refine LamX.walk_ofTsE (l := PySem.Challenge.rw_partfirsts_k48_whole_hands_tell_as_reade) (n := 63) (k := 9) (x := "_law_script") (CX := fun _ => L2.CX0) rfl (by decide) (by kernel_rfl) ⟨rfl, by decide, by decide⟩ ?F (fun _ _ _ _ _ z => z)
    intro w mg fa h Y G hmg0
    obtain ⟨K, KX, c⟩ := Y
    have hmg : mg ("law" : PySem.Str) = some (.ref fa) := by
      have e : (HandSHeadRun.topDef K48.R.prog 58).name = ("law" : PySem.Str) := by kernel_rfl
      rw [← e]
      exact hmg0
    obtain ⟨fd, hb, hF⟩ := K48.law_at (P := PySem.Challenge.rw_partfirsts_k48_whole_hands_tell_as_reade.prog) (w := w) KX G hmg c
    refine ⟨K, KX, fd, K48.csT K, K48.spLaw K, fun p hp => ?_, fun p hp => ?_, fun p hp => ?_, hb, fun H a ns hl _ hcs hS => ?_, hF⟩
    · rcases List.mem_cons.mp hp with rfl | hp
      · exact c.x.empty _ List.mem_cons_self
      · rw [List.mem_singleton.mp hp]
        exact c.x.empty _ (List.mem_cons_of_mem _ List.mem_cons_self)
    · rcases List.mem_cons.mp hp with rfl | hp
      · exact c.x.out _ List.mem_cons_self
      · rw [List.mem_singleton.mp hp]
        exact c.x.out _ (List.mem_cons_of_mem _ List.mem_cons_self)
    · rcases List.mem_cons.mp hp with rfl | hp
      · exact PySem.W.codeHd_of_K KX (c.x.hd _ List.mem_cons_self)
      · rw [List.mem_singleton.mp hp]
        exact PySem.W.codeHd_of_K KX (c.x.hd _ (List.mem_cons_of_mem _ List.mem_cons_self))
    · exact ⟨a, ns, rfl, hS, hl, K48.tabs_of trivial (hcs _ List.mem_cons_self) (hcs _ (List.mem_cons_of_mem _ List.mem_cons_self)), fun _ => rfl⟩
