import PyProof.Rows.All
import Wide.All
import OpenK.AllK
import Wide.FinOn
import KE.SortData
import HandS.ForMost
import HandS.Defaults
import HandS.DictComp
import HandS.DictTup
import HandS.TupLen
import HandS.Property
import HandS.IsInst
import HandS.MakeKw
import HandS.Deep
import HandS.Conv
import HandS.More
import HandS.TupSets
import HandS.SortInts
import HandS.Codes
import HandS.Exc
import HandS.TryOnly
import HandS.ExcOwn
import HandS.ExcIs
import HandS.Lambda
import HandS.Nested
import HandS.NestedK
import HandS.CallLocal
import HandS.Gcd
import HandS.Style
import HandS.MakeKwOnly
import HandS.Head0
import HandS.Head1
import HandS.Head2
import HandS.Head3
import HandS.HeadEnd
import HandS.HeadWalk
import HandS.HeadHook1
import HandS.HeadHook2
import HandS.HeadHook3
import HandS.HeadHook4
import HandS.Walk
import HandS.SortKw
import KE.KMathGC
import KE.DataMinMax
import HandS.SortRule
import KE.Datum
import KE.GoesSet
import HandS.DeepEq
import PySem.Challenge.RW_jawturns_k55_whole_paper_holds
set_option Elab.async false
set_option linter.all false
set_option maxRecDepth 100000
set_option maxHeartbeats 0
/-! The text by places, and what the walk asks of what the top has left. -/
namespace J
open PySem PySem.Spec PyProof.Rows L2
def topS (i : Nat) : Stmt := PySem.Challenge.pw_jawturns_k55_whole_paper_holds.main.body.getD i (.Pass ⟨0, 0, 0, 0⟩)
abbrev s_is_integer : Stmt := topS 17
abbrev s_is_row : Stmt := topS 18
abbrev s_is_place : Stmt := topS 19
abbrev s_check_round : Stmt := topS 20
abbrev s_is_pair : Stmt := topS 21
abbrev s_checked_rows : Stmt := topS 22
abbrev s_rows_turned : Stmt := topS 23
abbrev s_least_period : Stmt := topS 24
abbrev s_is_word : Stmt := topS 28
abbrev s_check_even : Stmt := topS 30
abbrev s_is_name : Stmt := topS 38
abbrev s_is_rule : Stmt := topS 39
abbrev s_checked_rules : Stmt := topS 40
abbrev s_check_let : Stmt := topS 42
abbrev s_steps_by_state : Stmt := topS 45
abbrev s_first_steps : Stmt := topS 46
abbrev s_stands_of : Stmt := topS 47
abbrev s_is_closed : Stmt := topS 48
abbrev s_is_stand : Stmt := topS 49
abbrev s_stand_behind : Stmt := topS 50
abbrev s_stand_moves : Stmt := topS 51
abbrev s_first_stands : Stmt := topS 52
abbrev s_explored : Stmt := topS 54
abbrev s_distances : Stmt := topS 55
abbrev s_least_count : Stmt := topS 56
abbrev s_numbers : Stmt := topS 57
abbrev s_is_numbering : Stmt := topS 58
abbrev s_is_empty_dict : Stmt := topS 59
abbrev s_least_length : Stmt := topS 62
abbrev s_paper : Stmt := topS 63
abbrev s_is_paper : Stmt := topS 64
abbrev s__law_pool : Stmt := topS 66
abbrev s__law_draw : Stmt := topS 67
abbrev s__law_laps : Stmt := topS 68
abbrev s__law_rows : Stmt := topS 69
abbrev s__law_world : Stmt := topS 70
abbrev s__law_part : Stmt := topS 71
abbrev s__law_table : Stmt := topS 72
abbrev s__law_lift : Stmt := topS 73
abbrev s__law_keeps : Stmt := topS 74
abbrev s__law_tables : Stmt := topS 75
abbrev s__law_span : Stmt := topS 76
abbrev s__law_model : Stmt := topS 77
abbrev s__law_rules : Stmt := topS 78
abbrev s__law_rules_of : Stmt := topS 79
abbrev s__law_handed : Stmt := topS 80
abbrev s__law_steps : Stmt := topS 81
abbrev s__law_firsts : Stmt := topS 82
abbrev s__law_first_stands : Stmt := topS 83
abbrev s__law_carried : Stmt := topS 84
abbrev s__law_behind : Stmt := topS 85
abbrev s__law_is_index : Stmt := topS 86
abbrev s__law_is_open : Stmt := topS 87
abbrev s__law_is_paper : Stmt := topS 88
abbrev s__law_let : Stmt := topS 89
abbrev s__law_told : Stmt := topS 90
abbrev s_law : Stmt := topS 91
abbrev s_Turning_rests : Stmt := inClass (topS 25) 3
abbrev s_Turning_lifted : Stmt := inClass (topS 25) 5
abbrev s_Turning_is_even : Stmt := inClass (topS 25) 9
abbrev s_Part_getitem : Stmt := inClass (topS 31) 5
abbrev s_Part_rests : Stmt := inClass (topS 31) 8
abbrev s_Board_carried : Stmt := inClass (topS 44) 1
abbrev s_Let_rules : Stmt := inClass (topS 41) 4
abbrev s_Turning_period : Stmt := inClass (topS 25) 2
abbrev s_Part_words : Stmt := inClass (topS 31) 1
abbrev s_Part_period : Stmt := inClass (topS 31) 2
abbrev s_Let_states : Stmt := inClass (topS 41) 1
abbrev s_Let_words : Stmt := inClass (topS 41) 2
abbrev s_Turning_init : Stmt := inClass (topS 25) 0
abbrev s_Part_init : Stmt := inClass (topS 31) 0
abbrev s_Let_init : Stmt := inClass (topS 41) 0
abbrev s_Board_init : Stmt := inClass (topS 44) 0
abbrev s_CutSearch_init : Stmt := inClass (topS 61) 0

/-- a def of the module -/
structure GlF (K : PySem.W.Frag) (mg : Str → Option Value) (x : Str) (st : Stmt) (ps : List Str) where
  f : Addr
  fd : FuncData
  F : FunD K x x (defArgs st) (defBody st) (defScope st) [] [] f fd
  g : mg x = some (.ref f)
  b : Binds K fd ps []
/-- a def with defaults dvs, of which rest fill up in our calls -/
structure GlD (K : PySem.W.Frag) (mg : Str → Option Value) (x : Str) (st : Stmt) (ps : List Str) (dvs rest : List V) where
  f : Addr
  fd : FuncData
  F : FunD K x x (defArgs st) (defBody st) (defScope st) dvs [] f fd
  g : mg x = some (.ref f)
  ds : List Value
  dr : Vals rest ds
  b : Binds K fd ps ds
/-- a class -/
structure ClF (K : PySem.W.Frag) (mg : Str → Option Value) (x : Str) where
  C : Addr
  cl : Cls K C
  g : mg x = some (.ref C)
/-- its __init__ -/
structure InF (K : PySem.W.Frag) (C : Addr) (q : Str) (st : Stmt) (ps : List Str) where
  f : Addr
  fd : FuncData
  F : FunD K "__init__" q (defArgs st) (defBody st) (defScope st) [] [] f fd
  mkr : Mk K C f
  b : Binds K fd ps []
structure MeF (K : PySem.W.Frag) (C : Addr) (x q : Str) (st : Stmt) (ps : List Str) where
  f : Addr
  fd : FuncData
  F : FunD K x q (defArgs st) (defBody st) (defScope st) [] [] f fd
  m : Meth K C x f
  b : Binds K fd ps []
structure PrF (K : PySem.W.Frag) (C : Addr) (x q : Str) (st : Stmt) where
  f : Addr
  p : Addr
  fd : FuncData
  F : FunD K x q (defArgs st) (defBody st) (defScope st) [] [] f fd
  pr : PropOf K C x p f
  b : Binds K fd ["self"] []
/-- Part.__init__, called with two keywords -/
structure InK (K : PySem.W.Frag) (C : Addr) where
  f : Addr
  fd : FuncData
  F : FunD K "__init__" "Part.__init__" (defArgs s_Part_init) (defBody s_Part_init) (defScope s_Part_init) [.non, .non, .non] [] f fd
  mkr : Mk K C f
  its : List Value
  b : KBn K fd ["self", "squeeze", "push", "widths"] 1 ["squeeze", "push"] (fun us ws => us ++ ws ++ its.drop 2) (fun vs zs => vs ++ zs ++ [.non])
structure Wd (K : PySem.W.Frag) (mg : Str → Option Value) where
  is_integer : GlF K mg "is_integer" s_is_integer ["thing"]
  is_row : GlF K mg "is_row" s_is_row ["thing"]
  is_place : GlF K mg "is_place" s_is_place ["thing", "around"]
  check_round : GlF K mg "check_round" s_check_round ["around"]
  is_pair : GlF K mg "is_pair" s_is_pair ["thing", "around"]
  checked_rows : GlF K mg "checked_rows" s_checked_rows ["around", "rows"]
  rows_turned : GlF K mg "rows_turned" s_rows_turned ["around", "rows", "by"]
  least_period : GlF K mg "least_period" s_least_period ["around", "rows"]
  is_word : GlF K mg "is_word" s_is_word ["thing"]
  check_even : GlF K mg "check_even" s_check_even ["turning"]
  is_name : GlF K mg "is_name" s_is_name ["thing"]
  is_rule : GlF K mg "is_rule" s_is_rule ["thing", "states"]
  checked_rules : GlF K mg "checked_rules" s_checked_rules ["around", "rows", "state"]
  check_let : GlF K mg "check_let" s_check_let ["part", "let"]
  steps_by_state : GlF K mg "steps_by_state" s_steps_by_state ["board", "let"]
  first_steps : GlF K mg "first_steps" s_first_steps ["board", "let"]
  stands_of : GlF K mg "stands_of" s_stands_of ["board", "word", "state"]
  is_closed : GlF K mg "is_closed" s_is_closed ["stand"]
  is_stand : GlF K mg "is_stand" s_is_stand ["board", "let", "value"]
  stand_behind : GlF K mg "stand_behind" s_stand_behind ["board", "stand", "step"]
  stand_moves : GlF K mg "stand_moves" s_stand_moves ["board", "steps", "stand"]
  first_stands : GlD K mg "first_stands" s_first_stands ["part", "let"] [.non] []
  explored : GlD K mg "explored" s_explored ["first", "moves", "is_end", "limit"] [.non] [.non]
  distances : GlF K mg "distances" s_distances ["table", "is_end"]
  least_count : GlF K mg "least_count" s_least_count ["start", "far"]
  numbers : GlF K mg "numbers" s_numbers ["table", "far", "is_end", "count"]
  is_numbering : GlF K mg "is_numbering" s_is_numbering ["length", "thing", "first", "is_open", "moves", "is_end"]
  is_empty_dict : GlF K mg "is_empty_dict" s_is_empty_dict ["thing"]
  least_length : GlD K mg "least_length" s_least_length ["part", "let"] [.non] []
  paper : GlD K mg "paper" s_paper ["part", "let"] [.non] []
  is_paper : GlD K mg "is_paper" s_is_paper ["part", "length", "thing", "let"] [.non] []
  _law_pool : GlF K mg "_law_pool" s__law_pool ["_law_script", "_law_k"]
  _law_draw : GlF K mg "_law_draw" s__law_draw ["_law_pool_here", "_law_many"]
  _law_laps : GlF K mg "_law_laps" s__law_laps ["_law_pool_here", "_law_around", "_law_even", "_law_most"]
  _law_rows : GlF K mg "_law_rows" s__law_rows ["_law_pool_here", "_law_around", "_law_laps_here", "_law_most"]
  _law_world : GlF K mg "_law_world" s__law_world ["_law_pool_here", "_law_around", "_law_most"]
  _law_part : GlF K mg "_law_part" s__law_part ["_law_pairs", "_law_around"]
  _law_table : GlF K mg "_law_table" s__law_table ["_law_pairs", "_law_around"]
  _law_lift : GlF K mg "_law_lift" s__law_lift ["_law_table_here", "_law_x"]
  _law_keeps : GlF K mg "_law_keeps" s__law_keeps ["_law_tables_here", "_law_span_here"]
  _law_tables : GlF K mg "_law_tables" s__law_tables ["_law_pairs", "_law_around"]
  _law_span : GlF K mg "_law_span" s__law_span ["_law_tables_here", "_law_around"]
  _law_model : GlF K mg "_law_model" s__law_model ["_law_pairs", "_law_around"]
  _law_rules : GlF K mg "_law_rules" s__law_rules ["_law_pool_here", "_law_around", "_law_words", "_law_states", "_law_most"]
  _law_rules_of : GlF K mg "_law_rules_of" s__law_rules_of ["_law_rules_here", "_law_around", "_law_state"]
  _law_handed : GlF K mg "_law_handed" s__law_handed ["_law_rules_here"]
  _law_steps : GlF K mg "_law_steps" s__law_steps ["_law_model_here", "_law_rules_here", "_law_state"]
  _law_firsts : GlF K mg "_law_firsts" s__law_firsts ["_law_model_here", "_law_rules_here"]
  _law_first_stands : GlF K mg "_law_first_stands" s__law_first_stands ["_law_model_here", "_law_rules_here"]
  _law_carried : GlF K mg "_law_carried" s__law_carried ["_law_model_here", "_law_word", "_law_number", "_law_rule"]
  _law_behind : GlF K mg "_law_behind" s__law_behind ["_law_model_here", "_law_stand", "_law_rule"]
  _law_is_index : GlF K mg "_law_is_index" s__law_is_index ["_law_thing", "_law_low", "_law_behind_here"]
  _law_is_open : GlF K mg "_law_is_open" s__law_is_open ["_law_model_here", "_law_rules_here", "_law_thing"]
  _law_is_paper : GlF K mg "_law_is_paper" s__law_is_paper ["_law_model_here", "_law_rules_here", "_law_length", "_law_thing"]
  _law_let : GlF K mg "_law_let" s__law_let ["_law_rules_here", "_law_around"]
  _law_told : GlF K mg "_law_told" s__law_told ["_law_part_here", "_law_let_here"]
  Turning : ClF K mg "Turning"
  n_Turning_around : NoAttr K Turning.C "around"
  n_Turning_rows : NoAttr K Turning.C "rows"
  n_Turning__period : NoAttr K Turning.C "_period"
  Part : ClF K mg "Part"
  n_Part_around : NoAttr K Part.C "around"
  n_Part__shown : NoAttr K Part.C "_shown"
  n_Part__turnings : NoAttr K Part.C "_turnings"
  Let : ClF K mg "Let"
  n_Let_around : NoAttr K Let.C "around"
  n_Let__table : NoAttr K Let.C "_table"
  Board : ClF K mg "Board"
  n_Board_source : NoAttr K Board.C "source"
  n_Board_span : NoAttr K Board.C "span"
  n_Board_spots : NoAttr K Board.C "spots"
  n_Board_slots : NoAttr K Board.C "slots"
  n_Board_found : NoAttr K Board.C "found"
  CutSearch : ClF K mg "CutSearch"
  n_CutSearch_start : NoAttr K CutSearch.C "start"
  n_CutSearch_table : NoAttr K CutSearch.C "table"
  n_CutSearch_far : NoAttr K CutSearch.C "far"
  Turning_init : InF K Turning.C "Turning.__init__" s_Turning_init ["self", "around", "rows"]
  Part_init : InK K Part.C
  Let_init : InF K Let.C "Let.__init__" s_Let_init ["self", "around", "rules"]
  Board_init : InF K Board.C "Board.__init__" s_Board_init ["self", "part"]
  CutSearch_init : InF K CutSearch.C "CutSearch.__init__" s_CutSearch_init ["self", "part", "let"]
  Turning_rests : MeF K Turning.C "rests" "Turning.rests" s_Turning_rests ["self"]
  Turning_lifted : MeF K Turning.C "lifted" "Turning.lifted" s_Turning_lifted ["self", "x"]
  Turning_is_even : MeF K Turning.C "is_even" "Turning.is_even" s_Turning_is_even ["self"]
  Part_getitem : MeF K Part.C "__getitem__" "Part.__getitem__" s_Part_getitem ["self", "at"]
  Part_rests : MeF K Part.C "rests" "Part.rests" s_Part_rests ["self", "word"]
  Board_carried : MeF K Board.C "carried" "Board.carried" s_Board_carried ["self", "word", "number", "v", "shift"]
  Let_rules : MeF K Let.C "rules" "Let.rules" s_Let_rules ["self", "state"]
  Turning_period : PrF K Turning.C "period" "Turning.period" s_Turning_period
  Part_words : PrF K Part.C "words" "Part.words" s_Part_words
  Part_period : PrF K Part.C "period" "Part.period" s_Part_period
  Let_states : PrF K Let.C "states" "Let.states" s_Let_states
  Let_words : PrF K Let.C "words" "Let.words" s_Let_words
  t_MOST_ROUND : Tok
  m_MOST_ROUND : mg "MOST_ROUND" = some (.int 360 t_MOST_ROUND)
  t_MOST_ROWS : Tok
  m_MOST_ROWS : mg "MOST_ROWS" = some (.int 12 t_MOST_ROWS)
  t_MOST_STATES : Tok
  m_MOST_STATES : mg "MOST_STATES" = some (.int 5 t_MOST_STATES)
  t_MOST_RULES : Tok
  m_MOST_RULES : mg "MOST_RULES" = some (.int 40 t_MOST_RULES)
  t_START : Tok
  m_START : mg "START" = some (.str "start" t_START)
  t_LETTERS : Tok
  m_LETTERS : mg "LETTERS" = some (.str "abcdefghijklmnopqrstuvwxyz" t_LETTERS)
  WORDS : Addr
  m_WORDS : mg "WORDS" = some (.ref WORDS)
  k_WORDS : ∀ H, SqT K H WORDS [.str "push", .str "squeeze"]
  m_lcm : mg "lcm" = some (.builtin "math.lcm")
  n_int : mg "int" = none
  n_bool : mg "bool" = none
  n_str : mg "str" = none
  n_tuple : mg "tuple" = none
  n_list : mg "list" = none
  n_dict : mg "dict" = none
  n_set : mg "set" = none
  n_len : mg "len" = none
  n_isinstance : mg "isinstance" = none
  n_divmod : mg "divmod" = none
  n_sorted : mg "sorted" = none
  n_min : mg "min" = none
  n_all : mg "all" = none
  n_any : mg "any" = none
  n_range : mg "range" = none
  n_enumerate : mg "enumerate" = none
  Part_getitem_fn : PySem.W.fnIn K Part_getitem.f = true
/-- what is not reached -/
theorem pe_never {X : Cx} {e : Expr} : PE X e (fun _ _ _ => False) := ⟨fun _ _ _ _ _ _ h => h.elim⟩
end J
/-! The top: what is asked of it, the run. -/
namespace J
open PySem PySem.Spec PyProof.Rows L2
abbrev RwO : PySem.W.OpenRow := PySem.W.OpenLaw.row PySem.Challenge.rw_jawturns_k55_whole_paper_holds
def hd_is_integer : He.DefD := ⟨("is_integer", none), "is_integer", "is_integer", defArgs s_is_integer, defBody s_is_integer, defScope s_is_integer, [], []⟩
def hd_is_row : He.DefD := ⟨("is_row", none), "is_row", "is_row", defArgs s_is_row, defBody s_is_row, defScope s_is_row, [], []⟩
def hd_is_place : He.DefD := ⟨("is_place", none), "is_place", "is_place", defArgs s_is_place, defBody s_is_place, defScope s_is_place, [], []⟩
def hd_check_round : He.DefD := ⟨("check_round", none), "check_round", "check_round", defArgs s_check_round, defBody s_check_round, defScope s_check_round, [], []⟩
def hd_is_pair : He.DefD := ⟨("is_pair", none), "is_pair", "is_pair", defArgs s_is_pair, defBody s_is_pair, defScope s_is_pair, [], []⟩
def hd_checked_rows : He.DefD := ⟨("checked_rows", none), "checked_rows", "checked_rows", defArgs s_checked_rows, defBody s_checked_rows, defScope s_checked_rows, [], []⟩
def hd_rows_turned : He.DefD := ⟨("rows_turned", none), "rows_turned", "rows_turned", defArgs s_rows_turned, defBody s_rows_turned, defScope s_rows_turned, [], []⟩
def hd_least_period : He.DefD := ⟨("least_period", none), "least_period", "least_period", defArgs s_least_period, defBody s_least_period, defScope s_least_period, [], []⟩
def hd_is_word : He.DefD := ⟨("is_word", none), "is_word", "is_word", defArgs s_is_word, defBody s_is_word, defScope s_is_word, [], []⟩
def hd_check_even : He.DefD := ⟨("check_even", none), "check_even", "check_even", defArgs s_check_even, defBody s_check_even, defScope s_check_even, [], []⟩
def hd_is_name : He.DefD := ⟨("is_name", none), "is_name", "is_name", defArgs s_is_name, defBody s_is_name, defScope s_is_name, [], []⟩
def hd_is_rule : He.DefD := ⟨("is_rule", none), "is_rule", "is_rule", defArgs s_is_rule, defBody s_is_rule, defScope s_is_rule, [], []⟩
def hd_checked_rules : He.DefD := ⟨("checked_rules", none), "checked_rules", "checked_rules", defArgs s_checked_rules, defBody s_checked_rules, defScope s_checked_rules, [], []⟩
def hd_check_let : He.DefD := ⟨("check_let", none), "check_let", "check_let", defArgs s_check_let, defBody s_check_let, defScope s_check_let, [], []⟩
def hd_steps_by_state : He.DefD := ⟨("steps_by_state", none), "steps_by_state", "steps_by_state", defArgs s_steps_by_state, defBody s_steps_by_state, defScope s_steps_by_state, [], []⟩
def hd_first_steps : He.DefD := ⟨("first_steps", none), "first_steps", "first_steps", defArgs s_first_steps, defBody s_first_steps, defScope s_first_steps, [], []⟩
def hd_stands_of : He.DefD := ⟨("stands_of", none), "stands_of", "stands_of", defArgs s_stands_of, defBody s_stands_of, defScope s_stands_of, [], []⟩
def hd_is_closed : He.DefD := ⟨("is_closed", none), "is_closed", "is_closed", defArgs s_is_closed, defBody s_is_closed, defScope s_is_closed, [], []⟩
def hd_is_stand : He.DefD := ⟨("is_stand", none), "is_stand", "is_stand", defArgs s_is_stand, defBody s_is_stand, defScope s_is_stand, [], []⟩
def hd_stand_behind : He.DefD := ⟨("stand_behind", none), "stand_behind", "stand_behind", defArgs s_stand_behind, defBody s_stand_behind, defScope s_stand_behind, [], []⟩
def hd_stand_moves : He.DefD := ⟨("stand_moves", none), "stand_moves", "stand_moves", defArgs s_stand_moves, defBody s_stand_moves, defScope s_stand_moves, [], []⟩
def hd_first_stands : He.DefD := ⟨("first_stands", none), "first_stands", "first_stands", defArgs s_first_stands, defBody s_first_stands, defScope s_first_stands, [.non], []⟩
def hd_explored : He.DefD := ⟨("explored", none), "explored", "explored", defArgs s_explored, defBody s_explored, defScope s_explored, [.non], []⟩
def hd_distances : He.DefD := ⟨("distances", none), "distances", "distances", defArgs s_distances, defBody s_distances, defScope s_distances, [], []⟩
def hd_least_count : He.DefD := ⟨("least_count", none), "least_count", "least_count", defArgs s_least_count, defBody s_least_count, defScope s_least_count, [], []⟩
def hd_numbers : He.DefD := ⟨("numbers", none), "numbers", "numbers", defArgs s_numbers, defBody s_numbers, defScope s_numbers, [], []⟩
def hd_is_numbering : He.DefD := ⟨("is_numbering", none), "is_numbering", "is_numbering", defArgs s_is_numbering, defBody s_is_numbering, defScope s_is_numbering, [], []⟩
def hd_is_empty_dict : He.DefD := ⟨("is_empty_dict", none), "is_empty_dict", "is_empty_dict", defArgs s_is_empty_dict, defBody s_is_empty_dict, defScope s_is_empty_dict, [], []⟩
def hd_least_length : He.DefD := ⟨("least_length", none), "least_length", "least_length", defArgs s_least_length, defBody s_least_length, defScope s_least_length, [.non], []⟩
def hd_paper : He.DefD := ⟨("paper", none), "paper", "paper", defArgs s_paper, defBody s_paper, defScope s_paper, [.non], []⟩
def hd_is_paper : He.DefD := ⟨("is_paper", none), "is_paper", "is_paper", defArgs s_is_paper, defBody s_is_paper, defScope s_is_paper, [.non], []⟩
def hd__law_pool : He.DefD := ⟨("_law_pool", none), "_law_pool", "_law_pool", defArgs s__law_pool, defBody s__law_pool, defScope s__law_pool, [], []⟩
def hd__law_draw : He.DefD := ⟨("_law_draw", none), "_law_draw", "_law_draw", defArgs s__law_draw, defBody s__law_draw, defScope s__law_draw, [], []⟩
def hd__law_laps : He.DefD := ⟨("_law_laps", none), "_law_laps", "_law_laps", defArgs s__law_laps, defBody s__law_laps, defScope s__law_laps, [], []⟩
def hd__law_rows : He.DefD := ⟨("_law_rows", none), "_law_rows", "_law_rows", defArgs s__law_rows, defBody s__law_rows, defScope s__law_rows, [], []⟩
def hd__law_world : He.DefD := ⟨("_law_world", none), "_law_world", "_law_world", defArgs s__law_world, defBody s__law_world, defScope s__law_world, [], []⟩
def hd__law_part : He.DefD := ⟨("_law_part", none), "_law_part", "_law_part", defArgs s__law_part, defBody s__law_part, defScope s__law_part, [], []⟩
def hd__law_table : He.DefD := ⟨("_law_table", none), "_law_table", "_law_table", defArgs s__law_table, defBody s__law_table, defScope s__law_table, [], []⟩
def hd__law_lift : He.DefD := ⟨("_law_lift", none), "_law_lift", "_law_lift", defArgs s__law_lift, defBody s__law_lift, defScope s__law_lift, [], []⟩
def hd__law_keeps : He.DefD := ⟨("_law_keeps", none), "_law_keeps", "_law_keeps", defArgs s__law_keeps, defBody s__law_keeps, defScope s__law_keeps, [], []⟩
def hd__law_tables : He.DefD := ⟨("_law_tables", none), "_law_tables", "_law_tables", defArgs s__law_tables, defBody s__law_tables, defScope s__law_tables, [], []⟩
def hd__law_span : He.DefD := ⟨("_law_span", none), "_law_span", "_law_span", defArgs s__law_span, defBody s__law_span, defScope s__law_span, [], []⟩
def hd__law_model : He.DefD := ⟨("_law_model", none), "_law_model", "_law_model", defArgs s__law_model, defBody s__law_model, defScope s__law_model, [], []⟩
def hd__law_rules : He.DefD := ⟨("_law_rules", none), "_law_rules", "_law_rules", defArgs s__law_rules, defBody s__law_rules, defScope s__law_rules, [], []⟩
def hd__law_rules_of : He.DefD := ⟨("_law_rules_of", none), "_law_rules_of", "_law_rules_of", defArgs s__law_rules_of, defBody s__law_rules_of, defScope s__law_rules_of, [], []⟩
def hd__law_handed : He.DefD := ⟨("_law_handed", none), "_law_handed", "_law_handed", defArgs s__law_handed, defBody s__law_handed, defScope s__law_handed, [], []⟩
def hd__law_steps : He.DefD := ⟨("_law_steps", none), "_law_steps", "_law_steps", defArgs s__law_steps, defBody s__law_steps, defScope s__law_steps, [], []⟩
def hd__law_firsts : He.DefD := ⟨("_law_firsts", none), "_law_firsts", "_law_firsts", defArgs s__law_firsts, defBody s__law_firsts, defScope s__law_firsts, [], []⟩
def hd__law_first_stands : He.DefD := ⟨("_law_first_stands", none), "_law_first_stands", "_law_first_stands", defArgs s__law_first_stands, defBody s__law_first_stands, defScope s__law_first_stands, [], []⟩
def hd__law_carried : He.DefD := ⟨("_law_carried", none), "_law_carried", "_law_carried", defArgs s__law_carried, defBody s__law_carried, defScope s__law_carried, [], []⟩
def hd__law_behind : He.DefD := ⟨("_law_behind", none), "_law_behind", "_law_behind", defArgs s__law_behind, defBody s__law_behind, defScope s__law_behind, [], []⟩
def hd__law_is_index : He.DefD := ⟨("_law_is_index", none), "_law_is_index", "_law_is_index", defArgs s__law_is_index, defBody s__law_is_index, defScope s__law_is_index, [], []⟩
def hd__law_is_open : He.DefD := ⟨("_law_is_open", none), "_law_is_open", "_law_is_open", defArgs s__law_is_open, defBody s__law_is_open, defScope s__law_is_open, [], []⟩
def hd__law_is_paper : He.DefD := ⟨("_law_is_paper", none), "_law_is_paper", "_law_is_paper", defArgs s__law_is_paper, defBody s__law_is_paper, defScope s__law_is_paper, [], []⟩
def hd__law_let : He.DefD := ⟨("_law_let", none), "_law_let", "_law_let", defArgs s__law_let, defBody s__law_let, defScope s__law_let, [], []⟩
def hd__law_told : He.DefD := ⟨("_law_told", none), "_law_told", "_law_told", defArgs s__law_told, defBody s__law_told, defScope s__law_told, [], []⟩
def hd_law : He.DefD := ⟨("law", none), "law", "law", defArgs s_law, defBody s_law, defScope s_law, [], []⟩
def hd_Turning_init : He.DefD := ⟨("Turning", some "__init__"), "__init__", "Turning.__init__", defArgs s_Turning_init, defBody s_Turning_init, defScope s_Turning_init, [], []⟩
def hd_Part_init : He.DefD := ⟨("Part", some "__init__"), "__init__", "Part.__init__", defArgs s_Part_init, defBody s_Part_init, defScope s_Part_init, [.non, .non, .non], []⟩
def hd_Let_init : He.DefD := ⟨("Let", some "__init__"), "__init__", "Let.__init__", defArgs s_Let_init, defBody s_Let_init, defScope s_Let_init, [], []⟩
def hd_Board_init : He.DefD := ⟨("Board", some "__init__"), "__init__", "Board.__init__", defArgs s_Board_init, defBody s_Board_init, defScope s_Board_init, [], []⟩
def hd_CutSearch_init : He.DefD := ⟨("CutSearch", some "__init__"), "__init__", "CutSearch.__init__", defArgs s_CutSearch_init, defBody s_CutSearch_init, defScope s_CutSearch_init, [], []⟩
def hd_Turning_rests : He.DefD := ⟨("Turning", some "rests"), "rests", "Turning.rests", defArgs s_Turning_rests, defBody s_Turning_rests, defScope s_Turning_rests, [], []⟩
def hd_Turning_lifted : He.DefD := ⟨("Turning", some "lifted"), "lifted", "Turning.lifted", defArgs s_Turning_lifted, defBody s_Turning_lifted, defScope s_Turning_lifted, [], []⟩
def hd_Turning_is_even : He.DefD := ⟨("Turning", some "is_even"), "is_even", "Turning.is_even", defArgs s_Turning_is_even, defBody s_Turning_is_even, defScope s_Turning_is_even, [], []⟩
def hd_Part_getitem : He.DefD := ⟨("Part", some "__getitem__"), "__getitem__", "Part.__getitem__", defArgs s_Part_getitem, defBody s_Part_getitem, defScope s_Part_getitem, [], []⟩
def hd_Part_rests : He.DefD := ⟨("Part", some "rests"), "rests", "Part.rests", defArgs s_Part_rests, defBody s_Part_rests, defScope s_Part_rests, [], []⟩
def hd_Board_carried : He.DefD := ⟨("Board", some "carried"), "carried", "Board.carried", defArgs s_Board_carried, defBody s_Board_carried, defScope s_Board_carried, [], []⟩
def hd_Let_rules : He.DefD := ⟨("Let", some "rules"), "rules", "Let.rules", defArgs s_Let_rules, defBody s_Let_rules, defScope s_Let_rules, [], []⟩
def hdFn : List He.DefD := [hd_is_integer, hd_is_row, hd_is_place, hd_check_round, hd_is_pair, hd_checked_rows, hd_rows_turned, hd_least_period, hd_is_word, hd_check_even, hd_is_name, hd_is_rule, hd_checked_rules, hd_check_let, hd_steps_by_state, hd_first_steps, hd_stands_of, hd_is_closed, hd_is_stand, hd_stand_behind, hd_stand_moves, hd_first_stands, hd_explored, hd_distances, hd_least_count, hd_numbers, hd_is_numbering, hd_is_empty_dict, hd_least_length, hd_paper, hd_is_paper, hd__law_pool, hd__law_draw, hd__law_laps, hd__law_rows, hd__law_world, hd__law_part, hd__law_table, hd__law_lift, hd__law_keeps, hd__law_tables, hd__law_span, hd__law_model, hd__law_rules, hd__law_rules_of, hd__law_handed, hd__law_steps, hd__law_firsts, hd__law_first_stands, hd__law_carried, hd__law_behind, hd__law_is_index, hd__law_is_open, hd__law_is_paper, hd__law_let, hd__law_told, hd_law, hd_Turning_init, hd_Part_init, hd_Let_init, hd_Board_init, hd_CutSearch_init, hd_Turning_rests, hd_Turning_lifted, hd_Turning_is_even, hd_Part_getitem, hd_Part_rests, hd_Board_carried, hd_Let_rules]
def hdFa0 : List He.Fa := [.glo "is_integer", .glo "is_row", .glo "is_place", .glo "check_round", .glo "is_pair", .glo "checked_rows", .glo "rows_turned", .glo "least_period", .glo "is_word", .glo "check_even", .glo "is_name", .glo "is_rule", .glo "checked_rules", .glo "check_let", .glo "steps_by_state", .glo "first_steps", .glo "stands_of", .glo "is_closed", .glo "is_stand", .glo "stand_behind", .glo "stand_moves", .glo "first_stands", .glo "explored", .glo "distances", .glo "least_count", .glo "numbers", .glo "is_numbering", .glo "is_empty_dict", .glo "least_length", .glo "paper"]
def hdFa1 : List He.Fa := [.glo "is_paper", .glo "_law_pool", .glo "_law_draw", .glo "_law_laps", .glo "_law_rows", .glo "_law_world", .glo "_law_part", .glo "_law_table", .glo "_law_lift", .glo "_law_keeps", .glo "_law_tables", .glo "_law_span", .glo "_law_model", .glo "_law_rules", .glo "_law_rules_of", .glo "_law_handed", .glo "_law_steps", .glo "_law_firsts", .glo "_law_first_stands", .glo "_law_carried", .glo "_law_behind", .glo "_law_is_index", .glo "_law_is_open", .glo "_law_is_paper", .glo "_law_let", .glo "_law_told", .glo "law", .glo "Turning", .glo "Part", .glo "Let"]
def hdFa2 : List He.Fa := [.glo "Board", .glo "CutSearch", .glo "NoPlan", .glo "JawError", .glo "WORDS", .free "int", .free "bool", .free "str", .free "tuple", .free "list", .free "dict", .free "set", .free "len", .free "isinstance", .free "divmod", .free "sorted", .free "min", .free "all", .free "any", .free "range", .free "enumerate", .int "MOST_ROUND" 360, .int "MOST_ROWS" 12, .int "MOST_STATES" 5, .int "MOST_RULES" 40, .str "START" "start", .str "LETTERS" "abcdefghijklmnopqrstuvwxyz", .cls "Turning", .mkr "Turning", .noat "Turning" "around"]
def hdFa3 : List He.Fa := [.noat "Turning" "rows", .noat "Turning" "_period", .cls "Part", .mkr "Part", .noat "Part" "around", .noat "Part" "_shown", .noat "Part" "_turnings", .cls "Let", .mkr "Let", .noat "Let" "around", .noat "Let" "_table", .cls "Board", .mkr "Board", .noat "Board" "source", .noat "Board" "span", .noat "Board" "spots", .noat "Board" "slots", .noat "Board" "found", .cls "CutSearch", .mkr "CutSearch", .noat "CutSearch" "start", .noat "CutSearch" "table", .noat "CutSearch" "far", .meth "Turning" "rests", .meth "Turning" "lifted", .meth "Turning" "is_even", .meth "Part" "__getitem__", .meth "Part" "rests", .meth "Board" "carried", .meth "Let" "rules"]
def hdFa4 : List He.Fa := [.exc "NoPlan", .exm "NoPlan" "NoPlan" true]
def hdFa : List He.Fa := hdFa0 ++ hdFa1 ++ hdFa2 ++ hdFa3 ++ hdFa4
/-- the facts that the library's Hook does not ask -/
def hdEx (K : PySem.W.Frag) : Bool := (He.tupB K "WORDS" [.str "push", .str "squeeze"] && (He.eqO (PySem.W.nsIn K mainGlobals "lcm") (some (some (.builtin "math.lcm"))) && PySem.W.fnIn K (He.ma K (He.ga K "Part") "__getitem__"))) &&
  ((He.eqO (PySem.W.findIn K (.ref (He.ga K "NoPlan")) "__getattribute__") (some (some (.builtin "BaseException.__getattribute__"))) && (He.eqO (PySem.W.findIn K (.ref (He.ga K "NoPlan")) "__getattr__") (some none) && (PySem.W.hasDictIn K (He.ga K "NoPlan") &&
    (He.eqO (PySem.W.findIn K (.ref (He.ga K "NoPlan")) "__class__") (some (some (.builtin "object.__class__"))) && (He.eqO (PySem.W.specialIn K (.builtin "object.__class__") "__get__") (some (some (.builtin "getset_descriptor.__get__"))) &&
      (decide (PySem.W.takesIn K (.builtin "object.__class__") = some true) && decide (PySem.W.mroIn K (He.ga K "NoPlan") (.type "object") = some true))))))) &&
    (decide (PySem.W.kitOne K (.ref (He.ga K "NoPlan")) (.ref (He.ga K "JawError")) = some true) && !decide ((He.cT K ("CutSearch", some "__init__")).2 = (He.cT K ("is_paper", none)).2)))
def hdTf : List He.Defn := [("CutSearch", some "__init__"), ("is_paper", none)]
/-- a property and its getter -/
structure PrD where
  c : Str
  x : Str
  q : Str
  st : Stmt
def PrD.p (K : PySem.W.Frag) (d : PrD) : Addr := He.ma K (He.ga K d.c) d.x
def PrD.g (K : PySem.W.Frag) (d : PrD) : Addr := match PySem.W.recIn K (d.p K) "property" with
  | some (.ref g :: _) => g
  | _ => 0
def obsAt (K : PySem.W.Frag) (a : Addr) : He.FnW := (K.lookup a).bind fun (o : Obj) => match o.data with
  | .func u => some (u.name, u.qualname, u.params, u.body, u.scope, u.globals, u.closure, u.builtins)
  | _ => none
def noneB : Value → Bool
  | .none => true
  | _ => false
def okAt (K : PySem.W.Frag) (a : Addr) (q : Str) : Bool := match (K.lookup a).map Obj.data with
  | some (.func u) => PySem.W.keepIn K (.ref a) && PySem.W.codeIn K u.code q && noneB u.defaults
  | _ => false
def PrD.ok (K : PySem.W.Frag) (d : PrD) : Bool := okAt K (d.g K) d.q && (He.eqO (PySem.W.findIn K (.ref (He.ga K d.c)) d.x) (some (some (.ref (d.p K)))) && (He.eqO (PySem.W.specialIn K (.ref (d.p K)) "__get__") (some (some (.builtin "property.__get__"))) &&
  (decide (PySem.W.takesIn K (.ref (d.p K)) = some true) && (match PySem.W.recIn K (d.p K) "property" with
    | some (.ref _ :: _) => true
    | _ => false))))
def PrD.val (d : PrD) : He.FnW := some (d.x, d.q, defArgs d.st, .stmts (defBody d.st), defScope d.st, mainGlobals, [], builtinsNs)
def hp_Turning_period : PrD := ⟨"Turning", "period", "Turning.period", s_Turning_period⟩
def hp_Part_words : PrD := ⟨"Part", "words", "Part.words", s_Part_words⟩
def hp_Part_period : PrD := ⟨"Part", "period", "Part.period", s_Part_period⟩
def hp_Let_states : PrD := ⟨"Let", "states", "Let.states", s_Let_states⟩
def hp_Let_words : PrD := ⟨"Let", "words", "Let.words", s_Let_words⟩
def hdPr : List PrD := [hp_Turning_period, hp_Part_words, hp_Part_period, hp_Let_states, hp_Let_words]
/-- the objects that are looked at: by names, step by step -/
def hdNa : List Str := (["is_integer", "is_row", "is_place", "check_round", "is_pair", "checked_rows", "rows_turned", "least_period", "is_word", "check_even", "is_name", "is_rule", "checked_rules", "check_let", "steps_by_state", "first_steps", "stands_of", "is_closed", "is_stand", "stand_behind", "stand_moves", "first_stands", "explored", "distances", "least_count"] : List Str) ++ (["numbers", "is_numbering", "is_empty_dict", "least_length", "paper", "is_paper", "_law_pool", "_law_draw", "_law_laps", "_law_rows", "_law_world", "_law_part", "_law_table", "_law_lift", "_law_keeps", "_law_tables", "_law_span", "_law_model", "_law_rules", "_law_rules_of", "_law_handed", "_law_steps", "_law_firsts", "_law_first_stands", "_law_carried"] : List Str) ++ (["_law_behind", "_law_is_index", "_law_is_open", "_law_is_paper", "_law_let", "_law_told", "law", "Turning", "Part", "Let", "Board", "CutSearch", "NoPlan", "JawError", "WORDS"] : List Str)
def hdMe : List (Str × Str) := [("Turning", "__init__"), ("Part", "__init__"), ("Let", "__init__"), ("Board", "__init__"), ("CutSearch", "__init__"), ("Turning", "rests"), ("Turning", "lifted"), ("Turning", "is_even"), ("Part", "__getitem__"), ("Part", "rests"), ("Board", "carried"), ("Let", "rules"), ("Turning", "period"), ("Part", "words"), ("Part", "period"), ("Let", "states"), ("Let", "words")]
def refsG (g : Addr → Option Obj) (a : Addr) : List Addr := match g a with
  | some o => He.refsD o
  | none => []
def asK (g : Addr → Option Obj) : List Addr :=
  let b0 := mainGlobals :: hdNa.map (He.ga (He.frG g [mainGlobals]))
  let b2 := b0 ++ (b0.drop 1).flatMap (refsG g)
  let b3 := hdMe.map fun x => He.ma (He.frG g b2) (He.ga (He.frG g b2) x.1) x.2
  let b4 := b3 ++ b3.flatMap (refsG g)
  let b5 := hdPr.flatMap fun d => refsG g (d.g (He.frG g (b2 ++ b4)))
  b2 ++ b4 ++ b5
abbrev AlJ : Type := He.AlX × (Bool × List He.FnW)
def obsP (K : PySem.W.Frag) : Bool × List He.FnW := (hdPr.all fun d => d.ok K, hdPr.map fun d => obsAt K (d.g K))
def valP : Bool × List He.FnW := (true, hdPr.map PrD.val)
def obsK (g : Addr → Option Obj) (K : PySem.W.Frag) : AlJ := ((He.obsT hdFa hdFn [] K, hdEx K && He.tabsB g hdTf K), obsP K)
def obsJ (g : Addr → Option Obj) : AlJ := obsK g (He.frT g (asK g))
/-- what is told of a part K of the heap h -/
structure SaysJ (w : World) (h : Heap) (K : PySem.W.Frag) : Prop where
  x : He.SaysX hdFa hdFn [] hdTf hdEx w h K
  p : obsP K = valP
theorem says_of {w : World} {h : Heap} (e : obsJ h.get? = (He.valX hdFn [] w, valP)) : SaysJ w h (He.frT h.get? (asK h.get?)) := by
  obtain ⟨e12, e3⟩ := Prod.mk.inj (show ((He.obsT hdFa hdFn [] (He.frT h.get? (asK h.get?)), hdEx (He.frT h.get? (asK h.get?)) && He.tabsB h.get? hdTf (He.frT h.get? (asK h.get?))), obsP (He.frT h.get? (asK h.get?))) = (He.valX hdFn [] w, valP) from e)
  generalize hK : He.frT h.get? (asK h.get?) = K at e12 e3
  obtain ⟨e1, e2⟩ := Prod.mk.inj (show (He.obsT hdFa hdFn [] K, hdEx K && He.tabsB h.get? hdTf K) = (He.valT hdFn [] w, true) from e12)
  rw [Bool.and_eq_true] at e2
  have tab : ∀ p ∈ hdTf, PySem.W.codeHdIn K (He.cT K p).1 (He.cT K p).2 = true ∧ ∃ o, h.get? (He.cT K p).2 = some o ∧ He.emptyTab o = true := fun p m => by
    have z := List.all_eq_true.mp e2.2 p m
    rw [Bool.and_eq_true] at z
    refine ⟨z.1, ?_⟩
    have z2 := z.2
    cases y : h.get? (He.cT K p).2 with
    | none => rw [y] at z2; cases z2
    | some o => rw [y] at z2; exact ⟨o, rfl, z2⟩
  refine ⟨⟨e1, e2.1, fun p m => (tab p m).1, fun p m => ?_, fun p m => ?_⟩, e3⟩
  · obtain ⟨_, o, y, z⟩ := tab p m
    rw [← hK]
    rw [← hK] at y
    exact He.frT_none y z
  · obtain ⟨_, o, y, z⟩ := tab p m
    rw [y, He.emptyTab_eq z]
def hookJ : PySem.W.Hook where
  α := AlJ
  obs := fun s => obsJ s.heap.get?
  val := fun w => (He.valX hdFn [] w, valP)
  says := fun w h => ∃ K : PySem.W.Frag, K.In h ∧ SaysJ w h K
  of := fun _ _ e => ⟨_, He.frT_in, says_of e⟩
  keeps := fun _ _ _ ⟨K, hK, c⟩ k => ⟨K, PySem.W.Frag.In.keeps hK k, ⟨c.x.t, c.x.more, c.x.hd, c.x.out, fun p hp => k _ _ (c.x.empty p hp)⟩, c.p⟩
def obJ (s : PySem.W.SharedT) : AlJ := obsJ (HandSHeadRun.getT s)
theorem obJ_eq (s : PySem.W.SharedT) : obJ s = hookJ.obs s.abs := congrArg obsJ (funext fun a => HandSHeadRun.getT_eq s a)
def hdLo0 : List PySem.Str := ["_wall", "JawError", "BadRound", "BadRows", "BadTurn", "BadStanding", "BadWord", "BadPlan", "BadMachine", "TooMany", "NoPlan", "MOST_ROUND", "MOST_ROWS", "MOST_WIDTH", "is_integer", "is_row", "is_place", "check_round", "is_pair", "checked_rows", "rows_turned", "least_period", "Turning", "WORDS", "is_word", "checked_widths", "check_even", "Part", "MOST_DEEDS", "START"]
def hdLo1 : List PySem.Str := ["MOST_STATES", "MOST_RULES", "LETTERS", "is_name", "is_rule", "checked_rules", "Let", "check_let", "Board", "steps_by_state", "first_steps", "stands_of", "is_closed", "is_stand", "stand_behind", "stand_moves", "first_stands", "explored", "distances", "least_count", "numbers", "is_numbering", "is_empty_dict", "CutSearch", "least_length", "paper", "is_paper", "_law_pool", "_law_draw", "_law_laps"]
def hdLo2 : List PySem.Str := ["_law_rows", "_law_world", "_law_part", "_law_table", "_law_lift", "_law_keeps", "_law_tables", "_law_span", "_law_model", "_law_rules", "_law_rules_of", "_law_handed", "_law_steps", "_law_firsts", "_law_first_stands", "_law_carried", "_law_behind", "_law_is_index", "_law_is_open", "_law_is_paper", "_law_let", "_law_told"]
def hdLo : List PySem.Str := hdLo0 ++ hdLo1 ++ hdLo2
abbrev qvJ : Program := PySem.W.view RwO.prog [0, 91]
theorem runJ (w : World) : HandSHeadRun.RunEqI RwO qvJ hookJ obJ 200000 hdLo w := by
  unfold HandSHeadRun.RunEqI
  kernel_rfl
end J
/-! Small defs: is_integer, is_row, is_place, check_round, is_pair. -/
namespace J
open PySem PySem.Spec PyProof.Rows L2

/-! ### readings in short -/
theorem q_true {Q : VK} {H : Hp} {p : Prop} [Decidable p] (h : p) (q : Q (.bl true) H) : Q (.bl (decide p)) H := by
  rw [decide_eq_true h]
  exact q
theorem q_false {Q : VK} {H : Hp} {p : Prop} [Decidable p] (h : ¬ p) (q : Q (.bl false) H) : Q (.bl (decide p)) H := by
  rw [decide_eq_false h]
  exact q
theorem d_true {p : Prop} [Decidable p] (h : p) : V.bl (decide p) = V.bl true := congrArg V.bl (decide_eq_true h)
theorem d_false {p : Prop} [Decidable p] (h : ¬ p) : V.bl (decide p) = V.bl false := congrArg V.bl (decide_eq_false h)
theorem same_new {H : Hp} {p : Addr} {o : HO} (h : H p = none) : Same H (upd H p o) := fun b x e => by
  rw [upd_ne (ne_of_none e h)]
  exact e

def sp_is_integer : Sp := fun vs H Q _ => ∃ i : Int, vs = [.int i] ∧ Q (.bl true) H
def sp_is_row : Sp := fun vs H Q _ => ∃ (a : Addr) (xs : List V), vs = [.ref a] ∧ H a = some (.lst xs) ∧ ∀ H', Same H H' → Q (.bl true) H'
def sp_is_place : Sp := fun vs H Q _ => ∃ i n : Int, vs = [.int i, .int n] ∧ 0 ≤ i ∧ i < n ∧ Q (.bl true) H
def sp_check_round : Sp := fun vs H Q _ => ∃ n : Int, vs = [.int n] ∧ 2 ≤ n ∧ n ≤ 360 ∧ Q .non H
def sp_is_pair : Sp := fun vs H Q _ => ∃ (a : Addr) (b r n : Int), vs = [.ref a, .int n] ∧ H a = some (.tup [.int b, .int r]) ∧ (0 ≤ b ∧ b < n) ∧ (0 ≤ r ∧ r < n) ∧ Q (.bl true) H
section
variable {P : Program} {w : World} {K : PySem.W.Frag} {mg : Str → Option Value} {base : Heap}

theorem sc_is_integer : FnScope ["thing"] ["thing"] (defScope s_is_integer) := ⟨rfl, rfl, rfl, by decide +kernel, rfl, by decide +kernel, by decide +kernel⟩
theorem ok_is_integer (T : Wd K mg) : FnOk P w K mg base CX0 1 T.is_integer.f T.is_integer.fd ["thing"] sp_is_integer := by
  refine T.is_integer.F.ok sc_is_integer (fun vs H Q E h => ?_) (fun cdv A outer s H vs Q E hr h => ?_)
  · obtain ⟨i, rfl, _⟩ := h
    rfl
  · obtain ⟨i, rfl, q⟩ := h
    refine ⟨_, PSs.nox (pss_one (ps_ret (pe_and (pe_callB call_isi (by rfl) T.n_isinstance (by decide +kernel) (pa_cons (pv 0) (pa_cons (pe_bltn (v := .ty "int") (by rfl) T.n_int (by decide +kernel) rfl) pa_nil))) (pe_one (pe_not (pe_callB call_isi (by rfl) T.n_isinstance (by decide +kernel) (pa_cons (pv 0) (pa_cons (pe_bltn (v := .ty "bool") (by rfl) T.n_bool (by decide +kernel) rfl) pa_nil)))))))), ?_⟩
    refine ⟨_, rfl, _, _, _, _, true, rfl, .ty _, .base (.int i), kit_ty (by decide +kernel), true, rfl, iteT ⟨_, rfl, _, _, _, _, false, rfl, .ty _, .base (.int i), kit_ty (by decide +kernel), false, rfl, q⟩⟩

theorem sc_is_row : FnScope ["thing"] ["thing"] (defScope s_is_row) := ⟨rfl, rfl, rfl, by decide +kernel, rfl, by decide +kernel, by decide +kernel⟩
theorem ok_is_row (T : Wd K mg) : FnOk P w K mg base CX0 1 T.is_row.f T.is_row.fd ["thing"] sp_is_row := by
  refine T.is_row.F.ok sc_is_row (fun vs H Q E h => ?_) (fun cdv A outer s H vs Q E hr h => ?_)
  · obtain ⟨i, xs, rfl, _⟩ := h
    rfl
  · obtain ⟨a, xs, rfl, hx, q⟩ := h
    refine ⟨_, PSs.nox (pss_one (ps_ret (pe_callB call_isiT (by rfl) T.n_isinstance (by decide +kernel) (pa_cons (pv 0) (pa_cons (pe_tup (pa_cons (pe_bltn (v := .ty "list") (by rfl) T.n_list (by decide +kernel) rfl) (pa_cons (pe_bltn (v := .ty "tuple") (by rfl) T.n_tuple (by decide +kernel) rfl) pa_nil))) pa_nil))))), ?_⟩
    refine ⟨_, rfl, by show 2 ≤ sizeLine; decide, fun p hp => ?_⟩
    have hx' : (upd H p (.tup [.ty "list", .ty "tuple"])) a = some (.lst xs) := same_new hp _ _ hx
    refine ⟨.ref a, p, [.ty "list", .ty "tuple"], .type "list", [.type "list", .type "tuple"], true, rfl, upd_same, .cons (.ty _) (.cons (.ty _) .nil), .base (.lst hx'), ?_, q _ (same_new hp)⟩
    exact kitAny_cons (kit_ty (b := "list") (r := true) (by decide +kernel)) (fun z => by cases z) (fun _ => rfl)

theorem sc_is_place : FnScope ["thing", "around"] ["thing", "around"] (defScope s_is_place) := ⟨rfl, rfl, rfl, by decide +kernel, rfl, by decide +kernel, by decide +kernel⟩
theorem ok_is_place (T : Wd K mg) : FnOk P w K mg base CX0 2 T.is_place.f T.is_place.fd ["thing", "around"] sp_is_place := by
  have G_is_integer := ok_is_integer (P := P) (w := w) (base := base) T
  refine T.is_place.F.ok sc_is_place (fun vs H Q E h => ?_) (fun cdv A outer s H vs Q E hr h => ?_)
  · obtain ⟨i, n, rfl, _⟩ := h
    rfl
  · obtain ⟨i, n, rfl, h0, h1, q⟩ := h
    refine ⟨_, PSs.nox (pss_one (ps_ret (pe_and (pe_call G_is_integer (hr.mono (by decide)) (by rfl) T.is_integer.g T.is_integer.F.kp T.is_integer.b .nil pass0 (pa_cons (pv 0) pa_nil)) (pe_one (pe_chain op_le op_lt pe_int (pv 0) (pv 1)))))), ?_⟩
    refine ⟨_, rfl, i, rfl, true, rfl, iteT ⟨_, rfl, 0, i, rfl, rfl, true, d_true h0, iteT ⟨_, rfl, i, n, rfl, rfl, q_true (Q := Q) h1 q⟩⟩⟩

theorem sc_check_round : FnScope ["around"] ["around"] (defScope s_check_round) := ⟨rfl, rfl, rfl, by decide +kernel, rfl, by decide +kernel, by decide +kernel⟩
theorem ok_check_round (T : Wd K mg) : FnOk P w K mg base CX0 2 T.check_round.f T.check_round.fd ["around"] sp_check_round := by
  have G_is_integer := ok_is_integer (P := P) (w := w) (base := base) T
  refine T.check_round.F.ok sc_check_round (fun vs H Q E h => ?_) (fun cdv A outer s H vs Q E hr h => ?_)
  · obtain ⟨n, rfl, _⟩ := h
    rfl
  · obtain ⟨n, rfl, h0, h1, q⟩ := h
    refine ⟨_, PSs.nox (pss_one (ps_if (PW.pt (pw_or (pt_not (pt_val (pe_call G_is_integer (hr.mono (by decide)) (by rfl) T.is_integer.g T.is_integer.F.kp T.is_integer.b .nil pass0 (pa_cons (pv 0) pa_nil)) (fun _ => rfl))) (pw_or1 (pt_not (pt_chain op_le op_le pe_int (pv 0) (pe_glob (v := .int 360) (by rfl) T.m_MOST_ROUND ⟨_, rfl⟩))))))
      (pss_one ps_never)
      pss_nil)), ?_⟩
    refine ⟨_, rfl, n, rfl, true, rfl, iteF ⟨_, rfl, 2, n, rfl, rfl, true, d_true h0, iteT ⟨n, 360, rfl, rfl, true, d_true h1, iteF q⟩⟩⟩

theorem sc_is_pair : FnScope ["thing", "around"] ["thing", "around"] (defScope s_is_pair) := ⟨rfl, rfl, rfl, by decide +kernel, rfl, by decide +kernel, by decide +kernel⟩
theorem ok_is_pair (T : Wd K mg) : FnOk P w K mg base CX0 3 T.is_pair.f T.is_pair.fd ["thing", "around"] sp_is_pair := by
  have G_is_place := ok_is_place (P := P) (w := w) (base := base) T
  refine T.is_pair.F.ok sc_is_pair (fun vs H Q E h => ?_) (fun cdv A outer s H vs Q E hr h => ?_)
  · obtain ⟨a, b, r, n, rfl, _⟩ := h
    rfl
  · obtain ⟨a, b, r, n, rfl, ha, hb, hrr, q⟩ := h
    refine ⟨_, PSs.nox (pss_cons (ps_if (PW.pt (pw_or (pt_not (pt_val (pe_callB call_isi (by rfl) T.n_isinstance (by decide +kernel) (pa_cons (pv 0) (pa_cons (pe_bltn (v := .ty "tuple") (by rfl) T.n_tuple (by decide +kernel) rfl) pa_nil))) (fun _ => rfl))) (pw_or1 (pt_cmpR op_ne (pe_callB call_len_seq (by rfl) T.n_len (by decide +kernel) (pa_cons (pv 0) pa_nil)) pe_int (nomark _)))))
        (pss_one (ps_ret pe_bl))
        pss_nil)
      (pss_one (ps_ret (pe_and (pe_call G_is_place (hr.mono (by decide)) (by rfl) T.is_place.g T.is_place.F.kp T.is_place.b .nil pass0 (pa_cons (pe_ix ix_tup (pv 0) pe_int (fun _ _ => rfl)) (pa_cons (pv 1) pa_nil))) (pe_one (pe_call G_is_place (hr.mono (by decide)) (by rfl) T.is_place.g T.is_place.F.kp T.is_place.b .nil pass0 (pa_cons (pe_ix ix_tup (pv 0) pe_int (fun _ _ => rfl)) (pa_cons (pv 1) pa_nil)))))))), ?_⟩
    refine ⟨_, rfl, _, _, _, _, true, rfl, .ty _, .base (.tup ha), kit_ty (by decide +kernel), true, rfl, iteF ?_⟩
    refine ⟨_, rfl, a, _, rfl, .inr (SqT.of ha), rfl, false, rfl, iteF ?_⟩
    refine ⟨_, rfl, a, _, 0, .int b, rfl, rfl, SqT.of ha, rfl, _, rfl, b, n, rfl, hb.1, hb.2, true, rfl, iteT ?_⟩
    refine ⟨_, rfl, a, _, 1, .int r, rfl, rfl, SqT.of ha, rfl, _, rfl, r, n, rfl, hrr.1, hrr.2, q⟩
end
end J
/-! Data of the walk: strict data (Sd), what heaps keep (Fz, Fd, SameX), comprehensions and loops that only make. -/
namespace J
open PySem PySem.Spec PyProof.Rows L2

/-! ### rules whose reading names K itself (in blocks) -/
section
variable {X : Cx} {K : PySem.W.Frag}
theorem pe_fldK {e : Expr} {f : PySem.Str} {pos : Pos} {ta : TE} (hK : X.K = K) (he : PE X e ta) (hb : attributeBase e f X.env (eval e X.env) = eval e X.env) : PE X (.Attribute e f pos) (tFld K ta f) := by subst hK; exact pe_fld he hb
theorem ix_tupK (hK : X.K = K) : IxR X (rIxT K) := by subst hK; exact ix_tup
theorem ix_listK (hK : X.K = K) : IxR X (rIxL K) := by subst hK; exact ix_list
def rLenS (K : PySem.W.Frag) : List V → Hp → VK → Prop := fun xs H Q => ∃ p ys, xs = [.ref p] ∧ (SqL K H p ys ∨ SqT K H p ys) ∧ Q (.int ys.length) H
theorem call_len_seqK (hK : X.K = K) : CallR X (.builtin "len") (rLenS K) := by subst hK; exact call_len_seq
theorem op_in_seqK (hK : X.K = K) : OpR X (compareOp .In) (rIn K false) := by subst hK; exact op_in_seq
theorem call_isiK (hK : X.K = K) : CallR X (.builtin "isinstance") (rIsi K) := by subst hK; exact call_isi
end
mutual
/-- v stands for the data d: ints, texts, truths, None and tuples of such, each tuple known to the walk -/
inductive Sd (H : Hp) : V → PyData → Prop
  | non : Sd H .non .none
  | bl (b : Bool) : Sd H (.bl b) (.bool b)
  | int (i : Int) : Sd H (.int i) (.int i)
  | str (x : PySem.Str) : Sd H (.str x) (.str x)
  | tup {a : Addr} {xs : List V} {ds : List PyData} : H a = some (.tup xs) → SdAll H xs ds → Sd H (.ref a) (.tuple ds)
inductive SdAll (H : Hp) : List V → List PyData → Prop
  | nil : SdAll H [] []
  | cons {v : V} {vs : List V} {d : PyData} {ds : List PyData} : Sd H v d → SdAll H vs ds → SdAll H (v :: vs) (d :: ds)
end

/-- all but lists and dicts is kept -/
def Fz (H H' : Hp) : Prop := ∀ b o, H b = some o → (∀ xs, o ≠ .lst xs) → (∀ kvs, o ≠ .dK kvs) → (∀ kvs, o ≠ .dT kvs) → H' b = some o
/-- all but dicts is kept -/
def Fd (H H' : Hp) : Prop := ∀ b o, H b = some o → (∀ kvs, o ≠ .dK kvs) → (∀ kvs, o ≠ .dT kvs) → H' b = some o
/-- all but what stands at a is kept -/
def SameX (a : Addr) (H H' : Hp) : Prop := ∀ b o, b ≠ a → H b = some o → H' b = some o
theorem Fz.refl (H : Hp) : Fz H H := fun _ _ h _ _ _ => h
theorem Fz.trans {H H1 H2 : Hp} (a : Fz H H1) (b : Fz H1 H2) : Fz H H2 := fun c o h x y z => b c o (a c o h x y z) x y z
theorem Fd.fz {H H' : Hp} (h : Fd H H') : Fz H H' := fun b o e _ y z => h b o e y z
theorem fz_of {H H' : Hp} (h : Same H H') : Fz H H' := fun b o e _ _ _ => h b o e
theorem fd_of {H H' : Hp} (h : Same H H') : Fd H H' := fun b o e _ _ => h b o e
theorem Fd.trans {H H1 H2 : Hp} (a : Fd H H1) (b : Fd H1 H2) : Fd H H2 := fun c o h x y => b c o (a c o h x y) x y
theorem SameX.refl (a : Addr) (H : Hp) : SameX a H H := fun _ _ _ h => h
theorem SameX.trans {a : Addr} {H H1 H2 : Hp} (x : SameX a H H1) (y : SameX a H1 H2) : SameX a H H2 := fun c o n h => y c o n (x c o n h)
theorem same_x {a : Addr} {H H' : Hp} (h : Same H H') : SameX a H H' := fun b o _ e => h b o e
theorem samex_upd {a : Addr} {H : Hp} {o : HO} : SameX a H (upd H a o) := fun b x n e => (upd_ne n).trans e
theorem samex_new {a p : Addr} {H : Hp} {o : HO} (h : H p = none) : SameX a H (upd H p o) := fun b x n e => (upd_ne (ne_of_none e h)).trans e
theorem SameX.free {a : Addr} {H H' : Hp} (e : SameX a H H') {l : Addr} (n : l ≠ a) (h : H' l = none) : H l = none := by
  cases q : H l with
  | none => rfl
  | some o =>
    rw [e l o n q] at h
    cases h
/-- what was new when a stood, and is changed now, is no matter to those before -/
theorem SameX.same {a : Addr} {H H' : Hp} (e : SameX a H H') (n : H a = none) : Same H H' := fun b o h => e b o (ne_of_none h n) h
theorem same_new' {H : Hp} {p : Addr} {o : HO} (h : H p = none) : Same H (upd H p o) := fun b x e => (upd_ne (ne_of_none e h)).trans e
theorem same_updN {H H' : Hp} {p : Addr} {o : HO} (h : Same H H') (n : H p = none) : Same H (upd H' p o) := fun b x e => (upd_ne (ne_of_none e n)).trans (h b x e)
theorem fz_lst {H : Hp} {D : Addr} {xs : List V} {o : HO} (h : H D = some (.lst xs)) : Fz H (upd H D o) := fun b x e n _ _ => by
  by_cases q : b = D
  · subst q
    rw [h] at e
    exact absurd (Option.some.inj e).symm (n xs)
  · exact (upd_ne q).trans e
theorem fz_dK {H : Hp} {D : Addr} {xs : List (Key × V)} {o : HO} (h : H D = some (.dK xs)) : Fz H (upd H D o) := fun b x e _ n _ => by
  by_cases q : b = D
  · subst q
    rw [h] at e
    exact absurd (Option.some.inj e).symm (n xs)
  · exact (upd_ne q).trans e
theorem fz_dT {H : Hp} {D : Addr} {xs : List (List Key × V)} {o : HO} (h : H D = some (.dT xs)) : Fz H (upd H D o) := fun b x e _ _ n => by
  by_cases q : b = D
  · subst q
    rw [h] at e
    exact absurd (Option.some.inj e).symm (n xs)
  · exact (upd_ne q).trans e
theorem fd_dK {H : Hp} {D : Addr} {xs : List (Key × V)} {o : HO} (h : H D = some (.dK xs)) : Fd H (upd H D o) := fun b x e n _ => by
  by_cases q : b = D
  · subst q
    rw [h] at e
    exact absurd (Option.some.inj e).symm (n xs)
  · exact (upd_ne q).trans e
theorem fd_dT {H : Hp} {D : Addr} {xs : List (List Key × V)} {o : HO} (h : H D = some (.dT xs)) : Fd H (upd H D o) := fun b x e _ n => by
  by_cases q : b = D
  · subst q
    rw [h] at e
    exact absurd (Option.some.inj e).symm (n xs)
  · exact (upd_ne q).trans e
theorem SameX.at {a : Addr} {H H' : Hp} {o : HO} (k : SameX a H H') : SameX a H (upd H' a o) := fun b x n e => (upd_ne n).trans (k b x n e)
theorem SameX.new {a d : Addr} {H H' : Hp} {o : HO} (k : SameX a H H') (n : H d = none) : SameX a H (upd H' d o) := fun b x nb e => (upd_ne (ne_of_none e n)).trans (k b x nb e)
/-- while a dict is locked -/
theorem same_lock {H H' : Hp} {d : Addr} {o : Obj} {u : HO} (hd : H d = some u) (h : Same (upd H d (.frz o u)) H') : Same H (upd H' d u) := fun b x e => by
  by_cases q : b = d
  · subst q
    rw [hd] at e
    rw [upd_same]
    exact e
  · rw [upd_ne q]
    exact h b x ((upd_ne q).trans e)

/-- tuples are kept -/
def Ft (H H' : Hp) : Prop := ∀ b xs, H b = some (.tup xs) → H' b = some (.tup xs)
theorem Fz.ft {H H' : Hp} (k : Fz H H') : Ft H H' := fun b xs h => k b _ h (fun _ z => nomatch z) (fun _ z => nomatch z) (fun _ z => nomatch z)
theorem Ft.trans {H H1 H2 : Hp} (a : Ft H H1) (b : Ft H1 H2) : Ft H H2 := fun c o h => b c o (a c o h)
theorem ft_of {H H' : Hp} (h : Same H H') : Ft H H' := fun b xs e => h b _ e
theorem ft_upd {H : Hp} {D : Addr} {u o : HO} (h : H D = some u) (n : ∀ xs, u ≠ .tup xs) : Ft H (upd H D o) := fun b x e => by
  by_cases q : b = D
  · subst q
    rw [h] at e
    exact absurd (Option.some.inj e) (n x)
  · exact (upd_ne q).trans e
theorem ft_x {H H' : Hp} {D : Addr} {u : HO} (k : SameX D H H') (h : H D = some u) (n : ∀ xs, u ≠ .tup xs) : Ft H H' := fun b x e => k b _ (fun q => by
  subst q
  rw [h] at e
  exact absurd (Option.some.inj e) (n x)) e
mutual
theorem Sd.fz {H H' : Hp} (k : Ft H H') : ∀ (d : PyData) (v : V), Sd H v d → Sd H' v d
  | .none, _, h => by cases h; exact .non
  | .bool b, _, h => by cases h; exact .bl b
  | .int i, _, h => by cases h; exact .int i
  | .str x, _, h => by cases h; exact .str x
  | .tuple ds, _, h => by
    cases h with
    | tup a b => exact .tup (k _ _ a) (SdAll.fz k ds _ b)
  | .list _, _, h => by cases h
  | .dict _, _, h => by cases h
theorem SdAll.fz {H H' : Hp} (k : Ft H H') : ∀ (ds : List PyData) (vs : List V), SdAll H vs ds → SdAll H' vs ds
  | [], _, h => by cases h; exact .nil
  | d :: ds, _, h => by
    cases h with
    | cons a b => exact .cons (Sd.fz k d _ a) (SdAll.fz k ds _ b)
end
mutual
theorem Sd.dp (K : PySem.W.Frag) {H : Hp} : ∀ (d : PyData) (v : V), Sd H v d → Dp K H v d
  | .none, _, h => by cases h; exact .non
  | .bool b, _, h => by cases h; exact .bl b
  | .int i, _, h => by cases h; exact .int i
  | .str x, _, h => by cases h; exact .str x
  | .tuple ds, _, h => by
    cases h with
    | tup a b => exact .tup (.inl (.inl a)) (SdAll.dp K ds _ b)
  | .list _, _, h => by cases h
  | .dict _, _, h => by cases h
theorem SdAll.dp (K : PySem.W.Frag) {H : Hp} : ∀ (ds : List PyData) (vs : List V), SdAll H vs ds → DpAll K H vs ds
  | [], _, h => by cases h; exact .nil
  | d :: ds, _, h => by
    cases h with
    | cons a b => exact .cons (Sd.dp K d _ a) (SdAll.dp K ds _ b)
end
theorem Sd.mv {H H' : Hp} {d : PyData} {v : V} (k : Fz H H') (h : Sd H v d) : Sd H' v d := Sd.fz k.ft d v h
theorem Sd.mt {H H' : Hp} {d : PyData} {v : V} (k : Ft H H') (h : Sd H v d) : Sd H' v d := Sd.fz k d v h
theorem SdAll.mv {H H' : Hp} {ds : List PyData} {vs : List V} (k : Fz H H') (h : SdAll H vs ds) : SdAll H' vs ds := SdAll.fz k.ft ds vs h
theorem SdAll.mt {H H' : Hp} {ds : List PyData} {vs : List V} (k : Ft H H') (h : SdAll H vs ds) : SdAll H' vs ds := SdAll.fz k ds vs h
theorem Sd.sm {H H' : Hp} {d : PyData} {v : V} (k : Same H H') (h : Sd H v d) : Sd H' v d := Sd.fz (ft_of k) d v h
theorem SdAll.sm {H H' : Hp} {ds : List PyData} {vs : List V} (k : Same H H') (h : SdAll H vs ds) : SdAll H' vs ds := SdAll.fz (ft_of k) ds vs h
section
variable {H : Hp} {v : V}
theorem sd_int {i : Int} (h : Sd H v (.int i)) : v = .int i := by cases h; rfl
theorem sd_str {x : PySem.Str} (h : Sd H v (.str x)) : v = .str x := by cases h; rfl
theorem sd_bl {x : Bool} (h : Sd H v (.bool x)) : v = .bl x := by cases h; rfl
theorem sd_non (h : Sd H v .none) : v = .non := by cases h; rfl
theorem sd_tup {ds : List PyData} (h : Sd H v (.tuple ds)) : ∃ a xs, v = .ref a ∧ H a = some (.tup xs) ∧ SdAll H xs ds := by
  cases h with
  | tup a b => exact ⟨_, _, rfl, a, b⟩
theorem sda_nil {us : List V} (h : SdAll H us []) : us = [] := by cases h; rfl
theorem sda_cons {us : List V} {d : PyData} {ds : List PyData} (h : SdAll H us (d :: ds)) : ∃ u r, us = u :: r ∧ Sd H u d ∧ SdAll H r ds := by
  cases h with
  | cons a b => exact ⟨_, _, rfl, a, b⟩
theorem SdAll.len : ∀ {us : List V} {ds : List PyData}, SdAll H us ds → us.length = ds.length
  | _, [], h => by cases h; rfl
  | _, _ :: _, h => by
    cases h with
    | cons a b => exact congrArg (· + 1) b.len
theorem SdAll.at : ∀ {us : List V} {ds : List PyData} {i : Nat} {d : PyData}, SdAll H us ds → ds[i]? = some d → ∃ u, us[i]? = some u ∧ Sd H u d
  | _, [], i, d, h, e => by simp at e
  | _, x :: _, 0, d, h, e => by
    cases h with
    | cons a b =>
      have q : x = d := by simpa using e
      subst q
      exact ⟨_, rfl, a⟩
  | _, x :: _, i + 1, d, h, e => by
    cases h with
    | cons a b =>
      obtain ⟨u, e1, e2⟩ := b.at (i := i) (by simpa using e)
      exact ⟨u, by simpa using e1, e2⟩
theorem SdAll.get {us : List V} {ds : List PyData} {i : Nat} {d : PyData} {u : V} (h : SdAll H us ds) (e : ds[i]? = some d) (e2 : us[i]? = some u) : Sd H u d := by
  obtain ⟨u', e1, q⟩ := h.at e
  rw [e2] at e1
  cases e1
  exact q
theorem SdAll.of {us : List V} {ds : List PyData} {i : Nat} {u : V} (h : SdAll H us ds) (e : us[i]? = some u) : ∃ d, ds[i]? = some d ∧ Sd H u d := by
  have hl : i < us.length := (List.getElem?_eq_some_iff.mp e).1
  rw [h.len] at hl
  exact ⟨ds[i], by simp [hl], h.get (by simp [hl]) e⟩
theorem SdAll.snoc : ∀ {us : List V} {ds : List PyData} {u : V} {d : PyData}, SdAll H us ds → Sd H u d → SdAll H (us ++ [u]) (ds ++ [d])
  | _, [], u, d, h, q => by cases h; exact .cons q .nil
  | _, _ :: _, u, d, h, q => by
    cases h with
    | cons a b => exact .cons a (b.snoc q)
theorem SdAll.app : ∀ {us ws : List V} {ds es : List PyData}, SdAll H us ds → SdAll H ws es → SdAll H (us ++ ws) (ds ++ es)
  | _, _, [], _, h, q => by cases h; exact q
  | _, _, _ :: _, _, h, q => by
    cases h with
    | cons a b => exact .cons a (b.app q)
theorem sda_ints : ∀ {us : List V} {ns : List Int}, SdAll H us (ns.map PyData.int) → us = ns.map V.int
  | _, [], h => by cases h; rfl
  | _, n :: r, h => by
    obtain ⟨u, us, rfl, a, b⟩ := sda_cons h
    rw [sd_int a, sda_ints b]
    rfl
theorem sda_of_ints : ∀ (ns : List Int), SdAll H (ns.map V.int) (ns.map PyData.int)
  | [] => .nil
  | n :: r => .cons (.int n) (sda_of_ints r)
theorem sda_bls : ∀ {us : List V} {ns : List Bool}, SdAll H us (ns.map PyData.bool) → us = ns.map V.bl
  | _, [], h => by cases h; rfl
  | _, n :: r, h => by
    obtain ⟨u, us, rfl, a, b⟩ := sda_cons h
    rw [sd_bl a, sda_bls b]
    rfl
theorem sda_strs : ∀ {us : List V} {ns : List PySem.Str}, SdAll H us (ns.map PyData.str) → us = ns.map V.str
  | _, [], h => by cases h; rfl
  | _, n :: r, h => by
    obtain ⟨u, us, rfl, a, b⟩ := sda_cons h
    rw [sd_str a, sda_strs b]
    rfl
theorem sda_of_strs : ∀ (ns : List PySem.Str), SdAll H (ns.map V.str) (ns.map PyData.str)
  | [] => .nil
  | n :: r => .cons (.str n) (sda_of_strs r)
end

/-! ### pairs, triples, stands -/
abbrev Row := Int × Int
abbrev Tri := PySem.Str × Int × PySem.Str
abbrev Stand := PySem.Str × PySem.Str × Int × Int
def eRow (p : Row) : PyData := .tuple [.int p.1, .int p.2]
def eTri (p : Tri) : PyData := .tuple [.str p.1, .int p.2.1, .str p.2.2]
def eStand (p : Stand) : PyData := .tuple [.str p.1, .str p.2.1, .int p.2.2.1, .int p.2.2.2]
section
variable {H : Hp} {v : V}
theorem sd_row {p : Row} (h : Sd H v (eRow p)) : ∃ a, v = .ref a ∧ H a = some (.tup [.int p.1, .int p.2]) := by
  obtain ⟨a, xs, rfl, ha, h1⟩ := sd_tup h
  obtain ⟨u1, r1, rfl, e1, h2⟩ := sda_cons h1
  obtain ⟨u2, r2, rfl, e2, h3⟩ := sda_cons h2
  rw [sda_nil h3, sd_int e1, sd_int e2] at ha
  exact ⟨a, rfl, ha⟩
theorem row_sd {p : Row} {a : Addr} (h : H a = some (.tup [.int p.1, .int p.2])) : Sd H (.ref a) (eRow p) := .tup h (.cons (.int _) (.cons (.int _) .nil))
theorem sd_tri {p : Tri} (h : Sd H v (eTri p)) : ∃ a, v = .ref a ∧ H a = some (.tup [.str p.1, .int p.2.1, .str p.2.2]) := by
  obtain ⟨a, xs, rfl, ha, h1⟩ := sd_tup h
  obtain ⟨u1, r1, rfl, e1, h2⟩ := sda_cons h1
  obtain ⟨u2, r2, rfl, e2, h3⟩ := sda_cons h2
  obtain ⟨u3, r3, rfl, e3, h4⟩ := sda_cons h3
  rw [sda_nil h4, sd_str e1, sd_int e2, sd_str e3] at ha
  exact ⟨a, rfl, ha⟩
theorem tri_sd {p : Tri} {a : Addr} (h : H a = some (.tup [.str p.1, .int p.2.1, .str p.2.2])) : Sd H (.ref a) (eTri p) := .tup h (.cons (.str _) (.cons (.int _) (.cons (.str _) .nil)))
theorem sd_stand {p : Stand} (h : Sd H v (eStand p)) : ∃ a, v = .ref a ∧ H a = some (.tup [.str p.1, .str p.2.1, .int p.2.2.1, .int p.2.2.2]) := by
  obtain ⟨a, xs, rfl, ha, h1⟩ := sd_tup h
  obtain ⟨u1, r1, rfl, e1, h2⟩ := sda_cons h1
  obtain ⟨u2, r2, rfl, e2, h3⟩ := sda_cons h2
  obtain ⟨u3, r3, rfl, e3, h4⟩ := sda_cons h3
  obtain ⟨u4, r4, rfl, e4, h5⟩ := sda_cons h4
  rw [sda_nil h5, sd_str e1, sd_str e2, sd_int e3, sd_int e4] at ha
  exact ⟨a, rfl, ha⟩
theorem stand_sd {p : Stand} {a : Addr} (h : H a = some (.tup [.str p.1, .str p.2.1, .int p.2.2.1, .int p.2.2.2])) : Sd H (.ref a) (eStand p) := .tup h (.cons (.str _) (.cons (.str _) (.cons (.int _) (.cons (.int _) .nil))))
end
/-- a list that stands for the items l -/
def LAt {β : Type} (enc : β → PyData) (H : Hp) (v : V) (l : List β) : Prop := ∃ a us, v = .ref a ∧ H a = some (.lst us) ∧ SdAll H us (l.map enc)
/-- .. a tuple -/
def TAt {β : Type} (enc : β → PyData) (H : Hp) (v : V) (l : List β) : Prop := ∃ a us, v = .ref a ∧ H a = some (.tup us) ∧ SdAll H us (l.map enc)
theorem LAt.sm {β : Type} {enc : β → PyData} {H H' : Hp} {v : V} {l : List β} (k : Same H H') (h : LAt enc H v l) : LAt enc H' v l := by
  obtain ⟨a, us, e, h1, h2⟩ := h
  exact ⟨a, us, e, k _ _ h1, h2.sm k⟩
theorem LAt.fd {β : Type} {enc : β → PyData} {H H' : Hp} {v : V} {l : List β} (k : Fd H H') (h : LAt enc H v l) : LAt enc H' v l := by
  obtain ⟨a, us, e, h1, h2⟩ := h
  exact ⟨a, us, e, k _ _ h1 (fun _ z => nomatch z) (fun _ z => nomatch z), h2.mv k.fz⟩
theorem TAt.ft {β : Type} {enc : β → PyData} {H H' : Hp} {v : V} {l : List β} (k : Ft H H') (h : TAt enc H v l) : TAt enc H' v l := by
  obtain ⟨a, us, e, h1, h2⟩ := h
  exact ⟨a, us, e, k _ _ h1, h2.mt k⟩
theorem TAt.fz {β : Type} {enc : β → PyData} {H H' : Hp} {v : V} {l : List β} (k : Fz H H') (h : TAt enc H v l) : TAt enc H' v l := by
  obtain ⟨a, us, e, h1, h2⟩ := h
  exact ⟨a, us, e, k _ _ h1 (fun _ z => nomatch z) (fun _ z => nomatch z) (fun _ z => nomatch z), h2.mv k⟩
theorem TAt.sm {β : Type} {enc : β → PyData} {H H' : Hp} {v : V} {l : List β} (k : Same H H') (h : TAt enc H v l) : TAt enc H' v l := h.fz (fz_of k)

/-- no test: each turn counts -/
theorem yesT {σ : L2.St} {H : Hp} {te : TE} {N : V → Hp → Prop} {N0 : Hp → Prop} (h : te σ H N) : tYes σ H (fun b H3 => if b = true then te σ H3 N else N0 H3) := iteT (B := N0 H) (show te σ H N from h)
theorem fm_take {α β : Type} (f : α → Option β) (its : List α) {i : Nat} {z : α} (e : its[i]? = some z) : (its.take (i + 1)).filterMap f = (its.take i).filterMap f ++ (f z).toList := by
  rw [List.take_add_one, e, List.filterMap_append]
  cases h : f z with
  | none => simp [h]
  | some b => simp [h]

/-! ### a comprehension that only makes -/
theorem lc_pure {J : It} {n : Nat} {G : Hp → Prop} {Y : Nat → Hp → V → Hp → Prop} (w : Walk J n G Y) {α β : Type} (its : List α) (f : α → Option β) (enc : β → PyData) {g : TG} {tt : TT} {te : TE} {vs : List Nat} {σ : L2.St} {H1 : Hp} {D : Addr} {Qd : Hp → Prop}
    (hn : n = its.length) (hz : n ≤ sizeLine) (hD : H1 D = none) (hG : ∀ H, Same H1 H → G H)
    (hs : ∀ i z x H H' (N : V → Hp → Prop) (N0 : Hp → Prop), its[i]? = some z → Same H1 H → Y i H x H' → (∀ y H4 b, Same H H4 → f z = some b → Sd H4 y (enc b) → N y H4) → (f z = none → ∀ H4, Same H H4 → N0 H4) →
      g x (wipe σ vs) H' fun σ2 H2 => wipe σ2 vs = wipe σ vs ∧ tt σ2 H2 fun b H3 => if b = true then te σ2 H3 N else N0 H3)
    (hd : ∀ H us, Same H1 H → H D = some (.lst us) → SdAll H us ((its.filterMap f).map enc) → Qd H) :
    ∃ W : Nat → Nat → Hp → Prop, (∃ m, W 0 m (upd H1 D (.lst []))) ∧ ∀ i m H, W i m H →
      (J.stop i H ∧ Qd H) ∨ (J.go i H ∧ ∃ Nx : Hp → Prop, (∀ H', Nx H' → ∃ m', m' < m ∧ W (i + 1) m' H') ∧ ∀ x H', J.yld i H x H' → g x (wipe σ vs) H' fun σ2 H2 => wipe σ2 vs = wipe σ vs ∧ tt σ2 H2 fun b H3 =>
        if b = true then te σ2 H3 fun y H4 => ∃ acc, H4 D = some (.lst acc) ∧ acc.length < sizeLine ∧ Nx (upd H4 D (.lst (acc ++ [y]))) else Nx H3) := by
  refine lc_it w (fun i H => Same H1 H ∧ ∃ us, H D = some (.lst us) ∧ us.length ≤ i ∧ SdAll H us (((its.take i).filterMap f).map enc)) ⟨same_new' hD, [], upd_same, Nat.le_refl _, .nil⟩ (fun i H _ p => hG H p.1) (fun i x H H' hi p y => ?_) fun H p => ?_
  · obtain ⟨hS, us, hu, hul, hd'⟩ := p
    have hi' : i < its.length := hn ▸ hi
    refine hs i its[i] x H H' _ _ (by simp [hi']) hS y (fun y H4 b h4 hf hy => ?_) fun hf H4 h4 => ?_
    · refine ⟨us, h4 _ _ hu, by omega, fun c o e => (upd_ne (ne_of_none e hD)).trans (h4 _ _ (hS _ _ e)), us ++ [y], upd_same, by simp; omega, ?_⟩
      rw [fm_take f its (i := i) (z := its[i]) (by simp [hi']), hf, List.map_append]
      have k := fz_lst (o := .lst (us ++ [y])) (h4 _ _ hu)
      exact ((hd'.sm h4).mv k).app (.cons (hy.mv k) .nil)
    · refine ⟨fun c o e => h4 _ _ (hS _ _ e), us, h4 _ _ hu, by omega, ?_⟩
      rw [fm_take f its (i := i) (z := its[i]) (by simp [hi']), hf]
      simpa using hd'.sm h4
  · obtain ⟨hS, us, hu, hul, hd'⟩ := p
    refine hd H us hS hu ?_
    rw [hn, List.take_length] at hd'
    exact hd'
end J
/-! Own rules beside the layer's: sorted of data, math.lcm. -/
namespace J
open PySem PySem.Spec PyProof.Rows L2
section
variable {X : Cx}

/-! ### sorted(xs), xs a list of tuples of any one shape -/
theorem each_of_pair {α β γ : Type} {R : α → γ → Prop} {S : β → α → Prop} : ∀ {vs : List α} {us : List β} {bs : List γ}, Paired S us vs → Paired R vs bs → PySem.W.EachIs (fun u b => ∃ v, S u v ∧ R v b) us bs
  | _, _, _, .nil, .nil => .nil
  | _, _, _, .cons s t, .cons r q => .cons ⟨_, s, r⟩ (each_of_pair t q)
theorem pair_swap {α β : Type} {R : α → β → Prop} : ∀ {vs : List α} {us : List β}, Paired R vs us → Paired (fun u v => R v u) us vs
  | _, _, .nil => .nil
  | _, _, .cons s t => .cons s (pair_swap t)
theorem pair_of_each {α β γ : Type} {R : α → γ → Prop} {S : β → α → Prop} : ∀ {us : List β} {bs : List γ}, PySem.W.EachIs (fun u b => ∃ v, S u v ∧ R v b) us bs → ∃ vs, Paired S us vs ∧ Paired R vs bs
  | _, _, .nil => ⟨[], .nil, .nil⟩
  | _, _, .cons ⟨v, s, r⟩ t => by
    obtain ⟨vs, h1, h2⟩ := pair_of_each t
    exact ⟨v :: vs, .cons s h1, .cons r h2⟩
/-- sorted(xs): R is what the items are known to stand for -/
def rSortD (K : PySem.W.Frag) {β : Type} (enc : β → PyData) : List V → Hp → VK → Prop := fun vs H Q => ∃ (a : Addr) (us : List V) (bs : List β) (R : V → β → Prop), vs = [.ref a] ∧ SqL K H a us ∧ Paired R us bs ∧ (∀ v b, R v b → Dp K H v (enc b)) ∧
  ∀ (p : Addr) (us' : List V), H p = none → Paired R us' (bs.mergeSort (PySem.W.dataLe false enc)) → Q (.ref p) (upd H p (.lst us'))
theorem cr_sortD {β : Type} {enc : β → PyData} (hu : X.A.units + 64 < cLine) (ha : ∀ b b', PySem.W.alike (enc b) (enc b') = true) (hs : ∀ b, ∃ x r, enc b = .tuple (x :: r)) (hd : ∀ b, (enc b).depth ≤ 8) : CallR X (.builtin "sorted") (rSortD X.K enc) := by
  intro pins s σ H xs us Q I r h
  obtain ⟨a, ws, bs, R, rfl, hS, hR, hD, q⟩ := h
  have e1 := Vals.ref1 r
  subst e1
  obtain ⟨its, rv, hpl, hz⟩ := I.list hS
  have e : PySem.W.EachIs (fun u b => ∃ v, RelV v u ∧ R v b) its bs := each_of_pair (pair_swap rv) hR
  have er : PySem.W.EachIs (fun v b => ∃ as, Reads s.heap v (enc b) as) its bs := e.mono fun u b ⟨v, rv', hv⟩ => Dp.reads I (enc b) v u (hD v b hv) rv'
  refine PySem.W.sorted_data (R := fun u b => ∃ v, RelV v u ∧ R v b) hpl.isList e er (PySem.W.AllAlike.of ha) (PySem.W.Sortable.tuples hs) (by rw [← e.length, ← rv.length]; exact hz) (fun b _ => by have := hd b; omega) fun out ho eo => ?_
  obtain ⟨us', h1, h2⟩ := pair_of_each eo
  have h3 : Vals us' out := pair_swap h1
  obtain ⟨ep, he⟩ := PyProof.Rows.sortedAll_at s.heap its out.toArray
  have hlen : us'.length ≤ sizeLine := by rw [h3.length, ho, ← e.length, ← rv.length]; exact hz
  exact ⟨.ref _, upd H (s.heap.objs.size + 1) (.lst us'), I.laid (t' := s.toks) (fun _ _ => PyProof.Rows.sortedAll_old) (Nat.le_succ _) ⟨hlen, out, ep, h3, he⟩, rfl, q _ _ (I.hok.fresh (Nat.le_succ _)) h2⟩
end

section
variable {X : Cx}
/-! ### math.lcm -/
def rLcm : List V → Hp → VK → Prop := fun vs H Q => ∃ a b : Int, vs = [.int a, .int b] ∧ a.natAbs < 2 ^ 64 ∧ b.natAbs < 2 ^ 64 ∧ Q (.int ((Nat.lcm a.natAbs b.natAbs : Nat) : Int)) H
theorem cr_lcm : CallR X (.builtin "math.lcm") rLcm := by
  intro pins s σ H vs us Q I r h
  obtain ⟨a, b, rfl, ha, hb, q⟩ := h
  obtain ⟨t, u, rfl⟩ := Vals.int2 r
  exact PySem.W.mc_lcm ha hb fun _ => ⟨.int _, H, I.tok _, ⟨_, rfl⟩, q⟩

/-! ### min(xs, default=None) of ints -/
def rMinDef (K : PySem.W.Frag) : List V → List V → Hp → VK → Prop := fun vs zs H Q => ∃ (a : Addr) (ns : List Int), vs = [.ref a] ∧ zs = [.non] ∧ SqL K H a (ns.map V.int) ∧ (ns = [] → Q .non H) ∧ ∀ n r, ns = n :: r → Q (.int (r.foldl min n)) H
theorem alike_ints2 (ns : List Int) : PySem.W.AlikeAll (ns.map PyData.int) := by
  refine ⟨fun x hx y hy => ?_, fun x hx => ?_⟩
  · obtain ⟨i, _, rfl⟩ := List.mem_map.mp hx
    obtain ⟨j, _, rfl⟩ := List.mem_map.mp hy
    simp [PySem.W.alike]
  · obtain ⟨i, _, rfl⟩ := List.mem_map.mp hx
    exact fun z => PyData.noConfusion z
theorem dpAll_ints (K : PySem.W.Frag) (H : Hp) : ∀ ns : List Int, DpAll K H (ns.map V.int) (ns.map PyData.int)
  | [] => .nil
  | n :: r => .cons (.int n) (dpAll_ints K H r)
theorem cr_minDef (hc : X.calm = true) (hu : X.A.units + 64 < cLine) : CallRK X (.builtin "min") [Str.ofString "default"] (rMinDef X.K) := by
  intro pins s σ H xs zs us ws Q I r rz h
  obtain ⟨a, ns, rfl, rfl, hS, h0, h1⟩ := h
  have e1 := Vals.ref1 r
  subst e1
  obtain ⟨u, rfl, ru⟩ := Vals.one rz
  have eu : u = Value.none := ru
  subst eu
  obtain ⟨its, rv, hpl, hz⟩ := I.list hS
  obtain ⟨as, hr⟩ := Dp.readsAll I _ _ _ (dpAll_ints X.K H ns) rv
  refine PySem.W.min_list_default (vs := its.toArray) (I.ok.hd hc) hpl.isList hr (alike_ints2 ns) ?_ (fun e h' tk k => ?_) (fun y ys i v h' tk bs e hi hv k => ?_)
  · rw [PySem.W.depth_ints]; omega
  · cases ns with
    | nil => exact ⟨.non, H, I.kept k, rfl, h0 rfl⟩
    | cons n r => cases e
  · cases ns with
    | nil => cases e
    | cons n r =>
      have e2 : PyData.int n = y ∧ r.map PyData.int = ys := List.cons.inj e
      rw [← e2.1, ← e2.2, PySem.W.minD_ints] at hv
      cases hv with
      | int _ t => exact ⟨.int _, H, I.kept k, ⟨t, rfl⟩, h1 n r rfl⟩

/-! ### o[i], o an instance whose class has __getitem__ -/
def tOwnIx (C : Addr) (sp : Sp) (ta tb : TE) : TE := fun σ H Q => ta σ H fun x H1 => tb σ H1 fun y H2 => ∃ a dx fs, x = .ref a ∧ H2 a = some (.ins C dx fs) ∧ sp [.ref a, y] H2 Q E0
theorem pe_ownIx {k : Nat} {C f : Addr} {fd : FuncData} {ps : List Str} {sp : Sp} {o i : Expr} {pos : Pos} {ta tb : TE} (ho : PE X o ta) (hi : PE X i tb) (hm : Meth X.K C "__getitem__" f) (hfn : PySem.W.fnIn X.K f = true)
    (F : FnOk X.prog X.w X.K X.mg X.base CX0 k f fd ps sp) (hr : Room (k + 1) X.A) (hb : Binds X.K fd ps []) (hsl : ∀ a u, subscripted i true (.ref a) u = runValue (.builtin "lifetime.subscript" ⟨[.ref a, u], []⟩)) : PE X (.Subscript o i pos) (tOwnIx C sp ta tb) := by
  refine ⟨fun pins s σ H Q I h => ?_⟩
  refine Subscript_ (binT ho hi I h fun v u s2 x y H2 I2 rx ry q => ?_)
  obtain ⟨a, dx, fs, rfl, ea, q⟩ := q
  have ev : v = Value.ref a := rx
  subst ev
  obtain ⟨mA, O, _, _, _, _⟩ := ins_get I2.hok ea
  obtain ⟨od, J, _⟩ := O.look
  obtain ⟨m, Fm⟩ := I2.fr
  refine PySem.W.sub_K Fm I2.mod.kin J hm.at_ hfn hm.fn ?_ (hsl a u)
  have r2 : Vals [V.ref a, y] [Value.ref a, u] := .cons rfl (.cons ry .nil)
  have hl : ([Value.ref a, u] ++ []).length = ps.length := (F.len _ _ _ _ q)
  refine wpAny_call (codeAny_mono (F.run X.A.in1 X.stack s2 H2 ⟨[.ref a, u], []⟩ ([.ref a, u] ++ []) _ Q E0 hr.in1 I2.env0.in1 (hb s2 [.ref a, u] I2.kIn hl) r2 q) fun r s' hq => ?_)
  cases r with
  | error e => exact False.elim hq
  | ok fl =>
    cases fl with
    | ret u => exact I2.after hq
    | next => exact False.elim hq
    | brk => exact False.elim hq
    | cont => exact False.elim hq
end
end J
/-! Plain mathematics: rows, the lifted map, its shifts, least periods. No program here. -/
namespace JM
abbrev Rw := Int × Int

/-! ### lists in order -/
theorem sorted_ext {α : Type} {lt : α → α → Prop} (ir : ∀ x, ¬ lt x x) (as : ∀ x y, lt x y → ¬ lt y x) : ∀ {l m : List α}, l.Pairwise lt → m.Pairwise lt → (∀ x, x ∈ l ↔ x ∈ m) → l = m
  | [], [], _, _, _ => rfl
  | [], y :: m, _, _, h => absurd ((h y).mpr (List.mem_cons_self ..)) (by simp)
  | x :: l, [], _, _, h => absurd ((h x).mp (List.mem_cons_self ..)) (by simp)
  | x :: l, y :: m, hl, hm, h => by
    obtain ⟨hx, hl'⟩ := List.pairwise_cons.mp hl
    obtain ⟨hy, hm'⟩ := List.pairwise_cons.mp hm
    have e : x = y := by
      rcases List.mem_cons.mp ((h x).mp (List.mem_cons_self ..)) with e | e
      · exact e
      · rcases List.mem_cons.mp ((h y).mpr (List.mem_cons_self ..)) with e' | e'
        · exact e'.symm
        · exact absurd (hy x e) (as _ _ (hx y e'))
    subst e
    rw [sorted_ext ir as hl' hm' fun z => ?_]
    constructor
    · intro hz
      rcases List.mem_cons.mp ((h z).mp (List.mem_cons_of_mem _ hz)) with e | e
      · subst e
        exact absurd (hx z hz) (ir z)
      · exact e
    · intro hz
      rcases List.mem_cons.mp ((h z).mpr (List.mem_cons_of_mem _ hz)) with e | e
      · subst e
        exact absurd (hy z hz) (ir z)
      · exact e
theorem ints_ext {l m : List Int} (hl : l.Pairwise (· < ·)) (hm : m.Pairwise (· < ·)) (h : ∀ x, x ∈ l ↔ x ∈ m) : l = m := sorted_ext (fun x => by omega) (fun x y => by omega) hl hm h

/-! ### rows -/
structure RowsOk (n : Int) (rows : List Rw) : Prop where
  lo : 2 ≤ n
  hi : n ≤ 360
  ne : rows ≠ []
  len : rows.length ≤ 12
  inb : ∀ p ∈ rows, 0 ≤ p.1 ∧ p.1 < n ∧ 0 ≤ p.2 ∧ p.2 < n
  inc : rows.Pairwise fun p q => p.1 < q.1
  gap : ∀ p ∈ rows, ∀ q ∈ rows, p.1 < q.1 → p.1 + (p.2 - p.1) % n < q.1
  wrap : ∀ p ∈ rows, ∀ q ∈ rows, p.1 + (p.2 - p.1) % n < q.1 + n

def pick (place : Int) (r0 : Rw) (rows : List Rw) : Rw := rows.foldl (fun a r => if r.1 ≤ place then r else a) r0
/-- the lifted map, as the program says it -/
def lift (n : Int) (rows : List Rw) (x : Int) : Int :=
  let r0 := rows.headD (0, 0)
  let lap := if x % n < r0.1 then x / n - 1 else x / n
  let place := if x % n < r0.1 then x % n + n else x % n
  let q := pick place r0 rows
  lap * n + q.1 + (q.2 - q.1) % n

theorem pick_spec (place : Int) : ∀ (rows : List Rw) (r0 : Rw), r0.1 ≤ place → rows.Pairwise (fun p q => p.1 < q.1) → (∀ r ∈ rows, r0.1 ≤ r.1) →
    (pick place r0 rows = r0 ∨ pick place r0 rows ∈ rows) ∧ (pick place r0 rows).1 ≤ place ∧ r0.1 ≤ (pick place r0 rows).1 ∧ ∀ r ∈ rows, r.1 ≤ place → r.1 ≤ (pick place r0 rows).1
  | [], r0, h, _, _ => ⟨.inl rfl, h, Int.le_refl _, fun _ z => absurd z (by simp)⟩
  | a :: l, r0, h, hp, hr => by
    obtain ⟨h1, h2⟩ := List.pairwise_cons.mp hp
    show (pick place (if a.1 ≤ place then a else r0) l = r0 ∨ pick place (if a.1 ≤ place then a else r0) l ∈ a :: l) ∧ (pick place (if a.1 ≤ place then a else r0) l).1 ≤ place ∧ r0.1 ≤ (pick place (if a.1 ≤ place then a else r0) l).1 ∧ ∀ r ∈ a :: l, r.1 ≤ place → r.1 ≤ (pick place (if a.1 ≤ place then a else r0) l).1
    have ha := hr a (List.mem_cons_self ..)
    by_cases c : a.1 ≤ place
    · rw [if_pos c]
      obtain ⟨q1, q2, q3, q4⟩ := pick_spec place l a c h2 fun r hr' => Int.le_of_lt (h1 r hr')
      refine ⟨.inr ?_, q2, Int.le_trans ha q3, fun r hr' hc => ?_⟩
      · rcases q1 with e | e
        · rw [e]; exact List.mem_cons_self ..
        · exact List.mem_cons_of_mem _ e
      · rcases List.mem_cons.mp hr' with e | e
        · rw [e]; exact q3
        · exact q4 r e hc
    · rw [if_neg c]
      obtain ⟨q1, q2, q3, q4⟩ := pick_spec place l r0 h h2 fun r hr' => hr r (List.mem_cons_of_mem _ hr')
      refine ⟨q1.imp id (List.mem_cons_of_mem _), q2, q3, fun r hr' hc => ?_⟩
      rcases List.mem_cons.mp hr' with e | e
      · subst e; exact absurd hc c
      · exact q4 r e hc

/-- y is where the rows take x -/
def IsF (n : Int) (rows : List Rw) (x y : Int) : Prop := ∃ p ∈ rows, ∃ k : Int, p.1 + k * n ≤ x ∧ y = p.1 + k * n + (p.2 - p.1) % n ∧ ∀ q ∈ rows, ∀ j : Int, q.1 + j * n ≤ x → q.1 + j * n ≤ p.1 + k * n

theorem mul_step {n j k : Int} (hn : 0 ≤ n) (h : j ≤ k) : j * n ≤ k * n := Int.mul_le_mul_of_nonneg_right h hn
theorem mul_succ' (k n : Int) : (k + 1) * n = k * n + n := by rw [Int.add_mul, Int.one_mul]
theorem mul_pred' (k n : Int) : (k - 1) * n = k * n - n := by rw [Int.sub_mul, Int.one_mul]

section
variable {n : Int} {rows : List Rw}
theorem RowsOk.off (R : RowsOk n rows) (p : Rw) : 0 ≤ (p.2 - p.1) % n ∧ (p.2 - p.1) % n < n := ⟨Int.emod_nonneg _ (by have := R.lo; omega), Int.emod_lt_of_pos _ (by have := R.lo; omega)⟩
theorem RowsOk.head (R : RowsOk n rows) : rows.headD (0, 0) ∈ rows ∧ ∀ r ∈ rows, (rows.headD (0, 0)).1 ≤ r.1 := by
  have i := R.inc
  cases h : rows with
  | nil => exact absurd h R.ne
  | cons a l =>
    rw [h] at i
    obtain ⟨h1, h2⟩ := List.pairwise_cons.mp i
    refine ⟨List.mem_cons_self .., fun r hr => ?_⟩
    rcases List.mem_cons.mp hr with e | e
    · rw [e]; exact Int.le_refl _
    · exact Int.le_of_lt (h1 r e)
theorem RowsOk.inj (R : RowsOk n rows) {p q : Rw} (hp : p ∈ rows) (hq : q ∈ rows) (e : p.1 = q.1) : p = q := by
  have i := R.inc
  clear R
  induction rows with
  | nil => simp at hp
  | cons a l ih =>
    obtain ⟨h1, h2⟩ := List.pairwise_cons.mp i
    rcases List.mem_cons.mp hp with e1 | e1
    · rcases List.mem_cons.mp hq with e2 | e2
      · rw [e1, e2]
      · have := h1 q e2
        rw [← e1] at this
        omega
    · rcases List.mem_cons.mp hq with e2 | e2
      · have := h1 p e1
        rw [← e2] at this
        omega
      · exact ih e1 e2 h2
theorem lift_isF (R : RowsOk n rows) (x : Int) : IsF n rows x (lift n rows x) := by
  have hn : 0 < n := by have := R.lo; omega
  obtain ⟨hh, hm⟩ := R.head
  have hb := R.inb _ hh
  have x1 : 0 ≤ x % n := Int.emod_nonneg _ (by omega)
  have x2 : x % n < n := Int.emod_lt_of_pos _ hn
  have x3 : x = x / n * n + x % n := by have := Int.emod_add_mul_ediv x n; rw [Int.mul_comm] at this; omega
  unfold lift
  generalize rows.headD (0, 0) = r0 at hh hm hb
  simp only []
  have key : ∀ lap place : Int, x = lap * n + place → r0.1 ≤ place → place < r0.1 + n → IsF n rows x (lap * n + (pick place r0 rows).1 + ((pick place r0 rows).2 - (pick place r0 rows).1) % n) := by
    intro lap place e h1 h2
    obtain ⟨q1, q2, q3, q4⟩ := pick_spec place rows r0 h1 R.inc hm
    have qm : pick place r0 rows ∈ rows := q1.elim (fun e => by rw [e]; exact hh) id
    refine ⟨_, qm, lap, by omega, by omega, fun q hq j hj => ?_⟩
    have b := R.inb q hq
    have b2 := R.inb _ qm
    rcases Int.lt_trichotomy j lap with c | c | c
    · have := mul_step (n := n) (by omega) (show j ≤ lap - 1 by omega)
      rw [mul_pred'] at this
      omega
    · subst c
      have := q4 q hq (by omega)
      omega
    · have := mul_step (n := n) (by omega) (show lap + 1 ≤ j by omega)
      rw [mul_succ'] at this
      have := hm q hq
      omega
  by_cases c : x % n < r0.1
  · rw [if_pos c, if_pos c]
    refine key _ _ ?_ (by omega) (by omega)
    rw [mul_pred']
    omega
  · rw [if_neg c, if_neg c]
    exact key _ _ x3 (by omega) (by omega)
theorem lap_eq (R : RowsOk n rows) {p q : Rw} (hp : p ∈ rows) (hq : q ∈ rows) {k j : Int} (e : p.1 + k * n = q.1 + j * n) : p = q ∧ k = j := by
  have b := R.inb p hp
  have b2 := R.inb q hq
  have hn := R.lo
  have kj : k = j := by
    rcases Int.lt_trichotomy k j with c | c | c
    · have := mul_step (n := n) (by omega) (show k + 1 ≤ j by omega)
      rw [mul_succ'] at this
      omega
    · exact c
    · have := mul_step (n := n) (by omega) (show j + 1 ≤ k by omega)
      rw [mul_succ'] at this
      omega
  subst kj
  exact ⟨R.inj hp hq (by omega), rfl⟩
theorem isF_uniq (R : RowsOk n rows) {x y z : Int} (h : IsF n rows x y) (h' : IsF n rows x z) : y = z := by
  obtain ⟨p, hp, k, h1, h2, h3⟩ := h
  obtain ⟨q, hq, j, g1, g2, g3⟩ := h'
  obtain ⟨e1, e2⟩ := lap_eq R hp hq (Int.le_antisymm (g3 p hp k h1) (h3 q hq j g1))
  subst e1 e2
  omega
theorem lift_eq (R : RowsOk n rows) {x y : Int} (h : IsF n rows x y) : lift n rows x = y := isF_uniq R (lift_isF R x) h
theorem no_begin (R : RowsOk n rows) {p q : Rw} (hp : p ∈ rows) (hq : q ∈ rows) {k j : Int} (h : p.1 + k * n < q.1 + j * n) : p.1 + k * n + (p.2 - p.1) % n < q.1 + j * n := by
  have b := R.inb p hp
  have b2 := R.inb q hq
  have hn := R.lo
  rcases Int.lt_trichotomy k j with c | c | c
  · have := mul_step (n := n) (by omega) (show k + 1 ≤ j by omega)
    rw [mul_succ'] at this
    have := R.wrap p hp q hq
    omega
  · subst c
    have := R.gap p hp q hq (by omega)
    omega
  · have := mul_step (n := n) (by omega) (show j + 1 ≤ k by omega)
    rw [mul_succ'] at this
    omega
theorem lift_mono (R : RowsOk n rows) {x y : Int} (h : x ≤ y) : lift n rows x ≤ lift n rows y := by
  obtain ⟨p, hp, k, h1, h2, h3⟩ := lift_isF R x
  obtain ⟨q, hq, j, g1, g2, g3⟩ := lift_isF R y
  have o := R.off q
  have := g3 p hp k (by omega)
  rcases Int.lt_or_eq_of_le this with c | c
  · have := no_begin R hp hq c
    omega
  · obtain ⟨e1, e2⟩ := lap_eq R hp hq c
    subst e1 e2
    omega
theorem lift_idem (R : RowsOk n rows) (x : Int) : lift n rows (lift n rows x) = lift n rows x := by
  obtain ⟨p, hp, k, h1, h2, h3⟩ := lift_isF R x
  have o := R.off p
  refine lift_eq R ⟨p, hp, k, by omega, h2, fun q hq j hj => ?_⟩
  rcases Int.lt_or_le (p.1 + k * n) (q.1 + j * n) with c | c
  · have := no_begin R hp hq c
    omega
  · exact c
theorem lift_lap (R : RowsOk n rows) (x : Int) : lift n rows (x + n) = lift n rows x + n := by
  obtain ⟨p, hp, k, h1, h2, h3⟩ := lift_isF R x
  refine lift_eq R ⟨p, hp, k + 1, by rw [mul_succ']; omega, by rw [mul_succ']; omega, fun q hq j hj => ?_⟩
  have := h3 q hq (j - 1) (by rw [mul_pred']; omega)
  rw [mul_pred'] at this
  rw [mul_succ']
  omega

/-! ### shifts -/
/-- a shift by s is kept -/
def Pd (F : Int → Int) (s : Int) : Prop := ∀ x, F (x + s) = F x + s
theorem Pd.add {F : Int → Int} {s t : Int} (h : Pd F s) (g : Pd F t) : Pd F (s + t) := fun x => by
  rw [← Int.add_assoc, g, h, Int.add_assoc]
theorem Pd.neg {F : Int → Int} {s : Int} (h : Pd F s) : Pd F (-s) := fun x => by
  have := h (x + -s)
  rw [show x + -s + s = x by omega] at this
  omega
theorem Pd.zero (F : Int → Int) : Pd F 0 := fun x => by simp
theorem Pd.nmul {F : Int → Int} {s : Int} (h : Pd F s) : ∀ k : Nat, Pd F (k * s)
  | 0 => by simpa using Pd.zero F
  | k + 1 => by
    have := (h.nmul k).add h
    rw [show ((k + 1 : Nat) : Int) * s = k * s + s by rw [show ((k + 1 : Nat) : Int) = (k : Int) + 1 by omega, Int.add_mul, Int.one_mul]]
    exact this
theorem Pd.mul {F : Int → Int} {s : Int} (h : Pd F s) (k : Int) : Pd F (k * s) := by
  rcases Int.le_total 0 k with c | c
  · have := h.nmul k.toNat
    rwa [Int.toNat_of_nonneg c] at this
  · have := (h.nmul (-k).toNat).neg
    rw [Int.toNat_of_nonneg (by omega)] at this
    rwa [Int.neg_mul, Int.neg_neg] at this
theorem lift_pd (R : RowsOk n rows) : Pd (lift n rows) n := lift_lap R

/-- the least step that keeps Q, among the divisors of n below it; else n -/
structure IsLeast (n : Int) (Q : Int → Prop) (d : Int) : Prop where
  lo : 1 ≤ d
  hi : d ≤ n
  yes : d = n ∨ (n % d = 0 ∧ Q d)
  least : ∀ s, 1 ≤ s → s < d → n % s = 0 → ¬ Q s
theorem IsLeast.uniq {Q : Int → Prop} {d e : Int} (h : IsLeast n Q d) (g : IsLeast n Q e) : d = e := by
  rcases Int.lt_trichotomy d e with c | c | c
  · rcases h.yes with q | q
    · have := g.hi; omega
    · exact absurd q.2 (g.least d h.lo c q.1)
  · exact c
  · rcases g.yes with q | q
    · have := h.hi; omega
    · exact absurd q.2 (h.least e g.lo c q.1)
theorem IsLeast.congr {Q Q' : Int → Prop} {d : Int} (h : IsLeast n Q d) (e : ∀ s, 1 ≤ s → s < n → n % s = 0 → (Q s ↔ Q' s)) : IsLeast n Q' d := by
  have hl := h.lo
  have hh := h.hi
  refine ⟨hl, hh, ?_, fun s h1 h2 h3 q => h.least s h1 h2 h3 ((e s h1 (by omega) h3).mpr q)⟩
  by_cases c : d = n
  · exact .inl c
  · exact h.yes.imp id fun z => ⟨z.1, (e d hl (by omega) z.1).mp z.2⟩
/-- the least of them all divides them all -/
theorem least_pos {F : Int → Int} : ∀ (m : Nat) (s : Int), 0 < s → s ≤ m → Pd F s → ∃ e, 0 < e ∧ e ≤ s ∧ Pd F e ∧ ∀ t, Pd F t → t % e = 0
  | 0, s, h, h', _ => by omega
  | m + 1, s, h, h', hs => by
    by_cases c : ∃ t, Pd F t ∧ t % s ≠ 0
    · obtain ⟨t, ht, hc⟩ := c
      have n1 : 0 ≤ t % s := Int.emod_nonneg _ (by omega)
      have n2 : t % s < s := Int.emod_lt_of_pos _ h
      have hp : Pd F (t % s) := by
        have := ht.add (hs.mul (t / s)).neg
        rwa [show t + -(t / s * s) = t % s by have := Int.emod_add_mul_ediv t s; rw [Int.mul_comm] at this; omega] at this
      obtain ⟨e, e1, e2, e3, e4⟩ := least_pos m (t % s) (by omega) (by omega) hp
      exact ⟨e, e1, by omega, e3, e4⟩
    · exact ⟨s, h, Int.le_refl _, hs, fun t ht => Decidable.byContradiction fun z => c ⟨t, ht, z⟩⟩
theorem IsLeast.pd {F : Int → Int} {d : Int} (h : IsLeast n (Pd F) d) (hn : Pd F n) : Pd F d := by
  rcases h.yes with e | e
  · rw [e]; exact hn
  · exact e.2
theorem IsLeast.dvdn {Q : Int → Prop} {d : Int} (h : IsLeast n Q d) : n % d = 0 := by
  rcases h.yes with e | e
  · rw [e]; exact Int.emod_self
  · exact e.1
theorem IsLeast.dvd {F : Int → Int} {d : Int} (h : IsLeast n (Pd F) d) (hn : Pd F n) {s : Int} (hs : Pd F s) : s % d = 0 := by
  have hd := h.lo
  obtain ⟨e, e1, e2, e3, e4⟩ := least_pos d.toNat d (by omega) (by omega) (h.pd hn)
  have : e = d := by
    rcases Int.lt_or_eq_of_le e2 with c | c
    · exact absurd e3 (h.least e (by omega) c (e4 n hn))
    · exact c
  rw [← this]
  exact e4 s hs
end
end JM
/-! Plain mathematics: turned rows, rests, least common periods. -/
namespace JM
def turn (n s : Int) (p : Rw) : Rw := ((p.1 + s) % n, (p.2 + s) % n)
def lexLe (p q : Rw) : Prop := p.1 < q.1 ∨ (p.1 = q.1 ∧ p.2 ≤ q.2)
def lexLt (p q : Rw) : Prop := p.1 < q.1 ∨ (p.1 = q.1 ∧ p.2 < q.2)
theorem ediv_split (x n : Int) : x = x / n * n + x % n := by have := Int.emod_add_mul_ediv x n; rw [Int.mul_comm] at this; omega
theorem emod_near {n x y k : Int} (hn : 0 < n) (h0 : 0 ≤ y) (h1 : y < n) (e : x = y + k * n) : x % n = y := by
  rw [e, Int.add_mul_emod_self_right]
  exact Int.emod_eq_of_lt h0 h1
section
variable {n : Int} {rows : List Rw}
theorem turn_off (n s : Int) (p : Rw) : ((turn n s p).2 - (turn n s p).1) % n = (p.2 - p.1) % n := by
  show ((p.2 + s) % n - (p.1 + s) % n) % n = _
  rw [← Int.sub_emod]
  congr 1
  omega
theorem row_iff (R : RowsOk n rows) (p : Rw) : p ∈ rows ↔ (0 ≤ p.1 ∧ p.1 < n) ∧ lift n rows (p.1 - 1) < lift n rows p.1 ∧ p.2 = lift n rows p.1 % n := by
  have hn := R.lo
  constructor
  · intro hp
    have b := R.inb p hp
    have o := R.off p
    have e1 : lift n rows p.1 = p.1 + (p.2 - p.1) % n := lift_eq R ⟨p, hp, 0, by omega, by omega, fun q hq j hj => by omega⟩
    obtain ⟨q, hq, j, g1, g2, g3⟩ := lift_isF R (p.1 - 1)
    have := no_begin R hq hp (k := j) (j := 0) (by omega)
    refine ⟨⟨b.1, b.2.1⟩, by omega, ?_⟩
    rw [e1]
    have s := ediv_split (p.2 - p.1) n
    refine (emod_near (k := -((p.2 - p.1) / n)) (by omega) b.2.2.1 b.2.2.2 ?_).symm
    rw [Int.neg_mul]
    omega
  · rintro ⟨h0, h1, h2⟩
    obtain ⟨q, hq, j, g1, g2, g3⟩ := lift_isF R p.1
    have b := R.inb q hq
    have o := R.off q
    have e : q.1 + j * n = p.1 := by
      rcases Int.lt_or_eq_of_le g1 with c | c
      · have := lift_eq R (x := p.1 - 1) ⟨q, hq, j, by omega, g2, fun q' hq' j' hj' => g3 q' hq' j' (by omega)⟩
        omega
      · exact c
    have j0 : j = 0 := by
      rcases Int.lt_trichotomy j 0 with c | c | c
      · have := mul_step (n := n) (by omega) (show j ≤ -1 by omega)
        omega
      · exact c
      · have := mul_step (n := n) (by omega) (show 1 ≤ j by omega)
        omega
    subst j0
    have e1 : p.1 = q.1 := by omega
    have : p.2 = q.2 := by
      rw [h2, g2]
      have s := ediv_split (q.2 - q.1) n
      refine emod_near (k := -((q.2 - q.1) / n)) (by omega) b.2.2.1 b.2.2.2 ?_
      rw [Int.neg_mul]
      omega
    have : p = q := Prod.ext e1 this
    rw [this]
    exact hq
theorem turn_in (R : RowsOk n rows) {s : Int} (hs : Pd (lift n rows) s) {p : Rw} (hp : p ∈ rows) : turn n s p ∈ rows := by
  have hn := R.lo
  obtain ⟨h0, h1, h2⟩ := (row_iff R p).mp hp
  have sp := ediv_split (p.1 + s) n
  have pl : Pd (lift n rows) (s + -((p.1 + s) / n * n)) := hs.add ((lift_pd R).mul _).neg
  have e : (p.1 + s) % n = p.1 + (s + -((p.1 + s) / n * n)) := by omega
  refine (row_iff R _).mpr ⟨⟨Int.emod_nonneg _ (by omega), Int.emod_lt_of_pos _ (by omega)⟩, ?_, ?_⟩
  · show lift n rows ((p.1 + s) % n - 1) < lift n rows ((p.1 + s) % n)
    rw [e, show p.1 + (s + -((p.1 + s) / n * n)) - 1 = p.1 - 1 + (s + -((p.1 + s) / n * n)) by omega, pl, pl]
    omega
  · show (p.2 + s) % n = lift n rows ((p.1 + s) % n) % n
    rw [e, pl, h2]
    have s2 := ediv_split (lift n rows p.1) n
    rw [show lift n rows p.1 + (s + -((p.1 + s) / n * n)) = lift n rows p.1 % n + s + (lift n rows p.1 / n - (p.1 + s) / n) * n by rw [Int.sub_mul]; omega]
    rw [Int.add_mul_emod_self_right]
theorem turn_back (n s : Int) (p : Rw) (b : 0 ≤ p.1 ∧ p.1 < n ∧ 0 ≤ p.2 ∧ p.2 < n) : turn n s (turn n (-s) p) = p := by
  refine Prod.ext ?_ ?_
  · show ((p.1 + -s) % n + s) % n = p.1
    have := ediv_split (p.1 + -s) n
    refine emod_near (k := -((p.1 + -s) / n)) (by omega) b.1 b.2.1 ?_
    rw [Int.neg_mul]
    omega
  · show ((p.2 + -s) % n + s) % n = p.2
    have := ediv_split (p.2 + -s) n
    refine emod_near (k := -((p.2 + -s) / n)) (by omega) b.2.2.1 b.2.2.2 ?_
    rw [Int.neg_mul]
    omega
theorem pd_of_turned (R : RowsOk n rows) {s : Int} (h : ∀ q, q ∈ rows ↔ ∃ p ∈ rows, turn n s p = q) : Pd (lift n rows) s := fun x => by
  obtain ⟨p, hp, k, h1, h2, h3⟩ := lift_isF R x
  have sp := ediv_split (p.1 + s) n
  have o := turn_off n s p
  have e : (turn n s p).1 = (p.1 + s) % n := rfl
  refine lift_eq R ⟨turn n s p, (h _).mpr ⟨p, hp, rfl⟩, k + (p.1 + s) / n, ?_, ?_, fun q hq j hj => ?_⟩
  · rw [e, Int.add_mul]; omega
  · rw [o, e, Int.add_mul]; omega
  · obtain ⟨p', hp', rfl⟩ := (h q).mp hq
    have sp' := ediv_split (p'.1 + s) n
    have e' : (turn n s p').1 = (p'.1 + s) % n := rfl
    have := h3 p' hp' (j - (p'.1 + s) / n) (by rw [Int.sub_mul]; omega)
    rw [Int.sub_mul] at this
    rw [e, e', Int.add_mul]
    omega
theorem pairwise_in {α : Type} {P : α → α → Prop} : ∀ {l : List α}, (∀ x ∈ l, ∀ y ∈ l, x ≠ y → P x y) → l.Nodup → l.Pairwise P
  | [], _, _ => .nil
  | a :: l, h, hn => by
    obtain ⟨h1, h2⟩ := List.nodup_cons.mp hn
    exact .cons (fun y hy => h a (List.mem_cons_self ..) y (List.mem_cons_of_mem _ hy) fun e => h1 (e ▸ hy)) (pairwise_in (fun x hx y hy => h x (List.mem_cons_of_mem _ hx) y (List.mem_cons_of_mem _ hy)) h2)
theorem nodup_map {α β : Type} {f : α → β} : ∀ {l : List α}, (∀ x ∈ l, ∀ y ∈ l, f x = f y → x = y) → l.Nodup → (l.map f).Nodup
  | [], _, _ => List.nodup_nil
  | a :: l, h, hn => by
    obtain ⟨h1, h2⟩ := List.nodup_cons.mp hn
    refine List.nodup_cons.mpr ⟨fun m => ?_, nodup_map (fun x hx y hy => h x (List.mem_cons_of_mem _ hx) y (List.mem_cons_of_mem _ hy)) h2⟩
    obtain ⟨y, hy, e⟩ := List.mem_map.mp m
    exact h1 (h a (List.mem_cons_self ..) y (List.mem_cons_of_mem _ hy) e.symm ▸ hy)
theorem RowsOk.nodup (R : RowsOk n rows) : rows.Nodup := R.inc.imp fun h e => by rw [e] at h; omega
theorem lex_strict {ys : List Rw} (h : ys.Pairwise lexLe) (hn : ys.Nodup) : ys.Pairwise lexLt := by
  refine List.Pairwise.imp₂ (R := lexLe) (S := (· ≠ ·)) (fun p q h g => ?_) h hn
  rcases h with h | h
  · exact .inl h
  · refine .inr ⟨h.1, ?_⟩
    rcases Int.lt_or_eq_of_le h.2 with c | c
    · exact c
    · exact absurd (Prod.ext h.1 c) g
/-- the turned rows, sorted, are the rows: exactly where the shift is kept -/
theorem turned_iff (R : RowsOk n rows) {s : Int} {ys : List Rw} (hp : ys.Perm (rows.map (turn n s))) (hs : ys.Pairwise lexLe) : ys = rows ↔ Pd (lift n rows) s := by
  have hn := R.lo
  constructor
  · intro e
    subst e
    refine pd_of_turned R fun q => ?_
    rw [hp.mem_iff]
    simp [List.mem_map]
  · intro h
    have inj : ∀ x ∈ rows, ∀ y ∈ rows, turn n s x = turn n s y → x = y := fun x hx y hy e => by
      have b := R.inb x hx
      have b2 := R.inb y hy
      have e1 : turn n (-s) (turn n s x) = turn n (-s) (turn n s y) := congrArg _ e
      have t1 := turn_back n (-s) x b
      have t2 := turn_back n (-s) y b2
      rw [Int.neg_neg] at t1 t2
      rw [t1, t2] at e1
      exact e1
    have nd : ys.Nodup := hp.nodup_iff.mpr (nodup_map inj R.nodup)
    refine sorted_ext (lt := lexLt) (fun x h => ?_) (fun x y h h' => ?_) (lex_strict hs nd) (R.inc.imp fun h => .inl h) fun x => ?_
    · rcases h with h | h <;> omega
    · rcases h with h | h <;> rcases h' with h' | h' <;> omega
    · rw [hp.mem_iff, List.mem_map]
      constructor
      · rintro ⟨p, hp, rfl⟩
        exact turn_in R h hp
      · intro hx
        exact ⟨turn n (-s) x, turn_in R h.neg hx, turn_back n s x (R.inb x hx)⟩

/-! ### rests -/
theorem rest_iff (R : RowsOk n rows) {x : Int} (h0 : 0 ≤ x) (h1 : x < n) : lift n rows x = x ↔ ∃ p ∈ rows, p.2 = x := by
  have hn := R.lo
  constructor
  · intro h
    obtain ⟨p, hp, k, g1, g2, g3⟩ := lift_isF R x
    have b := R.inb p hp
    refine ⟨p, hp, ?_⟩
    have s := ediv_split (p.2 - p.1) n
    have e : x = p.2 + (k - (p.2 - p.1) / n) * n := by rw [Int.sub_mul]; omega
    have := emod_near (by omega) b.2.2.1 b.2.2.2 e
    rw [Int.emod_eq_of_lt h0 h1] at this
    exact this.symm
  · rintro ⟨p, hp, rfl⟩
    obtain ⟨b0, b1, b2⟩ := (row_iff R p).mp hp
    have s := ediv_split (lift n rows p.1) n
    have pl := ((lift_pd R).mul (lift n rows p.1 / n)).neg
    have e : p.2 = lift n rows p.1 + -(lift n rows p.1 / n * n) := by omega
    rw [e, pl, lift_idem R]
theorem rest_inj (R : RowsOk n rows) {p q : Rw} (hp : p ∈ rows) (hq : q ∈ rows) (e : p.2 = q.2) : p = q := by
  have hn := R.lo
  have key : ∀ p ∈ rows, ∀ q ∈ rows, p.2 = q.2 → ¬ p.1 < q.1 := fun p hp q hq e c => by
    have o := R.off p
    have o2 := R.off q
    have g := R.gap p hp q hq c
    have w := R.wrap q hq p hp
    have s := ediv_split (p.2 - p.1) n
    have s2 := ediv_split (q.2 - q.1) n
    have e2 : ((q.2 - q.1) / n) * n - ((p.2 - p.1) / n) * n = p.1 + (p.2 - p.1) % n - (q.1 + (q.2 - q.1) % n) := by omega
    rw [← Int.sub_mul] at e2
    generalize (q.2 - q.1) / n - (p.2 - p.1) / n = k at e2
    rcases Int.lt_trichotomy k 0 with d | d | d
    · have := mul_step (n := n) (by omega) (show k ≤ -1 by omega)
      omega
    · subst d
      omega
    · have := mul_step (n := n) (by omega) (show 1 ≤ k by omega)
      omega
  rcases Int.lt_trichotomy p.1 q.1 with c | c | c
  · exact absurd c (key p hp q hq e)
  · exact R.inj hp hq c
  · exact absurd c (key q hq p hp e.symm)
end
/-- the places below span that the map keeps, in order -/
def restsOf (F : Int → Int) (span : Int) : List Int := ((List.range span.toNat).map Int.ofNat).filter fun x => decide (F x = x)
theorem restsOf_lt (F : Int → Int) (span : Int) : (restsOf F span).Pairwise (· < ·) := by
  refine List.Pairwise.filter _ ?_
  rw [List.pairwise_map]
  refine List.pairwise_lt_range.imp fun h => ?_
  exact Int.ofNat_lt.mpr h
theorem mem_restsOf {F : Int → Int} {span x : Int} : x ∈ restsOf F span ↔ (0 ≤ x ∧ x < span) ∧ F x = x := by
  unfold restsOf
  rw [List.mem_filter, List.mem_map, decide_eq_true_eq]
  constructor
  · rintro ⟨⟨k, hk, rfl⟩, h⟩
    rw [List.mem_range] at hk
    exact ⟨⟨Int.natCast_nonneg _, by show ((k : Nat) : Int) < span; omega⟩, h⟩
  · rintro ⟨⟨h0, h1⟩, h⟩
    exact ⟨⟨x.toNat, by rw [List.mem_range]; omega, Int.toNat_of_nonneg h0⟩, h⟩
theorem rests_eq {n : Int} {rows : List Rw} (R : RowsOk n rows) {span : Int} (hs : span ≤ n) {zs : List Int} (hp : zs.Perm (rows.map (·.2))) (hz : zs.Pairwise (· ≤ ·)) : zs.filter (fun r => decide (r < span)) = restsOf (lift n rows) span := by
  have nd : zs.Nodup := hp.nodup_iff.mpr (nodup_map (fun x hx y hy e => rest_inj R hx hy e) R.nodup)
  have lt : zs.Pairwise (· < ·) := List.Pairwise.imp₂ (R := (· ≤ ·)) (S := (· ≠ ·)) (fun a b h g => by omega) hz nd
  refine ints_ext (lt.filter _) (restsOf_lt _ _) fun x => ?_
  rw [mem_restsOf, List.mem_filter, hp.mem_iff, List.mem_map, decide_eq_true_eq]
  constructor
  · rintro ⟨⟨p, hp, rfl⟩, h⟩
    have b := R.inb p hp
    exact ⟨⟨b.2.2.1, h⟩, (rest_iff R b.2.2.1 b.2.2.2).mpr ⟨p, hp, rfl⟩⟩
  · rintro ⟨⟨h0, h1⟩, h⟩
    obtain ⟨p, hp, e⟩ := (rest_iff R h0 (by omega)).mp h
    exact ⟨⟨p, hp, e⟩, h1⟩
theorem restsOf_len {n : Int} {rows : List Rw} (R : RowsOk n rows) {span : Int} (hs : span ≤ n) : (restsOf (lift n rows) span).length ≤ 12 := by
  have e := rests_eq R hs (zs := ((rows.map (·.2)).mergeSort (fun a b => decide (a ≤ b)))) (List.mergeSort_perm _ _) ((List.pairwise_mergeSort (fun a b c h g => by simp at *; omega) (fun a b => by simp; omega) _).imp (fun h => by simpa using h))
  rw [← e]
  refine Nat.le_trans (List.length_filter_le _ _) ?_
  rw [(List.mergeSort_perm _ _).length_eq, List.length_map]
  exact R.len

/-! ### least common periods -/
theorem dvd_of_emod {a b : Int} (h : b % a = 0) : a ∣ b := Int.dvd_of_emod_eq_zero h
theorem IsLeast.lcm {n : Int} {F G : Int → Int} {d e : Int} (hn : 0 < n) (pF : Pd F n) (pG : Pd G n) (h : IsLeast n (Pd F) d) (g : IsLeast n (Pd G) e) : IsLeast n (fun s => Pd F s ∧ Pd G s) ((Nat.lcm d.natAbs e.natAbs : Nat) : Int) := by
  have hd := h.lo
  have he := g.lo
  have dL : d ∣ ((Nat.lcm d.natAbs e.natAbs : Nat) : Int) := Int.natAbs_dvd.mp (Int.natCast_dvd_natCast.mpr (Nat.dvd_lcm_left _ _))
  have eL : e ∣ ((Nat.lcm d.natAbs e.natAbs : Nat) : Int) := Int.natAbs_dvd.mp (Int.natCast_dvd_natCast.mpr (Nat.dvd_lcm_right _ _))
  have univ : ∀ s : Int, Pd F s → Pd G s → ((Nat.lcm d.natAbs e.natAbs : Nat) : Int) ∣ s := fun s h1 h2 => by
    have a := dvd_of_emod (h.dvd pF h1)
    have b := dvd_of_emod (g.dvd pG h2)
    exact Int.dvd_natAbs.mp (Int.natCast_dvd_natCast.mpr (Nat.lcm_dvd (Int.natAbs_dvd_natAbs.mpr a) (Int.natAbs_dvd_natAbs.mpr b)))
  have pos : 0 < Nat.lcm d.natAbs e.natAbs := Nat.lcm_pos (by omega) (by omega)
  refine ⟨by omega, Int.le_of_dvd hn (univ n pF pG), ?_, fun s h1 h2 _ hs => ?_⟩
  · obtain ⟨x, hx⟩ := dL
    obtain ⟨y, hy⟩ := eL
    refine .inr ⟨Int.emod_eq_zero_of_dvd (univ n pF pG), ?_, ?_⟩
    · rw [hx, Int.mul_comm]
      exact (h.pd pF).mul x
    · rw [hy, Int.mul_comm]
      exact (g.pd pG).mul y
  · have := Int.le_of_dvd (by omega) (univ s hs.1 hs.2)
    omega
end JM
/-! Plain mathematics: numbered rests, carried stands, closing; without a machine each stand can be closed. -/
namespace JM
/-! ### places that a map keeps, numbered -/
def pos (R : List Int) (span k : Int) : Int := (R[(k % R.length).toNat]?).getD 0 + k / R.length * span
def idx (R : List Int) (span y : Int) : Int := (R.idxOf (y % span) : Nat) + y / span * R.length
structure En (F : Int → Int) (span : Int) : Prop where
  sp : 0 < span
  pd : Pd F span
  idem : ∀ x, F (F x) = F x
section
variable {F : Int → Int} {span : Int}
theorem En.fixmod (E : En F span) {y : Int} (h : F y = y) : y % span ∈ restsOf F span := by
  have s := ediv_split y span
  refine mem_restsOf.mpr ⟨⟨Int.emod_nonneg _ (by have := E.sp; omega), Int.emod_lt_of_pos _ E.sp⟩, ?_⟩
  have := (E.pd.mul (y / span)).neg y
  rw [show y + -(y / span * span) = y % span by omega, h] at this
  exact this.symm ▸ by omega
theorem En.len (E : En F span) : 0 < (restsOf F span).length := List.length_pos_of_mem (E.fixmod (E.idem 0))
theorem En.at (E : En F span) (k : Int) : ∃ x, (restsOf F span)[(k % (restsOf F span).length).toNat]? = some x ∧ 0 ≤ x ∧ x < span ∧ F x = x := by
  have hl := E.len
  have h1 : 0 ≤ k % (restsOf F span).length := Int.emod_nonneg _ (by omega)
  have h2 : k % (restsOf F span).length < (restsOf F span).length := Int.emod_lt_of_pos _ (by omega)
  have hlt : (k % (restsOf F span).length).toNat < (restsOf F span).length := by omega
  have m := mem_restsOf.mp (List.getElem_mem hlt)
  exact ⟨_, List.getElem?_eq_getElem hlt, m.1.1, m.1.2, m.2⟩
theorem En.pos_fix (E : En F span) (k : Int) : F (pos (restsOf F span) span k) = pos (restsOf F span) span k := by
  obtain ⟨x, hx, _, _, h⟩ := E.at k
  unfold pos
  rw [hx]
  show F (x + _) = x + _
  rw [E.pd.mul, h]
theorem En.pos_lap (E : En F span) (k c : Int) : pos (restsOf F span) span (k + c * (restsOf F span).length) = pos (restsOf F span) span k + c * span := by
  have hl := E.len
  unfold pos
  rw [Int.add_mul_emod_self_right, Int.add_mul_ediv_right _ _ (by omega), Int.add_mul]
  omega
theorem En.pos_lt (E : En F span) {i j : Int} (h : i < j) : pos (restsOf F span) span i < pos (restsOf F span) span j := by
  have hl := E.len
  have hs := E.sp
  obtain ⟨x, hx, x0, x1, _⟩ := E.at i
  obtain ⟨y, hy, y0, y1, _⟩ := E.at j
  have si := ediv_split i (restsOf F span).length
  have sj := ediv_split j (restsOf F span).length
  have i1 : 0 ≤ i % (restsOf F span).length := Int.emod_nonneg _ (by omega)
  have j1 : 0 ≤ j % (restsOf F span).length := Int.emod_nonneg _ (by omega)
  have i2 : i % (restsOf F span).length < (restsOf F span).length := Int.emod_lt_of_pos _ (by omega)
  have j2 : j % (restsOf F span).length < (restsOf F span).length := Int.emod_lt_of_pos _ (by omega)
  unfold pos
  rw [hx, hy]
  show x + _ < y + _
  rcases Int.lt_trichotomy (i / (restsOf F span).length) (j / (restsOf F span).length) with c | c | c
  · have := mul_step (n := span) (by omega) (show i / (restsOf F span).length + 1 ≤ j / (restsOf F span).length by omega)
    rw [mul_succ'] at this
    omega
  · rw [c] at si ⊢
    have hij : (i % (restsOf F span).length).toNat < (j % (restsOf F span).length).toNat := by omega
    obtain ⟨a1, e1⟩ := List.getElem?_eq_some_iff.mp hx
    obtain ⟨a2, e2⟩ := List.getElem?_eq_some_iff.mp hy
    have := List.pairwise_iff_getElem.mp (restsOf_lt F span) _ _ a1 a2 hij
    rw [e1, e2] at this
    omega
  · have := mul_step (n := (((restsOf F span).length : Nat) : Int)) (by omega) (show j / (restsOf F span).length + 1 ≤ i / (restsOf F span).length by omega)
    rw [mul_succ'] at this
    omega
theorem En.pos_le (E : En F span) {i j : Int} (h : i ≤ j) : pos (restsOf F span) span i ≤ pos (restsOf F span) span j := by
  rcases Int.lt_or_eq_of_le h with c | c
  · exact Int.le_of_lt (E.pos_lt c)
  · rw [c]; exact Int.le_refl _
theorem En.pos_idx (E : En F span) {y : Int} (h : F y = y) : pos (restsOf F span) span (idx (restsOf F span) span y) = y := by
  have m := E.fixmod h
  have hl := E.len
  have s := ediv_split y span
  unfold idx
  rw [E.pos_lap]
  have hlt : (restsOf F span).idxOf (y % span) < (restsOf F span).length := List.idxOf_lt_length_of_mem m
  unfold pos
  have e1 : ((((restsOf F span).idxOf (y % span) : Nat) : Int) % (((restsOf F span).length : Nat) : Int)) = (((restsOf F span).idxOf (y % span) : Nat) : Int) := Int.emod_eq_of_lt (by omega) (by omega)
  have e2 : ((((restsOf F span).idxOf (y % span) : Nat) : Int) / (((restsOf F span).length : Nat) : Int)) = 0 := Int.ediv_eq_zero_of_lt (by omega) (by omega)
  rw [e1, e2, Int.toNat_natCast, List.getElem?_eq_getElem hlt, List.getElem_idxOf hlt]
  show y % span + _ + _ = y
  omega
theorem En.idx_le (E : En F span) {y z : Int} (hy : F y = y) (hz : F z = z) (h : y ≤ z) : idx (restsOf F span) span y ≤ idx (restsOf F span) span z := by
  rcases Int.lt_or_le (idx (restsOf F span) span z) (idx (restsOf F span) span y) with c | c
  · have := E.pos_lt c
    rw [E.pos_idx hy, E.pos_idx hz] at this
    omega
  · exact c
theorem idx_lap (R : List Int) {span : Int} (hs : 0 < span) (y c : Int) : idx R span (y + c * span) = idx R span y + c * R.length := by
  unfold idx
  rw [Int.add_mul_emod_self_right, Int.add_mul_ediv_right _ _ (by omega), Int.add_mul]
  omega
end

/-! ### the world: a round, its words, their rows -/
structure Wo (α : Type) where
  n : Int
  span : Int
  words : List α
  rows : α → List Rw
abbrev St (α : Type) := α × α × Int × Int
abbrev Stp (α : Type) := α × Int × α
section
variable {α : Type}
def Wo.F (W : Wo α) (w : α) : Int → Int := lift W.n (W.rows w)
def Wo.R (W : Wo α) (w : α) : List Int := restsOf (W.F w) W.span
def Wo.m (W : Wo α) (w : α) : Int := ((W.R w).length : Nat)
structure WoOk (W : Wo α) : Prop where
  lo : 2 ≤ W.n
  hi : W.n ≤ 360
  ne : W.words ≠ []
  rows : ∀ w ∈ W.words, RowsOk W.n (W.rows w)
  span : IsLeast W.n (fun s => ∀ w ∈ W.words, Pd (W.F w) s) W.span
theorem WoOk.pd {W : Wo α} (K : WoOk W) {w : α} (h : w ∈ W.words) : Pd (W.F w) W.span := by
  rcases K.span.yes with e | e
  · rw [e]; exact lift_pd (K.rows w h)
  · exact e.2 w h
theorem WoOk.en {W : Wo α} (K : WoOk W) {w : α} (h : w ∈ W.words) : En (W.F w) W.span := ⟨by have := K.span.lo; omega, K.pd h, lift_idem (K.rows w h)⟩
theorem WoOk.m_pos {W : Wo α} (K : WoOk W) {w : α} (h : w ∈ W.words) : 0 < W.m w := by have := (K.en h).len; show (0 : Int) < ((restsOf (W.F w) W.span).length : Nat); omega
theorem WoOk.m_le {W : Wo α} (K : WoOk W) {w : α} (h : w ∈ W.words) : W.m w ≤ 12 := by have := restsOf_len (K.rows w h) K.span.hi; show ((restsOf (W.F w) W.span).length : Int) ≤ 12; exact_mod_cast this
/-- where number k of word w stands behind a deed of v at turn t -/
def Wo.car (W : Wo α) (w : α) (k : Int) (v : α) (t : Int) : Int := idx (W.R v) W.span (W.F v (pos (W.R w) W.span k - t))
def Wo.behind (W : Wo α) (u : St α) (s : Stp α) : Option (St α) :=
  let left := W.car u.2.1 u.2.2.1 s.1 s.2.1
  let right := W.car u.2.1 u.2.2.2 s.1 s.2.1
  if right = left + W.m s.1 then none else some (s.2.2, s.1, left - left / W.m s.1 * W.m s.1, right - left / W.m s.1 * W.m s.1)
structure Good (W : Wo α) (S : List α) (u : St α) : Prop where
  st : u.1 ∈ S
  wd : u.2.1 ∈ W.words
  i0 : 0 ≤ u.2.2.1
  i1 : u.2.2.1 < W.m u.2.1
  j0 : u.2.2.1 ≤ u.2.2.2
  j1 : u.2.2.2 < u.2.2.1 + W.m u.2.1
section
variable {W : Wo α} {S : List α} {u : St α} {s : Stp α}
theorem WoOk.fix (K : WoOk W) {w : α} (h : w ∈ W.words) (x : Int) : W.F w (W.F w x) = W.F w x := lift_idem (K.rows w h) x
theorem WoOk.mono (K : WoOk W) {w : α} (h : w ∈ W.words) {x y : Int} (l : x ≤ y) : W.F w x ≤ W.F w y := lift_mono (K.rows w h) l
theorem WoOk.pos_lap1 (K : WoOk W) {w : α} (h : w ∈ W.words) (k : Int) : pos (W.R w) W.span (k + W.m w) = pos (W.R w) W.span k + W.span := by
  have := (K.en h).pos_lap k 1
  rw [Int.one_mul, Int.one_mul] at this
  exact this
theorem WoOk.car_le (K : WoOk W) (G : Good W S u) (hv : s.1 ∈ W.words) : W.car u.2.1 u.2.2.1 s.1 s.2.1 ≤ W.car u.2.1 u.2.2.2 s.1 s.2.1 ∧ W.car u.2.1 u.2.2.2 s.1 s.2.1 ≤ W.car u.2.1 u.2.2.1 s.1 s.2.1 + W.m s.1 := by
  have a := (K.en G.wd).pos_le G.j0
  have b := (K.en G.wd).pos_le (Int.le_of_lt G.j1)
  rw [show restsOf (W.F u.2.1) W.span = W.R u.2.1 from rfl, K.pos_lap1 G.wd] at b
  refine ⟨(K.en hv).idx_le (K.fix hv _) (K.fix hv _) (K.mono hv (Int.sub_le_sub_right a _)), ?_⟩
  have e : W.F s.1 (pos (W.R u.2.1) W.span u.2.2.1 + W.span - s.2.1) = W.F s.1 (pos (W.R u.2.1) W.span u.2.2.1 - s.2.1) + W.span := by
    rw [← K.pd hv]
    congr 1
    omega
  have c := (K.en hv).idx_le (K.fix hv _) (K.fix hv _) (K.mono hv (Int.sub_le_sub_right b s.2.1))
  rw [e] at c
  have l := idx_lap (restsOf (W.F s.1) W.span) (K.en hv).sp (W.F s.1 (pos (W.R u.2.1) W.span u.2.2.1 - s.2.1)) 1
  rw [Int.one_mul, Int.one_mul] at l
  rw [l] at c
  exact c
theorem WoOk.good (K : WoOk W) (G : Good W S u) (hv : s.1 ∈ W.words) (hg : s.2.2 ∈ S) {f : St α} (h : W.behind u s = some f) : Good W S f := by
  obtain ⟨c1, c2⟩ := K.car_le (s := s) G hv
  unfold Wo.behind at h
  simp only [] at h
  generalize W.car u.2.1 u.2.2.1 s.1 s.2.1 = left at h c1 c2
  generalize W.car u.2.1 u.2.2.2 s.1 s.2.1 = right at h c1 c2
  have mp := K.m_pos hv
  by_cases c : right = left + W.m s.1
  · rw [if_pos c] at h
    cases h
  · rw [if_neg c] at h
    cases h
    have sp := ediv_split left (W.m s.1)
    have a := Int.emod_nonneg left (show W.m s.1 ≠ 0 by omega)
    have b := Int.emod_lt_of_pos left mp
    exact ⟨hg, hv, by show 0 ≤ left - left / W.m s.1 * W.m s.1; omega, by show left - left / W.m s.1 * W.m s.1 < W.m s.1; omega, by show left - left / W.m s.1 * W.m s.1 ≤ right - left / W.m s.1 * W.m s.1; omega, by show right - left / W.m s.1 * W.m s.1 < left - left / W.m s.1 * W.m s.1 + W.m s.1; omega⟩
end

/-! ### closing -/
def Cl (W : Wo α) (steps : α → List (Stp α)) : Nat → St α → Prop
  | 0, u => u.2.2.1 = u.2.2.2
  | d + 1, u => u.2.2.1 = u.2.2.2 ∨ ∃ s ∈ steps u.1, ∃ f, W.behind u s = some f ∧ Cl W steps d f
/-- .. in so many deeds, not in fewer -/
def Far (W : Wo α) (steps : α → List (Stp α)) (u : St α) (d : Nat) : Prop := Cl W steps d u ∧ ∀ e, e < d → ¬ Cl W steps e u
section
variable {W : Wo α} {steps : α → List (Stp α)}
theorem cl_zero {d : Nat} {u : St α} (h : u.2.2.1 = u.2.2.2) : Cl W steps d u := by
  cases d with
  | zero => exact h
  | succ d => exact .inl h
theorem cl_mono : ∀ {d e : Nat} {u : St α}, d ≤ e → Cl W steps d u → Cl W steps e u
  | 0, e, u, _, h => cl_zero h
  | d + 1, 0, u, hl, h => absurd hl (by omega)
  | d + 1, e + 1, u, hl, h => by
    rcases h with h | ⟨s, hs, f, hf, h⟩
    · exact .inl h
    · exact .inr ⟨s, hs, f, hf, cl_mono (by omega) h⟩
theorem far_uniq {u : St α} {d e : Nat} (h : Far W steps u d) (g : Far W steps u e) : d = e := by
  rcases Nat.lt_trichotomy d e with c | c | c
  · exact absurd h.1 (g.2 d c)
  · exact c
  · exact absurd g.1 (h.2 e c)
theorem far_of : ∀ {d : Nat} {u : St α}, Cl W steps d u → ∃ e, e ≤ d ∧ Far W steps u e
  | 0, u, h => ⟨0, Nat.le_refl _, h, fun e he => absurd he (by omega)⟩
  | d + 1, u, h => by
    by_cases c : Cl W steps d u
    · obtain ⟨e, he, hf⟩ := far_of c
      exact ⟨e, by omega, hf⟩
    · exact ⟨d + 1, Nat.le_refl _, h, fun e he z => c (cl_mono (by omega) z)⟩
theorem far_step {u f : St α} {s : Stp α} {d : Nat} (hs : s ∈ steps u.1) (hf : W.behind u s = some f) (h : Far W steps f d) : ∃ e, e ≤ d + 1 ∧ Far W steps u e := far_of (d := d + 1) (.inr ⟨s, hs, f, hf, h.1⟩)
end

/-! ### without a machine -/
def sumF (F : Int → Int) (z : Int) : Nat → Int
  | 0 => 0
  | k + 1 => sumF F z k + F (z - k)
theorem sumF_top (F : Int → Int) (z : Int) : ∀ k : Nat, sumF F (z + 1) (k + 1) = F (z + 1) + sumF F z k
  | 0 => by simp [sumF]
  | k + 1 => by
    show sumF F (z + 1) (k + 1) + F (z + 1 - ((k + 1 : Nat) : Int)) = F (z + 1) + (sumF F z k + F (z - k))
    rw [sumF_top F z k, show z + 1 - ((k + 1 : Nat) : Int) = z - k by omega]
    omega
theorem sumF_succ {F : Int → Int} (z : Int) {s : Nat} (h : Pd F s) : sumF F (z + 1) s = sumF F z s + s := by
  cases s with
  | zero => simp [sumF]
  | succ k =>
    rw [sumF_top]
    show F (z + 1) + sumF F z k = sumF F z k + F (z - k) + _
    have := h (z - k)
    rw [show z - (k : Int) + ((k + 1 : Nat) : Int) = z + 1 by omega] at this
    omega
theorem sumF_add {F : Int → Int} (z : Int) {s : Nat} (h : Pd F s) : ∀ d : Nat, sumF F (z + d) s = sumF F z s + d * s
  | 0 => by simp
  | d + 1 => by
    rw [show z + ((d + 1 : Nat) : Int) = z + d + 1 by omega, sumF_succ _ h, sumF_add z h d, show ((d + 1 : Nat) : Int) = (d : Int) + 1 by omega, Int.add_mul, Int.one_mul]
    omega
theorem sumF_ge {F : Int → Int} {x y d : Int} : ∀ {k : Nat}, (∀ t : Nat, t < k → d ≤ F (y - t) - F (x - t)) → k * d ≤ sumF F y k - sumF F x k ∧ ((∃ t : Nat, t < k ∧ d < F (y - t) - F (x - t)) → k * d < sumF F y k - sumF F x k)
  | 0, _ => ⟨by simp [sumF], fun ⟨t, h, _⟩ => absurd h (by omega)⟩
  | k + 1, h => by
    obtain ⟨i1, i2⟩ := sumF_ge (k := k) fun t ht => h t (by omega)
    have hk := h k (by omega)
    have e : ((k + 1 : Nat) : Int) * d = k * d + d := by rw [show ((k + 1 : Nat) : Int) = (k : Int) + 1 by omega, Int.add_mul, Int.one_mul]
    refine ⟨by rw [e]; show _ ≤ sumF F y k + F (y - k) - (sumF F x k + F (x - k)); omega, fun ⟨t, ht, hlt⟩ => ?_⟩
    rw [e]
    show _ < sumF F y k + F (y - k) - (sumF F x k + F (x - k))
    by_cases c : t = k
    · subst c
      omega
    · have := i2 ⟨t, by omega, hlt⟩
      omega
/-- no turn makes the gap less: then the gap is a shift that is kept -/
theorem gap_pd {F : Int → Int} {s : Nat} (hs : 0 < s) (h : Pd F s) {x y : Int} (hxy : x ≤ y) (hall : ∀ t : Nat, t < s → y - x ≤ F (y - t) - F (x - t)) : Pd F (y - x) := fun z => by
  obtain ⟨g1, g2⟩ := sumF_ge hall
  have e := sumF_add x h (y - x).toNat
  rw [Int.toNat_of_nonneg (by omega), show x + (y - x) = y by omega] at e
  have no : ¬ ∃ t : Nat, t < s ∧ y - x < F (y - t) - F (x - t) := fun c => by
    have := g2 c
    rw [e, Int.mul_comm] at this
    omega
  have eqs : ∀ t : Nat, t < s → F (y - t) - F (x - t) = y - x := fun t ht => by
    have := hall t ht
    by_cases c : y - x < F (y - t) - F (x - t)
    · exact absurd ⟨t, ht, c⟩ no
    · omega
  have sp := ediv_split (x - z) s
  have t0 : 0 ≤ (x - z) % (s : Int) := Int.emod_nonneg _ (by omega)
  have t1 : (x - z) % (s : Int) < s := Int.emod_lt_of_pos _ (by omega)
  have q := eqs ((x - z) % (s : Int)).toNat (by omega)
  rw [Int.toNat_of_nonneg t0] at q
  have p1 := h.mul ((x - z) / (s : Int)) z
  have p2 := h.mul ((x - z) / (s : Int)) (z + (y - x))
  rw [show z + (x - z) / (s : Int) * s = x - (x - z) % (s : Int) by omega] at p1
  rw [show z + (y - x) + (x - z) / (s : Int) * s = y - (x - z) % (s : Int) by omega] at p2
  omega
/-- without a machine some plan does: each stand can be closed -/
theorem closes {W : Wo α} (K : WoOk W) {S : List α} {steps : α → List (Stp α)} (hst : ∀ a ∈ S, ∀ v ∈ W.words, ∀ t : Nat, (t : Int) < W.span → ∃ g ∈ S, (v, (t : Int), g) ∈ steps a) :
    ∀ (g : Nat) (u : St α), Good W S u → pos (W.R u.2.1) W.span u.2.2.2 - pos (W.R u.2.1) W.span u.2.2.1 ≤ g → ∃ d, Cl W steps d u := by
  intro g
  induction g with
  | zero =>
    intro u G h
    rcases Int.lt_or_eq_of_le G.j0 with c | c
    · have := (K.en G.wd).pos_lt c
      have h' : pos (restsOf (W.F u.2.1) W.span) W.span u.2.2.2 - pos (restsOf (W.F u.2.1) W.span) W.span u.2.2.1 ≤ 0 := h
      omega
    · exact ⟨0, c⟩
  | succ g ih =>
    intro u G h
    rcases Int.lt_or_eq_of_le G.j0 with c | c
    · have lt : pos (W.R u.2.1) W.span u.2.2.1 < pos (W.R u.2.1) W.span u.2.2.2 := (K.en G.wd).pos_lt c
      have up : pos (W.R u.2.1) W.span u.2.2.2 < pos (W.R u.2.1) W.span u.2.2.1 + W.span := by
        rw [← K.pos_lap1 G.wd]
        exact (K.en G.wd).pos_lt G.j1
      have sp := K.span.lo
      have spn : ((W.span.toNat : Nat) : Int) = W.span := Int.toNat_of_nonneg (by omega)
      obtain ⟨v, hv, t, ht, hfall⟩ : ∃ v ∈ W.words, ∃ t : Nat, (t : Int) < W.span ∧ W.F v (pos (W.R u.2.1) W.span u.2.2.2 - t) - W.F v (pos (W.R u.2.1) W.span u.2.2.1 - t) < pos (W.R u.2.1) W.span u.2.2.2 - pos (W.R u.2.1) W.span u.2.2.1 := by
        refine Classical.byContradiction fun no => ?_
        have all : ∀ v ∈ W.words, Pd (W.F v) (pos (W.R u.2.1) W.span u.2.2.2 - pos (W.R u.2.1) W.span u.2.2.1) := fun v hv => by
          refine gap_pd (s := W.span.toNat) (by omega) (by rw [spn]; exact K.pd hv) (Int.le_of_lt lt) fun t ht => ?_
          refine Int.not_lt.mp fun c2 => no ⟨v, hv, t, by omega, c2⟩
        have e : ∀ s, (∀ v ∈ W.words, Pd (W.F v) s) → 0 < s → s < W.span → False := fun s hs h0 h1 => by
          obtain ⟨e, e1, e2, e3, e4⟩ : ∃ e, 0 < e ∧ e ≤ s ∧ (∀ v ∈ W.words, Pd (W.F v) e) ∧ W.n % e = 0 := by
            clear no all lt up h c ih
            have gen : ∀ (m : Nat) (s : Int), 0 < s → s ≤ m → (∀ v ∈ W.words, Pd (W.F v) s) → ∃ e, 0 < e ∧ e ≤ s ∧ (∀ v ∈ W.words, Pd (W.F v) e) ∧ W.n % e = 0 := by
              intro m
              induction m with
              | zero => intro s a b _; omega
              | succ m ih =>
                intro s a b hs
                by_cases c : W.n % s = 0
                · exact ⟨s, a, Int.le_refl _, hs, c⟩
                · have n1 : 0 ≤ W.n % s := Int.emod_nonneg _ (by omega)
                  have n2 : W.n % s < s := Int.emod_lt_of_pos _ a
                  obtain ⟨e, q1, q2, q3, q4⟩ := ih (W.n % s) (by omega) (by omega) fun v hv => by
                    have := (lift_pd (K.rows v hv)).add ((hs v hv).mul (W.n / s)).neg
                    rwa [show W.n + -(W.n / s * s) = W.n % s by have := ediv_split W.n s; omega] at this
                  exact ⟨e, q1, by omega, q3, q4⟩
            exact gen s.toNat s h0 (by omega) hs
          exact K.span.least e (by omega) (by omega) e4 e3
        exact e _ all (by omega) (by omega)
      obtain ⟨st, hst1, hst2⟩ := hst u.1 G.st v hv t ht
      have pl : pos (W.R v) W.span (W.car u.2.1 u.2.2.1 v t) = W.F v (pos (W.R u.2.1) W.span u.2.2.1 - t) := (K.en hv).pos_idx (K.fix hv _)
      have pr : pos (W.R v) W.span (W.car u.2.1 u.2.2.2 v t) = W.F v (pos (W.R u.2.1) W.span u.2.2.2 - t) := (K.en hv).pos_idx (K.fix hv _)
      have hb : W.behind u (v, (t : Int), st) = some (st, v, W.car u.2.1 u.2.2.1 v t - W.car u.2.1 u.2.2.1 v t / W.m v * W.m v, W.car u.2.1 u.2.2.2 v t - W.car u.2.1 u.2.2.1 v t / W.m v * W.m v) := by
        show (if W.car u.2.1 u.2.2.2 v t = W.car u.2.1 u.2.2.1 v t + W.m v then none else _) = _
        rw [if_neg fun z => ?_]
        rw [z, K.pos_lap1 hv, pl] at pr
        omega
      have Gf := K.good (s := (v, (t : Int), st)) G hv hst1 hb
      have l1 : pos (W.R v) W.span (W.car u.2.1 u.2.2.1 v t + -(W.car u.2.1 u.2.2.1 v t / W.m v) * W.m v) = pos (W.R v) W.span (W.car u.2.1 u.2.2.1 v t) + -(W.car u.2.1 u.2.2.1 v t / W.m v) * W.span := (K.en hv).pos_lap _ _
      have l2 : pos (W.R v) W.span (W.car u.2.1 u.2.2.2 v t + -(W.car u.2.1 u.2.2.1 v t / W.m v) * W.m v) = pos (W.R v) W.span (W.car u.2.1 u.2.2.2 v t) + -(W.car u.2.1 u.2.2.1 v t / W.m v) * W.span := (K.en hv).pos_lap _ _
      rw [Int.neg_mul, ← Int.sub_eq_add_neg] at l1 l2
      obtain ⟨d, hd⟩ := ih _ Gf (by
        show pos (W.R v) W.span (W.car u.2.1 u.2.2.2 v t - W.car u.2.1 u.2.2.1 v t / W.m v * W.m v) - pos (W.R v) W.span (W.car u.2.1 u.2.2.1 v t - W.car u.2.1 u.2.2.1 v t / W.m v * W.m v) ≤ (g : Nat)
        rw [l1, l2, pl, pr]
        omega)
      exact ⟨d + 1, .inr ⟨_, hst2, _, hb, hd⟩⟩
    · exact ⟨0, c⟩
end
end JM
/-! Plain mathematics: what a paper must keep, and that the told one does. -/
namespace JM
section
variable {α β : Type} [DecidableEq α]
/-- a dict's value at a key -/
def look (kvs : List (α × β)) (u : α) : Option β := (kvs.find? fun kv => decide (kv.1 = u)).map (·.2)
theorem look_nil (u : α) : look ([] : List (α × β)) u = none := rfl
theorem look_cons (p : α × β) (r : List (α × β)) (u : α) : look (p :: r) u = if p.1 = u then some p.2 else look r u := by
  unfold look
  rw [List.find?_cons]
  by_cases h : p.1 = u
  · rw [if_pos h, decide_eq_true h]; rfl
  · rw [if_neg h, decide_eq_false h]
theorem look_some : ∀ {kvs : List (α × β)} {u : α} {x : β}, look kvs u = some x → (u, x) ∈ kvs
  | [], u, x, h => by cases h
  | p :: r, u, x, h => by
    rw [look_cons] at h
    by_cases c : p.1 = u
    · rw [if_pos c] at h
      cases h
      rw [← c]
      exact List.mem_cons_self ..
    · rw [if_neg c] at h
      exact List.mem_cons_of_mem _ (look_some h)
theorem look_none : ∀ {kvs : List (α × β)} {u : α}, look kvs u = none ↔ ∀ x, (u, x) ∉ kvs
  | [], u => ⟨fun _ x => by simp, fun _ => rfl⟩
  | p :: r, u => by
    rw [look_cons]
    by_cases c : p.1 = u
    · rw [if_pos c]
      refine ⟨fun h => (nomatch h), fun h => absurd (show (u, p.2) ∈ p :: r from by rw [← c]; exact List.mem_cons_self ..) (h p.2)⟩
    · rw [if_neg c, look_none]
      refine ⟨fun h x m => ?_, fun h x m => h x (List.mem_cons_of_mem _ m)⟩
      rcases List.mem_cons.mp m with e | e
      · exact c (by rw [← e])
      · exact h x e
theorem look_mem : ∀ {kvs : List (α × β)} {u : α} {x : β}, (kvs.map (·.1)).Nodup → (u, x) ∈ kvs → look kvs u = some x
  | [], u, x, _, h => by cases h
  | p :: r, u, x, hn, h => by
    obtain ⟨h1, h2⟩ := List.nodup_cons.mp (show (p.1 :: r.map (·.1)).Nodup from hn)
    rw [look_cons]
    rcases List.mem_cons.mp h with e | e
    · subst e
      rw [if_pos rfl]
    · rw [if_neg fun c => h1 (List.mem_map.mpr ⟨_, e, c.symm⟩)]
      exact look_mem h2 e
end
section
variable {α : Type} [DecidableEq α]
def Closed (u : St α) : Prop := u.2.2.1 = u.2.2.2
/-- each entry is an open stand with a number that is not below 0 -/
def P1 (W : Wo α) (S : List α) (kvs : List (St α × Int)) : Prop := ∀ p ∈ kvs, Good W S p.1 ∧ ¬ Closed p.1 ∧ 0 ≤ p.2
/-- the first stands -/
def P2 (firsts : List (St α)) (len : Int) (kvs : List (St α × Int)) : Prop := ∀ u ∈ firsts, (Closed u → len < 2) ∧ (¬ Closed u → ∃ x, look kvs u = some x ∧ len - 1 ≤ x)
/-- each step from an entry -/
def P3 (W : Wo α) (steps : α → List (Stp α)) (kvs : List (St α × Int)) : Prop := ∀ p ∈ kvs, ∀ s ∈ steps p.1.1, ∀ f, W.behind p.1 s = some f → (Closed f ∨ ∃ x, look kvs f = some x) ∧ p.2 ≤ 1 + (look kvs f).getD 0
/-- c is the least count of deeds of a plan, or there is none -/
def LeastIs (W : Wo α) (steps : α → List (Stp α)) (firsts : List (St α)) : Option Int → Prop
  | none => ∀ u ∈ firsts, ∀ d, ¬ Cl W steps d u
  | some c => ∃ d : Nat, c = (d : Int) + 1 ∧ (∃ u ∈ firsts, Cl W steps d u) ∧ ∀ e, e < d → ∀ u ∈ firsts, ¬ Cl W steps e u
theorem LeastIs.uniq {W : Wo α} {steps : α → List (Stp α)} {firsts : List (St α)} {a b : Option Int} (h : LeastIs W steps firsts a) (g : LeastIs W steps firsts b) : a = b := by
  cases a with
  | none =>
    cases b with
    | none => rfl
    | some c =>
      obtain ⟨d, _, ⟨u, hu, hd⟩, _⟩ := g
      exact absurd hd (h u hu d)
  | some c =>
    obtain ⟨d, e, ⟨u, hu, hd⟩, hl⟩ := h
    cases b with
    | none => exact absurd hd (g u hu d)
    | some c' =>
      obtain ⟨d', e', ⟨u', hu', hd'⟩, hl'⟩ := g
      rcases Nat.lt_trichotomy d d' with q | q | q
      · exact absurd hd (hl' d q u hu)
      · rw [e, e', q]
      · exact absurd hd' (hl d' q u' hu')
theorem LeastIs.congr {W : Wo α} {steps steps' : α → List (Stp α)} {fs gs : List (St α)} {c : Option Int} (h : LeastIs W steps fs c) (e : ∀ u, u ∈ fs ↔ u ∈ gs) : LeastIs W steps gs c := by
  cases c with
  | none => exact fun u hu => h u ((e u).mpr hu)
  | some c =>
    obtain ⟨d, h1, ⟨u, hu, hd⟩, h3⟩ := h
    exact ⟨d, h1, ⟨u, (e u).mp hu, hd⟩, fun k hk u hu => h3 k hk u ((e u).mpr hu)⟩
/-- the told dict -/
structure PaperOf (W : Wo α) (S : List α) (steps : α → List (Stp α)) (firsts : List (St α)) (c : Int) (kvs : List (St α × Int)) : Prop where
  nd : (kvs.map (·.1)).Nodup
  good : ∀ p ∈ kvs, Good W S p.1 ∧ ¬ Closed p.1
  first : ∀ u ∈ firsts, ¬ Closed u → ∃ x, (u, x) ∈ kvs
  step : ∀ p ∈ kvs, ∀ s ∈ steps p.1.1, ∀ f, W.behind p.1 s = some f → ¬ Closed f → ∃ x, (f, x) ∈ kvs
  far : ∀ p ∈ kvs, ∀ d : Nat, Far W steps p.1 d → p.2 = min (d : Int) (c - 1)
  nofar : ∀ p ∈ kvs, (∀ d, ¬ Cl W steps d p.1) → p.2 = c - 1
section
variable {W : Wo α} {S : List α} {steps : α → List (Stp α)} {firsts : List (St α)} {c : Int} {kvs : List (St α × Int)}
theorem PaperOf.val (P : PaperOf W S steps firsts c kvs) (hc : LeastIs W steps firsts (some c)) : ∀ p ∈ kvs, 0 ≤ p.2 ∧ p.2 ≤ c - 1 := fun p hp => by
  obtain ⟨d, e, _, _⟩ := hc
  by_cases h : ∃ d, Cl W steps d p.1
  · obtain ⟨d', h'⟩ := h
    obtain ⟨e', _, hf⟩ := far_of h'
    have := P.far p hp e' hf
    omega
  · have := P.nofar p hp fun d hd => h ⟨d, hd⟩
    omega
theorem PaperOf.p1 (P : PaperOf W S steps firsts c kvs) (hc : LeastIs W steps firsts (some c)) : P1 W S kvs := fun p hp => ⟨(P.good p hp).1, (P.good p hp).2, (P.val hc p hp).1⟩
theorem PaperOf.p2 (P : PaperOf W S steps firsts c kvs) (hc : LeastIs W steps firsts (some c)) : P2 firsts c kvs := fun u hu => by
  obtain ⟨d, e, hx, hl⟩ := hc
  refine ⟨fun hcl => ?_, fun hop => ?_⟩
  · have : d = 0 := by
      refine Decidable.byContradiction fun z => hl 0 (by omega) u hu hcl
    omega
  · obtain ⟨x, hx'⟩ := P.first u hu hop
    refine ⟨x, look_mem P.nd hx', ?_⟩
    by_cases h : ∃ d, Cl W steps d u
    · obtain ⟨d', h'⟩ := h
      obtain ⟨e', _, hf⟩ := far_of h'
      have a : x = min (e' : Int) (c - 1) := P.far (u, x) hx' e' hf
      have : d ≤ e' := Nat.le_of_not_lt fun z => hl e' z u hu hf.1
      omega
    · have a : x = c - 1 := P.nofar (u, x) hx' fun d hd => h ⟨d, hd⟩
      omega
theorem PaperOf.p3 (P : PaperOf W S steps firsts c kvs) (hc : LeastIs W steps firsts (some c)) : P3 W steps kvs := fun p hp s hs f hf => by
  have v := P.val hc p hp
  obtain ⟨d0, e0, _, _⟩ := hc
  by_cases hcl : Closed f
  · have nl : look kvs f = none := look_none.mpr fun x hx => (P.good (f, x) hx).2 hcl
    refine ⟨.inl hcl, ?_⟩
    rw [nl]
    show p.2 ≤ 1 + 0
    obtain ⟨e, he, hfar⟩ := far_of (d := 1) (u := p.1) (W := W) (steps := steps) (.inr ⟨s, hs, f, hf, hcl⟩)
    have := P.far p hp e hfar
    omega
  · obtain ⟨x, hx⟩ := P.step p hp s hs f hf hcl
    have lx := look_mem P.nd hx
    refine ⟨.inr ⟨x, lx⟩, ?_⟩
    rw [lx]
    show p.2 ≤ 1 + x
    by_cases h : ∃ d, Cl W steps d f
    · obtain ⟨d', h'⟩ := h
      obtain ⟨e', _, hfar⟩ := far_of h'
      have a : x = min (e' : Int) (c - 1) := P.far (f, x) hx e' hfar
      obtain ⟨e, he, hfu⟩ := far_step hs hf hfar
      have b := P.far p hp e hfu
      omega
    · have a : x = c - 1 := P.nofar (f, x) hx fun d hd => h ⟨d, hd⟩
      omega
/-- for a length one greater it is none -/
theorem PaperOf.not2 (P : PaperOf W S steps firsts c kvs) (hc : LeastIs W steps firsts (some c)) : ¬ P2 firsts (c + 1) kvs := fun h => by
  obtain ⟨d, e, ⟨u, hu, hd⟩, hl⟩ := hc
  by_cases hcl : Closed u
  · have := (h u hu).1 hcl
    omega
  · obtain ⟨x, hx, hle⟩ := (h u hu).2 hcl
    have far : Far W steps u d := ⟨hd, fun k hk => hl k hk u hu⟩
    have a : x = min (d : Int) (c - 1) := P.far (u, x) (look_some hx) d far
    omega
end
end
end JM
/-! Sorting rows and triples. -/
namespace J
open PySem PySem.Spec PyProof.Rows L2
def kOf (H : Hp) : V → Int × Int
  | .ref t => match H t with
    | some (.tup [.int a, .int b]) => (a, b)
    | _ => (0, 0)
  | _ => (0, 0)
theorem kOf_row {H : Hp} {v : V} {p : Row} (h : Sd H v (eRow p)) : kOf H v = p := by
  obtain ⟨a, rfl, ha⟩ := sd_row h
  show (match H a with | some (.tup [.int a, .int b]) => (a, b) | _ => (0, 0)) = p
  rw [ha]
theorem kOf_rows {H : Hp} : ∀ {us : List V} {rows : List Row}, SdAll H us (rows.map eRow) → us.map (kOf H) = rows
  | _, [], h => by rw [sda_nil h]; rfl
  | _, p :: r, h => by
    obtain ⟨u, us, rfl, a, b⟩ := sda_cons h
    rw [List.map_cons, kOf_row a, kOf_rows b]
theorem sda_mem {H : Hp} : ∀ {us : List V} {rows : List Row}, SdAll H us (rows.map eRow) → ∀ x ∈ us, ∃ p, Sd H x (eRow p)
  | _, [], h, x, m => by rw [sda_nil h] at m; cases m
  | _, p :: r, h, x, m => by
    obtain ⟨u, us, rfl, a, b⟩ := sda_cons h
    rcases List.mem_cons.mp m with e | e
    · exact ⟨p, e ▸ a⟩
    · exact sda_mem b x e
theorem sda_mk {H : Hp} : ∀ {us : List V}, (∀ x ∈ us, ∃ p, Sd H x (eRow p)) → SdAll H us ((us.map (kOf H)).map eRow)
  | [], h => .nil
  | u :: us, h => by
    obtain ⟨p, hp⟩ := h u (List.mem_cons_self ..)
    refine .cons ?_ (sda_mk fun x m => h x (List.mem_cons_of_mem _ m))
    rw [kOf_row hp]
    exact hp
section
variable {X : Cx}
def rSortRows (K : PySem.W.Frag) : List V → Hp → VK → Prop := fun vs H Q => ∃ (a : Addr) (us : List V) (rows : List Row), vs = [.ref a] ∧ SqL K H a us ∧ SdAll H us (rows.map eRow) ∧
  ∀ (p : Addr) (us' : List V) (ys : List Row), H p = none → ys.Perm rows → ys.Pairwise JM.lexLe → SdAll H us' (ys.map eRow) → Q (.ref p) (upd H p (.lst us'))
theorem cr_sortedRows : CallR X (.builtin "sorted") (rSortRows X.K) := by
  intro pins s σ H vs ws Q I r h
  obtain ⟨a, us, rows, rfl, hS, hR, q⟩ := h
  refine cr_sortedPO pins s σ H [.ref a] ws Q I r ⟨a, us, kOf H, rfl, hS, fun x hx => ?_, fun ys p h1 h2 hp => ?_⟩
  · obtain ⟨p, hp⟩ := sda_mem hR x hx
    have e := kOf_row hp
    obtain ⟨t, rfl, ht⟩ := sd_row hp
    exact ⟨t, rfl, by rw [e]; exact ht⟩
  · have hm : ∀ x ∈ ys, ∃ p, Sd H x (eRow p) := fun x hx => sda_mem hR x (h2.perm.mem_iff.mp hx)
    refine q p ys (ys.map (kOf H)) hp ?_ ?_ (sda_mk hm)
    · rw [← kOf_rows hR]
      exact h2.perm.map _
    · rw [List.pairwise_map]
      refine h1.imp fun {x y} h => ?_
      have := SrtO.lexB_no.mp h
      unfold JM.lexLe
      omega
end
theorem alike_tri (b b' : Tri) : PySem.W.alike (eTri b) (eTri b') = true := by simp [eTri, PySem.W.alike, PySem.W.alikeAll]
theorem sort_tri (b : Tri) : ∃ x r, eTri b = .tuple (x :: r) := ⟨_, _, rfl⟩
theorem dep_tri (b : Tri) : (eTri b).depth ≤ 8 := by simp [eTri, PyData.depth, PyData.depthAll]
theorem alike_stand (b b' : Stand) : PySem.W.alike (eStand b) (eStand b') = true := by simp [eStand, PySem.W.alike, PySem.W.alikeAll]
theorem sort_stand (b : Stand) : ∃ x r, eStand b = .tuple (x :: r) := ⟨_, _, rfl⟩
theorem dep_stand (b : Stand) : (eStand b).depth ≤ 8 := by simp [eStand, PyData.depth, PyData.depthAll]
theorem eqv_rows (xs ys : List Row) : PyData.eqv (.tuple (xs.map eRow)) (.tuple (ys.map eRow)) = decide (xs = ys) := by
  have h := PySem.W.eqvAll_map (α := Int × Int) xs ys
  rw [PyData.eqv]
  exact h
theorem shaped_rows (xs : List Row) : SeqAt.shaped (.tuple (xs.map eRow)) = true := by
  have a : ∀ xs : List Row, PyData.canLayAll0 (xs.map eRow) = true ∧ PyData.depthAll (xs.map eRow) ≤ 1 := fun xs => by
    induction xs with
    | nil => exact ⟨by simp [PyData.canLayAll0], by simp [PyData.depthAll]⟩
    | cons x r ih => exact ⟨by simp [PyData.canLayAll0, eRow, PyData.canLay0, ih.1], by have h2 := ih.2; simp [PyData.depthAll, eRow, PyData.depth]; omega⟩
  have h := a xs
  have h2 := h.2
  simp [SeqAt.shaped, PyData.canLay0, PyData.depth, h.1]
  omega
/-- sorted triples (a list) as sorted data -/
theorem paired_sd {β : Type} {enc : β → PyData} {H : Hp} : ∀ {us : List V} {bs : List β}, SdAll H us (bs.map enc) → Paired (fun v b => Sd H v (enc b)) us bs
  | _, [], h => by rw [sda_nil h]; exact .nil
  | _, b :: r, h => by
    obtain ⟨u, us, rfl, x, y⟩ := sda_cons h
    exact .cons x (paired_sd y)
theorem sd_paired {β : Type} {enc : β → PyData} {H : Hp} : ∀ {us : List V} {bs : List β}, Paired (fun v b => Sd H v (enc b)) us bs → SdAll H us (bs.map enc)
  | _, _, .nil => .nil
  | _, _, .cons a b => .cons a (sd_paired b)
end J
/-! Rows and turnings: checked_rows, rows_turned, least_period, the class Turning. -/
namespace J
open PySem PySem.Spec PyProof.Rows L2

def sp_checked_rows : Sp := fun vs H Q _ => ∃ (n : Int) (a : Addr) (us : List V) (rows : List Row), vs = [.int n, .ref a] ∧ H a = some (.lst us) ∧ SdAll H us (rows.map eRow) ∧ JM.RowsOk n rows ∧ ∀ H' v, Same H H' → TAt eRow H' v rows → Q v H'
section
variable {P : Program} {w : World} {K : PySem.W.Frag} {mg : Str → Option Value} {base : Heap}

theorem map_at {β γ : Type} {f : β → γ} {l : List β} {i : Nat} {b : β} (h : l[i]? = some b) : (l.map f)[i]? = some (f b) := by
  rw [List.getElem?_map, h]
  rfl
theorem at_map {β γ : Type} {f : β → γ} {l : List β} {i : Nat} {c : γ} (h : (l.map f)[i]? = some c) : ∃ b, l[i]? = some b ∧ f b = c := by
  rw [List.getElem?_map] at h
  cases e : l[i]? with
  | none => rw [e] at h; cases h
  | some b => rw [e] at h; exact ⟨b, rfl, Option.some.inj h⟩
/-- the i-th of a list of rows -/
theorem row_at {H : Hp} {us : List V} {rows : List Row} {i : Nat} {u : V} (h : SdAll H us (rows.map eRow)) (e : us[i]? = some u) : ∃ p a, rows[i]? = some p ∧ u = .ref a ∧ H a = some (.tup [.int p.1, .int p.2]) := by
  obtain ⟨d, hd, hs⟩ := h.of e
  obtain ⟨p, hp, rfl⟩ := at_map hd
  obtain ⟨a, e2, ha⟩ := sd_row hs
  exact ⟨p, a, hp, e2, ha⟩
theorem at_row {H : Hp} {us : List V} {rows : List Row} {i : Nat} {p : Row} (h : SdAll H us (rows.map eRow)) (e : rows[i]? = some p) : ∃ a, us[i]? = some (.ref a) ∧ H a = some (.tup [.int p.1, .int p.2]) := by
  obtain ⟨u, hu, hs⟩ := h.at (map_at (f := eRow) e)
  obtain ⟨a, e2, ha⟩ := sd_row hs
  subst e2
  exact ⟨a, hu, ha⟩
theorem atI_of {α : Type} {xs : List α} {i : Nat} {v : α} (h : xs[i]? = some v) : atI xs (i : Int) = some v := atI_nat h
theorem mem_at {α : Type} {xs : List α} {i : Nat} {v : α} (h : xs[i]? = some v) : v ∈ xs := List.mem_of_getElem? h

theorem sc_checked_rows : FnScope ["around", "rows", "before", "at", "pair", "begin", "rest", "behind"] ["around", "rows"] (defScope s_checked_rows) := ⟨rfl, rfl, rfl, by decide +kernel, rfl, by decide +kernel, by decide +kernel⟩
-- slots: 0 around, 1 rows, 2 before, 3 at, 4 pair, 5 begin, 6 rest, 7 behind
theorem ok_checked_rows (T : Wd K mg) : FnOk P w K mg base CX0 4 T.checked_rows.f T.checked_rows.fd ["around", "rows"] sp_checked_rows := by
  have G_is_row := ok_is_row (P := P) (w := w) (base := base) T
  have G_is_pair := ok_is_pair (P := P) (w := w) (base := base) T
  refine T.checked_rows.F.ok sc_checked_rows (fun vs H Q E h => ?_) (fun cdv A outer s H vs Q E hr h => ?_)
  · obtain ⟨n, a, us, rows, rfl, _⟩ := h
    rfl
  · obtain ⟨n, a, us, rows, rfl, ha, hu, R, q⟩ := h
    have hlen : us.length = rows.length := by rw [hu.len, List.length_map]
    have hl1 : 1 ≤ rows.length := List.length_pos_iff.mpr R.ne
    have hl2 := R.len
    refine ⟨_, PSs.nox (pss_cons (ps_if (PW.pt (pw_or (pt_not (pt_val (pe_call G_is_row (hr.mono (by decide)) (by rfl) T.is_row.g T.is_row.F.kp T.is_row.b .nil pass0 (pa_cons (pv 1) pa_nil)) (fun _ => rfl))) (pw_or1 (pt_not (pt_chain op_le op_le pe_int (pe_callB call_len_seq (by rfl) T.n_len (by decide +kernel) (pa_cons (pv 1) pa_nil)) (pe_glob (v := .int 12) (by rfl) T.m_MOST_ROWS ⟨_, rfl⟩))))))
        (pss_one ps_never)
        pss_nil)
      (pss_cons (ps_set (i := 2) sc_checked_rows.nd rfl (.inl rfl) (pe_un un_neg pe_int))
      (pss_cons (ps_for PassesOwn.never rfl (pi_enum (by rfl) T.n_enumerate (pa_cons (pv 1) pa_nil)) (pg_tup (by rfl) (pgs_cons (pg_name (i := 3) sc_checked_rows.nd rfl (.inl rfl)) (pgs_cons (pg_name (i := 4) sc_checked_rows.nd rfl (.inl rfl)) pgs_nil)))
        (pss_cons (ps_if (PW.pt (pw_or (pt_not (pt_val (pe_call G_is_pair (hr.mono (by decide)) (by rfl) T.is_pair.g T.is_pair.F.kp T.is_pair.b .nil pass0 (pa_cons (pv 4) (pa_cons (pv 0) pa_nil))) (fun _ => rfl))) (pw_or1 (pt_cmpR op_le (pe_ix ix_tup (pv 4) pe_int (fun _ _ => rfl)) (pv 2) (nomark _)))))
            (pss_one ps_never)
            pss_nil)
          (pss_one (ps_set (i := 2) sc_checked_rows.nd rfl (.inl rfl) (pe_ix ix_tup (pv 4) pe_int (fun _ _ => rfl))))))
      (pss_cons (ps_for PassesOwn.never rfl (pi_enum (by rfl) T.n_enumerate (pa_cons (pv 1) pa_nil)) (pg_tup (by rfl) (pgs_cons (pg_name (i := 3) sc_checked_rows.nd rfl (.inl rfl)) (pgs_cons (pg_tup (by rfl) (pgs_cons (pg_name (i := 5) sc_checked_rows.nd rfl (.inl rfl)) (pgs_cons (pg_name (i := 6) sc_checked_rows.nd rfl (.inl rfl)) pgs_nil))) pgs_nil)))
        (pss_cons (ps_set (i := 7) sc_checked_rows.nd rfl (.inl rfl) (pe_ifExp (pt_cmpR op_lt (pe_op op_add (pv 3) pe_int) (pe_callB call_len_seq (by rfl) T.n_len (by decide +kernel) (pa_cons (pv 1) pa_nil)) (nomark _)) (pe_ix ix_tup (pe_ix ix_list (pv 1) (pe_op op_add (pv 3) pe_int) (fun _ _ => rfl)) pe_int (fun _ _ => rfl)) (pe_op op_add (pe_ix ix_tup (pe_ix ix_list (pv 1) pe_int (fun _ _ => rfl)) pe_int (fun _ _ => rfl)) (pv 0))))
          (pss_one (ps_if (pt_cmpR op_ge (pe_op op_add (pv 5) (pe_op op_mod (pe_op op_sub (pv 6) (pv 5)) (pv 0))) (pv 7) (nomark _))
          (pss_one ps_never)
          pss_nil))))
      (pss_one (ps_ret (pe_callTy call_tuple_of (by rfl) T.n_tuple (by decide +kernel) (pa_cons (pe_lc (own := [("begin", 5), ("rest", 6)]) (g := gTup K 2 (gCons (gName 5) (gCons (gName 6) (gNil)))) rfl sc_checked_rows.nd (pi_list (pv 1)) (blkOk_by (own := [("begin", 5), ("rest", 6)]) (N := ["around", "rows", "before", "at", "pair", "begin", "rest", "behind"]) (sc := defScope s_checked_rows) (by decide +kernel)) (fun _ _ _ _ _ => (pg_tup (by rfl) (pgs_cons (pg_name (i := 5) sc_checked_rows.nd rfl (.inl rfl)) (pgs_cons (pg_name (i := 6) sc_checked_rows.nd rfl (.inl rfl)) pgs_nil)))) (fun _ _ _ _ _ => pts_nil) (fun _ _ _ _ _ => (pe_tup (pa_cons (pv 5) (pa_cons (pv 6) pa_nil))))) pa_nil))))))))
, ?_⟩
    refine ⟨_, rfl, a, us, rfl, ha, fun H1 s1 => ⟨true, rfl, iteF ⟨_, rfl, a, us, rfl, .inl (SqL.of (s1 _ _ ha)), 1, _, rfl, rfl, true, d_true (by omega), iteT ⟨_, 12, rfl, rfl, true, d_true (by omega), iteF ?_⟩⟩⟩⟩
    refine ⟨1, rfl, _, rfl, a, us, rfl, SqL.of (s1 _ _ ha), ?_⟩
    refine for_it walk_enum (fun i σ H' => Same H H' ∧ ∃ b x y, σ = [some (.int n), some (.ref a), some (.int b), x, y, none, none, none] ∧ ∀ p, rows[i]? = some p → b < p.1) ⟨s1, -1, none, none, rfl, fun p hp => ?_⟩ (fun i σ H' _ p => SqL.of (p.1 _ _ ha)) (fun i v σ H1 H2 hi p y => ?_) fun σ H3 p => ?_
    · have := (R.inb p (mem_at hp)).1
      omega
    · obtain ⟨s2, b, x0, y0, rfl, hb⟩ := p
      obtain ⟨t, x, y, rfl, nt, rfl, e1, e2⟩ := y
      cases e1
      obtain ⟨p, c, hp, rfl, hc⟩ := row_at hu e2
      have s3 : Same H (upd H1 t (.tup [.int (i : Nat), .ref c])) := s2.trans (same_new nt)
      refine ⟨t, _, rfl, SqT.of upd_same, rfl, _, _, rfl, _, _, rfl, rfl, ?_⟩
      have ib := R.inb p (mem_at hp)
      refine ⟨_, rfl, _, rfl, c, p.1, p.2, n, rfl, s3 _ _ hc, ⟨ib.1, ib.2.1⟩, ib.2.2, true, rfl, iteF ?_⟩
      refine ⟨_, rfl, c, _, 0, .int p.1, rfl, rfl, SqT.of (s3 _ _ hc), rfl, _, rfl, p.1, b, rfl, rfl, false, d_false (by have := hb p hp; omega), iteF ?_⟩
      refine ⟨_, rfl, c, _, 0, .int p.1, rfl, rfl, SqT.of (s3 _ _ hc), rfl, s3, p.1, _, _, rfl, fun q hq => ?_⟩
      have := List.pairwise_iff_getElem.mp R.inc i (i + 1) (List.getElem?_eq_some_iff.mp hp).1 (List.getElem?_eq_some_iff.mp hq).1 (by omega)
      rw [(List.getElem?_eq_some_iff.mp hp).2, (List.getElem?_eq_some_iff.mp hq).2] at this
      exact this
    · obtain ⟨s2, b, x0, y0, rfl, _⟩ := p
      refine ⟨_, rfl, a, us, rfl, SqL.of (s2 _ _ ha), ?_⟩
      refine for_it walk_enum (fun i σ H' => Same H H' ∧ ∃ x y z w v u, σ = [some (.int n), some (.ref a), x, y, z, w, v, u]) ⟨s2, _, _, _, _, _, _, rfl⟩ (fun i σ H' _ p => SqL.of (p.1 _ _ ha)) (fun i v σ H1 H2 hi p y => ?_) fun σ H4 p => ?_
      · obtain ⟨s3, x1, x2, x3, x4, x5, x6, rfl⟩ := p
        obtain ⟨t, x, y, rfl, nt, rfl, e1, e2⟩ := y
        cases e1
        obtain ⟨p, c, hp, rfl, hc⟩ := row_at hu e2
        have s4 : Same H (upd H1 t (.tup [.int (i : Nat), .ref c])) := s3.trans (same_new nt)
        refine ⟨t, _, rfl, SqT.of upd_same, rfl, _, _, rfl, _, _, rfl, ⟨c, _, rfl, SqT.of (s4 _ _ hc), rfl, _, _, rfl, _, _, rfl, rfl, ⟨rfl, ?_⟩⟩⟩
        have s5 := s4 _ _ ha
        refine ⟨_, rfl, _, 1, rfl, rfl, _, rfl, a, us, rfl, .inl (SqL.of s5), _, _, rfl, rfl, _, rfl, ?_⟩
        have ib := R.inb p (mem_at hp)
        have ng : ∀ b2 : Int, p.1 + (p.2 - p.1) % n < b2 → ¬ b2 ≤ p.1 + (p.2 - p.1) % n := fun b2 h => by omega
        refine ite2 (fun hc2 => ?_) fun hc2 => ?_
        · have hi2 : i + 1 < rows.length := by have := of_decide_eq_true hc2; omega
          obtain ⟨c2, hu2, hc3⟩ := at_row hu (show rows[i + 1]? = some rows[i + 1] by simp [hi2])
          have gap := R.gap p (mem_at hp) rows[i + 1] (List.getElem_mem hi2) (by
            have := List.pairwise_iff_getElem.mp R.inc i (i + 1) (List.getElem?_eq_some_iff.mp hp).1 hi2 (by omega)
            rw [(List.getElem?_eq_some_iff.mp hp).2] at this
            exact this)
          refine ⟨_, rfl, _, rfl, _, 1, rfl, rfl, a, us, _, _, rfl, rfl, SqL.of s5, atI_of (i := i + 1) hu2, c2, _, 0, _, rfl, rfl, SqT.of (s4 _ _ hc3), rfl, ?_⟩
          refine ⟨_, rfl, _, rfl, _, rfl, _, _, rfl, rfl, _, rfl, _, _, rfl, rfl, by omega, p.1, _, rfl, rfl, _, rfl, _, _, rfl, rfl, _, d_false (ng _ gap), iteF ?_⟩
          exact ⟨s4, _, _, _, _, _, _, rfl⟩
        · obtain ⟨c2, hu2, hc3⟩ := at_row hu (show rows[0]? = some rows[0] by simp [hl1])
          have gap := R.wrap p (mem_at hp) rows[0] (List.getElem_mem hl1)
          refine ⟨_, rfl, a, us, 0, _, rfl, rfl, SqL.of s5, atI_of (i := 0) hu2, c2, _, 0, _, rfl, rfl, SqT.of (s4 _ _ hc3), rfl, _, rfl, _, _, rfl, rfl, ?_⟩
          refine ⟨_, rfl, _, rfl, _, rfl, _, _, rfl, rfl, _, rfl, _, _, rfl, rfl, by omega, p.1, _, rfl, rfl, _, rfl, _, _, rfl, rfl, _, d_false (ng _ gap), iteF ?_⟩
          exact ⟨s4, _, _, _, _, _, _, rfl⟩
      · obtain ⟨s3, x1, x2, x3, x4, x5, x6, rfl⟩ := p
        refine ⟨_, rfl, a, rfl, ⟨us, SqL.of (s3 _ _ ha)⟩, fun D hD => ?_⟩
        refine lc_pure walk_list rows (fun p => some p) eRow hlen (by rw [hlen]; exact Nat.le_trans hl2 (by decide)) hD (fun H' s4 => SqL.of (s4 _ _ (s3 _ _ ha))) (fun i z x H1 H2 N N0 hz s4 y hN hN0 => ?_) fun H5 us5 s4 hD5 hu5 => ?_
        · obtain ⟨rfl, e2⟩ := y
          obtain ⟨p, c, hp, rfl, hc⟩ := row_at hu e2
          rw [hz] at hp
          cases hp
          refine ⟨c, _, rfl, SqT.of (s4 _ _ (s3 _ _ hc)), rfl, _, _, rfl, _, _, rfl, rfl, rfl, yesT ?_⟩
          refine ⟨_, rfl, _, rfl, by show 2 ≤ sizeLine; decide, fun t nt => hN _ _ _ (same_new nt) rfl (row_sd upd_same)⟩
        · refine ⟨D, us5, rfl, .inl ⟨SqL.of hD5, fun t nt => q _ _ (s3.trans (s4.trans (same_new nt))) ⟨t, us5, rfl, upd_same, ?_⟩⟩⟩
          rw [List.filterMap_some] at hu5
          exact hu5.sm (same_new nt)

def sp_rows_turned : Sp := fun vs H Q _ => ∃ (n s : Int) (a : Addr) (us : List V) (rows : List Row), vs = [.int n, .ref a, .int s] ∧ H a = some (.tup us) ∧ SdAll H us (rows.map eRow) ∧ 0 < n ∧ rows.length ≤ 12 ∧
  ∀ H' v ys, Same H H' → ys.Perm (rows.map (JM.turn n s)) → ys.Pairwise JM.lexLe → TAt eRow H' v ys → Q v H'
theorem sc_rows_turned : FnScope ["around", "rows", "by", "begin", "rest"] ["around", "rows", "by"] (defScope s_rows_turned) := ⟨rfl, rfl, rfl, by decide +kernel, rfl, by decide +kernel, by decide +kernel⟩
-- slots: 0 around*, 1 rows, 2 by*, 3 begin, 4 rest
theorem ok_rows_turned (T : Wd K mg) : FnOk P w K mg base CX0 1 T.rows_turned.f T.rows_turned.fd ["around", "rows", "by"] sp_rows_turned := by
  refine T.rows_turned.F.ok sc_rows_turned (fun vs H Q E h => ?_) (fun cdv A outer s H vs Q E hr h => ?_)
  · obtain ⟨n, s, a, us, rows, rfl, _⟩ := h
    rfl
  · obtain ⟨n, by', a, us, rows, rfl, ha, hu, hn, hl, q⟩ := h
    have hlen : us.length = rows.length := by rw [hu.len, List.length_map]
    refine ⟨_, PSs.nox (pss_one (ps_ret (pe_callTy call_tuple_of (by rfl) T.n_tuple (by decide +kernel) (pa_cons (pe_callB cr_sortedRows (by rfl) T.n_sorted (by decide +kernel) (pa_cons (pe_lc (own := [("begin", 3), ("rest", 4)]) (g := gTup K 2 (gCons (gName 3) (gCons (gName 4) (gNil)))) rfl sc_rows_turned.nd (pi_tup (pv 1)) (blkOk_by (own := [("begin", 3), ("rest", 4)]) (N := ["around", "rows", "by", "begin", "rest"]) (sc := defScope s_rows_turned) (by decide +kernel)) (fun _ _ _ _ _ => (pg_tup (by rfl) (pgs_cons (pg_name (i := 3) sc_rows_turned.nd rfl (.inl rfl)) (pgs_cons (pg_name (i := 4) sc_rows_turned.nd rfl (.inl rfl)) pgs_nil)))) (fun _ _ _ _ _ => pts_nil) (fun _ _ _ _ _ => (pe_tup (pa_cons (pe_op op_mod (pe_op op_add (pv 3) (pv 2)) (pv 0)) (pa_cons (pe_op op_mod (pe_op op_add (pv 4) (pv 2)) (pv 0)) pa_nil))))) pa_nil)) pa_nil))))
, ?_⟩
    refine ⟨_, rfl, a, rfl, ⟨us, SqT.of ha⟩, fun D hD => ?_⟩
    refine lc_pure walk_tup rows (fun p => some (JM.turn n by' p)) eRow hlen (by rw [hlen]; exact Nat.le_trans hl (by decide)) hD (fun H' s4 => SqT.of (s4 _ _ ha)) (fun i z x H1 H2 N N0 hz s4 y hN hN0 => ?_) fun H5 us5 s4 hD5 hu5 => ?_
    · obtain ⟨rfl, e2⟩ := y
      obtain ⟨p, c, hp, rfl, hc⟩ := row_at hu e2
      rw [hz] at hp
      cases hp
      refine ⟨c, _, rfl, SqT.of (s4 _ _ hc), rfl, _, _, rfl, _, _, rfl, rfl, rfl, yesT ?_⟩
      refine ⟨_, rfl, _, rfl, _, _, rfl, rfl, _, rfl, _, _, rfl, rfl, hn, _, rfl, _, rfl, _, _, rfl, rfl, _, rfl, _, _, rfl, rfl, hn, by show 2 ≤ sizeLine; decide, fun t nt => hN _ _ _ (same_new nt) rfl (row_sd upd_same)⟩
    · rw [show rows.filterMap (fun p => some (JM.turn n by' p)) = rows.map (JM.turn n by') by simp] at hu5
      refine ⟨D, us5, _, rfl, SqL.of hD5, hu5, fun p us' ys hp h1 h2 h3 => ?_⟩
      refine ⟨p, us', rfl, .inl ⟨SqL.of upd_same, fun t nt => q _ _ ys (s4.trans ((same_new hp).trans (same_new nt))) h1 h2 ⟨t, us', rfl, upd_same, ?_⟩⟩⟩
      exact h3.sm ((same_new hp).trans (same_new nt))

def sp_least_period : Sp := fun vs H Q _ => ∃ (n : Int) (a : Addr) (us : List V) (rows : List Row), vs = [.int n, .ref a] ∧ H a = some (.tup us) ∧ SdAll H us (rows.map eRow) ∧ JM.RowsOk n rows ∧
  ∀ H' d, Same H H' → JM.IsLeast n (JM.Pd (JM.lift n rows)) d → Q (.int d) H'
theorem sc_least_period : FnScope ["around", "rows", "step"] ["around", "rows"] (defScope s_least_period) := ⟨rfl, rfl, rfl, by decide +kernel, rfl, by decide +kernel, by decide +kernel⟩
-- slots: 0 around, 1 rows, 2 step
theorem ok_least_period (T : Wd K mg) : FnOk P w K mg base CX0 2 T.least_period.f T.least_period.fd ["around", "rows"] sp_least_period := by
  have G_rows_turned := ok_rows_turned (P := P) (w := w) (base := base) T
  refine T.least_period.F.ok sc_least_period (fun vs H Q E h => ?_) (fun cdv A outer s H vs Q E hr h => ?_)
  · obtain ⟨n, a, us, rows, rfl, _⟩ := h
    rfl
  · obtain ⟨n, a, us, rows, rfl, ha, hu, R, q⟩ := h
    have hn := R.lo
    have hh := R.hi
    refine ⟨_, PSs.nox (pss_cons (ps_for PassesOwn.never rfl (pi_range2 (by rfl) T.n_range (pa_cons pe_int (pa_cons (pv 0) pa_nil))) (pg_name (i := 2) sc_least_period.nd rfl (.inl rfl))
        (pss_one (ps_if (PW.pt (pw_and (pt_cmpR op_eq (pe_op op_mod (pv 0) (pv 2)) pe_int (nomark _)) (pw_and1 (pt_cmpR (op_eqD hr.units) (pe_call G_rows_turned (hr.mono (by decide)) (by rfl) T.rows_turned.g T.rows_turned.F.kp T.rows_turned.b .nil pass0 (pa_cons (pv 0) (pa_cons (pv 1) (pa_cons (pv 2) pa_nil)))) (pv 1) (nomark _)))))
          (pss_one (ps_ret (pv 2)))
          pss_nil)))
      (pss_one (ps_ret (pv 0))))
, ?_⟩
    refine ⟨_, rfl, 1, n, rfl, ⟨by omega, by omega, by omega, by omega⟩, ?_⟩
    refine for_it walk_range (fun i σ H' => Same H H' ∧ (∃ x, σ = [some (.int n), some (.ref a), x]) ∧ ∀ t : Int, 1 ≤ t → t < 1 + i → n % t = 0 → ¬ JM.Pd (JM.lift n rows) t) ⟨Same.refl _, ⟨_, rfl⟩, fun t h1 h2 => by omega⟩ (fun _ _ _ _ _ => trivial) (fun i v σ H1 H2 hi p y => ?_) fun σ H3 p => ?_
    · obtain ⟨s1, ⟨x, rfl⟩, hno⟩ := p
      obtain ⟨rfl, rfl⟩ := y
      refine ⟨_, rfl, _, rfl, _, _, rfl, rfl, by omega, rfl, _, rfl, ite2 (fun hd => ?_) fun hd => ?_⟩
      · have hd0 : n % (1 + (i : Int)) = 0 := by simpa using hd
        refine ⟨_, rfl, _, rfl, _, rfl, n, 1 + (i : Int), a, us, rows, rfl, s1 _ _ ha, hu.sm s1, by omega, R.len, fun H4 v ys s2 hp hs ht => ?_⟩
        obtain ⟨t, ws, rfl, ht, hw⟩ := ht
        refine ⟨_, rfl, .tuple (ys.map eRow), .tuple (rows.map eRow), .tup (.inl (.inl ht)) (hw.dp _), .tup (.inl (.inl (s2 _ _ (s1 _ _ ha)))) ((hu.sm (s1.trans s2)).dp _), shaped_rows _, shaped_rows _, _, rfl, ?_⟩
        rw [eqv_rows]
        have iff := JM.turned_iff R hp hs
        refine ite2 (fun he => ?_) fun he => ?_
        · have hP := iff.mp (of_decide_eq_true he)
          exact ⟨_, rfl, q _ _ (s1.trans s2) ⟨by omega, by omega, .inr ⟨hd0, hP⟩, fun t h1 h2 => hno t h1 (by omega)⟩⟩
        · refine ⟨s1.trans s2, ⟨_, rfl⟩, fun t h1 h2 h3 hP => ?_⟩
          by_cases c : t < 1 + (i : Int)
          · exact hno t h1 c h3 hP
          · have : t = 1 + (i : Int) := by omega
            subst this
            exact he (decide_eq_true (iff.mpr hP))
      · refine ⟨s1, ⟨_, rfl⟩, fun t h1 h2 h3 hP => ?_⟩
        by_cases c : t < 1 + (i : Int)
        · exact hno t h1 c h3 hP
        · have : t = 1 + (i : Int) := by omega
          subst this
          exact hd (by simpa using h3)
    · obtain ⟨s1, ⟨x, rfl⟩, hno⟩ := p
      exact ⟨_, rfl, q _ _ s1 ⟨by omega, by omega, .inl rfl, fun t h1 h2 => hno t h1 (by omega)⟩⟩

/-- a turning -/
def TurnAt (T : Wd K mg) (H : Hp) (v : V) (n : Int) (rows : List Row) : Prop := ∃ (a dx : Addr) (r : V) (per : Int), v = .ref a ∧ H a = some (.ins T.Turning.C dx [("around", .int n), ("rows", r), ("_period", .int per)]) ∧ TAt eRow H r rows ∧ JM.RowsOk n rows ∧ JM.IsLeast n (JM.Pd (JM.lift n rows)) per
theorem TurnAt.fz {T : Wd K mg} {H H' : Hp} {v : V} {n : Int} {rows : List Row} (k : Fz H H') (h : TurnAt T H v n rows) : TurnAt T H' v n rows := by
  obtain ⟨a, dx, r, per, e, h1, h2, h3⟩ := h
  exact ⟨a, dx, r, per, e, k _ _ h1 (fun _ z => nomatch z) (fun _ z => nomatch z) (fun _ z => nomatch z), h2.fz k, h3⟩
theorem TurnAt.sm {T : Wd K mg} {H H' : Hp} {v : V} {n : Int} {rows : List Row} (k : Same H H') (h : TurnAt T H v n rows) : TurnAt T H' v n rows := h.fz (fz_of k)
def sp_Turning_init (T : Wd K mg) : Sp := fun vs H Q _ => ∃ (x dx a : Addr) (n : Int) (us : List V) (rows : List Row), vs = [.ref x, .int n, .ref a] ∧ H x = some (.ins T.Turning.C dx []) ∧ H a = some (.lst us) ∧ SdAll H us (rows.map eRow) ∧ JM.RowsOk n rows ∧
  ∀ H', SameX x H H' → TurnAt T H' (.ref x) n rows → Q .non H'
theorem sc_Turning_init : FnScope ["self", "around", "rows"] ["self", "around", "rows"] (defScope s_Turning_init) := ⟨rfl, rfl, rfl, by decide +kernel, rfl, by decide +kernel, by decide +kernel⟩
-- slots: 0 self, 1 around, 2 rows
theorem ok_Turning_init (T : Wd K mg) : FnOk P w K mg base CX0 5 T.Turning_init.f T.Turning_init.fd ["self", "around", "rows"] (sp_Turning_init T) := by
  have G_check_round := ok_check_round (P := P) (w := w) (base := base) T
  have G_checked_rows := ok_checked_rows (P := P) (w := w) (base := base) T
  have G_least_period := ok_least_period (P := P) (w := w) (base := base) T
  refine T.Turning_init.F.ok sc_Turning_init (fun vs H Q E h => ?_) (fun cdv A outer s H vs Q E hr h => ?_)
  · obtain ⟨x, dx, a, n, us, rows, rfl, _⟩ := h
    rfl
  · obtain ⟨x, dx, a, n, us, rows, rfl, hx, ha, hu, R, q⟩ := h
    refine ⟨_, PSs.nox (pss_cons (ps_expr (pe_call G_check_round (hr.mono (by decide)) (by rfl) T.check_round.g T.check_round.F.kp T.check_round.b .nil pass0 (pa_cons (pv 1) pa_nil)))
      (pss_cons (ps_fld (pv 0) (pv 1) rfl)
      (pss_cons (ps_fld (pv 0) (pe_call G_checked_rows (hr.mono (by decide)) (by rfl) T.checked_rows.g T.checked_rows.F.kp T.checked_rows.b .nil pass0 (pa_cons (pv 1) (pa_cons (pv 2) pa_nil))) rfl)
      (pss_one (ps_fld (pv 0) (pe_call G_least_period (hr.mono (by decide)) (by rfl) T.least_period.g T.least_period.F.kp T.least_period.b .nil pass0 (pa_cons (pv 1) (pa_cons (pe_fld (pv 0) rfl) pa_nil))) rfl)))))
, ?_⟩
    have n1 : a ≠ x := ne_of ha hx (fun z => nomatch z)
    refine ⟨_, rfl, n, rfl, R.lo, R.hi, ?_⟩
    refine ⟨_, rfl, _, rfl, x, T.Turning.C, dx, [], rfl, hx, T.Turning.cl, T.n_Turning_around, by decide, ?_⟩
    have k1 : Ft H (upd H x (.ins T.Turning.C dx (putF "around" (.int n) []))) := ft_upd hx (fun _ z => nomatch z)
    refine ⟨_, rfl, _, rfl, n, a, us, rows, rfl, (upd_ne n1).trans ha, hu.mt k1, R, fun H1 v1 s1 ht1 => ?_⟩
    have hx1 : H1 x = some (.ins T.Turning.C dx [("around", .int n)]) := s1 _ _ upd_same
    refine ⟨_, rfl, x, T.Turning.C, dx, _, rfl, hx1, T.Turning.cl, T.n_Turning_rows, by show 1 < 1000; decide, ?_⟩
    have k2 : Ft H1 (upd H1 x (.ins T.Turning.C dx (putF "rows" v1 [("around", .int n)]))) := ft_upd hx1 (fun _ z => nomatch z)
    have ht2 := ht1.ft k2
    obtain ⟨r, us2, rfl, hr2, hu2⟩ := ht2
    refine ⟨_, rfl, _, rfl, x, T.Turning.C, dx, _, _, rfl, upd_same, T.Turning.cl, T.n_Turning_rows, rfl, n, r, us2, rows, rfl, hr2, hu2, R, fun H3 d s3 hd => ?_⟩
    have hx3 : H3 x = some (.ins T.Turning.C dx [("around", .int n), ("rows", .ref r)]) := s3 _ _ upd_same
    refine ⟨_, rfl, x, T.Turning.C, dx, _, rfl, hx3, T.Turning.cl, T.n_Turning__period, by show 2 < 1000; decide, ?_⟩
    refine q _ (fun b o nb e => (upd_ne nb).trans (s3 _ _ ((upd_ne nb).trans (s1 _ _ ((upd_ne nb).trans e))))) ⟨x, dx, .ref r, d, rfl, upd_same, ?_, R, hd⟩
    exact (ht1.ft k2).ft ((ft_of s3).trans (ft_upd hx3 (fun _ z => nomatch z)))

def sp_Turning_rests (T : Wd K mg) : Sp := fun vs H Q _ => ∃ (v : V) (n : Int) (rows : List Row), vs = [v] ∧ TurnAt T H v n rows ∧
  ∀ H' p (zs : List Int), Same H H' → zs.Perm (rows.map (·.2)) → zs.Pairwise (· ≤ ·) → H' p = some (.lst (zs.map V.int)) → Q (.ref p) H'
theorem sc_Turning_rests : FnScope ["self", "begin", "rest"] ["self"] (defScope s_Turning_rests) := ⟨rfl, rfl, rfl, by decide +kernel, rfl, by decide +kernel, by decide +kernel⟩
-- slots: 0 self, 1 begin, 2 rest
theorem ok_Turning_rests (T : Wd K mg) : FnOk P w K mg base CX0 1 T.Turning_rests.f T.Turning_rests.fd ["self"] (sp_Turning_rests T) := by
  refine T.Turning_rests.F.ok sc_Turning_rests (fun vs H Q E h => ?_) (fun cdv A outer s H vs Q E hr h => ?_)
  · obtain ⟨x, n, rows, rfl, _⟩ := h
    rfl
  · obtain ⟨x, n, rows, rfl, hx, q⟩ := h
    obtain ⟨x, dx, r, per, rfl, hx, hr', R, _⟩ := hx
    obtain ⟨r, us, rfl, hr', hu⟩ := hr'
    have hlen : us.length = rows.length := by rw [hu.len, List.length_map]
    refine ⟨_, PSs.nox (pss_one (ps_ret (pe_callB cr_sortedI (by rfl) T.n_sorted (by decide +kernel) (pa_cons (pe_lc (own := [("begin", 1), ("rest", 2)]) (g := gTup K 2 (gCons (gName 1) (gCons (gName 2) (gNil)))) rfl sc_Turning_rests.nd (pi_tup (pe_fld (pv 0) rfl)) (blkOk_by (own := [("begin", 1), ("rest", 2)]) (N := ["self", "begin", "rest"]) (sc := defScope s_Turning_rests) (by decide +kernel)) (fun _ _ _ _ _ => (pg_tup (by rfl) (pgs_cons (pg_name (i := 1) sc_Turning_rests.nd rfl (.inl rfl)) (pgs_cons (pg_name (i := 2) sc_Turning_rests.nd rfl (.inl rfl)) pgs_nil)))) (fun _ _ _ _ _ => pts_nil) (fun _ _ _ _ _ => (pv 2))) pa_nil))))
, ?_⟩
    refine ⟨_, rfl, x, T.Turning.C, dx, _, _, rfl, hx, T.Turning.cl, T.n_Turning_rows, rfl, r, rfl, ⟨us, SqT.of hr'⟩, fun D hD => ?_⟩
    refine lc_pure walk_tup rows (fun p => some p.2) PyData.int hlen (by rw [hlen]; exact Nat.le_trans R.len (by decide)) hD (fun H' s4 => SqT.of (s4 _ _ hr')) (fun i z x H1 H2 N N0 hz s4 y hN hN0 => ?_) fun H5 us5 s4 hD5 hu5 => ?_
    · obtain ⟨rfl, e2⟩ := y
      obtain ⟨p, c, hp, rfl, hc⟩ := row_at hu e2
      rw [hz] at hp
      cases hp
      exact ⟨c, _, rfl, SqT.of (s4 _ _ hc), rfl, _, _, rfl, _, _, rfl, rfl, rfl, yesT ⟨_, rfl, hN _ _ _ (Same.refl _) rfl (.int _)⟩⟩
    · rw [show rows.filterMap (fun p => some p.2) = rows.map (·.2) by simp] at hu5
      rw [sda_ints hu5] at hD5
      exact ⟨D, _, rfl, SqL.of hD5, fun ns p h1 h2 hp => q _ _ _ (s4.trans (same_new hp)) h1 h2 upd_same⟩

def sp_Turning_period (T : Wd K mg) : Sp := fun vs H Q _ => ∃ (v : V) (n : Int) (rows : List Row), vs = [v] ∧ TurnAt T H v n rows ∧ ∀ d, JM.IsLeast n (JM.Pd (JM.lift n rows)) d → Q (.int d) H
theorem sc_Turning_period : FnScope ["self"] ["self"] (defScope s_Turning_period) := ⟨rfl, rfl, rfl, by decide +kernel, rfl, by decide +kernel, by decide +kernel⟩
-- slots: 0 self
theorem ok_Turning_period (T : Wd K mg) : FnOk P w K mg base CX0 1 T.Turning_period.f T.Turning_period.fd ["self"] (sp_Turning_period T) := by
  refine T.Turning_period.F.ok sc_Turning_period (fun vs H Q E h => ?_) (fun cdv A outer s H vs Q E hr h => ?_)
  · obtain ⟨x, n, rows, rfl, _⟩ := h
    rfl
  · obtain ⟨x, n, rows, rfl, hx, q⟩ := h
    obtain ⟨x, dx, r, per, rfl, hx, hr', R, hd⟩ := hx
    refine ⟨_, PSs.nox (pss_one (ps_ret (pe_fld (pv 0) rfl)))
, ?_⟩
    exact ⟨_, rfl, x, T.Turning.C, dx, _, _, rfl, hx, T.Turning.cl, T.n_Turning__period, rfl, q _ hd⟩

/-- the laps are even -/
def EvenP (n : Int) (rows : List Row) : Prop := n % 2 = 0 ∧ JM.Pd (JM.lift n rows) (n / 2)
def sp_Turning_is_even (T : Wd K mg) : Sp := fun vs H Q _ => ∃ (v : V) (n : Int) (rows : List Row), vs = [v] ∧ TurnAt T H v n rows ∧ EvenP n rows ∧ Q (.bl true) H
theorem sc_Turning_is_even : FnScope ["self"] ["self"] (defScope s_Turning_is_even) := ⟨rfl, rfl, rfl, by decide +kernel, rfl, by decide +kernel, by decide +kernel⟩
-- slots: 0 self
theorem ok_Turning_is_even (T : Wd K mg) : FnOk P w K mg base CX0 1 T.Turning_is_even.f T.Turning_is_even.fd ["self"] (sp_Turning_is_even T) := by
  refine T.Turning_is_even.F.ok sc_Turning_is_even (fun vs H Q E h => ?_) (fun cdv A outer s H vs Q E hr h => ?_)
  · obtain ⟨x, n, rows, rfl, _⟩ := h
    rfl
  · obtain ⟨x, n, rows, rfl, hx, he, q⟩ := h
    obtain ⟨x, dx, r, per, rfl, hx, hr', R, hd⟩ := hx
    have hn := R.lo
    have hp := hd.lo
    have hph := hd.hi
    have hh := R.hi
    refine ⟨_, PSs.nox (pss_one (ps_ret (pe_and (pe_cmpR op_eq (pe_op op_mod (pe_fld (pv 0) rfl) pe_int) pe_int (nomark _)) (pe_one (pe_cmpR op_eq (pe_op op_mod (pe_op op_fdiv (pe_fld (pv 0) rfl) pe_int) (pe_fld (pv 0) rfl)) pe_int (nomark _))))))
, ?_⟩
    have h2 := hd.dvd (JM.lift_pd R) he.2
    refine ⟨_, rfl, x, T.Turning.C, dx, _, _, rfl, hx, T.Turning.cl, T.n_Turning_around, rfl, n, 2, rfl, rfl, by show (0 : Int) < 2; decide, rfl, true, ?_, ?_⟩
    · show V.bl (decide (V.int (n % 2) = V.int 0)) = _
      rw [he.1]; rfl
    · refine iteT ⟨_, rfl, x, T.Turning.C, dx, _, _, rfl, hx, T.Turning.cl, T.n_Turning_around, rfl, n, 2, rfl, rfl, ⟨by decide, by decide⟩, _, rfl, x, T.Turning.C, dx, _, _, rfl, hx, T.Turning.cl, T.n_Turning__period, rfl, n / 2, per, rfl, rfl, by omega, rfl, ?_⟩
      show Q (.bl (decide (V.int (n / 2 % per) = V.int 0))) H
      rw [h2]
      exact q
def sp_is_word : Sp := fun vs H Q _ => ∃ x : PySem.Str, vs = [.str x] ∧ (x = "push" ∨ x = "squeeze") ∧ Q (.bl true) H
theorem sc_is_word : FnScope ["thing"] ["thing"] (defScope s_is_word) := ⟨rfl, rfl, rfl, by decide +kernel, rfl, by decide +kernel, by decide +kernel⟩
-- slots: 0 thing
theorem ok_is_word (T : Wd K mg) : FnOk P w K mg base CX0 1 T.is_word.f T.is_word.fd ["thing"] sp_is_word := by
  refine T.is_word.F.ok sc_is_word (fun vs H Q E h => ?_) (fun cdv A outer s H vs Q E hr h => ?_)
  · obtain ⟨x, rfl, _⟩ := h
    rfl
  · obtain ⟨x, rfl, hx, q⟩ := h
    refine ⟨_, PSs.nox (pss_one (ps_ret (pe_and (pe_callB call_isi (by rfl) T.n_isinstance (by decide +kernel) (pa_cons (pv 0) (pa_cons (pe_bltn (v := .ty "str") (by rfl) T.n_str (by decide +kernel) rfl) pa_nil))) (pe_one (pe_cmpR op_in_seq (pv 0) (pe_glob (v := .ref T.WORDS) (by rfl) T.m_WORDS rfl) rfl)))))
, ?_⟩
    refine ⟨_, rfl, _, _, _, _, true, rfl, .ty _, .base (.str x), kit_ty (by decide +kernel), true, rfl, iteT ⟨_, rfl, T.WORDS, _, rfl, .inr (T.k_WORDS H), rfl, rfl, ?_⟩⟩
    rcases hx with rfl | rfl <;> exact q
def sp_check_even (T : Wd K mg) : Sp := fun vs H Q _ => ∃ (v : V) (n : Int) (rows : List Row), vs = [v] ∧ TurnAt T H v n rows ∧ EvenP n rows ∧ Q .non H
theorem sc_check_even : FnScope ["turning"] ["turning"] (defScope s_check_even) := ⟨rfl, rfl, rfl, by decide +kernel, rfl, by decide +kernel, by decide +kernel⟩
-- slots: 0 turning
theorem ok_check_even (T : Wd K mg) : FnOk P w K mg base CX0 2 T.check_even.f T.check_even.fd ["turning"] (sp_check_even T) := by
  have G_Turning_is_even := ok_Turning_is_even (P := P) (w := w) (base := base) T
  refine T.check_even.F.ok sc_check_even (fun vs H Q E h => ?_) (fun cdv A outer s H vs Q E hr h => ?_)
  · obtain ⟨x, n, rows, rfl, _⟩ := h
    rfl
  · obtain ⟨x, n, rows, rfl, hx, he, q⟩ := h
    obtain ⟨y, dx, r, per, e, hy, hr'⟩ := hx
    refine ⟨_, PSs.nox (pss_one (ps_if (pt_not (pt_val (pe_meth0 (pv 0) T.Turning.cl T.Turning_is_even.m G_Turning_is_even (hr.mono (by decide)) T.Turning_is_even.b .nil pass0 rfl) (fun _ => rfl)))
      (pss_one ps_never)
      pss_nil))
, ?_⟩
    subst e
    exact ⟨_, rfl, y, dx, _, rfl, hy, rfl, _, n, rows, rfl, ⟨y, dx, r, per, rfl, hy, hr'⟩, he, true, rfl, iteF q⟩
end
end J
/-! Plain mathematics: least steps of any group of shifts. -/
namespace JM
structure Grp (Q : Int → Prop) : Prop where
  zero : Q 0
  add : ∀ {s t}, Q s → Q t → Q (s + t)
  neg : ∀ {s}, Q s → Q (-s)
theorem grp_pd (F : Int → Int) : Grp (Pd F) := ⟨Pd.zero F, fun h g => h.add g, fun h => h.neg⟩
theorem Grp.nmul {Q : Int → Prop} (G : Grp Q) {s : Int} (h : Q s) : ∀ k : Nat, Q (k * s)
  | 0 => by simpa using G.zero
  | k + 1 => by
    have := G.add (G.nmul h k) h
    rw [show ((k + 1 : Nat) : Int) * s = k * s + s by rw [show ((k + 1 : Nat) : Int) = (k : Int) + 1 by omega, Int.add_mul, Int.one_mul]]
    exact this
theorem Grp.mul {Q : Int → Prop} (G : Grp Q) {s : Int} (h : Q s) (k : Int) : Q (k * s) := by
  rcases Int.le_total 0 k with c | c
  · have := G.nmul h k.toNat
    rwa [Int.toNat_of_nonneg c] at this
  · have := G.neg (G.nmul h (-k).toNat)
    rw [Int.toNat_of_nonneg (by omega)] at this
    rwa [Int.neg_mul, Int.neg_neg] at this
theorem Grp.least {Q : Int → Prop} (G : Grp Q) : ∀ (m : Nat) (s : Int), 0 < s → s ≤ m → Q s → ∃ e, 0 < e ∧ e ≤ s ∧ Q e ∧ ∀ t, Q t → t % e = 0
  | 0, s, h, h', _ => by omega
  | m + 1, s, h, h', hs => by
    by_cases c : ∃ t, Q t ∧ t % s ≠ 0
    · obtain ⟨t, ht, hc⟩ := c
      have n1 : 0 ≤ t % s := Int.emod_nonneg _ (by omega)
      have n2 : t % s < s := Int.emod_lt_of_pos _ h
      have hp : Q (t % s) := by
        have := G.add ht (G.neg (G.mul hs (t / s)))
        rwa [show t + -(t / s * s) = t % s by have := ediv_split t s; omega] at this
      obtain ⟨e, e1, e2, e3, e4⟩ := G.least m (t % s) (by omega) (by omega) hp
      exact ⟨e, e1, by omega, e3, e4⟩
    · exact ⟨s, h, Int.le_refl _, hs, fun t ht => Decidable.byContradiction fun z => c ⟨t, ht, z⟩⟩
section
variable {n d e : Int} {Q Q' : Int → Prop}
theorem IsLeast.has (h : IsLeast n Q d) (hn : Q n) : Q d := by
  rcases h.yes with e | e
  · rw [e]; exact hn
  · exact e.2
theorem IsLeast.div (h : IsLeast n Q d) (G : Grp Q) (hn : Q n) {s : Int} (hs : Q s) : s % d = 0 := by
  have hd := h.lo
  obtain ⟨e, e1, e2, e3, e4⟩ := G.least d.toNat d (by omega) (by omega) (h.has hn)
  have : e = d := by
    rcases Int.lt_or_eq_of_le e2 with c | c
    · exact absurd e3 (h.least e (by omega) c (e4 n hn))
    · exact c
  rw [← this]
  exact e4 s hs
theorem IsLeast.both (hn : 0 < n) (G : Grp Q) (G' : Grp Q') (p : Q n) (p' : Q' n) (h : IsLeast n Q d) (g : IsLeast n Q' e) : IsLeast n (fun s => Q s ∧ Q' s) ((Nat.lcm d.natAbs e.natAbs : Nat) : Int) := by
  have hd := h.lo
  have he := g.lo
  have dL : d ∣ ((Nat.lcm d.natAbs e.natAbs : Nat) : Int) := Int.natAbs_dvd.mp (Int.natCast_dvd_natCast.mpr (Nat.dvd_lcm_left _ _))
  have eL : e ∣ ((Nat.lcm d.natAbs e.natAbs : Nat) : Int) := Int.natAbs_dvd.mp (Int.natCast_dvd_natCast.mpr (Nat.dvd_lcm_right _ _))
  have univ : ∀ s : Int, Q s → Q' s → ((Nat.lcm d.natAbs e.natAbs : Nat) : Int) ∣ s := fun s h1 h2 => by
    have a := dvd_of_emod (h.div G p h1)
    have b := dvd_of_emod (g.div G' p' h2)
    exact Int.dvd_natAbs.mp (Int.natCast_dvd_natCast.mpr (Nat.lcm_dvd (Int.natAbs_dvd_natAbs.mpr a) (Int.natAbs_dvd_natAbs.mpr b)))
  have pos : 0 < Nat.lcm d.natAbs e.natAbs := Nat.lcm_pos (by omega) (by omega)
  refine ⟨by omega, Int.le_of_dvd hn (univ n p p'), ?_, fun s h1 h2 _ hs => ?_⟩
  · obtain ⟨x, hx⟩ := dL
    obtain ⟨y, hy⟩ := eL
    refine .inr ⟨Int.emod_eq_zero_of_dvd (univ n p p'), ?_, ?_⟩
    · rw [hx, Int.mul_comm]
      exact G.mul (h.has p) x
    · rw [hy, Int.mul_comm]
      exact G'.mul (g.has p') y
  · have := Int.le_of_dvd (by omega) (univ s hs.1 hs.2)
    omega
/-- all of some maps keep the shift -/
def AllPd {α : Type} (F : α → Int → Int) (l : List α) (s : Int) : Prop := ∀ w ∈ l, Pd (F w) s
theorem grp_all {α : Type} (F : α → Int → Int) (l : List α) : Grp (AllPd F l) := ⟨fun w _ => Pd.zero _, fun h g w hw => (h w hw).add (g w hw), fun h w hw => (h w hw).neg⟩
theorem least_none {α : Type} (F : α → Int → Int) (hn : 2 ≤ n) : IsLeast n (AllPd F []) 1 := ⟨by omega, by omega, .inr ⟨Int.emod_one _, fun w h => by cases h⟩, fun s h1 h2 => by omega⟩
theorem least_snoc {α : Type} {F : α → Int → Int} {l : List α} {w : α} (hn : 2 ≤ n) (hp : ∀ x, x ∈ l ++ [w] → Pd (F x) n) (h : IsLeast n (AllPd F l) d) (g : IsLeast n (Pd (F w)) e) : IsLeast n (AllPd F (l ++ [w])) ((Nat.lcm d.natAbs e.natAbs : Nat) : Int) :=
  (IsLeast.both (by omega) (grp_all F l) (grp_pd _) (fun x hx => hp x (List.mem_append_left _ hx)) (hp w (by simp)) h g).congr fun s _ _ _ =>
    ⟨fun ⟨a, b⟩ x hx => by
      rcases List.mem_append.mp hx with q | q
      · exact a x q
      · rw [List.mem_singleton.mp q]; exact b,
     fun a => ⟨fun x hx => a x (List.mem_append_left _ hx), a w (by simp)⟩⟩
end
end JM
/-! Dicts whose keys are texts, as Lean lists. -/
namespace J
open PySem PySem.Spec PyProof.Rows L2
/-- kvs stands for ws, item by item -/
inductive DkAt {β : Type} (R : V → β → Prop) : List (Key × V) → List (PySem.Str × β) → Prop
  | nil : DkAt R [] []
  | cons {k : PySem.Str} {v : V} {b : β} {kvs : List (Key × V)} {ws : List (PySem.Str × β)} : R v b → DkAt R kvs ws → DkAt R ((.inr k, v) :: kvs) ((k, b) :: ws)
theorem valV_cons {κ : Type} [DecidableEq κ] (k' : κ) (v : V) (r : List (κ × V)) (k : κ) : valV ((k', v) :: r) k = if k' = k then some v else valV r k := by
  unfold valV
  rw [List.find?_cons]
  by_cases h : k' = k
  · rw [if_pos h, decide_eq_true h]; rfl
  · rw [if_neg h, decide_eq_false h]
section
variable {β : Type} {R : V → β → Prop}
theorem DkAt.get : ∀ {kvs : List (Key × V)} {ws : List (PySem.Str × β)} {w : PySem.Str} {b : β}, DkAt R kvs ws → JM.look ws w = some b → ∃ u, valV kvs (.inr w) = some u ∧ R u b
  | _, _, w, b, .nil, h => by cases h
  | _, _, w, b, .cons (k := k) r t, h => by
    rw [JM.look_cons] at h
    rw [valV_cons]
    by_cases c : k = w
    · rw [if_pos c] at h
      cases h
      exact ⟨_, by rw [if_pos (by rw [c])], r⟩
    · rw [if_neg c] at h
      rw [if_neg fun z => c (Sum.inr.inj z)]
      exact t.get h
theorem DkAt.no : ∀ {kvs : List (Key × V)} {ws : List (PySem.Str × β)} {w : PySem.Str}, DkAt R kvs ws → JM.look ws w = none → valV kvs (.inr w) = none
  | _, _, w, .nil, h => rfl
  | _, _, w, .cons (k := k) r t, h => by
    rw [JM.look_cons] at h
    rw [valV_cons]
    by_cases c : k = w
    · rw [if_pos c] at h
      cases h
    · rw [if_neg c] at h
      rw [if_neg fun z => c (Sum.inr.inj z)]
      exact t.no h
theorem DkAt.isSome {kvs : List (Key × V)} {ws : List (PySem.Str × β)} {w : PySem.Str} (h : DkAt R kvs ws) : (valV kvs (.inr w)).isSome = (JM.look ws w).isSome := by
  cases e : JM.look ws w with
  | none => rw [h.no e]; rfl
  | some b =>
    obtain ⟨u, hu, _⟩ := h.get e
    rw [hu]; rfl
theorem DkAt.mono {R' : V → β → Prop} (m : ∀ v b, R v b → R' v b) : ∀ {kvs : List (Key × V)} {ws : List (PySem.Str × β)}, DkAt R kvs ws → DkAt R' kvs ws
  | _, _, .nil => .nil
  | _, _, .cons r t => .cons (m _ _ r) (t.mono m)
theorem DkAt.len : ∀ {kvs : List (Key × V)} {ws : List (PySem.Str × β)}, DkAt R kvs ws → kvs.length = ws.length
  | _, _, .nil => rfl
  | _, _, .cons r t => congrArg (· + 1) t.len
theorem DkAt.at : ∀ {kvs : List (Key × V)} {ws : List (PySem.Str × β)} {i : Nat} {k : Key} {v : V}, DkAt R kvs ws → kvs[i]? = some (k, v) → ∃ w b, ws[i]? = some (w, b) ∧ k = .inr w ∧ R v b
  | _, _, i, k, v, .nil, e => by simp at e
  | _, _, 0, k, v, .cons r t, e => by
    cases (Option.some.inj (show some _ = some (k, v) from e))
    exact ⟨_, _, rfl, rfl, r⟩
  | _, _, i + 1, k, v, .cons r t, e => t.at (i := i) (by simpa using e)
theorem DkAt.keys : ∀ {kvs : List (Key × V)} {ws : List (PySem.Str × β)}, DkAt R kvs ws → kvs.map (fun kv => kV kv.1) = ws.map fun w => V.str w.1
  | _, _, .nil => rfl
  | _, _, .cons r t => by rw [List.map_cons, List.map_cons, t.keys]; rfl
theorem DkAt.keys' : ∀ {kvs : List (Key × V)} {ws : List (PySem.Str × β)}, DkAt R kvs ws → kvs.map (·.1) = (ws.map (·.1)).map Sum.inr
  | _, _, .nil => rfl
  | _, _, .cons r t => by rw [List.map_cons, List.map_cons, t.keys', List.map_cons]
theorem DkAt.snoc : ∀ {kvs : List (Key × V)} {ws : List (PySem.Str × β)} {w : PySem.Str} {v : V} {b : β}, DkAt R kvs ws → R v b → DkAt R (kvs ++ [(.inr w, v)]) (ws ++ [(w, b)])
  | _, _, w, v, b, .nil, h => .cons h .nil
  | _, _, w, v, b, .cons r t, h => .cons r (t.snoc h)
theorem DkAt.put {kvs : List (Key × V)} {ws : List (PySem.Str × β)} {w : PySem.Str} {v : V} {b : β} (h : DkAt R kvs ws) (hn : JM.look ws w = none) (r : R v b) : DkAt R (putK kvs (.inr w) v) (ws ++ [(w, b)]) := by
  rw [putK_new v (h.no hn)]
  exact h.snoc r
end
theorem DkAt.lift {β γ : Type} {R : V → β → Prop} {S : V → γ → Prop} {f : β → γ} (m : ∀ v b, R v b → S v (f b)) : ∀ {kvs : List (Key × V)} {ws : List (PySem.Str × β)}, DkAt R kvs ws → DkAt S kvs (ws.map fun w => (w.1, f w.2))
  | _, _, .nil => .nil
  | _, _, .cons r t => .cons (m _ _ r) (t.lift m)
/-- a dict of texts -/
def DAt {β : Type} (R : Hp → V → β → Prop) (H : Hp) (v : V) (ws : List (PySem.Str × β)) : Prop := ∃ d kvs, v = .ref d ∧ H d = some (.dK kvs) ∧ DkAt (R H) kvs ws
theorem DAt.sm {β : Type} {R : Hp → V → β → Prop} {H H' : Hp} {v : V} {ws : List (PySem.Str × β)} (m : ∀ v b, R H v b → R H' v b) (k : Same H H') (h : DAt R H v ws) : DAt R H' v ws := by
  obtain ⟨d, kvs, e, h1, h2⟩ := h
  exact ⟨d, kvs, e, k _ _ h1, h2.mono m⟩
end J
/-! lifted, and the class Part. -/
namespace J
open PySem PySem.Spec PyProof.Rows L2
section
variable {P : Program} {w : World} {K : PySem.W.Frag} {mg : Str → Option Value} {base : Heap}
theorem pick_take (place : Int) (r0 : Row) {rows : List Row} {i : Nat} {p : Row} (e : rows[i]? = some p) : JM.pick place r0 (rows.take (i + 1)) = if p.1 ≤ place then p else JM.pick place r0 (rows.take i) := by
  unfold JM.pick
  rw [List.take_add_one, e, List.foldl_append]
  rfl
def sp_Turning_lifted (T : Wd K mg) : Sp := fun vs H Q _ => ∃ (v : V) (n x : Int) (rows : List Row), vs = [v, .int x] ∧ TurnAt T H v n rows ∧ ∀ H', Same H H' → Q (.int (JM.lift n rows x)) H'
theorem sc_Turning_lifted : FnScope ["self", "x", "lap", "place", "begin", "rest", "row"] ["self", "x"] (defScope s_Turning_lifted) := ⟨rfl, rfl, rfl, by decide +kernel, rfl, by decide +kernel, by decide +kernel⟩
-- slots: 0 self, 1 x, 2 lap, 3 place, 4 begin, 5 rest, 6 row
theorem ok_Turning_lifted (T : Wd K mg) : FnOk P w K mg base CX0 2 T.Turning_lifted.f T.Turning_lifted.fd ["self", "x"] (sp_Turning_lifted T) := by
  have G_is_integer := ok_is_integer (P := P) (w := w) (base := base) T
  refine T.Turning_lifted.F.ok sc_Turning_lifted (fun vs H Q E h => ?_) (fun cdv A outer s H vs Q E hr h => ?_)
  · obtain ⟨v, n, x, rows, rfl, _⟩ := h
    rfl
  · obtain ⟨v, n, x, rows, rfl, ht, q⟩ := h
    obtain ⟨y, dx, r, per, rfl, hy, hr', R, hd⟩ := ht
    obtain ⟨r, us, rfl, hr', hu⟩ := hr'
    have hn := R.lo
    have hh := R.hi
    have hl1 : 1 ≤ rows.length := List.length_pos_iff.mpr R.ne
    obtain ⟨c0, hu0, hc0⟩ := at_row hu (show rows[0]? = some (rows.headD (0, 0)) by cases h : rows with
      | nil => exact absurd h R.ne
      | cons a l => rfl)
    generalize hr0 : rows.headD (0, 0) = r0 at hu0 hc0
    refine ⟨_, PSs.nox (pss_cons (ps_if (pt_not (pt_val (pe_call G_is_integer (hr.mono (by decide)) (by rfl) T.is_integer.g T.is_integer.F.kp T.is_integer.b .nil pass0 (pa_cons (pv 1) pa_nil)) (fun _ => rfl)))
        (pss_one ps_never)
        pss_nil)
      (pss_cons (ps_asg (pe_callB call_divmod (by rfl) T.n_divmod (by decide +kernel) (pa_cons (pv 1) (pa_cons (pe_fld (pv 0) rfl) pa_nil))) (pg_tup (by rfl) (pgs_cons (pg_name (i := 2) sc_Turning_lifted.nd rfl (.inl rfl)) (pgs_cons (pg_name (i := 3) sc_Turning_lifted.nd rfl (.inl rfl)) pgs_nil))))
      (C8.pss_cut (ps_if (pt_cmpR op_lt (pv 3) (pe_ix ix_tup (pe_ix ix_tup (pe_fld (pv 0) rfl) pe_int (fun _ _ => rfl)) pe_int (fun _ _ => rfl)) (nomark _))
        (pss_one (ps_par (i := 2) (j := 3) (by rfl) sc_Turning_lifted.nd rfl rfl (by decide) rfl rfl (pa_cons (pe_op op_sub (pv 2) pe_int) (pa_cons (pe_op op_add (pv 3) (pe_fld (pv 0) rfl)) pa_nil)) (by rfl)))
        pss_nil)
      (pss_cons (ps_asg (pe_ix ix_tup (pe_fld (pv 0) rfl) pe_int (fun _ _ => rfl)) (pg_tup (by rfl) (pgs_cons (pg_name (i := 4) sc_Turning_lifted.nd rfl (.inl rfl)) (pgs_cons (pg_name (i := 5) sc_Turning_lifted.nd rfl (.inl rfl)) pgs_nil))))
      (pss_cons (ps_for PassesOwn.never rfl (pi_tup (pe_fld (pv 0) rfl)) (pg_name (i := 6) sc_Turning_lifted.nd rfl (.inl rfl))
        (pss_one (ps_if (pt_cmpR op_le (pe_ix ix_tup (pv 6) pe_int (fun _ _ => rfl)) (pv 3) (nomark _))
          (pss_one (ps_asg (pv 6) (pg_tup (by rfl) (pgs_cons (pg_name (i := 4) sc_Turning_lifted.nd rfl (.inl rfl)) (pgs_cons (pg_name (i := 5) sc_Turning_lifted.nd rfl (.inl rfl)) pgs_nil)))))
          pss_nil)))
      (pss_one (ps_ret (pe_op op_add (pe_op op_add (pe_op op_mul (pv 2) (pe_fld (pv 0) rfl)) (pv 4)) (pe_op op_mod (pe_op op_sub (pv 5) (pv 4)) (pe_fld (pv 0) rfl))))))))))
, ?_⟩
    have gx := Int.emod_nonneg x (show n ≠ 0 by omega)
    have gx2 := Int.emod_lt_of_pos x (show 0 < n by omega)
    have gs := JM.ediv_split x n
    refine ⟨_, rfl, x, rfl, true, rfl, iteF ?_⟩
    refine ⟨_, rfl, _, rfl, y, T.Turning.C, dx, _, _, rfl, hy, T.Turning.cl, T.n_Turning_around, rfl, x, n, rfl, ⟨by omega, by omega⟩, fun p hp => ⟨p, _, rfl, SqT.of upd_same, rfl, _, _, rfl, _, _, rfl, rfl, ?_⟩⟩
    have s1 : Same H (upd H p (.tup [.int (x / n), .int (x % n)])) := same_new hp
    refine ⟨fun σ H' => Same H H' ∧ ∃ a b, σ = [some (.ref y), some (.int x), some (.int (if x % n < r0.1 then x / n - 1 else x / n)), some (.int (if x % n < r0.1 then x % n + n else x % n)), a, b, none], ?_, fun σ H1 hm => ?_⟩
    · refine ⟨_, rfl, _, rfl, y, T.Turning.C, dx, _, _, rfl, s1 _ _ hy, T.Turning.cl, T.n_Turning_rows, rfl, r, us, 0, _, rfl, rfl, SqT.of (s1 _ _ hr'), atI_of (i := 0) hu0, c0, _, 0, _, rfl, rfl, SqT.of (s1 _ _ hc0), rfl, _, _, rfl, rfl, _, rfl, ite2 (fun c => ?_) fun c => ?_⟩
      · have c' : x % n < r0.1 := of_decide_eq_true c
        refine ⟨_, rfl, _, 1, rfl, rfl, _, rfl, _, rfl, y, T.Turning.C, dx, _, _, rfl, s1 _ _ hy, T.Turning.cl, T.n_Turning_around, rfl, _, _, rfl, rfl, _, _, rfl, s1, none, none, ?_⟩
        rw [if_pos c', if_pos c']
        rfl
      · have c' : ¬ x % n < r0.1 := fun z => c (decide_eq_true z)
        refine ⟨s1, none, none, ?_⟩
        rw [if_neg c', if_neg c']
        rfl
    · obtain ⟨s2, a0, b0, rfl⟩ := hm
      have hlift : JM.lift n rows x = (if x % n < r0.1 then x / n - 1 else x / n) * n + (JM.pick (if x % n < r0.1 then x % n + n else x % n) r0 rows).1 + ((JM.pick (if x % n < r0.1 then x % n + n else x % n) r0 rows).2 - (JM.pick (if x % n < r0.1 then x % n + n else x % n) r0 rows).1) % n := by
        unfold JM.lift
        rw [hr0]
      rw [hlift] at q
      generalize (if x % n < r0.1 then x / n - 1 else x / n) = lap at q ⊢
      generalize (if x % n < r0.1 then x % n + n else x % n) = place at q ⊢
      refine ⟨_, rfl, y, T.Turning.C, dx, _, _, rfl, s2 _ _ hy, T.Turning.cl, T.n_Turning_rows, rfl, r, us, 0, _, rfl, rfl, SqT.of (s2 _ _ hr'), atI_of (i := 0) hu0, c0, _, rfl, SqT.of (s2 _ _ hc0), rfl, _, _, rfl, _, _, rfl, rfl, ?_⟩
      refine ⟨_, rfl, y, T.Turning.C, dx, _, _, rfl, s2 _ _ hy, T.Turning.cl, T.n_Turning_rows, rfl, r, rfl, ⟨us, SqT.of (s2 _ _ hr')⟩, ?_⟩
      refine for_it walk_tup (fun i σ H' => Same H H' ∧ ∃ z, σ = [some (.ref y), some (.int x), some (.int lap), some (.int place), some (.int (JM.pick place r0 (rows.take i)).1), some (.int (JM.pick place r0 (rows.take i)).2), z]) ⟨s2, none, rfl⟩ (fun i σ H' _ p => SqT.of (p.1 _ _ hr')) (fun i v σ H1 H2 hi p yy => ?_) fun σ H3 p => ?_
      · obtain ⟨s3, z, rfl⟩ := p
        obtain ⟨rfl, e2⟩ := yy
        obtain ⟨p, c, hp', rfl, hc⟩ := row_at hu e2
        refine ⟨_, rfl, c, _, 0, _, rfl, rfl, SqT.of (s3 _ _ hc), rfl, _, rfl, _, _, rfl, rfl, _, rfl, ite2 (fun cc => ?_) fun cc => ?_⟩
        · refine ⟨_, rfl, c, _, rfl, SqT.of (s3 _ _ hc), rfl, _, _, rfl, _, _, rfl, rfl, s3, some (.ref c), ?_⟩
          rw [pick_take place r0 hp', if_pos (of_decide_eq_true cc)]
          rfl
        · refine ⟨s3, some (.ref c), ?_⟩
          rw [pick_take place r0 hp', if_neg fun z => cc (decide_eq_true z)]
          rfl
      · obtain ⟨s3, z, rfl⟩ := p
        have hlen : us.length = rows.length := by rw [hu.len, List.length_map]
        rw [hlen, List.take_length]
        have hy3 := s3 _ _ hy
        exact ⟨_, rfl, _, rfl, y, T.Turning.C, dx, _, _, rfl, hy3, T.Turning.cl, T.n_Turning_around, rfl, lap, n, rfl, rfl, .inr ⟨by omega, by omega⟩, _, rfl, _, _, rfl, rfl, _, rfl, _, rfl, _, _, rfl, rfl, _, rfl, y, T.Turning.C, dx, _, _, rfl, hy3, T.Turning.cl, T.n_Turning_around, rfl, _, _, rfl, rfl, by show 0 < n; omega, _, _, rfl, rfl, q _ s3⟩
end
end J
/-! The class Part. -/
namespace J
open PySem PySem.Spec PyProof.Rows L2
/-- the words of a world and their rows -/
structure WsOk (n : Int) (ws : List (PySem.Str × List Row)) : Prop where
  lo : 2 ≤ n
  hi : n ≤ 360
  rows : ∀ w ∈ ws, JM.RowsOk n w.2
  form : (∃ r, ws = [((("push" : PySem.Str)), r)]) ∨ (∃ r, ws = [((("squeeze" : PySem.Str)), r)]) ∨ ∃ r r', ws = [((("push" : PySem.Str)), r), ((("squeeze" : PySem.Str)), r')]
  even : ∀ w ∈ ws, w.1 = "squeeze" → EvenP n w.2
def SpanIs (n : Int) (ws : List (PySem.Str × List Row)) (span : Int) : Prop := JM.IsLeast n (JM.AllPd (fun w : PySem.Str × List Row => JM.lift n w.2) ws) span
theorem WsOk.words {n : Int} {ws : List (PySem.Str × List Row)} (h : WsOk n ws) : (["push", "squeeze"] : List PySem.Str).filterMap (fun w => if (JM.look ws w).isSome = true then some w else none) = ws.map (·.1) := by
  rcases h.form with ⟨r, rfl⟩ | ⟨r, rfl⟩ | ⟨r, r', rfl⟩ <;> rfl
theorem WsOk.ne {n : Int} {ws : List (PySem.Str × List Row)} (h : WsOk n ws) : ws ≠ [] := by
  rcases h.form with ⟨r, rfl⟩ | ⟨r, rfl⟩ | ⟨r, r', rfl⟩ <;> exact fun z => nomatch z
theorem WsOk.nd {n : Int} {ws : List (PySem.Str × List Row)} (h : WsOk n ws) : (ws.map (·.1)).Nodup := by
  rcases h.form with ⟨r, rfl⟩ | ⟨r, rfl⟩ | ⟨r, r', rfl⟩ <;> simp [List.map] <;> decide
theorem WsOk.mem {n : Int} {ws : List (PySem.Str × List Row)} (h : WsOk n ws) {w : PySem.Str} (m : w ∈ ws.map (·.1)) : w = "push" ∨ w = "squeeze" := by
  rcases h.form with ⟨r, rfl⟩ | ⟨r, rfl⟩ | ⟨r, r', rfl⟩ <;> simp at m
  · exact .inl m
  · exact .inr m
  · exact m
theorem WsOk.short {n : Int} {ws : List (PySem.Str × List Row)} (h : WsOk n ws) : ws.length ≤ 2 := by
  rcases h.form with ⟨r, rfl⟩ | ⟨r, rfl⟩ | ⟨r, r', rfl⟩ <;> simp
section
variable {P : Program} {w : World} {K : PySem.W.Frag} {mg : Str → Option Value} {base : Heap}
def PartAt (T : Wd K mg) (H : Hp) (v : V) (n : Int) (ws : List (PySem.Str × List Row)) : Prop := ∃ (a dx : Addr) (d : V), v = .ref a ∧ H a = some (.ins T.Part.C dx [("around", .int n), ("_shown", .non), ("_turnings", d)]) ∧ DAt (fun H v rows => TurnAt T H v n rows) H d ws ∧ WsOk n ws
theorem PartAt.sm {T : Wd K mg} {H H' : Hp} {v : V} {n : Int} {ws : List (PySem.Str × List Row)} (k : Same H H') (h : PartAt T H v n ws) : PartAt T H' v n ws := by
  obtain ⟨a, dx, d, e, h1, h2, h3⟩ := h
  exact ⟨a, dx, d, e, k _ _ h1, h2.sm (fun _ _ h => h.sm k) k, h3⟩
def sp_Part_words (T : Wd K mg) : Sp := fun vs H Q _ => ∃ (v : V) (n : Int) (ws : List (PySem.Str × List Row)), vs = [v] ∧ PartAt T H v n ws ∧ ∀ H' p, Same H H' → LAt PyData.str H' p (ws.map (·.1)) → Q p H'
theorem sc_Part_words : FnScope ["self", "word"] ["self"] (defScope s_Part_words) := ⟨rfl, rfl, rfl, by decide +kernel, rfl, by decide +kernel, by decide +kernel⟩
-- slots: 0 self*, 1 word
theorem ok_Part_words (T : Wd K mg) : FnOk P w K mg base CX0 1 T.Part_words.f T.Part_words.fd ["self"] (sp_Part_words T) := by
  refine T.Part_words.F.ok sc_Part_words (fun vs H Q E h => ?_) (fun cdv A outer s H vs Q E hr h => ?_)
  · obtain ⟨x, n, ws, rfl, _⟩ := h
    rfl
  · obtain ⟨x, n, ws, rfl, hx, q⟩ := h
    obtain ⟨x, dx, d, rfl, hx, ⟨d, kvs, rfl, hd, hk⟩, ok⟩ := hx
    refine ⟨_, PSs.nox (pss_one (ps_ret (pe_lc (own := [("word", 1)]) (g := gName 1) rfl sc_Part_words.nd (pi_tup (pe_glob (v := .ref T.WORDS) (by rfl) T.m_WORDS rfl)) (blkOk_by (own := [("word", 1)]) (N := ["self", "word"]) (sc := defScope s_Part_words) (by decide +kernel)) (fun _ _ _ _ _ => (pg_name (i := 1) sc_Part_words.nd rfl (.inl rfl))) (fun _ _ _ _ _ => pts_one (pt_cmp (pc_din (hu_of hr) (pv 1) (pe_fldK (K := K) (by rfl) (pv 0) rfl)))) (fun _ _ _ _ _ => (pv 1)))))
, ?_⟩
    refine ⟨T.WORDS, rfl, ⟨_, T.k_WORDS _⟩, fun D hD => ?_⟩
    refine lc_pure walk_tup (["push", "squeeze"] : List PySem.Str) (fun w => if (JM.look ws w).isSome = true then some w else none) PyData.str rfl (by decide) hD (fun H' _ => T.k_WORDS H') (fun i z x' H1 H2 N N0 hz s1 y hN hN0 => ?_) fun H5 us5 s4 hD5 hu5 => ?_
    · obtain ⟨rfl, e2⟩ := y
      have e3 : x' = .str z := by
        rcases i with _ | _ | i
        · cases hz; cases e2; rfl
        · cases hz; cases e2; rfl
        · cases hz
      subst e3
      refine ⟨rfl, _, rfl, _, rfl, x, T.Part.C, dx, _, _, rfl, s1 _ _ hx, T.Part.cl, T.n_Part__turnings, rfl, d, valV kvs (.inr z), rfl, .inl ⟨kvs, .inr z, .inl (s1 _ _ hd), rfl, rfl⟩, _, rfl, ?_⟩
      rw [hk.isSome]
      by_cases c : (JM.look ws z).isSome = true
      · rw [c]
        exact iteT ⟨_, rfl, hN _ _ z (Same.refl _) (if_pos c) (.str _)⟩
      · rw [Bool.not_eq_true] at c
        rw [c]
        exact iteF (hN0 (if_neg (by rw [c]; decide)) _ (Same.refl _))
    · exact q _ _ s4 ⟨D, us5, rfl, hD5, by rw [ok.words] at hu5; exact hu5⟩

def sp_Part_period (T : Wd K mg) : Sp := fun vs H Q _ => ∃ (v : V) (n : Int) (ws : List (PySem.Str × List Row)), vs = [v] ∧ PartAt T H v n ws ∧ ∀ H' span, Same H H' → SpanIs n ws span → Q (.int span) H'
theorem sc_Part_period : FnScope ["self", "many", "turning"] ["self"] (defScope s_Part_period) := ⟨rfl, rfl, rfl, by decide +kernel, rfl, by decide +kernel, by decide +kernel⟩
-- slots: 0 self, 1 many, 2 turning
theorem ok_Part_period (T : Wd K mg) : FnOk P w K mg base CX0 3 T.Part_period.f T.Part_period.fd ["self"] (sp_Part_period T) := by
  have G_Turning_period := ok_Turning_period (P := P) (w := w) (base := base) T
  refine T.Part_period.F.ok sc_Part_period (fun vs H Q E h => ?_) (fun cdv A outer s H vs Q E hr h => ?_)
  · obtain ⟨x, n, ws, rfl, _⟩ := h
    rfl
  · obtain ⟨x, n, ws, rfl, hx, q⟩ := h
    obtain ⟨x, dx, d, rfl, hx, ⟨d, kvs, rfl, hd, hk⟩, ok⟩ := hx
    have hlo := ok.lo
    have hhi := ok.hi
    refine ⟨_, PSs.nox (pss_cons (ps_set (i := 1) sc_Part_period.nd rfl (.inl rfl) pe_int)
      (pss_cons (ps_lock (ps_for PassesOwn.never rfl (pi_values (pe_fld (pv 0) rfl)) (pg_name (i := 2) sc_Part_period.nd rfl (.inl rfl))
        (pss_one (ps_set (i := 1) sc_Part_period.nd rfl (.inl rfl) (pe_callBfun cr_lcm (by rfl) T.m_lcm (pa_cons (pv 1) (pa_cons (pe_prop (pv 2) T.Turning.cl T.Turning_period.pr G_Turning_period (hr.mono (by decide)) T.Turning_period.b .nil pass0 rfl) pa_nil)))))))
      (pss_one (ps_ret (pv 1)))))
, ?_⟩
    refine ⟨d, .dK kvs, hd, trivial, fun od => ?_⟩
    have hxL : (upd H d (.frz od (.dK kvs))) x = some (.ins T.Part.C dx [("around", .int n), ("_shown", .non), ("_turnings", .ref d)]) := fz_dK hd _ _ hx (fun _ z => nomatch z) (fun _ z => nomatch z) (fun _ z => nomatch z)
    refine ⟨_, rfl, x, T.Part.C, dx, _, _, rfl, hxL, T.Part.cl, T.n_Part__turnings, rfl, d, od, kvs, rfl, upd_same, ?_⟩
    refine for_it walk_values (fun i σ H' => H' = upd H d (.frz od (.dK kvs)) ∧ ∃ m z, σ = [some (.ref x), some (.int m), z] ∧ JM.IsLeast n (JM.AllPd (fun w : PySem.Str × List Row => JM.lift n w.2) (ws.take i)) m) ⟨rfl, 1, none, rfl, JM.least_none _ hlo⟩ (fun i σ H' _ p => by rw [p.1]; exact upd_same) (fun i v σ H1 H2 hi p yy => ?_) fun σ H3 p => ?_
    · obtain ⟨rfl, m, z, rfl, hm⟩ := p
      obtain ⟨rfl, k, e2⟩ := yy
      obtain ⟨w', rows, e3, _, ht⟩ := hk.at e2
      have ht2 := ht.fz (fz_dK (o := .frz od (.dK kvs)) hd)
      obtain ⟨y, dy, r, per, rfl, hy, hr', R, hp⟩ := ht2
      refine ⟨_, rfl, _, rfl, y, dy, _, rfl, hy, _, n, rows, rfl, ⟨y, dy, r, per, rfl, hy, hr', R, hp⟩, fun e he => ⟨m, e, rfl, by have := hm.hi; have := hm.lo; omega, by have := he.hi; have := he.lo; omega, ?_⟩⟩
      refine ⟨rfl, _, _, rfl, ?_⟩
      have et : ws.take (i + 1) = ws.take i ++ [(w', rows)] := by rw [List.take_add_one, e3]; rfl
      rw [et]
      refine JM.least_snoc (F := fun w : PySem.Str × List Row => JM.lift n w.2) hlo (fun x hx => ?_) hm he
      rw [← et] at hx
      exact JM.lift_pd (ok.rows x (List.mem_of_mem_take hx))
    · obtain ⟨rfl, m, z, rfl, hm⟩ := p
      rw [hk.len, List.take_length] at hm
      exact ⟨upd_same, _, rfl, q _ m (same_lock hd (Same.refl _)) hm⟩

def sp_Part_getitem (T : Wd K mg) : Sp := fun vs H Q _ => ∃ (v : V) (x : PySem.Str) (rows : List Row) (n : Int) (ws : List (PySem.Str × List Row)), vs = [v, .str x] ∧ PartAt T H v n ws ∧ JM.look ws x = some rows ∧ ∀ u, TurnAt T H u n rows → Q u H
theorem sc_Part_getitem : FnScope ["self", "at"] ["self", "at"] (defScope s_Part_getitem) := ⟨rfl, rfl, rfl, by decide +kernel, rfl, by decide +kernel, by decide +kernel⟩
-- slots: 0 self, 1 at
theorem ok_Part_getitem (T : Wd K mg) : FnOk P w K mg base CX0 2 T.Part_getitem.f T.Part_getitem.fd ["self", "at"] (sp_Part_getitem T) := by
  have G_is_word := ok_is_word (P := P) (w := w) (base := base) T
  refine T.Part_getitem.F.ok sc_Part_getitem (fun vs H Q E h => ?_) (fun cdv A outer s H vs Q E hr h => ?_)
  · obtain ⟨x, y, rows, n, ws, rfl, _⟩ := h
    rfl
  · obtain ⟨x, y, rows, n, ws, rfl, hx, hl, q⟩ := h
    obtain ⟨x, dx, d, rfl, hx, ⟨d, kvs, rfl, hd, hk⟩, ok⟩ := hx
    obtain ⟨u, hu, ht⟩ := hk.get hl
    refine ⟨_, PSs.nox (pss_cons (ps_if (PW.pt (pw_or (pt_not (pt_val (pe_call G_is_word (hr.mono (by decide)) (by rfl) T.is_word.g T.is_word.F.kp T.is_word.b .nil pass0 (pa_cons (pv 1) pa_nil)) (fun _ => rfl))) (pw_or1 (pt_cmp (pc_dnotin (hu_of hr) (pv 1) (pe_fld (pv 0) rfl))))))
        (pss_one ps_never)
        pss_nil)
      (pss_one (ps_ret (pe_dget (hu_of hr) (pe_fld (pv 0) rfl) (pv 1) (fun _ _ => rfl)))))
, ?_⟩
    have hw := ok.mem (List.mem_map.mpr ⟨(y, rows), JM.look_some hl, rfl⟩)
    have hg : DGet H d (.str y) (some u) := .inl ⟨kvs, .inr y, .inl hd, rfl, hu.symm⟩
    refine ⟨_, rfl, y, rfl, hw, true, rfl, iteF ⟨_, rfl, _, rfl, x, T.Part.C, dx, _, _, rfl, hx, T.Part.cl, T.n_Part__turnings, rfl, d, _, rfl, hg, _, rfl, iteF ?_⟩⟩
    exact ⟨_, rfl, x, T.Part.C, dx, _, _, rfl, hx, T.Part.cl, T.n_Part__turnings, rfl, _, rfl, d, u, rfl, hg, q u ht⟩

def sp_Part_rests (T : Wd K mg) : Sp := fun vs H Q _ => ∃ (v : V) (x : PySem.Str) (rows : List Row) (n span : Int) (ws : List (PySem.Str × List Row)), vs = [v, .str x] ∧ PartAt T H v n ws ∧ JM.look ws x = some rows ∧ SpanIs n ws span ∧
  ∀ H' p, Same H H' → LAt PyData.int H' p (JM.restsOf (JM.lift n rows) span) → Q p H'
theorem sc_Part_rests : FnScope ["self", "word", "rest"] ["self", "word"] (defScope s_Part_rests) := ⟨rfl, rfl, rfl, by decide +kernel, rfl, by decide +kernel, by decide +kernel⟩
-- slots: 0 self*, 1 word, 2 rest
theorem ok_Part_rests (T : Wd K mg) : FnOk P w K mg base CX0 5 T.Part_rests.f T.Part_rests.fd ["self", "word"] (sp_Part_rests T) := by
  have G_Turning_rests := ok_Turning_rests (P := P) (w := w) (base := base) T
  have G_Part_getitem := ok_Part_getitem (P := P) (w := w) (base := base) T
  have G_Part_period := ok_Part_period (P := P) (w := w) (base := base) T
  refine T.Part_rests.F.ok sc_Part_rests (fun vs H Q E h => ?_) (fun cdv A outer s H vs Q E hr h => ?_)
  · obtain ⟨x, y, rows, n, span, ws, rfl, _⟩ := h
    rfl
  · obtain ⟨v, y, rows, n, span, ws, rfl, hv, hl, hs, q⟩ := h
    have hv' := hv
    obtain ⟨x, dx, d, rfl, hx, ⟨d, kvs, rfl, hd, hk⟩, ok⟩ := hv'
    have R := ok.rows _ (JM.look_some hl)
    refine ⟨_, PSs.nox (pss_one (ps_ret (pe_lc (own := [("rest", 2)]) (g := gName 2) rfl sc_Part_rests.nd (pi_list (pe_meth0 (pe_ownIx (pv 0) (pv 1) T.Part_getitem.m T.Part_getitem_fn G_Part_getitem (hr.mono (by decide)) T.Part_getitem.b (fun _ _ => rfl)) T.Turning.cl T.Turning_rests.m G_Turning_rests (hr.mono (by decide)) T.Turning_rests.b .nil pass0 rfl)) (blkOk_by (own := [("rest", 2)]) (N := ["self", "word", "rest"]) (sc := defScope s_Part_rests) (by decide +kernel)) (fun _ _ _ _ _ => (pg_name (i := 2) sc_Part_rests.nd rfl (.inl rfl))) (fun _ _ _ _ _ => pts_one (pt_cmpR op_lt (pv 2) (pe_prop (pv 0) T.Part.cl T.Part_period.pr G_Part_period (hr.mono (by decide)) T.Part_period.b .nil pass0 rfl) (nomark _))) (fun _ _ _ _ _ => (pv 2)))))
, ?_⟩
    refine ⟨_, rfl, _, rfl, x, dx, _, rfl, hx, _, y, rows, n, ws, rfl, hv, hl, fun u ht => ?_⟩
    have ht' := ht
    obtain ⟨z, dz, r, per, rfl, hz, _⟩ := ht'
    refine ⟨z, dz, _, rfl, hz, rfl, _, n, rows, rfl, ht, fun H1 p zs s1 h1 h2 hp => ?_⟩
    have hzl : zs.length = rows.length := by rw [h1.length_eq, List.length_map]
    refine ⟨p, rfl, ⟨_, SqL.of hp⟩, fun D hD => ?_⟩
    refine lc_pure walk_list zs (fun r => if r < span then some r else none) PyData.int (by simp) (by rw [List.length_map, hzl]; exact Nat.le_trans R.len (by decide)) hD (fun H' s => SqL.of (s _ _ hp)) (fun i z x' H1' H2 N N0 hz s2 yy hN hN0 => ?_) fun H5 us5 s4 hD5 hu5 => ?_
    · obtain ⟨rfl, e2⟩ := yy
      obtain ⟨b, hb, rfl⟩ := at_map e2
      rw [hz] at hb
      cases hb
      have pa := hv.sm (s1.trans s2)
      refine ⟨rfl, _, rfl, _, rfl, x, dx, _, rfl, (s1.trans s2) _ _ hx, _, n, ws, rfl, pa, fun H4 sp2 s3 hs2 => ?_⟩
      have e := hs2.uniq hs
      subst e
      refine ⟨_, _, rfl, rfl, _, rfl, ite2 (fun c => ?_) fun c => ?_⟩
      · exact ⟨_, rfl, hN _ _ z s3 (if_pos (of_decide_eq_true c)) (.int _)⟩
      · exact hN0 (if_neg fun z => c (decide_eq_true z)) _ s3
    · refine q _ _ (s1.trans s4) ⟨D, us5, rfl, hD5, ?_⟩
      rw [← JM.rests_eq R hs.hi h1 h2, ← List.filterMap_eq_filter]
      have e : zs.filterMap (fun r => if r < span then some r else none) = zs.filterMap (Option.guard fun r => decide (r < span)) := by
        congr 1
        funext r
        unfold Option.guard
        by_cases c : r < span <;> simp [c]
      rw [← e]
      exact hu5
end
end J
/-! Part.__init__. -/
namespace J
open PySem PySem.Spec PyProof.Rows L2
section
variable {P : Program} {w : World} {K : PySem.W.Frag} {mg : Str → Option Value} {base : Heap}
def PCase (T : Wd K mg) (H : Hp) (n : Int) (sq pu : V) (ws : List (PySem.Str × List Row)) : Prop :=
  (sq = .non ∧ ∃ r, TurnAt T H pu n r ∧ ws = [((("push" : PySem.Str)), r)]) ∨ (pu = .non ∧ ∃ r, TurnAt T H sq n r ∧ EvenP n r ∧ ws = [((("squeeze" : PySem.Str)), r)]) ∨
  ∃ r r', TurnAt T H pu n r ∧ TurnAt T H sq n r' ∧ EvenP n r' ∧ ws = [((("push" : PySem.Str)), r), ((("squeeze" : PySem.Str)), r')]
theorem TurnAt.rf {T : Wd K mg} {H : Hp} {v : V} {n : Int} {rows : List Row} (h : TurnAt T H v n rows) : ∃ a dx r per, v = .ref a ∧ H a = some (.ins T.Turning.C dx [("around", .int n), ("rows", r), ("_period", .int per)]) := by
  obtain ⟨a, dx, r, per, e, h1, _⟩ := h
  exact ⟨a, dx, r, per, e, h1⟩
theorem TurnAt.sx {T : Wd K mg} {H H' : Hp} {x C dx : Addr} {v : V} {n : Int} {rows : List Row} (h : TurnAt T H v n rows) (hx : H x = some (.ins C dx [])) (k : SameX x H H') : TurnAt T H' v n rows := by
  obtain ⟨a, dy, r, per, e, h1, h2, h3⟩ := h
  refine ⟨a, dy, r, per, e, k _ _ (fun z => ?_) h1, h2.ft (ft_x k hx fun _ z => nomatch z), h3⟩
  rw [z, hx] at h1
  cases h1
theorem WsOk.one {n : Int} {r : List Row} (R : JM.RowsOk n r) : WsOk n [((("push" : PySem.Str)), r)] := ⟨R.lo, R.hi, fun w hw => by rw [List.mem_singleton.mp hw]; exact R, .inl ⟨r, rfl⟩, fun w hw e => by rw [List.mem_singleton.mp hw] at e; exact absurd e (by show ¬ (("push" : PySem.Str) = "squeeze"); decide)⟩
theorem WsOk.sq {n : Int} {r : List Row} (R : JM.RowsOk n r) (e : EvenP n r) : WsOk n [((("squeeze" : PySem.Str)), r)] := ⟨R.lo, R.hi, fun w hw => by rw [List.mem_singleton.mp hw]; exact R, .inr (.inl ⟨r, rfl⟩), fun w hw _ => by rw [List.mem_singleton.mp hw]; exact e⟩
theorem WsOk.two {n : Int} {r r' : List Row} (R : JM.RowsOk n r) (R' : JM.RowsOk n r') (e : EvenP n r') : WsOk n [((("push" : PySem.Str)), r), ((("squeeze" : PySem.Str)), r')] :=
  ⟨R.lo, R.hi, fun w hw => by
    rcases List.mem_cons.mp hw with h | h
    · rw [h]; exact R
    · rw [List.mem_singleton.mp h]; exact R', .inr (.inr ⟨r, r', rfl⟩), fun w hw z => by
    rcases List.mem_cons.mp hw with h | h
    · rw [h] at z; exact absurd z (by show ¬ (("push" : PySem.Str) = "squeeze"); decide)
    · rw [List.mem_singleton.mp h]; exact e⟩
theorem TurnAt.ok {T : Wd K mg} {H : Hp} {v : V} {n : Int} {rows : List Row} (h : TurnAt T H v n rows) : JM.RowsOk n rows := by
  obtain ⟨a, dx, r, per, e, h1, _, h3, _⟩ := h
  exact h3
def sp_Part_init (T : Wd K mg) : Sp := fun vs H Q _ => ∃ (x dx : Addr) (sq pu : V) (n : Int) (ws : List (PySem.Str × List Row)), vs = [.ref x, sq, pu, .non] ∧ H x = some (.ins T.Part.C dx []) ∧ PCase T H n sq pu ws ∧
  ∀ H', SameX x H H' → PartAt T H' (.ref x) n ws → Q .non H'
theorem sc_Part_init : FnScope ["self", "squeeze", "push", "widths"] ["self", "squeeze", "push", "widths"] (defScope s_Part_init) := ⟨rfl, rfl, rfl, by decide +kernel, rfl, by decide +kernel, by decide +kernel⟩
-- slots: 0 self, 1 squeeze, 2 push, 3 widths
theorem ok_Part_init (T : Wd K mg) : FnOk P w K mg base CX0 3 T.Part_init.f T.Part_init.fd ["self", "squeeze", "push", "widths"] (sp_Part_init T) := by
  have G_check_even := ok_check_even (P := P) (w := w) (base := base) T
  refine T.Part_init.F.ok sc_Part_init (fun vs H Q E h => ?_) (fun cdv A outer s H vs Q E hr h => ?_)
  · obtain ⟨x, dx, sq, pu, n, ws, rfl, _⟩ := h
    rfl
  · obtain ⟨x, dx, sq, pu, n, ws, rfl, hx, hc, q⟩ := h
    refine ⟨_, PSs.nox (pss_cons (ps_if (PW.pt (pw_and (pt_cmpR op_isN (pv 1) pe_non (nomark _)) (pw_and1 (pt_cmpR op_isN (pv 2) pe_non (nomark _)))))
        (pss_one ps_never)
        pss_nil)
      (pss_cons (ps_if (PW.pt (pw_and (pt_cmpR op_notN (pv 1) pe_non (nomark _)) (pw_and (pt_cmpR op_notN (pv 2) pe_non (nomark _)) (pw_and1 (pt_cmpR op_ne (pe_fld (pv 1) rfl) (pe_fld (pv 2) rfl) (nomark _))))))
        (pss_one ps_never)
        pss_nil)
      (pss_cons (ps_if (pt_cmpR op_notN (pv 1) pe_non (nomark _))
        (pss_one (ps_expr (pe_call G_check_even (hr.mono (by decide)) (by rfl) T.check_even.g T.check_even.F.kp T.check_even.b .nil pass0 (pa_cons (pv 1) pa_nil))))
        (pss_one (ps_if (pt_cmpR op_notN (pv 3) pe_non (nomark _))
          (pss_one ps_never)
          pss_nil)))
      (pss_cons (ps_fld (pv 0) (pe_ifExp (pt_cmpR op_isN (pv 1) pe_non (nomark _)) (pe_fld (pv 2) rfl) (pe_fld (pv 1) rfl)) rfl)
      (pss_cons (ps_fld (pv 0) (pe_ifExp (pt_cmpR op_isN (pv 3) pe_non (nomark _)) pe_non (pe_never)) rfl)
      (pss_cons (ps_fld (pv 0) pe_dnewK rfl)
      (pss_cons (ps_if (pt_cmpR op_notN (pv 2) pe_non (nomark _))
        (pss_one (ps_dput (hu_of hr) (pe_fld (pv 0) rfl) pe_str (pv 2) rfl))
        pss_nil)
      (pss_one (ps_if (pt_cmpR op_notN (pv 1) pe_non (nomark _))
      (pss_one (ps_dput (hu_of hr) (pe_fld (pv 0) rfl) pe_str (pv 1) rfl))
      pss_nil)))))))))
, ?_⟩
    have fin : ∀ (H' : Hp) (kvs : List (Key × V)), SameX x H H' → (∃ d, H' x = some (.ins T.Part.C dx [("around", .int n), ("_shown", .non), ("_turnings", .ref d)]) ∧ H' d = some (.dK kvs)) → DkAt (fun v rows => TurnAt T H v n rows) kvs ws → WsOk n ws → Q .non H' := fun H' kvs k ⟨d, h1, h2⟩ hk ok =>
      q H' k ⟨x, dx, .ref d, rfl, h1, ⟨d, kvs, rfl, h2, hk.mono fun v rows h => h.sx hx k⟩, ok⟩
    rcases hc with ⟨rfl, r, ht, rfl⟩ | ⟨rfl, r, ht, hev, rfl⟩ | ⟨r, r', ht, ht', hev, rfl⟩
    · obtain ⟨y, dy, ry, py, e, hy⟩ := ht.rf
      subst e
      refine ⟨_, rfl, rfl, _, rfl, iteT ⟨_, rfl, rfl, _, rfl, iteF ?_⟩⟩
      refine ⟨_, rfl, rfl, _, rfl, iteF ?_⟩
      refine ⟨_, rfl, rfl, _, rfl, iteF ⟨_, rfl, rfl, _, rfl, iteF ?_⟩⟩
      refine ⟨_, rfl, rfl, _, rfl, iteT ⟨_, rfl, y, T.Turning.C, dy, _, _, rfl, hy, T.Turning.cl, T.n_Turning_around, rfl, _, rfl, x, T.Part.C, dx, _, rfl, hx, T.Part.cl, T.n_Part_around, by show 0 < 1000; decide, ?_⟩⟩
      refine ⟨_, rfl, rfl, _, rfl, iteT ⟨_, rfl, x, T.Part.C, dx, _, rfl, upd_same, T.Part.cl, T.n_Part__shown, by show 1 < 1000; decide, ?_⟩⟩
      refine fun d hd => ⟨_, rfl, x, T.Part.C, dx, _, rfl, (upd_ne (ne_of_none upd_same hd)).trans upd_same, T.Part.cl, T.n_Part__turnings, by show 2 < 1000; decide, ?_⟩
      have ndx : d ≠ x := fun z => ne_of_none upd_same hd z.symm
      have hd0 : H d = none := (samex_upd.at).free (a := x) ndx hd
      refine ⟨_, rfl, rfl, _, rfl, iteT ⟨_, rfl, _, rfl, x, T.Part.C, dx, _, _, rfl, upd_same, T.Part.cl, T.n_Part__turnings, rfl, d, _, rfl, .inl ⟨[], .inr "push", (upd_ne ndx).trans upd_same, rfl, by decide, rfl⟩, ?_⟩⟩
      refine ⟨_, rfl, rfl, _, rfl, iteF ?_⟩
      exact fin _ _ ((((samex_upd.at).new hd0).at).new hd0) ⟨d, (upd_ne (fun z => ndx z.symm)).trans upd_same, upd_same⟩ (.cons ht .nil) (.one ht.ok)
    · obtain ⟨y, dy, ry, py, e, hy⟩ := ht.rf
      subst e
      refine ⟨_, rfl, rfl, _, rfl, iteF ?_⟩
      refine ⟨_, rfl, rfl, _, rfl, iteT ⟨_, rfl, rfl, _, rfl, iteF ?_⟩⟩
      refine ⟨_, rfl, rfl, _, rfl, iteT ⟨_, rfl, _, n, r, rfl, ht, hev, ?_⟩⟩
      refine ⟨_, rfl, rfl, _, rfl, iteF ⟨_, rfl, y, T.Turning.C, dy, _, _, rfl, hy, T.Turning.cl, T.n_Turning_around, rfl, _, rfl, x, T.Part.C, dx, _, rfl, hx, T.Part.cl, T.n_Part_around, by show 0 < 1000; decide, ?_⟩⟩
      refine ⟨_, rfl, rfl, _, rfl, iteT ⟨_, rfl, x, T.Part.C, dx, _, rfl, upd_same, T.Part.cl, T.n_Part__shown, by show 1 < 1000; decide, ?_⟩⟩
      refine fun d hd => ⟨_, rfl, x, T.Part.C, dx, _, rfl, (upd_ne (ne_of_none upd_same hd)).trans upd_same, T.Part.cl, T.n_Part__turnings, by show 2 < 1000; decide, ?_⟩
      have ndx : d ≠ x := fun z => ne_of_none upd_same hd z.symm
      have hd0 : H d = none := (samex_upd.at).free (a := x) ndx hd
      refine ⟨_, rfl, rfl, _, rfl, iteF ?_⟩
      refine ⟨_, rfl, rfl, _, rfl, iteT ⟨_, rfl, _, rfl, x, T.Part.C, dx, _, _, rfl, upd_same, T.Part.cl, T.n_Part__turnings, rfl, d, _, rfl, .inl ⟨[], .inr "squeeze", (upd_ne ndx).trans upd_same, rfl, by decide, rfl⟩, ?_⟩⟩
      exact fin _ _ ((((samex_upd.at).new hd0).at).new hd0) ⟨d, (upd_ne (fun z => ndx z.symm)).trans upd_same, upd_same⟩ (.cons ht .nil) (.sq ht.ok hev)
    · obtain ⟨y, dy, ry, py, e, hy⟩ := ht.rf
      subst e
      obtain ⟨z, dz, rz, pz, e, hz⟩ := ht'.rf
      subst e
      refine ⟨_, rfl, rfl, _, rfl, iteF ?_⟩
      refine ⟨_, rfl, rfl, _, rfl, iteT ⟨_, rfl, rfl, _, rfl, iteT ⟨_, rfl, z, T.Turning.C, dz, _, _, rfl, hz, T.Turning.cl, T.n_Turning_around, rfl, _, rfl, y, T.Turning.C, dy, _, _, rfl, hy, T.Turning.cl, T.n_Turning_around, rfl, rfl, _, rfl, iteNS rfl ?_⟩⟩⟩
      refine ⟨_, rfl, rfl, _, rfl, iteT ⟨_, rfl, _, n, r', rfl, ht', hev, ?_⟩⟩
      refine ⟨_, rfl, rfl, _, rfl, iteF ⟨_, rfl, z, T.Turning.C, dz, _, _, rfl, hz, T.Turning.cl, T.n_Turning_around, rfl, _, rfl, x, T.Part.C, dx, _, rfl, hx, T.Part.cl, T.n_Part_around, by show 0 < 1000; decide, ?_⟩⟩
      refine ⟨_, rfl, rfl, _, rfl, iteT ⟨_, rfl, x, T.Part.C, dx, _, rfl, upd_same, T.Part.cl, T.n_Part__shown, by show 1 < 1000; decide, ?_⟩⟩
      refine fun d hd => ⟨_, rfl, x, T.Part.C, dx, _, rfl, (upd_ne (ne_of_none upd_same hd)).trans upd_same, T.Part.cl, T.n_Part__turnings, by show 2 < 1000; decide, ?_⟩
      have ndx : d ≠ x := fun z => ne_of_none upd_same hd z.symm
      have hd0 : H d = none := (samex_upd.at).free (a := x) ndx hd
      refine ⟨_, rfl, rfl, _, rfl, iteT ⟨_, rfl, _, rfl, x, T.Part.C, dx, _, _, rfl, upd_same, T.Part.cl, T.n_Part__turnings, rfl, d, _, rfl, .inl ⟨[], .inr "push", (upd_ne ndx).trans upd_same, rfl, by decide, rfl⟩, ?_⟩⟩
      refine ⟨_, rfl, rfl, _, rfl, iteT ⟨_, rfl, _, rfl, x, T.Part.C, dx, _, _, rfl, (upd_ne (fun z => ndx z.symm)).trans upd_same, T.Part.cl, T.n_Part__turnings, rfl, d, _, rfl, .inl ⟨_, .inr "squeeze", upd_same, rfl, by show 1 < sizeLine; decide, rfl⟩, ?_⟩⟩
      exact fin _ _ (((((samex_upd.at).new hd0).at).new hd0).new hd0) ⟨d, (upd_ne (fun z => ndx z.symm)).trans ((upd_ne (fun z => ndx z.symm)).trans upd_same), upd_same⟩ (.cons ht (.cons ht' .nil)) (.two ht.ok ht'.ok hev)
end
end J
/-! Comprehensions that fill an object of any kind: one core; dicts with tuple keys over it. -/
namespace J
open PySem PySem.Spec PyProof.Rows L2

/-- the reading: the new object stands as u0 D; ts says what one kept turn does to it -/
def tCg (u0 : Addr → HO) (wi : TI) (g : TG) (tt : TT) (ts : L2.St → Hp → Addr → (Hp → Prop) → Prop) (vs : List Nat) : TE := fun σ H Q => wi σ H fun J H1 => ∀ D, H1 D = none → ∃ W : Nat → Nat → Hp → Prop, (∃ m, W 0 m (upd H1 D (u0 D))) ∧ ∀ i m H, W i m H →
  (J.stop i H ∧ Q (.ref D) H) ∨ (J.go i H ∧ ∃ Nx : Hp → Prop, (∀ H', Nx H' → ∃ m', m' < m ∧ W (i + 1) m' H') ∧ ∀ x H', J.yld i H x H' → g x (wipe σ vs) H' fun σ2 H2 => wipe σ2 vs = wipe σ vs ∧ tt σ2 H2 fun b H3 =>
    if b = true then ts σ2 H3 D Nx else Nx H3)
/-- one store of a turn, as the model has it: K follows -/
abbrev Stores := Env → Addr → (Shared → Prop) → (Value → Shared → Prop) → Shared → Prop
/-- the loop of such a comprehension turns by its turn -/
def Loops (prog : Program) (w : World) (A : Around) (comp target : Expr) (ifs : List Expr) (S : Stores) : Prop :=
  ∀ (R : Result → Shared → Prop) (s : Shared) (it : Value) (D : Addr) (env : Env) (I : Nat → Shared → Prop),
    (∀ n s, I n s → wpAny (model prog w) A (pyNext it) (fun r s₁ => match r with
      | none => R (.ok .next) s₁
      | some v => wpAny (model prog w) A (letOwnedTupleGo target it v) (fun _ s₂ => wpAny (model prog w) A (assign target env v) (fun _ s₃ =>
          wpAny (model prog w) A (forIn ifs true fun c r => if r = true then do let ok ← isTrue c env (eval c env); pure (ForInStep.yield ok) else pure (ForInStep.yield r)) (fun ok s₄ =>
            if ok = true then S env D (fun s' => ∃ m, m < n ∧ I m s') (notedBy (model prog w) A env fun e s' => R (.error e) s') s₄ else ∃ m, m < n ∧ I m s₄)
            (notedBy (model prog w) A env fun e s' => R (.error e) s') s₃) (notedBy (model prog w) A env fun e s' => R (.error e) s') s₂) (notedBy (model prog w) A env fun e s' => R (.error e) s') s₁)
      (notedBy (model prog w) A env fun e s' => R (.error e) s') s) →
    ∀ n, I n s → codeAny (model prog w) A (.compLoop comp 0 it (.ref D) env) R s
/-- .. and is begun by its iterator, asked once more -/
def Begins' (prog : Program) (w : World) (A : Around) (comp : Expr) : Prop :=
  ∀ (R : Result → Shared → Prop) (s : Shared) (it acc : Value) (env : Env), codeAny (model prog w) A (.compLoop comp 0 it acc env) R s →
    wpAny (model prog w) A (pyIter it) (fun it' s' => codeAny (model prog w) A (.compLoop comp 0 it' acc env) R s') (notedBy (model prog w) A env fun x s' => R (.error x) s') s → codeAny (model prog w) A (.compStart comp 0 it acc env) R s
section
variable {X : Cx}
theorem cg_core {pins : List (Addr × Obj)} {s : Shared} {σ : L2.St} {H : Hp} {Q : VK} {comp tg iter : Expr} {ifs : List Expr} {scope : Scope} {own : List (Str × Nat)} {pos' : Pos} {wi : TI} {g : TG} {tt : TT} {ts : L2.St → Hp → Addr → (Hp → Prop) → Prop} {use : Option (Value → Sem Unit)} {Qf : Value → Shared → Prop}
    {u0 : Addr → HO} {o0 : Obj} {newA : Sem Value} {S : Stores} (hcl : clausesOf comp = [⟨tg, iter, ifs, 0⟩])
    (hmk : ∀ (s : Shared) (Q : Value → Shared → Prop) (E : Value → Shared → Prop), Q (.ref s.heap.objs.size) { s with heap := s.heap.push o0 } → wpAny (model X.prog X.w) X.A newA Q E s)
    (hok : ∀ (H : Hp) (s : Shared) (σ : L2.St), Inv X pins σ H s → ObjOk X.prog X.w (upd H s.heap.objs.size (u0 s.heap.objs.size)) (s.heap.push o0) s.heap.objs.size (u0 s.heap.objs.size))
    (hloop : Loops X.prog X.w X.A comp tg ifs S) (hbeg : Begins' X.prog X.w X.A comp)
    (hst : ∀ (s3 : Shared) (H3 : Hp) (C : Addr) (cl : List (Str × Addr)) (fp : List Addr) (pn : List (Addr × Obj)) (σ8 : L2.St) (H9 : Hp) (s9 : Shared) (D : Addr) (N : Hp → Prop) (Kt : Shared → Prop) (E : Value → Shared → Prop), Inv (X.blk s3 H3 scope (compEnvC scope cl C X.env) fp) pn σ8 H9 s9 → ts σ8 H9 D N →
      (∀ s' H', Inv (X.blk s3 H3 scope (compEnvC scope cl C X.env) fp) pn σ8 H' s' → N H' → Kt s') → S (compEnvC scope cl C X.env) D Kt E s9)
    (hc : X.calm = true) (hN : X.N.Nodup) (I : Inv X pins σ H s) (hi : PI X tg iter wi) (ok : BlkOk X.N X.env.scope scope own)
    (hg : ∀ (s : Shared) (H : Hp) (C : Addr) (cl : List (Str × Addr)) (fp : List Addr), PG (X.blk s H scope (compEnvC scope cl C X.env) fp) tg g) (ht : ∀ (s : Shared) (H : Hp) (C : Addr) (cl : List (Str × Addr)) (fp : List Addr), PTs (X.blk s H scope (compEnvC scope cl C X.env) fp) ifs tt)
    (hs : ∀ x, foldedSetIterable iter X.env x = pure x) (h : tCg u0 wi g tt ts (own.map (·.2)) σ H Q)
    (hRR : ∀ D C s' m H', Inv X pins σ H' s' → Q (.ref D) H' → s'.heap.Ns C m → FpOk X pins H' C → compPost (model X.prog X.w) X.A X.xe use Qf (.ref D) C (.ok .next) s') :
    wpAny (model X.prog X.w) X.A (comprehension comp scope X.env pos' newA false (eval iter X.env) use) Qf X.xe s := by
  have hfree : ∀ y ∈ scope.names, y.2 = .free → ∃ c, X.env.cells.lookup y.1 = some c := fun y hy e => (ok.free y hy e).elim (fun k => I.ok.has _ (.inl k)) fun k => I.ok.has _ (.inr k)
  refine wpAny_comprehension_free (use := use) hcl hs (closure_ok hfree) ok.kind (fun y hy e => by rw [ok.uniq y hy, e]) (thn (hi.run pins s σ H _ I h) fun xv s1 hx => thn hx fun itv s2 h2 => ?_)
  obtain ⟨it, fp, tn, J, H2, rfl, I2, T, st2, f2, q⟩ := h2
  refine hmk s2 _ _ (newEnv_comp ?_)
  have hDn : H2 s2.heap.objs.size = none := I2.hok.fresh (Nat.le_refl _)
  obtain ⟨W, ⟨m0, w0⟩, turn⟩ := q _ hDn
  have I3 : Inv X pins σ (upd H2 s2.heap.objs.size (u0 s2.heap.objs.size)) { s2 with heap := s2.heap.push o0 } := I2.laid (t' := s2.toks) (fun b o e => Heap.get?_push_of_some _ e) (Nat.le_refl _) (hok H2 s2 σ I2)
  have sz : ∀ b ∈ fp, b < s2.heap.objs.size := fun b hb => by
    obtain ⟨o, e, _⟩ := T.obj _ _ st2 b hb
    exact Heap.lt_size e
  have f3 : ∀ b ∈ fp, FpOk X pins (upd H2 s2.heap.objs.size (u0 s2.heap.objs.size)) b ∧ b < (s2.heap.push o0).objs.size := fun b hb =>
    ⟨⟨(upd_ne (Nat.ne_of_lt (sz b hb))).trans (f2 b hb).1, (f2 b hb).2⟩, by rw [Heap.size_push]; exact Nat.lt_succ_of_lt (sz b hb)⟩
  have st3 : tn 0 (s2.heap.push o0) := T.keep _ _ _ st2 fun b _ o e => Heap.get?_push_of_some _ e
  generalize hD : s2.heap.objs.size = D at *
  generalize hs3 : ({ s2 with heap := s2.heap.push o0 } : Shared) = s3 at *
  have h3 : s3.heap = s2.heap.push o0 := by rw [← hs3]
  rw [← h3] at f3 st3
  generalize hH3 : upd H2 D (u0 D) = H3 at *
  have I4 := block_start I3 ok hN f3
  have pg := hg s3 H3 s3.heap.objs.size (cellsFrom (s3.heap.objs.size + 1) scope.names (cloFrom X.env.cells scope.names [])) fp
  have pt := ht s3 H3 s3.heap.objs.size (cellsFrom (s3.heap.objs.size + 1) scope.names (cloFrom X.env.cells scope.names [])) fp
  have ps := hst s3 H3 s3.heap.objs.size (cellsFrom (s3.heap.objs.size + 1) scope.names (cloFrom X.env.cells scope.names [])) fp
  show codeAny _ _ (.compStart comp 0 (.ref it) (.ref D) (compEnvC scope (cellsFrom (s3.heap.objs.size + 1) scope.names (cloFrom X.env.cells scope.names [])) s3.heap.objs.size X.env)) (compPost (model X.prog X.w) X.A X.xe use Qf (.ref D) s3.heap.objs.size) _
  generalize hce : compEnvC scope (cellsFrom (s3.heap.objs.size + 1) scope.names (cloFrom X.env.cells scope.names [])) s3.heap.objs.size X.env = ce at I4 pg pt ps ⊢
  have cL : ce.locals = s3.heap.objs.size := by subst hce; rfl
  generalize hs4 : ({ s3 with heap := pushCells (s3.heap.push { cls := .type "dict", data := .dict #[] }) scope.names } : Shared) = s4 at I4 ⊢
  have st4 : tn 0 s4.heap := T.keep _ _ _ st3 fun b _ o e => by rw [← hs4]; exact pushCells_keeps _ _ _ _ (Heap.get?_push_of_some _ e)
  have fpk : ∀ {σ' : L2.St} {H' : Hp} {s' : Shared}, Inv (X.blk s3 H3 scope ce fp) [] σ' H' s' → (∀ b ∈ fp, H' b = none) → ∀ b ∈ fp, FpOk (X.blk s3 H3 scope ce fp) [] H' b := fun {σ' H' s'} I' hn b hb =>
    ⟨hn b hb, (I'.ok.exf b hb).1, I'.ok.exfs b hb, .inl hb, fun x c e => (I'.ok.exf b hb).2 x c e, fun p hp => by cases hp⟩
  have loop : codeAny (model X.prog X.w) X.A (.compLoop comp 0 (.ref it) (.ref D) ce) (compPost (model X.prog X.w) X.A X.xe use Qf (.ref D) s3.heap.objs.size) s4 := by
    refine hloop _ s4 (.ref it) D ce (fun n s' => ∃ i H', Inv (X.blk s3 H3 scope ce fp) [] (wipe σ (own.map (·.2))) H' s' ∧ tn i s'.heap ∧ (∀ b ∈ fp, H' b = none) ∧ W i n H') ?_ m0 ⟨0, H3, I4, st4, fun b hb => (f3 b hb).1.1, w0⟩
    rintro n s5 ⟨i, H5, I5, st5, n5, w5⟩
    rcases turn i n H5 w5 with ⟨stop, qq⟩ | ⟨go, Nx, hNx, step⟩
    · refine thnF (T.done (X.blk s3 H3 scope ce fp) rfl rfl rfl hc i [] s5 _ H5 (fun _ _ => False) I5 (fpk I5 n5) st5 stop) fun r s6 ⟨hr, I6⟩ => ?_
      subst hr
      have I7 : Inv X pins σ H5 s6 := I3.call' (ch := fp) I6.os I6.base I6.hok I6.bare fun b hb => ⟨(f3 b hb).1.2.2.2.1, (f3 b hb).1.2.1, (f3 b hb).1.2.2.2.2.1, (f3 b hb).1.2.2.2.2.2⟩
      have nC : H5 ce.locals = none := I6.free
      obtain ⟨m, hn, _⟩ := I6.loc
      have hn' : s6.heap.Ns ce.locals m := hn
      rw [cL] at hn' nC
      exact hRR D _ s6 m H5 I7 qq hn' (I3.fpOk (Nat.le_refl _) nC)
    · refine thnF (T.item (X.blk s3 H3 scope ce fp) rfl rfl rfl hc i [] s5 _ H5 (fun _ _ => False) I5 (fpk I5 n5) st5 go) fun r s6 ⟨u, hr, h6⟩ => ?_
      subst hr
      refine thnF h6 fun _ s7 ⟨x, H7, I7, r7, y7, st7, n7⟩ => ?_
      refine thnF (pg.run _ s7 _ H7 x u _ (I7.pinned (fpk I7 n7) (T.obj _ _ st7)) r7 (step x H7 y7)) fun _ s8 ⟨σ8, H8, I8, hw8, q8⟩ => ?_
      refine thnF (pt.run _ s8 σ8 H8 _ I8 q8) fun b s9 ⟨H9, I9, q9⟩ => ?_
      have fin : ∀ (s' : Shared) (H' : Hp), Inv (X.blk s3 H3 scope ce fp) ([] ++ pinsAt fp s7.heap) σ8 H' s' → Nx H' → ∃ m, m < n ∧ ∃ i H', Inv (X.blk s3 H3 scope ce fp) [] (wipe σ (own.map (·.2))) H' s' ∧ tn i s'.heap ∧ (∀ b ∈ fp, H' b = none) ∧ W i m H' := fun s' H' I' nx => by
        obtain ⟨m', hm, w'⟩ := hNx H' nx
        have stay : ∀ b ∈ fp, ∀ o, s7.heap.get? b = some o → s'.heap.get? b = some o ∧ H' b = none := fun b hb o e => by
          obtain ⟨z1, z2, _⟩ := I'.pin (b, o) (List.mem_append_right _ (List.mem_append_right _ (mem_pinsAt hb e)))
          exact ⟨z1, z2⟩
        refine ⟨m', hm, i + 1, H', (I'.unpinned (pins := [])).weak (by rw [← hw8, wipe_length]) (fun j v e => (wipe_some (by rw [hw8]; exact e)).1), T.keep _ _ _ st7 fun b hb o e => (stay b hb o e).1, fun b hb => ?_, w'⟩
        obtain ⟨o, e, _⟩ := T.obj _ _ st7 b hb
        exact (stay b hb o e).2
      cases b with
      | false =>
        rw [if_neg Bool.false_ne_true] at q9 ⊢
        exact fin _ _ I9 q9
      | true =>
        rw [if_pos rfl] at q9 ⊢
        rw [← hce] at I9 fin ⊢
        exact hst _ _ _ _ _ _ _ _ _ _ _ _ _ I9 q9 fin
  exact hbeg _ _ _ _ _ loop (T.self X.A 0 _ _ _ st4 loop)

/-! ### {k: v for ..}, the keys tuples of ints and texts -/
def sDcT (kx vx : Expr) (prog : Program) (w : World) (A : Around) : Stores := fun env D Kt E s => wpAny (model prog w) A (eval kx env) (fun kv s₄ => wpAny (model prog w) A (eval vx env) (fun vv s₅ => wpAny (model prog w) A (dictSet D kv vv) (fun _ s₆ => Kt s₆) E s₅) E s₄) E s
def tDcT (tk tv : TE) : L2.St → Hp → Addr → (Hp → Prop) → Prop := fun σ H D N => tk σ H fun y H1 => tv σ H1 fun z H2 => ∃ kvs k b, y = .ref b ∧ H2 b = some (.tup (k.map kV)) ∧ H2 D = some (.dT kvs) ∧ kvs.length < sizeLine ∧ N (upd H2 D (.dT (putK kvs k z)))
theorem d_dictSetT {pins : List (Addr × Obj)} {σ : L2.St} {H : Hp} {s : Shared} {A : Around} {E : Value → Shared → Prop} {D b : Addr} {kvs : List (List Key × V)} {k : List Key} {v : V} {r : Value} {Q : Unit → Shared → Prop} (hu : A.units + 1 < cLine) (I : Inv X pins σ H s) (hD : H D = some (.dT kvs)) (hb : H b = some (.tup (k.map kV)))
    (hz : kvs.length < sizeLine) (rv : RelV v r) (h : ∀ s', Inv X pins σ (upd H D (.dT (putK kvs k v))) s' → Q () s') : wpAny (model X.prog X.w) A (dictSet D (.ref b) r) Q E s := by
  obtain ⟨z, hd, xs, rel, dd⟩ := dt_of I.hok hD
  have hl : (putK kvs k v).length ≤ sizeLine := by have := length_putK kvs k v; omega
  refine wpAny_dictSet_heap (knd := tupleKind (mixKind X.prog X.w)) (hsz := by rw [← Paired.length rel]; exact z) (show A.units < cLine by omega) (key_of I.hok hb) dd fun h' dd' hs => h _ ?_
  obtain ⟨q, es, ep, hq, h2, h3, h4, _, h5⟩ := dd'
  refine d_write I (by rw [hD]; exact True.intro) hs ⟨q, hq⟩ ⟨hl, hd, _, (rel.put k hb rv).keeps fun c ys ec => ?_, q, es, ep, hq, h2, h3, h4, h5⟩
  exact (upd_ne (ne_of ec hD (fun z => nomatch z))).trans ec
theorem pe_dcT {kx vx tg iter : Expr} {ifs : List Expr} {scope : Scope} {own : List (Str × Nat)} {pos : Pos} {wi : TI} {g : TG} {tt : TT} {tk tv : TE} (hu : X.A.units + 1 < cLine) (hc : X.calm = true) (hN : X.N.Nodup) (hi : PI X tg iter wi) (ok : BlkOk X.N X.env.scope scope own)
    (hg : ∀ (s : Shared) (H : Hp) (C : Addr) (cl : List (Str × Addr)) (fp : List Addr), PG (X.blk s H scope (compEnvC scope cl C X.env) fp) tg g) (ht : ∀ (s : Shared) (H : Hp) (C : Addr) (cl : List (Str × Addr)) (fp : List Addr), PTs (X.blk s H scope (compEnvC scope cl C X.env) fp) ifs tt)
    (hk : ∀ (s : Shared) (H : Hp) (C : Addr) (cl : List (Str × Addr)) (fp : List Addr), PE (X.blk s H scope (compEnvC scope cl C X.env) fp) kx tk)
    (he : ∀ (s : Shared) (H : Hp) (C : Addr) (cl : List (Str × Addr)) (fp : List Addr), PE (X.blk s H scope (compEnvC scope cl C X.env) fp) vx tv) (hs : ∀ x, foldedSetIterable iter X.env x = pure x := by intro _; rfl) :
    PE X (.DictComp kx vx [⟨tg, iter, ifs, 0⟩] scope pos) (tCg (fun _ => .dT []) wi g tt (tDcT tk tv) (own.map (·.2))) := by
  refine ⟨fun pins s σ H Q I h => ?_⟩
  rw [arm_eval_DictComp]
  refine cg_core (S := sDcT kx vx X.prog X.w X.A) (o0 := { cls := .type "dict", data := .dict #[] }) rfl (fun s Q E q => wpAny_newObj_type q) (fun H' s' σ' I' => dt_empty s'.heap I'.big)
    (fun R s it D env I turn n h => compLoop_anyD I turn n h) (fun R s it acc env h0 h1 => codeAny_compStart_dict h0 h1) (fun s3 H3 C cl fp pn σ8 H9 s9 D N Kt E I9 q fin => ?_) hc hN I hi ok hg ht hs h fun D C s' m H' I' q hn f => ⟨m, hn, fun h'' sb => ?_⟩
  · refine thnF ((hk s3 H3 C cl fp).run _ s9 σ8 H9 _ I9 q) fun u s10 ⟨y, H10, I10, r10, q10⟩ => ?_
    refine thnF ((he s3 H3 C cl fp).run _ s10 σ8 H10 _ I10 q10) fun u2 s11 ⟨z, H11, I11, r11, kvs, k, b, ey, hb, hD, hz, nx⟩ => ?_
    subst ey
    have eu : u = Value.ref b := r10
    subst eu
    exact d_dictSetT (X := X.blk s3 H3 scope (compEnvC scope cl C X.env) fp) hu I11 hD hb hz r11 fun s12 I12 => fin s12 _ I12 nx
  · obtain ⟨f0, f1, f2, f3, f4, f5⟩ := f
    exact ⟨.ref D, H', I'.turned (t' := s'.toks) (fun b o hb e => (sb.2 b hb).trans e) f0 f1 f3 f4 f5, rfl, q⟩
end
/-! x = {k: v for ..}: the store stands within the block -/
section
variable {X : Cx}
theorem sw_dict {kx vx : Expr} {gens : List Comprehension} {sc2 : Scope} {p1 p2 : Pos} {nm : PySem.Str} {ln : Nat} {ev : Env} (h1 : ev.scope.kind = .function) (h2 : ev.scope.names.lookup nm = some .local) (h3 : (p2.line == p1.line) = true)
    (h4 : (sc2.names.any fun (n, k) => n == nm && (k == .local || k == .cell)) = false) : swapsWith (.DictComp kx vx gens sc2 p1) (some (.Name nm p2)) ln ev = pure true := by
  have e1 : ev.kindOf nm = some .local := h2
  have e2 : ev.blockKind = .function := by
    unfold Env.blockKind
    rw [h1]
    rfl
  unfold swapsWith
  simp only [e2, e1, h4, Expr.pos, h3]
  rfl
theorem ps_setDcT {i : Nat} {nm : PySem.Str} {p2 : Pos} {kx vx tg iter : Expr} {ifs : List Expr} {sc2 : Scope} {own : List (Str × Nat)} {p1 p3 : Pos} {wi : TI} {g : TG} {tt : TT} {tk tv : TE} (hu : X.A.units + 1 < cLine) (hc : X.calm = true) (hN : X.N.Nodup) (hy : X.N[i]? = some nm) (hyl : X.env.scope.names.lookup nm = some .local)
    (hsw : swapsWith (.DictComp kx vx [⟨tg, iter, ifs, 0⟩] sc2 p1) (some (.Name nm p2)) p3.line X.env = pure true) (hi : PI X tg iter wi) (ok : BlkOk X.N X.env.scope sc2 own)
    (hg : ∀ (s : Shared) (H : Hp) (C : Addr) (cl : List (Str × Addr)) (fp : List Addr), PG (X.blk s H sc2 (compEnvC sc2 cl C X.env) fp) tg g) (ht : ∀ (s : Shared) (H : Hp) (C : Addr) (cl : List (Str × Addr)) (fp : List Addr), PTs (X.blk s H sc2 (compEnvC sc2 cl C X.env) fp) ifs tt)
    (hk : ∀ (s : Shared) (H : Hp) (C : Addr) (cl : List (Str × Addr)) (fp : List Addr), PE (X.blk s H sc2 (compEnvC sc2 cl C X.env) fp) kx tk)
    (he : ∀ (s : Shared) (H : Hp) (C : Addr) (cl : List (Str × Addr)) (fp : List Addr), PE (X.blk s H sc2 (compEnvC sc2 cl C X.env) fp) vx tv) (hs : ∀ x, foldedSetIterable iter X.env x = pure x := by intro _; rfl) :
    PS X (.Assign [.Name nm p2] (.DictComp kx vx [⟨tg, iter, ifs, 0⟩] sc2 p1) p3) (tAsg (tCg (fun _ => .dT []) wi g tt (tDcT tk tv) (own.map (·.2))) (gName i)) := by
  refine ⟨fun pins s σ H En I h => ?_⟩
  rw [exec_Assign_Name_used _ _ _ _ hsw]
  refine wpAny_bind (wpAny_standAt (wpAny_bind ?_))
  change wpAny _ X.A (do let _ ← comprehension (.DictComp kx vx [⟨tg, iter, ifs, 0⟩] sc2 p1) sc2 X.env (firstIterPos [⟨tg, iter, ifs, 0⟩] p1) newDict false (eval iter X.env) (some (assign (.Name nm p2) X.env))) _ _ s
  have h0 : tCg (fun _ => .dT []) wi g tt (tDcT tk tv) (own.map (·.2)) σ H (fun x H1 => gName i x σ H1 En.nx) := h
  refine wpAny_bind (thn (cg_core (S := sDcT kx vx X.prog X.w X.A) (o0 := { cls := .type "dict", data := .dict #[] }) (Qf := fun _ s' => SP X pins En .next s') rfl (fun s Q E q => wpAny_newObj_type q) (fun H' s' σ' I' => dt_empty s'.heap I'.big)
    (fun R s it D env I turn n h => compLoop_anyD I turn n h) (fun R s it acc env h0 h1 => codeAny_compStart_dict h0 h1) (fun s3 H3 C cl fp pn σ8 H9 s9 D N Kt E I9 q fin => ?_) hc hN I hi ok hg ht hs h0 fun D C s' m H' I' q hn f => ?_) fun _ s' hq => wpAny_pure (wpAny_pure hq))
  · refine thnF ((hk s3 H3 C cl fp).run _ s9 σ8 H9 _ I9 q) fun u s10 ⟨y, H10, I10, r10, q10⟩ => ?_
    refine thnF ((he s3 H3 C cl fp).run _ s10 σ8 H10 _ I10 q10) fun u2 s11 ⟨z, H11, I11, r11, kvs, k, b, ey, hb, hD, hz, nx⟩ => ?_
    subst ey
    have eu : u = Value.ref b := r10
    subst eu
    exact d_dictSetT (X := X.blk s3 H3 sc2 (compEnvC sc2 cl C X.env) fp) hu I11 hD hb hz r11 fun s12 I12 => fin s12 _ I12 nx
  · show wpAny _ _ (assign (.Name nm p2) X.env (.ref D)) _ _ _
    obtain ⟨f0, f1, f2, f3, f4, f5⟩ := f
    refine wpAny_assign_Name (store_ok2 (v := V.ref D) I' hN hy (.inl hyl) rfl (fun s2 I2 ⟨a, sb, ha⟩ => ?_) (.inr hyl))
    have ne : C ≠ a := by
      rcases ha with z | z
      · rw [z]
        exact f1
      · exact fun q => f4 nm a z q.symm
    exact ⟨m, hn.sameBut sb ne, fun h3 sb3 => ⟨σ.set i (some (V.ref D)), H', I2.turned (t' := s2.toks) (fun b o hb e => (sb3.2 b hb).trans e) f0 f1 f3 f4 f5, q⟩⟩
end
end J
/-! Sets whose members are tuples of ints and texts (up to 76 of them): the table, the search, the store. -/
namespace J
open PySem PySem.Spec PyProof.Rows L2

/-- a member: where its tuple stands, what it holds -/
abbrev Mem := Addr × List Key
section
variable (P : Program) (w : World)
abbrev Tp (h : Heap) (k : List Key) (b : Addr) : Prop := IsTupleKey (mixKind P w) h k b
abbrev th (k : List Key) : Int := tupleKeyHash (mixKind P w) k
def cel (p : Mem) : Int × Value := (th P w p.2, .ref p.1)
/-- the table holds L, apart from where it stands -/
structure Tb (L : List Mem) (es : Array (Int × Value)) (t : SetTable) : Prop where
  row : es.toList = L.map (cel P w)
  tab : TabOk t (L.map fun p => th P w p.2)
  one : (L.map (·.2)).Nodup
  led : w.params.followText "set-order" = true ∨ t.led = true
  roo : L.length * 5 < t.mask * 3
def Ob (h : Heap) (a : Addr) (es : Array (Int × Value)) (ep : Nat) (t : SetTable) : Prop := ∃ o, h.get? a = some o ∧ o.ExactSet ∧ o.data = .set es ep t
end
/-- the c-th probe of a hash -/
abbrev pb (m : Nat) (h : Int) (c : Nat) : SetTable.Probe := nth m (runAt m (SetTable.bits h % (m + 1)) (SetTable.bits h)) c
theorem pb_add (m : Nat) (h : Int) (c q : Nat) : nth m (pb m h c) q = pb m h (c + q) := (nth_add m c _ q).symm
theorem adv_dm (m : Nat) (p : SetTable.Probe) : (adv m p).dummy = p.dummy := by
  unfold adv
  by_cases c : p.more > 0 <;> simp only [c, if_true, if_false]
theorem nth_dm (m : Nat) : ∀ (n : Nat) (p : SetTable.Probe), (nth m p n).dummy = p.dummy
  | 0, _ => rfl
  | n + 1, p => (nth_dm m n (adv m p)).trans (adv_dm m p)
section
variable {P : Program} {w : World} {A : Around} {E : Value → Shared → Prop} {s : Shared} {a : Addr} {L : List Mem} {es : Array (Int × Value)} {ep : Nat} {t : SetTable}
theorem Tb.len (T : Tb P w L es t) : es.size = L.length := by simpa using congrArg List.length T.row
theorem Tb.pl (T : Tb P w L es t) : t.place.size = L.length := by simpa using T.tab.sz
theorem fit_of {n : Nat} (h1 : t.place.size = n) (h2 : t.dummies = #[]) (h3 : n ≤ t.mask) : t.fits n = true := by
  simp only [SetTable.fits, SetTable.fill, h2, h1, Bool.and_eq_true, beq_iff_eq, decide_eq_true_eq]
  exact ⟨trivial, h3⟩
theorem Tb.fit (T : Tb P w L es t) : t.fits es.size = true := by
  have r := T.roo
  rw [T.len]
  exact fit_of T.pl T.tab.dm (by omega)
theorem Tb.get (T : Tb P w L es t) {i : Nat} {p : Mem} (e : L[i]? = some p) : es[i]? = some (cel P w p) := by
  rw [← Array.getElem?_toList, T.row, List.getElem?_map, e]
  rfl
theorem Tb.gw (T : Tb P w L es t) : ¬ t.gaveWay = true := by
  simp [SetTable.gaveWay, mask_odd T.tab.mok]

/-! ### what a tuple of ints and texts says of itself -/
theorem atoms {k : List Key} {vs : List Value} (h : ItemsAre (mixKind P w) k vs) : ∀ v ∈ vs, (∀ n, ofAClassStatement n v = pure false) ∧ ∃ b, ∀ n, hashByValue n v = pure b := by
  induction h with
  | nil => exact fun _ z => nomatch z
  | @cons k0 u ks us h1 _ ih =>
    intro v hv
    rcases List.mem_cons.mp hv with e | e
    · subst e
      rcases keyIs_shape h1 with ⟨i, c, _, e2⟩ | ⟨x, c, _, e2⟩ <;> subst e2
      · exact ⟨fun n => by cases n <;> rfl, true, fun n => by cases n <;> rfl⟩
      · exact ⟨fun n => by cases n <;> rfl, false, fun n => by cases n <;> rfl⟩
    · exact ih v e
theorem no_class {k : List Key} {b : Addr} {Q : Bool → Shared → Prop} (x : Tp P w s.heap k b) (q : Q false s) : wpAny (model P w) A (ofAClassStatement 8 (.ref b)) Q E s := by
  have hT := x.typeIs
  obtain ⟨o, its, n, ho, _, hd, hi⟩ := x
  unfold ofAClassStatement
  refine wpAny_bind (wpAny_typeOf hT ?_)
  simp only [show (("tuple" : String) == "tuple") = true by decide, if_true, Bool.not_true, Bool.false_eq_true, if_false]
  try refine wpAny_bind (wpAny_pure ?_)
  try simp only [Bool.not_true, Bool.false_eq_true, if_false]
  change wpAny _ _ (seqItems? (.ref b) >>= _) _ _ _
  refine wpAny_bind (wpAny_seqItems ho hd (wpAny_bind ?_))
  change wpAny _ _ (forIn its _ _) _ _ _
  rw [← Array.forIn_toList]
  refine wpAny_forIn_list _ (fun l c s1 => c.1 = none ∧ s1 = s ∧ ∀ v ∈ l, ofAClassStatement 7 v = pure false) _ (fun v l c s1 I => ?_) (fun c s1 I => ?_) _ _ ⟨rfl, rfl, fun v m => (atoms hi v m).1 7⟩
  · obtain ⟨_, e, al⟩ := I
    rw [al v List.mem_cons_self]
    refine wpAny_bind (wpAny_pure ?_)
    simp only [Bool.false_eq_true, if_false]
    exact wpAny_pure ⟨rfl, e, fun u m => al u (List.mem_cons_of_mem _ m)⟩
  · obtain ⟨c1, c2⟩ := c
    obtain ⟨e1, e2, _⟩ := I
    simp only at e1
    subst e1 e2
    exact wpAny_pure q
theorem by_val {k : List Key} {b : Addr} {Q : Bool → Shared → Prop} (x : Tp P w s.heap k b) (q : ∀ c, Q c s) : wpAny (model P w) A (hashByValue 8 (.ref b)) Q E s := by
  have hT := x.typeIs
  obtain ⟨o, its, n, ho, _, hd, hi⟩ := x
  unfold hashByValue
  refine wpAny_bind (wpAny_specialOf hT F.slot_tuple_hash.lookup ?_)
  change wpAny _ _ (seqItems? (.ref b) >>= _) _ _ _
  refine wpAny_bind (wpAny_seqItems ho hd (wpAny_bind ?_))
  change wpAny _ _ (forIn its _ _) _ _ _
  rw [← Array.forIn_toList]
  refine wpAny_forIn_list _ (fun l c s1 => c.1 = none ∧ s1 = s ∧ ∀ v ∈ l, ∃ d, hashByValue 7 v = pure d) _ (fun v l c s1 I => ?_) (fun c s1 I => ?_) _ _ ⟨rfl, rfl, fun v m => (atoms hi v m).2.elim fun d e => ⟨d, e 7⟩⟩
  · obtain ⟨_, e, al⟩ := I
    obtain ⟨d, ed⟩ := al v List.mem_cons_self
    rw [ed]
    refine wpAny_bind (wpAny_pure ?_)
    cases d with
    | true =>
      simp only [Bool.not_true, Bool.false_eq_true, if_false]
      exact wpAny_pure ⟨rfl, e, fun u m => al u (List.mem_cons_of_mem _ m)⟩
    | false =>
      simp only [Bool.not_false, if_true]
      subst e
      exact wpAny_pure (wpAny_pure (q false))
  · obtain ⟨c1, c2⟩ := c
    obtain ⟨e1, e2, _⟩ := I
    simp only at e1
    subst e1 e2
    exact wpAny_pure (q true)
theorem unseen {k : List Key} {b : Addr} {Q : Bool → Shared → Prop} (x : Tp P w s.heap k b) {ys : List Value} (hy : ∀ y ∈ ys, ∃ c kc, y = .ref c ∧ Tp P w s.heap kc c) (q : Q false s) : wpAny (model P w) A (searchCouldBeSeen (.ref b) ys) Q E s := by
  unfold searchCouldBeSeen
  refine wpAny_bind (wpAny_forIn_list _ (fun l c s1 => c.1 = none ∧ s1 = s ∧ ∀ y ∈ l, ∃ c kc, y = Value.ref c ∧ Tp P w s.heap kc c) _ (fun v l c s1 I => ?_) (fun c s1 I => ?_) _ _ ⟨rfl, rfl, hy⟩)
  · obtain ⟨_, e, al⟩ := I
    obtain ⟨d, kd, ev, hd⟩ := al v List.mem_cons_self
    subst ev e
    have al2 := fun u m => al u (List.mem_cons_of_mem _ m)
    dsimp only
    by_cases c : (b == d || (carriedByValue (.ref b) && carriedByValue (.ref d))) = true
    · exact wp_if_pos c (wpAny_pure ⟨rfl, rfl, al2⟩)
    · refine wp_if_neg c (wpAny_bind (wpAny_eqIsQuiet_tuple x ?_))
      simp only [Bool.not_true, Bool.false_eq_true, if_false]
      refine wpAny_bind (wpAny_eqIsQuiet_tuple hd ?_)
      simp only [Bool.not_true, Bool.false_eq_true, if_false]
      refine wpAny_bind (no_class x ?_)
      simp only [Bool.false_eq_true, if_false]
      refine wpAny_bind (no_class hd ?_)
      simp only [Bool.false_eq_true, if_false]
      exact wpAny_pure ⟨rfl, rfl, al2⟩
  · obtain ⟨c1, c2⟩ := c
    obtain ⟨e1, e2, _⟩ := I
    simp only at e1
    subst e1 e2
    exact wpAny_pure q
end
/-! ### the search -/
section
variable {P : Program} {w : World} {A : Around} {E : Value → Shared → Prop} {s : Shared} {a : Addr} {L : List Mem} {es : Array (Int × Value)} {ep : Nat} {t : SetTable}
theorem Tb.who (T : Tb P w L es t) {i j : Nat} (e : t.place.toList[i]? = some j) : ∃ p, L[i]? = some p := by
  have h := (List.getElem?_eq_some_iff.mp e).1
  rw [Array.length_toList, T.pl] at h
  exact ⟨_, List.getElem?_eq_getElem h⟩
theorem Tb.seat (T : Tb P w L es t) {i : Nat} {p : Mem} (e : L[i]? = some p) : ∃ j, t.place.toList[i]? = some j := by
  have h := (List.getElem?_eq_some_iff.mp e).1
  rw [← T.pl, ← Array.length_toList] at h
  exact ⟨_, List.getElem?_eq_getElem h⟩
/-- what the probe meets from its c-th step on, K the first free slot of the way -/
theorem Tb.met (T : Tb P w L es t) {h : Int} {K c : Nat} (hf : K < 10 * SetTable.turns t.mask) (hK : way t.mask h K ∉ t.place.toList) (hb : ∀ q, q < K → way t.mask h q ∈ t.place.toList) (hc : c ≤ K) :
    (∃ q i p, c ≤ q ∧ q < K ∧ L[i]? = some p ∧ t.place.toList[i]? = some (way t.mask h q) ∧ (∀ (q' i' : Nat) (p' : Mem), c ≤ q' → q' < q → t.place.toList[i']? = some (way t.mask h q') → L[i']? = some p' → th P w p'.2 ≠ h) ∧
      t.probe (fun i => (es[i]?.map (·.1)).getD 0) h (pb t.mask h c) = some (.candidate (way t.mask h q) i (pb t.mask h (q + 1)))) ∨
    ((∀ (q' i' : Nat) (p' : Mem), c ≤ q' → q' < K → t.place.toList[i']? = some (way t.mask h q') → L[i']? = some p' → th P w p'.2 ≠ h) ∧ t.probe (fun i => (es[i]?.map (·.1)).getD 0) h (pb t.mask h c) = some (.empty (way t.mask h K) none)) := by
  have hv : ∀ {i : Nat} {p : Mem}, L[i]? = some p → (es[i]?.map (·.1)).getD 0 = th P w p.2 := fun {i p} e => by rw [T.get e]; rfl
  have wj : ∀ q, (nth t.mask (pb t.mask h c) q).j = way t.mask h (c + q) := fun q => congrArg SetTable.Probe.j (pb_add t.mask h c q)
  have no : ∀ {B : Nat}, (∀ k' i' : Nat, k' < B → t.place.toList[i']? = some (nth t.mask (pb t.mask h c) k').j → (es[i']?.map (·.1)).getD 0 ≠ h) → ∀ (q' i' : Nat) (p' : Mem), c ≤ q' → q' < c + B → t.place.toList[i']? = some (way t.mask h q') → L[i']? = some p' → th P w p'.2 ≠ h := by
    intro B z q' i' p' h1 h2 h3 h4
    have e : c + (q' - c) = q' := by omega
    have z' := z (q' - c) i' (by omega) (by rw [wj, e]; exact h3)
    rwa [hv h4] at z'
  have eK : c + (K - c) = K := by omega
  rcases go_spec t T.tab.ris T.tab.dm (fun i => (es[i]?.map (·.1)).getD 0) h (10 * SetTable.turns t.mask) (K - c) (pb t.mask h c) (nth_dm t.mask c _) (by omega) (fun q hq => by rw [wj]; exact hb _ (by omega)) (by rw [wj, eK]; exact hK) with ⟨q, i, a1, a2, a3, a4, a5⟩ | ⟨a1, a2⟩
  · rw [wj] at a2
    obtain ⟨p, hp⟩ := T.who a2
    refine .inl ⟨c + q, i, p, Nat.le_add_right .., by omega, hp, a2, no a4, ?_⟩
    rw [wj, pb_add] at a5
    exact a5
  · refine .inr ⟨fun q' i' p' h1 h2 => no a1 q' i' p' h1 (by omega), ?_⟩
    rw [wj, eK] at a2
    exact a2
/-- the search for k from the c-th step on -/
theorem seek (T : Tb P w L es t) (O : Ob s.heap a es ep t) (tup : ∀ p ∈ L, Tp P w s.heap p.2 p.1) {x : Addr} {k : List Key} (hx : Tp P w s.heap k x) (hu : A.units < cLine) {K : Nat} (hf : K < 10 * SetTable.turns t.mask)
    (hK : way t.mask (th P w k) K ∉ t.place.toList) (hb : ∀ q, q < K → way t.mask (th P w k) q ∈ t.place.toList) {Q : SetFound → Shared → Prop}
    (hin : k ∈ L.map (·.2) → Q (.there none) s) (hout : k ∉ L.map (·.2) → Q (.free (way t.mask (th P w k) K) false) s) :
    ∀ (f c : Nat) (st : Option SetTable.Probe), st.getD (t.probeStart (th P w k)) = pb t.mask (th P w k) c → c ≤ K → K - c < f →
      (∀ (i : Nat) p, L[i]? = some p → p.2 = k → ∃ q, c ≤ q ∧ q < K ∧ t.place.toList[i]? = some (way t.mask (th P w k) q)) → wpAny (model P w) A (setSearchFrom a (.ref x) (th P w k) true f st) Q E s := by
  obtain ⟨o, ho, hex, hd⟩ := O
  intro f
  induction f with
  | zero => exact fun c st _ _ z => absurd z (Nat.not_lt_zero _)
  | succ f ih =>
    intro c st hst hc hfu hre
    rw [setSearchFrom_succ]
    refine wpAny_bind (wpAny_setState_of ho hd T.fit ?_)
    dsimp only
    refine wp_if_neg T.gw ?_
    try refine wpAny_bind (wpAny_pure ?_)
    rcases T.met hf hK hb hc with ⟨q, i, p, c1, c2, hp, hi, hno, hpr⟩ | ⟨hno, hpr⟩
    · rw [hst, hpr]
      dsimp only
      have hm : p ∈ L := List.mem_of_getElem? hp
      have go : wpAny (model P w) A (searchRest a (.ref x) (th P w k) true f es t (way t.mask (th P w k) q) i (pb t.mask (th P w k) (q + 1))) Q E s := by
        unfold searchRest
        rw [T.get hp]
        dsimp only [cel]
        refine wpAny_bind (wpAny_holding (wpAny_eqBool_tuple hu (tup p hm) hx (wpAny_bind (wpAny_setState_of ho hd T.fit ?_))))
        dsimp only
        by_cases same : p.2 = k
        · exact wp_if_pos (by simp [same]) (wpAny_pure (hin (List.mem_map.mpr ⟨p, hm, same⟩)))
        · refine wp_if_neg (by simp [same]) ?_
          try refine wpAny_bind (wpAny_pure ?_)
          rw [sameMem]
          have live : t.slot (way t.mask (th P w k) q) = .live i := slot_live T.tab.ris hi
          simp only [if_true, live, T.get hp, cel]
          refine wpAny_bind (wpAny_isSame_ref_self (wpAny_bind (wpAny_pure ?_)))
          simp only [if_true]
          refine wp_if_neg (by simp [same]) (ih (q + 1) _ rfl (by omega) (by omega) fun i0 p0 h0 e0 => ?_)
          obtain ⟨q0, d1, d2, d3⟩ := hre i0 p0 h0 e0
          refine ⟨q0, ?_, d2, d3⟩
          rcases Nat.lt_trichotomy q0 q with z | z | z
          · exact absurd (congrArg (th P w) e0) (hno q0 i0 p0 d1 z d3 h0)
          · subst z
            have l0 := live.symm.trans (slot_live T.tab.ris d3)
            injection l0 with l0
            rw [← l0, hp] at h0
            exact absurd ((congrArg Prod.snd (Option.some.inj h0)).trans e0) same
          · exact z
      by_cases hl : t.led = true
      · refine wp_if_neg (by simp [hl]) ?_
        try refine wpAny_bind (wpAny_pure ?_)
        exact go
      · refine wp_if_pos (by simp [hl]) (wpAny_bind (unseen hx (fun y hy => ?_) ?_))
        · obtain ⟨u, hu1, rfl⟩ := List.mem_map.mp hy
          have hu2 : u ∈ es.toList ∧ u.1 = th P w k := by simpa using hu1
          rw [T.row] at hu2
          obtain ⟨p2, m2, e2⟩ := List.mem_map.mp hu2.1
          exact ⟨p2.1, p2.2, congrArg Prod.snd e2.symm, tup p2 m2⟩
        · refine wp_if_neg (by decide) ?_
          try refine wpAny_bind (wpAny_pure ?_)
          exact go
    · rw [hst, hpr]
      dsimp only
      refine wpAny_pure (hout fun m => ?_)
      obtain ⟨p, hp, e⟩ := List.mem_map.mp m
      obtain ⟨i, hi, hpi⟩ := List.getElem_of_mem hp
      have e1 : L[i]? = some p := by rw [List.getElem?_eq_getElem hi, hpi]
      obtain ⟨q, d1, d2, d3⟩ := hre i p e1 e
      exact hno q i p d1 d2 d3 e1 (congrArg (th P w) e)
theorem seek_all (T : Tb P w L es t) (O : Ob s.heap a es ep t) (tup : ∀ p ∈ L, Tp P w s.heap p.2 p.1) {x : Addr} {k : List Key} (hx : Tp P w s.heap k x) (hu : A.units < cLine) {Q : SetFound → Shared → Prop} (hin : k ∈ L.map (·.2) → Q (.there none) s)
    (hout : ∀ K, k ∉ L.map (·.2) → way t.mask (th P w k) K ∉ t.place.toList → (∀ q, q < K → way t.mask (th P w k) q ∈ t.place.toList) → Q (.free (way t.mask (th P w k) K) false) s) : wpAny (model P w) A (setSearch a (.ref x) (th P w k) true) Q E s := by
  have r := T.roo
  obtain ⟨K, hf, hK, hb⟩ := T.tab.first (by rw [List.length_map]; omega) (th P w k)
  have big : 10 * SetTable.turns t.mask ≤ 5000 := by
    unfold SetTable.turns
    rcases T.tab.mok with e | e | e <;> rw [e] <;> decide
  unfold setSearch
  refine seek T O tup hx hu hf hK hb hin (fun n => hout K n hK hb) 100000 0 none rfl (Nat.zero_le _) (by omega) fun i p e ek => ?_
  obtain ⟨j, hj⟩ := T.seat e
  obtain ⟨q, hq, ew⟩ := T.tab.before (h := th P w k) hK (by rw [List.getElem?_map, e, ← ek]; rfl) hj
  exact ⟨q, Nat.zero_le _, hq, by rw [hj, ew]⟩
end
/-! ### the store -/
section
variable {P : Program} {w : World} {A : Around} {E : Value → Shared → Prop} {s : Shared} {a : Addr} {L : List Mem} {es : Array (Int × Value)} {ep : Nat} {t : SetTable}
theorem Tp.mt {h h' : Heap} {k : List Key} {b : Addr} (x : Tp P w h k b) (m : ∀ c o, h.get? c = some o → h'.get? c = some o) : Tp P w h' k b := by
  obtain ⟨o, its, n, ho, z⟩ := x
  exact ⟨o, its, n, m b o ho, z⟩
/-- the set itself is no tuple -/
theorem Tp.by {h h' : Heap} {k : List Key} {b : Addr} (x : Tp P w h k b) (O : Ob h a es ep t) (m : Heap.SameBut a h h') : Tp P w h' k b := by
  obtain ⟨o, its, n, ho, hc, hd, z⟩ := x
  obtain ⟨o2, ho2, _, hd2⟩ := O
  refine ⟨o, its, n, (m.2 b fun e => ?_).trans ho, hc, hd, z⟩
  rw [e, ho2] at ho
  rw [Option.some.inj ho, hd] at hd2
  exact nomatch hd2
theorem Ob.put {h : Heap} (O : Ob h a es ep t) (es' : Array (Int × Value)) (t' : SetTable) : Ob (h.update a (Obj.putSet es' t')) a es' (ep + 1) t' := by
  obtain ⟨o, ho, hx, hd⟩ := O
  exact ⟨_, store_at ho hd, ⟨hx.1, hx.2.1, hx.2.2⟩, rfl⟩
/-- some entries by their numbers -/
theorem picked (hr : es.toList = L.map (cel P w)) : ∀ l : List Nat, (∀ i ∈ l, i < L.length) → l.filterMap (fun i => es[i]?) = (l.filterMap fun i => L[i]?).map (cel P w) ∧ ((l.filterMap fun i => L[i]?).map fun p => th P w p.2) = l.map fun i => (es.map (·.1)).getD i 0
  | [], _ => ⟨rfl, rfl⟩
  | i :: l, hl => by
    obtain ⟨h1, h2⟩ := picked hr l fun j m => hl j (List.mem_cons_of_mem _ m)
    obtain ⟨p, hi⟩ : ∃ p, L[i]? = some p := ⟨_, List.getElem?_eq_getElem (hl i List.mem_cons_self)⟩
    have he : es[i]? = some (cel P w p) := by rw [← Array.getElem?_toList, hr, List.getElem?_map, hi]; rfl
    have hg : (es.map (·.1)).getD i 0 = th P w p.2 := by
      rw [Array.getD_eq_getD_getElem?, Array.getElem?_map, he]
      rfl
    have hE : (i :: l).filterMap (fun i => es[i]?) = cel P w p :: l.filterMap (fun i => es[i]?) := List.filterMap_cons_some he
    have hL : (i :: l).filterMap (fun i => L[i]?) = p :: l.filterMap (fun i => L[i]?) := List.filterMap_cons_some hi
    exact ⟨by rw [hE, hL, h1]; rfl, by rw [hL, List.map_cons, List.map_cons, h2, hg]⟩
theorem range_pick' {α : Type} : ∀ l pre : List α, (List.range' pre.length l.length).filterMap (fun i => (pre ++ l)[i]?) = l
  | [], _ => rfl
  | x :: l, pre => by
    have ih := range_pick' l (pre ++ [x])
    have e : pre ++ x :: l = pre ++ [x] ++ l := by simp
    rw [List.length_cons, List.range'_succ, List.filterMap_cons_some (b := x) (by simp), e]
    simpa using ih
theorem range_pick {α : Type} (l : List α) : (List.range l.length).filterMap (fun i => l[i]?) = l := by
  rw [List.range_eq_range']
  exact range_pick' l []
/-- all laid anew in a table that is large enough -/
theorem relay_ok (O : Ob s.heap a es ep t) (hr : es.toList = L.map (cel P w)) (hp : t.place.size = L.length) (hd : t.dummies = #[]) (hf : L.length ≤ t.mask) (one : (L.map (·.2)).Nodup) (led : w.params.followText "set-order" = true ∨ t.led = true) {want M : Nat}
    (hw : SetTable.sizeAbove want - 1 = M) (hM : MaskOk M) (h128 : SetTable.sizeAbove want ≤ 128) (hn : L.length * 5 < M * 3) {Q : Unit → Shared → Prop}
    (hQ : ∀ h' L' es' ep' t', Heap.SameBut a s.heap h' → Ob h' a es' ep' t' → Tb P w L' es' t' → L'.Perm L → Q () { s with heap := h' }) : wpAny (model P w) A (setRelay a want) Q E s := by
  have hl : es.size = L.length := by simpa using congrArg List.length hr
  obtain ⟨o, ho, hx, hod⟩ := id O
  obtain ⟨t', ord, e, pm, T', em, el, _, _⟩ := relaid_ok t (hs := es.map (·.1)) (wanted := want) hw hM (by rw [Array.size_map, hl]; omega)
  rw [Array.size_map, hl] at pm
  obtain ⟨p1, p2⟩ := picked hr ord.toList fun i m => List.mem_range.mp (pm.mem_iff.mp m)
  have p3 : (ord.toList.filterMap fun i => L[i]?).Perm L := by
    have z := pm.filterMap fun i => L[i]?
    rwa [range_pick] at z
  rw [← p2] at T'
  generalize ord.toList.filterMap (fun i => L[i]?) = L' at p1 p3 T'
  have r1 : (ord.filterMap (es[·]?)).toList = L'.map (cel P w) := by simpa using p1
  have r2 : (ord.filterMap (es[·]?)).size = es.size := by
    have z := congrArg List.length r1
    rw [List.length_map, p3.length_eq, Array.length_toList] at z
    rw [z, hl]
  rw [setRelay_eq]
  refine wpAny_bind (wpAny_setState_of ho hod (fit_of (by rw [hp, hl]) hd (by omega)) ?_)
  dsimp only
  refine wp_if_neg (by rw [sizeLine_eq]; omega) ?_
  try refine wpAny_bind (wpAny_pure ?_)
  rw [e]
  dsimp only
  refine wpAny_bind (wp_if_neg (by rw [r2]; simp) ?_)
  try refine wpAny_bind (wpAny_pure ?_)
  refine wpAny_pure ?_
  dsimp only
  refine wpAny_storeSet_of ho hod (hQ _ L' _ (ep + 1) t' (Heap.SameBut.update ..) (O.put _ _) ⟨r1, T', (p3.map (·.2)).nodup_iff.mpr one, by rw [el]; exact led, by rw [p3.length_eq, em]; exact hn⟩ p3) (by rw [r2, hl, sizeLine_eq]; omega)
/-- ADDING: k is there already, or it comes in -/
theorem put_in (T : Tb P w L es t) (O : Ob s.heap a es ep t) (tup : ∀ p ∈ L, Tp P w s.heap p.2 p.1) {x : Addr} {k : List Key} (hx : Tp P w s.heap k x) (hu : A.units < cLine) (few : k ∉ L.map (·.2) → L.length < 76) {Q : Bool → Shared → Prop}
    (hQ : ∀ b h' L' es' ep' t', Heap.SameBut a s.heap h' → Ob h' a es' ep' t' → Tb P w L' es' t' → (k ∈ L.map (·.2) → L' = L) → (k ∉ L.map (·.2) → L'.Perm ((x, k) :: L)) → Q b { s with heap := h' }) : wpAny (model P w) A (setAddHashed a (.ref x) (th P w k)) Q E s := by
  obtain ⟨o, ho, hex, hd⟩ := id O
  unfold setAddHashed
  refine wpAny_holding ?_
  rw [show (100000 : Nat) = 99999 + 1 from rfl, setAddHashedIn_succ]
  refine wpAny_bind (wpAny_setState_of ho hd T.fit ?_)
  dsimp only
  refine wp_if_neg (by simp [byScan, Value.scannable]) ?_
  try refine wpAny_bind (wpAny_pure ?_)
  refine wpAny_bind (seek_all T O tup hx hu (fun m => ?_) fun K m hK hb => ?_)
  · exact wpAny_pure (hQ false _ L es ep t (Heap.SameBut.refl a s.heap) O T (fun _ => rfl) fun z => absurd m z)
  · have hlen := few m
    have hroom := T.roo
    dsimp only
    refine wpAny_bind (wpAny_setState_of ho hd T.fit ?_)
    dsimp only
    obtain ⟨q1, q2, q3, q4, q5, _, _, _, q9⟩ := T.tab.put hK hb
    generalize t.put (way t.mask (th P w k) K) = pt at q1 q3 q4 q5 q9 ⊢
    obtain ⟨t1, p⟩ := pt
    dsimp only at q1 q3 q4 q5 q9 ⊢
    subst q1
    rw [List.length_map] at q2 q9
    generalize SetTable.below t.place (way t.mask (th P w k) K) = p at q2 q3 ⊢
    have q3' : TabOk t1 ((L.take p ++ (x, k) :: L.drop p).map fun p => th P w p.2) := by
      rw [List.map_append, List.map_cons, List.map_take, List.map_drop]
      exact q3
    have e1 : (SetTable.insertAt es p (th P w k, Value.ref x)).toList = (L.take p ++ (x, k) :: L.drop p).map (cel P w) := by
      rw [SetTable.toList_insertAt, T.row, List.map_append, List.map_cons, List.map_take, List.map_drop]
      rfl
    have pm := put_perm L p (x, k)
    generalize L.take p ++ (x, k) :: L.drop p = L1 at q3' e1 pm
    have l1 : L1.length = L.length + 1 := pm.length_eq
    have one : (L1.map (·.2)).Nodup := by
      rw [(pm.map (·.2)).nodup_iff, List.map_cons]
      exact List.nodup_cons.mpr ⟨m, T.one⟩
    have el := T.len
    have s1 : (SetTable.insertAt es p (th P w k, Value.ref x)).size = L.length + 1 := by
      rw [← l1]
      simpa using congrArg List.length e1
    generalize SetTable.insertAt es p (th P w k, Value.ref x) = es1 at e1 s1 ⊢
    have both : ∀ t2 : SetTable, t2.place = t1.place → t2.dummies = t1.dummies → t2.mask = t1.mask → t2.led = t1.led → wpAny (model P w) A (storeSet a es1 t2 >>= fun _ => if (!false && t2.tooFull) = true then (setRelay a (SetTable.grown (es.size + 1)) >>= fun _ => pure true) else pure true) Q E s := by
      intro t2 g1 g2 g3 g4
      have T2 : TabOk t2 (L1.map fun p => th P w p.2) := ⟨by rw [g1]; exact q3'.ris, g2.trans q3'.dm, by rw [g1]; exact q3'.sz, by rw [g3]; exact q3'.mok, by rw [g1, g3]; exact q3'.bd, by rw [g1, g3]; exact q3'.reach⟩
      have ld : w.params.followText "set-order" = true ∨ t2.led = true := by rw [g4, q5]; exact T.led
      have fl : t2.fill = L.length + 1 := by
        rw [← q9]
        show t2.place.size + t2.dummies.size = t1.place.size + t1.dummies.size
        rw [g1, g2]
      rw [q4] at g3
      refine wpAny_bind (wpAny_storeSet_of ho hd ?_ (by rw [s1, sizeLine_eq]; omega))
      have O1 := O.put es1 t2
      have sb : Heap.SameBut a s.heap (s.heap.update a (Obj.putSet es1 t2)) := Heap.SameBut.update ..
      generalize s.heap.update a (Obj.putSet es1 t2) = h1 at O1 sb ⊢
      have full : t2.tooFull = true ↔ t2.mask * 3 ≤ (L.length + 1) * 5 := by
        unfold SetTable.tooFull
        rw [decide_eq_true_eq, fl]
      by_cases c : t2.tooFull = true
      · refine wp_if_pos (by simp [c]) (wpAny_bind ?_)
        have c' := full.mp c
        have two : (t.mask = 7 ∧ L.length = 4) ∨ (t.mask = 31 ∧ L.length = 18) := by
          rcases T.tab.mok with e | e | e <;> rw [g3, e] at c' <;> rw [e] at hroom <;> omega
        have go : ∀ M n, n = L.length + 1 → SetTable.sizeAbove (SetTable.grown n) - 1 = M → MaskOk M → SetTable.sizeAbove (SetTable.grown n) ≤ 128 → n * 5 < M * 3 → wpAny (model P w) A (setRelay a (SetTable.grown (es.size + 1))) (fun _ s' => wpAny (model P w) A (pure true) Q E s') E { s with heap := h1 } := by
          intro M n hn z1 z2 z3 z4
          subst hn
          rw [el]
          refine relay_ok (s := { s with heap := h1 }) (L := L1) O1 e1 (by simpa using T2.sz) T2.dm (by rw [l1, g3]; omega) one ld z1 z2 z3 (by rw [l1]; exact z4) fun h2 L2 es2 ep2 t3 sb2 O2 T3 pm2 => ?_
          exact wpAny_pure (hQ true h2 L2 es2 ep2 t3 (sb.trans sb2) O2 T3 (fun z => absurd z m) fun _ => pm2.trans pm)
        rcases two with ⟨_, e⟩ | ⟨_, e⟩
        · exact go 31 5 (by omega) (by rw [size_20]) (.inr (.inl rfl)) (by rw [size_20]; decide) (by decide)
        · exact go 127 19 (by omega) (by rw [size_76]) (.inr (.inr rfl)) (by rw [size_76]; decide) (by decide)
      · refine wp_if_neg (by simp [c]) (wpAny_pure (hQ true h1 L1 es1 _ t2 sb O1 ⟨e1, T2, one, ld, ?_⟩ (fun z => absurd z m) fun _ => pm))
        have c2 : ¬ t2.mask * 3 ≤ (L.length + 1) * 5 := fun z => c (full.mpr z)
        omega
    by_cases c : t1.plain = true
    · refine wp_if_pos c (wpAny_bind (by_val hx fun d => ?_))
      cases d with
      | true => exact both t1 rfl rfl rfl rfl
      | false => exact both { t1 with plain := false } rfl rfl rfl rfl
    · exact wp_if_neg c (wpAny_bind (wpAny_pure (both t1 rfl rfl rfl rfl)))
/-- .. by the tuple alone -/
theorem set_add (T : Tb P w L es t) (O : Ob s.heap a es ep t) (tup : ∀ p ∈ L, Tp P w s.heap p.2 p.1) {x : Addr} {k : List Key} (hx : Tp P w s.heap k x) (hu : A.units < cLine) (few : k ∉ L.map (·.2) → L.length < 76) {Q : Bool → Shared → Prop}
    (hQ : ∀ b h' tk L' es' ep' t', s.toks ≤ tk → Heap.SameBut a s.heap h' → Ob h' a es' ep' t' → Tb P w L' es' t' → (k ∈ L.map (·.2) → L' = L) → (k ∉ L.map (·.2) → L'.Perm ((x, k) :: L)) → Q b { s with heap := h', toks := tk }) : wpAny (model P w) A (setAdd a (.ref x)) Q E s := by
  unfold setAdd
  refine wpAny_holding (wpAny_bind (wpAny_pyHash_tuple hu hx ?_))
  exact put_in (s := { s with toks := s.toks + (k.length + 1) }) T O tup hx hu few fun b h' L' es' ep' t' z1 z2 z3 z4 z5 => hQ b h' _ L' es' ep' t' (Nat.le_add_right ..) z1 z2 z3 z4 z5
end
/-! ### set(xs) -/
theorem nodup_le {α : Type} [DecidableEq α] : ∀ {l : List α}, l.Nodup → ∀ {m : List α}, (∀ x ∈ l, x ∈ m) → l.length ≤ m.length
  | [], _, _, _ => Nat.zero_le _
  | a :: l, n, m, h => by
    obtain ⟨h1, h2⟩ := List.nodup_cons.mp n
    have am := h a (List.mem_cons_self ..)
    have r := nodup_le h2 (m := m.erase a) fun x hx => (List.mem_erase_of_ne fun e => h1 (by rw [← e]; exact hx)).mpr (h x (List.mem_cons_of_mem _ hx))
    have p := List.length_pos_of_mem am
    rw [List.length_erase_of_mem am] at r
    rw [List.length_cons]
    omega
/-- what has come in from the first i items -/
structure Half (ks : List Mem) (i : Nat) (L : List Mem) : Prop where
  sub : ∀ p ∈ L, p ∈ ks.take i
  all : ∀ p ∈ ks.take i, p.2 ∈ L.map (·.2)
theorem Half.step {ks L L' : List Mem} {i : Nat} {x : Mem} (g : Half ks i L) (e : ks[i]? = some x) (h1 : x.2 ∈ L.map (·.2) → L' = L) (h2 : x.2 ∉ L.map (·.2) → L'.Perm (x :: L)) : Half ks (i + 1) L' := by
  have hn : ks.take (i + 1) = ks.take i ++ [x] := by rw [List.take_add_one, e]; rfl
  rcases Classical.em (x.2 ∈ L.map (·.2)) with c | c
  · rw [h1 c]
    refine ⟨fun p m => by rw [hn]; exact List.mem_append_left _ (g.sub p m), fun p m => ?_⟩
    rw [hn] at m
    rcases List.mem_append.mp m with z | z
    · exact g.all p z
    · rw [List.mem_singleton.mp z]
      exact c
  · have pm := h2 c
    refine ⟨fun p m => ?_, fun p m => ?_⟩
    · rw [hn]
      rcases List.mem_cons.mp (pm.mem_iff.mp m) with z | z
      · exact List.mem_append_right _ (List.mem_singleton.mpr z)
      · exact List.mem_append_left _ (g.sub p z)
    · rw [(pm.map (·.2)).mem_iff, List.map_cons]
      rw [hn] at m
      rcases List.mem_append.mp m with z | z
      · exact List.mem_cons_of_mem _ (g.all p z)
      · rw [List.mem_singleton.mp z]
        exact List.mem_cons_self
section
variable {P : Program} {w : World} {A : Around} {E : Value → Shared → Prop} {s : Shared}
abbrev newO (w : World) : Obj := { cls := .type "set", dict := none, data := .set #[] 0 (.fresh 0 0 (!w.params.followText "set-order")) }
theorem tb_new : Tb P w [] #[] (.fresh 0 0 (!w.params.followText "set-order")) where
  row := rfl
  tab := ⟨.nil, rfl, rfl, .inl rfl, (fun _ z => nomatch z), fun i h j e => by simp at e⟩
  one := .nil
  led := by
    change _ ∨ (!w.params.followText "set-order") = true
    cases w.params.followText "set-order" <;> simp
  roo := by
    change 0 * 5 < 7 * 3
    decide
/-- the loop of set.update over the items of a list -/
theorem upd_loop {B : Around} {I D : Addr} {fp wr : List Addr} {G : Array GenState → Array GenState → Prop} {n : Nat} {Pv : Nat → Value → Prop} {St : Nat → Shared → Prop} {R : Result → Shared → Prop} (W : WalksS P w B.in1 I fp wr G n Pv St) (hD : D ∉ fp) (ks : List Mem) (hn : n = ks.length) {al : List (List Key)}
    (hal : al.length ≤ 72) (hka : ∀ p ∈ ks, p.2 ∈ al) (hval : ∀ i v, Pv i v → ∃ p, ks[i]? = some p ∧ v = .ref p.1) {h0 : Heap} (hk : ∀ p ∈ ks, Tp P w h0 p.2 p.1) (hD0 : h0.get? D = none) (hw0 : ∀ b ∈ wr, h0.get? b = none) (hu : B.in1.units < cLine) :
    ∀ (k i : Nat) (s : Shared), n - i = k → i ≤ n → St i s → (∀ b o, h0.get? b = some o → s.heap.get? b = some o) → (∃ L es ep t, Ob s.heap D es ep t ∧ Tb P w L es t ∧ Half ks i L) →
      (∀ s' L es ep t, Moved (D :: wr) G s s' → Ob s'.heap D es ep t → Tb P w L es t → Half ks n L → (∀ b o, h0.get? b = some o → s'.heap.get? b = some o) → R (.ok (.ret .none)) s') → codeAny (model P w) B (.builtin "set.update.loop" ⟨[.ref D, .ref I], []⟩) R s := by
  have nw : D ∉ wr := fun z => hD (W.sub _ z)
  have up : ∀ b ∈ wr, b ∈ D :: wr := fun b m => List.mem_cons_of_mem _ m
  have stay : ∀ {s s' : Shared}, Moved wr G s s' → (∀ b o, h0.get? b = some o → s.heap.get? b = some o) → ∀ b o, h0.get? b = some o → s'.heap.get? b = some o := fun m z b o e => m.heap b o (fun hb => by rw [hw0 b hb] at e; cases e) (z b o e)
  have obk : ∀ {s s' : Shared} {es : Array (Int × Value)} {ep : Nat} {t : SetTable}, Moved wr G s s' → Ob s.heap D es ep t → Ob s'.heap D es ep t := fun {s s' es ep t} m O => by
    obtain ⟨o, ho, z⟩ := O
    exact ⟨o, m.heap D o nw ho, z⟩
  intro k
  induction k with
  | zero =>
    intro i s e1 e2 st kp ⟨L, es, ep, t, O, T, g⟩ fin
    obtain rfl : i = n := by omega
    refine codeAny_builtin F.entry_set_update_loop ?_
    rw [Around.under_plainId F.plain_set_update_loop _]
    change wpAny _ B.in1 (pyNext (.ref I) >>= _) _ _ s
    refine wpAny_bind (W.done s _ _ st fun s' m => ?_)
    exact wpAny_pure (fin s' L es ep t (m.mono up) (obk m O) T g (stay m kp))
  | succ k ih =>
    intro i s e1 e2 st kp ⟨L, es, ep, t, O, T, g⟩ fin
    have lt : i < n := by omega
    refine codeAny_builtin F.entry_set_update_loop ?_
    rw [Around.under_plainId F.plain_set_update_loop _]
    change wpAny _ B.in1 (pyNext (.ref I) >>= _) _ _ s
    refine wpAny_bind (W.item i s _ _ lt st fun v s' hv st' m => ?_)
    obtain ⟨p, hp, ev⟩ := hval i v hv
    subst ev
    have kp' := stay m kp
    have inks : ∀ q ∈ L, q ∈ ks := fun q z => List.mem_of_mem_take (g.sub q z)
    change wpAny _ B.in1 (holding [Value.ref p.1] (setAdd D (.ref p.1)) >>= _) _ _ s'
    refine wpAny_bind (wpAny_holding (set_add T (obk m O) (fun q z => (hk q (inks q z)).mt kp') ((hk p (List.mem_of_getElem? hp)).mt kp') hu (fun z => ?_) fun b h' tk L' es' ep' t' htk sb O' T' c1 c2 => ?_))
    · have nd : (p.2 :: L.map (·.2)).Nodup := List.nodup_cons.mpr ⟨z, T.one⟩
      have le := nodup_le nd (m := al) fun x hx => by
        rcases List.mem_cons.mp hx with e | hx
        · rw [e]
          exact hka p (List.mem_of_getElem? hp)
        · obtain ⟨q, hq, rfl⟩ := List.mem_map.mp hx
          exact hka q (inks q hq)
      rw [List.length_cons, List.length_map] at le
      omega
    · have kp2 : ∀ b o, h0.get? b = some o → h'.get? b = some o := fun b o e => (sb.2 b fun z => by rw [z, hD0] at e; cases e).trans (kp' b o e)
      have inD : ∀ b, b ≠ D → ∀ o, s'.heap.get? b = some o → h'.get? b = some o := fun b z o e => (sb.2 b z).trans e
      refine wpAny_pure ⟨plainId_quiet F.plain_set_update_loop _, ih (i + 1) _ (by omega) lt (W.frame _ s' _ _ st' htk fun b hb o e => inD b (fun z => hD (z ▸ hb)) o e) kp2 ⟨L', es', ep', t', O', T', g.step hp c1 c2⟩ fun s2 L2 es2 ep2 t2 m2 O2 T2 g2 kp3 => fin s2 L2 es2 ep2 t2 ?_ O2 T2 g2 kp3⟩
      exact ⟨fun b o hb e => m2.heap b o hb (inD b (fun z => hb (z ▸ List.mem_cons_self)) o (m.heap b o (fun z => hb (up b z)) e)), W.gtrans _ _ _ m.gens m2.gens, m2.drawn.trans m.drawn, m2.os.trans m.os, Nat.le_trans m.toks (Nat.le_trans htk m2.toks)⟩
end
section
variable {P : Program} {w : World} {A : Around} {E : Value → Shared → Prop} {s : Shared}
set_option maxHeartbeats 3200000 in
/-- set(xs) of a list, by its loop -/
theorem call_set_by {l : Addr} {xs : Array Value} {Q : Value → Shared → Prop} (hl : s.heap.IsList l xs)
    (loop : codeAny (model P w) A.in1.in1 (.builtin "set.update.loop" ⟨[.ref s.heap.objs.size, .ref (s.heap.push (newO w)).objs.size], []⟩) (fun r s' => r = .ok (.ret .none) ∧ Q (.ref s.heap.objs.size) s')
      { s with heap := (s.heap.push (newO w)).push { cls := .type "list_iterator", data := .fields #[.ref l, .int 0 0] } }) : wpAny (model P w) A (call (.type "set") [.ref l]) Q E s := by
  obtain ⟨c, tl, hmro⟩ := F.called_set.mro
  have hmade := F.called_set.made
  have hsub := F.called_set.sub
  refine wpAny_call (codeAny_of_tree ?_)
  change wpAny _ _ (callAny (.type "set") _) _ _ _
  refine wpAny_pure ⟨Code.quiet_builtin _ (by decide +kernel), codeAny_builtin F.entry_type_call ?_⟩
  rw [Around.under_plain (weight_type_call_type "set" [.ref l] []) rfl]
  have h1 := F.called_set.notType
  have h2 := F.called_set.canCreate
  have hct := F.typeCall_set_1 (.ref l)
  repeat (any_goals (first | assumption | wp_step))
  refine codeAny_mono (code_set_led1 (.ref l) (E := E) (Q₁ := fun u s1 => u = .ref s.heap.objs.size ∧ s1 = { s with heap := s.heap.push (newO w) }) ⟨rfl, rfl⟩) fun r s1 hr => ?_
  match r, hr with
  | .error _, hr => exact hr
  | .ok (.ret u), ⟨e1, e2⟩ =>
    subst e1 e2
    have hS : (s.heap.push (newO w)).get? s.heap.objs.size = some (newO w) := Heap.get?_push_size _ rfl
    have hT : Shared.TypeIs { s with heap := s.heap.push (newO w) } (.ref s.heap.objs.size) "set" := ⟨_, hS, rfl⟩
    have hli := F.called_set.init.lookup
    have hbi := F.called_set.init.bind (.ref s.heap.objs.size)
    repeat (any_goals (first | assumption | wp_step))
    refine codeAny_mono (codeAny_call_builtin (R := wants (fun r s2 => r = .none ∧ Q (.ref s.heap.objs.size) s2) E) F.called_set.init.plain F.entry_set_init (check_set_init_1 hT ?_)) fun r2 s2 hr2 => ?_
    · obtain ⟨ol, hol, hcl, nl, hdl⟩ := hl
      obtain ⟨ocls, odict, odata, oslots⟩ := ol
      simp only at hcl hdl
      subst hcl hdl
      have hol' : (s.heap.push (newO w)).get? l = some { cls := .type "list", dict := odict, data := .seq xs nl, slots := oslots } := Heap.get?_push_of_some _ hol
      have hsls := F.sub_list_set
      have hslf := F.sub_list_frozenset
      have hne : (Value.type "list" == Value.type "dict") = false := by decide
      have hl1 : (s.heap.push (newO w)).IsList l xs := ⟨_, hol', rfl, nl, rfl⟩
      unfold Builtin.«set.__init__» noKeywords Builtin.Frozenset.updateFrom
      generalize hPI : pyIter = PI
      wp_walk
      subst hPI
      refine wpAny_pyIter_list hl1 (wpAny_bind (wpAny_runValue (codeAny_mono loop fun r3 s3 hr3 => ?_)))
      obtain ⟨e3, q⟩ := hr3
      subst e3
      exact wpAny_pure (wpAny_pure ⟨rfl, q⟩)
    · match r2, hr2 with
      | .error _, hr2 => exact hr2
      | .ok (.ret u), ⟨e1, q⟩ =>
        subst e1
        repeat (any_goals (first | assumption | wp_step))
/-- set(xs) of a list of tuples with at most 72 different contents -/
theorem call_set_mix {l : Addr} {xs : Array Value} (ks : List Mem) {al : List (List Key)} {Q : Value → Shared → Prop} (hh : A.handled = none) (hl : s.heap.IsList l xs) (hx : xs.toList = ks.map fun p => Value.ref p.1) (hk : ∀ p ∈ ks, Tp P w s.heap p.2 p.1)
    (hal : al.length ≤ 72) (hka : ∀ p ∈ ks, p.2 ∈ al) (hu : A.units + 3 < cLine)
    (q : ∀ h' tk L es ep t, Ob h' s.heap.objs.size es ep t → Tb P w L es t → Half ks ks.length L → (∀ b o, s.heap.get? b = some o → h'.get? b = some o) → Q (.ref s.heap.objs.size) { s with heap := h', toks := tk }) :
    wpAny (model P w) A (call (.type "set") [.ref l]) Q E s := by
  have hlen : xs.size = ks.length := by simpa using congrArg List.length hx
  obtain ⟨o, ho, _⟩ := id hl
  have hlt : l < s.heap.objs.size := Heap.lt_size ho
  have sz : (s.heap.push (newO w)).objs.size = s.heap.objs.size + 1 := Heap.size_push ..
  have far : ∀ b, s.heap.objs.size ≤ b → s.heap.get? b = none := fun b hb => by
    cases e : s.heap.get? b with
    | none => rfl
    | some o => exact absurd (Heap.lt_size e) (Nat.not_lt.mpr hb)
  have nl : l ≠ (s.heap.push (newO w)).objs.size := by rw [sz]; exact Nat.ne_of_lt (Nat.lt_succ_of_lt hlt)
  have h3 : A.in1.in1.in1.handled = none := by simp [hh]
  refine call_set_by hl (upd_loop (B := A.in1.in1) (Walks.list (A := A.in1.in1.in1) h3 _ l nl xs).toS (fun z => ?_) ks hlen hal hka (fun i v e => ?_) hk (far _ (Nat.le_refl _)) (fun b hb => far b ?_) hu xs.size 0 _ rfl (Nat.zero_le _) ?_ (fun b o e => ?_) ⟨[], #[], 0, _, ?_, tb_new, ⟨(fun _ z => nomatch z), (fun p z => by rw [List.take_zero] at z; cases z)⟩⟩ fun s' L es ep t m O T g kp => ⟨rfl, ?_⟩)
  · rw [List.mem_cons, List.mem_singleton, sz] at z
    exact z.elim (Nat.ne_of_lt (Nat.lt_succ_self _)) (Nat.ne_of_gt hlt)
  · have e2 : (ks.map fun p => Value.ref p.1)[i]? = some v := by
      rw [← hx, Array.getElem?_toList]
      exact e
    rw [List.getElem?_map] at e2
    obtain ⟨p, h1, h2⟩ := Option.map_eq_some_iff.mp e2
    exact ⟨p, h1, h2.symm⟩
  · rw [List.mem_singleton.mp hb, sz]
    exact Nat.le_succ _
  · exact ⟨⟨_, Heap.get?_push_size _ rfl, rfl, rfl⟩, (hl.push _).push _⟩
  · exact Heap.get?_push_of_some _ (Heap.get?_push_of_some _ e)
  · exact ⟨_, Heap.get?_push_of_some _ (Heap.get?_push_size _ rfl), ⟨rfl, rfl, rfl⟩, rfl⟩
  · rw [m.eq_with]
    rw [hlen] at g
    exact q _ _ L es ep t O T g kp
end
end J
/-! Sets of mixed tuples: the rules (first told, proved below). -/
namespace J
open PySem PySem.Spec PyProof.Rows L2
/-- the key of a pair (word, turn); of a stand -/
def kPr (p : PySem.Str × Int) : List Key := [.inr p.1, .inl p.2]
def kSt (p : Stand) : List Key := [.inr p.1, .inr p.2.1, .inl p.2.2.1, .inl p.2.2.2]
/-- a set of tuples: where they stand, what they hold -/
def MsOk (P : Program) (w : World) (h : Heap) (a : Addr) (L : List (Addr × List Key)) : Prop := ∃ es ep t, Ob h a es ep t ∧ Tb P w L es t
def MsO (P : Program) (w : World) (a : Addr) (L : List (Addr × List Key)) : HO := .ext fun h => MsOk P w h a L
theorem msO_new {P : Program} {w : World} {H : Hp} {h : Heap} {a : Addr} {L : List (Addr × List Key)} {es : Array (Int × Value)} {ep : Nat} {t : SetTable} (O : Ob h a es ep t) (T : Tb P w L es t) : ObjOk P w H h a (MsO P w a L) := by
  obtain ⟨o, ho, z⟩ := id O
  refine ⟨⟨es, ep, t, O, T⟩, ⟨o, ho⟩, fun h1 h2 p k => ?_⟩
  obtain ⟨es2, ep2, t2, ⟨o2, ho2, z2⟩, T2⟩ := p
  exact ⟨es2, ep2, t2, ⟨o2, k o2 ho2, z2⟩, T2⟩
/-- a comprehension of any kind over a walk -/
theorem cg_it {J : It} {n : Nat} {G : Hp → Prop} {Y : Nat → Hp → V → Hp → Prop} (w : Walk J n G Y) {u0 : Addr → HO} {g : TG} {tt : TT} {ts : L2.St → Hp → Addr → (Hp → Prop) → Prop} {vs : List Nat} {σ : L2.St} {H1 : Hp} {D : Addr} {Qd : Hp → Prop}
    (Pv : Nat → Hp → Prop) (h0 : Pv 0 (upd H1 D (u0 D))) (hG : ∀ i H, i ≤ n → Pv i H → G H)
    (hs : ∀ i x H H', i < n → Pv i H → Y i H x H' → g x (wipe σ vs) H' fun σ2 H2 => wipe σ2 vs = wipe σ vs ∧ tt σ2 H2 fun b H3 => if b = true then ts σ2 H3 D (Pv (i + 1)) else Pv (i + 1) H3) (hd : ∀ H, Pv n H → Qd H) :
    ∃ W : Nat → Nat → Hp → Prop, (∃ m, W 0 m (upd H1 D (u0 D))) ∧ ∀ i m H, W i m H →
      (J.stop i H ∧ Qd H) ∨ (J.go i H ∧ ∃ Nx : Hp → Prop, (∀ H', Nx H' → ∃ m', m' < m ∧ W (i + 1) m' H') ∧ ∀ x H', J.yld i H x H' → g x (wipe σ vs) H' fun σ2 H2 => wipe σ2 vs = wipe σ vs ∧ tt σ2 H2 fun b H3 =>
        if b = true then ts σ2 H3 D Nx else Nx H3) := by
  refine ⟨fun i m H => i ≤ n ∧ m = n - i ∧ Pv i H, ⟨n, Nat.zero_le _, by simp, h0⟩, ?_⟩
  rintro i m H ⟨hi, rfl, p⟩
  have gg := hG i H hi p
  rcases Nat.lt_or_ge i n with c | c
  · exact .inr ⟨w.goes i H c gg, Pv (i + 1), fun H' p' => ⟨n - (i + 1), by omega, c, rfl, p'⟩, fun x H' y => hs i x H H' c p (w.yields i H x H' c gg y)⟩
  · obtain rfl : i = n := by omega
    exact .inl ⟨w.stops H gg, hd H p⟩
theorem yesT2 {σ : L2.St} {H : Hp} {A B : Hp → Prop} (h : A H) : tYes σ H (fun b H3 => if b = true then A H3 else B H3) := iteT (B := B H) (show A H from h)
section
variable {X : Cx}
/-- one kept turn of {e for ..} -/
def tScM (P : Program) (w : World) (te : TE) : L2.St → Hp → Addr → (Hp → Prop) → Prop := fun σ H D N => te σ H fun y H1 => ∃ b k L, y = .ref b ∧ H1 b = some (.tup (k.map kV)) ∧ H1 D = some (MsO P w D L) ∧ (∀ p ∈ L, H1 p.1 = some (.tup (p.2.map kV))) ∧ L.length < 70 ∧
  ∀ L', (k ∈ L.map (·.2) → L' = L) → (k ∉ L.map (·.2) → L'.Perm ((b, k) :: L)) → N (upd H1 D (MsO P w D L'))
/-- set.add of a tuple -/
theorem call_addM {D b : Addr} {k : List Key} {L : List Mem} {es : Array (Int × Value)} {ep : Nat} {t : SetTable} {P : Program} {w : World} {A : Around} {E : Value → Shared → Prop} {s : Shared} {Q : Value → Shared → Prop} (T : Tb P w L es t) (O : Ob s.heap D es ep t) (tup : ∀ p ∈ L, Tp P w s.heap p.2 p.1) (hx : Tp P w s.heap k b) (hu : A.units + 4 < cLine) (few : L.length < 76)
    (q : ∀ h' tk L' es' ep' t', Heap.SameBut D s.heap h' → Ob h' D es' ep' t' → Tb P w L' es' t' → (k ∈ L.map (·.2) → L' = L) → (k ∉ L.map (·.2) → L'.Perm ((b, k) :: L)) → Q .none { s with heap := h', toks := tk }) : wpAny (model P w) A (call (.builtin "set.add") [.ref D, .ref b]) Q E s := by
  obtain ⟨o, ho, hx1, hd⟩ := id O
  refine wpAny_call_entry F.slot_set_add ⟨o, ho, hx1.1⟩ F.entry_set_add ?_ (F.args_set_add_2 _ _)
  unfold Builtin.«set.add» Builtin.Frozenset.oneOther
  simp only [List.isEmpty_nil, bind_assoc]
  unfold Builtin.Frozenset.addrOf
  refine wpAny_bind (wpAny_pure ?_)
  try dsimp only
  refine wpAny_bind (wpAny_pure ?_)
  try dsimp only
  refine wpAny_bind (set_add T O tup hx (show A.units + 1 < cLine by omega) (fun _ => few) fun c h' tk L' es' ep' t' _ sb O' T' c1 c2 => ?_)
  exact wpAny_pure ⟨_, rfl, q h' tk L' es' ep' t' sb O' T' c1 c2⟩
/-- .. over the heap's reading -/
theorem addM_ok {pins : List (Addr × Obj)} {σ : L2.St} {H : Hp} {s : Shared} {E : Value → Shared → Prop} {D b : Addr} {k : List Key} {L : List Mem} {Q : Value → Shared → Prop} (hu : X.A.units + 64 < cLine) (I : Inv X pins σ H s) (hb : H b = some (.tup (k.map kV))) (hD : H D = some (MsO X.prog X.w D L))
    (hL : ∀ p ∈ L, H p.1 = some (.tup (p.2.map kV))) (few : L.length < 70) (q : ∀ s' L', (k ∈ L.map (·.2) → L' = L) → (k ∉ L.map (·.2) → L'.Perm ((b, k) :: L)) → Inv X pins σ (upd H D (MsO X.prog X.w D L')) s' → Q .none s') : wpAny (model X.prog X.w) X.A (call (.builtin "set.add") [.ref D, .ref b]) Q E s := by
  obtain ⟨es, ep, t, O, T⟩ := (I.hok D _ hD).1
  refine call_addM T O (fun p m => key_of I.hok (hL p m)) (key_of I.hok hb) (by omega) (by omega) fun h' tk L' es' ep' t' sb O' T' c1 c2 => q _ L' c1 c2 ?_
  obtain ⟨o, ho, _⟩ := id O'
  exact I.write (e := D) (t' := tk) (by rw [hD]; trivial) (.inl rfl) (fun b u hb hu => (sb.2 b hb).trans hu) ⟨o, ho⟩ (msO_new O' T')
def sScM (ex : Expr) (prog : Program) (w : World) (A : Around) : Stores := fun env D Kt E s => wpAny (model prog w) A (eval ex env) (fun x s4 => wpAny (model prog w) A (call (.builtin "set.add") [.ref D, x]) (fun _ s5 => Kt s5) E s4) E s
theorem arm_SetComp {env : Env} (ex : Expr) (gens : List Comprehension) (scope : Scope) (pos : Pos) : eval (.SetComp ex gens scope pos) env = comprehension (.SetComp ex gens scope pos) scope env (firstIterPos gens pos) (newSet (.type "set")) (firstAsync gens) (firstIter gens env) := rfl
theorem pe_scM {ex tg iter : Expr} {ifs : List Expr} {scope : Scope} {own : List (PySem.Str × Nat)} {pos : Pos} {wi : TI} {g : TG} {tt : TT} {te : TE} (hu : X.A.units + 64 < cLine) (hc : X.calm = true) (hN : X.N.Nodup) (hi : PI X tg iter wi) (ok : BlkOk X.N X.env.scope scope own)
    (hg : ∀ (s : Shared) (H : Hp) (C : Addr) (cl : List (PySem.Str × Addr)) (fp : List Addr), PG (X.blk s H scope (compEnvC scope cl C X.env) fp) tg g) (ht : ∀ (s : Shared) (H : Hp) (C : Addr) (cl : List (PySem.Str × Addr)) (fp : List Addr), PTs (X.blk s H scope (compEnvC scope cl C X.env) fp) ifs tt)
    (he : ∀ (s : Shared) (H : Hp) (C : Addr) (cl : List (PySem.Str × Addr)) (fp : List Addr), PE (X.blk s H scope (compEnvC scope cl C X.env) fp) ex te) (hs : ∀ x, foldedSetIterable iter X.env x = pure x := by intro _; rfl) :
    PE X (.SetComp ex [⟨tg, iter, ifs, 0⟩] scope pos) (tCg (fun a => MsO X.prog X.w a []) wi g tt (tScM X.prog X.w te) (own.map (·.2))) := by
  refine ⟨fun pins s σ H Q I h => ?_⟩
  rw [arm_SetComp]
  refine cg_core (S := sScM ex X.prog X.w X.A) (o0 := newO X.w) rfl (fun s Q E q => wpAny_newSet_raw fun led e => by rw [e]; exact q) (fun H' s' σ' I' => msO_new ⟨_, Heap.get?_push_size _ rfl, ⟨rfl, rfl, rfl⟩, rfl⟩ tb_new)
    (fun R s it D env I turn n h => compLoop_set_any I turn n h) (fun R s it acc env h0 h1 => codeAny_compStart_set h0 h1) (fun s3 H3 C cl fp pn σ8 H9 s9 D N Kt E I9 q fin => ?_) hc hN I hi ok hg ht hs h fun D C s' m H' I' q hn f => ⟨m, hn, fun h'' sb => ?_⟩
  · refine thnF ((he s3 H3 C cl fp).run _ s9 σ8 H9 _ I9 q) fun u s10 ⟨y, H10, I10, r10, b, k, L, ey, hb, hD, hL, few, nx⟩ => ?_
    subst ey
    have eu : u = Value.ref b := r10
    subst eu
    exact addM_ok (X := X.blk s3 H3 scope (compEnvC scope cl C X.env) fp) hu I10 hb hD hL few fun s11 L' c1 c2 I11 => fin s11 _ I11 (nx L' c1 c2)
  · obtain ⟨f0, f1, f2, f3, f4, f5⟩ := f
    exact ⟨.ref D, H', I'.turned (t' := s'.toks) (fun b o hb e => (sb.2 b hb).trans e) f0 f1 f3 f4 f5, rfl, q⟩
/-- len(set) -/
def rLenMs (P : Program) (w : World) : List V → Hp → VK → Prop := fun xs H Q => ∃ a L, xs = [.ref a] ∧ H a = some (MsO P w a L) ∧ Q (.int ((L.length : Nat) : Int)) H
theorem call_lenMs : CallR X (.builtin "len") (rLenMs X.prog X.w) := by
  intro pins s σ H xs us Q I r h
  obtain ⟨a, L, rfl, ha, q⟩ := h
  obtain ⟨es, ep, t, ⟨o, ho, hx, hd⟩, T⟩ := (I.hok a _ ha).1
  rw [Vals.ref1 r]
  have e := T.len
  have r1 := T.roo
  have r2 : t.mask ≤ 127 := by rcases T.tab.mok with z | z | z <;> omega
  refine call_len_set ho hx hd T.fit (by rw [e]; omega) ⟨.int _, H, I.tok _, ⟨_, rfl⟩, ?_⟩
  rw [e]
  exact q
/-- set(list of tuples) -/
def rSetM (K : PySem.W.Frag) (P : Program) (w : World) : List V → Hp → VK → Prop := fun xs H Q => ∃ (l : Addr) (ks : List (Addr × List Key)), xs = [.ref l] ∧ SqL K H l (ks.map fun p => V.ref p.1) ∧ (∀ p ∈ ks, H p.1 = some (.tup (p.2.map kV))) ∧ ks.length < 1000 ∧
  (∃ all : List (List Key), all.length ≤ 72 ∧ ∀ p ∈ ks, p.2 ∈ all) ∧
  ∀ a L, H a = none → (L.map (·.2)).Nodup → (∀ p ∈ L, p ∈ ks) → (∀ p ∈ ks, p.2 ∈ L.map (·.2)) → Q (.ref a) (upd H a (MsO P w a L))
theorem val_refs {us : List Value} : ∀ {ks : List Mem}, Vals (ks.map fun p => V.ref p.1) us → us = ks.map fun p => Value.ref p.1 := by
  induction us with
  | nil => intro ks h; cases ks with
    | nil => rfl
    | cons p r => cases h
  | cons u us ih => intro ks h; cases ks with
    | nil => cases h
    | cons p r =>
      cases h with
      | cons h1 h2 =>
        cases h1
        rw [List.map_cons, ih h2]
theorem cr_setM (hc : X.calm = true) (hu : X.A.units + 64 < cLine) : CallR X (.type "set") (rSetM X.K X.prog X.w) := by
  intro pins s σ H xs us Q I r h
  obtain ⟨l, ks, rfl, hl, hk, _, ⟨al, hal, hka⟩, q⟩ := h
  rw [Vals.ref1 r]
  obtain ⟨its, rv, pl, hz⟩ := I.list hl
  refine call_set_mix ks (I.ok.hd hc) pl.isList (by simpa using val_refs rv) (fun p hp => key_of I.hok (hk p hp)) hal hka (by omega) fun h' tk L es ep t O T g kp => ?_
  rw [show ks.length = ks.length from rfl] at g
  refine ⟨.ref s.heap.objs.size, upd H s.heap.objs.size (MsO X.prog X.w s.heap.objs.size L), I.laid (t' := tk) kp (Nat.le_refl _) (msO_new O T), rfl, q _ L (I.hok.fresh (Nat.le_refl _)) T.one (fun p hp => List.mem_of_mem_take (g.sub p hp)) fun p hp => g.all p (by rw [List.take_length]; exact hp)⟩
theorem each_perm {α β : Type} {R : α → β → Prop} {as' as : List α} (p : as'.Perm as) : ∀ {bs : List β}, PySem.W.EachIs R as bs → ∃ bs', PySem.W.EachIs R as' bs' ∧ bs'.Perm bs := by
  induction p with
  | nil => exact fun {bs} e => ⟨bs, e, .refl _⟩
  | cons x p ih =>
    intro bs e
    cases e with
    | cons h t =>
      obtain ⟨b2, e2, p2⟩ := ih t
      exact ⟨_ :: b2, .cons h e2, p2.cons _⟩
  | swap x y l =>
    intro bs e
    cases e with
    | cons h t => cases t with
      | cons h2 t => exact ⟨_, .cons h2 (.cons h t), .swap ..⟩
  | trans p1 p2 h1 h2 =>
    intro bs e
    obtain ⟨b2, e2, z2⟩ := h2 e
    obtain ⟨b1, e1, z1⟩ := h1 e2
    exact ⟨b1, e1, z1.trans z2⟩
theorem stand_reads {pins : List (Addr × Obj)} {σ : L2.St} {H : Hp} {s : Shared} {b : Addr} {p : Stand} (I : Inv X pins σ H s) (hb : H b = some (.tup ((kSt p).map kV))) : Reads s.heap (.ref b) (eStand p) [] := by
  obtain ⟨_, its, r, o, h1, h2, n, h3⟩ := (show ObjOk X.prog X.w H s.heap b (.tup [.str p.1, .str p.2.1, .int p.2.2.1, .int p.2.2.2]) from I.hok b _ hb)
  cases r with
  | cons r1 r => cases r with
    | cons r2 r => cases r with
      | cons r3 r => cases r with
        | cons r4 r => cases r with
          | nil =>
            obtain ⟨t1, rfl⟩ := r1
            obtain ⟨t2, rfl⟩ := r2
            obtain ⟨t3, rfl⟩ := r3
            obtain ⟨t4, rfl⟩ := r4
            exact .tuple h1 h2 h3 (.cons (as := []) (.str _ _) (.cons (as := []) (.str _ _) (.cons (as := []) (.int _ _) (.cons (as := []) (.int _ _) .nil))))
/-- u is the tuple of the stand b -/
abbrev SR (H : Hp) : Value → Stand → Prop := fun u b => ∃ a, u = .ref a ∧ H a = some (.tup ((kSt b).map kV))
theorem sr_out {H : Hp} : ∀ {us : List Value} {bs : List Stand}, PySem.W.EachIs (SR H) us bs → ∃ vs : List V, Vals vs us ∧ SdAll H vs (bs.map eStand)
  | _, _, .nil => ⟨[], .nil, .nil⟩
  | _, _, .cons h t => by
    obtain ⟨vs, h1, h2⟩ := sr_out t
    obtain ⟨a, rfl, ha⟩ := h
    exact ⟨.ref a :: vs, .cons rfl h1, .cons (stand_sd ha) h2⟩
/-- a list of such tuples, made and sorted -/
theorem sort_tail {pins : List (Addr × Obj)} {σ : L2.St} {H : Hp} {s : Shared} {B : Around} {E : Value → Shared → Prop} {Kt : PySem.Fin → Shared → Prop} (I : Inv X pins σ H s) {vs : List Value} {bs : List Stand} (e : PySem.W.EachIs (SR H) vs bs) (hz : vs.length ≤ sizeLine) (hB : B.units + 20 < cLine)
    (q : ∀ (p : Addr) (us : List V) (ys : List Stand) (s' : Shared), H p = none → ys.Perm bs → SdAll H us (ys.map eStand) → Inv X pins σ (upd H p (.lst us)) s' → Kt (.done (.ret (.ref p))) s') :
    wpAny (model X.prog X.w) B (do let l ← newList vs; let _ ← holding [l] (call (.builtin "list.sort") [l]); ret l) Kt E s := by
  refine wpAny_bind (wpAny_newList ?_ hz)
  have ho : (s.heap.push (seqObj "list" vs.toArray 0)).get? s.heap.objs.size = some (seqObj "list" vs.toArray 0) := Heap.get?_push_size _ rfl
  have er : PySem.W.EachIs (fun v b => ∃ as, Reads (s.heap.push (seqObj "list" vs.toArray 0)) v (eStand b) as ∧ s.heap.objs.size ∉ as) vs bs := e.mono fun u b h => by
    obtain ⟨a, rfl, ha⟩ := h
    exact ⟨[], Reads.keeps (fun _ _ => Heap.get?_push_of_some _) (stand_reads I ha), fun z => nomatch z⟩
  refine wpAny_bind (wpAny_holding (PySem.W.list_sort_data (s := { s with heap := s.heap.push (seqObj "list" vs.toArray 0) }) ho e er (PySem.W.AllAlike.of alike_stand) (PySem.W.Sortable.tuples sort_stand) (by rw [← e.length]; exact hz) (fun b _ => by have := dep_stand b; omega) fun out hl eo => ?_))
  obtain ⟨us, h1, h2⟩ := sr_out eo
  obtain ⟨c, hc⟩ := sortedHeap_at (vs := vs) (out := out.toArray) ho
  have lu : us.length ≤ sizeLine := by rw [h1.length, hl, ← e.length]; exact hz
  refine wpAny_pure (q s.heap.objs.size us _ _ (I.hok.fresh (Nat.le_refl _)) (List.mergeSort_perm _ _) h2 (I.laid (t' := s.toks) (fun b u eu => ?_) (Nat.le_refl _) (show ObjOk X.prog X.w _ _ _ (.lst us) from ⟨lu, out, c, h1, hc⟩)))
  have lt := Heap.lt_size eu
  rw [sortedHeap_old (Nat.ne_of_lt lt) (by rw [size_push']; exact Nat.lt_succ_of_lt lt)]
  exact Heap.get?_push_of_some _ eu
theorem sr_keys {H : Hp} : ∀ {L : List Mem} {sts : List Stand}, L.map (·.2) = sts.map kSt → (∀ p ∈ L, H p.1 = some (.tup (p.2.map kV))) → PySem.W.EachIs (SR H) (L.map fun p => Value.ref p.1) sts
  | [], [], _, _ => .nil
  | [], _ :: _, e, _ => by cases e
  | _ :: _, [], e, _ => by cases e
  | p :: L, b :: sts, e, h => by
    rw [List.map_cons, List.map_cons] at e
    injection e with e1 e2
    exact .cons ⟨p.1, rfl, by rw [← e1]; exact h p (List.mem_cons_self ..)⟩ (sr_keys e2 fun p m => h p (List.mem_cons_of_mem _ m))
/-- sorted(set of stands) -/
def rSortedM (P : Program) (w : World) : List V → Hp → VK → Prop := fun vs H Q => ∃ (a : Addr) (L : List (Addr × List Key)) (sts : List Stand), vs = [.ref a] ∧ H a = some (MsO P w a L) ∧ L.map (·.2) = sts.map kSt ∧ (∀ p ∈ L, H p.1 = some (.tup (p.2.map kV))) ∧
  ∀ (p : Addr) (us : List V) (ys : List Stand), H p = none → ys.Perm sts → SdAll H us (ys.map eStand) → Q (.ref p) (upd H p (.lst us))
theorem cr_sortedM (hc : X.calm = true) (hu : X.A.units + 64 < cLine) : CallR X (.builtin "sorted") (rSortedM X.prog X.w) := by
  intro pins s σ H vs us Q I r h
  obtain ⟨a, L, sts, rfl, ha, hL, hk, q⟩ := h
  obtain ⟨es, ep, t, ⟨o, ho, hx, hd⟩, T⟩ := (I.hok a _ ha).1
  have r1 := T.roo
  have r2 : t.mask ≤ 127 := by rcases T.tab.mok with z | z | z <;> omega
  have el := T.len
  rw [Vals.ref1 r]
  refine Calls.call_function_entry kind_sorted plain_sorted entry_sorted (args_sorted1 _) ?_
  unfold Builtin.«sorted»
  refine wpAny_bind (m := checkCount "sorted" 1 1 _) (wpAny_pure (wpAny_bind (collect_set (A := X.A.in1) (I.ok.hd hc) ⟨o, ho, hx.1, hd⟩ T.fit (by unfold scanBound; omega) T.tab.ris T.led fun s1 vs k1 _ g1 o1 pm => ?_)))
  have I1 : Inv X pins σ H s1 := I.call' (ch := []) o1 (Un.kept k1) (I.hok.kept k1) (by rw [g1]; exact I.bare) (fun _ z => nomatch z)
  have hes : es.toList.map (·.2) = L.map fun p => Value.ref p.1 := by
    rw [T.row, List.map_map]
    rfl
  rw [hes] at pm
  obtain ⟨bs, eb, pb⟩ := each_perm pm (sr_keys hL hk)
  refine sort_tail I1 eb (by rw [pm.length_eq, List.length_map, sizeLine_eq]; omega) (show X.A.units + 1 + 20 < cLine by omega) fun p us ys s' hp py hs I2 => ⟨_, rfl, .ref p, _, I2, rfl, q p us ys hp (py.trans pb) hs⟩
theorem sr_dict {H : Hp} {kvs : List (List Key × V)} {ks : List (List Key × Addr × Value)} (r : KT H kvs ks) : ∀ {sts : List Stand}, kvs.map (·.1) = sts.map kSt → PySem.W.EachIs (SR H) (ks.map fun x => Value.ref x.2.1) sts := by
  unfold KT at r
  induction r with
  | nil =>
    intro sts e
    cases sts with
    | nil => exact .nil
    | cons b sts => cases e
  | @cons p k ps ks h t ih =>
    intro sts e
    cases sts with
    | nil => cases e
    | cons b sts =>
      rw [List.map_cons, List.map_cons] at e
      injection e with e1 e2
      exact .cons ⟨k.2.1, rfl, by rw [← e1]; exact h.2.1⟩ (ih e2)
/-- sorted(dict whose keys are stands) -/
def rSortedDT : List V → Hp → VK → Prop := fun vs H Q => ∃ (d : Addr) (kvs : List (List Key × V)) (sts : List Stand), vs = [.ref d] ∧ Rd H d (.dT kvs) ∧ kvs.map (·.1) = sts.map kSt ∧
  ∀ (p : Addr) (us : List V) (ys : List Stand), H p = none → ys.Perm sts → SdAll H us (ys.map eStand) → Q (.ref p) (upd H p (.lst us))
theorem cr_sortedDT (hc : X.calm = true) (hu : X.A.units + 64 < cLine) : CallR X (.builtin "sorted") rSortedDT := by
  intro pins s σ H vs us Q I r h
  obtain ⟨d, kvs, sts, rfl, hd, hL, q⟩ := h
  obtain ⟨z, hs, ks, pr, o, es, ep, ho, hx, hdt, he, hn⟩ := (show ObjOk X.prog X.w H s.heap d (.dT kvs) from hd.ok I.hok)
  have l1 : es.size = ks.length := size_of_entries he
  have l2 : kvs.length = ks.length := Paired.length pr
  rw [Vals.ref1 r]
  refine Calls.call_function_entry kind_sorted plain_sorted entry_sorted (args_sorted1 _) ?_
  unfold Builtin.«sorted»
  refine wpAny_bind (m := checkCount "sorted" 1 1 _) (wpAny_pure (wpAny_bind (PySem.W.kdu_collect (A := X.A.in1) (kdl_raw hs hx hdt) (I.ok.hd hc) ho (by omega) fun h' tk acc kp it => ?_)))
  have I1 : Inv X pins σ H { s with heap := h', toks := tk } := I.kept kp
  have ea : acc.toList = ks.map fun x => Value.ref x.2.1 := by
    apply List.ext_getElem?
    intro j
    have qe := entry_at he j
    rw [List.getElem?_map, Array.getElem?_toList]
    cases hb : ks[j]? with
    | none =>
      have hj := List.getElem?_eq_none_iff.mp hb
      exact Array.getElem?_eq_none (by rw [it.1, l1]; exact hj)
    | some b =>
      have hj := (List.getElem?_eq_some_iff.mp hb).1
      have hj2 : j < acc.size := by rw [it.1, l1]; exact hj
      obtain ⟨en, e1, e2⟩ := it.2 j _ (Array.getElem?_eq_getElem hj2)
      rw [Array.getElem?_eq_getElem hj2, e2]
      rw [e1, hb] at qe
      rw [Option.some.inj qe]
      rfl
  refine sort_tail I1 (bs := sts) (by rw [ea]; exact sr_dict pr hL) (by rw [ea, List.length_map]; omega) (show X.A.units + 1 + 20 < cLine by omega) fun p us ys s' hp py hs I2 => ⟨_, rfl, .ref p, _, I2, rfl, q p us ys hp py hs⟩
end
end J
/-! Names, rules of a machine. -/
namespace J
open PySem PySem.Spec PyProof.Rows L2
def norm (n : Int) (r : Tri) : Tri := (r.1, r.2.1 % n, r.2.2)
def sortTri (l : List Tri) : List Tri := l.mergeSort (PySem.W.dataLe false eTri)
theorem sortTri_perm (l : List Tri) : (sortTri l).Perm l := List.mergeSort_perm _ _
def NameOk (x : PySem.Str) : Prop := x = "start" ∨ x = "b" ∨ x = "wobble"
structure RulesOk (n : Int) (rs : List (PySem.Str × List Tri)) : Prop where
  lo : 2 ≤ n
  hi : n ≤ 360
  nd : (rs.map (·.1)).Nodup
  few : 1 ≤ rs.length ∧ rs.length ≤ 3
  names : ∀ x ∈ rs.map (·.1), NameOk x
  start : (("start" : PySem.Str)) ∈ rs.map (·.1)
  len : ∀ p ∈ rs, p.2.length ≤ 8
  word : ∀ p ∈ rs, ∀ r ∈ p.2, r.1 = "push" ∨ r.1 = "squeeze"
  goal : ∀ p ∈ rs, ∀ r ∈ p.2, r.2.2 ∈ rs.map (·.1)
  turns : ∀ p ∈ rs, (p.2.map fun r => (r.1, r.2.1 % n)).Nodup
theorem look_of_mem {β : Type} {ws : List (PySem.Str × β)} {x : PySem.Str} (h : x ∈ ws.map (·.1)) : ∃ b, JM.look ws x = some b := by
  cases e : JM.look ws x with
  | some b => exact ⟨b, rfl⟩
  | none =>
    obtain ⟨p, hp, rfl⟩ := List.mem_map.mp h
    exact absurd hp (JM.look_none.mp e p.2)
section
variable {P : Program} {w : World} {K : PySem.W.Frag} {mg : Str → Option Value} {base : Heap}
theorem item_at {β : Type} {enc : β → PyData} {H : Hp} {us : List V} {l : List β} {i : Nat} {u : V} (h : SdAll H us (l.map enc)) (e : us[i]? = some u) : ∃ z, l[i]? = some z ∧ Sd H u (enc z) := by
  obtain ⟨d, hd, hs⟩ := h.of e
  obtain ⟨z, hz, rfl⟩ := at_map hd
  exact ⟨z, hz, hs⟩
theorem sda_len {β : Type} {enc : β → PyData} {H : Hp} {us : List V} {l : List β} (h : SdAll H us (l.map enc)) : us.length = l.length := by rw [h.len, List.length_map]

def ltrs : PySem.Str := "abcdefghijklmnopqrstuvwxyz"
def sp_is_name : Sp := fun vs H Q _ => ∃ x : PySem.Str, vs = [.str x] ∧ (1 ≤ x.length ∧ x.length ≤ 12) ∧ (∀ c ∈ x.cps.toList, c ∈ ltrs.cps.toList) ∧ ∀ H', Same H H' → Q (.bl true) H'
theorem sc_is_name : FnScope ["thing", "letter"] ["thing"] (defScope s_is_name) := ⟨rfl, rfl, rfl, by decide +kernel, rfl, by decide +kernel, by decide +kernel⟩
-- slots: 0 thing, 1 letter
theorem ok_is_name (T : Wd K mg) : FnOk P w K mg base CX0 1 T.is_name.f T.is_name.fd ["thing"] sp_is_name := by
  refine T.is_name.F.ok sc_is_name (fun vs H Q E h => ?_) (fun cdv A outer s H vs Q E hr h => ?_)
  · obtain ⟨x, rfl, _⟩ := h
    rfl
  · obtain ⟨x, rfl, hl, hc, q⟩ := h
    refine ⟨_, PSs.nox (pss_one (ps_ret (pe_and (pe_callB call_isi (by rfl) T.n_isinstance (by decide +kernel) (pa_cons (pv 0) (pa_cons (pe_bltn (v := .ty "str") (by rfl) T.n_str (by decide +kernel) rfl) pa_nil))) (pe_and (pe_chain op_le op_le pe_int (pe_callB call_len_str (by rfl) T.n_len (by decide +kernel) (pa_cons (pv 0) pa_nil)) pe_int) (pe_one (pe_callB (cr_all rfl) (by rfl) T.n_all (by decide +kernel) (pa_cons (pe_lc (own := [("letter", 1)]) (g := gName 1) rfl sc_is_name.nd (pi_str (pv 0)) (blkOk_by (own := [("letter", 1)]) (N := ["thing", "letter"]) (sc := defScope s_is_name) (by decide +kernel)) (fun _ _ _ _ _ => (pg_name (i := 1) sc_is_name.nd rfl (.inl rfl))) (fun _ _ _ _ _ => pts_nil) (fun _ _ _ _ _ => (pe_cmpR op_in_sign (pv 1) (pe_glob (v := .str "abcdefghijklmnopqrstuvwxyz") (by rfl) T.m_LETTERS ⟨_, rfl⟩) rfl))) pa_nil)))))))
, ?_⟩
    refine ⟨_, rfl, _, _, _, _, true, rfl, .ty _, .base (.str x), kit_ty (by decide +kernel), true, rfl, iteT ?_⟩
    refine ⟨_, rfl, x, rfl, Nat.le_trans hl.2 (by decide), 1, _, rfl, rfl, true, d_true (by omega), iteT ⟨_, 12, rfl, rfl, true, d_true (by omega), iteT ?_⟩⟩
    refine ⟨_, rfl, x, rfl, fun D hD => ?_⟩
    refine lc_pure walk_str x.cps.toList (fun c => some (decide (c ∈ ltrs.cps.toList))) PyData.bool (by simp) (Nat.le_trans hl.2 (by decide)) hD (fun _ _ => trivial) (fun i z x' H1 H2 N N0 hz s1 y hN hN0 => ?_) fun H5 us5 s4 hD5 hu5 => ?_
    · obtain ⟨rfl, c, e2, rfl⟩ := y
      have e3 : c = z := by
        rw [Array.getElem?_toList, e2] at hz
        exact Option.some.inj hz
      subst e3
      exact ⟨rfl, yesT ⟨_, rfl, c, ltrs, rfl, rfl, hN _ _ _ (Same.refl _) rfl (.bl _)⟩⟩
    · rw [show x.cps.toList.filterMap (fun c => some (decide (c ∈ ltrs.cps.toList))) = x.cps.toList.map (fun c => decide (c ∈ ltrs.cps.toList)) by simp] at hu5
      refine ⟨D, _, rfl, SqL.of (by rw [hD5, sda_bls hu5]), ?_⟩
      have e : (x.cps.toList.map fun c => decide (c ∈ ltrs.cps.toList)).all id = true := by
        rw [List.all_eq_true]
        intro b hb
        obtain ⟨c, hcm, rfl⟩ := List.mem_map.mp hb
        exact decide_eq_true (hc c hcm)
      rw [e]
      exact q _ s4

def sp_is_rule : Sp := fun vs H Q _ => ∃ (v : V) (r : Tri) (d : Addr) (kvs : List (Key × V)), vs = [v, .ref d] ∧ Sd H v (eTri r) ∧ (r.1 = "push" ∨ r.1 = "squeeze") ∧ Rd H d (.dK kvs) ∧ (valV kvs (.inr r.2.2)).isSome = true ∧ Q (.bl true) H
theorem sc_is_rule : FnScope ["thing", "states"] ["thing", "states"] (defScope s_is_rule) := ⟨rfl, rfl, rfl, by decide +kernel, rfl, by decide +kernel, by decide +kernel⟩
-- slots: 0 thing, 1 states
theorem ok_is_rule (T : Wd K mg) : FnOk P w K mg base CX0 2 T.is_rule.f T.is_rule.fd ["thing", "states"] sp_is_rule := by
  have G_is_integer := ok_is_integer (P := P) (w := w) (base := base) T
  have G_is_word := ok_is_word (P := P) (w := w) (base := base) T
  refine T.is_rule.F.ok sc_is_rule (fun vs H Q E h => ?_) (fun cdv A outer s H vs Q E hr h => ?_)
  · obtain ⟨v, r, d, kvs, rfl, _⟩ := h
    rfl
  · obtain ⟨v, r, d, kvs, rfl, hv, hw, hd, hk, q⟩ := h
    obtain ⟨a, rfl, ha⟩ := sd_tri hv
    refine ⟨_, PSs.nox (pss_cons (ps_if (PW.pt (pw_or (pt_not (pt_val (pe_callB call_isi (by rfl) T.n_isinstance (by decide +kernel) (pa_cons (pv 0) (pa_cons (pe_bltn (v := .ty "tuple") (by rfl) T.n_tuple (by decide +kernel) rfl) pa_nil))) (fun _ => rfl))) (pw_or1 (pt_cmpR op_ne (pe_callB call_len_seq (by rfl) T.n_len (by decide +kernel) (pa_cons (pv 0) pa_nil)) pe_int (nomark _)))))
        (pss_one (ps_ret pe_bl))
        pss_nil)
      (pss_one (ps_ret (pe_and (pe_call G_is_word (hr.mono (by decide)) (by rfl) T.is_word.g T.is_word.F.kp T.is_word.b .nil pass0 (pa_cons (pe_ix ix_tup (pv 0) pe_int (fun _ _ => rfl)) pa_nil)) (pe_and (pe_call G_is_integer (hr.mono (by decide)) (by rfl) T.is_integer.g T.is_integer.F.kp T.is_integer.b .nil pass0 (pa_cons (pe_ix ix_tup (pv 0) pe_int (fun _ _ => rfl)) pa_nil)) (pe_and (pe_callB call_isi (by rfl) T.n_isinstance (by decide +kernel) (pa_cons (pe_ix ix_tup (pv 0) pe_int (fun _ _ => rfl)) (pa_cons (pe_bltn (v := .ty "str") (by rfl) T.n_str (by decide +kernel) rfl) pa_nil))) (pe_one (pe_cmp (pc_din (hu_of hr) (pe_ix ix_tup (pv 0) pe_int (fun _ _ => rfl)) (pv 1))))))))))
, ?_⟩
    refine ⟨_, rfl, _, _, _, _, true, rfl, .ty _, .base (.tup ha), kit_ty (by decide +kernel), true, rfl, iteF ?_⟩
    refine ⟨_, rfl, a, _, rfl, .inr (SqT.of ha), rfl, false, rfl, iteF ?_⟩
    refine ⟨_, rfl, a, _, 0, .str r.1, rfl, rfl, SqT.of ha, rfl, r.1, rfl, hw, true, rfl, iteT ?_⟩
    refine ⟨_, rfl, a, _, 1, .int r.2.1, rfl, rfl, SqT.of ha, rfl, _, rfl, true, rfl, iteT ?_⟩
    refine ⟨_, rfl, a, _, 2, .str r.2.2, rfl, rfl, SqT.of ha, rfl, _, _, _, _, true, rfl, .ty _, .base (.str _), kit_ty (by decide +kernel), true, rfl, iteT ?_⟩
    refine ⟨_, rfl, a, _, 2, .str r.2.2, rfl, rfl, SqT.of ha, rfl, _, rfl, d, valV kvs (.inr r.2.2), rfl, .inl ⟨kvs, .inr r.2.2, hd, rfl, rfl⟩, ?_⟩
    rw [hk]
    exact q

def sp_checked_rules : Sp := fun vs H Q _ => ∃ (n : Int) (d : Addr) (x : PySem.Str) (kvs : List (Key × V)) (rs : List (PySem.Str × List Tri)) (row : List Tri), vs = [.int n, .ref d, .str x] ∧ H d = some (.dK kvs) ∧ DkAt (LAt eTri H) kvs rs ∧ RulesOk n rs ∧ JM.look rs x = some row ∧
  ∀ H' v, Same H H' → LAt eTri H' v (sortTri (row.map (norm n))) → Q v H'
theorem sc_checked_rules : FnScope ["around", "rows", "state", "rules", "rule", "made", "word", "turn", "goal"] ["around", "rows", "state"] (defScope s_checked_rules) := ⟨rfl, rfl, rfl, by decide +kernel, rfl, by decide +kernel, by decide +kernel⟩
-- slots: 0 around*, 1 rows, 2 state, 3 rules, 4 rule, 5 made, 6 word, 7 turn, 8 goal
theorem ok_checked_rules (T : Wd K mg) : FnOk P w K mg base CX0 3 T.checked_rules.f T.checked_rules.fd ["around", "rows", "state"] sp_checked_rules := by
  have G_is_row := ok_is_row (P := P) (w := w) (base := base) T
  have G_is_rule := ok_is_rule (P := P) (w := w) (base := base) T
  refine T.checked_rules.F.ok sc_checked_rules (fun vs H Q E h => ?_) (fun cdv A outer s H vs Q E hr h => ?_)
  · obtain ⟨n, d, x, kvs, rs, row, rfl, _⟩ := h
    rfl
  · obtain ⟨n, d, x, kvs, rs, row, rfl, hd, hk, ok, hl, q⟩ := h
    obtain ⟨u, hu, a, us, rfl, ha, hus⟩ := hk.get hl
    have hm := JM.look_some hl
    have hlen := sda_len hus
    have h8 : row.length ≤ 8 := ok.len _ hm
    have hn := ok.lo
    refine ⟨_, PSs.nox (pss_cons (ps_set (i := 3) sc_checked_rules.nd rfl (.inl rfl) (pe_dget (hu_of hr) (pv 1) (pv 2) (fun _ _ => rfl)))
      (pss_cons (ps_if (PW.pt (pw_or (pt_not (pt_val (pe_call G_is_row (hr.mono (by decide)) (by rfl) T.is_row.g T.is_row.F.kp T.is_row.b .nil pass0 (pa_cons (pv 3) pa_nil)) (fun _ => rfl))) (pw_or1 (pt_cmpR op_gt (pe_callB call_len_seq (by rfl) T.n_len (by decide +kernel) (pa_cons (pv 3) pa_nil)) (pe_glob (v := .int 40) (by rfl) T.m_MOST_RULES ⟨_, rfl⟩) (nomark _)))))
        (pss_one ps_never)
        pss_nil)
      (pss_cons (ps_for PassesOwn.never rfl (pi_list (pv 3)) (pg_name (i := 4) sc_checked_rules.nd rfl (.inl rfl))
        (pss_one (ps_if (pt_not (pt_val (pe_call G_is_rule (hr.mono (by decide)) (by rfl) T.is_rule.g T.is_rule.F.kp T.is_rule.b .nil pass0 (pa_cons (pv 4) (pa_cons (pv 1) pa_nil))) (fun _ => rfl)))
          (pss_one ps_never)
          pss_nil)))
      (pss_cons (ps_set (i := 5) sc_checked_rules.nd rfl (.inl rfl) (pe_callB (cr_sortD (enc := eTri) hr.units alike_tri sort_tri dep_tri) (by rfl) T.n_sorted (by decide +kernel) (pa_cons (pe_lc (own := [("word", 6), ("turn", 7), ("goal", 8)]) (g := gTup K 3 (gCons (gName 6) (gCons (gName 7) (gCons (gName 8) (gNil))))) rfl sc_checked_rules.nd (pi_list (pv 3)) (blkOk_by (own := [("word", 6), ("turn", 7), ("goal", 8)]) (N := ["around", "rows", "state", "rules", "rule", "made", "word", "turn", "goal"]) (sc := defScope s_checked_rules) (by decide +kernel)) (fun _ _ _ _ _ => (pg_tup (by rfl) (pgs_cons (pg_name (i := 6) sc_checked_rules.nd rfl (.inl rfl)) (pgs_cons (pg_name (i := 7) sc_checked_rules.nd rfl (.inl rfl)) (pgs_cons (pg_name (i := 8) sc_checked_rules.nd rfl (.inl rfl)) pgs_nil))))) (fun _ _ _ _ _ => pts_nil) (fun _ _ _ _ _ => (pe_tup (pa_cons (pv 6) (pa_cons (pe_op op_mod (pv 7) (pv 0)) (pa_cons (pv 8) pa_nil)))))) pa_nil)))
      (pss_cons (ps_if (pt_cmpR op_ne (pe_callB call_lenMs (by rfl) T.n_len (by decide +kernel) (pa_cons (pe_scM (own := [("word", 6), ("turn", 7), ("goal", 8)]) (g := gTup K 3 (gCons (gName 6) (gCons (gName 7) (gCons (gName 8) (gNil))))) hr.units rfl sc_checked_rules.nd (pi_list (pv 5)) (blkOk_by (own := [("word", 6), ("turn", 7), ("goal", 8)]) (N := ["around", "rows", "state", "rules", "rule", "made", "word", "turn", "goal"]) (sc := defScope s_checked_rules) (by decide +kernel)) (fun _ _ _ _ _ => (pg_tup (by rfl) (pgs_cons (pg_name (i := 6) sc_checked_rules.nd rfl (.inl rfl)) (pgs_cons (pg_name (i := 7) sc_checked_rules.nd rfl (.inl rfl)) (pgs_cons (pg_name (i := 8) sc_checked_rules.nd rfl (.inl rfl)) pgs_nil))))) (fun _ _ _ _ _ => pts_nil) (fun _ _ _ _ _ => (pe_tup (pa_cons (pv 6) (pa_cons (pv 7) pa_nil))))) pa_nil)) (pe_callB call_len_seq (by rfl) T.n_len (by decide +kernel) (pa_cons (pv 5) pa_nil)) (nomark _))
        (pss_one ps_never)
        pss_nil)
      (pss_one (ps_ret (pv 5))))))))
, ?_⟩
    refine ⟨_, rfl, _, rfl, d, .ref a, rfl, .inl ⟨kvs, .inr x, .inl hd, rfl, hu.symm⟩, ?_⟩
    refine ⟨_, rfl, a, us, rfl, ha, fun H1 s1 => ⟨true, rfl, iteF ⟨_, rfl, a, us, rfl, .inl (SqL.of (s1 _ _ ha)), _, 40, rfl, rfl, false, d_false (by omega), iteF ?_⟩⟩⟩
    refine ⟨_, rfl, a, rfl, ⟨us, SqL.of (s1 _ _ ha)⟩, ?_⟩
    refine for_it walk_list (fun i σ H' => H' = H1 ∧ ∃ z, σ = [some (.int n), some (.ref d), some (.str x), some (.ref a), z, none, none, none, none]) ⟨rfl, none, rfl⟩ (fun i σ H' _ p => by rw [p.1]; exact SqL.of (s1 _ _ ha)) (fun i v σ H2 H3 hi p yy => ?_) fun σ H3 p => ?_
    · obtain ⟨rfl, z, rfl⟩ := p
      obtain ⟨rfl, e2⟩ := yy
      obtain ⟨r, hr2, hs⟩ := item_at hus e2
      have hrm := mem_at hr2
      obtain ⟨row', hrow'⟩ := look_of_mem (ok.goal _ hm r hrm)
      refine ⟨_, rfl, _, rfl, v, r, d, kvs, rfl, hs.sm s1, ok.word _ hm r hrm, .inl (s1 _ _ hd), ?_, true, rfl, iteF ⟨rfl, some v, rfl⟩⟩
      rw [hk.isSome, hrow']
      rfl
    · obtain ⟨rfl, z, rfl⟩ := p
      refine ⟨_, rfl, a, rfl, ⟨us, SqL.of (s1 _ _ ha)⟩, fun D hD => ?_⟩
      refine lc_pure walk_list row (fun r => some (norm n r)) eTri hlen (by rw [hlen]; exact Nat.le_trans h8 (by decide)) hD (fun H' s => SqL.of (s _ _ (s1 _ _ ha))) (fun i z x' H1' H2 N N0 hz s2 yy hN hN0 => ?_) fun H5 us5 s4 hD5 hu5 => ?_
      · obtain ⟨rfl, e2⟩ := yy
        obtain ⟨r, hr2, hs⟩ := item_at hus e2
        rw [hz] at hr2
        cases hr2
        obtain ⟨c, rfl, hc⟩ := sd_tri (hs.sm (s1.trans s2))
        refine ⟨c, _, rfl, SqT.of hc, rfl, _, _, rfl, _, _, rfl, _, _, rfl, rfl, rfl, yesT ?_⟩
        exact ⟨_, rfl, _, rfl, _, rfl, _, _, rfl, rfl, by show 0 < n; omega, _, rfl, by show 3 ≤ sizeLine; decide, fun t nt => hN _ _ _ (same_new nt) rfl (tri_sd upd_same)⟩
      · rw [show row.filterMap (fun r => some (norm n r)) = row.map (norm n) by simp] at hu5
        refine ⟨D, us5, row.map (norm n), fun v b => Sd H5 v (eTri b), rfl, SqL.of hD5, paired_sd hu5, fun v b h => h.dp _, fun p us' np hp' => ?_⟩
        have hs5 := sd_paired hp'
        change SdAll H5 us' ((sortTri (row.map (norm n))).map eTri) at hs5
        have hpm := sortTri_perm (row.map (norm n))
        generalize hmade : sortTri (row.map (norm n)) = made at hs5 hpm q
        have nd : (made.map fun r => (r.1, r.2.1)).Nodup := by
          refine (hpm.map _).nodup_iff.mpr ?_
          rw [List.map_map]
          exact ok.turns _ hm
        have hml : made.length ≤ 8 := by rw [hpm.length_eq, List.length_map]; exact h8
        have hul := sda_len hs5
        have s6 := (s1.trans s4).trans (same_new (o := .lst us') np)
        have hs6 : SdAll (upd H5 p (.lst us')) us' (made.map eTri) := hs5.sm (same_new np)
        refine ⟨_, rfl, p, rfl, ⟨us', SqL.of upd_same⟩, fun D2 hD2 => ?_⟩
        have npD : D2 ≠ p := fun z => by rw [z, upd_same] at hD2; cases hD2
        have keep0 : ∀ o', Same (upd H5 p (.lst us')) (upd (upd H5 p (.lst us')) D2 o') := fun o' => same_new' hD2
        refine cg_it walk_list (u0 := fun a => MsO P w a []) (fun i H' => Same (upd H5 p (.lst us')) H' ∧ ∃ L, H' D2 = some (MsO P w D2 L) ∧ L.length = i ∧ (∀ k, k ∈ L.map (·.2) ↔ k ∈ (made.take i).map fun r => kPr (r.1, r.2.1)) ∧ ∀ p ∈ L, H' p.1 = some (.tup (p.2.map kV))) ⟨keep0 _, [], upd_same, rfl, (fun k => by simp), fun _ z => nomatch z⟩ (fun i H' _ p' => SqL.of (p'.1 _ _ upd_same)) (fun i x' H6 H7 hi p' yy => ?_) fun H7 p' => ?_
        · obtain ⟨s7, L, hL, hLl, hLk, hLt⟩ := p'
          obtain ⟨rfl, e2⟩ := yy
          obtain ⟨r, hr2, hs⟩ := item_at hs6 e2
          obtain ⟨c, rfl, hc⟩ := sd_tri (hs.sm s7)
          refine ⟨c, _, rfl, SqT.of hc, rfl, _, _, rfl, _, _, rfl, _, _, rfl, rfl, rfl, yesT2 ?_⟩
          refine ⟨_, rfl, _, rfl, by show 2 ≤ sizeLine; decide, fun t nt => ⟨t, kPr (r.1, r.2.1), L, rfl, upd_same, (upd_ne (ne_of_none hL nt)).trans hL, (fun p hp => (upd_ne (ne_of_none (hLt p hp) nt)).trans (hLt p hp)), by omega, fun L' _ hL' => ?_⟩⟩
          have hnk : kPr (r.1, r.2.1) ∉ L.map (·.2) := fun z => by
            obtain ⟨r2, hr2m, he⟩ := List.mem_map.mp ((hLk _).mp z)
            obtain ⟨j, hj, hj2⟩ := List.getElem_of_mem hr2m
            have hj3 : j < i := by rw [List.length_take] at hj; omega
            have hmi : i < made.length := (List.getElem?_eq_some_iff.mp hr2).1
            have e5 : (made.map fun r => (r.1, r.2.1))[j]'(by rw [List.length_map]; omega) = (made.map fun r => (r.1, r.2.1))[i]'(by rw [List.length_map]; exact hmi) := by
              rw [List.getElem_map, List.getElem_map, (List.getElem?_eq_some_iff.mp hr2).2]
              rw [List.getElem_take] at hj2
              rw [hj2]
              injection he with h1 h2
              injection h2 with h2 _
              exact Prod.ext (Sum.inr.inj h1) (Sum.inl.inj h2)
            exact absurd ((List.getElem_inj nd).mp e5) (by omega)
          have pm := hL' hnk
          refine ⟨fun b o e => ?_, L', upd_same, by rw [pm.length_eq]; simp; omega, fun k => ?_, fun p hp => ?_⟩
          · have e1 := s7 _ _ e
            have n1 : b ≠ D2 := fun z => by
              rw [z] at e
              rw [e] at hD2
              cases hD2
            rw [upd_ne n1, upd_ne (ne_of_none e1 nt)]
            exact e1
          · rw [(pm.map (·.2)).mem_iff, List.map_cons, List.mem_cons, hLk, List.take_add_one, hr2]
            simp
            exact or_comm
          · rcases List.mem_cons.mp (pm.mem_iff.mp hp) with z | z
            · have n2 : t ≠ D2 := fun y => by
                rw [y, hL] at nt
                cases nt
              rw [z, upd_ne n2]
              exact upd_same
            · have e1 := hLt p z
              have n1 : p.1 ≠ D2 := fun y => by
                rw [y, hL] at e1
                have e2 := Option.some.inj e1
                unfold MsO at e2
                cases e2
              rw [upd_ne n1, upd_ne (ne_of_none e1 nt)]
              exact e1
        · obtain ⟨s7, L, hL, hLl, hLk, hLt⟩ := p'
          refine ⟨D2, L, rfl, hL, _, rfl, p, us', rfl, .inl (SqL.of (s7 _ _ upd_same)), rfl, _, rfl, ?_⟩
          rw [hLl]
          refine iteNS rfl ⟨_, rfl, q _ _ (s6.trans s7) ⟨p, us', rfl, s7 _ _ upd_same, hs6.sm s7⟩⟩
end
end J
/-! Dict comprehensions that only make. -/
namespace J
open PySem PySem.Spec PyProof.Rows L2
/-- kvs stands for l -/
inductive KvAt {κ β : Type} (R : V → β → Prop) : List (κ × V) → List (κ × β) → Prop
  | nil : KvAt R [] []
  | cons {k : κ} {v : V} {b : β} {kvs : List (κ × V)} {ws : List (κ × β)} : R v b → KvAt R kvs ws → KvAt R ((k, v) :: kvs) ((k, b) :: ws)
section
variable {κ β : Type} {R : V → β → Prop}
theorem KvAt.mono {R' : V → β → Prop} (m : ∀ v b, R v b → R' v b) : ∀ {kvs : List (κ × V)} {ws : List (κ × β)}, KvAt R kvs ws → KvAt R' kvs ws
  | _, _, .nil => .nil
  | _, _, .cons r t => .cons (m _ _ r) (t.mono m)
theorem KvAt.keys : ∀ {kvs : List (κ × V)} {ws : List (κ × β)}, KvAt R kvs ws → kvs.map (·.1) = ws.map (·.1)
  | _, _, .nil => rfl
  | _, _, .cons r t => by rw [List.map_cons, List.map_cons, t.keys]
theorem KvAt.len {kvs : List (κ × V)} {ws : List (κ × β)} (h : KvAt R kvs ws) : kvs.length = ws.length := by
  have := congrArg List.length h.keys
  simpa using this
theorem KvAt.snoc : ∀ {kvs : List (κ × V)} {ws : List (κ × β)} {k : κ} {v : V} {b : β}, KvAt R kvs ws → R v b → KvAt R (kvs ++ [(k, v)]) (ws ++ [(k, b)])
  | _, _, k, v, b, .nil, h => .cons h .nil
  | _, _, k, v, b, .cons r t, h => .cons r (t.snoc h)
theorem KvAt.at : ∀ {kvs : List (κ × V)} {ws : List (κ × β)} {i : Nat} {k : κ} {v : V}, KvAt R kvs ws → kvs[i]? = some (k, v) → ∃ b, ws[i]? = some (k, b) ∧ R v b
  | _, _, i, k, v, .nil, e => by simp at e
  | _, _, 0, k, v, .cons r t, e => by
    cases (Option.some.inj (show some _ = some (k, v) from e))
    exact ⟨_, rfl, r⟩
  | _, _, i + 1, k, v, .cons r t, e => t.at (i := i) (by simpa using e)
variable [DecidableEq κ]
theorem KvAt.get : ∀ {kvs : List (κ × V)} {ws : List (κ × β)} {k : κ} {b : β}, KvAt R kvs ws → JM.look ws k = some b → ∃ u, valV kvs k = some u ∧ R u b
  | _, _, w, b, .nil, h => by cases h
  | _, _, w, b, .cons (k := k) r t, h => by
    rw [JM.look_cons] at h
    rw [valV_cons]
    by_cases c : k = w
    · rw [if_pos c] at h ⊢
      cases h
      exact ⟨_, rfl, r⟩
    · rw [if_neg c] at h ⊢
      exact t.get h
theorem KvAt.no : ∀ {kvs : List (κ × V)} {ws : List (κ × β)} {k : κ}, KvAt R kvs ws → JM.look ws k = none → valV kvs k = none
  | _, _, w, .nil, h => rfl
  | _, _, w, .cons (k := k) r t, h => by
    rw [JM.look_cons] at h
    rw [valV_cons]
    by_cases c : k = w
    · rw [if_pos c] at h
      cases h
    · rw [if_neg c] at h ⊢
      exact t.no h
theorem KvAt.put {kvs : List (κ × V)} {ws : List (κ × β)} {k : κ} {v : V} {b : β} (h : KvAt R kvs ws) (hn : JM.look ws k = none) (r : R v b) : KvAt R (putK kvs k v) (ws ++ [(k, b)]) := by
  rw [putK_new v (h.no hn)]
  exact h.snoc r
end
theorem KvAt.dk {β : Type} {R : V → β → Prop} : ∀ {kvs : List (Key × V)} {ws : List (PySem.Str × β)}, KvAt R kvs (ws.map fun w => (Sum.inr w.1, w.2)) → DkAt R kvs ws
  | kvs, [], h => by cases h; exact .nil
  | kvs, p :: ws, h => by
    cases h with
    | cons r t => exact .cons r t.dk
theorem look_take {κ β : Type} [DecidableEq κ] {l : List (κ × β)} (nd : (l.map (·.1)).Nodup) {i : Nat} {p : κ × β} (e : l[i]? = some p) : JM.look (l.take i) p.1 = none := by
  refine JM.look_none.mpr fun x hx => ?_
  obtain ⟨j, hj, e2⟩ := List.getElem_of_mem hx
  have hji : j < i := by rw [List.length_take] at hj; omega
  obtain ⟨hi, e3⟩ := List.getElem?_eq_some_iff.mp e
  rw [List.getElem_take] at e2
  have e4 : (l.map (·.1))[j]'(by rw [List.length_map]; omega) = (l.map (·.1))[i]'(by rw [List.length_map]; exact hi) := by
    rw [List.getElem_map, List.getElem_map, e2, e3]
  exact absurd ((List.getElem_inj nd).mp e4) (by omega)
/-- {k: v for ..}, the keys ints or texts that differ -/
theorem dc_pure {J : It} {n : Nat} {G : Hp → Prop} {Y : Nat → Hp → V → Hp → Prop} (w : Walk J n G Y) {α β : Type} (its : List α) (f : α → Key × β) (R : Hp → V → β → Prop) (hR : ∀ H H' v b, Fd H H' → R H v b → R H' v b) {g : TG} {tt : TT} {tk tv : TE} {vs : List Nat} {σ : L2.St} {H1 : Hp} {D : Addr} {Qd : Hp → Prop}
    (hn : n = its.length) (hz : n ≤ sizeLine) (hD : H1 D = none) (nd : (its.map fun z => (f z).1).Nodup) (hG : ∀ H, Same H1 H → G H)
    (hs : ∀ i z x H H' (N : V → V → Hp → Prop) (N0 : Hp → Prop), its[i]? = some z → Same H1 H → Y i H x H' → (∀ v H4, Same H H4 → R H4 v (f z).2 → N (kV (f z).1) v H4) →
      g x (wipe σ vs) H' fun σ2 H2 => wipe σ2 vs = wipe σ vs ∧ tt σ2 H2 fun b H3 => if b = true then tk σ2 H3 fun y H4 => tv σ2 H4 fun z H5 => N y z H5 else N0 H3)
    (hd : ∀ H kvs, Same H1 H → H D = some (.dK kvs) → KvAt (R H) kvs (its.map f) → Qd H) :
    ∃ W : Nat → Nat → Hp → Prop, (∃ m, W 0 m (upd H1 D (.dK []))) ∧ ∀ i m H, W i m H →
      (J.stop i H ∧ Qd H) ∨ (J.go i H ∧ ∃ Nx : Hp → Prop, (∀ H', Nx H' → ∃ m', m' < m ∧ W (i + 1) m' H') ∧ ∀ x H', J.yld i H x H' → g x (wipe σ vs) H' fun σ2 H2 => wipe σ2 vs = wipe σ vs ∧ tt σ2 H2 fun b H3 =>
        if b = true then tk σ2 H3 fun y H4 => tv σ2 H4 fun z H5 => ∃ kvs k, y = kV k ∧ H5 D = some (.dK kvs) ∧ kvs.length < sizeLine ∧ Nx (upd H5 D (.dK (putK kvs k z))) else Nx H3) := by
  refine ⟨fun i m H => i ≤ n ∧ m = n - i ∧ Same H1 H ∧ ∃ kvs, H D = some (.dK kvs) ∧ KvAt (R H) kvs ((its.take i).map f), ⟨n, Nat.zero_le _, by simp, same_new' hD, [], upd_same, .nil⟩, ?_⟩
  rintro i m H ⟨hi, rfl, hS, kvs, hk, hkv⟩
  rcases Nat.lt_or_ge i n with c | c
  · have hi' : i < its.length := hn ▸ c
    refine .inr ⟨w.goes i H c (hG H hS), fun H' => Same H1 H' ∧ ∃ kvs, H' D = some (.dK kvs) ∧ KvAt (R H') kvs ((its.take (i + 1)).map f), fun H' p => ⟨n - (i + 1), by omega, c, rfl, p⟩, fun x H' y => ?_⟩
    refine hs i its[i] x H H' _ _ (by simp [hi']) hS (w.yields i H x H' c (hG H hS) y) fun v H4 h4 hv => ?_
    · have hd4 := h4 _ _ hk
      refine ⟨kvs, (f its[i]).1, rfl, hd4, by rw [hkv.len, List.length_map, List.length_take]; omega, fun b o e => (upd_ne (ne_of_none e hD)).trans (h4 _ _ (hS _ _ e)), _, upd_same, ?_⟩
      have fd := fd_dK (o := .dK (putK kvs (f its[i]).1 v)) hd4
      rw [List.take_add_one, List.getElem?_eq_getElem hi', List.map_append]
      refine KvAt.put ((hkv.mono fun v b h => hR _ _ _ _ (fd_of h4) h).mono fun v b h => hR _ _ _ _ fd h) ?_ (hR _ _ _ _ fd hv)
      rw [List.map_take]
      refine look_take (p := f its[i]) (by rw [List.map_map]; exact nd) ?_
      rw [List.getElem?_map, List.getElem?_eq_getElem hi']
      rfl
  · obtain rfl : i = n := by omega
    refine .inl ⟨w.stops H (hG H hS), hd H kvs hS hk ?_⟩
    rw [hn, List.take_length] at hkv
    exact hkv
theorem LAt.kx {β : Type} {enc : β → PyData} {H H' : Hp} {x : Addr} {o : HO} {v : V} {l : List β} (hx : H x = some o) (n1 : ∀ xs, o ≠ .lst xs) (n2 : ∀ xs, o ≠ .tup xs) (k : SameX x H H') (h : LAt enc H v l) : LAt enc H' v l := by
  obtain ⟨a, us, e, h1, h2⟩ := h
  refine ⟨a, us, e, k _ _ (fun z => ?_) h1, h2.mt (ft_x k hx n2)⟩
  rw [z, hx] at h1
  exact n1 _ (Option.some.inj h1)
end J
/-! The class Let. -/
namespace J
open PySem PySem.Spec PyProof.Rows L2
/-- the steps of a state -/
def stepsOf (n : Int) (rs : List (PySem.Str × List Tri)) (x : PySem.Str) : List Tri := sortTri (((JM.look rs x).getD []).map (norm n))
def tabOf (n : Int) (rs : List (PySem.Str × List Tri)) (ks : List PySem.Str) : List (PySem.Str × List Tri) := ks.map fun x => (x, stepsOf n rs x)
theorem tabOf_keys (n : Int) (rs : List (PySem.Str × List Tri)) (ks : List PySem.Str) : (tabOf n rs ks).map (·.1) = ks := by
  unfold tabOf
  rw [List.map_map]
  exact List.map_id _
theorem look_tab (n : Int) (rs : List (PySem.Str × List Tri)) : ∀ (ks : List PySem.Str) (x : PySem.Str), JM.look (tabOf n rs ks) x = if x ∈ ks then some (stepsOf n rs x) else none
  | [], x => rfl
  | k :: ks, x => by
    show JM.look ((k, stepsOf n rs k) :: tabOf n rs ks) x = _
    rw [JM.look_cons, look_tab n rs ks x]
    by_cases c : k = x
    · subst c
      simp
    · have c' : ¬ x = k := fun z => c z.symm
      simp [c, c']
section
variable {P : Program} {w : World} {K : PySem.W.Frag} {mg : Str → Option Value} {base : Heap}
def LetAt (T : Wd K mg) (H : Hp) (v : V) (n : Int) (rs : List (PySem.Str × List Tri)) : Prop := ∃ (a dx : Addr) (d : V) (ks : List PySem.Str), v = .ref a ∧ H a = some (.ins T.Let.C dx [("around", .int n), ("_table", d)]) ∧ ks.Perm (rs.map (·.1)) ∧ DAt (LAt eTri) H d (tabOf n rs ks) ∧ RulesOk n rs
theorem LetAt.sm {T : Wd K mg} {H H' : Hp} {v : V} {n : Int} {rs : List (PySem.Str × List Tri)} (k : Same H H') (h : LetAt T H v n rs) : LetAt T H' v n rs := by
  obtain ⟨a, dx, d, ks, e, h1, h2, h3, h4⟩ := h
  exact ⟨a, dx, d, ks, e, k _ _ h1, h2, h3.sm (fun _ _ h => h.sm k) k, h4⟩
theorem names_ltrs {x : PySem.Str} (h : NameOk x) : (1 ≤ x.length ∧ x.length ≤ 12) ∧ ∀ c ∈ x.cps.toList, c ∈ ltrs.cps.toList := by
  rcases h with rfl | rfl | rfl
  · exact ⟨by decide +kernel, by decide +kernel⟩
  · exact ⟨by decide +kernel, by decide +kernel⟩
  · exact ⟨by decide +kernel, by decide +kernel⟩
def sp_Let_init (T : Wd K mg) : Sp := fun vs H Q _ => ∃ (x dx d : Addr) (n : Int) (kvs : List (Key × V)) (rs : List (PySem.Str × List Tri)), vs = [.ref x, .int n, .ref d] ∧ H x = some (.ins T.Let.C dx []) ∧ H d = some (.dK kvs) ∧ DkAt (LAt eTri H) kvs rs ∧ RulesOk n rs ∧
  ∀ H', SameX x H H' → LetAt T H' (.ref x) n rs → Q .non H'
theorem sc_Let_init : FnScope ["self", "around", "rules", "state"] ["self", "around", "rules"] (defScope s_Let_init) := ⟨rfl, rfl, rfl, by decide +kernel, rfl, by decide +kernel, by decide +kernel⟩
-- slots: 0 self, 1 around*, 2 rules*, 3 state
theorem ok_Let_init (T : Wd K mg) : FnOk P w K mg base CX0 4 T.Let_init.f T.Let_init.fd ["self", "around", "rules"] (sp_Let_init T) := by
  have G_check_round := ok_check_round (P := P) (w := w) (base := base) T
  have G_is_name := ok_is_name (P := P) (w := w) (base := base) T
  have G_checked_rules := ok_checked_rules (P := P) (w := w) (base := base) T
  refine T.Let_init.F.ok sc_Let_init (fun vs H Q E h => ?_) (fun cdv A outer s H vs Q E hr h => ?_)
  · obtain ⟨x, dx, d, n, kvs, rs, rfl, _⟩ := h
    rfl
  · obtain ⟨x, dx, d, n, kvs, rs, rfl, hx, hd, hk, ok, q⟩ := h
    have nd : d ≠ x := ne_of hd hx (fun z => nomatch z)
    have hlen := hk.len
    have hfew := ok.few
    refine ⟨_, PSs.nox (pss_cons (ps_expr (pe_call G_check_round (hr.mono (by decide)) (by rfl) T.check_round.g T.check_round.F.kp T.check_round.b .nil pass0 (pa_cons (pv 1) pa_nil)))
      (pss_cons (ps_if (PW.pt (pw_or (pt_not (pt_val (pe_callB call_isi (by rfl) T.n_isinstance (by decide +kernel) (pa_cons (pv 2) (pa_cons (pe_bltn (v := .ty "dict") (by rfl) T.n_dict (by decide +kernel) rfl) pa_nil))) (fun _ => rfl))) (pw_or1 (pt_not (pt_chain op_le op_le pe_int (pe_callB call_lenD (by rfl) T.n_len (by decide +kernel) (pa_cons (pv 2) pa_nil)) (pe_glob (v := .int 5) (by rfl) T.m_MOST_STATES ⟨_, rfl⟩))))))
        (pss_one ps_never)
        pss_nil)
      (pss_cons (ps_if (pt_not (pt_val (pe_callB (cr_all rfl) (by rfl) T.n_all (by decide +kernel) (pa_cons (pe_lock (pe_lc (own := [("state", 3)]) (g := gName 3) rfl sc_Let_init.nd (pi_keys (pv 2)) (blkOk_by (own := [("state", 3)]) (N := ["self", "around", "rules", "state"]) (sc := defScope s_Let_init) (by decide +kernel)) (fun _ _ _ _ _ => (pg_name (i := 3) sc_Let_init.nd rfl (.inl rfl))) (fun _ _ _ _ _ => pts_nil) (fun _ _ _ _ _ => (pe_call G_is_name (hr.mono (by decide)) (by rfl) T.is_name.g T.is_name.F.kp T.is_name.b .nil pass0 (pa_cons (pv 3) pa_nil))))) pa_nil)) (fun _ => rfl)))
        (pss_one ps_never)
        pss_nil)
      (pss_cons (ps_if (pt_cmp (pc_dnotin (hu_of hr) (pe_glob (v := .str "start") (by rfl) T.m_START ⟨_, rfl⟩) (pv 2)))
        (pss_one ps_never)
        pss_nil)
      (pss_cons (ps_fld (pv 0) (pv 1) rfl)
      (pss_one (ps_fld (pv 0) (pe_dc (own := [("state", 3)]) (g := gName 3) rfl sc_Let_init.nd (pi_list (pe_callB cr_sortedS (by rfl) T.n_sorted (by decide +kernel) (pa_cons (pe_callTy (call_list_dK rfl) (by rfl) T.n_list (by decide +kernel) (pa_cons (pv 2) pa_nil)) pa_nil))) (blkOk_by (own := [("state", 3)]) (N := ["self", "around", "rules", "state"]) (sc := defScope s_Let_init) (by decide +kernel)) (fun _ _ _ _ _ => (pg_name (i := 3) sc_Let_init.nd rfl (.inl rfl))) (fun _ _ _ _ _ => pts_nil) (fun _ _ _ _ _ => (pv 3)) (fun _ _ _ _ _ => (pe_call G_checked_rules (hr.mono (by decide)) (by rfl) T.checked_rules.g T.checked_rules.F.kp T.checked_rules.b .nil pass0 (pa_cons (pv 1) (pa_cons (pv 2) (pa_cons (pv 3) pa_nil)))))) rfl)))))))
, ?_⟩
    refine ⟨_, rfl, n, rfl, ok.lo, ok.hi, ?_⟩
    refine ⟨_, rfl, _, _, _, _, true, rfl, .ty _, .base (.dK hd), kit_ty (by decide +kernel), true, rfl, iteF ?_⟩
    refine ⟨_, rfl, d, kvs, rfl, hd, 1, _, rfl, rfl, true, d_true (by omega), iteT ⟨_, 5, rfl, rfl, true, d_true (by omega), iteF ?_⟩⟩
    refine ⟨d, .dK kvs, hd, trivial, fun od => ?_⟩
    refine ⟨_, rfl, d, od, rfl, .inl ⟨kvs, upd_same, fun D hD => ?_⟩⟩
    have hkk := hk.keys'
    refine lc_pure walk_keys rs (fun p => some true) PyData.bool hlen (by rw [hlen]; exact Nat.le_trans hfew.2 (by decide)) hD (fun H' s => s _ _ upd_same) (fun i z x' H1 H2 N N0 hz s1 yy hN hN0 => ?_) fun H5 us5 s5 hD5 hu5 => ?_
    · obtain ⟨rfl, k, v, e2, rfl⟩ := yy
      obtain ⟨y, row, e3, rfl, _⟩ := hk.at e2
      rw [hz] at e3
      cases e3
      obtain ⟨n1, n2⟩ := names_ltrs (ok.names y (List.mem_map.mpr ⟨_, mem_at hz, rfl⟩))
      exact ⟨rfl, yesT ⟨_, rfl, y, rfl, n1, n2, fun H4 s4 => hN _ _ _ s4 rfl (.bl _)⟩⟩
    · have ndD : D ≠ d := fun z => by rw [z, upd_same] at hD; cases hD
      refine ⟨s5 _ _ upd_same, ?_⟩
      rw [show rs.filterMap (fun p => some true) = rs.map (fun _ => true) by simp] at hu5
      refine ⟨D, _, rfl, SqL.of (by rw [upd_ne ndD, hD5, sda_bls hu5]), ?_⟩
      rw [show (rs.map fun _ => true).all id = true by simp]
      refine ⟨true, rfl, iteF ?_⟩
      have s6 : Same H (upd H5 d (.dK kvs)) := same_lock hd s5
      have hd6 : (upd H5 d (.dK kvs)) d = some (.dK kvs) := upd_same
      generalize upd H5 d (.dK kvs) = H6 at s6 hd6
      obtain ⟨row0, hrow0⟩ := look_of_mem ok.start
      refine ⟨_, rfl, d, valV kvs (.inr "start"), rfl, .inl ⟨kvs, .inr "start", .inl hd6, rfl, rfl⟩, _, rfl, ?_⟩
      rw [hk.isSome, hrow0]
      refine iteF ?_
      have hx6 := s6 _ _ hx
      refine ⟨_, rfl, _, rfl, x, T.Let.C, dx, _, rfl, hx6, T.Let.cl, T.n_Let_around, by show 0 < 1000; decide, ?_⟩
      have hx7 : (upd H6 x (.ins T.Let.C dx (putF "around" (.int n) []))) x = some (.ins T.Let.C dx [("around", .int n)]) := upd_same
      have k7 : SameX x H (upd H6 x (.ins T.Let.C dx (putF "around" (.int n) []))) := (same_x s6).at
      generalize upd H6 x (.ins T.Let.C dx (putF "around" (.int n) [])) = H7 at hx7 k7
      have hd7 := k7 _ _ nd hd
      have hk7 : DkAt (LAt eTri H7) kvs rs := hk.mono fun v b h => h.kx hx (fun _ z => nomatch z) (fun _ z => nomatch z) k7
      refine ⟨_, rfl, d, kvs, rfl, hd7, fun l hl => ⟨l, rs.map (·.1), rfl, SqL.of (by rw [upd_same, hk.keys, List.map_map]; rfl), by rw [List.length_map]; omega, fun ys p hp _ np => ?_⟩⟩
      have s8 : Same H7 (upd (upd H7 l (.lst (kvs.map fun kv => kV kv.1))) p (.lst (ys.map V.str))) := (same_new hl).trans (same_new np)
      have hp8 : (upd (upd H7 l (.lst (kvs.map fun kv => kV kv.1))) p (.lst (ys.map V.str))) p = some (.lst (ys.map V.str)) := upd_same
      generalize upd (upd H7 l (.lst (kvs.map fun kv => kV kv.1))) p (.lst (ys.map V.str)) = H8 at s8 hp8
      have yl : ys.length ≤ 3 := by rw [hp.length_eq, List.length_map]; exact hfew.2
      refine ⟨p, rfl, ⟨_, SqL.of hp8⟩, fun D2 hD2 => ?_⟩
      refine dc_pure walk_list ys (fun x => (Sum.inr x, stepsOf n rs x)) (fun H v b => LAt eTri H v b) (fun H H' v b k h => h.fd k) (by simp) (by rw [List.length_map]; exact Nat.le_trans yl (by decide)) hD2 ?_ (fun H' s => SqL.of (s _ _ hp8)) (fun i z x' H1 H2 N N0 hz s1 yy hN => ?_) fun H9 kv9 s9 hD9 hk9 => ?_
      · exact JM.nodup_map (fun x _ y _ e => Sum.inr.inj e) (hp.nodup_iff.mpr ok.nd)
      · obtain ⟨rfl, e2⟩ := yy
        obtain ⟨y, hy, rfl⟩ := at_map e2
        rw [hz] at hy
        cases hy
        obtain ⟨row, hrow⟩ := look_of_mem (hp.mem_iff.mp (mem_at hz))
        have s10 := s8.trans s1
        refine ⟨rfl, yesT2 ⟨_, rfl, _, rfl, _, rfl, _, rfl, n, d, z, kvs, rs, row, rfl, s10 _ _ hd7, hk7.mono fun v b h => h.sm s10, ok, hrow, fun H4 v s4 h4 => hN v H4 s4 ?_⟩⟩
        show LAt eTri H4 v (stepsOf n rs z)
        unfold stepsOf
        rw [hrow]
        exact h4
      · have nx : D2 ≠ x := fun z => by rw [z, s8 _ _ hx7] at hD2; cases hD2
        have hx9 := s9 _ _ (s8 _ _ hx7)
        have n0 : H D2 = none := k7.free nx (s8.free hD2)
        refine ⟨_, rfl, x, T.Let.C, dx, _, rfl, hx9, T.Let.cl, T.n_Let__table, by show 1 < 1000; decide, ?_⟩
        refine q _ ((k7.trans (same_x (s8.trans s9))).at) ⟨x, dx, .ref D2, ys, rfl, upd_same, hp, ⟨D2, kv9, rfl, (upd_ne nx).trans hD9, ?_⟩, ok⟩
        refine KvAt.dk ?_
        unfold tabOf
        rw [List.map_map]
        refine hk9.mono fun v b h => ?_
        exact h.kx hx9 (fun _ z => nomatch z) (fun _ z => nomatch z) samex_upd
def sp_Let_states (T : Wd K mg) : Sp := fun vs H Q _ => ∃ (v : V) (n : Int) (rs : List (PySem.Str × List Tri)), vs = [v] ∧ LetAt T H v n rs ∧ ∀ H' p ks, Same H H' → ks.Perm (rs.map (·.1)) → LAt PyData.str H' p ks → Q p H'
theorem sc_Let_states : FnScope ["self"] ["self"] (defScope s_Let_states) := ⟨rfl, rfl, rfl, by decide +kernel, rfl, by decide +kernel, by decide +kernel⟩
-- slots: 0 self
theorem ok_Let_states (T : Wd K mg) : FnOk P w K mg base CX0 1 T.Let_states.f T.Let_states.fd ["self"] (sp_Let_states T) := by
  refine T.Let_states.F.ok sc_Let_states (fun vs H Q E h => ?_) (fun cdv A outer s H vs Q E hr h => ?_)
  · obtain ⟨x, n, rs, rfl, _⟩ := h
    rfl
  · obtain ⟨x, n, rs, rfl, hx, q⟩ := h
    obtain ⟨x, dx, d, ks, rfl, hx, hp, ⟨d, kvs, rfl, hd, hk⟩, ok⟩ := hx
    refine ⟨_, PSs.nox (pss_one (ps_ret (pe_callTy (call_list_dK rfl) (by rfl) T.n_list (by decide +kernel) (pa_cons (pe_fld (pv 0) rfl) pa_nil))))
, ?_⟩
    refine ⟨_, rfl, x, T.Let.C, dx, _, _, rfl, hx, T.Let.cl, T.n_Let__table, rfl, d, kvs, rfl, hd, fun l hl => q _ _ ks (same_new hl) hp ⟨l, _, rfl, upd_same, ?_⟩⟩
    rw [hk.keys]
    have e : (tabOf n rs ks).map (fun w => V.str w.1) = ks.map V.str := by
      rw [← tabOf_keys n rs ks, List.map_map, tabOf_keys]
      rfl
    rw [e]
    exact sda_of_strs ks
def sp_Let_rules (T : Wd K mg) : Sp := fun vs H Q _ => ∃ (v : V) (x : PySem.Str) (n : Int) (rs : List (PySem.Str × List Tri)), vs = [v, .str x] ∧ LetAt T H v n rs ∧ x ∈ rs.map (·.1) ∧ ∀ H' p, Same H H' → LAt eTri H' p (stepsOf n rs x) → Q p H'
theorem sc_Let_rules : FnScope ["self", "state"] ["self", "state"] (defScope s_Let_rules) := ⟨rfl, rfl, rfl, by decide +kernel, rfl, by decide +kernel, by decide +kernel⟩
-- slots: 0 self, 1 state
theorem ok_Let_rules (T : Wd K mg) : FnOk P w K mg base CX0 1 T.Let_rules.f T.Let_rules.fd ["self", "state"] (sp_Let_rules T) := by
  refine T.Let_rules.F.ok sc_Let_rules (fun vs H Q E h => ?_) (fun cdv A outer s H vs Q E hr h => ?_)
  · obtain ⟨x, y, n, rs, rfl, _⟩ := h
    rfl
  · obtain ⟨v, y, n, rs, rfl, hx, hy, q⟩ := h
    obtain ⟨x, dx, d, ks, rfl, hx, hp, ⟨d, kvs, rfl, hd, hk⟩, ok⟩ := hx
    obtain ⟨u, hu, a, us, rfl, ha, hus⟩ := hk.get (w := y) (b := stepsOf n rs y) (by rw [look_tab, if_pos (hp.mem_iff.mpr hy)])
    have hg : DGet H d (.str y) (some (.ref a)) := .inl ⟨kvs, .inr y, .inl hd, rfl, hu.symm⟩
    refine ⟨_, PSs.nox (pss_cons (ps_if (PW.pt (pw_or (pt_not (pt_val (pe_callB call_isi (by rfl) T.n_isinstance (by decide +kernel) (pa_cons (pv 1) (pa_cons (pe_bltn (v := .ty "str") (by rfl) T.n_str (by decide +kernel) rfl) pa_nil))) (fun _ => rfl))) (pw_or1 (pt_cmp (pc_dnotin (hu_of hr) (pv 1) (pe_fld (pv 0) rfl))))))
        (pss_one ps_never)
        pss_nil)
      (pss_one (ps_ret (pe_callTy call_list_of (by rfl) T.n_list (by decide +kernel) (pa_cons (pe_dget (hu_of hr) (pe_fld (pv 0) rfl) (pv 1) (fun _ _ => rfl)) pa_nil)))))
, ?_⟩
    refine ⟨_, rfl, _, _, _, _, true, rfl, .ty _, .base (.str _), kit_ty (by decide +kernel), true, rfl, iteF ?_⟩
    refine ⟨_, rfl, _, rfl, x, T.Let.C, dx, _, _, rfl, hx, T.Let.cl, T.n_Let__table, rfl, d, _, rfl, hg, _, rfl, iteF ?_⟩
    refine ⟨_, rfl, x, T.Let.C, dx, _, _, rfl, hx, T.Let.cl, T.n_Let__table, rfl, _, rfl, d, _, rfl, hg, a, us, rfl, .inl (SqL.of ha), fun l hl => q _ _ (same_new hl) ⟨l, us, rfl, upd_same, hus.sm (same_new hl)⟩⟩
end
end J
/-! Let.words, check_let. -/
namespace J
open PySem PySem.Spec PyProof.Rows L2
def lcS : Expr → Scope
  | .ListComp _ _ sc _ => sc
  | _ => { kind := .function, names := [], isGenerator := false, isCoroutine := false }
def rlS (sc out : Scope) : Scope := { sc with names := sc.names.map fun (n, k) => if (k == .free && out.kind == .function && out.names.lookup n == some .cell) then (n, .cell) else (n, k) }
def retE (s : Stmt) : Expr := match defBody s with
  | [.Return (some e) _] => e
  | _ => .Constant .none 0 ⟨0, 0, 0, 0⟩
section
variable {X : Cx} {K : PySem.W.Frag}
theorem cr_anyK (hc : X.calm = true) (hK : X.K = K) : CallR X (.builtin "any") (rAny K) := by subst hK; exact cr_any hc
theorem pi_listK {l : Expr} {tl : TE} {tg : Expr} (hK : X.K = K) (hl : PE X l tl) : PI X tg l (iList K tl) := by subst hK; exact pi_list hl
end
section
variable {P : Program} {w : World} {K : PySem.W.Frag} {mg : Str → Option Value} {base : Heap}
def hitsOf (tab : List (PySem.Str × List Tri)) (x : PySem.Str) : List Bool := tab.flatMap fun p => p.2.map fun r => decide (x = r.1)
theorem hits_step (tab : List (PySem.Str × List Tri)) (x : PySem.Str) {i : Nat} {p : PySem.Str × List Tri} (e : tab[i]? = some p) : hitsOf (tab.take (i + 1)) x = hitsOf (tab.take i) x ++ p.2.map fun r => decide (x = r.1) := by
  unfold hitsOf
  rw [List.take_add_one, e, List.flatMap_append]
  simp
def sp_Let_words (T : Wd K mg) : Sp := fun vs H Q _ => ∃ (v : V) (n : Int) (rs : List (PySem.Str × List Tri)), vs = [v] ∧ LetAt T H v n rs ∧ ∀ H' p (l : List PySem.Str), Same H H' → l.length ≤ 2 → (∀ x ∈ l, ∃ pr ∈ rs, ∃ r ∈ pr.2, r.1 = x) → LAt PyData.str H' p l → Q p H'
theorem sc_Let_words : FnScope ["self", "word", "row", "rule"] ["self"] (defScope s_Let_words) := ⟨rfl, rfl, rfl, by decide +kernel, rfl, by decide +kernel, by decide +kernel⟩
-- slots: 0 self*, 1 word, 2 row*, 3 rule*
theorem ok_Let_words (T : Wd K mg) : FnOk P w K mg base CX0 1 T.Let_words.f T.Let_words.fd ["self"] (sp_Let_words T) := by
  refine T.Let_words.F.ok sc_Let_words (fun vs H Q E h => ?_) (fun cdv A outer s H vs Q E hr h => ?_)
  · obtain ⟨x, n, rs, rfl, _⟩ := h
    rfl
  · obtain ⟨x, n, rs, rfl, hx, q⟩ := h
    obtain ⟨x, dx, d, ks, rfl, hx, hp, ⟨d, kvs, rfl, hd, hk⟩, ok⟩ := hx
    have hlen := hk.len
    refine ⟨_, PSs.nox (pss_one (ps_ret (pe_lc (own := [("word", 1)]) (g := gName 1) rfl sc_Let_words.nd (pi_tup (pe_glob (v := .ref T.WORDS) (by rfl) T.m_WORDS rfl)) (blkOk_by (own := [("word", 1)]) (N := ["self", "word", "row", "rule"]) (sc := defScope s_Let_words) (by decide +kernel)) (fun _ _ _ _ _ => (pg_name (i := 1) sc_Let_words.nd rfl (.inr rfl))) (fun _ _ _ _ _ => pts_one (pt_val (pe_callB (cr_anyK (K := K) (by rfl) (by rfl)) (by rfl) T.n_any (by decide +kernel) (pa_cons (pe_lock (pe_lc2 (own := [("row", 2), ("rule", 3)]) (vs1 := [3]) (g := gName 2) (g1 := gName 3) rfl sc_Let_words.nd (pi_values (pe_fldK (K := K) (by rfl) (pv 0) rfl)) (blkOk_by (own := [("row", 2), ("rule", 3)]) (N := ["self", "word", "row", "rule"]) (sc := rlS (lcS (retE s_Let_words)) (defScope s_Let_words)) (by decide +kernel)) (by decide) (fun _ _ _ _ _ => (pg_name (i := 2) sc_Let_words.nd rfl (.inl rfl))) (fun _ _ _ _ _ => pts_nil) (fun _ _ _ _ _ => (pi_listK (K := K) (by rfl) (pv 2))) (fun _ _ _ _ _ => (pg_name (i := 3) sc_Let_words.nd rfl (.inl rfl))) (fun _ _ _ _ _ => pts_nil) (fun _ _ _ _ _ => (pe_cmpR op_eq (pv 1) (pe_ix (ix_tupK (K := K) (by rfl)) (pv 3) pe_int (fun _ _ => rfl)) (nomark _))))) pa_nil)) (fun _ => rfl))) (fun _ _ _ _ _ => (pv 1)))))
, ?_⟩
    refine ⟨T.WORDS, rfl, ⟨_, T.k_WORDS _⟩, fun D hD => ?_⟩
    have hkn : ks.length ≤ 3 := by rw [hp.length_eq, List.length_map]; exact ok.few.2
    refine lc_pure walk_tup (["push", "squeeze"] : List PySem.Str) (fun w => if (hitsOf (tabOf n rs ks) w).any id = true then some w else none) PyData.str rfl (by decide) hD (fun H' _ => T.k_WORDS H') (fun i z x' H1 H2 N N0 hz s1 y hN hN0 => ?_) fun H5 us5 s4 hD5 hu5 => ?_
    · obtain ⟨rfl, e2⟩ := y
      have e3 : x' = .str z := by
        rcases i with _ | _ | i
        · cases hz; cases e2; rfl
        · cases hz; cases e2; rfl
        · cases hz
      subst e3
      have hd1 := s1 _ _ hd
      refine ⟨rfl, d, .dK kvs, hd1, trivial, fun od => ?_⟩
      have hxL : (upd H2 d (.frz od (.dK kvs))) x = some (.ins T.Let.C dx [("around", .int n), ("_table", .ref d)]) := fz_dK hd1 _ _ (s1 _ _ hx) (fun _ z => nomatch z) (fun _ z => nomatch z) (fun _ z => nomatch z)
      have hkL : DkAt (LAt eTri (upd H2 d (.frz od (.dK kvs)))) kvs (tabOf n rs ks) := hk.mono fun v b h => (h.sm s1).fd (fd_dK hd1)
      have hdL : (upd H2 d (.frz od (.dK kvs))) d = some (.frz od (.dK kvs)) := upd_same
      have back : ∀ H', Same (upd H2 d (.frz od (.dK kvs))) H' → Same H2 (upd H' d (.dK kvs)) := fun H' s => same_lock hd1 s
      generalize upd H2 d (.frz od (.dK kvs)) = HL at hxL hkL hdL back
      refine ⟨_, rfl, x, T.Let.C, dx, _, _, rfl, hxL, T.Let.cl, T.n_Let__table, rfl, d, od, kvs, rfl, hdL, fun D2 hD2 => ?_⟩
      have rowL : ∀ p ∈ tabOf n rs ks, p.2.length ≤ 8 := fun p hp' => by
        obtain ⟨k, hk', rfl⟩ := List.mem_map.mp hp'
        obtain ⟨raw, hraw⟩ := look_of_mem (hp.mem_iff.mp hk')
        show (stepsOf n rs k).length ≤ 8
        unfold stepsOf
        rw [hraw, (sortTri_perm _).length_eq, List.length_map]
        exact ok.len _ (JM.look_some hraw)
      have hitL : ∀ i, (hitsOf ((tabOf n rs ks).take i) z).length ≤ 8 * i := fun i => by
        induction i with
        | zero => simp [hitsOf]
        | succ i ih =>
          by_cases c : i < (tabOf n rs ks).length
          · rw [hits_step _ _ (List.getElem?_eq_getElem c), List.length_append, List.length_map]
            have := rowL _ (List.getElem_mem c)
            omega
          · rw [List.take_of_length_le (by omega)] at ih ⊢
            omega
      refine ⟨fun i m H' => ∃ (hi : i ≤ (tabOf n rs ks).length), m = (tabOf n rs ks).length - i ∧ Same HL H' ∧ H' D2 = some (.lst ((hitsOf ((tabOf n rs ks).take i) z).map V.bl)), ⟨_, Nat.zero_le _, rfl, same_new' hD2, upd_same⟩, ?_⟩
      rintro i m H3 ⟨hi, rfl, s3, hD3⟩
      rcases Nat.lt_or_ge i (tabOf n rs ks).length with c | c
      · refine .inr ⟨⟨s3 _ _ hdL, by rw [hk.len]; exact c⟩, fun H' => Same HL H' ∧ H' D2 = some (.lst ((hitsOf ((tabOf n rs ks).take (i + 1)) z).map V.bl)), fun H' p => ⟨(tabOf n rs ks).length - (i + 1), by omega, c, rfl, p.1, p.2⟩, fun v H4 y => ?_⟩
        obtain ⟨rfl, k, e4⟩ := y
        obtain ⟨y, row, e5, rfl, hrow⟩ := hkL.at e4
        obtain ⟨a, us, rfl, ha, hus⟩ := hrow
        have hul := sda_len hus
        refine ⟨rfl, yesT2 ⟨_, rfl, a, rfl, ⟨us, SqL.of (s3 _ _ ha)⟩, ?_⟩⟩
        refine ⟨fun j m H' => ∃ (hj : j ≤ row.length), m = row.length - j ∧ Same HL H' ∧ H' D2 = some (.lst ((hitsOf ((tabOf n rs ks).take i) z ++ (row.take j).map fun r => decide (z = r.1)).map V.bl)), ⟨_, Nat.zero_le _, rfl, s3, by simpa using hD3⟩, ?_⟩
        rintro j m H5 ⟨hj, rfl, s5, hD5⟩
        rcases Nat.lt_or_ge j row.length with c2 | c2
        · refine .inr ⟨⟨us, us[j]'(by omega), SqL.of (s5 _ _ ha), by simp [hul, c2]⟩, fun H' => Same HL H' ∧ H' D2 = some (.lst ((hitsOf ((tabOf n rs ks).take i) z ++ (row.take (j + 1)).map fun r => decide (z = r.1)).map V.bl)), fun H' p => ⟨row.length - (j + 1), by omega, c2, rfl, p.1, p.2⟩, fun v H6 y => ?_⟩
          obtain ⟨rfl, e6⟩ := y
          have e7 := e6 us (SqL.of (s5 _ _ ha))
          obtain ⟨r, hr7, hs7⟩ := item_at hus e7
          obtain ⟨b, rfl, hb⟩ := sd_tri (hs7.sm s5)
          refine ⟨rfl, yesT2 ⟨_, rfl, _, rfl, b, _, 0, .str r.1, rfl, rfl, SqT.of hb, rfl, rfl, _, hD5, ?_, fun o q e => ?_, ?_⟩⟩
          · have := hitL i
            have l1 : (tabOf n rs ks).length ≤ 3 := by unfold tabOf; rw [List.length_map]; exact hkn
            have l2 := rowL _ (mem_at e5)
            rw [List.length_map, List.length_append, List.length_map, List.length_take]
            refine Nat.lt_of_le_of_lt (m := 32) ?_ (by decide)
            have l3 : row.length ≤ 8 := l2
            omega
          · exact (upd_ne (ne_of_none e hD2)).trans (s5 _ _ e)
          · rw [upd_same, List.take_add_one, hr7]
            have e8 : decide (V.str z = V.str r.1) = decide (z = r.1) := by
              by_cases c3 : z = r.1
              · rw [decide_eq_true c3, decide_eq_true (congrArg V.str c3)]
              · rw [decide_eq_false c3, decide_eq_false fun q => c3 (V.str.inj q)]
            rw [e8]
            simp
        · refine .inl ⟨⟨us, SqL.of (s5 _ _ ha), by omega⟩, s5, ?_⟩
          rw [hits_step _ _ e5]
          rw [List.take_of_length_le (l := row) (by omega)] at hD5
          exact hD5
      · refine .inl ⟨⟨s3 _ _ hdL, by rw [hk.len]; omega⟩, s3 _ _ hdL, ?_⟩
        rw [List.take_of_length_le (by omega)] at hD3
        have nDd : D2 ≠ d := fun q => by rw [q, hdL] at hD2; cases hD2
        refine ⟨D2, hitsOf (tabOf n rs ks) z, rfl, SqL.of ((upd_ne nDd).trans hD3), _, rfl, ?_⟩
        refine ite2 (fun ct => ?_) fun ct => ?_
        · exact ⟨_, rfl, hN _ _ z (back _ s3) (if_pos ct) (.str _)⟩
        · exact hN0 (if_neg ct) _ (back _ s3)
    · refine q _ _ _ s4 ?_ (fun y hy => ?_) ⟨D, us5, rfl, hD5, hu5⟩
      · exact Nat.le_trans (List.length_filterMap_le _ _) (by decide)
      · obtain ⟨z, hz, he⟩ := List.mem_filterMap.mp hy
        by_cases c : (hitsOf (tabOf n rs ks) z).any id = true
        · rw [if_pos c] at he
          cases he
          obtain ⟨b, hb, hb2⟩ := List.any_eq_true.mp c
          obtain ⟨p, hp1, hp2⟩ := List.mem_flatMap.mp hb
          obtain ⟨r, hr1, rfl⟩ := List.mem_map.mp hp2
          obtain ⟨k, hk', rfl⟩ := List.mem_map.mp hp1
          obtain ⟨raw, hraw⟩ := look_of_mem (hp.mem_iff.mp hk')
          have hr2 : r ∈ stepsOf n rs k := hr1
          unfold stepsOf at hr2
          rw [hraw, (sortTri_perm _).mem_iff] at hr2
          obtain ⟨r0, hr0, rfl⟩ := List.mem_map.mp hr2
          exact ⟨_, JM.look_some hraw, r0, hr0, (of_decide_eq_true hb2).symm⟩
        · rw [if_neg c] at he
          cases he
/-- the machine's words are the part's -/
def Fits (ws : List (PySem.Str × List Row)) (rs : List (PySem.Str × List Tri)) : Prop := ∀ p ∈ rs, ∀ r ∈ p.2, r.1 ∈ ws.map (·.1)
def LetOr (T : Wd K mg) (H : Hp) (v : V) (n : Int) (ws : List (PySem.Str × List Row)) : Option (List (PySem.Str × List Tri)) → Prop
  | none => v = .non
  | some rs => LetAt T H v n rs ∧ Fits ws rs
theorem LetOr.sm {T : Wd K mg} {H H' : Hp} {v : V} {n : Int} {ws : List (PySem.Str × List Row)} {o : Option (List (PySem.Str × List Tri))} (k : Same H H') (h : LetOr T H v n ws o) : LetOr T H' v n ws o := by
  cases o with
  | none => exact h
  | some rs => exact ⟨LetAt.sm k h.1, h.2⟩
def sp_check_let (T : Wd K mg) : Sp := fun vs H Q _ => ∃ (v l : V) (n : Int) (ws : List (PySem.Str × List Row)) (o : Option (List (PySem.Str × List Tri))), vs = [v, l] ∧ PartAt T H v n ws ∧ LetOr T H l n ws o ∧ ∀ H', Same H H' → Q .non H'
theorem sc_check_let : FnScope ["part", "let", "words", "word"] ["part", "let"] (defScope s_check_let) := ⟨rfl, rfl, rfl, by decide +kernel, rfl, by decide +kernel, by decide +kernel⟩
-- slots: 0 part, 1 let, 2 words, 3 word
theorem ok_check_let (T : Wd K mg) : FnOk P w K mg base CX0 3 T.check_let.f T.check_let.fd ["part", "let"] (sp_check_let T) := by
  have G_Part_words := ok_Part_words (P := P) (w := w) (base := base) T
  have G_Let_words := ok_Let_words (P := P) (w := w) (base := base) T
  refine T.check_let.F.ok sc_check_let (fun vs H Q E h => ?_) (fun cdv A outer s H vs Q E hr h => ?_)
  · obtain ⟨v, l, n, ws, o, rfl, _⟩ := h
    rfl
  · obtain ⟨v, l, n, ws, o, rfl, hv, hl, q⟩ := h
    have hv' := hv
    obtain ⟨x, dx, d, rfl, hx, _, okw⟩ := hv'
    refine ⟨_, PSs.nox (pss_cons (ps_if (pt_cmpR op_isN (pv 1) pe_non (nomark _))
        (pss_one ps_retN)
        pss_nil)
      (pss_cons (ps_if (pt_cmpR op_ne (pe_fld (pv 1) rfl) (pe_fld (pv 0) rfl) (nomark _))
        (pss_one ps_never)
        pss_nil)
      (pss_cons (ps_set (i := 2) sc_check_let.nd rfl (.inl rfl) (pe_prop (pv 0) T.Part.cl T.Part_words.pr G_Part_words (hr.mono (by decide)) T.Part_words.b .nil pass0 rfl))
      (pss_one (ps_for PassesOwn.never rfl (pi_list (pe_prop (pv 1) T.Let.cl T.Let_words.pr G_Let_words (hr.mono (by decide)) T.Let_words.b .nil pass0 rfl)) (pg_name (i := 3) sc_check_let.nd rfl (.inl rfl))
      (pss_one (ps_if (pt_cmpR op_notIn_seq (pv 3) (pv 2) rfl)
        (pss_one ps_never)
        pss_nil)))))))
, ?_⟩
    cases o with
    | none =>
      cases (show l = .non from hl)
      exact ⟨_, rfl, rfl, _, rfl, iteT (q _ (Same.refl _))⟩
    | some rs =>
      obtain ⟨hl, hf⟩ := hl
      have hl' := hl
      obtain ⟨y, dy, e, ks, rfl, hy, _, _, ok⟩ := hl'
      refine ⟨_, rfl, rfl, _, rfl, iteF ?_⟩
      refine ⟨_, rfl, y, T.Let.C, dy, _, _, rfl, hy, T.Let.cl, T.n_Let_around, rfl, _, rfl, x, T.Part.C, dx, _, _, rfl, hx, T.Part.cl, T.n_Part_around, rfl, rfl, _, rfl, iteNS rfl ?_⟩
      refine ⟨_, rfl, x, dx, _, rfl, hx, _, n, ws, rfl, hv, fun H1 p s1 hp => ?_⟩
      obtain ⟨pa, us, rfl, hpa, hus⟩ := hp
      refine ⟨_, rfl, y, dy, _, rfl, s1 _ _ hy, _, n, rs, rfl, hl.sm s1, fun H2 p2 l s2 hl2 hin hp2 => ?_⟩
      obtain ⟨pb, us2, rfl, hpb, hus2⟩ := hp2
      refine ⟨pb, rfl, ⟨us2, SqL.of hpb⟩, ?_⟩
      refine for_it walk_list (fun i σ H' => H' = H2 ∧ ∃ z, σ = [some (.ref x), some (.ref y), some (.ref pa), z]) ⟨rfl, none, rfl⟩ (fun i σ H' _ p => by rw [p.1]; exact SqL.of hpb) (fun i v σ H3 H4 hi p yy => ?_) fun σ H3 p => ?_
      · obtain ⟨rfl, z, rfl⟩ := p
        obtain ⟨rfl, e2⟩ := yy
        obtain ⟨w', hw', hs⟩ := item_at hus2 e2
        rw [sd_str hs]
        have hin' : w' ∈ ws.map (·.1) := by
          obtain ⟨pr, hpr, r, hr, rfl⟩ := hin w' (mem_at hw')
          exact hf pr hpr r hr
        refine ⟨_, rfl, _, rfl, pa, us, rfl, .inl (SqL.of (s2 _ _ hpa)), rfl, ?_, false, ?_, iteF ⟨rfl, _, rfl⟩⟩
        · rw [sda_strs hus, List.all_eq_true]
          intro b hb
          obtain ⟨c, _, rfl⟩ := List.mem_map.mp hb
          rfl
        · have hin2 : inV (.str w') us = true := List.any_eq_true.mpr ⟨.str w', by rw [sda_strs hus]; exact List.mem_map.mpr ⟨w', hin', rfl⟩, by simp [eqV]⟩
          show V.bl (if true = true then !inV (.str w') us else inV (.str w') us) = V.bl false
          rw [hin2]
          rfl
      · obtain ⟨rfl, z, rfl⟩ := p
        exact q _ (s1.trans s2)
end
end J
/-! What stays while one dict with tuple keys (what a board has found) is filled. -/
namespace J
open PySem PySem.Spec PyProof.Rows L2
/-- kept while a board finds, an object is filled, a code table grows -/
def Gone (o : HO) : Prop := (∃ kvs, o = .dT kvs) ∨ (∃ ps, o = .tbl ps) ∨ ∃ C dx, o = .ins C dx []
/-- all but dicts with tuple keys, code tables and empty objects is kept -/
def Ke (H H' : Hp) : Prop := ∀ b o, H b = some o → ¬ Gone o → H' b = some o
theorem Ke.refl (H : Hp) : Ke H H := fun _ _ h _ => h
theorem Ke.trans {H H1 H2 : Hp} (a : Ke H H1) (b : Ke H1 H2) : Ke H H2 := fun c o h n => b c o (a c o h n) n
theorem ke_of {H H' : Hp} (h : Same H H') : Ke H H' := fun b o e _ => h b o e
theorem ke_x {H H' : Hp} {x : Addr} {kvs : List (List Key × V)} (h : SameX x H H') (e : H x = some (.dT kvs)) : Ke H H' := fun b o q n => h b o (fun z => by
  rw [z, e] at q
  exact n (.inl ⟨kvs, (Option.some.inj q).symm⟩)) q
theorem ke_in {H H' : Hp} {x C dx : Addr} (h : SameX x H H') (e : H x = some (.ins C dx [])) : Ke H H' := fun b o q n => h b o (fun z => by
  rw [z, e] at q
  exact n (.inr (.inr ⟨C, dx, (Option.some.inj q).symm⟩))) q
theorem gone_tup (xs : List V) : ¬ Gone (.tup xs) := fun h => by rcases h with ⟨_, h⟩ | ⟨_, h⟩ | ⟨_, _, h⟩ <;> cases h
theorem gone_lst (xs : List V) : ¬ Gone (.lst xs) := fun h => by rcases h with ⟨_, h⟩ | ⟨_, h⟩ | ⟨_, _, h⟩ <;> cases h
theorem gone_dk (xs : List (Key × V)) : ¬ Gone (.dK xs) := fun h => by rcases h with ⟨_, h⟩ | ⟨_, h⟩ | ⟨_, _, h⟩ <;> cases h
theorem gone_ext (φ : Heap → Prop) : ¬ Gone (.ext φ) := fun h => by rcases h with ⟨_, h⟩ | ⟨_, h⟩ | ⟨_, _, h⟩ <;> cases h
theorem gone_ins (C dx : Addr) (p : PySem.Str × V) (fs : List (PySem.Str × V)) : ¬ Gone (.ins C dx (p :: fs)) := fun h => by rcases h with ⟨_, h⟩ | ⟨_, h⟩ | ⟨_, _, h⟩ <;> cases h
theorem Ke.ft {H H' : Hp} (k : Ke H H') : Ft H H' := fun b xs h => k b _ h (gone_tup xs)
theorem Ke.lst {H H' : Hp} {a : Addr} {xs : List V} (k : Ke H H') (h : H a = some (.lst xs)) : H' a = some (.lst xs) := k _ _ h (gone_lst xs)
theorem Ke.dk {H H' : Hp} {a : Addr} {xs : List (Key × V)} (k : Ke H H') (h : H a = some (.dK xs)) : H' a = some (.dK xs) := k _ _ h (gone_dk xs)
theorem Ke.ins {H H' : Hp} {a C dx : Addr} {p : PySem.Str × V} {fs : List (PySem.Str × V)} (k : Ke H H') (h : H a = some (.ins C dx (p :: fs))) : H' a = some (.ins C dx (p :: fs)) := k _ _ h (gone_ins _ _ _ _)
theorem Ke.ext {H H' : Hp} {a : Addr} {φ : Heap → Prop} (k : Ke H H') (h : H a = some (.ext φ)) : H' a = some (.ext φ) := k _ _ h (gone_ext _)
theorem LAt.ke {β : Type} {enc : β → PyData} {H H' : Hp} {v : V} {l : List β} (k : Ke H H') (h : LAt enc H v l) : LAt enc H' v l := by
  obtain ⟨a, us, e, h1, h2⟩ := h
  exact ⟨a, us, e, k.lst h1, h2.mt k.ft⟩
theorem DAt.ke {β : Type} {R : Hp → V → β → Prop} {H H' : Hp} {v : V} {ws : List (PySem.Str × β)} (m : ∀ v b, R H v b → R H' v b) (k : Ke H H') (h : DAt R H v ws) : DAt R H' v ws := by
  obtain ⟨d, kvs, e, h1, h2⟩ := h
  exact ⟨d, kvs, e, k.dk h1, h2.mono m⟩
theorem nodup_len {α : Type} [DecidableEq α] : ∀ {l m : List α}, l.Nodup → (∀ x ∈ l, x ∈ m) → l.length ≤ m.length
  | [], _, _, _ => Nat.zero_le _
  | a :: l, m, hn, hm => by
    obtain ⟨h1, h2⟩ := List.nodup_cons.mp hn
    have ha := hm a (List.mem_cons_self ..)
    have := nodup_len (l := l) (m := m.erase a) h2 fun x hx => (List.mem_erase_of_ne (fun e => h1 (by rw [← e]; exact hx))).mpr (hm x (List.mem_cons_of_mem _ hx))
    rw [List.length_erase_of_mem ha] at this
    have := List.length_pos_of_mem ha
    rw [List.length_cons]
    omega
/-- a comprehension that only makes, beside the dict at fd (I tells what stands there) -/
theorem lc_pureX {J : It} {n : Nat} {G : Hp → Prop} {Y : Nat → Hp → V → Hp → Prop} (w : Walk J n G Y) {α β : Type} (its : List α) (f : α → Option β) (enc : β → PyData) (fd : Addr) (I : Option HO → Prop) {g : TG} {tt : TT} {te : TE} {vs : List Nat} {σ : L2.St} {H1 : Hp} {D : Addr} {Qd : Hp → Prop}
    (hI : ∀ o, I o → ∃ kvs, o = some (.dT kvs)) (h1 : I (H1 fd))
    (hn : n = its.length) (hz : n ≤ sizeLine) (hD : H1 D = none) (hG : ∀ H, SameX fd H1 H → G H)
    (hs : ∀ i z x H H' (N : V → Hp → Prop) (N0 : Hp → Prop), its[i]? = some z → SameX fd H1 H → I (H fd) → Y i H x H' → (∀ y H4 b, SameX fd H H4 → I (H4 fd) → f z = some b → Sd H4 y (enc b) → N y H4) → (f z = none → ∀ H4, SameX fd H H4 → I (H4 fd) → N0 H4) →
      g x (wipe σ vs) H' fun σ2 H2 => wipe σ2 vs = wipe σ vs ∧ tt σ2 H2 fun b H3 => if b = true then te σ2 H3 N else N0 H3)
    (hd : ∀ H us, SameX fd H1 H → I (H fd) → H D = some (.lst us) → SdAll H us ((its.filterMap f).map enc) → Qd H) :
    ∃ W : Nat → Nat → Hp → Prop, (∃ m, W 0 m (upd H1 D (.lst []))) ∧ ∀ i m H, W i m H →
      (J.stop i H ∧ Qd H) ∨ (J.go i H ∧ ∃ Nx : Hp → Prop, (∀ H', Nx H' → ∃ m', m' < m ∧ W (i + 1) m' H') ∧ ∀ x H', J.yld i H x H' → g x (wipe σ vs) H' fun σ2 H2 => wipe σ2 vs = wipe σ vs ∧ tt σ2 H2 fun b H3 =>
        if b = true then te σ2 H3 fun y H4 => ∃ acc, H4 D = some (.lst acc) ∧ acc.length < sizeLine ∧ Nx (upd H4 D (.lst (acc ++ [y]))) else Nx H3) := by
  obtain ⟨kv0, e0⟩ := hI _ h1
  have nDf : D ≠ fd := fun z => by rw [z, e0] at hD; cases hD
  refine lc_it w (fun i H => SameX fd H1 H ∧ I (H fd) ∧ ∃ us, H D = some (.lst us) ∧ us.length ≤ i ∧ SdAll H us (((its.take i).filterMap f).map enc)) ⟨samex_new hD, by rw [upd_ne (fun z => nDf z.symm)]; exact h1, [], upd_same, Nat.le_refl _, .nil⟩ (fun i H _ p => hG H p.1) (fun i x H H' hi p y => ?_) fun H p => ?_
  · obtain ⟨hS, hi0, us, hu, hul, hd'⟩ := p
    have hi' : i < its.length := hn ▸ hi
    obtain ⟨kv1, e1⟩ := hI _ hi0
    refine hs i its[i] x H H' _ _ (by simp [hi']) hS hi0 y (fun y H4 b h4 i4 hf hy => ?_) fun hf H4 h4 i4 => ?_
    · have hu4 := h4 _ _ nDf hu
      have k4 : Ft H H4 := (ke_x h4 e1).ft
      refine ⟨us, hu4, by omega, fun c o nc e => (upd_ne (ne_of_none e hD)).trans (h4 _ _ nc (hS _ _ nc e)), by rw [upd_ne (fun z => nDf z.symm)]; exact i4, us ++ [y], upd_same, by simp; omega, ?_⟩
      rw [fm_take f its (i := i) (z := its[i]) (by simp [hi']), hf, List.map_append]
      have k := fz_lst (o := .lst (us ++ [y])) hu4
      exact ((hd'.mt k4).mv k).app (.cons (hy.mv k) .nil)
    · have hu4 := h4 _ _ nDf hu
      refine ⟨fun c o nc e => h4 _ _ nc (hS _ _ nc e), i4, us, hu4, by omega, ?_⟩
      rw [fm_take f its (i := i) (z := its[i]) (by simp [hi']), hf]
      simpa using hd'.mt (ke_x h4 e1).ft
  · obtain ⟨hS, hi0, us, hu, hul, hd'⟩ := p
    refine hd H us hS hi0 hu ?_
    rw [hn, List.take_length] at hd'
    exact hd'
end J
/-! The board. -/
namespace J
open PySem PySem.Spec PyProof.Rows L2
def woOf (n span : Int) (ws : List (PySem.Str × List Row)) : JM.Wo PySem.Str := ⟨n, span, ws.map (·.1), fun w => (JM.look ws w).getD []⟩
theorem look_map {β γ : Type} (f : β → γ) : ∀ (ws : List (PySem.Str × β)) (x : PySem.Str), JM.look (ws.map fun w => (w.1, f w.2)) x = (JM.look ws x).map f
  | [], x => rfl
  | p :: ws, x => by
    rw [List.map_cons, JM.look_cons, JM.look_cons, look_map f ws x]
    by_cases c : p.1 = x
    · rw [if_pos c, if_pos c]; rfl
    · rw [if_neg c, if_neg c]
theorem woOf_rows {n span : Int} {ws : List (PySem.Str × List Row)} (h : WsOk n ws) {w : PySem.Str × List Row} (m : w ∈ ws) : (woOf n span ws).rows w.1 = w.2 := by
  show (JM.look ws w.1).getD [] = w.2
  rw [JM.look_mem h.nd (x := w.2) m]
  rfl
theorem woOf_ok {n span : Int} {ws : List (PySem.Str × List Row)} (h : WsOk n ws) (s : SpanIs n ws span) : JM.WoOk (woOf n span ws) := by
  refine ⟨h.lo, h.hi, fun e => h.ne (List.map_eq_nil_iff.mp e), fun w m => ?_, s.congr fun t _ _ _ => ?_⟩
  · obtain ⟨p, hp, rfl⟩ := List.mem_map.mp m
    rw [woOf_rows h hp]
    exact h.rows p hp
  · constructor
    · intro a w m
      obtain ⟨p, hp, rfl⟩ := List.mem_map.mp m
      show JM.Pd (JM.lift n ((woOf n span ws).rows p.1)) t
      rw [woOf_rows h hp]
      exact a p hp
    · intro a p hp
      have := a p.1 (List.mem_map.mpr ⟨p, hp, rfl⟩)
      change JM.Pd (JM.lift n ((woOf n span ws).rows p.1)) t at this
      rw [woOf_rows h hp] at this
      exact this
section
variable {P : Program} {w : World} {K : PySem.W.Frag} {mg : Str → Option Value} {base : Heap}
theorem TurnAt.ke {T : Wd K mg} {H H' : Hp} {v : V} {n : Int} {rows : List Row} (k : Ke H H') (h : TurnAt T H v n rows) : TurnAt T H' v n rows := by
  obtain ⟨a, dx, r, per, e, h1, h2, h3⟩ := h
  exact ⟨a, dx, r, per, e, k.ins h1, h2.ft k.ft, h3⟩
theorem PartAt.ke {T : Wd K mg} {H H' : Hp} {v : V} {n : Int} {ws : List (PySem.Str × List Row)} (k : Ke H H') (h : PartAt T H v n ws) : PartAt T H' v n ws := by
  obtain ⟨a, dx, d, e, h1, h2, h3⟩ := h
  exact ⟨a, dx, d, e, k.ins h1, h2.ke (fun _ _ h => h.ke k) k, h3⟩
theorem LetAt.ke {T : Wd K mg} {H H' : Hp} {v : V} {n : Int} {rs : List (PySem.Str × List Tri)} (k : Ke H H') (h : LetAt T H v n rs) : LetAt T H' v n rs := by
  obtain ⟨a, dx, d, ks, e, h1, h2, h3, h4⟩ := h
  exact ⟨a, dx, d, ks, e, k.ins h1, h2, h3.ke (fun _ _ h => h.ke k) k, h4⟩
theorem LetOr.ke {T : Wd K mg} {H H' : Hp} {v : V} {n : Int} {ws : List (PySem.Str × List Row)} {o : Option (List (PySem.Str × List Tri))} (k : Ke H H') (h : LetOr T H v n ws o) : LetOr T H' v n ws o := by
  cases o with
  | none => exact h
  | some rs => exact ⟨LetAt.ke k h.1, h.2⟩
def SlotAt (H : Hp) (v : V) (R : List Int) : Prop := ∃ a kvs, v = .ref a ∧ H a = some (.dK kvs) ∧ ∀ j x, R[j]? = some x → valV kvs (.inl x) = some (.int (j : Nat))
theorem SlotAt.ke {H H' : Hp} {v : V} {R : List Int} (k : Ke H H') (h : SlotAt H v R) : SlotAt H' v R := by
  obtain ⟨a, kvs, e, h1, h2⟩ := h
  exact ⟨a, kvs, e, k.dk h1, h2⟩
def spotsOf (n span : Int) (ws : List (PySem.Str × List Row)) : List (PySem.Str × List Int) := ws.map fun w => (w.1, JM.restsOf (JM.lift n w.2) span)
theorem look_spots {n span : Int} {ws : List (PySem.Str × List Row)} {x : PySem.Str} (m : x ∈ ws.map (·.1)) : JM.look (spotsOf n span ws) x = some ((woOf n span ws).R x) := by
  unfold spotsOf
  rw [look_map (fun r => JM.restsOf (JM.lift n r) span)]
  obtain ⟨r, hr⟩ := look_of_mem m
  rw [hr]
  show some _ = some (JM.restsOf (JM.lift n ((JM.look ws x).getD [])) span)
  rw [hr]
  rfl
def BoardAt (T : Wd K mg) (H : Hp) (v : V) (n span : Int) (ws : List (PySem.Str × List Row)) (fd : Addr) : Prop := ∃ (a dx : Addr) (src : V) (sp sl : Addr), v = .ref a ∧
  H a = some (.ins T.Board.C dx [("source", src), ("span", .int span), ("spots", .ref sp), ("slots", .ref sl), ("found", .ref fd)]) ∧ PartAt T H src n ws ∧ SpanIs n ws span ∧ DAt (LAt PyData.int) H (.ref sp) (spotsOf n span ws) ∧ DAt SlotAt H (.ref sl) (spotsOf n span ws)
theorem BoardAt.ke {T : Wd K mg} {H H' : Hp} {v : V} {n span : Int} {ws : List (PySem.Str × List Row)} {fd : Addr} (k : Ke H H') (h : BoardAt T H v n span ws fd) : BoardAt T H' v n span ws fd := by
  obtain ⟨a, dx, src, sp, sl, e, h1, h2, h3, h4, h5⟩ := h
  exact ⟨a, dx, src, sp, sl, e, k.ins h1, h2.ke k, h3, h4.ke (fun _ _ h => h.ke k) k, h5.ke (fun _ _ h => h.ke k) k⟩
def FoundAt (W : JM.Wo PySem.Str) (o : Option HO) : Prop := ∃ kvs, o = some (.dT kvs) ∧ (kvs.map (·.1)).Nodup ∧ ∀ p ∈ kvs, ∃ (v : PySem.Str) (x : Int), p.1 = [.inr v, .inl x] ∧ v ∈ W.words ∧ 0 ≤ x ∧ x < W.span ∧ p.2 = .int (JM.idx (W.R v) W.span (W.F v x))
theorem rests_nd (F : Int → Int) (span : Int) : ((List.range (JM.restsOf F span).length).map fun j => (Sum.inl ((JM.restsOf F span).getD j 0) : Key)).Nodup := by
  refine JM.nodup_map (fun a ha b hb e => ?_) List.nodup_range
  rw [List.mem_range] at ha hb
  have e1 := Sum.inl.inj e
  rw [List.getD_eq_getElem?_getD, List.getD_eq_getElem?_getD, List.getElem?_eq_getElem ha, List.getElem?_eq_getElem hb] at e1
  have e2 : (JM.restsOf F span)[a] = (JM.restsOf F span)[b] := e1
  have lt := List.pairwise_iff_getElem.mp (JM.restsOf_lt F span)
  rcases Nat.lt_trichotomy a b with c | c | c
  · have := lt a b ha hb c
    omega
  · exact c
  · have := lt b a hb ha c
    omega
def sp_Board_init (T : Wd K mg) : Sp := fun vs H Q _ => ∃ (x dx : Addr) (v : V) (n : Int) (ws : List (PySem.Str × List Row)), vs = [.ref x, v] ∧ H x = some (.ins T.Board.C dx []) ∧ PartAt T H v n ws ∧
  ∀ H' fd span, SameX x H H' → H fd = none → BoardAt T H' (.ref x) n span ws fd → FoundAt (woOf n span ws) (H' fd) → Q .non H'
theorem PartAt.kx {T : Wd K mg} {H H' : Hp} {v : V} {n : Int} {ws : List (PySem.Str × List Row)} {x C dx : Addr} (hx : H x = some (.ins C dx [])) (k : SameX x H H') (h : PartAt T H v n ws) : PartAt T H' v n ws := by
  obtain ⟨a, dy, d, e, h1, ⟨d, kvs, rfl, h2, h3⟩, h4⟩ := h
  refine ⟨a, dy, .ref d, e, k _ _ (fun z => ?_) h1, ⟨d, kvs, rfl, k _ _ (ne_of h2 hx fun z => nomatch z) h2, h3.mono fun v r h => TurnAt.sx (show TurnAt T H v n r from h) hx k⟩, h4⟩
  rw [z, hx] at h1
  cases h1
theorem sc_Board_init : FnScope ["self", "part", "word", "at", "spot"] ["self", "part"] (defScope s_Board_init) := ⟨rfl, rfl, rfl, by decide +kernel, rfl, by decide +kernel, by decide +kernel⟩
-- slots: 0 self, 1 part, 2 word, 3 at, 4 spot
theorem ok_Board_init (T : Wd K mg) : FnOk P w K mg base CX0 6 T.Board_init.f T.Board_init.fd ["self", "part"] (sp_Board_init T) := by
  have G_Part_period := ok_Part_period (P := P) (w := w) (base := base) T
  have G_Part_words := ok_Part_words (P := P) (w := w) (base := base) T
  have G_Part_rests := ok_Part_rests (P := P) (w := w) (base := base) T
  refine T.Board_init.F.ok sc_Board_init (fun vs H Q E h => ?_) (fun cdv A outer s H vs Q E hr h => ?_)
  · obtain ⟨x, dx, v, n, ws, rfl, _⟩ := h
    rfl
  · obtain ⟨x, dx, v, n, ws, rfl, hx, hv, q⟩ := h
    refine ⟨_, PSs.nox (pss_cons (ps_fld (pv 0) (pv 1) rfl)
      (pss_cons (ps_fld (pv 0) (pe_prop (pv 1) T.Part.cl T.Part_period.pr G_Part_period (hr.mono (by decide)) T.Part_period.b .nil pass0 rfl) rfl)
      (pss_cons (ps_fld (pv 0) pe_dnewK rfl)
      (pss_cons (ps_fld (pv 0) pe_dnewK rfl)
      (pss_cons (ps_for PassesOwn.never rfl (pi_list (pe_prop (pv 1) T.Part.cl T.Part_words.pr G_Part_words (hr.mono (by decide)) T.Part_words.b .nil pass0 rfl)) (pg_name (i := 2) sc_Board_init.nd rfl (.inl rfl))
        (pss_cons (ps_dput (hu_of hr) (pe_fld (pv 0) rfl) (pv 2) (pe_meth (pv 1) T.Part.cl T.Part_rests.m G_Part_rests (hr.mono (by decide)) T.Part_rests.b .nil pass0 (pa_cons (pv 2) pa_nil)) rfl)
          (pss_one (ps_dput (hu_of hr) (pe_fld (pv 0) rfl) (pv 2) (pe_dc (own := [("at", 3), ("spot", 4)]) (g := gTup K 2 (gCons (gName 3) (gCons (gName 4) (gNil)))) rfl sc_Board_init.nd (pi_enum (by rfl) T.n_enumerate (pa_cons (pe_dget (hu_of hr) (pe_fld (pv 0) rfl) (pv 2) (fun _ _ => rfl)) pa_nil)) (blkOk_by (own := [("at", 3), ("spot", 4)]) (N := ["self", "part", "word", "at", "spot"]) (sc := defScope s_Board_init) (by decide +kernel)) (fun _ _ _ _ _ => (pg_tup (by rfl) (pgs_cons (pg_name (i := 3) sc_Board_init.nd rfl (.inl rfl)) (pgs_cons (pg_name (i := 4) sc_Board_init.nd rfl (.inl rfl)) pgs_nil)))) (fun _ _ _ _ _ => pts_nil) (fun _ _ _ _ _ => (pv 4)) (fun _ _ _ _ _ => (pv 3))) rfl))))
      (pss_one (ps_fld (pv 0) pe_dnewT rfl)))))))
, ?_⟩
    have hv0 := hv
    obtain ⟨pa, pdx, d, rfl, hpa, _, ok⟩ := hv0
    refine ⟨_, rfl, _, rfl, x, T.Board.C, dx, _, rfl, hx, T.Board.cl, T.n_Board_source, by show 0 < 1000; decide, ?_⟩
    have k1 : SameX x H (upd H x (.ins T.Board.C dx (putF "source" (.ref pa) []))) := samex_upd
    have hx1 : (upd H x (.ins T.Board.C dx (putF "source" (.ref pa) []))) x = some (.ins T.Board.C dx [("source", .ref pa)]) := upd_same
    generalize upd H x (.ins T.Board.C dx (putF "source" (.ref pa) [])) = H1 at k1 hx1
    have npx : pa ≠ x := fun z => by rw [z, hx] at hpa; exact nomatch (HO.ins.inj (Option.some.inj hpa)).2.2
    refine ⟨_, rfl, pa, pdx, _, rfl, k1 _ _ npx hpa, _, n, ws, rfl, hv.kx hx k1, fun H2 span s2 hs => ?_⟩
    have hx2 := s2 _ _ hx1
    have k2 : SameX x H H2 := k1.trans (same_x s2)
    refine ⟨_, rfl, x, T.Board.C, dx, _, rfl, hx2, T.Board.cl, T.n_Board_span, by show 1 < 1000; decide, ?_⟩
    have k3 : SameX x H (upd H2 x (.ins T.Board.C dx (putF "span" (.int span) [("source", .ref pa)]))) := k2.at
    have hx3 : (upd H2 x (.ins T.Board.C dx (putF "span" (.int span) [("source", .ref pa)]))) x = some (.ins T.Board.C dx [("source", .ref pa), ("span", .int span)]) := upd_same
    generalize upd H2 x (.ins T.Board.C dx (putF "span" (.int span) [("source", .ref pa)])) = H3 at k3 hx3
    refine fun sp hsp => ?_
    have nsp : sp ≠ x := fun z => by rw [z, hx3] at hsp; cases hsp
    have sp0 : H sp = none := k3.free nsp hsp
    refine ⟨_, rfl, x, T.Board.C, dx, _, rfl, (upd_ne (fun z => nsp z.symm)).trans hx3, T.Board.cl, T.n_Board_spots, by show 2 < 1000; decide, ?_⟩
    have k4 : SameX x H (upd (upd H3 sp (.dK [])) x (.ins T.Board.C dx (putF "spots" (.ref sp) [("source", .ref pa), ("span", .int span)]))) := (k3.new sp0).at
    have hx4 : (upd (upd H3 sp (.dK [])) x (.ins T.Board.C dx (putF "spots" (.ref sp) [("source", .ref pa), ("span", .int span)]))) x = some (.ins T.Board.C dx [("source", .ref pa), ("span", .int span), ("spots", .ref sp)]) := upd_same
    have hsp4 : (upd (upd H3 sp (.dK [])) x (.ins T.Board.C dx (putF "spots" (.ref sp) [("source", .ref pa), ("span", .int span)]))) sp = some (.dK []) := (upd_ne nsp).trans upd_same
    generalize upd (upd H3 sp (.dK [])) x (.ins T.Board.C dx (putF "spots" (.ref sp) [("source", .ref pa), ("span", .int span)])) = H4 at k4 hx4 hsp4
    refine fun sl hsl => ?_
    have nsl : sl ≠ x := fun z => by rw [z, hx4] at hsl; cases hsl
    have nss : sl ≠ sp := fun z => by rw [z, hsp4] at hsl; cases hsl
    have sl0 : H sl = none := k4.free nsl hsl
    refine ⟨_, rfl, x, T.Board.C, dx, _, rfl, (upd_ne (fun z => nsl z.symm)).trans hx4, T.Board.cl, T.n_Board_slots, by show 3 < 1000; decide, ?_⟩
    have k5 : SameX x H (upd (upd H4 sl (.dK [])) x (.ins T.Board.C dx (putF "slots" (.ref sl) [("source", .ref pa), ("span", .int span), ("spots", .ref sp)]))) := (k4.new sl0).at
    have hx5 : (upd (upd H4 sl (.dK [])) x (.ins T.Board.C dx (putF "slots" (.ref sl) [("source", .ref pa), ("span", .int span), ("spots", .ref sp)]))) x = some (.ins T.Board.C dx [("source", .ref pa), ("span", .int span), ("spots", .ref sp), ("slots", .ref sl)]) := upd_same
    have hsp5 : (upd (upd H4 sl (.dK [])) x (.ins T.Board.C dx (putF "slots" (.ref sl) [("source", .ref pa), ("span", .int span), ("spots", .ref sp)]))) sp = some (.dK []) := (upd_ne nsp).trans ((upd_ne (fun z => nss z.symm)).trans hsp4)
    have hsl5 : (upd (upd H4 sl (.dK [])) x (.ins T.Board.C dx (putF "slots" (.ref sl) [("source", .ref pa), ("span", .int span), ("spots", .ref sp)]))) sl = some (.dK []) := (upd_ne nsl).trans upd_same
    generalize upd (upd H4 sl (.dK [])) x (.ins T.Board.C dx (putF "slots" (.ref sl) [("source", .ref pa), ("span", .int span), ("spots", .ref sp)])) = H5 at k5 hx5 hsp5 hsl5
    refine ⟨_, rfl, pa, pdx, _, rfl, k5 _ _ npx hpa, _, n, ws, rfl, hv.kx hx k5, fun H6 p s6 hp => ?_⟩
    obtain ⟨pw, uw, rfl, hpw, huw⟩ := hp
    refine ⟨pw, rfl, ⟨uw, SqL.of hpw⟩, ?_⟩
    have huw' := sda_strs huw
    have k6 : SameX x H H6 := k5.trans (same_x s6)
    have hpw0 : pw ≠ sp ∧ pw ≠ sl := ⟨ne_of hpw (s6 _ _ hsp5) (fun z => nomatch z), ne_of hpw (s6 _ _ hsl5) (fun z => nomatch z)⟩
    refine for_it walk_list (fun i σ H' => SameX x H H' ∧ H' x = some (.ins T.Board.C dx [("source", .ref pa), ("span", .int span), ("spots", .ref sp), ("slots", .ref sl)]) ∧ H' pw = some (.lst uw) ∧
      (∃ kvs, H' sp = some (.dK kvs) ∧ DkAt (LAt PyData.int H') kvs (spotsOf n span (ws.take i))) ∧ (∃ kvs, H' sl = some (.dK kvs) ∧ DkAt (fun v R => SlotAt H' v R ∧ v ≠ .ref sp ∧ v ≠ .ref sl) kvs (spotsOf n span (ws.take i))) ∧ ∃ z, σ = [some (.ref x), some (.ref pa), z, none, none])
      ⟨k6, s6 _ _ hx5, hpw, ⟨[], s6 _ _ hsp5, .nil⟩, ⟨[], s6 _ _ hsl5, .nil⟩, none, rfl⟩ (fun i σ H' _ p => SqL.of p.2.2.1) (fun i v σ H7 H8 hi p yy => ?_) fun σ H7 p => ?_
    · obtain ⟨k7, hx7, hpw7, ⟨ka, hsp7, dka⟩, ⟨kb, hsl7, dkb⟩, z, rfl⟩ := p
      obtain ⟨rfl, e2⟩ := yy
      obtain ⟨w', hw', hsw⟩ := item_at huw e2
      rw [sd_str hsw]
      obtain ⟨wr, hwr, rfl⟩ := at_map hw'
      have hwm := mem_at hwr
      have hl : JM.look ws wr.1 = some wr.2 := JM.look_mem ok.nd hwm
      have R := ok.rows _ hwm
      have taken : ws.take (i + 1) = ws.take i ++ [wr] := by rw [List.take_add_one, hwr]; rfl
      have nolook : JM.look (spotsOf n span (ws.take i)) wr.1 = none := by
        unfold spotsOf
        rw [look_map (fun r => JM.restsOf (JM.lift n r) span), look_take ok.nd hwr]
        rfl
      refine ⟨_, rfl, pa, pdx, _, rfl, k7 _ _ npx hpa, rfl, _, rfl, _, wr.1, wr.2, n, span, ws, rfl, hv.kx hx k7, hl, hs, fun H9 p9 s9 hp9 => ?_⟩
      obtain ⟨pr, ur, rfl, hpr, hur⟩ := hp9
      have hx9 := s9 _ _ hx7
      have hsp9 := s9 _ _ hsp7
      have hsl9 := s9 _ _ hsl7
      have hlen3 : (ws.take i).length < sizeLine := by rw [List.length_take]; have := ok.short; exact Nat.lt_of_le_of_lt (m := 2) (by omega) (by decide)
      refine ⟨_, rfl, x, T.Board.C, dx, _, _, rfl, hx9, T.Board.cl, T.n_Board_spots, rfl, _, rfl, sp, _, rfl, .inl ⟨ka, .inr wr.1, hsp9, rfl, by rw [dka.len]; unfold spotsOf; rw [List.length_map]; exact hlen3, rfl⟩, ?_⟩
      have k10 : SameX x H (upd H9 sp (.dK (putK ka (.inr wr.1) (.ref pr)))) := (k7.trans (same_x s9)).new sp0
      have fd10 : Fd H9 (upd H9 sp (.dK (putK ka (.inr wr.1) (.ref pr)))) := fd_dK hsp9
      have hx10 : (upd H9 sp (.dK (putK ka (.inr wr.1) (.ref pr)))) x = some (.ins T.Board.C dx [("source", .ref pa), ("span", .int span), ("spots", .ref sp), ("slots", .ref sl)]) := (upd_ne (fun z => nsp z.symm)).trans hx9
      have hsp10 : (upd H9 sp (.dK (putK ka (.inr wr.1) (.ref pr)))) sp = some (.dK (putK ka (.inr wr.1) (.ref pr))) := upd_same
      have hsl10 : (upd H9 sp (.dK (putK ka (.inr wr.1) (.ref pr)))) sl = some (.dK kb) := (upd_ne nss).trans hsl9
      have hpw10 : (upd H9 sp (.dK (putK ka (.inr wr.1) (.ref pr)))) pw = some (.lst uw) := (upd_ne hpw0.1).trans (s9 _ _ hpw7)
      have dka10 : DkAt (LAt PyData.int (upd H9 sp (.dK (putK ka (.inr wr.1) (.ref pr))))) (putK ka (.inr wr.1) (.ref pr)) (spotsOf n span (ws.take (i + 1))) := by
        rw [taken]
        unfold spotsOf
        rw [List.map_append]
        exact DkAt.put ((dka.mono fun v b h => h.sm s9).mono fun v b h => h.fd fd10) nolook (LAt.fd fd10 ⟨pr, ur, rfl, hpr, hur⟩)
      have dkb10 : DkAt (fun v R => SlotAt (upd H9 sp (.dK (putK ka (.inr wr.1) (.ref pr)))) v R ∧ v ≠ .ref sp ∧ v ≠ .ref sl) kb (spotsOf n span (ws.take i)) := dkb.mono fun v b ⟨⟨a, kv, e, h1, h2⟩, h3, h4⟩ => ⟨⟨a, kv, e, (upd_ne (fun z => h3 (by rw [e, z]))).trans (s9 _ _ h1), h2⟩, h3, h4⟩
      have hpr10 : (upd H9 sp (.dK (putK ka (.inr wr.1) (.ref pr)))) pr = some (.lst ur) := fd10 _ _ hpr (fun _ z => nomatch z) (fun _ z => nomatch z)
      have gsp : valV (putK ka (.inr wr.1) (.ref pr)) (Sum.inr wr.1 : Key) = some (.ref pr) := by rw [valV_put, if_pos rfl]
      generalize upd H9 sp (.dK (putK ka (.inr wr.1) (.ref pr))) = HA at k10 fd10 hx10 hsp10 hsl10 hpw10 dka10 dkb10 hpr10
      refine ⟨_, rfl, x, T.Board.C, dx, _, _, rfl, hx10, T.Board.cl, T.n_Board_spots, rfl, _, rfl, sp, .ref pr, rfl, .inl ⟨_, .inr wr.1, .inl hsp10, rfl, gsp.symm⟩, pr, ur, rfl, SqL.of hpr10, fun D hD => ?_⟩
      have hurl := sda_len hur
      have hur' := sda_ints hur
      have rlen := JM.restsOf_len R hs.hi
      refine dc_pure walk_enum (List.range (JM.restsOf (JM.lift n wr.2) span).length) (fun j => (Sum.inl ((JM.restsOf (JM.lift n wr.2) span).getD j 0), (j : Int))) (fun H v (b : Int) => v = .int b) (fun H H' v b k h => h) (by rw [List.length_range]; exact hurl) (by rw [hurl]; exact Nat.le_trans rlen (by decide)) hD ?_ (fun H' s => SqL.of (s _ _ hpr10)) (fun j z x' HB HC N N0 hz s1 yy hN => ?_) fun HD kvD sD hDD hkD => ?_
      · exact rests_nd _ _
      · obtain ⟨t, x1, x2, rfl, nt, rfl, e3, e4⟩ := yy
        cases e3
        obtain ⟨hjr, e5⟩ := List.getElem?_eq_some_iff.mp hz
        rw [List.getElem_range] at e5
        subst e5
        rw [List.length_range] at hjr
        rw [hur'] at e4
        obtain ⟨r, hr5, rfl⟩ := at_map e4
        refine ⟨t, _, rfl, SqT.of upd_same, rfl, _, _, rfl, _, _, rfl, rfl, rfl, yesT2 ⟨_, rfl, _, rfl, ?_⟩⟩
        have e6 : (JM.restsOf (JM.lift n wr.2) span).getD j 0 = r := by rw [List.getD_eq_getElem?_getD, hr5]; rfl
        have this := hN (.int (j : Nat)) (upd HB t (.tup [.int (j : Nat), .int r])) (same_new nt) rfl
        change N (.int ((JM.restsOf (JM.lift n wr.2) span).getD j 0)) _ _ at this
        rw [e6] at this
        exact this
      · have nDx : D ≠ x := fun z => by rw [z, hx10] at hD; cases hD
        have nDp : D ≠ sp := fun z => by rw [z, hsp10] at hD; cases hD
        have nDl : D ≠ sl := fun z => by rw [z, hsl10] at hD; cases hD
        have hxD := sD _ _ hx10
        have hslD := sD _ _ hsl10
        refine ⟨_, rfl, x, T.Board.C, dx, _, _, rfl, hxD, T.Board.cl, T.n_Board_slots, rfl, _, rfl, sl, _, rfl, .inl ⟨kb, .inr wr.1, hslD, rfl, by rw [dkb.len]; unfold spotsOf; rw [List.length_map]; exact hlen3, rfl⟩, ?_⟩
        have fdE : Fd HD (upd HD sl (.dK (putK kb (.inr wr.1) (.ref D)))) := fd_dK hslD
        refine ⟨(k10.trans (same_x sD)).new sl0, (upd_ne (fun z => nsl z.symm)).trans hxD, (upd_ne hpw0.2).trans (sD _ _ hpw10), ⟨_, (upd_ne (fun z => nss z.symm)).trans (sD _ _ hsp10), (dka10.mono fun v b h => h.sm sD).mono fun v b h => h.fd fdE⟩, ⟨_, upd_same, ?_⟩, _, rfl⟩
        rw [taken]
        unfold spotsOf
        rw [List.map_append]
        refine DkAt.put (dkb10.mono fun v b ⟨⟨a, kv, e, h1, h2⟩, h3, h4⟩ => ⟨⟨a, kv, e, (upd_ne (fun z => h4 (by rw [e, z]))).trans (sD _ _ h1), h2⟩, h3, h4⟩) nolook ⟨⟨D, kvD, rfl, (upd_ne nDl).trans hDD, fun j y hy => ?_⟩, fun z => nDp (V.ref.inj z), fun z => nDl (V.ref.inj z)⟩
        have hj : j < (JM.restsOf (JM.lift n wr.2) span).length := (List.getElem?_eq_some_iff.mp hy).1
        have nd2 : (((List.range (JM.restsOf (JM.lift n wr.2) span).length).map fun j => ((Sum.inl ((JM.restsOf (JM.lift n wr.2) span).getD j 0) : Key), (j : Int))).map (·.1)).Nodup := by
          rw [List.map_map]
          exact rests_nd _ _
        have lk := JM.look_mem nd2 (u := (Sum.inl y : Key)) (x := (j : Int)) (List.mem_map.mpr ⟨j, List.mem_range.mpr hj, by rw [List.getD_eq_getElem?_getD, hy]; rfl⟩)
        obtain ⟨u, hu, rfl⟩ := hkD.get lk
        exact hu
    · obtain ⟨k7, hx7, hpw7, ⟨ka, hsp7, dka⟩, ⟨kb, hsl7, dkb⟩, z, rfl⟩ := p
      refine fun f hf => ?_
      have nfx : f ≠ x := fun z => by rw [z, hx7] at hf; cases hf
      have nfp : f ≠ sp := fun z => by rw [z, hsp7] at hf; cases hf
      have nfl : f ≠ sl := fun z => by rw [z, hsl7] at hf; cases hf
      have hf0 : H f = none := k7.free nfx hf
      have hul : uw.length = ws.length := by rw [sda_len huw, List.length_map]
      rw [hul, List.take_length] at dka dkb
      refine ⟨_, rfl, x, T.Board.C, dx, _, rfl, (upd_ne (fun z => nfx z.symm)).trans hx7, T.Board.cl, T.n_Board_found, by show 4 < 1000; decide, ?_⟩
      have kF := (k7.new (o := .dT []) hf0).at (o := .ins T.Board.C dx (putF "found" (.ref f) [("source", .ref pa), ("span", .int span), ("spots", .ref sp), ("slots", .ref sl)]))
      have kp : ∀ b o, b ≠ x → H7 b = some o → (upd (upd H7 f (.dT [])) x (.ins T.Board.C dx (putF "found" (.ref f) [("source", .ref pa), ("span", .int span), ("spots", .ref sp), ("slots", .ref sl)]))) b = some o := fun b o nb e => (upd_ne nb).trans ((upd_ne (ne_of_none e hf)).trans e)
      refine q _ f span kF hf0 ⟨x, dx, .ref pa, sp, sl, rfl, upd_same, hv.kx hx kF, hs, ⟨sp, ka, rfl, kp _ _ nsp hsp7, dka.mono fun v b h => h.kx hx7 (fun _ z => nomatch z) (fun _ z => nomatch z) kp⟩, ⟨sl, kb, rfl, kp _ _ nsl hsl7, dkb.mono fun v b ⟨⟨a, kv, e, h1, h2⟩, _⟩ => ⟨a, kv, e, kp _ _ (ne_of h1 hx7 fun z => nomatch z) h1, h2⟩⟩⟩ ⟨[], (upd_ne nfx).trans upd_same, List.nodup_nil, fun p hp => nomatch hp⟩
end
end J
/-! Board.carried and what stands on it. -/
namespace J
open PySem PySem.Spec PyProof.Rows L2
section
variable {P : Program} {w : World} {K : PySem.W.Frag} {mg : Str → Option Value} {base : Heap}
theorem found_len {W : JM.Wo PySem.Str} (hs : W.span ≤ 360) (h2 : W.words.length ≤ 2) {kvs : List (List Key × V)} (nd : (kvs.map (·.1)).Nodup) (h : ∀ p ∈ kvs, ∃ (v : PySem.Str) (x : Int), p.1 = [.inr v, .inl x] ∧ v ∈ W.words ∧ 0 ≤ x ∧ x < W.span ∧ p.2 = .int (JM.idx (W.R v) W.span (W.F v x))) : kvs.length < sizeLine := by
  have := nodup_len (m := W.words.flatMap fun v => (List.range 360).map fun (j : Nat) => ([.inr v, .inl (j : Int)] : List Key)) nd fun k hk => by
    obtain ⟨p, hp, rfl⟩ := List.mem_map.mp hk
    obtain ⟨v, x, e, hv, h0, h1, _⟩ := h p hp
    rw [e]
    refine List.mem_flatMap.mpr ⟨v, hv, List.mem_map.mpr ⟨x.toNat, List.mem_range.mpr (by omega), ?_⟩⟩
    rw [Int.toNat_of_nonneg h0]
  rw [List.length_map, List.length_flatMap] at this
  have e : (W.words.map fun v => ((List.range 360).map fun (j : Nat) => ([.inr v, .inl (j : Int)] : List Key)).length).sum = 360 * W.words.length := by
    clear this
    induction W.words with
    | nil => rfl
    | cons a l ih => rw [List.map_cons, List.sum_cons, ih, List.length_map, List.length_range, List.length_cons]; omega
  rw [e] at this
  exact Nat.lt_of_le_of_lt (m := 720) (by omega) (by decide)
theorem FoundAt.dt {W : JM.Wo PySem.Str} : ∀ o, FoundAt W o → ∃ kvs, o = some (.dT kvs) := fun o ⟨kvs, e, _⟩ => ⟨kvs, e⟩
theorem FoundAt.ke {W : JM.Wo PySem.Str} {H H' : Hp} {fd : Addr} (h : FoundAt W (H fd)) (k : SameX fd H H') : Ke H H' := by
  obtain ⟨kvs, e, _⟩ := h
  exact ke_x k e
/-- what one number is carried to, by its place within one span -/
theorem car_split {W : JM.Wo PySem.Str} (Kw : JM.WoOk W) {a x : PySem.Str} (hx : x ∈ W.words) (k sh r : Int) (hr : (W.R a)[(k % W.m a).toNat]? = some r) :
    W.car a k x (-sh) = JM.idx (W.R x) W.span (W.F x ((r + sh) % W.span)) + (k / W.m a + (r + sh) / W.span) * W.m x := by
  have hs := Kw.span.lo
  have e : W.F x (JM.pos (W.R a) W.span k - -sh) = W.F x ((r + sh) % W.span) + (k / W.m a + (r + sh) / W.span) * W.span := by
    have s := JM.ediv_split (r + sh) W.span
    rw [← ((Kw.pd hx).mul _) _]
    congr 1
    unfold JM.pos
    rw [show ((W.R a).length : Int) = W.m a from rfl, hr, Int.add_mul]
    show r + _ - -sh = _
    omega
  unfold JM.Wo.car
  rw [e, JM.idx_lap _ (by omega)]
  rfl
def sp_Board_carried (T : Wd K mg) : Sp := fun vs H Q _ => ∃ (v : V) (n span : Int) (ws : List (PySem.Str × List Row)) (fd : Addr) (a x : PySem.Str) (k sh : Int), vs = [v, .str a, .int k, .str x, .int sh] ∧ BoardAt T H v n span ws fd ∧ FoundAt (woOf n span ws) (H fd) ∧ a ∈ ws.map (·.1) ∧ x ∈ ws.map (·.1) ∧
  ∀ H', SameX fd H H' → FoundAt (woOf n span ws) (H' fd) → Q (.int ((woOf n span ws).car a k x (-sh))) H'
theorem sc_Board_carried : FnScope ["self", "word", "number", "v", "shift", "lap", "at", "more", "place", "key", "far", "spot"] ["self", "word", "number", "v", "shift"] (defScope s_Board_carried) := ⟨rfl, rfl, rfl, by decide +kernel, rfl, by decide +kernel, by decide +kernel⟩
-- slots: 0 self, 1 word, 2 number, 3 v, 4 shift, 5 lap, 6 at, 7 more, 8 place, 9 key, 10 far, 11 spot
theorem ok_Board_carried (T : Wd K mg) : FnOk P w K mg base CX0 4 T.Board_carried.f T.Board_carried.fd ["self", "word", "number", "v", "shift"] (sp_Board_carried T) := by
  have G_Turning_lifted := ok_Turning_lifted (P := P) (w := w) (base := base) T
  have G_Part_getitem := ok_Part_getitem (P := P) (w := w) (base := base) T
  refine T.Board_carried.F.ok sc_Board_carried (fun vs H Q E h => ?_) (fun cdv A outer s H vs Q E hr h => ?_)
  · obtain ⟨v, n, span, ws, fd, a, x, k, sh, rfl, _⟩ := h
    rfl
  · obtain ⟨v, n, span, ws, fd, a, x, k, sh, rfl, hb, hf, ha, hx, q⟩ := h
    have hb0 := hb
    obtain ⟨b, dx, src, sp, sl, rfl, hbi, hpart, hs, ⟨sp, ka, e, hsp, dka⟩, ⟨sl, kb, e2, hsl, dkb⟩⟩ := hb0
    cases e
    cases e2
    have hpart0 := hpart
    obtain ⟨pa, pdx, d, rfl, hpa, _, ok⟩ := hpart0
    have Kw := woOf_ok ok hs
    have hs1 := hs.lo
    have hsn := hs.hi
    have hn := ok.hi
    obtain ⟨ua, hua, la, usa, rfl, hla, husa⟩ := dka.get (look_spots (n := n) (span := span) ha)
    obtain ⟨ux, hux, lx, usx, rfl, hlx, husx⟩ := dka.get (look_spots (n := n) (span := span) hx)
    obtain ⟨uy, huy, ly, ky, rfl, hly, hky⟩ := dkb.get (look_spots (n := n) (span := span) hx)
    have lena := sda_len husa
    have lenx := sda_len husx
    have ma := Kw.m_pos (w := a) ha
    have ma2 := Kw.m_le (w := a) ha
    have mx := Kw.m_pos (w := x) hx
    have mx2 := Kw.m_le (w := x) hx
    have ema : (usa.length : Int) = (woOf n span ws).m a := by rw [lena]; rfl
    have emx : (usx.length : Int) = (woOf n span ws).m x := by rw [lenx]; rfl
    obtain ⟨r, hr1, hr2, hr3, hr4⟩ := (Kw.en (w := a) ha).at k
    have hr1' : ((woOf n span ws).R a)[(k % (woOf n span ws).m a).toNat]? = some r := hr1
    have gda : DGet H sp (.str a) (some (.ref la)) := .inl ⟨ka, .inr a, .inl hsp, rfl, hua.symm⟩
    refine ⟨_, PSs.nox (pss_cons (ps_asg (pe_callB call_divmod (by rfl) T.n_divmod (by decide +kernel) (pa_cons (pv 2) (pa_cons (pe_callB call_len_seq (by rfl) T.n_len (by decide +kernel) (pa_cons (pe_dget (hu_of hr) (pe_fld (pv 0) rfl) (pv 1) (fun _ _ => rfl)) pa_nil)) pa_nil))) (pg_tup (by rfl) (pgs_cons (pg_name (i := 5) sc_Board_carried.nd rfl (.inl rfl)) (pgs_cons (pg_name (i := 6) sc_Board_carried.nd rfl (.inl rfl)) pgs_nil))))
      (pss_cons (ps_asg (pe_callB call_divmod (by rfl) T.n_divmod (by decide +kernel) (pa_cons (pe_op op_add (pe_ix ix_list (pe_dget (hu_of hr) (pe_fld (pv 0) rfl) (pv 1) (fun _ _ => rfl)) (pv 6) (fun _ _ => rfl)) (pv 4)) (pa_cons (pe_fld (pv 0) rfl) pa_nil))) (pg_tup (by rfl) (pgs_cons (pg_name (i := 7) sc_Board_carried.nd rfl (.inl rfl)) (pgs_cons (pg_name (i := 8) sc_Board_carried.nd rfl (.inl rfl)) pgs_nil))))
      (pss_cons (ps_set (i := 9) sc_Board_carried.nd rfl (.inl rfl) (pe_tup (pa_cons (pv 3) (pa_cons (pv 8) pa_nil))))
      (C8.pss_cut (ps_if (pt_cmp (pc_dnotin (hu_of hr) (pv 9) (pe_fld (pv 0) rfl)))
        (pss_cons (ps_asg (pe_callB call_divmod (by rfl) T.n_divmod (by decide +kernel) (pa_cons (pe_meth (pe_ownIx (pe_fld (pv 0) rfl) (pv 3) T.Part_getitem.m T.Part_getitem_fn G_Part_getitem (hr.mono (by decide)) T.Part_getitem.b (fun _ _ => rfl)) T.Turning.cl T.Turning_lifted.m G_Turning_lifted (hr.mono (by decide)) T.Turning_lifted.b .nil pass0 (pa_cons (pv 8) pa_nil)) (pa_cons (pe_fld (pv 0) rfl) pa_nil))) (pg_tup (by rfl) (pgs_cons (pg_name (i := 10) sc_Board_carried.nd rfl (.inl rfl)) (pgs_cons (pg_name (i := 11) sc_Board_carried.nd rfl (.inl rfl)) pgs_nil))))
          (pss_one (ps_dput (hu_of hr) (pe_fld (pv 0) rfl) (pv 9) (pe_op op_add (pe_op op_mul (pv 10) (pe_callB call_len_seq (by rfl) T.n_len (by decide +kernel) (pa_cons (pe_dget (hu_of hr) (pe_fld (pv 0) rfl) (pv 3) (fun _ _ => rfl)) pa_nil))) (pe_dget (hu_of hr) (pe_dget (hu_of hr) (pe_fld (pv 0) rfl) (pv 3) (fun _ _ => rfl)) (pv 11) (fun _ _ => rfl))) rfl)))
        pss_nil)
      (pss_one (ps_ret (pe_op op_add (pe_dget (hu_of hr) (pe_fld (pv 0) rfl) (pv 9) (fun _ _ => rfl)) (pe_op op_mul (pe_op op_add (pv 5) (pv 7)) (pe_callB call_len_seq (by rfl) T.n_len (by decide +kernel) (pa_cons (pe_dget (hu_of hr) (pe_fld (pv 0) rfl) (pv 3) (fun _ _ => rfl)) pa_nil))))))))))
, ?_⟩
    refine ⟨_, rfl, _, rfl, b, T.Board.C, dx, _, _, rfl, hbi, T.Board.cl, T.n_Board_spots, rfl, _, rfl, sp, .ref la, rfl, gda, la, usa, rfl, .inl (SqL.of hla), k, _, rfl, ⟨by omega, by omega⟩, fun p hp => ?_⟩
    rw [ema]
    have s1 : Same H (upd H p (.tup [.int (k / (woOf n span ws).m a), .int (k % (woOf n span ws).m a)])) := same_new hp
    refine ⟨p, _, rfl, SqT.of upd_same, rfl, _, _, rfl, _, _, rfl, rfl, ?_⟩
    generalize upd H p (.tup [.int (k / (woOf n span ws).m a), .int (k % (woOf n span ws).m a)]) = H1 at s1
    have hi0 : 0 ≤ k % (woOf n span ws).m a := Int.emod_nonneg _ (by omega)
    have hat : atI usa (k % (woOf n span ws).m a) = some (.int r) := by
      have := atI_of (xs := usa) (i := (k % (woOf n span ws).m a).toNat) (v := .int r) (by rw [sda_ints husa, List.getElem?_map, hr1']; rfl)
      rwa [Int.toNat_of_nonneg hi0] at this
    refine ⟨_, rfl, b, T.Board.C, dx, _, _, rfl, s1 _ _ hbi, T.Board.cl, T.n_Board_spots, rfl, _, rfl, sp, .ref la, rfl, .inl ⟨ka, .inr a, .inl (s1 _ _ hsp), rfl, hua.symm⟩, _, rfl, la, usa, _, _, rfl, rfl, SqL.of (s1 _ _ hla), hat, ?_⟩
    refine ⟨_, rfl, r, sh, rfl, rfl, _, rfl, b, T.Board.C, dx, _, _, rfl, s1 _ _ hbi, T.Board.cl, T.n_Board_span, rfl, r + sh, span, rfl, ⟨by omega, by omega⟩, fun p2 hp2 => ?_⟩
    have s2 : Same H (upd H1 p2 (.tup [.int ((r + sh) / span), .int ((r + sh) % span)])) := s1.trans (same_new hp2)
    refine ⟨p2, _, rfl, SqT.of upd_same, rfl, _, _, rfl, _, _, rfl, rfl, ?_⟩
    generalize upd H1 p2 (.tup [.int ((r + sh) / span), .int ((r + sh) % span)]) = H2 at s2
    refine ⟨_, rfl, _, rfl, by show 2 ≤ sizeLine; decide, fun key hkey => ?_⟩
    have s3 : Same H (upd H2 key (.tup [.str x, .int ((r + sh) % span)])) := s2.trans (same_new hkey)
    have hk3 : (upd H2 key (.tup [.str x, .int ((r + sh) % span)])) key = some (.tup (([.inr x, .inl ((r + sh) % span)] : List Key).map kV)) := upd_same
    generalize upd H2 key (.tup [.str x, .int ((r + sh) % span)]) = H3 at s3 hk3
    have hp0 : 0 ≤ (r + sh) % span := Int.emod_nonneg _ (by omega)
    have hp1 : (r + sh) % span < span := Int.emod_lt_of_pos _ (by omega)
    have hcar := car_split Kw hx k sh r hr1'
    obtain ⟨fk, hfk, fnd, fin⟩ := hf
    have hfd3 := s3 _ _ hfk
    have Fw : ∀ y, (woOf n span ws).F x y = JM.lift n ((woOf n span ws).rows x) y := fun y => rfl
    generalize hpl : (r + sh) % span = place at hp0 hp1 hk3 hcar
    change (woOf n span ws).car a k x (-sh) = JM.idx ((woOf n span ws).R x) span ((woOf n span ws).F x ((r + sh) % span)) + (k / (woOf n span ws).m a + (r + sh) / span) * (woOf n span ws).m x at hcar
    rw [hpl] at hcar
    generalize hmo : (r + sh) / span = more at hcar
    generalize hlp : k / (woOf n span ws).m a = lap at hcar
    generalize k % (woOf n span ws).m a = at0
    refine ⟨fun σ H' => SameX fd H H' ∧ H' key = some (.tup (([.inr x, .inl place] : List Key).map kV)) ∧ (∃ fk, H' fd = some (.dT fk) ∧ (fk.map (·.1)).Nodup ∧ (∀ p ∈ fk, ∃ (v : PySem.Str) (x : Int), p.1 = [.inr v, .inl x] ∧ v ∈ (woOf n span ws).words ∧ 0 ≤ x ∧ x < span ∧ p.2 = .int (JM.idx ((woOf n span ws).R v) span ((woOf n span ws).F v x))) ∧ valV fk ([.inr x, .inl place] : List Key) = some (.int (JM.idx ((woOf n span ws).R x) span ((woOf n span ws).F x place)))) ∧
      ∃ z1 z2, σ = [some (.ref b), some (.str a), some (.int k), some (.str x), some (.int sh), some (.int lap), some (.int at0), some (.int more), some (.int place), some (.ref key), z1, z2], ?_, fun σ H4 hm => ?_⟩
    · refine ⟨_, rfl, _, rfl, b, T.Board.C, dx, _, _, rfl, s3 _ _ hbi, T.Board.cl, T.n_Board_found, rfl, fd, valV fk ([.inr x, .inl place] : List Key), rfl, .inr ⟨fk, _, key, .inl hfd3, rfl, hk3, rfl⟩, _, rfl, ?_⟩
      cases hv : valV fk ([.inr x, .inl place] : List Key) with
      | some u =>
        refine iteF ⟨same_x s3, hk3, ⟨fk, hfd3, fnd, fin, ?_⟩, none, none, rfl⟩
        have hm : (([.inr x, .inl place] : List Key), u) ∈ fk := by
          unfold valV at hv
          cases hfi : fk.find? (fun kv => decide (kv.1 = ([.inr x, .inl place] : List Key))) with
          | none => rw [hfi] at hv; cases hv
          | some kv =>
            rw [hfi] at hv
            cases hv
            have h1 := List.find?_some hfi
            have h2 := List.mem_of_find?_eq_some hfi
            rw [← of_decide_eq_true h1]
            exact h2
        obtain ⟨v, y, e1, _, _, _, e2⟩ := fin _ hm
        injection e1 with e3 e4
        injection e4 with e5 _
        rw [hv, show u = _ from e2, Sum.inr.inj e3, Sum.inl.inj e5]
        rfl
      | none =>
        refine iteT ?_
        obtain ⟨rx, hrx⟩ := look_of_mem hx
        refine ⟨_, rfl, b, T.Board.C, dx, _, _, rfl, s3 _ _ hbi, T.Board.cl, T.n_Board_source, rfl, _, rfl, pa, pdx, _, rfl, s3 _ _ hpa, _, x, rx, n, ws, rfl, hpart.sm s3, hrx, fun u ht => ?_⟩
        have ht0 := ht
        obtain ⟨ta, tdx, tr, tp, rfl, hta, _⟩ := ht0
        refine ⟨ta, tdx, _, rfl, hta, rfl, _, rfl, _, n, place, rx, rfl, ht, fun H5 s5 => ?_⟩
        have s35 := s3.trans s5
        have eF : JM.lift n rx place = (woOf n span ws).F x place := by
          show _ = JM.lift n ((JM.look ws x).getD []) place
          rw [hrx]
          rfl
        rw [eF]
        refine ⟨_, rfl, b, T.Board.C, dx, _, _, rfl, s35 _ _ hbi, T.Board.cl, T.n_Board_span, rfl, _, span, rfl, ⟨by omega, by omega⟩, fun p6 hp6 => ?_⟩
        have s6 : Same H (upd H5 p6 (.tup [.int ((woOf n span ws).F x place / span), .int ((woOf n span ws).F x place % span)])) := s35.trans (same_new hp6)
        have sk6 : (upd H5 p6 (.tup [.int ((woOf n span ws).F x place / span), .int ((woOf n span ws).F x place % span)])) key = some (.tup (([.inr x, .inl place] : List Key).map kV)) := same_new hp6 _ _ (s5 _ _ hk3)
        refine ⟨p6, _, rfl, SqT.of upd_same, rfl, _, _, rfl, _, _, rfl, rfl, ?_⟩
        generalize upd H5 p6 (.tup [.int ((woOf n span ws).F x place / span), .int ((woOf n span ws).F x place % span)]) = H6 at s6 sk6
        have hfix : (woOf n span ws).F x ((woOf n span ws).F x place) = (woOf n span ws).F x place := Kw.fix hx place
        have hmem := (Kw.en (w := x) hx).fixmod hfix
        have hslot := hky ((woOf n span ws).R x |>.idxOf ((woOf n span ws).F x place % span)) ((woOf n span ws).F x place % span) (by
          have hlt : ((woOf n span ws).R x).idxOf ((woOf n span ws).F x place % span) < ((woOf n span ws).R x).length := List.idxOf_lt_length_of_mem hmem
          rw [List.getElem?_eq_getElem hlt, List.getElem_idxOf hlt])
        have hfd6 := s6 _ _ hfk
        refine ⟨_, rfl, _, rfl, b, T.Board.C, dx, _, _, rfl, s6 _ _ hbi, T.Board.cl, T.n_Board_spots, rfl, _, rfl, sp, .ref lx, rfl, .inl ⟨ka, .inr x, .inl (s6 _ _ hsp), rfl, hux.symm⟩, lx, usx, rfl, .inl (SqL.of (s6 _ _ hlx)), _, _, rfl, rfl, .inr ⟨by omega, by omega⟩, ?_⟩
        refine ⟨_, rfl, b, T.Board.C, dx, _, _, rfl, s6 _ _ hbi, T.Board.cl, T.n_Board_slots, rfl, _, rfl, sl, .ref ly, rfl, .inl ⟨kb, .inr x, .inl (s6 _ _ hsl), rfl, huy.symm⟩, _, rfl, ly, _, rfl, .inl ⟨ky, .inl _, .inl (s6 _ _ hly), rfl, hslot.symm⟩, _, _, rfl, rfl, ?_⟩
        have el := found_len (W := woOf n span ws) (show span ≤ 360 by omega) (by show (ws.map (·.1)).length ≤ 2; rw [List.length_map]; exact ok.short) fnd fin
        refine ⟨_, rfl, b, T.Board.C, dx, _, _, rfl, s6 _ _ hbi, T.Board.cl, T.n_Board_found, rfl, _, rfl, fd, _, rfl, .inr ⟨fk, _, key, hfd6, rfl, sk6, el, rfl⟩, ?_⟩
        have nkf : key ≠ fd := fun z => by rw [z, hfd6] at sk6; cases sk6
        refine ⟨(same_x s6).at, (upd_ne nkf).trans sk6, ⟨_, upd_same, nd_putK _ fnd hv, fun p hp => ?_, ?_⟩, _, _, rfl⟩
        · rw [putK_new _ hv] at hp
          rcases List.mem_append.mp hp with c | c
          · exact fin p c
          · rw [List.mem_singleton.mp c]
            refine ⟨x, place, rfl, hx, hp0, hp1, ?_⟩
            show V.int _ = _
            rw [emx]
            unfold JM.idx
            rw [Int.add_comm]
            rfl
        · rw [valV_put, if_pos rfl, emx]
          unfold JM.idx
          rw [Int.add_comm]
          rfl
    · obtain ⟨k4, hk4, ⟨fk4, hf4, nd4, in4, hv4⟩, z1, z2, rfl⟩ := hm
      have ke4 : Ke H H4 := ke_x k4 hfk
      refine ⟨_, rfl, b, T.Board.C, dx, _, _, rfl, ke4.ins hbi, T.Board.cl, T.n_Board_found, rfl, _, rfl, fd, _, rfl, .inr ⟨fk4, _, key, .inl hf4, rfl, hk4, hv4.symm⟩, _, rfl, _, rfl, lap, more, rfl, rfl, ?_⟩
      refine ⟨_, rfl, b, T.Board.C, dx, _, _, rfl, ke4.ins hbi, T.Board.cl, T.n_Board_spots, rfl, _, rfl, sp, .ref lx, rfl, .inl ⟨ka, .inr x, .inl (ke4.dk hsp), rfl, hux.symm⟩, lx, usx, rfl, .inl (SqL.of (ke4.lst hlx)), _, _, rfl, rfl, .inr ⟨by omega, by omega⟩, _, _, rfl, rfl, ?_⟩
      have := q H4 k4 ⟨fk4, hf4, nd4, in4⟩
      rw [hcar] at this
      rw [emx]
      exact this
end
end J
/-! Steps, first steps, stands and their moves. -/
namespace J
open PySem PySem.Spec PyProof.Rows L2
abbrev RsO := Option (List (PySem.Str × List Tri))
def statesOf : RsO → List PySem.Str
  | none => [""]
  | some rs => rs.map (·.1)
def stepsF (n span : Int) (ws : List (PySem.Str × List Row)) : RsO → PySem.Str → List Tri
  | none, _ => (ws.map (·.1)).flatMap fun w => (List.range span.toNat).map fun (t : Nat) => (w, ((t : Int), ("" : PySem.Str)))
  | some rs, x => stepsOf n rs x
def firstsF (n : Int) (ws : List (PySem.Str × List Row)) : RsO → List Tri
  | none => (ws.map (·.1)).map fun w => (w, ((0 : Int), ("" : PySem.Str)))
  | some rs => stepsOf n rs "start"
/-- what is known of the machine -/
def MachOk (n : Int) (ws : List (PySem.Str × List Row)) : RsO → Prop
  | none => True
  | some rs => RulesOk n rs ∧ Fits ws rs
theorem steps_in {n span : Int} {ws : List (PySem.Str × List Row)} {o : RsO} (m : MachOk n ws o) {x : PySem.Str} (hx : x ∈ statesOf o) {s : Tri} (hs : s ∈ stepsF n span ws o x) : s.1 ∈ ws.map (·.1) ∧ s.2.2 ∈ statesOf o := by
  cases o with
  | none =>
    obtain ⟨w, hw, h⟩ := List.mem_flatMap.mp hs
    obtain ⟨t, ht, rfl⟩ := List.mem_map.mp h
    exact ⟨hw, List.mem_singleton.mpr rfl⟩
  | some rs =>
    have hs' : s ∈ stepsOf n rs x := hs
    unfold stepsOf at hs'
    obtain ⟨row, hrow⟩ := look_of_mem (ws := rs) hx
    rw [hrow, (sortTri_perm _).mem_iff] at hs'
    obtain ⟨r, hr, rfl⟩ := List.mem_map.mp hs'
    exact ⟨m.2 _ (JM.look_some hrow) r hr, m.1.goal _ (JM.look_some hrow) r hr⟩
theorem stepsOf_len {n : Int} {rs : List (PySem.Str × List Tri)} (ok : RulesOk n rs) (x : PySem.Str) : (stepsOf n rs x).length ≤ 8 := by
  unfold stepsOf
  rw [(sortTri_perm _).length_eq, List.length_map]
  cases h : JM.look rs x with
  | none => exact Nat.zero_le _
  | some row => exact ok.len _ (JM.look_some h)
theorem firsts_in {n : Int} {ws : List (PySem.Str × List Row)} {o : RsO} (m : MachOk n ws o) {s : Tri} (hs : s ∈ firstsF n ws o) : s.1 ∈ ws.map (·.1) ∧ s.2.2 ∈ statesOf o := by
  cases o with
  | none =>
    obtain ⟨w, hw, rfl⟩ := List.mem_map.mp hs
    exact ⟨hw, List.mem_singleton.mpr rfl⟩
  | some rs => exact steps_in (n := n) (span := 0) (o := some rs) m m.1.start hs
theorem LetOr.mach {K : PySem.W.Frag} {mg : Str → Option Value} {T : Wd K mg} {H : Hp} {v : V} {n : Int} {ws : List (PySem.Str × List Row)} {o : RsO} (h : LetOr T H v n ws o) : MachOk n ws o := by
  cases o with
  | none => trivial
  | some rs =>
    obtain ⟨⟨_, _, _, _, _, _, _, _, ok⟩, f⟩ := h
    exact ⟨ok, f⟩
theorem spots_keys (n span : Int) (ws : List (PySem.Str × List Row)) : (spotsOf n span ws).map (·.1) = ws.map (·.1) := by
  unfold spotsOf
  rw [List.map_map]
  rfl
section
variable {P : Program} {w : World} {K : PySem.W.Frag} {mg : Str → Option Value} {base : Heap}
/-- the dict of steps by state -/
def StepsAt (H : Hp) (v : V) (n span : Int) (ws : List (PySem.Str × List Row)) (o : RsO) : Prop := ∃ d kvs, v = .ref d ∧ H d = some (.dK kvs) ∧ ∀ x ∈ statesOf o, ∃ u L, valV kvs (.inr x) = some u ∧ LAt eTri H u L ∧ L.length ≤ 720 ∧ ∀ s, s ∈ L ↔ s ∈ stepsF n span ws o x
theorem StepsAt.ke {H H' : Hp} {v : V} {n span : Int} {ws : List (PySem.Str × List Row)} {o : RsO} (k : Ke H H') (h : StepsAt H v n span ws o) : StepsAt H' v n span ws o := by
  obtain ⟨d, kvs, e, h1, h2⟩ := h
  refine ⟨d, kvs, e, k.dk h1, fun x hx => ?_⟩
  obtain ⟨u, L, a, b, c⟩ := h2 x hx
  exact ⟨u, L, a, b.ke k, c⟩
def sp_steps_by_state (T : Wd K mg) : Sp := fun vs H Q _ => ∃ (b l : V) (n span : Int) (ws : List (PySem.Str × List Row)) (fd : Addr) (o : RsO), vs = [b, l] ∧ BoardAt T H b n span ws fd ∧ LetOr T H l n ws o ∧ ∀ H' v, Same H H' → StepsAt H' v n span ws o → Q v H'
theorem sc_steps_by_state : FnScope ["board", "let", "word", "turn", "state"] ["board", "let"] (defScope s_steps_by_state) := ⟨rfl, rfl, rfl, by decide +kernel, rfl, by decide +kernel, by decide +kernel⟩
-- slots: 0 board*, 1 let*, 2 word, 3 turn, 4 state
theorem ok_steps_by_state (T : Wd K mg) : FnOk P w K mg base CX0 3 T.steps_by_state.f T.steps_by_state.fd ["board", "let"] (sp_steps_by_state T) := by
  have G_Let_states := ok_Let_states (P := P) (w := w) (base := base) T
  have G_Let_rules := ok_Let_rules (P := P) (w := w) (base := base) T
  refine T.steps_by_state.F.ok sc_steps_by_state (fun vs H Q E h => ?_) (fun cdv A outer s H vs Q E hr h => ?_)
  · obtain ⟨b, l, n, span, ws, fd, o, rfl, _⟩ := h
    rfl
  · obtain ⟨b, l, n, span, ws, fd, o, rfl, hb, hl, q⟩ := h
    have mok := hl.mach
    refine ⟨_, PSs.nox (pss_cons (ps_if (pt_cmpR op_isN (pv 1) pe_non (nomark _))
        (pss_one (ps_ret (pe_disp (pps_cons pe_str (pe_lc2 (own := [("word", 2), ("turn", 3)]) (vs1 := [3]) (g := gName 2) (g1 := gName 3) rfl sc_steps_by_state.nd (pi_list (pe_callB (call_sortedD rfl) (by rfl) T.n_sorted (by decide +kernel) (pa_cons (pe_fld (pv 0) rfl) pa_nil))) (blkOk_by (own := [("word", 2), ("turn", 3)]) (N := ["board", "let", "word", "turn", "state"]) (sc := defScope s_steps_by_state) (by decide +kernel)) (by decide) (fun _ _ _ _ _ => (pg_name (i := 2) sc_steps_by_state.nd rfl (.inl rfl))) (fun _ _ _ _ _ => pts_nil) (fun _ _ _ _ _ => (pi_range1 (by rfl) T.n_range (pa_cons (pe_fldK (K := K) (by rfl) (pv 0) rfl) pa_nil))) (fun _ _ _ _ _ => (pg_name (i := 3) sc_steps_by_state.nd rfl (.inl rfl))) (fun _ _ _ _ _ => pts_nil) (fun _ _ _ _ _ => (pe_tup (pa_cons (pv 2) (pa_cons (pv 3) (pa_cons pe_str pa_nil)))))) pps_nil) (by rfl) (by rfl) (fun z => by cases z) (by decide))))
        pss_nil)
      (pss_one (ps_ret (pe_dc (own := [("state", 4)]) (g := gName 4) rfl sc_steps_by_state.nd (pi_list (pe_prop (pv 1) T.Let.cl T.Let_states.pr G_Let_states (hr.mono (by decide)) T.Let_states.b .nil pass0 rfl)) (blkOk_by (own := [("state", 4)]) (N := ["board", "let", "word", "turn", "state"]) (sc := defScope s_steps_by_state) (by decide +kernel)) (fun _ _ _ _ _ => (pg_name (i := 4) sc_steps_by_state.nd rfl (.inl rfl))) (fun _ _ _ _ _ => pts_nil) (fun _ _ _ _ _ => (pv 4)) (fun _ _ _ _ _ => (pe_meth (pv 1) T.Let.cl T.Let_rules.m G_Let_rules (hr.mono (by decide)) T.Let_rules.b .nil pass0 (pa_cons (pv 4) pa_nil)))))))
, ?_⟩
    cases o with
    | none =>
      cases (show l = .non from hl)
      obtain ⟨b, dx, src, sp, sl, rfl, hbi, ⟨_, _, _, _, _, _, ok⟩, hs, ⟨sp, ka, e, hsp, dka⟩, _⟩ := hb
      cases e
      have hs1 := hs.lo
      have hsn := hs.hi
      have hn := ok.hi
      have hwl := ok.short
      have kl : ka.map (·.1) = (ws.map (·.1)).map Sum.inr := by rw [dka.keys', spots_keys]
      refine ⟨_, rfl, rfl, _, rfl, iteT fun p hp => ?_⟩
      have s1 : Same H (upd H p (.dK [])) := same_new hp
      have hp1 : (upd H p (.dK [])) p = some (.dK []) := upd_same
      generalize upd H p (.dK []) = H1 at s1 hp1
      refine ⟨_, rfl, b, T.Board.C, dx, _, _, rfl, s1 _ _ hbi, T.Board.cl, T.n_Board_spots, rfl, sp, ka, ws.map (·.1), rfl, .inl (s1 _ _ hsp), kl, by rw [List.length_map]; omega, fun ys py hperm _ npy => ⟨py, rfl, ⟨_, SqL.of upd_same⟩, fun D hD => ?_⟩⟩
      have s2 : Same H1 (upd H1 py (.lst (ys.map V.str))) := same_new npy
      have hpy : (upd H1 py (.lst (ys.map V.str))) py = some (.lst (ys.map V.str)) := upd_same
      generalize upd H1 py (.lst (ys.map V.str)) = H2 at s2 hpy hD
      have hyl : ys.length ≤ 2 := by rw [hperm.length_eq, List.length_map]; exact hwl
      have spn : ((span.toNat : Nat) : Int) = span := Int.toNat_of_nonneg (by omega)
      have blk : ∀ i, ((ys.take i).flatMap fun w => (List.range span.toNat).map fun (t : Nat) => ((w, ((t : Int), ("" : PySem.Str))) : Tri)).length ≤ i * 360 := fun i => by
        induction i with
        | zero => simp
        | succ i ih =>
          by_cases c : i < ys.length
          · rw [List.take_add_one, List.getElem?_eq_getElem c, List.flatMap_append, List.length_append]
            simp only [Option.toList_some, List.flatMap_cons, List.flatMap_nil, List.append_nil, List.length_map, List.length_range]
            omega
          · rw [List.take_of_length_le (by omega)] at ih ⊢
            omega
      refine ⟨fun i m H' => ∃ (hi : i ≤ ys.length), m = ys.length - i ∧ Same H2 H' ∧ ∃ us, H' D = some (.lst us) ∧ SdAll H' us (((ys.take i).flatMap fun w => (List.range span.toNat).map fun (t : Nat) => ((w, ((t : Int), ("" : PySem.Str))) : Tri)).map eTri), ⟨_, Nat.zero_le _, rfl, same_new' hD, [], upd_same, .nil⟩, ?_⟩
      rintro i m H3 ⟨hi, rfl, s3, us, hus, dus⟩
      rcases Nat.lt_or_ge i ys.length with c | c
      · refine .inr ⟨⟨_, .str ys[i], SqL.of (s3 _ _ hpy), by simp [c]⟩, fun H' => Same H2 H' ∧ ∃ us, H' D = some (.lst us) ∧ SdAll H' us (((ys.take (i + 1)).flatMap fun w => (List.range span.toNat).map fun (t : Nat) => ((w, ((t : Int), ("" : PySem.Str))) : Tri)).map eTri), fun H' p => ⟨ys.length - (i + 1), by omega, c, rfl, p.1, p.2⟩, fun v H4 y => ?_⟩
        obtain ⟨rfl, e3⟩ := y
        have e4 := e3 _ (SqL.of (s3 _ _ hpy))
        obtain ⟨y, hy, rfl⟩ := at_map e4
        refine ⟨rfl, yesT2 ⟨_, rfl, b, T.Board.C, dx, _, _, rfl, s3 _ _ (s2 _ _ (s1 _ _ hbi)), T.Board.cl, T.n_Board_span, rfl, span, rfl, by omega, by omega, ?_⟩⟩
        refine ⟨fun j m H' => ∃ (hj : j ≤ span.toNat), m = span.toNat - j ∧ Same H2 H' ∧ ∃ us, H' D = some (.lst us) ∧ SdAll H' us ((((ys.take i).flatMap fun w => (List.range span.toNat).map fun (t : Nat) => ((w, ((t : Int), ("" : PySem.Str))) : Tri)) ++ (List.range j).map fun (t : Nat) => ((y, ((t : Int), ("" : PySem.Str))) : Tri)).map eTri), ⟨_, Nat.zero_le _, rfl, s3, us, hus, by simpa using dus⟩, ?_⟩
        rintro j m H5 ⟨hj, rfl, s5, us5, hus5, dus5⟩
        rcases Nat.lt_or_ge j span.toNat with c2 | c2
        · refine .inr ⟨c2, fun H' => Same H2 H' ∧ ∃ us, H' D = some (.lst us) ∧ SdAll H' us ((((ys.take i).flatMap fun w => (List.range span.toNat).map fun (t : Nat) => ((w, ((t : Int), ("" : PySem.Str))) : Tri)) ++ (List.range (j + 1)).map fun (t : Nat) => ((y, ((t : Int), ("" : PySem.Str))) : Tri)).map eTri), fun H' p => ⟨span.toNat - (j + 1), by omega, c2, rfl, p.1, p.2⟩, fun v H6 y' => ?_⟩
          obtain ⟨rfl, rfl⟩ := y'
          have hul := sda_len dus5
          refine ⟨rfl, yesT2 ⟨_, rfl, _, rfl, by show 3 ≤ sizeLine; decide, fun t nt => ?_⟩⟩
          have kt : Same H6 (upd H6 t (.tup [.str y, .int (0 + (j : Int)), .str ""])) := same_new nt
          have hD6 := kt _ _ hus5
          refine ⟨us5, hD6, ?_, fun q o e => (upd_ne (ne_of_none e hD)).trans (kt _ _ (s5 _ _ e)), _, upd_same, ?_⟩
          · rw [hul, List.length_append, List.length_map, List.length_range]
            have := blk i
            refine Nat.lt_of_le_of_lt (m := 1080) ?_ (by decide)
            exact Nat.le_trans (Nat.add_le_add_right this j) (by omega)
          · have eq : ∀ A : List Tri, A ++ (List.range (j + 1)).map (fun (t : Nat) => ((y, ((t : Int), ("" : PySem.Str))) : Tri)) = (A ++ (List.range j).map (fun (t : Nat) => ((y, ((t : Int), ("" : PySem.Str))) : Tri))) ++ [(y, ((j : Int), ("" : PySem.Str)))] := fun A => by
              rw [List.range_succ, List.map_append, List.append_assoc]
              rfl
            rw [eq, List.map_append]
            have k := fz_lst (o := .lst (us5 ++ [.ref t])) hD6
            refine ((dus5.sm kt).mv k).app (.cons (Sd.mv k (tri_sd (p := (y, ((j : Int), ("" : PySem.Str)))) ?_)) .nil)
            rw [upd_same, Int.zero_add]
        · refine .inl ⟨c2, s5, us5, hus5, ?_⟩
          have ej : j = span.toNat := by omega
          subst ej
          rw [List.take_add_one, hy, List.flatMap_append]
          simpa using dus5
      · refine .inl ⟨⟨_, SqL.of (s3 _ _ hpy), by rw [List.length_map]; exact c⟩, ?_⟩
        rw [List.take_of_length_le c] at dus
        have np2 : H3 p = some (.dK []) := s3 _ _ (s2 _ _ hp1)
        have s13 : Same H H3 := s1.trans (s2.trans s3)
        refine ⟨np2, [(.inr "", .ref D)], rfl, by show 1 ≤ 15; decide, ?_⟩
        have fd3 : Fd H3 (upd H3 p (.dK [(.inr "", .ref D)])) := fd_dK np2
        refine q _ _ (same_updN s13 hp) ⟨p, _, rfl, upd_same, fun x hx => ⟨.ref D, _, ?_, LAt.fd fd3 ⟨D, us, rfl, hus, dus⟩, ?_, fun s => ?_⟩⟩
        · rw [List.mem_singleton.mp hx]
          rfl
        · have := blk ys.length
          rw [List.take_length] at this
          omega
        · show s ∈ _ ↔ s ∈ (ws.map (·.1)).flatMap _
          rw [List.mem_flatMap, List.mem_flatMap]
          exact ⟨fun ⟨w, h1, h2⟩ => ⟨w, hperm.mem_iff.mp h1, h2⟩, fun ⟨w, h1, h2⟩ => ⟨w, hperm.mem_iff.mpr h1, h2⟩⟩
    | some rs =>
      obtain ⟨hl, hf⟩ := hl
      have hl0 := hl
      obtain ⟨y, dy, e, ks0, rfl, hy, _, _, ok⟩ := hl0
      refine ⟨_, rfl, rfl, _, rfl, iteF ?_⟩
      refine ⟨_, rfl, y, dy, _, rfl, hy, _, n, rs, rfl, hl, fun H1 p ks s1 hp hks => ?_⟩
      obtain ⟨p, us, rfl, hpl, hus⟩ := hks
      have kn : ks.length ≤ 3 := by rw [hp.length_eq, List.length_map]; exact ok.few.2
      have hul := sda_len hus
      refine ⟨p, rfl, ⟨us, SqL.of hpl⟩, fun D hD => ?_⟩
      refine dc_pure walk_list ks (fun x => ((Sum.inr x : Key), stepsOf n rs x)) (fun H v b => LAt eTri H v b) (fun H H' v b k h => h.fd k) hul (by rw [hul]; exact Nat.le_trans kn (by decide)) hD ?_ (fun H' s => SqL.of (s _ _ hpl)) (fun i z x' H2 H3 N N0 hz s2 yy hN => ?_) fun H9 kv9 s9 hD9 hk9 => ?_
      · exact JM.nodup_map (fun x _ y _ e => Sum.inr.inj e) (hp.nodup_iff.mpr ok.nd)
      · obtain ⟨rfl, e2⟩ := yy
        obtain ⟨x, hx, hsx⟩ := item_at hus e2
        rw [hz] at hx
        cases hx
        rw [sd_str hsx]
        refine ⟨rfl, yesT2 ⟨_, rfl, _, rfl, y, dy, _, rfl, (s1.trans s2) _ _ hy, rfl, _, rfl, _, z, n, rs, rfl, hl.sm (s1.trans s2), hp.mem_iff.mp (mem_at hz), fun H4 v s4 h4 => hN v H4 s4 h4⟩⟩
      · refine q _ _ (s1.trans s9) ⟨D, kv9, rfl, hD9, fun x hx => ?_⟩
        have nd2 : ((ks.map fun x => ((Sum.inr x : Key), stepsOf n rs x)).map (·.1)).Nodup := by
          rw [List.map_map]
          exact JM.nodup_map (fun x _ y _ e => Sum.inr.inj e) (hp.nodup_iff.mpr ok.nd)
        obtain ⟨u, hu, hL⟩ := hk9.get (JM.look_mem nd2 (u := (Sum.inr x : Key)) (x := stepsOf n rs x) (List.mem_map.mpr ⟨x, hp.mem_iff.mpr hx, rfl⟩))
        exact ⟨u, _, hu, hL, Nat.le_trans (stepsOf_len ok x) (by decide), fun s => Iff.rfl⟩

def sp_first_steps (T : Wd K mg) : Sp := fun vs H Q _ => ∃ (b l : V) (n span : Int) (ws : List (PySem.Str × List Row)) (fd : Addr) (o : RsO), vs = [b, l] ∧ BoardAt T H b n span ws fd ∧ LetOr T H l n ws o ∧ ∀ H' v L, Same H H' → LAt eTri H' v L → L.length ≤ 8 → (∀ s, s ∈ L ↔ s ∈ firstsF n ws o) → Q v H'
theorem sc_first_steps : FnScope ["board", "let", "word"] ["board", "let"] (defScope s_first_steps) := ⟨rfl, rfl, rfl, by decide +kernel, rfl, by decide +kernel, by decide +kernel⟩
-- slots: 0 board, 1 let, 2 word
theorem ok_first_steps (T : Wd K mg) : FnOk P w K mg base CX0 2 T.first_steps.f T.first_steps.fd ["board", "let"] (sp_first_steps T) := by
  have G_Let_rules := ok_Let_rules (P := P) (w := w) (base := base) T
  refine T.first_steps.F.ok sc_first_steps (fun vs H Q E h => ?_) (fun cdv A outer s H vs Q E hr h => ?_)
  · obtain ⟨b, l, n, span, ws, fd, o, rfl, _⟩ := h
    rfl
  · obtain ⟨b, l, n, span, ws, fd, o, rfl, hb, hl, q⟩ := h
    refine ⟨_, PSs.nox (pss_cons (ps_if (pt_cmpR op_isN (pv 1) pe_non (nomark _))
        (pss_one (ps_ret (pe_lc (own := [("word", 2)]) (g := gName 2) rfl sc_first_steps.nd (pi_list (pe_callB (call_sortedD rfl) (by rfl) T.n_sorted (by decide +kernel) (pa_cons (pe_fld (pv 0) rfl) pa_nil))) (blkOk_by (own := [("word", 2)]) (N := ["board", "let", "word"]) (sc := defScope s_first_steps) (by decide +kernel)) (fun _ _ _ _ _ => (pg_name (i := 2) sc_first_steps.nd rfl (.inl rfl))) (fun _ _ _ _ _ => pts_nil) (fun _ _ _ _ _ => (pe_tup (pa_cons (pv 2) (pa_cons pe_int (pa_cons pe_str pa_nil))))))))
        pss_nil)
      (pss_one (ps_ret (pe_meth (pv 1) T.Let.cl T.Let_rules.m G_Let_rules (hr.mono (by decide)) T.Let_rules.b .nil pass0 (pa_cons pe_str pa_nil)))))
, ?_⟩
    cases o with
    | none =>
      cases (show l = .non from hl)
      obtain ⟨b, dx, src, sp, sl, rfl, hbi, ⟨_, _, _, _, _, _, ok⟩, hs, ⟨sp, ka, e, hsp, dka⟩, _⟩ := hb
      cases e
      have hwl := ok.short
      have kl : ka.map (·.1) = (ws.map (·.1)).map Sum.inr := by rw [dka.keys', spots_keys]
      refine ⟨_, rfl, rfl, _, rfl, iteT ?_⟩
      refine ⟨_, rfl, b, T.Board.C, dx, _, _, rfl, hbi, T.Board.cl, T.n_Board_spots, rfl, sp, ka, ws.map (·.1), rfl, .inl hsp, kl, by rw [List.length_map]; omega, fun ys py hperm _ npy => ⟨py, rfl, ⟨_, SqL.of upd_same⟩, fun D hD => ?_⟩⟩
      have hyl : ys.length ≤ 2 := by rw [hperm.length_eq, List.length_map]; exact hwl
      refine lc_pure walk_list ys (fun w => some ((w, ((0 : Int), ("" : PySem.Str))) : Tri)) eTri (by simp) (by rw [List.length_map]; exact Nat.le_trans hyl (by decide)) hD (fun H' s => SqL.of (s _ _ upd_same)) (fun i z x' H2 H3 N N0 hz s2 yy hN hN0 => ?_) fun H5 us5 s4 hD5 hu5 => ?_
      · obtain ⟨rfl, e2⟩ := yy
        obtain ⟨x, hx, rfl⟩ := at_map e2
        rw [hz] at hx
        cases hx
        exact ⟨rfl, yesT ⟨_, rfl, by show 3 ≤ sizeLine; decide, fun t nt => hN _ _ _ (same_new nt) rfl (tri_sd upd_same)⟩⟩
      · rw [show ys.filterMap (fun w => some ((w, ((0 : Int), ("" : PySem.Str))) : Tri)) = ys.map (fun w => ((w, ((0 : Int), ("" : PySem.Str))) : Tri)) by simp] at hu5
        refine q _ _ _ ((same_new npy).trans s4) ⟨D, us5, rfl, hD5, hu5⟩ (by rw [List.length_map]; omega) fun s => ?_
        show s ∈ _ ↔ s ∈ (ws.map (·.1)).map _
        rw [List.mem_map, List.mem_map]
        exact ⟨fun ⟨w, h1, h2⟩ => ⟨w, hperm.mem_iff.mp h1, h2⟩, fun ⟨w, h1, h2⟩ => ⟨w, hperm.mem_iff.mpr h1, h2⟩⟩
    | some rs =>
      obtain ⟨hl, hf⟩ := hl
      have hl0 := hl
      obtain ⟨y, dy, e, ks0, rfl, hy, _, _, ok⟩ := hl0
      refine ⟨_, rfl, rfl, _, rfl, iteF ?_⟩
      exact ⟨_, rfl, y, dy, _, rfl, hy, rfl, _, "start", n, rs, rfl, hl, ok.start, fun H4 v s4 h4 => q _ _ _ s4 h4 (stepsOf_len ok _) fun s => Iff.rfl⟩

def standsOf (W : JM.Wo PySem.Str) (s : Tri) : List Stand := (List.range (W.m s.1).toNat).map fun (i : Nat) => (s.2.2, (s.1, ((i : Int), (i : Int) + W.m s.1 - 1)))
def sp_stands_of (T : Wd K mg) : Sp := fun vs H Q _ => ∃ (b : V) (x st : PySem.Str) (n span : Int) (ws : List (PySem.Str × List Row)) (fd : Addr) (t : Int), vs = [b, .str x, .str st] ∧ BoardAt T H b n span ws fd ∧ x ∈ ws.map (·.1) ∧ ∀ (H' : Hp) (p : Addr), H p = none → Same H H' → LAt eStand H' (.ref p) (standsOf (woOf n span ws) (x, (t, st))) → Q (.ref p) H'
theorem sc_stands_of : FnScope ["board", "word", "state", "many", "i"] ["board", "word", "state"] (defScope s_stands_of) := ⟨rfl, rfl, rfl, by decide +kernel, rfl, by decide +kernel, by decide +kernel⟩
-- slots: 0 board, 1 word*, 2 state*, 3 many*, 4 i
theorem ok_stands_of (T : Wd K mg) : FnOk P w K mg base CX0 1 T.stands_of.f T.stands_of.fd ["board", "word", "state"] (sp_stands_of T) := by
  refine T.stands_of.F.ok sc_stands_of (fun vs H Q E h => ?_) (fun cdv A outer s H vs Q E hr h => ?_)
  · obtain ⟨b, x, st, n, span, ws, fd, t, rfl, _⟩ := h
    rfl
  · obtain ⟨b, x, st, n, span, ws, fd, t0, rfl, hb, hx, q⟩ := h
    obtain ⟨b, dx, src, sp, sl, rfl, hbi, ⟨_, _, _, _, _, _, ok⟩, hs, ⟨sp, ka, e, hsp, dka⟩, _⟩ := hb
    cases e
    have Kw := woOf_ok ok hs
    obtain ⟨ux, hux, lx, usx, rfl, hlx, husx⟩ := dka.get (look_spots (n := n) (span := span) hx)
    have lenx := sda_len husx
    have mx := Kw.m_pos (w := x) hx
    have mx2 := Kw.m_le (w := x) hx
    have emx : (usx.length : Int) = (woOf n span ws).m x := by rw [lenx]; rfl
    refine ⟨_, PSs.nox (pss_cons (ps_set (i := 3) sc_stands_of.nd rfl (.inr rfl) (pe_callB call_len_seq (by rfl) T.n_len (by decide +kernel) (pa_cons (pe_dget (hu_of hr) (pe_fld (pv 0) rfl) (pv 1) (fun _ _ => rfl)) pa_nil)))
      (pss_one (ps_ret (pe_lc (own := [("i", 4)]) (g := gName 4) rfl sc_stands_of.nd (pi_range1 (by rfl) T.n_range (pa_cons (pv 3) pa_nil)) (blkOk_by (own := [("i", 4)]) (N := ["board", "word", "state", "many", "i"]) (sc := defScope s_stands_of) (by decide +kernel)) (fun _ _ _ _ _ => (pg_name (i := 4) sc_stands_of.nd rfl (.inl rfl))) (fun _ _ _ _ _ => pts_nil) (fun _ _ _ _ _ => (pe_tup (pa_cons (pv 2) (pa_cons (pv 1) (pa_cons (pv 4) (pa_cons (pe_op op_sub (pe_op op_add (pv 4) (pv 3)) pe_int) pa_nil))))))))))
, ?_⟩
    refine ⟨_, rfl, b, T.Board.C, dx, _, _, rfl, hbi, T.Board.cl, T.n_Board_spots, rfl, _, rfl, sp, .ref lx, rfl, .inl ⟨ka, .inr x, .inl hsp, rfl, hux.symm⟩, lx, usx, rfl, .inl (SqL.of hlx), ?_⟩
    rw [emx]
    refine ⟨_, rfl, _, rfl, by omega, by omega, fun D hD => ?_⟩
    refine lc_pure walk_range (List.range ((woOf n span ws).m x).toNat) (fun (i : Nat) => some ((st, (x, ((i : Int), (i : Int) + (woOf n span ws).m x - 1))) : Stand)) eStand (by simp) (Nat.le_trans (m := 12) (by omega) (by decide)) hD (fun _ _ => trivial) (fun i z x' H2 H3 N N0 hz s2 yy hN hN0 => ?_) fun H5 us5 s4 hD5 hu5 => ?_
    · obtain ⟨rfl, rfl⟩ := yy
      obtain ⟨hi, e5⟩ := List.getElem?_eq_some_iff.mp hz
      rw [List.getElem_range] at e5
      subst e5
      refine ⟨rfl, yesT ⟨_, rfl, _, rfl, _, rfl, _, rfl, _, rfl, _, _, rfl, rfl, _, _, rfl, rfl, by show 4 ≤ sizeLine; decide, fun t nt => hN _ _ _ (same_new nt) rfl (stand_sd ?_)⟩⟩
      rw [upd_same]
      simp
    · rw [show (List.range ((woOf n span ws).m x).toNat).filterMap (fun (i : Nat) => some ((st, (x, ((i : Int), (i : Int) + (woOf n span ws).m x - 1))) : Stand)) = standsOf (woOf n span ws) (x, (t0, st)) by simp [standsOf]] at hu5
      exact q _ _ hD s4 ⟨D, us5, rfl, hD5, hu5⟩
def sp_is_closed : Sp := fun vs H Q _ => ∃ (v : V) (u : Stand), vs = [v] ∧ Sd H v (eStand u) ∧ Q (.bl (decide (u.2.2.1 = u.2.2.2))) H
theorem sc_is_closed : FnScope ["stand"] ["stand"] (defScope s_is_closed) := ⟨rfl, rfl, rfl, by decide +kernel, rfl, by decide +kernel, by decide +kernel⟩
-- slots: 0 stand
theorem ok_is_closed (T : Wd K mg) : FnOk P w K mg base CX0 1 T.is_closed.f T.is_closed.fd ["stand"] sp_is_closed := by
  refine T.is_closed.F.ok sc_is_closed (fun vs H Q E h => ?_) (fun cdv A outer s H vs Q E hr h => ?_)
  · obtain ⟨v, u, rfl, _⟩ := h
    rfl
  · obtain ⟨v, u, rfl, hv, q⟩ := h
    obtain ⟨a, rfl, ha⟩ := sd_stand hv
    refine ⟨_, PSs.nox (pss_one (ps_ret (pe_cmpR op_eq (pe_ix ix_tup (pv 0) pe_int (fun _ _ => rfl)) (pe_ix ix_tup (pv 0) pe_int (fun _ _ => rfl)) (nomark _))))
, ?_⟩
    refine ⟨_, rfl, a, _, 2, .int u.2.2.1, rfl, rfl, SqT.of ha, rfl, _, rfl, a, _, 3, .int u.2.2.2, rfl, rfl, SqT.of ha, rfl, rfl, ?_⟩
    have e : decide (V.int u.2.2.1 = V.int u.2.2.2) = decide (u.2.2.1 = u.2.2.2) := by
      by_cases c : u.2.2.1 = u.2.2.2
      · rw [decide_eq_true c, decide_eq_true (congrArg V.int c)]
      · rw [decide_eq_false c, decide_eq_false fun z => c (V.int.inj z)]
    rw [e]
    exact q
end
end J
/-! Moves of stands; first stands. -/
namespace J
open PySem PySem.Spec PyProof.Rows L2
def eOpt : Option Stand → PyData
  | none => .none
  | some f => eStand f
abbrev Mv := (PySem.Str × Int) × Option Stand
def eMv (m : Mv) : PyData := .tuple [.tuple [.str m.1.1, .int m.1.2], eOpt m.2]
section
variable {P : Program} {w : World} {K : PySem.W.Frag} {mg : Str → Option Value} {base : Heap}
def sp_stand_behind (T : Wd K mg) : Sp := fun vs H Q _ => ∃ (b v1 v2 : V) (n span : Int) (ws : List (PySem.Str × List Row)) (fd : Addr) (S : List PySem.Str) (u : Stand) (s : Tri), vs = [b, v1, v2] ∧ BoardAt T H b n span ws fd ∧ FoundAt (woOf n span ws) (H fd) ∧ Sd H v1 (eStand u) ∧ JM.Good (woOf n span ws) S u ∧ Sd H v2 (eTri s) ∧ s.1 ∈ ws.map (·.1) ∧
  ∀ H' v, SameX fd H H' → FoundAt (woOf n span ws) (H' fd) → Sd H' v (eOpt ((woOf n span ws).behind u s)) → Q v H'
theorem sc_stand_behind : FnScope ["board", "stand", "step", "v", "turn", "state", "many", "left", "right", "lap"] ["board", "stand", "step"] (defScope s_stand_behind) := ⟨rfl, rfl, rfl, by decide +kernel, rfl, by decide +kernel, by decide +kernel⟩
-- slots: 0 board, 1 stand, 2 step, 3 v, 4 turn, 5 state, 6 many, 7 left, 8 right, 9 lap
theorem ok_stand_behind (T : Wd K mg) : FnOk P w K mg base CX0 5 T.stand_behind.f T.stand_behind.fd ["board", "stand", "step"] (sp_stand_behind T) := by
  have G_Board_carried := ok_Board_carried (P := P) (w := w) (base := base) T
  refine T.stand_behind.F.ok sc_stand_behind (fun vs H Q E h => ?_) (fun cdv A outer s H vs Q E hr h => ?_)
  · obtain ⟨b, v1, v2, n, span, ws, fd, S, u, s, rfl, _⟩ := h
    rfl
  · obtain ⟨b, v1, v2, n, span, ws, fd, S, u, s, rfl, hb, hf, hv1, hg, hv2, hs1, q⟩ := h
    obtain ⟨a1, rfl, ha1⟩ := sd_stand hv1
    obtain ⟨a2, rfl, ha2⟩ := sd_tri hv2
    have hb0 := hb
    obtain ⟨ba, dx, src, sp, sl, rfl, hbi, ⟨_, _, _, _, _, _, ok⟩, hs, ⟨sp, ka, e, hsp, dka⟩, _⟩ := hb0
    cases e
    have Kw := woOf_ok ok hs
    obtain ⟨ux, hux, lx, usx, rfl, hlx, husx⟩ := dka.get (look_spots (n := n) (span := span) hs1)
    have lenx := sda_len husx
    have mx := Kw.m_pos (w := s.1) hs1
    have mx2 := Kw.m_le (w := s.1) hs1
    have emx : (usx.length : Int) = (woOf n span ws).m s.1 := by rw [lenx]; rfl
    refine ⟨_, PSs.nox (pss_cons (ps_asg (pv 2) (pg_tup (by rfl) (pgs_cons (pg_name (i := 3) sc_stand_behind.nd rfl (.inl rfl)) (pgs_cons (pg_name (i := 4) sc_stand_behind.nd rfl (.inl rfl)) (pgs_cons (pg_name (i := 5) sc_stand_behind.nd rfl (.inl rfl)) pgs_nil)))))
      (pss_cons (ps_set (i := 6) sc_stand_behind.nd rfl (.inl rfl) (pe_callB call_len_seq (by rfl) T.n_len (by decide +kernel) (pa_cons (pe_dget (hu_of hr) (pe_fld (pv 0) rfl) (pv 3) (fun _ _ => rfl)) pa_nil)))
      (pss_cons (ps_set (i := 7) sc_stand_behind.nd rfl (.inl rfl) (pe_meth (pv 0) T.Board.cl T.Board_carried.m G_Board_carried (hr.mono (by decide)) T.Board_carried.b .nil pass0 (pa_cons (pe_ix ix_tup (pv 1) pe_int (fun _ _ => rfl)) (pa_cons (pe_ix ix_tup (pv 1) pe_int (fun _ _ => rfl)) (pa_cons (pv 3) (pa_cons (pe_un un_neg (pv 4)) pa_nil))))))
      (pss_cons (ps_set (i := 8) sc_stand_behind.nd rfl (.inl rfl) (pe_meth (pv 0) T.Board.cl T.Board_carried.m G_Board_carried (hr.mono (by decide)) T.Board_carried.b .nil pass0 (pa_cons (pe_ix ix_tup (pv 1) pe_int (fun _ _ => rfl)) (pa_cons (pe_ix ix_tup (pv 1) pe_int (fun _ _ => rfl)) (pa_cons (pv 3) (pa_cons (pe_un un_neg (pv 4)) pa_nil))))))
      (pss_cons (ps_if (pt_cmpR op_eq (pv 8) (pe_op op_add (pv 7) (pv 6)) (nomark _))
        (pss_one (ps_ret pe_non))
        pss_nil)
      (pss_cons (ps_set (i := 9) sc_stand_behind.nd rfl (.inl rfl) (pe_op op_fdiv (pv 7) (pv 6)))
      (pss_one (ps_ret (pe_tup (pa_cons (pv 5) (pa_cons (pv 3) (pa_cons (pe_op op_sub (pv 7) (pe_op op_mul (pv 9) (pv 6))) (pa_cons (pe_op op_sub (pv 8) (pe_op op_mul (pv 9) (pv 6))) pa_nil)))))))))))))
, ?_⟩
    refine ⟨_, rfl, a2, _, rfl, SqT.of ha2, rfl, _, _, rfl, _, _, rfl, _, _, rfl, rfl, ?_⟩
    refine ⟨_, rfl, ba, T.Board.C, dx, _, _, rfl, hbi, T.Board.cl, T.n_Board_spots, rfl, _, rfl, sp, .ref lx, rfl, .inl ⟨ka, .inr s.1, .inl hsp, rfl, hux.symm⟩, lx, usx, rfl, .inl (SqL.of hlx), ?_⟩
    rw [emx]
    refine ⟨_, rfl, ba, dx, _, rfl, hbi, rfl, _, rfl, a1, _, 1, _, rfl, rfl, SqT.of ha1, rfl, _, rfl, a1, _, 2, _, rfl, rfl, SqT.of ha1, rfl, _, rfl, _, rfl, s.2.1, rfl, _, n, span, ws, fd, u.2.1, s.1, u.2.2.1, -s.2.1, rfl, hb, hf, hg.wd, hs1, fun H1 k1 hf1 => ?_⟩
    rw [Int.neg_neg]
    have ke1 := hf.ke k1
    refine ⟨_, rfl, ba, dx, _, rfl, ke1.ins hbi, rfl, _, rfl, a1, _, 1, _, rfl, rfl, SqT.of (ke1.ft _ _ ha1), rfl, _, rfl, a1, _, 3, _, rfl, rfl, SqT.of (ke1.ft _ _ ha1), rfl, _, rfl, _, rfl, s.2.1, rfl, _, n, span, ws, fd, u.2.1, s.1, u.2.2.2, -s.2.1, rfl, hb.ke ke1, hf1, hg.wd, hs1, fun H2 k2 hf2 => ?_⟩
    rw [Int.neg_neg]
    have k12 := k1.trans k2
    have ebe : (woOf n span ws).behind u s = if (woOf n span ws).car u.2.1 u.2.2.2 s.1 s.2.1 = (woOf n span ws).car u.2.1 u.2.2.1 s.1 s.2.1 + (woOf n span ws).m s.1 then none else some (s.2.2, s.1, (woOf n span ws).car u.2.1 u.2.2.1 s.1 s.2.1 - (woOf n span ws).car u.2.1 u.2.2.1 s.1 s.2.1 / (woOf n span ws).m s.1 * (woOf n span ws).m s.1, (woOf n span ws).car u.2.1 u.2.2.2 s.1 s.2.1 - (woOf n span ws).car u.2.1 u.2.2.1 s.1 s.2.1 / (woOf n span ws).m s.1 * (woOf n span ws).m s.1) := rfl
    rw [ebe] at q
    generalize (woOf n span ws).car u.2.1 u.2.2.1 s.1 s.2.1 = left at q ⊢
    generalize (woOf n span ws).car u.2.1 u.2.2.2 s.1 s.2.1 = right at q ⊢
    generalize (woOf n span ws).m s.1 = m at mx mx2 q ⊢
    refine ⟨_, rfl, _, rfl, _, rfl, left, m, rfl, rfl, rfl, _, rfl, ite2 (fun c => ?_) fun c => ?_⟩
    · have c' : right = left + m := V.int.inj (of_decide_eq_true c)
      rw [if_pos c'] at q
      exact q _ _ k12 hf2 .non
    · have c' : ¬ right = left + m := fun z => c (decide_eq_true (congrArg V.int z))
      rw [if_neg c'] at q
      refine ⟨_, rfl, _, rfl, left, m, rfl, rfl, ⟨by omega, by omega⟩, ?_⟩
      refine ⟨_, rfl, _, rfl, _, rfl, _, rfl, _, rfl, _, _, rfl, rfl, .inr ⟨by omega, by omega⟩, _, _, rfl, rfl, _, rfl, _, rfl, _, rfl, _, _, rfl, rfl, .inr ⟨by omega, by omega⟩, _, _, rfl, rfl, by show 4 ≤ sizeLine; decide, fun t nt => ?_⟩
      have ntf : t ≠ fd := fun z => by obtain ⟨kv, e, _⟩ := hf2; rw [z, e] at nt; cases nt
      exact q _ _ (k12.trans (samex_new nt)) (by rw [upd_ne (fun z => ntf z.symm)]; exact hf2) (stand_sd upd_same)

def sp_stand_moves (T : Wd K mg) : Sp := fun vs H Q _ => ∃ (b v1 v2 : V) (n span : Int) (ws : List (PySem.Str × List Row)) (fd : Addr) (o : RsO) (u : Stand), vs = [b, v1, v2] ∧ BoardAt T H b n span ws fd ∧ FoundAt (woOf n span ws) (H fd) ∧ StepsAt H v1 n span ws o ∧ MachOk n ws o ∧ Sd H v2 (eStand u) ∧ JM.Good (woOf n span ws) (statesOf o) u ∧
  ∀ (H' : Hp) (p : Addr) (L : List Tri), H p = none → SameX fd H H' → FoundAt (woOf n span ws) (H' fd) → LAt eMv H' (.ref p) (L.map fun s => ((s.1, s.2.1), (woOf n span ws).behind u s)) → L.length ≤ 720 → (∀ s, s ∈ L ↔ s ∈ stepsF n span ws o u.1) → Q (.ref p) H'
theorem sc_stand_moves : FnScope ["board", "steps", "stand", "step"] ["board", "steps", "stand"] (defScope s_stand_moves) := ⟨rfl, rfl, rfl, by decide +kernel, rfl, by decide +kernel, by decide +kernel⟩
-- slots: 0 board*, 1 steps, 2 stand*, 3 step
theorem ok_stand_moves (T : Wd K mg) : FnOk P w K mg base CX0 6 T.stand_moves.f T.stand_moves.fd ["board", "steps", "stand"] (sp_stand_moves T) := by
  have G_stand_behind := ok_stand_behind (P := P) (w := w) (base := base) T
  refine T.stand_moves.F.ok sc_stand_moves (fun vs H Q E h => ?_) (fun cdv A outer s H vs Q E hr h => ?_)
  · obtain ⟨b, v1, v2, n, span, ws, fd, o, u, rfl, _⟩ := h
    rfl
  · obtain ⟨b, v1, v2, n, span, ws, fd, o, u, rfl, hb, hf, hst, mok, hv2, hg, q⟩ := h
    obtain ⟨a1, rfl, ha1⟩ := sd_stand hv2
    obtain ⟨d, kvs, rfl, hd, hall⟩ := hst
    obtain ⟨w0, L, hw0, ⟨la, us, rfl, hla, hus⟩, hL, hmem⟩ := hall u.1 hg.st
    have hul := sda_len hus
    refine ⟨_, PSs.nox (pss_one (ps_ret (pe_lc (own := [("step", 3)]) (g := gName 3) rfl sc_stand_moves.nd (pi_list (pe_dget (hu_of hr) (pv 1) (pe_ix ix_tup (pv 2) pe_int (fun _ _ => rfl)) (fun _ _ => rfl))) (blkOk_by (own := [("step", 3)]) (N := ["board", "steps", "stand", "step"]) (sc := defScope s_stand_moves) (by decide +kernel)) (fun _ _ _ _ _ => (pg_name (i := 3) sc_stand_moves.nd rfl (.inl rfl))) (fun _ _ _ _ _ => pts_nil) (fun _ _ _ _ _ => (pe_tup (pa_cons (pe_tup (pa_cons (pe_ix (ix_tupK (K := K) (by rfl)) (pv 3) pe_int (fun _ _ => rfl)) (pa_cons (pe_ix (ix_tupK (K := K) (by rfl)) (pv 3) pe_int (fun _ _ => rfl)) pa_nil))) (pa_cons (pe_call G_stand_behind (hr.mono (by decide)) (by rfl) T.stand_behind.g T.stand_behind.F.kp T.stand_behind.b .nil pass0 (pa_cons (pv 0) (pa_cons (pv 2) (pa_cons (pv 3) pa_nil)))) pa_nil)))))))
, ?_⟩
    refine ⟨_, rfl, _, rfl, a1, _, 0, _, rfl, rfl, SqT.of ha1, rfl, d, _, rfl, .inl ⟨kvs, .inr u.1, .inl hd, rfl, hw0.symm⟩, la, rfl, ⟨us, SqL.of hla⟩, fun D hD => ?_⟩
    have lf : la ≠ fd := fun z => by obtain ⟨kv, e, _⟩ := hf; rw [z, e] at hla; cases hla
    refine lc_pureX walk_list L (fun s => some (((s.1, s.2.1), (woOf n span ws).behind u s) : Mv)) eMv fd (FoundAt (woOf n span ws)) FoundAt.dt hf hul (by rw [hul]; exact Nat.le_trans hL (by decide)) hD (fun H' k => SqL.of (k _ _ lf hla)) (fun i z x' H2 H3 N N0 hz k2 f2 yy hN hN0 => ?_) fun H5 us5 k5 f5 hD5 hu5 => ?_
    · obtain ⟨rfl, e2⟩ := yy
      obtain ⟨s, hs2, hsd⟩ := item_at hus e2
      rw [hz] at hs2
      cases hs2
      have ke := hf.ke k2
      have hsd2 := hsd.mt ke.ft
      have hsd3 := hsd2
      obtain ⟨c, rfl, hc⟩ := sd_tri hsd3
      have hin := steps_in mok hg.st ((hmem z).mp (mem_at hz))
      refine ⟨rfl, yesT ⟨_, rfl, c, _, 0, _, rfl, rfl, SqT.of hc, rfl, _, rfl, c, _, 1, _, rfl, rfl, SqT.of hc, rfl, by show 2 ≤ sizeLine; decide, fun t nt => ?_⟩⟩
      have kt : Same H3 (upd H3 t (.tup [.str z.1, .int z.2.1])) := same_new nt
      have ntf : t ≠ fd := fun x => by obtain ⟨kv, e, _⟩ := f2; rw [x, e] at nt; cases nt
      have ft3 : FoundAt (woOf n span ws) ((upd H3 t (.tup [.str z.1, .int z.2.1])) fd) := by rw [upd_ne (fun x => ntf x.symm)]; exact f2
      refine ⟨_, rfl, _, rfl, _, rfl, _, _, _, n, span, ws, fd, statesOf o, u, z, rfl, hb.ke (ke.trans (ke_of kt)), ft3, (hv2.mt ke.ft).sm kt, hg, hsd2.sm kt, hin.1, fun H6 v6 k6 f6 h6 => ?_⟩
      refine ⟨by show 2 ≤ sizeLine; decide, fun t2 nt2 => ?_⟩
      have nt2f : t2 ≠ fd := fun x => by obtain ⟨kv, e, _⟩ := f6; rw [x, e] at nt2; cases nt2
      have ht6 := k6 _ _ ntf (upd_same (o := .tup [.str z.1, .int z.2.1]) (H := H3) (a := t))
      refine hN _ _ _ (((same_x kt).trans k6).trans (samex_new nt2)) (by rw [upd_ne (fun x => nt2f x.symm)]; exact f6) rfl ?_
      exact .tup upd_same (.cons (.tup (same_new nt2 _ _ ht6) (.cons (.str _) (.cons (.int _) .nil))) (.cons (h6.sm (same_new nt2)) .nil))
    · rw [show L.filterMap (fun s => some (((s.1, s.2.1), (woOf n span ws).behind u s) : Mv)) = L.map (fun s => (((s.1, s.2.1), (woOf n span ws).behind u s) : Mv)) by simp] at hu5
      exact q _ _ L hD k5 f5 ⟨D, us5, rfl, hD5, hu5⟩ hL hmem

def sp_is_stand (T : Wd K mg) : Sp := fun vs H Q _ => ∃ (b l v : V) (n span : Int) (ws : List (PySem.Str × List Row)) (fd : Addr) (o : RsO) (u : Stand), vs = [b, l, v] ∧ BoardAt T H b n span ws fd ∧ LetOr T H l n ws o ∧ Sd H v (eStand u) ∧ JM.Good (woOf n span ws) (statesOf o) u ∧ ∀ H', Same H H' → Q (.bl true) H'
theorem sc_is_stand : FnScope ["board", "let", "value", "state", "word", "i", "j", "many"] ["board", "let", "value"] (defScope s_is_stand) := ⟨rfl, rfl, rfl, by decide +kernel, rfl, by decide +kernel, by decide +kernel⟩
-- slots: 0 board, 1 let, 2 value, 3 state, 4 word, 5 i, 6 j, 7 many
theorem ok_is_stand (T : Wd K mg) : FnOk P w K mg base CX0 3 T.is_stand.f T.is_stand.fd ["board", "let", "value"] (sp_is_stand T) := by
  have G_is_integer := ok_is_integer (P := P) (w := w) (base := base) T
  have G_Let_states := ok_Let_states (P := P) (w := w) (base := base) T
  refine T.is_stand.F.ok sc_is_stand (fun vs H Q E h => ?_) (fun cdv A outer s H vs Q E hr h => ?_)
  · obtain ⟨b, l, v, n, span, ws, fd, o, u, rfl, _⟩ := h
    rfl
  · obtain ⟨b, l, v, n, span, ws, fd, o, u, rfl, hb, hl, hv, hg, q⟩ := h
    obtain ⟨a, rfl, ha⟩ := sd_stand hv
    obtain ⟨ba, dx, src, sp, sl, rfl, hbi, ⟨_, _, _, _, _, _, ok⟩, hs, ⟨sp, ka, e, hsp, dka⟩, _⟩ := hb
    cases e
    obtain ⟨ux, hux, lx, usx, rfl, hlx, husx⟩ := dka.get (look_spots (n := n) (span := span) hg.wd)
    have lenx := sda_len husx
    have emx : (usx.length : Int) = (woOf n span ws).m u.2.1 := by rw [lenx]; rfl
    refine ⟨_, PSs.nox (pss_cons (ps_if (PW.pt (pw_or (pt_not (pt_val (pe_callB call_isi (by rfl) T.n_isinstance (by decide +kernel) (pa_cons (pv 2) (pa_cons (pe_bltn (v := .ty "tuple") (by rfl) T.n_tuple (by decide +kernel) rfl) pa_nil))) (fun _ => rfl))) (pw_or1 (pt_cmpR op_ne (pe_callB call_len_seq (by rfl) T.n_len (by decide +kernel) (pa_cons (pv 2) pa_nil)) pe_int (nomark _)))))
        (pss_one (ps_ret pe_bl))
        pss_nil)
      (pss_cons (ps_asg (pv 2) (pg_tup (by rfl) (pgs_cons (pg_name (i := 3) sc_is_stand.nd rfl (.inl rfl)) (pgs_cons (pg_name (i := 4) sc_is_stand.nd rfl (.inl rfl)) (pgs_cons (pg_name (i := 5) sc_is_stand.nd rfl (.inl rfl)) (pgs_cons (pg_name (i := 6) sc_is_stand.nd rfl (.inl rfl)) pgs_nil))))))
      (pss_cons (ps_if (PW.pt (pw_or (pt_not (pt_val (pe_callB call_isi (by rfl) T.n_isinstance (by decide +kernel) (pa_cons (pv 3) (pa_cons (pe_bltn (v := .ty "str") (by rfl) T.n_str (by decide +kernel) rfl) pa_nil))) (fun _ => rfl))) (pw_or (pt_not (pt_val (pe_callB call_isi (by rfl) T.n_isinstance (by decide +kernel) (pa_cons (pv 4) (pa_cons (pe_bltn (v := .ty "str") (by rfl) T.n_str (by decide +kernel) rfl) pa_nil))) (fun _ => rfl))) (pw_or1 (pt_cmp (pc_dnotin (hu_of hr) (pv 4) (pe_fld (pv 0) rfl)))))))
        (pss_one (ps_ret pe_bl))
        pss_nil)
      (pss_cons (ps_if (PW.pt (pw_or (pt_not (pt_val (pe_call G_is_integer (hr.mono (by decide)) (by rfl) T.is_integer.g T.is_integer.F.kp T.is_integer.b .nil pass0 (pa_cons (pv 5) pa_nil)) (fun _ => rfl))) (pw_or1 (pt_not (pt_val (pe_call G_is_integer (hr.mono (by decide)) (by rfl) T.is_integer.g T.is_integer.F.kp T.is_integer.b .nil pass0 (pa_cons (pv 6) pa_nil)) (fun _ => rfl))))))
        (pss_one (ps_ret pe_bl))
        pss_nil)
      (C8.pss_cut (ps_if (PW.pt (pw_or (PW.pt (pw_and (pt_cmpR op_isN (pv 1) pe_non (nomark _)) (pw_and1 (pt_cmpR op_ne (pv 3) pe_str (nomark _))))) (pw_or1 (PW.pt (pw_and (pt_cmpR op_notN (pv 1) pe_non (nomark _)) (pw_and1 (pt_cmpR op_notIn_seq (pv 3) (pe_prop (pv 1) T.Let.cl T.Let_states.pr G_Let_states (hr.mono (by decide)) T.Let_states.b .nil pass0 rfl) rfl)))))))
        (pss_one (ps_ret pe_bl))
        pss_nil)
      (pss_cons (ps_set (i := 7) sc_is_stand.nd rfl (.inl rfl) (pe_callB call_len_seq (by rfl) T.n_len (by decide +kernel) (pa_cons (pe_dget (hu_of hr) (pe_fld (pv 0) rfl) (pv 4) (fun _ _ => rfl)) pa_nil)))
      (pss_one (ps_ret (pe_and (pe_chain op_le op_lt pe_int (pv 5) (pv 7)) (pe_one (pe_chain op_le op_lt (pv 5) (pv 6) (pe_op op_add (pv 5) (pv 7)))))))))))))
, ?_⟩
    refine ⟨_, rfl, _, _, _, _, true, rfl, .ty _, .base (.tup ha), kit_ty (by decide +kernel), true, rfl, iteF ?_⟩
    refine ⟨_, rfl, a, _, rfl, .inr (SqT.of ha), rfl, false, rfl, iteF ?_⟩
    refine ⟨_, rfl, a, _, rfl, SqT.of ha, rfl, _, _, rfl, _, _, rfl, _, _, rfl, _, _, rfl, rfl, ?_⟩
    refine ⟨_, rfl, _, _, _, _, true, rfl, .ty _, .base (.str _), kit_ty (by decide +kernel), true, rfl, iteF ?_⟩
    refine ⟨_, rfl, _, _, _, _, true, rfl, .ty _, .base (.str _), kit_ty (by decide +kernel), true, rfl, iteF ?_⟩
    refine ⟨_, rfl, _, rfl, ba, T.Board.C, dx, _, _, rfl, hbi, T.Board.cl, T.n_Board_spots, rfl, sp, _, rfl, .inl ⟨ka, .inr u.2.1, .inl hsp, rfl, hux.symm⟩, _, rfl, iteF ?_⟩
    refine ⟨_, rfl, _, rfl, true, rfl, iteF ⟨_, rfl, _, rfl, true, rfl, iteF ?_⟩⟩
    refine ⟨fun σ H' => Same H H' ∧ σ = [some (.ref ba), some l, some (.ref a), some (.str u.1), some (.str u.2.1), some (.int u.2.2.1), some (.int u.2.2.2), none], ?_, fun σ H1 hm => ?_⟩
    · cases o with
      | none =>
        cases (show l = .non from hl)
        have eu : u.1 = "" := List.mem_singleton.mp hg.st
        refine ⟨_, rfl, rfl, _, rfl, iteT ⟨_, rfl, rfl, false, ?_, iteF ⟨_, rfl, rfl, _, rfl, iteF ⟨Same.refl _, rfl⟩⟩⟩⟩
        rw [eu]
        rfl
      | some rs =>
        obtain ⟨hl, _⟩ := hl
        have hl0 := hl
        obtain ⟨y, dy, e, ks0, rfl, hy, _, _, okr⟩ := hl0
        refine ⟨_, rfl, rfl, _, rfl, iteF ⟨_, rfl, rfl, _, rfl, iteT ⟨_, rfl, _, rfl, y, dy, _, rfl, hy, _, n, rs, rfl, hl, fun H2 p ks s2 hp hks => ?_⟩⟩⟩
        obtain ⟨p, us, rfl, hpl, hus⟩ := hks
        have hin : inV (.str u.1) us = true := List.any_eq_true.mpr ⟨.str u.1, by rw [sda_strs hus]; exact List.mem_map.mpr ⟨u.1, hp.mem_iff.mpr hg.st, rfl⟩, by simp [eqV]⟩
        refine ⟨p, us, rfl, .inl (SqL.of hpl), rfl, ?_, false, ?_, iteF ⟨s2, rfl⟩⟩
        · rw [sda_strs hus, List.all_eq_true]
          intro b hb
          obtain ⟨c, _, rfl⟩ := List.mem_map.mp hb
          rfl
        · show V.bl (if true = true then !inV (.str u.1) us else inV (.str u.1) us) = V.bl false
          rw [hin]
          rfl
    · obtain ⟨s1, rfl⟩ := hm
      have i0 := hg.i0
      have i1 := hg.i1
      have j0 := hg.j0
      have j1 := hg.j1
      refine ⟨_, rfl, ba, T.Board.C, dx, _, _, rfl, s1 _ _ hbi, T.Board.cl, T.n_Board_spots, rfl, _, rfl, sp, .ref lx, rfl, .inl ⟨ka, .inr u.2.1, .inl (s1 _ _ hsp), rfl, hux.symm⟩, lx, usx, rfl, .inl (SqL.of (s1 _ _ hlx)), ?_⟩
      rw [emx]
      refine ⟨_, rfl, 0, _, rfl, rfl, true, d_true i0, iteT ⟨_, rfl, _, _, rfl, rfl, true, d_true i1, iteT ?_⟩⟩
      refine ⟨_, rfl, _, rfl, _, _, rfl, rfl, true, d_true j0, iteT ⟨_, rfl, _, rfl, _, _, rfl, rfl, _, _, rfl, rfl, ?_⟩⟩
      have := q H1 s1
      rw [← d_true j1] at this
      exact this
end
end J
/-! Lambdas with parameters as values; functions handed to a def and called there. -/
namespace J
open PySem PySem.Spec PyProof.Rows L2 LamX NdefX

/-- the object at f is the lambda F with the body ex (F's own body is not looked at) -/
def LamO (f : Addr) (F : NF) (ex : Expr) : HO := .ext fun h => ∃ pm ctv : Value, h.get? f = some (PySem.W.kla_obj F.name F.qual F.params ex F.scope F.cl pm F.c ctv)
theorem lamO_at {P : Program} {w : World} {H : Hp} {h : Heap} {f : Addr} {F : NF} {ex : Expr} (hok : HOk P w H h) (e : H f = some (LamO f F ex)) : ∃ pm ctv : Value, h.get? f = some (PySem.W.kla_obj F.name F.qual F.params ex F.scope F.cl pm F.c ctv) := by
  obtain ⟨z, _⟩ := hok f _ e
  exact z
section
variable {X : Cx} {pins : List (Addr × Obj)} {σ : L2.St} {H : Hp} {s : Shared}
theorem inv_lam {F : NF} {ex : Expr} {o : Obj} {t' : Nat} {pm ctv : Value} (I : Inv X pins σ H s) (ho : o = PySem.W.kla_obj F.name F.qual F.params ex F.scope F.cl pm F.c ctv) :
    Inv X pins σ (upd H s.heap.objs.size (LamO s.heap.objs.size F ex)) { s with heap := s.heap.push o, toks := t' } := by
  subst ho
  have e : (s.heap.push (PySem.W.kla_obj F.name F.qual F.params ex F.scope F.cl pm F.c ctv)).get? s.heap.objs.size = some (PySem.W.kla_obj F.name F.qual F.params ex F.scope F.cl pm F.c ctv) := Heap.get?_push_size _ rfl
  refine I.laid (fun b u q => Heap.get?_push_of_some _ q) (Nat.le_refl _) ⟨⟨pm, ctv, e⟩, ⟨_, e⟩, fun h1 h2 ⟨p, t, z⟩ st => ⟨p, t, st _ z⟩⟩
/-- the reading of a lambda as a value -/
def tLamN (T : List NTab) (mk : Addr → NF) (ex : Expr) : TE := fun _ H Q => TabsN T H ∧ ∀ (f c' : Addr) (H1 : Hp), ExtN H H1 → (∀ b, H1 b = none → H b = none) → TabsN T H1 → H f = none → H1 f = some (LamO f (mk c') ex) → H1 c' = some (CodeO c' (mk c').qual) → Q (.ref f) H1
theorem pe_lamN {T : List NTab} {nm : Nat → Nat → Str} {c P : Addr} {params : Arguments} {body : Expr} {scope : Scope} {pos : Pos} (TB : TabB X.base X.mg c P) (hcode : X.env.code = .ref c) (hm : (P, nm) ∈ T) (hn : nm pos.line pos.col = X.env.qual ++ "<lambda>")
    (hu : ∀ p ∈ T, p.1 = P → p.2 = nm) (hfree : ∀ y ∈ scope.names, y.2 = .free → X.env.scope.names.lookup y.1 = some .cell ∨ X.env.scope.names.lookup y.1 = some .free) (hdef : defaultsOf params X.env = ([], [])) :
    PE X (.Lambda params body scope pos) (tLamN T (fun c' => ⟨"<lambda>", X.env.qual ++ "<lambda>", params, [], scope, cloFrom X.env.cells scope.names [], c'⟩) body) := by
  refine ⟨fun pins s σ H Q I h => ?_⟩
  obtain ⟨hT, h⟩ := h
  have hfr : ∀ y ∈ scope.names, y.2 = .free → ∃ c, X.env.cells.lookup y.1 = some c := fun y hy e => (hfree y hy e).elim (fun z => I.ok.has _ (.inl z)) fun z => I.ok.has _ (.inr z)
  obtain ⟨ps, hP, ht, hall⟩ := (show TabN H P nm from hT _ hm)
  refine PySem.W.kla_eval hdef ?_
  have bP : s.heap.BuiltinsAt X.mg P := TB.bm.keeps I.bk
  have oP : s.heap.get? P = some { cls := .none, data := .fields ps } := I.hok P _ hP
  cases hc : codeAmong pos ps.toList with
  | some cv =>
    obtain ⟨c', rfl, hco⟩ := hall pos cv hc
    rw [hn] at hco
    refine PySem.W.kla_makeFunctionHit (mg := X.mg) (c := c) (P := P) (ps := ps) (closure_ok hfr) I.ok.glob (I.mod.glob.keeps I.bk) hcode (TB.code.keeps I.bk) oP ht hc bP fun ctv h' tk hx hsz => ?_
    have I1 : Inv X pins σ H { s with heap := h', toks := tk } := I.kept hx
    have nF : H h'.objs.size = none := I1.hok.fresh (Nat.le_refl _)
    have I2 := inv_lam (F := ⟨"<lambda>", X.env.qual ++ "<lambda>", params, [], scope, cloFrom X.env.cells scope.names [], c'⟩) (ex := body) (t' := tk) (pm := (X.mg "__name__").getD .none) (ctv := ctv) I1 rfl
    refine ⟨.ref _, _, I2, rfl, h _ c' _ (fun b o e n => ?_) (fun b e => upd_none e) (hT.ext fun b o e => ?_) nF upd_same ?_⟩
    · rw [upd_ne (ne_of_none e nF)]; exact e
    · rw [upd_ne (ne_of_none e nF)]; exact e
    · rw [upd_ne (ne_of_none hco nF)]; exact hco
  | none =>
    refine PySem.W.kla_makeFunction (mg := X.mg) (c := c) (P := P) (ps := ps) (closure_ok hfr) I.ok.glob (I.mod.glob.keeps I.bk) hcode (TB.code.keeps I.bk) oP ht hc TB.gP bP fun c' ctv h' tk hx hge hlt hrec htb => ?_
    obtain ⟨c2, oc, vs, t, e2, hoc, hd, hv⟩ := hrec
    cases e2
    have nC : H c' = none := I.hok.fresh hge
    have I1 := inv_table (t' := tk) (more := #[rawInt pos.line, rawInt pos.col, .ref c']) (h' := h') I hP (fun b o hb e => hx b o hb e) htb hge ⟨oc, vs, t, hoc, hd, hv⟩
    have nF := I1.hok.fresh (Nat.le_refl _)
    have I2 := inv_lam (F := ⟨"<lambda>", X.env.qual ++ "<lambda>", params, [], scope, cloFrom X.env.cells scope.names [], c'⟩) (ex := body) (t' := tk) (pm := (X.mg "__name__").getD .none) (ctv := ctv) I1 rfl
    have keep : ExtN H (upd (upd H P (.tbl (ps ++ #[rawInt pos.line, rawInt pos.col, .ref c']))) c' (CodeO c' (X.env.qual ++ "<lambda>"))) := fun b o e n => by
      have n1 : b ≠ c' := ne_of_none e nC
      have n2 : b ≠ P := fun z => n ps (by rw [z, hP] at e; exact (Option.some.inj e).symm)
      rw [upd_ne n1, upd_ne n2]; exact e
    have eL : (ps ++ #[rawInt pos.line, rawInt pos.col, .ref c']).toList = ps.toList ++ [rawInt pos.line, rawInt pos.col, .ref c'] := by simp
    have T1 : TabsN T (upd (upd H P (.tbl (ps ++ #[rawInt pos.line, rawInt pos.col, .ref c']))) c' (CodeO c' (X.env.qual ++ "<lambda>"))) := fun p hp => by
      by_cases hb : p.1 = P
      · rw [hu p hp hb, hb]
        refine ⟨_, (upd_ne (ne_of_none hP nC)).trans upd_same, by rw [eL]; exact PySem.TriplesOk_snoc _ _ _ _ ht, fun p' cv hcv => ?_⟩
        rw [eL] at hcv
        rcases among_app2 _ ht hcv with z | ⟨z, z1, z2⟩
        · obtain ⟨c0, e1, e3⟩ := hall p' cv z
          exact ⟨c0, e1, keep _ _ e3 codeO_ne⟩
        · exact ⟨c', z, by rw [← z1, ← z2, hn]; exact upd_same⟩
      · obtain ⟨ps', a1, a2, a3⟩ := hT p hp
        refine ⟨ps', (upd_ne (ne_of_none a1 nC)).trans ((upd_ne hb).trans a1), a2, fun p' cv hcv => ?_⟩
        obtain ⟨c0, e1, e3⟩ := a3 p' cv hcv
        exact ⟨c0, e1, keep _ _ e3 codeO_ne⟩
    refine ⟨.ref _, _, I2, rfl, h _ c' _ (fun b o e n => ?_) (fun b e => upd_none (upd_none (upd_none e))) (T1.ext fun b o e => ?_) (I.hok.fresh (Nat.le_trans hge (Nat.le_of_lt hlt))) upd_same ?_⟩
    · have e1 := keep b o e n
      rw [upd_ne (ne_of_none e1 nF)]; exact e1
    · rw [upd_ne (ne_of_none e nF)]; exact e
    · exact (upd_ne (Nat.ne_of_lt hlt)).trans upd_same
end

/-! ### what a function handed over promises: run at any state whose captured cells hold ws -/
structure CalOk (P : Program) (w : World) (K : PySem.W.Frag) (mg : Str → Option Value) (base : Heap) (k : Nat) (f : Addr) (o : HO) (F : NF) (fr : List Str) (ws : List (Option V)) (sp : Sp) : Prop where
  fn : ∀ (H : Hp) (h : Heap), HOk P w H h → H f = some o → PySem.W.FnAt f h
  run : ∀ (A : Around) (outer : List Env) (s : Shared) (H : Hp) (us : List Value) (vs : List V) (Q : VK), Room k A → Env0 P w K mg base A outer s H → H f = some o → H F.c = some (CodeO F.c F.qual) →
    CellsAt F.cl fr ws s.heap H → Vals vs us → sp vs H Q E0 → codeAny (model P w) A (.call (.ref f) ⟨us, []⟩) (CR CX0 outer P w H s Q E0) s
section
variable {P : Program} {w : World} {K : PySem.W.Frag} {mg : Str → Option Value} {base : Heap} {N ps fr : List Str} {F : NF} {f : Addr} {k j : Nat} {sp : Sp} {ws : List (Option V)} {ex : Expr}
/-- a nested def -/
theorem cal_ndef {spw : List (Option V) → Sp} (o : NOk P w K mg base CX0 k f F ps fr spw) : CalOk P w K mg base k f (FnO f F) F fr ws (spw ws) where
  fn := fun H h hok e => by
    obtain ⟨od, sl, doc, pm, ctv, ho⟩ := fnO_at hok e
    exact ⟨_, od, _, sl, ho⟩
  run := fun A outer s H us vs Q hr e0 hf hc C r q => o.run A outer s H us vs ws Q E0 hr e0 hf hc C r q
/-- a lambda by its body -/
theorem cal_lam (S : NScope N ps fr F.scope) (hb : ∀ (pm ctv : Value) (us : List Value), us.length = ps.length → bindArgs (PySem.W.kla_fn F.name F.qual F.params ex F.scope F.cl pm (.ref F.c) ctv) ⟨us, []⟩ = pure (ps.zip us))
    (len : ∀ vs H Q, sp vs H Q E0 → vs.length = ps.length)
    (hbody : ∀ (A : Around) (outer : List Env) (s : Shared) (H : Hp) (vs : List V) (Q : VK), Room k (A.deeper (envF F f s.heap.objs.size)) → H f = some (LamO f F ex) → sp vs H Q E0 →
      ∃ t, PE (ncx CX0 P w K mg base N F f A outer s H E0).nox ex t ∧ t (startF N vs ws) H Q) :
    CalOk P w K mg base (k + 1) f (LamO f F ex) F fr ws sp where
  fn := fun H h hok e => by
    obtain ⟨pm, ctv, ho⟩ := lamO_at hok e
    exact ⟨_, _, _, _, ho⟩
  run := fun A outer s H us vs Q hr e0 hf hc C r hsp => by
    have hl := len _ _ _ hsp
    have lim : s.heap.NoLimit := e0.mod.nolimit.keeps fun b o e => (e0.bs b o e).1
    obtain ⟨pm, ctv, ho⟩ := lamO_at e0.hok hf
    refine PySem.W.kla_callFunE hr.depth ho rfl S.co S.gen rfl (codeO_at e0.hok hc) ?_
    rw [hb pm ctv us (by rw [← r.length]; exact hl)]
    refine wpAny_pure (wpAny_newFunctionEnv S.nocell (fun ⟨n, _⟩ hy => S.par n (List.of_mem_zip hy).1) (fun h₁ hns hsb => ⟨lim.fresh _ hsb, ?_⟩) S.kind)
    refine PySem.W.kla_codeExpr ?_
    have kp : ∀ b o, s.heap.get? b = some o → h₁.get? b = some o := fun b o e => hsb.extBut b o (Nat.ne_of_lt (Heap.lt_size e)) (Heap.get?_push_of_some _ e)
    obtain ⟨t, ht, hq⟩ := hbody A outer s H vs Q (hr.deeper _) hf hsp
    have I : Inv (ncx CX0 P w K mg base N F f A outer s H E0) [] (startF N vs ws) H { s with heap := h₁, toks := s.toks + (ps.zip us).length } := inv_startN S hr.hd e0 hl r C hns kp
    refine wpAny_mono (ht.nox.run [] _ (startF N vs ws) H _ I hq) (fun u s' hs => ?_) fun e s' hs => hs
    obtain ⟨v, H', J, rv, q⟩ := hs
    exact ⟨v, H', J.os, J.bare, J.base, J.hok, rv, q⟩
end

/-! ### x(..), x a parameter that holds such a function; the cells stood at the def's entry -/
def tCal (f : Addr) (o : HO) (F : NF) (sp : Sp) (i : Nat) (t : TA) : TE := fun σ H Q => σ[i]? = some (some (.ref f)) ∧ H f = some o ∧ t σ H fun vs H1 => H1 f = some o ∧ H1 F.c = some (CodeO F.c F.qual) ∧ sp vs H1 Q E0
section
variable {X : Cx} {f : Addr} {o : HO} {F : NF} {fr : List Str} {ws : List (Option V)} {sp : Sp} {k i : Nat} {x : Str} {t : TA} {e : Expr} {es : List Expr} {p pos : Pos}
theorem pe_cal (Fn : CalOk X.prog X.w X.K X.mg X.base k f o F fr ws sp) (C : CellsAt F.cl fr ws X.s_0.heap X.H_0) (nf : ∀ y c, F.cl.lookup y = some c → c ∉ X.fs) (hex : X.ex = []) (hr : Room k X.A) (hN : X.N[i]? = some x) (hv : Vis X.env.scope x) (ha : PA X (e :: es) t)
    (hd : (x == ("__debug__" : Str)) = false := by decide) (hcd : (x == ("__classdict__" : Str)) = false := by decide)
    (he : starEach (e :: es) X.env = (false, eval e X.env) :: starEach es X.env := by rfl) (hpl : (backTo pos (starEach es X.env)).any (·.1) = false := by rfl) :
    PE X (.Call (.Name x p) (e :: es) [] pos) (tCal f o F sp i t) := by
  refine ⟨fun pins s σ H Q I h => ?_⟩
  obtain ⟨hs, hf, ht⟩ := h
  refine wpAny_Call_Name_kw (thn ((pe_var (pos := p) hN hv hd hcd).run pins s σ H (fun v H1 => v = .ref f ∧ H1 = H) I ⟨.ref f, hs, rfl, rfl⟩) fun u s1 ⟨v, H1, I1, r1, ev, eH⟩ => ?_)
  subst ev
  rw [eH] at I1
  have eu : u = Value.ref f := r1
  subst eu
  refine PySem.W.callWith_F (first := []) (Fn.fn _ _ I1.hok hf) (thn (ha.run pos pins s1 σ H _ I1 ht) fun us s2 ⟨vs, H2, I2, r, h1, h2, q⟩ => ⟨Fn.fn _ _ I2.hok h1, ?_⟩) he hpl
  have C2 : CellsAt F.cl fr ws s2.heap H2 := C.later nf (fun y c _ => by rw [hex]; simp) I2
  refine wpAny_call (codeAny_mono (Fn.run X.A X.stack s2 H2 us vs Q hr I2.env0 h1 h2 C2 r q) fun r s' hq => ?_)
  cases r with
  | error e => exact False.elim hq
  | ok fl =>
    cases fl with
    | ret u => exact I2.after hq
    | next => exact False.elim hq
    | brk => exact False.elim hq
    | cont => exact False.elim hq
end

/-! ### defs whose promise leans on the state at the call (what the cells of a function handed over hold) -/
structure FnOkG (P : Program) (w : World) (K : PySem.W.Frag) (mg : Str → Option Value) (base : Heap) (k : Nat) (f : Addr) (fd : FuncData) (ps : List Str) (G : List Env → Shared → Hp → Prop) (sp : Sp) : Prop where
  len : ∀ vs H Q, sp vs H Q E0 → vs.length = ps.length
  run : ∀ (A : Around) (outer : List Env) (s : Shared) (H : Hp) (args : Args) (us : List Value) (vs : List V) (Q : VK), Room k A → Env0 P w K mg base A outer s H → BindsTo s fd args (ps.zip us) → Vals vs us → G outer s H → sp vs H Q E0 →
    codeAny (model P w) A (.call (.ref f) args) (CR CX0 outer P w H s Q E0) s
section
variable {P : Program} {w : World} {K : PySem.W.Frag} {mg : Str → Option Value} {base : Heap} {x qual : Str} {st : Stmt} {dvs : List V} {f : Addr} {fd : FuncData} {N ps : List Str} {k : Nat} {sp : Sp} {G : List Env → Shared → Hp → Prop}
theorem fnG_of (F : FunD K x qual (defArgs st) (defBody st) (defScope st) dvs [] f fd) (S : FnScope N ps (defScope st)) (len : ∀ vs H Q, sp vs H Q E0 → vs.length = ps.length)
    (hbody : ∀ (cdv : Value) (A : Around) (outer : List Env) (s : Shared) (H : Hp) (vs : List V) (Q : VK), Room k (A.deeper (envOfC qual (defScope st) s.heap.objs.size f cdv)) → G outer s H → sp vs H Q E0 →
      ∃ t, PSs (cxOf CX0 P w K mg base N qual (defScope st) f cdv A outer s H E0) (defBody st) t ∧ t { nx := fun _ H' => Q .non H', rt := Q } (L2.start N vs) H) : FnOkG P w K mg base (k + 1) f fd ps G sp := by
  obtain ⟨oc, od, dV, kV, doc, pm, an, cdv, ct, osl, rfl, lk, hcd, _, _⟩ := F.ex
  exact ⟨len, fun A outer s H args us vs Q hr e0 hb r hG h => run_ofS lk hcd S hr e0 hb r (len _ _ _ h) fun hr' => hbody cdv A outer s H vs Q hr' hG h⟩
end
section
variable {X : Cx} {ι : Type} {k : Nat} {f : Addr} {fd : FuncData} {ps : List Str} {sp : ι → Sp} {G : ι → List Env → Shared → Hp → Prop} {C : ι → L2.St → Hp → Prop} {dvs : List V} {ds : List Value} {x : Str} {p pos : Pos} {e : Expr} {es : List Expr} {t : TA}
def tCallG (sp : ι → Sp) (C : ι → L2.St → Hp → Prop) (dvs : List V) (t : TA) : TE := fun σ H Q => t σ H fun vs H1 => ∃ z, C z σ H1 ∧ sp z (vs ++ dvs) H1 Q E0
theorem pe_callG (F : ∀ z, FnOkG X.prog X.w X.K X.mg X.base k f fd ps (G z) (sp z)) (hG : ∀ z pins σ H s, Inv X pins σ H s → C z σ H → G z X.stack s H) (hr : Room k X.A) (hg : Gl X x) (hm : X.mg x = some (.ref f)) (hk : PySem.W.keepIn X.K (.ref f) = true)
    (hb : Binds X.K fd ps ds) (hd : Vals dvs ds) (ha : PA X (e :: es) t) (hdb : (x == ("__debug__" : Str)) = false := by decide)
    (he : starEach (e :: es) X.env = (false, eval e X.env) :: starEach es X.env := by rfl) (hpl : (backTo pos (starEach es X.env)).any (·.1) = false := by rfl) : PE X (.Call (.Name x p) (e :: es) [] pos) (tCallG sp C dvs t) := by
  refine ⟨fun pins s σ H Q I h => ?_⟩
  refine wpAny_Call_Name_kw (ld_glob I hg hm ?_ hdb)
  refine PySem.W.callWith_K (h₀ := X.base) I.ok.mod.kin hk (thn (ha.run pos pins s σ H _ I h) fun us s1 ⟨vs, H1, I1, r, z, hC, q⟩ => ⟨I1.kIn, ?_⟩) he hpl
  have r2 : Vals (vs ++ dvs) (us ++ ds) := r.append hd
  have hl : (us ++ ds).length = ps.length := by rw [← r2.length]; exact (F z).len _ _ _ q
  show wpAny _ _ (call (.ref f) us) _ _ _
  refine wpAny_call (codeAny_mono ((F z).run X.A X.stack s1 H1 ⟨us, []⟩ (us ++ ds) (vs ++ dvs) Q hr I1.env0 (hb s1 us I1.kIn hl) r2 (hG z pins σ H1 s1 I1 hC) q) fun r' s' hq => ?_)
  cases r' with
  | error e => exact False.elim hq
  | ok fl =>
    cases fl with
    | ret u => exact I1.after hq
    | next => exact False.elim hq
    | brk => exact False.elim hq
    | cont => exact False.elim hq
/-- the cells of the running frame are no frames of those that run -/
theorem cells_nofr {pins : List (Addr × Obj)} {σ : L2.St} {H : Hp} {s : Shared} (I : Inv X pins σ H s) (hfn : ∀ y, X.fn y = true) {y : Str} {c : Addr} (e : X.env.cells.lookup y = some c) : c ∉ frs X.stack := fun z => by
  rcases List.mem_cons.mp (I.stkSub _ z) with h | h
  · exact I.cne y c e h
  · obtain ⟨_, o, ho, _⟩ := I.ok.funs.mem h
    exact absurd (Nat.lt_of_lt_of_le (Heap.lt_size ho) (I.ok.cab y c (hfn y) e)) (Nat.lt_irrefl _)
end
end J
/-! explored. -/
namespace J
open PySem PySem.Spec PyProof.Rows L2 LamX NdefX
abbrev Ed := (PySem.Str × Int) × Stand
def eEd (m : Ed) : PyData := .tuple [.tuple [.str m.1.1, .int m.1.2], eStand m.2]
abbrev Nd := Stand × Addr × List Ed
def tabKv (nodes : List Nd) : List (List Key × V) := nodes.map fun e => (kSt e.1, V.ref e.2.1)
/-- a table: its nodes, their lists -/
def TabAt (H : Hp) (tb : Addr) (nodes : List Nd) : Prop := H tb = some (.dT (tabKv nodes)) ∧ (nodes.map (·.2.1)).Nodup ∧ ∀ e ∈ nodes, ∃ es, H e.2.1 = some (.lst es) ∧ SdAll H es (e.2.2.map eEd)
theorem kSt_inj {u v : Stand} (h : kSt u = kSt v) : u = v := by
  obtain ⟨a, b, c, d⟩ := u
  obtain ⟨a', b', c', d'⟩ := v
  injection h with h1 h
  injection h with h2 h
  injection h with h3 h
  injection h with h4 _
  have e1 : a = a' := Sum.inr.inj h1
  have e2 : b = b' := Sum.inr.inj h2
  have e3 : c = c' := Sum.inl.inj h3
  have e4 : d = d' := Sum.inl.inj h4
  rw [e1, e2, e3, e4]
theorem valV_tab : ∀ (nodes : List Nd) (u : Stand), valV (tabKv nodes) (kSt u) = (JM.look (nodes.map fun e => (e.1, e.2.1)) u).map V.ref
  | [], u => rfl
  | e :: r, u => by
    show valV ((kSt e.1, V.ref e.2.1) :: tabKv r) (kSt u) = (JM.look ((e.1, e.2.1) :: r.map fun e => (e.1, e.2.1)) u).map V.ref
    rw [valV_cons, JM.look_cons, valV_tab r u]
    by_cases c : e.1 = u
    · rw [if_pos c, if_pos (by rw [c])]; rfl
    · rw [if_neg c, if_neg fun z => c (kSt_inj z)]
theorem tab_none {nodes : List Nd} {u : Stand} : valV (tabKv nodes) (kSt u) = none ↔ u ∉ nodes.map (·.1) := by
  rw [valV_tab]
  constructor
  · intro h m
    obtain ⟨e, he, rfl⟩ := List.mem_map.mp m
    cases hl : JM.look (nodes.map fun e => (e.1, e.2.1)) e.1 with
    | some a => rw [hl] at h; cases h
    | none => exact JM.look_none.mp hl e.2.1 (List.mem_map.mpr ⟨e, he, rfl⟩)
  · intro h
    rw [JM.look_none.mpr fun x hx => h ?_]
    · rfl
    · obtain ⟨e, he, e2⟩ := List.mem_map.mp hx
      exact List.mem_map.mpr ⟨e, he, congrArg Prod.fst e2⟩
theorem tab_at {nodes : List Nd} (nd : (nodes.map (·.1)).Nodup) {e : Nd} (h : e ∈ nodes) : valV (tabKv nodes) (kSt e.1) = some (.ref e.2.1) := by
  rw [valV_tab, JM.look_mem (x := e.2.1) (by rw [List.map_map]; exact nd) (List.mem_map.mpr ⟨e, h, rfl⟩)]
  rfl
/-- every good stand is one of these -/
def allSt (W : JM.Wo PySem.Str) (S : List PySem.Str) : List Stand := S.flatMap fun a => W.words.flatMap fun b => (List.range 12).flatMap fun (i : Nat) => (List.range 24).map fun (j : Nat) => (a, (b, ((i : Int), (j : Int))))
theorem good_in {W : JM.Wo PySem.Str} (Kw : JM.WoOk W) {S : List PySem.Str} {u : Stand} (g : JM.Good W S u) : u ∈ allSt W S := by
  have m := Kw.m_le g.wd
  have i0 := g.i0
  have i1 := g.i1
  have j0 := g.j0
  have j1 := g.j1
  refine List.mem_flatMap.mpr ⟨u.1, g.st, List.mem_flatMap.mpr ⟨u.2.1, g.wd, List.mem_flatMap.mpr ⟨u.2.2.1.toNat, List.mem_range.mpr (by omega), List.mem_map.mpr ⟨u.2.2.2.toNat, List.mem_range.mpr (by omega), ?_⟩⟩⟩⟩
  rw [Int.toNat_of_nonneg i0, Int.toNat_of_nonneg (by omega)]
theorem flat_len {α β : Type} (f : α → List β) (k : Nat) : ∀ l : List α, (∀ x ∈ l, (f x).length = k) → (l.flatMap f).length = l.length * k
  | [], _ => by simp
  | a :: l, h => by
    rw [List.flatMap_cons, List.length_append, h a (List.mem_cons_self ..), flat_len f k l fun x hx => h x (List.mem_cons_of_mem _ hx), List.length_cons, Nat.add_mul]
    omega
theorem allSt_len (W : JM.Wo PySem.Str) (S : List PySem.Str) : (allSt W S).length = S.length * (W.words.length * 288) := by
  refine flat_len _ _ _ fun a _ => flat_len _ _ _ fun b _ => ?_
  rw [flat_len _ 24 _ fun i _ => by rw [List.length_map, List.length_range], List.length_range]
theorem good_len {W : JM.Wo PySem.Str} (Kw : JM.WoOk W) {S : List PySem.Str} (hS : S.length ≤ 3) (hw : W.words.length ≤ 2) {l : List Stand} (nd : l.Nodup) (g : ∀ u ∈ l, JM.Good W S u) : l.length ≤ 1728 := by
  have h := nodup_len nd fun u hu => good_in Kw (g u hu)
  rw [allSt_len] at h
  have := Nat.mul_le_mul hS (Nat.mul_le_mul_right 288 hw)
  omega
theorem MachOk.few {n : Int} {ws : List (PySem.Str × List Row)} {o : RsO} (m : MachOk n ws o) : (statesOf o).length ≤ 3 := by
  cases o with
  | none => decide
  | some rs => show (rs.map (·.1)).length ≤ 3; rw [List.length_map]; exact m.1.few.2
/-- what a table keeps -/
structure TabOk (W : JM.Wo PySem.Str) (S : List PySem.Str) (steps : PySem.Str → List Tri) (firsts : List Stand) (nodes : List Nd) : Prop where
  nd : (nodes.map (·.1)).Nodup
  good : ∀ e ∈ nodes, JM.Good W S e.1
  first : ∀ u ∈ firsts, u ∈ nodes.map (·.1)
  closed : ∀ e ∈ nodes, JM.Closed e.1 → e.2.2 = []
  edges : ∀ e ∈ nodes, ¬ JM.Closed e.1 → ∀ f, (∃ k, (k, f) ∈ e.2.2) ↔ ∃ s ∈ steps e.1.1, W.behind e.1 s = some f
  inn : ∀ e ∈ nodes, ∀ x ∈ e.2.2, x.2 ∈ nodes.map (·.1)
  elen : ∀ e ∈ nodes, e.2.2.length ≤ 720
section
variable {P : Program} {w : World} {K : PySem.W.Frag} {mg : Str → Option Value} {base : Heap}
/-- a function handed over that tells the moves, and what it leans on -/
structure Mz where
  f : Addr
  o : HO
  F : NF
  fr : List PySem.Str
  cs : List (Option V)
  b : V
  st : V
  n : Int
  span : Int
  ws : List (PySem.Str × List Row)
  fd : Addr
  mo : RsO
def Mz.W (z : Mz) : JM.Wo PySem.Str := woOf z.n z.span z.ws
def Mz.S (z : Mz) : List PySem.Str := statesOf z.mo
def Mz.steps (z : Mz) : PySem.Str → List Tri := stepsF z.n z.span z.ws z.mo
/-- the board, its steps, the function itself -/
structure MzAt (T : Wd K mg) (z : Mz) (H : Hp) : Prop where
  bd : BoardAt T H z.b z.n z.span z.ws z.fd
  fo : FoundAt z.W (H z.fd)
  sts : StepsAt H z.st z.n z.span z.ws z.mo
  mok : MachOk z.n z.ws z.mo
  fn : H z.f = some z.o
  co : H z.F.c = some (CodeO z.F.c z.F.qual)
  no : ¬ Gone z.o
theorem MzAt.ke {T : Wd K mg} {z : Mz} {H H' : Hp} (h : MzAt T z H) (k : Ke H H') (f : FoundAt z.W (H' z.fd)) : MzAt T z H' :=
  ⟨h.bd.ke k, f, h.sts.ke k, h.mok, k _ _ h.fn h.no, k.ext h.co, h.no⟩
theorem MzAt.sx {T : Wd K mg} {z : Mz} {H H' : Hp} (h : MzAt T z H) (k : SameX z.fd H H') (f : FoundAt z.W (H' z.fd)) : MzAt T z H' := h.ke (h.fo.ke k) f
def sp_mv (T : Wd K mg) (z : Mz) : Sp := fun vs H Q _ => ∃ (v : V) (u : Stand), vs = [v] ∧ MzAt T z H ∧ Sd H v (eStand u) ∧ JM.Good z.W z.S u ∧
  ∀ (H' : Hp) (p : Addr) (L : List Tri), H p = none → SameX z.fd H H' → FoundAt z.W (H' z.fd) → LAt eMv H' (.ref p) (L.map fun s => ((s.1, s.2.1), z.W.behind u s)) → L.length ≤ 720 → (∀ s, s ∈ L ↔ s ∈ z.steps u.1) → Q (.ref p) H'
abbrev MzOk (P : Program) (w : World) (base : Heap) (T : Wd K mg) (z : Mz) : Prop := CalOk P w K mg base 7 z.f z.o z.F z.fr z.cs (sp_mv T z)
def MzG (z : Mz) : List Env → Shared → Hp → Prop := fun outer s H => CellsAt z.F.cl z.fr z.cs s.heap H ∧ ∀ y c, z.F.cl.lookup y = some c → c ∉ frs outer
def sp_explored (T : Wd K mg) (z : Mz) : Sp := fun vs H Q _ => ∃ (v : V) (firsts : List Stand), vs = [v, .ref z.f, .ref T.is_closed.f, .non] ∧ MzAt T z H ∧ LAt eStand H v firsts ∧ (∀ u ∈ firsts, JM.Good z.W z.S u) ∧
  ∀ (H' : Hp) (tb : Addr) (nodes : List Nd), SameX z.fd H H' → FoundAt z.W (H' z.fd) → H tb = none → TabAt H' tb nodes → (∀ e ∈ nodes, H e.2.1 = none) → TabOk z.W z.S z.steps firsts nodes → Q (.ref tb) H'
/-- the state of the walk -/
structure ExI (z : Mz) (H0 H : Hp) (tb wl : Addr) (nodes : List Nd) : Prop where
  k : SameX z.fd H0 H
  fo : FoundAt z.W (H z.fd)
  tab : TabAt H tb nodes
  wai : ∃ us, H wl = some (.lst us) ∧ SdAll H us (nodes.map fun e => eStand e.1)
  ntb : H0 tb = none
  nwl : H0 wl = none
  nn : ∀ e ∈ nodes, H0 e.2.1 = none ∧ e.2.1 ≠ wl
  nd : (nodes.map (·.1)).Nodup
  good : ∀ e ∈ nodes, JM.Good z.W z.S e.1
theorem ExI.ftb {z : Mz} {H0 H : Hp} {tb wl : Addr} {nodes : List Nd} (I : ExI z H0 H tb wl nodes) (hf : H0 z.fd ≠ none) : tb ≠ z.fd := fun e => hf (e ▸ I.ntb)
/-- the heap grows, or what is found does -/
theorem ExI.mv {z : Mz} {H0 H H' : Hp} {tb wl : Addr} {nodes : List Nd} (I : ExI z H0 H tb wl nodes) (hf : H0 z.fd ≠ none) (k : SameX z.fd H H') (f : FoundAt z.W (H' z.fd)) : ExI z H0 H' tb wl nodes := by
  have ft : Ft H H' := (I.fo.ke k).ft
  obtain ⟨us, h1, h2⟩ := I.wai
  refine ⟨I.k.trans k, f, ⟨k _ _ (fun e => hf (e ▸ I.ntb)) I.tab.1, I.tab.2.1, fun e he => ?_⟩, ⟨us, k _ _ (fun e => hf (e ▸ I.nwl)) h1, h2.mt ft⟩, I.ntb, I.nwl, I.nn, I.nd, I.good⟩
  obtain ⟨es, a, b⟩ := I.tab.2.2 e he
  exact ⟨es, k _ _ (fun z' => hf (z' ▸ (I.nn e he).1)) a, b.mt ft⟩
theorem ExI.new {z : Mz} {H0 H : Hp} {tb wl p : Addr} {o : HO} {nodes : List Nd} (I : ExI z H0 H tb wl nodes) (hf : H0 z.fd ≠ none) (n : H p = none) : ExI z H0 (upd H p o) tb wl nodes := by
  have np : z.fd ≠ p := fun e => by
    obtain ⟨kv, q, _⟩ := I.fo
    rw [e, n] at q
    cases q
  exact I.mv hf (samex_new n) (by rw [upd_ne np]; exact I.fo)
theorem putK_tab {nodes : List Nd} {u : Stand} {p : Addr} (h : u ∉ nodes.map (·.1)) : putK (tabKv nodes) (kSt u) (.ref p) = tabKv (nodes ++ [(u, p, [])]) := by
  rw [putK_new _ (tab_none.mpr h)]
  unfold tabKv
  rw [List.map_append]
  rfl
/-- a node more: its list, its entry, its place among those that wait -/
theorem ExI.add {z : Mz} {H0 H : Hp} {tb wl p : Addr} {nodes : List Nd} {u : Stand} {v : V} {us : List V} (I : ExI z H0 H tb wl nodes) (hf : H0 z.fd ≠ none) (n : H p = none) (hv : Sd H v (eStand u)) (hu : u ∉ nodes.map (·.1)) (hg : JM.Good z.W z.S u) (hw : H wl = some (.lst us)) :
    ExI z H0 (upd (upd (upd H p (.lst [])) tb (.dT (tabKv (nodes ++ [(u, p, [])])))) wl (.lst (us ++ [v]))) tb wl (nodes ++ [(u, p, [])]) := by
  have npf : p ≠ z.fd := fun e => by
    obtain ⟨kv, q, _⟩ := I.fo
    rw [← e, n] at q
    cases q
  have p0 : H0 p = none := I.k.free npf n
  have ntf := I.ftb hf
  have nwf : wl ≠ z.fd := fun e => hf (e ▸ I.nwl)
  have ntw : tb ≠ wl := fun e => by
    have := I.tab.1
    rw [e, hw] at this
    cases this
  have npt : p ≠ tb := fun e => by
    have := I.tab.1
    rw [← e, n] at this
    cases this
  have npw : p ≠ wl := fun e => by rw [e, hw] at n; cases n
  have ft : Ft H (upd (upd (upd H p (.lst [])) tb (.dT (tabKv (nodes ++ [(u, p, [])])))) wl (.lst (us ++ [v]))) := fun b xs e => by
    rw [upd_ne (ne_of e hw fun z => nomatch z), upd_ne (ne_of e I.tab.1 fun z => nomatch z), upd_ne (ne_of_none e n)]
    exact e
  refine ⟨fun b o nb e => ?_, ?_, ⟨?_, ?_, fun e he => ?_⟩, ⟨us ++ [v], upd_same, ?_⟩, I.ntb, I.nwl, fun e he => ?_, ?_, fun e he => ?_⟩
  · rw [upd_ne (ne_of_none e I.nwl), upd_ne (ne_of_none e I.ntb), upd_ne (ne_of_none e p0)]
    exact I.k b o nb e
  · rw [upd_ne (fun e => nwf e.symm), upd_ne (fun e => ntf e.symm), upd_ne (fun e => npf e.symm)]
    exact I.fo
  · rw [upd_ne ntw, upd_same]
  · rw [List.map_append]
    refine nd_snoc I.tab.2.1 fun m => ?_
    obtain ⟨e, he, e2⟩ := List.mem_map.mp m
    obtain ⟨es, a, _⟩ := I.tab.2.2 e he
    have e3 : e.2.1 = p := e2
    rw [e3, n] at a
    cases a
  · rcases List.mem_append.mp he with h | h
    · obtain ⟨es, a, b⟩ := I.tab.2.2 e h
      exact ⟨es, by rw [upd_ne (I.nn e h).2, upd_ne (ne_of a I.tab.1 fun z => nomatch z), upd_ne (ne_of_none a n)]; exact a, b.mt ft⟩
    · rw [List.mem_singleton.mp h]
      exact ⟨[], by rw [upd_ne npw, upd_ne npt, upd_same], .nil⟩
  · rw [List.map_append]
    obtain ⟨us', h1, h2⟩ := I.wai
    rw [hw] at h1
    cases h1
    exact (h2.mt ft).snoc (hv.mt ft)
  · rcases List.mem_append.mp he with h | h
    · exact I.nn e h
    · rw [List.mem_singleton.mp h]
      exact ⟨p0, npw⟩
  · rw [List.map_append]
    exact nd_snoc I.nd hu
  · rcases List.mem_append.mp he with h | h
    · exact I.good e h
    · rw [List.mem_singleton.mp h]
      exact hg
/-- an edge more -/
theorem ExI.edge {z : Mz} {H0 H : Hp} {tb wl : Addr} {pre post : List Nd} {e0 : Nd} {x : Ed} {v : V} {es : List V} (I : ExI z H0 H tb wl (pre ++ e0 :: post)) (hf : H0 z.fd ≠ none) (hv : Sd H v (eEd x)) (he : H e0.2.1 = some (.lst es)) :
    ExI z H0 (upd H e0.2.1 (.lst (es ++ [v]))) tb wl (pre ++ (e0.1, e0.2.1, e0.2.2 ++ [x]) :: post) := by
  have hm0 : e0 ∈ pre ++ e0 :: post := List.mem_append_right _ (List.mem_cons_self ..)
  have n0 := I.nn e0 hm0
  have nf : e0.2.1 ≠ z.fd := fun e => hf (e ▸ n0.1)
  have nt : tb ≠ e0.2.1 := fun e => by
    have := I.tab.1
    rw [e, he] at this
    cases this
  have ft : Ft H (upd H e0.2.1 (.lst (es ++ [v]))) := ft_upd he fun _ z => nomatch z
  have e1 : (pre ++ (e0.1, e0.2.1, e0.2.2 ++ [x]) :: post).map (·.1) = (pre ++ e0 :: post).map (·.1) := by rw [List.map_append, List.map_append]; rfl
  have e2 : (pre ++ (e0.1, e0.2.1, e0.2.2 ++ [x]) :: post).map (·.2.1) = (pre ++ e0 :: post).map (·.2.1) := by rw [List.map_append, List.map_append]; rfl
  have e3 : tabKv (pre ++ (e0.1, e0.2.1, e0.2.2 ++ [x]) :: post) = tabKv (pre ++ e0 :: post) := by unfold tabKv; rw [List.map_append, List.map_append]; rfl
  have e4 : (pre ++ (e0.1, e0.2.1, e0.2.2 ++ [x]) :: post).map (fun e => eStand e.1) = (pre ++ e0 :: post).map (fun e => eStand e.1) := by rw [List.map_append, List.map_append]; rfl
  have back : ∀ e ∈ pre ++ (e0.1, e0.2.1, e0.2.2 ++ [x]) :: post, e = (e0.1, e0.2.1, e0.2.2 ++ [x]) ∨ (e ∈ pre ++ e0 :: post ∧ e.2.1 ≠ e0.2.1) := fun e he' => by
    have nd := I.tab.2.1
    rw [List.map_append, List.map_cons] at nd
    obtain ⟨d1, d2, d3⟩ := List.nodup_append.mp nd
    obtain ⟨d4, d5⟩ := List.nodup_cons.mp d2
    rcases List.mem_append.mp he' with h | h
    · exact .inr ⟨List.mem_append_left _ h, d3 _ (List.mem_map.mpr ⟨e, h, rfl⟩) _ (List.mem_cons_self ..)⟩
    · rcases List.mem_cons.mp h with h | h
      · exact .inl h
      · exact .inr ⟨List.mem_append_right _ (List.mem_cons_of_mem _ h), fun q => d4 (List.mem_map.mpr ⟨e, h, q⟩)⟩
  obtain ⟨us, h1, h2⟩ := I.wai
  refine ⟨fun b o nb e => ?_, by rw [upd_ne (fun e => nf e.symm)]; exact I.fo, ⟨by rw [upd_ne nt, e3]; exact I.tab.1, by rw [e2]; exact I.tab.2.1, fun e he' => ?_⟩, ⟨us, by rw [upd_ne (fun e => n0.2 e.symm)]; exact h1, by rw [e4]; exact h2.mt ft⟩, I.ntb, I.nwl, fun e he' => ?_, by rw [e1]; exact I.nd, fun e he' => ?_⟩
  · rw [upd_ne (ne_of_none e n0.1)]
    exact I.k b o nb e
  · rcases back e he' with rfl | ⟨h, hn⟩
    · refine ⟨es ++ [v], upd_same, ?_⟩
      obtain ⟨es', a, b⟩ := I.tab.2.2 e0 hm0
      rw [he] at a
      cases a
      show SdAll _ _ ((e0.2.2 ++ [x]).map eEd)
      rw [List.map_append]
      exact (b.mt ft).snoc (hv.mt ft)
    · obtain ⟨es', a, b⟩ := I.tab.2.2 e h
      exact ⟨es', (upd_ne hn).trans a, b.mt ft⟩
  · rcases back e he' with rfl | ⟨h, _⟩
    · exact n0
    · exact I.nn e h
  · rcases back e he' with rfl | ⟨h, _⟩
    · exact I.good e0 hm0
    · exact I.good e h
end
end J
/-! for k, v in d.items(), d a locked dict with tuple keys. -/
namespace J
open PySem PySem.Spec PyProof.Rows L2
theorem frzTV {X : Cx} {pins : List (Addr × Obj)} {σ : L2.St} {H : Hp} {s : Shared} {d : Addr} {o : Obj} {kvs : List (List Key × V)} (I : Inv X pins σ H s) (h : H d = some (.frz o (.dT kvs))) :
    (d == sysModules) = false ∧ s.heap.get? d = some o ∧ o.ExactDict ∧ ∃ (es : Array DictEntry) (ep : Nat), o.data = .dict es ep ∧ es.size = kvs.length ∧
      ∀ (i : Nat) (hi : i < es.size) (k : List Key) (v : V), kvs[i]? = some (k, v) → ∃ q : Addr, es[i].key = .ref q ∧ H q = some (.tup (k.map kV)) ∧ RelV v es[i].val := by
  obtain ⟨hd, z, hs, xs, pr, o', es, ep, ho, hx, hdt, he, _⟩ := I.hok d _ h
  rw [hd] at ho
  cases ho
  have l1 : es.size = xs.length := size_of_entries he
  refine ⟨hs, hd, hx, es, ep, hdt, by rw [l1]; exact (Paired.length pr).symm, fun i hi k v e => ?_⟩
  obtain ⟨b, hb, e1, e2, e3⟩ := paired_get pr e
  have q := entry_at he i
  rw [hb, Array.getElem?_eq_getElem hi] at q
  have q2 := Option.some.inj q
  rw [q2]
  exact ⟨b.2.1, rfl, e2, e3⟩
/-- the pairs of the locked dict at d, each a new tuple of the key's own tuple and the value -/
def ItiT (d : Addr) (o : Obj) (kvs : List (List Key × V)) : It :=
  ⟨fun i H => H d = some (.frz o (.dT kvs)) ∧ i < kvs.length, fun i H x H' => ∃ T q k v, kvs[i]? = some (k, v) ∧ x = .ref T ∧ H T = none ∧ H q = some (.tup (k.map kV)) ∧ H' = upd H T (.tup [.ref q, v]), fun i H => H d = some (.frz o (.dT kvs)) ∧ kvs.length ≤ i⟩
theorem turn_itemsT {P : Program} {w : World} {K : PySem.W.Frag} {d : Addr} {o : Obj} {es : Array DictEntry} {ep : Nat} {kvs : List (List Key × V)} {elts : List Expr} {kk : Nat} {tpos : Pos} (it : Addr) (hod : o.data = .dict es ep) :
    Turn P w K (.Tuple elts kk tpos) (ItiT d o kvs) [it] it (fun i h => ∃ ok ov, IsItemIter h it d i es.size ep ok ov) where
  mem := by simp
  obj := fun i h ⟨ok, ov, e⟩ b hb => by
    have eb : b = it := by simpa using hb
    subst eb
    exact ⟨_, e, fun v z => nomatch z⟩
  keep := fun i h h' ⟨ok, ov, e⟩ k => ⟨ok, ov, k it (by simp) _ e⟩
  item := by
    intro X hP hw hK hc i pins s σ H E I hf st hg
    subst hP hw hK
    obtain ⟨hd, hi⟩ := hg
    obtain ⟨hs, hgd, hx, es', ep', hdt, hsz, ent⟩ := frzTV I hd
    obtain ⟨rfl, rfl⟩ := dict_ep hod hdt
    obtain ⟨⟨k, v⟩, hkv⟩ : ∃ p, kvs[i]? = some p := ⟨kvs[i], List.getElem?_eq_getElem hi⟩
    have hi2 : i < es'.size := by omega
    obtain ⟨q, ek, hq, rv⟩ := ent i hi2 k v hkv
    obtain ⟨ok, ov, he⟩ := st
    have hlt : it < s.heap.objs.size := Heap.lt_size he
    refine DT.nextI he ⟨o, hgd, hx, hdt⟩ hi2 fun h' ho hT hz hk => ?_
    refine ⟨_, rfl, wpAny_letOwnedTupleGo_items (s := { s with heap := h' }) ho fun h'' he' sb => ?_⟩
    have hT2 := (sb.2 _ (Nat.ne_of_gt hlt)).trans hT
    have new : ObjOk X.prog X.w (upd H s.heap.objs.size (.tup [.ref q, v])) h'' s.heap.objs.size (.tup [.ref q, v]) :=
      ⟨by show 2 ≤ sizeLine; decide, [es'[i].key, es'[i].val], .cons ek (.cons rv .nil), ⟨_, hT2, rfl, _, rfl⟩⟩
    have I1 : Inv X pins σ (upd H s.heap.objs.size (.tup [.ref q, v])) { s with heap := h'' } :=
      I.turnedNew (t' := s.toks) (ch := [it]) (fun b ob hb e => (sb.2 b (by simpa using hb)).trans (hk b ob (by simpa using hb) e)) hf (Nat.le_refl _) new
    refine ⟨.ref s.heap.objs.size, _, I1, rfl, ⟨_, q, k, v, hkv, rfl, I.hok.fresh (Nat.le_refl _), hq, rfl⟩, ⟨_, _, he'⟩, fun b hb => ?_⟩
    have eb : b = it := by simpa using hb
    rw [eb, upd_ne (Nat.ne_of_lt hlt)]
    exact (hf it (by simp)).1
  done := by
    intro X hP hw hK hc i pins s σ H E I hf st hg
    subst hP hw hK
    obtain ⟨hd, hi⟩ := hg
    obtain ⟨f0, f1, f2, f3, f4, f5⟩ := hf it (by simp)
    obtain ⟨hs, hgd, hx, es', ep', hdt, hsz, ent⟩ := frzTV I hd
    obtain ⟨rfl, rfl⟩ := dict_ep hod hdt
    obtain ⟨ok, ov, he⟩ := st
    exact DT.endI (I.ok.hd hc) he ⟨o, hgd, hx, hdt⟩ (by omega) fun h' eb => ⟨rfl, I.turned (t' := s.toks) (fun b ob hb e => eb b ob hb e) f0 f1 f3 f4 f5⟩
  self := fun A i s Q E ⟨_, _, e⟩ h => PySem.W.kcp_self e h
def iItemsT (td : TE) : TI := fun σ H R => td σ H fun x H1 => ∃ d o kvs, x = .ref d ∧ H1 d = some (.frz o (.dT kvs)) ∧ R (ItiT d o kvs) H1
section
variable {X : Cx} {e : Expr} {td : TE} {apos cpos : Pos}
theorem pi_itemsT {elts : List Expr} {kk : Nat} {tpos : Pos} (he : PE X e td) (hbase : attributeBase e "items" X.env (eval e X.env) = eval e X.env := by rfl) (hline : (apos.endLine == cpos.line) = true := by rfl) :
    PI X (.Tuple elts kk tpos) (.Call (.Attribute e "items" apos) [] [] cpos) (iItemsT td) := by
  refine ⟨fun pins s σ H R I h => ?_⟩
  refine wpAny_Call_method (T := "dict") (id := "dict.items") hbase rfl hline F.plainAttrs_dict F.slot_dict_items F.type_dict_items (thn (he.run pins s σ H _ I h) fun u s1 ⟨x, H1, I1, rx, d, o, kvs, ex, hd, q⟩ => ?_)
  subst ex
  have eu : u = Value.ref d := rx
  subst eu
  obtain ⟨hs, hgd, hx, es, ep, hdt, hsz, ent⟩ := frzTV I1 hd
  have raw : DT.Raw s1.heap d es ep := ⟨o, hgd, hx, hdt⟩
  refine ⟨raw.typeIs, fun b eb => ?_, ?_⟩
  · cases eb
    exact ⟨o, hgd, hx.2.1⟩
  · have I2 : Inv X pins σ H1 { s1 with heap := s1.heap.push { cls := .type "dict_items", data := .fields #[.ref d] } } := I1.kept (t' := s1.toks) fun b ob q => Heap.get?_push_of_some _ q
    show wpAny _ _ (callWith cpos (.builtin "dict.items") [.ref d] [] []) _ X.xe s1
    refine method_meetsIn F.slot_dict_items F.entry_dict_items rfl (PySem.evalArgs_none ⟨rfl, raw.typeIs, F.args_dict_items_1 _, _, DT.meetsItems hs, raw, ?_⟩)
    exact DT.iterI ⟨_, Heap.get?_push_size _ rfl, rfl, rfl⟩ (raw.push _) (pi_one (tk := s1.toks) I2 _ (turn_itemsT _ hdt) ⟨.none, .none, Heap.get?_push_size _ rfl⟩ q)
end
end J
/-! distances. -/
namespace J
open PySem PySem.Spec PyProof.Rows L2
abbrev Bn := Stand × Addr × List Stand
def befKv (l : List Bn) : List (List Key × V) := l.map fun e => (kSt e.1, V.ref e.2.1)
def BefAt (H : Hp) (bf : Addr) (l : List Bn) : Prop := H bf = some (.dT (befKv l)) ∧ (l.map (·.2.1)).Nodup ∧ ∀ e ∈ l, ∃ es, H e.2.1 = some (.lst es) ∧ SdAll H es (e.2.2.map eStand)
def pushB (f v : Stand) (e : Bn) : Bn := if e.1 = f then (e.1, e.2.1, e.2.2 ++ [v]) else e
theorem pushB_1 (f v : Stand) (e : Bn) : (pushB f v e).1 = e.1 ∧ (pushB f v e).2.1 = e.2.1 := by
  unfold pushB
  by_cases c : e.1 = f
  · rw [if_pos c]; exact ⟨rfl, rfl⟩
  · rw [if_neg c]; exact ⟨rfl, rfl⟩
theorem valV_bef : ∀ (l : List Bn) (u : Stand), valV (befKv l) (kSt u) = (JM.look (l.map fun e => (e.1, e.2.1)) u).map V.ref
  | [], u => rfl
  | e :: r, u => by
    show valV ((kSt e.1, V.ref e.2.1) :: befKv r) (kSt u) = (JM.look ((e.1, e.2.1) :: r.map fun e => (e.1, e.2.1)) u).map V.ref
    rw [valV_cons, JM.look_cons, valV_bef r u]
    by_cases c : e.1 = u
    · rw [if_pos c, if_pos (by rw [c])]; rfl
    · rw [if_neg c, if_neg fun z => c (kSt_inj z)]
theorem bef_at {l : List Bn} (nd : (l.map (·.1)).Nodup) {e : Bn} (h : e ∈ l) : valV (befKv l) (kSt e.1) = some (.ref e.2.1) := by
  rw [valV_bef, JM.look_mem (x := e.2.1) (by rw [List.map_map]; exact nd) (List.mem_map.mpr ⟨e, h, rfl⟩)]
  rfl
theorem nd_key {l : List Bn} (nd : (l.map (·.1)).Nodup) {e e' : Bn} (h : e ∈ l) (h' : e' ∈ l) (q : e.1 = e'.1) : e = e' := by
  obtain ⟨i, hi, rfl⟩ := List.getElem_of_mem h
  obtain ⟨j, hj, rfl⟩ := List.getElem_of_mem h'
  have : (l.map (·.1))[i]'(by rw [List.length_map]; exact hi) = (l.map (·.1))[j]'(by rw [List.length_map]; exact hj) := by rw [List.getElem_map, List.getElem_map]; exact q
  have e := (List.getElem_inj nd).mp this
  subst e
  rfl
/-- one more before f -/
theorem BefAt.push {H : Hp} {bf : Addr} {l : List Bn} {f v : Stand} {e0 : Bn} {x : V} {es : List V} (B : BefAt H bf l) (nd : (l.map (·.1)).Nodup) (h0 : e0 ∈ l) (hf : e0.1 = f) (hx : Sd H x (eStand v)) (he : H e0.2.1 = some (.lst es)) :
    BefAt (upd H e0.2.1 (.lst (es ++ [x]))) bf (l.map (pushB f v)) := by
  have ft : Ft H (upd H e0.2.1 (.lst (es ++ [x]))) := ft_upd he fun _ z => nomatch z
  have nt : bf ≠ e0.2.1 := fun e => by
    have := B.1
    rw [e, he] at this
    cases this
  have k1 : befKv (l.map (pushB f v)) = befKv l := by
    unfold befKv
    rw [List.map_map]
    refine List.map_congr_left fun e _ => ?_
    show (kSt (pushB f v e).1, V.ref (pushB f v e).2.1) = _
    rw [(pushB_1 f v e).1, (pushB_1 f v e).2]
  have k2 : (l.map (pushB f v)).map (·.2.1) = l.map (·.2.1) := by
    rw [List.map_map]
    exact List.map_congr_left fun e _ => (pushB_1 f v e).2
  refine ⟨by rw [upd_ne nt, k1]; exact B.1, by rw [k2]; exact B.2.1, fun e he' => ?_⟩
  obtain ⟨e1, h1, rfl⟩ := List.mem_map.mp he'
  obtain ⟨es1, a1, b1⟩ := B.2.2 e1 h1
  by_cases c : e1.1 = f
  · have e01 : e1 = e0 := nd_key nd h1 h0 (c.trans hf.symm)
    subst e01
    rw [he] at a1
    cases a1
    refine ⟨es ++ [x], ?_, ?_⟩
    · rw [(pushB_1 f v e1).2, upd_same]
    · unfold pushB
      rw [if_pos c]
      show SdAll _ _ ((e1.2.2 ++ [v]).map eStand)
      rw [List.map_append]
      exact (b1.mt ft).snoc (hx.mt ft)
  · refine ⟨es1, ?_, ?_⟩
    · rw [(pushB_1 f v e1).2, upd_ne]
      · exact a1
      · intro q
        refine c ?_
        obtain ⟨i, hi, e2⟩ := List.getElem_of_mem h1
        obtain ⟨j, hj, e3⟩ := List.getElem_of_mem h0
        have : (l.map (·.2.1))[i]'(by rw [List.length_map]; exact hi) = (l.map (·.2.1))[j]'(by rw [List.length_map]; exact hj) := by rw [List.getElem_map, List.getElem_map, e2, e3]; exact q
        have ij := (List.getElem_inj B.2.1).mp this
        subst ij
        rw [← e2, e3]
        exact hf
    · unfold pushB
      rw [if_neg c]
      exact b1.mt ft
theorem BefAt.mv {H H' : Hp} {bf : Addr} {l : List Bn} (B : BefAt H bf l) (k : Same H H') : BefAt H' bf l := by
  refine ⟨k _ _ B.1, B.2.1, fun e he => ?_⟩
  obtain ⟨es, a, b⟩ := B.2.2 e he
  exact ⟨es, k _ _ a, b.sm k⟩
theorem TabAt.mv {H H' : Hp} {tb : Addr} {nodes : List Nd} (B : TabAt H tb nodes) (k : Same H H') : TabAt H' tb nodes := by
  refine ⟨k _ _ B.1, B.2.1, fun e he => ?_⟩
  obtain ⟨es, a, b⟩ := B.2.2 e he
  exact ⟨es, k _ _ a, b.sm k⟩
/-! the distances -/
def farKv (fl : List (Stand × Nat)) : List (List Key × V) := fl.map fun p => (kSt p.1, V.int ((p.2 : Nat) : Int))
theorem valV_far : ∀ (l : List (Stand × Nat)) (u : Stand), valV (farKv l) (kSt u) = (JM.look l u).map fun d => V.int ((d : Nat) : Int)
  | [], u => rfl
  | e :: r, u => by
    show valV ((kSt e.1, V.int ((e.2 : Nat) : Int)) :: farKv r) (kSt u) = _
    rw [valV_cons, JM.look_cons, valV_far r u]
    by_cases c : e.1 = u
    · rw [if_pos c, if_pos (by rw [c])]; rfl
    · rw [if_neg c, if_neg fun z => c (kSt_inj z)]
/-- each node's count of deeds, where it can be closed -/
structure FarOk (W : JM.Wo PySem.Str) (steps : PySem.Str → List Tri) (nodes : List Nd) (fl : List (Stand × Nat)) : Prop where
  nd : (fl.map (·.1)).Nodup
  yes : ∀ u ∈ nodes.map (·.1), ∀ d, JM.Far W steps u d → JM.look fl u = some d
  no : ∀ u ∈ nodes.map (·.1), (∀ d, ¬ JM.Cl W steps d u) → JM.look fl u = none
/-- sound, and each edge counts at most one: then the counts are the least -/
theorem far_ok {W : JM.Wo PySem.Str} {S : List PySem.Str} {steps : PySem.Str → List Tri} {firsts : List Stand} {nodes : List Nd} {fl : List (Stand × Nat)} (ok : TabOk W S steps firsts nodes) (nd : (fl.map (·.1)).Nodup) (sub : ∀ p ∈ fl, p.1 ∈ nodes.map (·.1)) (sound : ∀ p ∈ fl, JM.Cl W steps p.2 p.1)
    (d1 : ∀ u ∈ nodes.map (·.1), JM.Closed u → (u, 0) ∈ fl) (d2 : ∀ e ∈ nodes, ∀ x ∈ e.2.2, ∀ d, (x.2, d) ∈ fl → ∃ e', (e.1, e') ∈ fl ∧ e' ≤ d + 1) : FarOk W steps nodes fl := by
  have comp : ∀ (d : Nat) (u : Stand), u ∈ nodes.map (·.1) → JM.Cl W steps d u → ∃ e, e ≤ d ∧ (u, e) ∈ fl := by
    intro d
    induction d with
    | zero => intro u hu h; exact ⟨0, Nat.le_refl _, d1 u hu h⟩
    | succ d ih =>
      intro u hu h
      by_cases c : JM.Closed u
      · exact ⟨0, Nat.zero_le _, d1 u hu c⟩
      · rcases h with h | ⟨s, hs, f, hf, h⟩
        · exact absurd h c
        · obtain ⟨e, he, rfl⟩ := List.mem_map.mp hu
          obtain ⟨k, hk⟩ := (ok.edges e he c f).mpr ⟨s, hs, hf⟩
          obtain ⟨d', hd', hm⟩ := ih f (ok.inn e he _ hk) h
          obtain ⟨e', h1, h2⟩ := d2 e he _ hk d' hm
          exact ⟨e', by omega, h1⟩
  refine ⟨nd, fun u hu d h => ?_, fun u hu h => ?_⟩
  · obtain ⟨e, he, hm⟩ := comp d u hu h.1
    have hc := sound _ hm
    have : e = d := by
      rcases Nat.lt_or_eq_of_le he with c | c
      · exact absurd hc (h.2 e c)
      · exact c
    subst this
    exact JM.look_mem nd hm
  · refine JM.look_none.mpr fun x hx => h x (sound _ hx)
end J
/-! The walk of distances. -/
namespace J
open PySem PySem.Spec PyProof.Rows L2
theorem tab_ix {nodes : List Nd} {i : Nat} {k : List Key} {v : V} (h : (tabKv nodes)[i]? = some (k, v)) : ∃ e, nodes[i]? = some e ∧ k = kSt e.1 ∧ v = .ref e.2.1 := by
  obtain ⟨e, he, e2⟩ := at_map h
  injection e2 with e3 e4
  exact ⟨e, he, e3.symm, e4.symm⟩
theorem bef_none {l : List Bn} {u : Stand} (h : u ∉ l.map (·.1)) : valV (befKv l) (kSt u) = none := by
  rw [valV_bef, JM.look_none.mpr fun x hx => h ?_]
  · rfl
  · obtain ⟨e, he, e2⟩ := List.mem_map.mp hx
    exact List.mem_map.mpr ⟨e, he, congrArg Prod.fst e2⟩
theorem putK_bef {l : List Bn} {u : Stand} {p : Addr} (h : u ∉ l.map (·.1)) : putK (befKv l) (kSt u) (.ref p) = befKv (l ++ [(u, p, [])]) := by
  rw [putK_new _ (bef_none h)]
  unfold befKv
  rw [List.map_append]
  rfl
theorem far_none {l : List (Stand × Nat)} {u : Stand} : valV (farKv l) (kSt u) = none ↔ u ∉ l.map (·.1) := by
  rw [valV_far]
  constructor
  · intro h m
    obtain ⟨e, he, rfl⟩ := List.mem_map.mp m
    cases hl : JM.look l e.1 with
    | some a => rw [hl] at h; cases h
    | none => exact JM.look_none.mp hl e.2 he
  · intro h
    rw [JM.look_none.mpr fun x hx => h (List.mem_map.mpr ⟨_, hx, rfl⟩)]
    rfl
theorem putK_far {l : List (Stand × Nat)} {u : Stand} {d : Nat} (h : u ∉ l.map (·.1)) : putK (farKv l) (kSt u) (.int ((d : Nat) : Int)) = farKv (l ++ [(u, d)]) := by
  rw [putK_new _ (far_none.mpr h)]
  unfold farKv
  rw [List.map_append]
  rfl
theorem BefAt.upd {H : Hp} {bf a : Addr} {l : List Bn} {o o' : HO} (B : BefAt H bf l) (h : H a = some o) (n1 : ∀ xs, o ≠ .lst xs) (n2 : a ≠ bf) (n3 : ∀ xs, o ≠ .tup xs) : BefAt (upd H a o') bf l := by
  refine ⟨(upd_ne (fun z => n2 z.symm)).trans B.1, B.2.1, fun e he => ?_⟩
  obtain ⟨es, x, y⟩ := B.2.2 e he
  exact ⟨es, (upd_ne (fun z => by rw [z, h] at x; exact n1 _ (Option.some.inj x))).trans x, y.mt (ft_upd h n3)⟩
def pairsOf (ns : List Nd) : List (Stand × Stand) := ns.flatMap fun e => e.2.2.map fun x => (e.1, x.2)
def predsOf (p : List (Stand × Stand)) (u : Stand) : List Stand := p.filterMap fun q => if q.2 = u then some q.1 else none
theorem preds_push (p : List (Stand × Stand)) (u v f : Stand) : predsOf (p ++ [(v, f)]) u = if u = f then predsOf p u ++ [v] else predsOf p u := by
  unfold predsOf
  rw [List.filterMap_append]
  by_cases c : u = f
  · rw [if_pos c]; simp [c]
  · have c' : ¬ f = u := fun z => c z.symm
    rw [if_neg c]; simp [c']
theorem pairs_len {ns : List Nd} (h : ∀ e ∈ ns, e.2.2.length ≤ 720) : (pairsOf ns).length ≤ ns.length * 720 := by
  induction ns with
  | nil => exact Nat.zero_le _
  | cons a r ih =>
    unfold pairsOf at ih ⊢
    rw [List.flatMap_cons, List.length_append, List.length_map, List.length_cons]
    have := ih fun e he => h e (List.mem_cons_of_mem _ he)
    have := h a (List.mem_cons_self ..)
    omega
theorem mem_preds {ns : List Nd} {u v : Stand} : v ∈ predsOf (pairsOf ns) u ↔ ∃ e ∈ ns, e.1 = v ∧ ∃ x ∈ e.2.2, x.2 = u := by
  constructor
  · intro h
    obtain ⟨q, hq, e⟩ := List.mem_filterMap.mp h
    by_cases c : q.2 = u
    · rw [if_pos c] at e
      obtain ⟨n, hn, h2⟩ := List.mem_flatMap.mp hq
      obtain ⟨x, hx, rfl⟩ := List.mem_map.mp h2
      exact ⟨n, hn, Option.some.inj e, x, hx, c⟩
    · rw [if_neg c] at e
      cases e
  · rintro ⟨n, hn, rfl, x, hx, rfl⟩
    exact List.mem_filterMap.mpr ⟨(n.1, x.2), List.mem_flatMap.mpr ⟨n, hn, List.mem_map.mpr ⟨x, hx, rfl⟩⟩, if_pos rfl⟩
/-- the lists of those before, built from the pairs p -/
structure BI (keys : List Stand) (p : List (Stand × Stand)) (l : List Bn) : Prop where
  keys : l.map (·.1) = keys
  val : ∀ e ∈ l, e.2.2 = predsOf p e.1
theorem BI.push {keys : List Stand} {p : List (Stand × Stand)} {l : List Bn} (b : BI keys p l) (f v : Stand) : BI keys (p ++ [(v, f)]) (l.map (pushB f v)) := by
  refine ⟨?_, fun e he => ?_⟩
  · rw [List.map_map, ← b.keys]
    exact List.map_congr_left fun e _ => (pushB_1 f v e).1
  · obtain ⟨e1, h1, rfl⟩ := List.mem_map.mp he
    rw [(pushB_1 f v e1).1, preds_push, ← b.val e1 h1]
    unfold pushB
    by_cases c : e1.1 = f
    · rw [if_pos c, if_pos c]
    · rw [if_neg c, if_neg c]
/-- the walk of the queue -/
structure Bfs (W : JM.Wo PySem.Str) (steps : PySem.Str → List Tri) (nodes : List Nd) (fl : List (Stand × Nat)) (at' : Nat) : Prop where
  nd : (fl.map (·.1)).Nodup
  sub : ∀ p ∈ fl, p.1 ∈ nodes.map (·.1)
  sound : ∀ p ∈ fl, JM.Cl W steps p.2 p.1
  d1 : ∀ u ∈ nodes.map (·.1), JM.Closed u → (u, 0) ∈ fl
  pw : fl.Pairwise fun p q => p.2 ≤ q.2
  proc : ∀ k, k < at' → ∀ p, fl[k]? = some p → ∀ v ∈ predsOf (pairsOf nodes) p.1, ∃ e', (v, e') ∈ fl ∧ e' ≤ p.2 + 1
  top : ∀ p, fl[at']? = some p → ∀ q ∈ fl, q.2 ≤ p.2 + 1
theorem iskeys_sd {H : Hp} : ∀ {fl : List (Stand × Nat)} {bs : List Addr}, IsKeys H (farKv fl) bs → SdAll H (bs.map V.ref) (fl.map fun p => eStand p.1)
  | [], bs, h => by cases h; exact .nil
  | p :: r, bs, h => by
    cases h with
    | cons a b => exact .cons (stand_sd a) (iskeys_sd b)
def closedOf (ns : List Nd) : List (Stand × Nat) := ns.filterMap fun e => if e.1.2.2.1 = e.1.2.2.2 then some (e.1, 0) else none
theorem mem_closed {ns : List Nd} {p : Stand × Nat} : p ∈ closedOf ns ↔ p.2 = 0 ∧ JM.Closed p.1 ∧ p.1 ∈ ns.map (·.1) := by
  unfold closedOf
  rw [List.mem_filterMap]
  constructor
  · rintro ⟨e, he, h⟩
    by_cases c : e.1.2.2.1 = e.1.2.2.2
    · rw [if_pos c] at h
      cases h
      exact ⟨rfl, c, List.mem_map.mpr ⟨e, he, rfl⟩⟩
    · rw [if_neg c] at h
      cases h
  · rintro ⟨h1, h2, h3⟩
    obtain ⟨e, he, e2⟩ := List.mem_map.mp h3
    refine ⟨e, he, ?_⟩
    have e3 : e.1 = p.1 := e2
    rw [if_pos (by rw [e3]; exact h2), e3, ← h1]
theorem closed_take {ns : List Nd} {i : Nat} {e : Nd} (h : ns[i]? = some e) : closedOf (ns.take (i + 1)) = closedOf (ns.take i) ++ (if e.1.2.2.1 = e.1.2.2.2 then some (e.1, 0) else none : Option (Stand × Nat)).toList := fm_take _ ns h
theorem closed_nd {ns : List Nd} (nd : (ns.map (·.1)).Nodup) : ((closedOf ns).map (·.1)).Nodup := by
  induction ns with
  | nil => exact List.nodup_nil
  | cons a r ih =>
    obtain ⟨h1, h2⟩ := List.nodup_cons.mp (show (a.1 :: r.map (·.1)).Nodup from nd)
    unfold closedOf at ih ⊢
    by_cases c : a.1.2.2.1 = a.1.2.2.2
    · rw [List.filterMap_cons_some (by rw [if_pos c])]
      refine List.nodup_cons.mpr ⟨fun m => h1 ?_, ih h2⟩
      obtain ⟨p, hp, e⟩ := List.mem_map.mp m
      have := (mem_closed.mp hp).2.2
      have e' : p.1 = a.1 := e
      rw [e'] at this
      exact this
    · rw [List.filterMap_cons_none (by rw [if_neg c])]
      exact ih h2
theorem bfs_start {W : JM.Wo PySem.Str} {steps : PySem.Str → List Tri} {nodes : List Nd} (nd : (nodes.map (·.1)).Nodup) : Bfs W steps nodes (closedOf nodes) 0 := by
  refine ⟨closed_nd nd, fun p hp => (mem_closed.mp hp).2.2, fun p hp => JM.cl_zero (mem_closed.mp hp).2.1, fun u hu hc => mem_closed.mpr ⟨rfl, hc, hu⟩, ?_, fun k hk => absurd hk (Nat.not_lt_zero _), fun p hp q hq => ?_⟩
  · refine JM.pairwise_in (fun x hx y hy _ => ?_) ?_
    · rw [(mem_closed.mp hx).1]
      exact Nat.zero_le _
    · exact List.Pairwise.of_map (S := (· ≠ ·)) (·.1) (fun a b h e => h (by rw [e])) (closed_nd nd)
  · rw [(mem_closed.mp hq).1]
    exact Nat.zero_le _
/-- one more that is met before the one at at' -/
theorem Bfs.put {W : JM.Wo PySem.Str} {S : List PySem.Str} {steps : PySem.Str → List Tri} {firsts : List Stand} {nodes : List Nd} {fl : List (Stand × Nat)} {k : Nat} {p : Stand × Nat} {v : Stand} (ok : TabOk W S steps firsts nodes) (B : Bfs W steps nodes fl k) (hp : fl[k]? = some p) (hv : v ∈ predsOf (pairsOf nodes) p.1) (hn : v ∉ fl.map (·.1)) : Bfs W steps nodes (fl ++ [(v, p.2 + 1)]) k := by
  have hpm := mem_at hp
  have hkl : k < fl.length := (List.getElem?_eq_some_iff.mp hp).1
  obtain ⟨e, he, e1, x, hx, e2⟩ := mem_preds.mp hv
  have hop : ¬ JM.Closed e.1 := fun c => by rw [ok.closed e he c] at hx; cases hx
  obtain ⟨s, hs, hb⟩ := (ok.edges e he hop x.2).mp ⟨x.1, hx⟩
  refine ⟨?_, fun q hq => ?_, fun q hq => ?_, fun u hu hc => List.mem_append_left _ (B.d1 u hu hc), ?_, fun j hj q hq w hw => ?_, fun q hq r hr => ?_⟩
  · rw [List.map_append]
    exact nd_snoc B.nd hn
  · rcases List.mem_append.mp hq with h | h
    · exact B.sub q h
    · rw [List.mem_singleton.mp h, ← e1]
      exact List.mem_map.mpr ⟨e, he, rfl⟩
  · rcases List.mem_append.mp hq with h | h
    · exact B.sound q h
    · rw [List.mem_singleton.mp h, ← e1]
      refine .inr ⟨s, hs, x.2, hb, ?_⟩
      rw [e2]
      exact B.sound p hpm
  · refine List.pairwise_append.mpr ⟨B.pw, List.pairwise_singleton _ _, fun a ha b hb => ?_⟩
    rw [List.mem_singleton.mp hb]
    exact B.top p hp a ha
  · rw [List.getElem?_append_left (by omega)] at hq
    obtain ⟨e', h1, h2⟩ := B.proc j hj q hq w hw
    exact ⟨e', List.mem_append_left _ h1, h2⟩
  · rw [List.getElem?_append_left hkl, hp] at hq
    cases hq
    rcases List.mem_append.mp hr with h | h
    · exact B.top p hp r h
    · rw [List.mem_singleton.mp h]
      exact Nat.le_refl _
theorem Bfs.next {W : JM.Wo PySem.Str} {steps : PySem.Str → List Tri} {nodes : List Nd} {fl : List (Stand × Nat)} {k : Nat} {p : Stand × Nat} (B : Bfs W steps nodes fl k) (hp : fl[k]? = some p) (hall : ∀ v ∈ predsOf (pairsOf nodes) p.1, ∃ e', (v, e') ∈ fl ∧ e' ≤ p.2 + 1) : Bfs W steps nodes fl (k + 1) := by
  refine ⟨B.nd, B.sub, B.sound, B.d1, B.pw, fun j hj q hq => ?_, fun q hq r hr => ?_⟩
  · rcases Nat.lt_or_ge j k with c | c
    · exact B.proc j c q hq
    · have : j = k := by omega
      subst this
      rw [hp] at hq
      cases hq
      exact hall
  · obtain ⟨h1, e1⟩ := List.getElem?_eq_some_iff.mp hp
    obtain ⟨h2, e2⟩ := List.getElem?_eq_some_iff.mp hq
    have := List.pairwise_iff_getElem.mp B.pw k (k + 1) h1 h2 (by omega)
    rw [e1, e2] at this
    have := B.top p hp r hr
    omega
theorem bfs_end {W : JM.Wo PySem.Str} {S : List PySem.Str} {steps : PySem.Str → List Tri} {firsts : List Stand} {nodes : List Nd} {fl : List (Stand × Nat)} (ok : TabOk W S steps firsts nodes) (B : Bfs W steps nodes fl fl.length) : FarOk W steps nodes fl := by
  refine far_ok ok B.nd B.sub B.sound B.d1 fun e he x hx d hd => ?_
  obtain ⟨k, hk, e2⟩ := List.getElem_of_mem hd
  exact B.proc k hk (x.2, d) (by rw [List.getElem?_eq_getElem hk, e2]) e.1 (mem_preds.mpr ⟨e, he, rfl, x, hx, rfl⟩)
section
variable {P : Program} {w : World} {K : PySem.W.Frag} {mg : Str → Option Value} {base : Heap}
def sp_distances (T : Wd K mg) : Sp := fun vs H Q _ => ∃ (tb : Addr) (W : JM.Wo PySem.Str) (S : List PySem.Str) (steps : PySem.Str → List Tri) (firsts : List Stand) (nodes : List Nd), vs = [.ref tb, .ref T.is_closed.f] ∧ TabAt H tb nodes ∧ TabOk W S steps firsts nodes ∧ nodes.length ≤ 1728 ∧
  ∀ (H' : Hp) (fr : Addr) (fl : List (Stand × Nat)), Same H H' → H' fr = some (.dT (farKv fl)) → FarOk W steps nodes fl → Q (.ref fr) H'
theorem sc_distances : FnScope ["table", "is_end", "before", "node", "_", "following", "far", "waiting", "at", "earlier"] ["table", "is_end"] (defScope s_distances) := ⟨rfl, rfl, rfl, by decide +kernel, rfl, by decide +kernel, by decide +kernel⟩
-- slots: 0 table, 1 is_end*, 2 before, 3 node, 4 _, 5 following, 6 far, 7 waiting, 8 at, 9 earlier
theorem ok_distances (T : Wd K mg) : FnOk P w K mg base CX0 2 T.distances.f T.distances.fd ["table", "is_end"] (sp_distances T) := by
  have G_is_closed := ok_is_closed (P := P) (w := w) (base := base) T
  refine T.distances.F.ok sc_distances (fun vs H Q E h => ?_) (fun cdv A outer s H vs Q E hr h => ?_)
  · obtain ⟨tb, W, S, steps, firsts, nodes, rfl, _⟩ := h
    rfl
  · obtain ⟨tb, W, S, steps, firsts, nodes, rfl, ht, ok, hnl, q⟩ := h
    have hkl : (tabKv nodes).length = nodes.length := by unfold tabKv; rw [List.length_map]
    refine ⟨_, PSs.nox (pss_cons (ps_lock (ps_setDcT (i := 2) (own := [("node", 3)]) (g := gName 3) (hu_of hr) rfl sc_distances.nd rfl rfl (sw_dict rfl rfl rfl (by decide +kernel)) (pi_keys (pv 0)) (blkOk_by (own := [("node", 3)]) (N := ["table", "is_end", "before", "node", "_", "following", "far", "waiting", "at", "earlier"]) (sc := defScope s_distances) (by decide +kernel)) (fun _ _ _ _ _ => (pg_name (i := 3) sc_distances.nd rfl (.inl rfl))) (fun _ _ _ _ _ => pts_nil) (fun _ _ _ _ _ => (pv 3)) (fun _ _ _ _ _ => (pe_lst pa_nil))))
      (pss_cons (ps_lock (ps_for PassesOwn.never rfl (pi_keys (pv 0)) (pg_name (i := 3) sc_distances.nd rfl (.inl rfl))
        (pss_one (ps_for PassesOwn.never rfl (pi_list (pe_dget (hu_of hr) (pv 0) (pv 3) (fun _ _ => rfl))) (pg_tup (by rfl) (pgs_cons (pg_name (i := 4) sc_distances.nd rfl (.inl rfl)) (pgs_cons (pg_name (i := 5) sc_distances.nd rfl (.inl rfl)) pgs_nil)))
          (pss_one (ps_expr (pe_bm PySem.F.plainAttrs_list PySem.F.slot_list_append PySem.F.type_list_append mt_append (pe_dget (hu_of hr) (pv 2) (pv 5) (fun _ _ => rfl)) (pa_cons (pv 3) pa_nil))))))))
      (pss_cons (ps_lock (ps_setDcT (i := 6) (own := [("node", 3)]) (g := gName 3) (hu_of hr) rfl sc_distances.nd rfl rfl (sw_dict rfl rfl rfl (by decide +kernel)) (pi_keys (pv 0)) (blkOk_by (own := [("node", 3)]) (N := ["table", "is_end", "before", "node", "_", "following", "far", "waiting", "at", "earlier"]) (sc := defScope s_distances) (by decide +kernel)) (fun _ _ _ _ _ => (pg_name (i := 3) sc_distances.nd rfl (.inl rfl))) (fun _ _ _ _ _ => pts_one (pt_val (pe_callL (i := 1) (f := T.is_closed.f) G_is_closed (hr.mono (by decide)) rfl (by first | exact .inl rfl | exact .inr (.inl rfl) | exact .inr (.inr rfl)) T.is_closed.F.kp T.is_closed.b .nil pass0 (pa_cons (pv 3) pa_nil)) (fun _ => rfl))) (fun _ _ _ _ _ => (pv 3)) (fun _ _ _ _ _ => pe_int)))
      (pss_cons (ps_set (i := 7) sc_distances.nd rfl (.inl rfl) (pe_callTy (call_list_dT rfl) (by rfl) T.n_list (by decide +kernel) (pa_cons (pv 6) pa_nil)))
      (pss_cons (ps_set (i := 8) sc_distances.nd rfl (.inl rfl) pe_int)
      (pss_cons (ps_while PassesOwn.never (pt_cmpR op_lt (pv 8) (pe_callB call_len_seq (by rfl) T.n_len (by decide +kernel) (pa_cons (pv 7) pa_nil)) (nomark _))
        (pss_cons (ps_set (i := 3) sc_distances.nd rfl (.inl rfl) (pe_ix ix_list (pv 7) (pv 8) (fun _ _ => rfl)))
          (pss_cons (ps_aug (i := 8) sc_distances.nd rfl (.inl rfl) pe_int ip_add)
          (pss_one (ps_for PassesOwn.never rfl (pi_list (pe_dget (hu_of hr) (pv 2) (pv 3) (fun _ _ => rfl))) (pg_name (i := 9) sc_distances.nd rfl (.inl rfl))
          (pss_one (ps_if (pt_cmp (pc_dnotin (hu_of hr) (pv 9) (pv 6)))
            (pss_cons (ps_dput (hu_of hr) (pv 6) (pv 9) (pe_op op_add (pe_dget (hu_of hr) (pv 6) (pv 3) (fun _ _ => rfl)) pe_int) rfl)
              (pss_one (ps_expr (pe_bm PySem.F.plainAttrs_list PySem.F.slot_list_append PySem.F.type_list_append mt_append (pv 7) (pa_cons (pv 9) pa_nil)))))
            pss_nil)))))))
      (pss_one (ps_ret (pv 6)))))))))
, ?_⟩
    refine ⟨tb, .dT (tabKv nodes), ht.1, trivial, fun od => ⟨_, rfl, tb, od, rfl, .inr ⟨tabKv nodes, upd_same, fun D hD => ?_⟩⟩⟩
    have ntD : D ≠ tb := fun z => by rw [z, upd_same] at hD; cases hD
    have hD0 : H D = none := by rw [upd_ne ntD] at hD; exact hD
    have hL1 : (upd H tb (.frz od (.dT (tabKv nodes)))) tb = some (.frz od (.dT (tabKv nodes))) := upd_same
    have bk1 : ∀ H', Same (upd H tb (.frz od (.dT (tabKv nodes)))) H' → Same H (upd H' tb (.dT (tabKv nodes))) := fun H' s => same_lock ht.1 s
    have up1 : ∀ b, (upd H tb (.frz od (.dT (tabKv nodes)))) b = none → H b = none := fun b e => by
      by_cases c : b = tb
      · rw [c, upd_same] at e; cases e
      · rw [upd_ne c] at e; exact e
    generalize upd H tb (.frz od (.dT (tabKv nodes))) = HL at hD hL1 bk1 up1
    refine cg_it walk_keysT (u0 := fun _ => .dT []) (fun i H' => Same HL H' ∧ ∃ l, BefAt H' D l ∧ l.map (·.1) = (nodes.take i).map (·.1) ∧ ∀ e ∈ l, e.2.2 = [] ∧ HL e.2.1 = none) ⟨same_new' hD, [], ⟨upd_same, List.nodup_nil, fun e he => nomatch he⟩, rfl, fun e he => nomatch he⟩ (fun i H' _ p => p.1 _ _ hL1) (fun i x' H1 H2 hi p yy => ?_) fun H1 p => ?_
    · obtain ⟨s1, l, hB, hk, hl⟩ := p
      obtain ⟨rfl, k, v, b, e2, rfl, hb⟩ := yy
      obtain ⟨e, he, rfl, rfl⟩ := tab_ix e2
      have hll : l.length ≤ i := by
        have := congrArg List.length hk
        rw [List.length_map, List.length_map, List.length_take] at this
        omega
      rw [hkl] at hi
      have hnot : e.1 ∉ l.map (·.1) := by
        rw [hk]
        intro m
        have := look_take (l := nodes.map fun e => (e.1, e.2.1)) (by rw [List.map_map]; exact ok.nd) (i := i) (p := (e.1, e.2.1)) (by rw [List.getElem?_map, he]; rfl)
        obtain ⟨e', he', q'⟩ := List.mem_map.mp m
        refine JM.look_none.mp this e'.2.1 ?_
        rw [← List.map_take]
        exact List.mem_map.mpr ⟨e', he', by rw [q']⟩
      refine ⟨rfl, yesT2 ⟨_, rfl, by show 0 ≤ sizeLine; decide, fun p hp => ⟨befKv l, kSt e.1, b, rfl, (upd_ne (ne_of_none hb hp)).trans hb, (upd_ne (ne_of_none hB.1 hp)).trans hB.1, by unfold befKv; rw [List.length_map]; exact Nat.lt_of_le_of_lt (m := 1728) (by omega) (by decide), ?_⟩⟩⟩
      rw [putK_bef hnot]
      have npD : p ≠ D := fun z => by have := hB.1; rw [← z, hp] at this; cases this
      have sp : Same H2 (upd H2 p (.lst [])) := same_new hp
      have hBp := hB.mv sp
      have p0 : HL p = none := s1.free hp
      have ftp : Ft (upd H2 p (.lst [])) (upd (upd H2 p (.lst [])) D (.dT (befKv (l ++ [(e.1, p, [])])))) := ft_upd hBp.1 fun _ z => nomatch z
      refine ⟨fun c o ec => (upd_ne (ne_of_none ec hD)).trans (sp _ _ (s1 _ _ ec)), l ++ [(e.1, p, [])], ⟨upd_same, ?_, fun e' he' => ?_⟩, ?_, fun e' he' => ?_⟩
      · rw [List.map_append]
        refine nd_snoc hB.2.1 fun m => ?_
        obtain ⟨e', he', q'⟩ := List.mem_map.mp m
        obtain ⟨es, a, _⟩ := hB.2.2 e' he'
        have q'' : e'.2.1 = p := q'
        rw [q'', hp] at a
        cases a
      · rcases List.mem_append.mp he' with h | h
        · obtain ⟨es, a, c⟩ := hBp.2.2 e' h
          exact ⟨es, (upd_ne (ne_of a hBp.1 fun z => nomatch z)).trans a, c.mt ftp⟩
        · rw [List.mem_singleton.mp h]
          exact ⟨[], (upd_ne npD).trans upd_same, .nil⟩
      · rw [List.map_append, hk, List.take_add_one, he, List.map_append]
        rfl
      · rcases List.mem_append.mp he' with h | h
        · exact hl e' h
        · rw [List.mem_singleton.mp h]
          exact ⟨rfl, p0⟩
    · obtain ⟨s1, l, hB, hk, hl⟩ := p
      have hL1' := s1 _ _ hL1
      rw [hkl, List.take_length] at hk
      refine ⟨hL1', ?_⟩
      have s2 := bk1 _ s1
      have hB2 : BefAt (upd H1 tb (.dT (tabKv nodes))) D l := hB.upd hL1' (fun _ z => nomatch z) ntD.symm (fun _ z => nomatch z)
      have hBI : BI (nodes.map (·.1)) [] l := ⟨hk, fun e he => (hl e he).1⟩
      have hl0 : ∀ e ∈ l, H e.2.1 = none := fun e he => up1 _ (hl e he).2
      generalize upd H1 tb (.dT (tabKv nodes)) = H3 at s2 hB2
      have htb3 := s2 _ _ ht.1
      refine ⟨tb, .dT (tabKv nodes), htb3, trivial, fun od2 => ⟨_, rfl, tb, od2, rfl, .inr ⟨tabKv nodes, upd_same, ?_⟩⟩⟩
      have hB3 : BefAt (upd H3 tb (.frz od2 (.dT (tabKv nodes)))) D l := hB2.upd htb3 (fun _ z => nomatch z) ntD.symm (fun _ z => nomatch z)
      have sk : Same (upd H tb (.frz od2 (.dT (tabKv nodes)))) (upd H3 tb (.frz od2 (.dT (tabKv nodes)))) := fun b o e => by
        by_cases c : b = tb
        · rw [c, upd_same] at e
          rw [c, upd_same]
          exact e
        · rw [upd_ne c] at e
          rw [upd_ne c]
          exact s2 _ _ e
      have hkt : (upd H tb (.frz od2 (.dT (tabKv nodes)))) tb = some (.frz od2 (.dT (tabKv nodes))) := upd_same
      have kle : ∀ e ∈ nodes, ∃ es, (upd H tb (.frz od2 (.dT (tabKv nodes)))) e.2.1 = some (.lst es) ∧ SdAll (upd H tb (.frz od2 (.dT (tabKv nodes)))) es (e.2.2.map eEd) := fun e he => by
        obtain ⟨es, a, b⟩ := ht.2.2 e he
        exact ⟨es, (upd_ne (ne_of a ht.1 fun z => nomatch z)).trans a, b.mt (ft_upd ht.1 fun _ z => nomatch z)⟩
      have bk2 : ∀ H', Same (upd H tb (.frz od2 (.dT (tabKv nodes)))) H' → Same H (upd H' tb (.dT (tabKv nodes))) := fun H' s => same_lock ht.1 s
      have up2 : ∀ b, b ≠ tb → H b = none → (upd H tb (.frz od2 (.dT (tabKv nodes)))) b = none := fun b c e => by rw [upd_ne c]; exact e
      generalize upd H tb (.frz od2 (.dT (tabKv nodes))) = HK at sk hkt kle bk2 up2
      have hlt : ∀ e ∈ l, e.2.1 ≠ tb := fun e he z => by
        obtain ⟨es, a, _⟩ := hB2.2.2 e he
        rw [z, htb3] at a
        cases a
      refine for_it walk_keysT (fun (i : Nat) (σ : L2.St) (H' : Hp) => Same HK H' ∧ (∃ l' : List Bn, BefAt H' D l' ∧ BI (nodes.map (·.1)) (pairsOf (nodes.take i)) l' ∧ ∀ e ∈ l', H e.2.1 = none ∧ e.2.1 ≠ tb) ∧ ∃ x3 x4 x5, σ = [some (.ref tb), some (.ref T.is_closed.f), some (.ref D), x3, x4, x5, none, none, none, none])
        ⟨sk, ⟨l, hB3, hBI, fun e he => ⟨hl0 e he, hlt e he⟩⟩, none, none, none, rfl⟩ (fun i σ H' _ p => p.1 _ _ hkt) (fun i x' σ H4 H5 hi p yy => ?_) fun σ H4 p => ?_
      · obtain ⟨s4, ⟨l4, hB4, hI4, hn4⟩, x3, x4, x5, rfl⟩ := p
        obtain ⟨rfl, k, v, b, e2, rfl, hb⟩ := yy
        obtain ⟨e, he, rfl, rfl⟩ := tab_ix e2
        have hem := mem_at he
        rw [hkl] at hi
        obtain ⟨es, hes, des⟩ := kle e hem
        have hesl := sda_len des
        have elen := ok.elen e hem
        have hbs : Sd H5 (.ref b) (eStand e.1) := stand_sd hb
        refine ⟨_, rfl, _, rfl, tb, .ref e.2.1, rfl, .inr ⟨tabKv nodes, kSt e.1, b, .inr ⟨od2, s4 _ _ hkt⟩, rfl, hb, (tab_at ok.nd hem).symm⟩, e.2.1, rfl, ⟨es, SqL.of (s4 _ _ hes)⟩, ?_⟩
        refine for_it walk_list (fun (j : Nat) (σ : L2.St) (H' : Hp) => Same HK H' ∧ Ft H5 H' ∧ (∃ l' : List Bn, BefAt H' D l' ∧ BI (nodes.map (·.1)) (pairsOf (nodes.take i) ++ (e.2.2.take j).map fun x => (e.1, x.2)) l' ∧ ∀ e ∈ l', H e.2.1 = none ∧ e.2.1 ≠ tb) ∧ ∃ x4 x5, σ = [some (.ref tb), some (.ref T.is_closed.f), some (.ref D), some (.ref b), x4, x5, none, none, none, none])
          ⟨s4, fun _ _ h => h, ⟨l4, hB4, by simpa using hI4, hn4⟩, x4, x5, rfl⟩ (fun j σ H' _ p => SqL.of (p.1 _ _ hes)) (fun j x' σ H6 H7 hj p yy => ?_) fun σ H6 p => ?_
        · obtain ⟨s6, f6, ⟨l6, hB6, hI6, hn6⟩, y4, y5, rfl⟩ := p
          obtain ⟨rfl, e3⟩ := yy
          obtain ⟨x, hx, hsx⟩ := item_at des e3
          have hsx7 := hsx.sm s6
          obtain ⟨c, xs, rfl, hc, hxs⟩ := sd_tup hsx7
          obtain ⟨x1, r1, rfl, hx1, hr1⟩ := sda_cons hxs
          obtain ⟨x2, r2, rfl, hx2, hr2⟩ := sda_cons hr1
          rw [sda_nil hr2] at hc
          obtain ⟨fb, rfl, hfb⟩ := sd_stand hx2
          have hfk : x.2 ∈ l6.map (·.1) := by rw [hI6.keys]; exact ok.inn e hem x (mem_at hx)
          obtain ⟨e0, he0, e0k⟩ := List.mem_map.mp hfk
          have e0k' : e0.1 = x.2 := e0k
          obtain ⟨es0, hes0, des0⟩ := hB6.2.2 e0 he0
          have nd6 : (l6.map (·.1)).Nodup := by rw [hI6.keys]; exact ok.nd
          have hg0 := bef_at nd6 he0
          rw [e0k'] at hg0
          refine ⟨c, _, rfl, SqT.of hc, rfl, _, _, rfl, _, _, rfl, rfl, ?_⟩
          refine ⟨_, rfl, _, rfl, D, .ref e0.2.1, rfl, .inr ⟨befKv l6, kSt x.2, fb, .inl hB6.1, rfl, hfb, hg0.symm⟩, .inl ⟨rfl, es0, SqL.of hes0⟩, _, rfl, e0.2.1, es0, _, rfl, rfl, hes0, ?_, ?_⟩
          · rw [sda_len des0, hI6.val e0 he0]
            refine Nat.lt_of_le_of_lt (Nat.le_trans (List.length_filterMap_le _ _) ?_) (show 1244881 < sizeLine by decide)
            rw [List.length_append, List.length_map, List.length_take]
            have p1 := pairs_len (ns := nodes.take i) fun e he => ok.elen e (List.mem_of_mem_take he)
            rw [List.length_take] at p1
            have : min i nodes.length ≤ 1728 := by omega
            omega
          · have hbs7 : Sd H7 (.ref b) (eStand e.1) := hbs.mt f6
            have hBp := hB6.push nd6 he0 e0k' hbs7 hes0
            refine ⟨fun a o ea => ?_, fun a ys ea => ft_upd hes0 (fun _ z => nomatch z) _ _ (f6 _ _ ea), ⟨_, hBp, ?_, fun e' he' => ?_⟩, _, _, rfl⟩
            · have n0 := up2 _ (hn6 e0 he0).2 (hn6 e0 he0).1
              exact (upd_ne (ne_of_none ea n0)).trans (s6 _ _ ea)
            · rw [List.take_add_one, hx, List.map_append, ← List.append_assoc]
              exact hI6.push x.2 e.1
            · obtain ⟨e1, h1, rfl⟩ := List.mem_map.mp he'
              rw [(pushB_1 _ _ e1).2]
              exact hn6 e1 h1
        · obtain ⟨s6, f6, ⟨l6, hB6, hI6, hn6⟩, y4, y5, rfl⟩ := p
          rw [hesl, List.take_length] at hI6
          refine ⟨s6, ⟨l6, hB6, ?_, hn6⟩, _, _, _, rfl⟩
          have e4 : pairsOf (nodes.take (i + 1)) = pairsOf (nodes.take i) ++ e.2.2.map fun x => (e.1, x.2) := by
            unfold pairsOf
            rw [List.take_add_one, he, List.flatMap_append]
            simp
          rw [e4]
          exact hI6
      · obtain ⟨s4, ⟨l4, hB4, hI4, hn4⟩, x3, x4, x5, rfl⟩ := p
        rw [hkl, List.take_length] at hI4
        refine ⟨s4 _ _ hkt, ?_⟩
        have s5 := bk2 _ s4
        have hB5 : BefAt (upd H4 tb (.dT (tabKv nodes))) D l4 := hB4.upd (s4 _ _ hkt) (fun _ z => nomatch z) ntD.symm (fun _ z => nomatch z)
        generalize upd H4 tb (.dT (tabKv nodes)) = H5 at s5 hB5
        have htb5 := s5 _ _ ht.1
        refine ⟨tb, .dT (tabKv nodes), htb5, trivial, fun od3 => ⟨_, rfl, tb, od3, rfl, .inr ⟨tabKv nodes, upd_same, fun F hF => ?_⟩⟩⟩
        have ntF : F ≠ tb := fun z => by rw [z, upd_same] at hF; cases hF
        have hF5 : H5 F = none := by rw [upd_ne ntF] at hF; exact hF
        have hF0 : H F = none := s5.free hF5
        have hL3 : (upd H5 tb (.frz od3 (.dT (tabKv nodes)))) tb = some (.frz od3 (.dT (tabKv nodes))) := upd_same
        have bk3 : ∀ H', Same (upd H5 tb (.frz od3 (.dT (tabKv nodes)))) H' → Same H5 (upd H' tb (.dT (tabKv nodes))) := fun H' s => same_lock htb5 s
        generalize upd H5 tb (.frz od3 (.dT (tabKv nodes))) = HM at hF hL3 bk3
        refine cg_it walk_keysT (u0 := fun _ => .dT []) (fun i H' => Same HM H' ∧ H' F = some (.dT (farKv (closedOf (nodes.take i))))) ⟨same_new' hF, upd_same⟩ (fun i H' _ p => p.1 _ _ hL3) (fun i x' H6 H7 hi p yy => ?_) fun H6 p => ?_
        · obtain ⟨s6, hF6⟩ := p
          obtain ⟨rfl, k, v, b, e2, rfl, hb⟩ := yy
          obtain ⟨e, he, rfl, rfl⟩ := tab_ix e2
          rw [hkl] at hi
          have hct := closed_take he
          refine ⟨rfl, rfl, _, rfl, _, e.1, rfl, stand_sd hb, _, rfl, ite2 (fun c => ?_) fun c => ?_⟩
          · have c' : e.1.2.2.1 = e.1.2.2.2 := of_decide_eq_true c
            rw [if_pos c'] at hct
            have hnot : e.1 ∉ (closedOf (nodes.take i)).map (·.1) := fun m => by
              obtain ⟨p, hp, q'⟩ := List.mem_map.mp m
              have hm3 := (mem_closed.mp hp).2.2
              have q'' : p.1 = e.1 := q'
              rw [q''] at hm3
              have := look_take (l := nodes.map fun e => (e.1, e.2.1)) (by rw [List.map_map]; exact ok.nd) (i := i) (p := (e.1, e.2.1)) (by rw [List.getElem?_map, he]; rfl)
              obtain ⟨e', he', q3⟩ := List.mem_map.mp hm3
              refine JM.look_none.mp this e'.2.1 ?_
              rw [← List.map_take]
              exact List.mem_map.mpr ⟨e', he', by rw [q3]⟩
            refine ⟨_, rfl, farKv (closedOf (nodes.take i)), kSt e.1, b, rfl, hb, hF6, ?_, ?_⟩
            · unfold farKv
              rw [List.length_map]
              refine Nat.lt_of_le_of_lt (m := 1728) (Nat.le_trans (List.length_filterMap_le _ _) ?_) (by decide)
              rw [List.length_take]
              omega
            · have := putK_far (d := 0) hnot
              refine ⟨fun a o ea => (upd_ne (ne_of_none ea hF)).trans (s6 _ _ ea), ?_⟩
              rw [upd_same]
              show some (HO.dT (putK (farKv (closedOf (nodes.take i))) (kSt e.1) (.int ((0 : Nat) : Int)))) = _
              rw [this, hct]
              rfl
          · have c' : ¬ e.1.2.2.1 = e.1.2.2.2 := fun z => c (decide_eq_true z)
            rw [if_neg c'] at hct
            refine ⟨s6, ?_⟩
            rw [hF6, hct]
            simp
        · obtain ⟨s6, hF6⟩ := p
          rw [hkl, List.take_length] at hF6
          refine ⟨s6 _ _ hL3, ?_⟩
          have s7 := bk3 _ s6
          have s07 := s5.trans s7
          have hF7 : (upd H6 tb (.dT (tabKv nodes))) F = some (.dT (farKv (closedOf nodes))) := (upd_ne ntF).trans hF6
          have hB7 := hB5.mv s7
          generalize upd H6 tb (.dT (tabKv nodes)) = H7 at s7 s07 hF7 hB7
          refine ⟨_, rfl, F, _, rfl, .inl hF7, fun wl bs hwl hbs => ?_⟩
          have dwl := iskeys_sd hbs
          have s8 : Same H7 (upd H7 wl (.lst (bs.map V.ref))) := same_new hwl
          have hF8 := s8 _ _ hF7
          have hB8 := hB7.mv s8
          have hw8 : (upd H7 wl (.lst (bs.map V.ref))) wl = some (.lst (bs.map V.ref)) := upd_same
          have dw8 := dwl.sm s8
          have s08 := s07.trans s8
          have hwl0 : H wl = none := s07.free hwl
          have nlw : ∀ e ∈ l4, e.2.1 ≠ wl := fun e he z => by
            obtain ⟨es, a, _⟩ := hB7.2.2 e he
            rw [z, hwl] at a
            cases a
          have nDF : D ≠ F := fun z => by have := hB5.1; rw [z, hF5] at this; cases this
          generalize upd H7 wl (.lst (bs.map V.ref)) = H8 at s8 s08 hF8 hB8 hw8 dw8
          refine while_by (fun (σ : L2.St) (H' : Hp) => ∃ (fl : List (Stand × Nat)) (at' : Nat) (x3 x9 : Option V), Same H H' ∧ BefAt H' D l4 ∧ H' F = some (.dT (farKv fl)) ∧ (∃ us, H' wl = some (.lst us) ∧ SdAll H' us (fl.map fun p => eStand p.1)) ∧ at' ≤ fl.length ∧ Bfs W steps nodes fl at' ∧ ∃ x4 x5,
              σ = [some (.ref tb), some (.ref T.is_closed.f), some (.ref D), x3, x4, x5, some (.ref F), some (.ref wl), some (.int (at' : Nat)), x9])
            (fun σ _ => match σ[8]? with
              | some (some (V.int a)) => (2000 - a).toNat
              | _ => 0) ⟨closedOf nodes, 0, _, none, s08, hB8, hF8, ⟨_, hw8, dw8⟩, Nat.zero_le _, bfs_start ok.nd, _, _, rfl⟩ (fun σ H9 p => ?_) fun σ H' Q1 Q2 hq h => ?_
          · obtain ⟨fl, at', x3, x9, s9, hB9, hF9, ⟨us, hus, dus⟩, hat, B9, x4, x5, rfl⟩ := p
            have hul : us.length = fl.length := by rw [dus.len, List.length_map]
            have flen : ∀ {fl : List (Stand × Nat)} {k : Nat}, Bfs W steps nodes fl k → fl.length ≤ 1728 := fun {fl k} B => by
              have := nodup_len (m := nodes.map (·.1)) B.nd fun u hu => by
                obtain ⟨p, hp, rfl⟩ := List.mem_map.mp hu
                exact B.sub p hp
              rw [List.length_map, List.length_map] at this
              omega
            have fl1 := flen B9
            refine ⟨_, rfl, _, rfl, wl, us, rfl, .inl (SqL.of hus), _, _, rfl, rfl, _, rfl, ite2 (fun hc => ?_) fun hc => ?_⟩
            · have hc' : at' < fl.length := by have := of_decide_eq_true hc; omega
              obtain ⟨p, hp⟩ : ∃ p, fl[at']? = some p := ⟨fl[at'], List.getElem?_eq_getElem hc'⟩
              obtain ⟨nv, hnv, hsn⟩ := dus.at (map_at (f := fun p : Stand × Nat => eStand p.1) hp)
              obtain ⟨nb, rfl, hnb⟩ := sd_stand hsn
              have hpk := B9.sub p (mem_at hp)
              rw [← hI4.keys] at hpk
              obtain ⟨e0, he0, e0k⟩ := List.mem_map.mp hpk
              have e0k' : e0.1 = p.1 := e0k
              obtain ⟨es0, hes0, des0⟩ := hB9.2.2 e0 he0
              rw [hI4.val e0 he0, e0k'] at des0
              have hg0 := bef_at (by rw [hI4.keys]; exact ok.nd) he0
              rw [e0k'] at hg0
              have hel := sda_len des0
              refine ⟨_, rfl, _, rfl, wl, us, _, _, rfl, rfl, SqL.of hus, atI_of hnv, ?_⟩
              refine ⟨_, rfl, _, _, rfl, rfl, ?_⟩
              refine ⟨_, rfl, _, rfl, D, .ref e0.2.1, rfl, .inr ⟨befKv l4, kSt p.1, nb, .inl hB9.1, rfl, hnb, hg0.symm⟩, e0.2.1, rfl, ⟨es0, SqL.of hes0⟩, ?_⟩
              have nef : e0.2.1 ≠ wl := nlw e0 he0
              refine for_it walk_list (fun (j : Nat) (σ : L2.St) (H' : Hp) => ∃ fl', Same H H' ∧ Ft H9 H' ∧ BefAt H' D l4 ∧ H' F = some (.dT (farKv fl')) ∧ (∃ us, H' wl = some (.lst us) ∧ SdAll H' us (fl'.map fun p => eStand p.1)) ∧ Bfs W steps nodes fl' at' ∧ fl'[at']? = some p ∧ (∀ v ∈ (predsOf (pairsOf nodes) p.1).take j, ∃ e', (v, e') ∈ fl' ∧ e' ≤ p.2 + 1) ∧ H' e0.2.1 = some (.lst es0) ∧ ∃ x9,
                  σ = [some (.ref tb), some (.ref T.is_closed.f), some (.ref D), some (.ref nb), x4, x5, some (.ref F), some (.ref wl), some (.int ((at' : Nat) + (1 : Int))), x9])
                ⟨fl, s9, fun _ _ h => h, hB9, hF9, ⟨us, hus, dus⟩, B9, hp, (fun v hv => nomatch hv), hes0, x9, rfl⟩ (fun j σ H' _ ⟨_, _, _, _, _, _, _, _, _, b, _⟩ => SqL.of b) (fun j x' σ HA HB hj p' yy => ?_) fun σ HA p' => ?_
              · obtain ⟨fl', sA, fA, hBA, hFA, ⟨usA, husA, dusA⟩, BA, hpA, hdA, hesA, y9, rfl⟩ := p'
                obtain ⟨rfl, e3⟩ := yy
                obtain ⟨v, hv, hsv⟩ := item_at des0 e3
                have hsvB := hsv.mt fA
                obtain ⟨vb, rfl, hvb⟩ := sd_stand hsvB
                have hvm := mem_at hv
                have ulA : usA.length = fl'.length := by rw [dusA.len, List.length_map]
                have flA := flen BA
                have htk : (predsOf (pairsOf nodes) p.1).take (j + 1) = (predsOf (pairsOf nodes) p.1).take j ++ [v] := by rw [List.take_add_one, hv]; rfl
                refine ⟨_, rfl, _, rfl, F, _, rfl, .inr ⟨farKv fl', kSt v, vb, .inl hFA, rfl, hvb, rfl⟩, _, rfl, ?_⟩
                cases hval : valV (farKv fl') (kSt v) with
                | some a =>
                  refine iteF ⟨fl', sA, fA, hBA, hFA, ⟨usA, husA, dusA⟩, BA, hpA, fun u hu => ?_, hesA, _, rfl⟩
                  rw [htk] at hu
                  rcases List.mem_append.mp hu with h | h
                  · exact hdA u h
                  · rw [List.mem_singleton.mp h]
                    have hin : v ∈ fl'.map (·.1) := Classical.byContradiction fun no => by rw [far_none.mpr no] at hval; cases hval
                    obtain ⟨r, hr, rfl⟩ := List.mem_map.mp hin
                    exact ⟨r.2, hr, BA.top p hpA r hr⟩
                | none =>
                  have hnot := far_none.mp hval
                  have hpl : valV (farKv fl') (kSt p.1) = some (.int ((p.2 : Nat) : Int)) := by rw [valV_far, JM.look_mem BA.nd (mem_at hpA)]; rfl
                  have hnbA := fA _ _ hnb
                  refine iteT ⟨_, rfl, _, rfl, F, _, rfl, .inr ⟨farKv fl', kSt p.1, nb, .inl hFA, rfl, hnbA, hpl.symm⟩, _, _, rfl, rfl, ?_⟩
                  refine ⟨_, rfl, _, rfl, F, _, rfl, .inr ⟨farKv fl', kSt v, vb, hFA, rfl, hvb, by unfold farKv; rw [List.length_map]; exact Nat.lt_of_le_of_lt flA (by decide), rfl⟩, ?_⟩
                  have nFw : wl ≠ F := fun z => by rw [z, hFA] at husA; cases husA
                  have husB : (upd HB F (.dT (putK (farKv fl') (kSt v) (.int ((p.2 : Nat) + (1 : Int)))))) wl = some (.lst usA) := (upd_ne nFw).trans husA
                  refine ⟨_, rfl, .inl ⟨rfl, usA, SqL.of husB⟩, _, rfl, wl, usA, _, rfl, rfl, husB, by rw [ulA]; exact Nat.lt_of_le_of_lt flA (by decide), ?_⟩
                  have hpk2 := putK_far (d := p.2 + 1) hnot
                  have hput : putK (farKv fl') (kSt v) (.int ((p.2 : Nat) + (1 : Int))) = farKv (fl' ++ [(v, p.2 + 1)]) := hpk2
                  rw [hput] at husB ⊢
                  have ft1 : Ft HB (upd HB F (.dT (farKv (fl' ++ [(v, p.2 + 1)])))) := ft_upd hFA fun _ z => nomatch z
                  have ft2 : Ft (upd HB F (.dT (farKv (fl' ++ [(v, p.2 + 1)])))) (upd (upd HB F (.dT (farKv (fl' ++ [(v, p.2 + 1)])))) wl (.lst (usA ++ [.ref vb]))) := ft_upd husB fun _ z => nomatch z
                  have ft12 := ft1.trans ft2
                  refine ⟨fl' ++ [(v, p.2 + 1)], fun a o ea => ?_, fA.trans ft12, ?_, (upd_ne (fun z => nFw z.symm)).trans upd_same, ⟨_, upd_same, ?_⟩, BA.put ok hpA (List.mem_of_mem_take (i := j + 1) (by rw [htk]; exact List.mem_append_right _ (List.mem_singleton.mpr rfl))) hnot, by rw [List.getElem?_append_left (List.getElem?_eq_some_iff.mp hpA).1]; exact hpA, fun u hu => ?_, (upd_ne nef).trans ((upd_ne (ne_of hesA hFA fun z => nomatch z)).trans hesA), _, rfl⟩
                  · rw [upd_ne (ne_of_none ea hwl0), upd_ne (ne_of_none ea hF0)]
                    exact sA _ _ ea
                  · refine ⟨?_, hBA.2.1, fun e he => ?_⟩
                    · rw [upd_ne (ne_of hBA.1 husA fun z => nomatch z), upd_ne nDF]
                      exact hBA.1
                    · obtain ⟨es, a, b⟩ := hBA.2.2 e he
                      exact ⟨es, by rw [upd_ne (nlw e he), upd_ne (ne_of a hFA fun z => nomatch z)]; exact a, b.mt ft12⟩
                  · rw [List.map_append]
                    exact (dusA.mt ft12).snoc (hsvB.mt ft12)
                  · rw [htk] at hu
                    rcases List.mem_append.mp hu with h | h
                    · obtain ⟨e', h1, h2⟩ := hdA u h
                      exact ⟨e', List.mem_append_left _ h1, h2⟩
                    · rw [List.mem_singleton.mp h]
                      exact ⟨p.2 + 1, List.mem_append_right _ (List.mem_singleton.mpr rfl), Nat.le_refl _⟩
              · obtain ⟨fl', sA, fA, hBA, hFA, hw, BA, hpA, hdA, _, y9, rfl⟩ := p'
                rw [hel, List.take_length] at hdA
                refine ⟨⟨fl', at' + 1, _, _, sA, hBA, hFA, hw, (List.getElem?_eq_some_iff.mp hpA).1, BA.next hpA hdA, _, _, rfl⟩, ?_⟩
                have := flen BA
                show (2000 - ((at' : Nat) + (1 : Int))).toNat < (2000 - ((at' : Nat) : Int)).toNat
                omega
            · have ea : at' = fl.length := by
                rcases Nat.lt_or_ge at' fl.length with c | c
                · refine absurd (decide_eq_true ?_) hc
                  rw [hul]
                  omega
                · omega
              subst ea
              exact ⟨_, rfl, q H9 F fl s9 hF9 (bfs_end ok B9)⟩
          · obtain ⟨v1, e1, v2, e2, p1, ys, r1, r2, i1, j1, r3, r4, k1, r5, q1⟩ := h
            exact ⟨v1, e1, v2, e2, p1, ys, r1, r2, i1, j1, r3, r4, k1, r5, hq _ _ q1⟩
end
end J
/-! least_count, numbers, is_empty_dict. -/
namespace J
open PySem PySem.Spec PyProof.Rows L2
abbrev St3 := PySem.Str × Int × Stand
def eSt3 (p : St3) : PyData := .tuple [.str p.1, .int p.2.1, eStand p.2.2]
def optV : Option Int → V
  | none => .non
  | some c => .int c
theorem FarOk.look {W : JM.Wo PySem.Str} {steps : PySem.Str → List Tri} {nodes : List Nd} {fl : List (Stand × Nat)} (F : FarOk W steps nodes fl) {u : Stand} (hu : u ∈ nodes.map (·.1)) {d : Nat} (h : JM.look fl u = some d) : JM.Far W steps u d := by
  by_cases c : ∃ d, JM.Cl W steps d u
  · obtain ⟨d', h'⟩ := c
    obtain ⟨e, _, he⟩ := JM.far_of h'
    have := F.yes u hu e he
    rw [h] at this
    cases this
    exact he
  · have := F.no u hu fun d hd => c ⟨d, hd⟩
    rw [h] at this
    cases this
theorem foldl_min : ∀ (r : List Int) (n : Int), (r.foldl min n ∈ n :: r) ∧ ∀ x ∈ n :: r, r.foldl min n ≤ x
  | [], n => ⟨List.mem_cons_self .., fun x hx => by rw [List.mem_singleton.mp hx]; exact Int.le_refl _⟩
  | a :: r, n => by
    obtain ⟨h1, h2⟩ := foldl_min r (min n a)
    show r.foldl min (min n a) ∈ n :: a :: r ∧ ∀ x ∈ n :: a :: r, r.foldl min (min n a) ≤ x
    have hm := h2 _ (List.mem_cons_self ..)
    refine ⟨?_, fun x hx => ?_⟩
    · rcases List.mem_cons.mp h1 with e | e
      · rw [e]
        rcases Int.le_total n a with c | c
        · rw [Int.min_eq_left c]; exact List.mem_cons_self ..
        · rw [Int.min_eq_right c]; exact List.mem_cons_of_mem _ (List.mem_cons_self ..)
      · exact List.mem_cons_of_mem _ (List.mem_cons_of_mem _ e)
    · rcases List.mem_cons.mp hx with e | e
      · rw [e]; omega
      · rcases List.mem_cons.mp e with e | e
        · rw [e]; omega
        · exact h2 x (List.mem_cons_of_mem _ e)
theorem least_of {W : JM.Wo PySem.Str} {steps : PySem.Str → List Tri} {nodes : List Nd} {fl : List (Stand × Nat)} (F : FarOk W steps nodes fl) {us : List Stand} (hu : ∀ u ∈ us, u ∈ nodes.map (·.1)) :
    (us.filterMap (fun u => (JM.look fl u).map fun d => ((d : Nat) : Int) + 1) = [] → JM.LeastIs W steps us none) ∧ ∀ n r, us.filterMap (fun u => (JM.look fl u).map fun d => ((d : Nat) : Int) + 1) = n :: r → JM.LeastIs W steps us (some (r.foldl min n)) := by
  have hin : ∀ u ∈ us, ∀ d, JM.Cl W steps d u → ∃ e : Nat, e ≤ d ∧ JM.look fl u = some e := fun u hu' d hd => by
    obtain ⟨e, he, hf⟩ := JM.far_of hd
    exact ⟨e, he, F.yes u (hu u hu') e hf⟩
  constructor
  · intro h u hu' d hd
    obtain ⟨e, _, he⟩ := hin u hu' d hd
    have : ((e : Nat) : Int) + 1 ∈ us.filterMap (fun u => (JM.look fl u).map fun d => ((d : Nat) : Int) + 1) := List.mem_filterMap.mpr ⟨u, hu', by rw [he]; rfl⟩
    rw [h] at this
    cases this
  · intro n r h
    obtain ⟨m1, m2⟩ := foldl_min r n
    rw [← h] at m1 m2
    obtain ⟨u, hu1, hu2⟩ := List.mem_filterMap.mp m1
    cases hl : JM.look fl u with
    | none => rw [hl] at hu2; cases hu2
    | some d =>
      rw [hl] at hu2
      have e : ((d : Nat) : Int) + 1 = r.foldl min n := Option.some.inj hu2
      refine ⟨d, e.symm, ⟨u, hu1, (F.look (hu u hu1) hl).1⟩, fun k hk v hv hc => ?_⟩
      obtain ⟨e', h1, h2⟩ := hin v hv k hc
      have := m2 (((e' : Nat) : Int) + 1) (List.mem_filterMap.mpr ⟨v, hv, by rw [h2]; rfl⟩)
      omega
def numKv (kvs : List (Stand × Int)) : List (List Key × V) := kvs.map fun p => (kSt p.1, V.int p.2)
theorem valV_num : ∀ (l : List (Stand × Int)) (u : Stand), valV (numKv l) (kSt u) = (JM.look l u).map V.int
  | [], u => rfl
  | e :: r, u => by
    show valV ((kSt e.1, V.int e.2) :: numKv r) (kSt u) = _
    rw [valV_cons, JM.look_cons, valV_num r u]
    by_cases c : e.1 = u
    · rw [if_pos c, if_pos (by rw [c])]; rfl
    · rw [if_neg c, if_neg fun z => c (kSt_inj z)]
theorem num_none {l : List (Stand × Int)} {u : Stand} (h : u ∉ l.map (·.1)) : valV (numKv l) (kSt u) = none := by
  rw [valV_num, JM.look_none.mpr fun x hx => h (List.mem_map.mpr ⟨_, hx, rfl⟩)]
  rfl
/-- what the told dict holds -/
structure NumOk (nodes : List Nd) (fl : List (Stand × Nat)) (c : Int) (kvs : List (Stand × Int)) : Prop where
  nd : (kvs.map (·.1)).Nodup
  keys : ∀ u, u ∈ kvs.map (·.1) ↔ u ∈ nodes.map (·.1) ∧ ¬ JM.Closed u
  val : ∀ p ∈ kvs, p.2 = min ((JM.look fl p.1).elim c fun d => ((d : Nat) : Int)) (c - 1)
theorem NumOk.paper {W : JM.Wo PySem.Str} {S : List PySem.Str} {steps : PySem.Str → List Tri} {firsts : List Stand} {nodes : List Nd} {fl : List (Stand × Nat)} {c : Int} {kvs : List (Stand × Int)} (ok : TabOk W S steps firsts nodes) (F : FarOk W steps nodes fl) (N : NumOk nodes fl c kvs) : JM.PaperOf W S steps firsts c kvs := by
  have key : ∀ u, u ∈ nodes.map (·.1) → ¬ JM.Closed u → ∃ x, (u, x) ∈ kvs := fun u h1 h2 => by
    obtain ⟨p, hp, e⟩ := List.mem_map.mp ((N.keys u).mpr ⟨h1, h2⟩)
    exact ⟨p.2, by rw [← e]; exact hp⟩
  refine ⟨N.nd, fun p hp => ?_, fun u hu ho => key u (ok.first u hu) ho, fun p hp s hs f hf ho => ?_, fun p hp d hd => ?_, fun p hp hn => ?_⟩
  · obtain ⟨h1, h2⟩ := (N.keys p.1).mp (List.mem_map.mpr ⟨p, hp, rfl⟩)
    obtain ⟨e, he, e2⟩ := List.mem_map.mp h1
    have := ok.good e he
    rw [show e.1 = p.1 from e2] at this
    exact ⟨this, h2⟩
  · obtain ⟨h1, h2⟩ := (N.keys p.1).mp (List.mem_map.mpr ⟨p, hp, rfl⟩)
    obtain ⟨e, he, e2⟩ := List.mem_map.mp h1
    have e3 : e.1 = p.1 := e2
    obtain ⟨k, hk⟩ := (ok.edges e he (by rw [e3]; exact h2) f).mpr ⟨s, by rw [e3]; exact hs, by rw [e3]; exact hf⟩
    exact key f (ok.inn e he _ hk) ho
  · obtain ⟨h1, h2⟩ := (N.keys p.1).mp (List.mem_map.mpr ⟨p, hp, rfl⟩)
    have := N.val p hp
    rw [F.yes p.1 h1 d hd] at this
    exact this
  · obtain ⟨h1, h2⟩ := (N.keys p.1).mp (List.mem_map.mpr ⟨p, hp, rfl⟩)
    have := N.val p hp
    rw [F.no p.1 h1 hn] at this
    have e : p.2 = min c (c - 1) := this
    omega
section
variable {P : Program} {w : World} {K : PySem.W.Frag} {mg : Str → Option Value} {base : Heap}
theorem sd_st3 {H : Hp} {v : V} {p : St3} (h : Sd H v (eSt3 p)) : ∃ a b, v = .ref a ∧ H a = some (.tup [.str p.1, .int p.2.1, .ref b]) ∧ Sd H (.ref b) (eStand p.2.2) ∧ H b = some (.tup ((kSt p.2.2).map kV)) := by
  obtain ⟨a, xs, rfl, ha, h1⟩ := sd_tup h
  obtain ⟨u1, r1, rfl, e1, h2⟩ := sda_cons h1
  obtain ⟨u2, r2, rfl, e2, h3⟩ := sda_cons h2
  obtain ⟨u3, r3, rfl, e3, h4⟩ := sda_cons h3
  obtain ⟨b, rfl, hb⟩ := sd_stand e3
  rw [sda_nil h4, sd_str e1, sd_int e2] at ha
  exact ⟨a, b, rfl, ha, e3, hb⟩
def sp_least_count : Sp := fun vs H Q _ => ∃ (v : V) (fr : Addr) (sts : List St3) (W : JM.Wo PySem.Str) (steps : PySem.Str → List Tri) (nodes : List Nd) (fl : List (Stand × Nat)), vs = [v, .ref fr] ∧ LAt eSt3 H v sts ∧ sts.length ≤ 1000 ∧ H fr = some (.dT (farKv fl)) ∧ FarOk W steps nodes fl ∧ (∀ p ∈ sts, p.2.2 ∈ nodes.map (·.1)) ∧
  ∀ H' r, Same H H' → JM.LeastIs W steps (sts.map (·.2.2)) r → Q (optV r) H'
theorem sc_least_count : FnScope ["start", "far", "counts", "_", "node"] ["start", "far"] (defScope s_least_count) := ⟨rfl, rfl, rfl, by decide +kernel, rfl, by decide +kernel, by decide +kernel⟩
-- slots: 0 start, 1 far*, 2 counts, 3 _, 4 node
theorem ok_least_count (T : Wd K mg) : FnOk P w K mg base CX0 1 T.least_count.f T.least_count.fd ["start", "far"] sp_least_count := by
  refine T.least_count.F.ok sc_least_count (fun vs H Q E h => ?_) (fun cdv A outer s H vs Q E hr h => ?_)
  · obtain ⟨v, fr, sts, W, steps, nodes, fl, rfl, _⟩ := h
    rfl
  · obtain ⟨v, fr, sts, W, steps, nodes, fl, rfl, hv, hl, hfr, F, hin, q⟩ := h
    obtain ⟨a, us, rfl, ha, hus⟩ := hv
    have hul := sda_len hus
    refine ⟨_, PSs.nox (pss_cons (ps_setLc (i := 2) (own := [("_", 3), ("node", 4)]) rfl sc_least_count.nd rfl rfl (sw_true rfl rfl rfl (by decide +kernel)) (g := gTup K 3 (gCons (gName 3) (gCons (gName 3) (gCons (gName 4) (gNil))))) (pi_list (pv 0)) (blkOk_by (own := [("_", 3), ("node", 4)]) (N := ["start", "far", "counts", "_", "node"]) (sc := defScope s_least_count) (by decide +kernel)) (fun _ _ _ _ _ => (pg_tup (by rfl) (pgs_cons (pg_name (i := 3) sc_least_count.nd rfl (.inl rfl)) (pgs_cons (pg_name (i := 3) sc_least_count.nd rfl (.inl rfl)) (pgs_cons (pg_name (i := 4) sc_least_count.nd rfl (.inl rfl)) pgs_nil))))) (fun _ _ _ _ _ => pts_one (pt_cmp (pc_din (hu_of hr) (pv 4) (pv 1)))) (fun _ _ _ _ _ => (pe_op op_add (pe_dget (hu_of hr) (pv 1) (pv 4) (fun _ _ => rfl)) pe_int)))
      (pss_one (ps_ret (pe_callBK (cr_minDef rfl hr.units) (by rfl) T.n_min (by decide +kernel) (pa_cons (pv 2) pa_nil) (pk_cons pe_non pk_nil)))))
, ?_⟩
    refine ⟨_, rfl, a, rfl, ⟨us, SqL.of ha⟩, fun D hD => ?_⟩
    refine lc_pure walk_list sts (fun p => (JM.look fl p.2.2).map fun d => ((d : Nat) : Int) + 1) PyData.int hul (by rw [hul]; exact Nat.le_trans hl (by decide)) hD (fun H' s => SqL.of (s _ _ ha)) (fun i z x' H1 H2 N N0 hz s1 yy hN hN0 => ?_) fun H5 us5 s5 hD5 hu5 => ?_
    · obtain ⟨rfl, e2⟩ := yy
      obtain ⟨p, hp, hsd⟩ := item_at hus e2
      rw [hz] at hp
      cases hp
      obtain ⟨c, b, rfl, hc, _, hb⟩ := sd_st3 (hsd.sm s1)
      have hfr2 := s1 _ _ hfr
      refine ⟨c, _, rfl, SqT.of hc, rfl, _, _, rfl, _, _, rfl, _, _, rfl, rfl, rfl, _, rfl, _, rfl, fr, valV (farKv fl) (kSt z.2.2), rfl, .inr ⟨_, _, b, .inl hfr2, rfl, hb, rfl⟩, _, rfl, ?_⟩
      rw [valV_far]
      cases hlk : JM.look fl z.2.2 with
      | none => exact iteF (hN0 (by rw [hlk]; rfl) _ (Same.refl _))
      | some d =>
        refine iteT ⟨_, rfl, _, rfl, fr, .int ((d : Nat) : Int), rfl, .inr ⟨_, _, b, .inl hfr2, rfl, hb, by rw [valV_far, hlk]; rfl⟩, _, _, rfl, rfl, hN _ _ (((d : Nat) : Int) + 1) (Same.refl _) (by rw [hlk]; rfl) (.int _)⟩
    · have eq : sts.filterMap (fun p => (JM.look fl p.2.2).map fun d => ((d : Nat) : Int) + 1) = (sts.map (·.2.2)).filterMap (fun u => (JM.look fl u).map fun d => ((d : Nat) : Int) + 1) := by
        rw [List.filterMap_map]
        rfl
      rw [eq] at hu5
      have L := least_of F (us := sts.map (·.2.2)) fun u hu => by
        obtain ⟨p, hp, rfl⟩ := List.mem_map.mp hu
        exact hin p hp
      rw [sda_ints hu5] at hD5
      refine ⟨_, rfl, D, _, rfl, rfl, SqL.of hD5, fun e => q H5 none s5 (L.1 e), fun n r e => q H5 (some (r.foldl min n)) s5 (L.2 n r e)⟩
def sp_numbers (T : Wd K mg) : Sp := fun vs H Q _ => ∃ (tb fr : Addr) (c : Int) (nodes : List Nd) (fl : List (Stand × Nat)), vs = [.ref tb, .ref fr, .ref T.is_closed.f, .int c] ∧ TabAt H tb nodes ∧ (nodes.map (·.1)).Nodup ∧ nodes.length ≤ 1728 ∧ H fr = some (.dT (farKv fl)) ∧
  ∀ (H' : Hp) (p : Addr) (kvs : List (Stand × Int)), Same H H' → H' p = some (.dT (numKv kvs)) → NumOk nodes fl c kvs → Q (.ref p) H'
theorem sc_numbers : FnScope ["table", "far", "is_end", "count", "node"] ["table", "far", "is_end", "count"] (defScope s_numbers) := ⟨rfl, rfl, rfl, by decide +kernel, rfl, by decide +kernel, by decide +kernel⟩
-- slots: 0 table, 1 far*, 2 is_end*, 3 count*, 4 node
theorem ok_numbers (T : Wd K mg) : FnOk P w K mg base CX0 2 T.numbers.f T.numbers.fd ["table", "far", "is_end", "count"] (sp_numbers T) := by
  have G_is_closed := ok_is_closed (P := P) (w := w) (base := base) T
  refine T.numbers.F.ok sc_numbers (fun vs H Q E h => ?_) (fun cdv A outer s H vs Q E hr h => ?_)
  · obtain ⟨tb, fr, c, nodes, fl, rfl, _⟩ := h
    rfl
  · obtain ⟨tb, fr, c, nodes, fl, rfl, ht, nd, hnl, hfr, q⟩ := h
    refine ⟨_, PSs.nox (pss_one (ps_ret (pe_dcT (own := [("node", 4)]) (g := gName 4) (hu_of hr) rfl sc_numbers.nd (pi_list (pe_callB (cr_sortedDT rfl hr.units) (by rfl) T.n_sorted (by decide +kernel) (pa_cons (pv 0) pa_nil))) (blkOk_by (own := [("node", 4)]) (N := ["table", "far", "is_end", "count", "node"]) (sc := defScope s_numbers) (by decide +kernel)) (fun _ _ _ _ _ => (pg_name (i := 4) sc_numbers.nd rfl (.inl rfl))) (fun _ _ _ _ _ => pts_one (pt_not (pt_val (pe_callL (i := 2) (f := T.is_closed.f) G_is_closed (hr.mono (by decide)) rfl (by first | exact .inl rfl | exact .inr (.inl rfl) | exact .inr (.inr rfl)) T.is_closed.F.kp T.is_closed.b .nil pass0 (pa_cons (pv 4) pa_nil)) (fun _ => rfl)))) (fun _ _ _ _ _ => (pv 4)) (fun _ _ _ _ _ => (pe_callB (call_min2 rfl) (by rfl) T.n_min (by decide +kernel) (pa_cons (pe_dget2 (hu_of hr) (pv 1) (pv 4) (pv 3) ⟨rfl, rfl, rfl, rfl⟩) (pa_cons (pe_op op_sub (pv 3) pe_int) pa_nil)))))))
, ?_⟩
    refine ⟨_, rfl, tb, tabKv nodes, nodes.map (·.1), rfl, .inl ht.1, by unfold tabKv; rw [List.map_map, List.map_map]; rfl, fun p us ys hp hperm hus => ⟨p, rfl, ⟨us, SqL.of upd_same⟩, fun D hD => ?_⟩⟩
    have s1 : Same H (upd H p (.lst us)) := same_new hp
    have hp1 : (upd H p (.lst us)) p = some (.lst us) := upd_same
    have hus1 := hus.sm s1
    have hfr1 := s1 _ _ hfr
    generalize upd H p (.lst us) = H1 at s1 hp1 hus1 hfr1 hD
    have hul := sda_len hus
    have hyl : ys.length ≤ 1728 := by rw [hperm.length_eq, List.length_map]; exact hnl
    have ndy : ys.Nodup := hperm.nodup_iff.mpr nd
    refine cg_it walk_list (u0 := fun _ => .dT []) (fun i H' => Same H1 H' ∧ ∃ kvs, H' D = some (.dT (numKv kvs)) ∧ kvs.map (·.1) = (ys.take i).filter (fun u => !decide (u.2.2.1 = u.2.2.2)) ∧ ∀ p ∈ kvs, p.2 = min ((JM.look fl p.1).elim c fun d => ((d : Nat) : Int)) (c - 1)) ⟨same_new' hD, [], upd_same, rfl, fun p hp => nomatch hp⟩ (fun i H' _ p => SqL.of (p.1 _ _ hp1)) (fun i x' H2 H3 hi p' yy => ?_) fun H2 p' => ?_
    · obtain ⟨s2, kvs, hD2, hk, hv⟩ := p'
      obtain ⟨rfl, e2⟩ := yy
      obtain ⟨u, hu, hsd⟩ := item_at hus1 e2
      have hsd3 := hsd.sm s2
      obtain ⟨b, rfl, hb⟩ := sd_stand hsd3
      have tk : ys.take (i + 1) = ys.take i ++ [u] := by rw [List.take_add_one, hu]; rfl
      refine ⟨rfl, rfl, _, rfl, _, u, rfl, hsd3, _, rfl, ?_⟩
      by_cases cl : u.2.2.1 = u.2.2.2
      · rw [decide_eq_true cl]
        refine iteF ⟨s2, kvs, hD2, ?_, hv⟩
        rw [tk, List.filter_append, hk]
        simp [cl]
      · rw [decide_eq_false cl]
        have hfr3 := s2 _ _ hfr1
        refine iteT ⟨_, rfl, _, rfl, fr, rfl, .inr ⟨_, .inl hfr3⟩, _, rfl, _, rfl, valV (farKv fl) (kSt u), .inr ⟨_, kSt u, b, .inl hfr3, rfl, hb, rfl⟩, _, rfl, _, 1, rfl, rfl, ?_⟩
        have hg : ∃ x : Int, (valV (farKv fl) (kSt u)).getD (.int c) = .int x ∧ x = (JM.look fl u).elim c fun d => ((d : Nat) : Int) := by
          rw [valV_far]
          cases JM.look fl u with
          | none => exact ⟨_, rfl, rfl⟩
          | some d => exact ⟨_, rfl, rfl⟩
        obtain ⟨x, hx, hx2⟩ := hg
        have hnot : u ∉ kvs.map (·.1) := fun m => by
          rw [hk] at m
          have m2 := (List.mem_filter.mp m).1
          obtain ⟨j, hj, e5⟩ := List.getElem_of_mem m2
          have hji : j < i := by rw [List.length_take] at hj; omega
          obtain ⟨hi2, e6⟩ := List.getElem?_eq_some_iff.mp hu
          rw [List.getElem_take] at e5
          exact absurd ((List.getElem_inj ndy).mp (e5.trans e6.symm)) (by omega)
        have hlen : kvs.length ≤ 1728 := by
          have := congrArg List.length hk
          rw [List.length_map] at this
          have l1 := List.length_filter_le (fun u : Stand => !decide (u.2.2.1 = u.2.2.2)) (ys.take i)
          have l2 := List.length_take_le' i ys
          omega
        refine ⟨x, c - 1, by rw [hx], numKv kvs, kSt u, b, rfl, hb, hD2, by unfold numKv; rw [List.length_map]; exact Nat.lt_of_le_of_lt hlen (by decide), fun a o ea => (upd_ne (ne_of_none ea hD)).trans (s2 _ _ ea), kvs ++ [(u, min x (c - 1))], ?_, ?_, fun p hp => ?_⟩
        · rw [upd_same, putK_new _ (num_none hnot)]
          have em : (if c - 1 < x then c - 1 else x) = min x (c - 1) := by
            by_cases c9 : c - 1 < x
            · rw [if_pos c9]; omega
            · rw [if_neg c9]; omega
          show some (HO.dT (numKv kvs ++ [(kSt u, V.int (if c - 1 < x then c - 1 else x))])) = _
          rw [em]
          unfold numKv
          rw [List.map_append]
          rfl
        · rw [List.map_append, hk, tk, List.filter_append]
          simp [cl]
        · rcases List.mem_append.mp hp with h | h
          · exact hv p h
          · rw [List.mem_singleton.mp h, ← hx2]
    · obtain ⟨s2, kvs, hD2, hk, hv⟩ := p'
      rw [hul, List.take_length] at hk
      refine q H2 D kvs (s1.trans s2) hD2 ⟨?_, fun u => ?_, hv⟩
      · rw [hk]
        exact ndy.filter _
      · rw [hk, List.mem_filter, hperm.mem_iff]
        simp [JM.Closed]
def sp_is_empty_dict : Sp := fun vs H Q _ => ∃ a : Addr, vs = [.ref a] ∧ H a = some (.dK []) ∧ Q (.bl true) H
theorem sc_is_empty_dict : FnScope ["thing"] ["thing"] (defScope s_is_empty_dict) := ⟨rfl, rfl, rfl, by decide +kernel, rfl, by decide +kernel, by decide +kernel⟩
-- slots: 0 thing
theorem ok_is_empty_dict (T : Wd K mg) : FnOk P w K mg base CX0 1 T.is_empty_dict.f T.is_empty_dict.fd ["thing"] sp_is_empty_dict := by
  refine T.is_empty_dict.F.ok sc_is_empty_dict (fun vs H Q E h => ?_) (fun cdv A outer s H vs Q E hr h => ?_)
  · obtain ⟨a, rfl, _⟩ := h
    rfl
  · obtain ⟨a, rfl, ha, q⟩ := h
    refine ⟨_, PSs.nox (pss_one (ps_ret (pe_and (pe_callB call_isi (by rfl) T.n_isinstance (by decide +kernel) (pa_cons (pv 0) (pa_cons (pe_bltn (v := .ty "dict") (by rfl) T.n_dict (by decide +kernel) rfl) pa_nil))) (pe_one (pe_cmpR op_eq (pe_callB call_lenD (by rfl) T.n_len (by decide +kernel) (pa_cons (pv 0) pa_nil)) pe_int (nomark _))))))
, ?_⟩
    exact ⟨_, rfl, _, _, _, _, true, rfl, .ty _, .base (.dK ha), kit_ty (by decide +kernel), true, rfl, iteT ⟨_, rfl, a, [], rfl, ha, rfl, q⟩⟩
end
end J
/-! first_stands. -/
namespace J
open PySem PySem.Spec PyProof.Rows L2
def firstsS (n span : Int) (ws : List (PySem.Str × List Row)) (o : RsO) : List Stand := (firstsF n ws o).flatMap (standsOf (woOf n span ws))
theorem mem_stands {W : JM.Wo PySem.Str} {s : Tri} {u : Stand} : u ∈ standsOf W s ↔ ∃ i : Nat, (i : Int) < W.m s.1 ∧ u = (s.2.2, (s.1, ((i : Int), (i : Int) + W.m s.1 - 1))) := by
  unfold standsOf
  rw [List.mem_map]
  constructor
  · rintro ⟨i, hi, rfl⟩
    exact ⟨i, by rw [List.mem_range] at hi; omega, rfl⟩
  · rintro ⟨i, hi, rfl⟩
    exact ⟨i, by rw [List.mem_range]; omega, rfl⟩
theorem stands_good {W : JM.Wo PySem.Str} (Kw : JM.WoOk W) {S : List PySem.Str} {s : Tri} {u : Stand} (h1 : s.1 ∈ W.words) (h2 : s.2.2 ∈ S) (hu : u ∈ standsOf W s) : JM.Good W S u := by
  obtain ⟨i, hi, rfl⟩ := mem_stands.mp hu
  have := Kw.m_pos h1
  exact ⟨h2, h1, by show (0 : Int) ≤ i; omega, hi, by show (i : Int) ≤ (i : Int) + W.m s.1 - 1; omega, by show (i : Int) + W.m s.1 - 1 < (i : Int) + W.m s.1; omega⟩
theorem firstsS_good {n span : Int} {ws : List (PySem.Str × List Row)} {o : RsO} (Kw : JM.WoOk (woOf n span ws)) (m : MachOk n ws o) {u : Stand} (hu : u ∈ firstsS n span ws o) : JM.Good (woOf n span ws) (statesOf o) u := by
  obtain ⟨s, hs, h⟩ := List.mem_flatMap.mp hu
  obtain ⟨h1, h2⟩ := firsts_in m hs
  exact stands_good Kw h1 h2 h
theorem make_same {H H' : Hp} {x dx C : Addr} (n1 : H x = none) (n2 : H dx = none) (k : SameX x (upd (upd H dx (.own x)) x (.ins C dx [])) H') : Same H H' := fun b o e => k b o (ne_of_none e n1) (by rw [upd_ne (ne_of_none e n1), upd_ne (ne_of_none e n2)]; exact e)
theorem make_none {H : Hp} {x dx C b : Addr} (h : (upd (upd H dx (.own x)) x (.ins C dx [])) b = none) : H b = none := by
  have n1 : b ≠ x := fun z => by rw [z, upd_same] at h; cases h
  rw [upd_ne n1] at h
  have n2 : b ≠ dx := fun z => by rw [z, upd_same] at h; cases h
  rw [upd_ne n2] at h
  exact h
theorem sda_keys {H : Hp} : ∀ {us : List V} {ys : List Stand}, SdAll H us (ys.map eStand) → ∃ ks : List (Addr × List Key), us = ks.map (fun p => V.ref p.1) ∧ ks.map (·.2) = ys.map kSt ∧ ∀ p ∈ ks, H p.1 = some (.tup (p.2.map kV))
  | _, [], h => ⟨[], by rw [sda_nil h]; rfl, rfl, fun p hp => nomatch hp⟩
  | _, y :: ys, h => by
    obtain ⟨u, us, rfl, a, b⟩ := sda_cons h
    obtain ⟨c, rfl, hc⟩ := sd_stand a
    obtain ⟨ks, rfl, h2, h3⟩ := sda_keys b
    refine ⟨(c, kSt y) :: ks, rfl, by rw [List.map_cons, h2]; rfl, fun p hp => ?_⟩
    rcases List.mem_cons.mp hp with e | e
    · rw [e]; exact hc
    · exact h3 p e
theorem keys_back {ys : List Stand} : ∀ {L : List (List Key)}, (∀ k ∈ L, k ∈ ys.map kSt) → ∃ sts : List Stand, L = sts.map kSt ∧ ∀ u ∈ sts, u ∈ ys
  | [], _ => ⟨[], rfl, fun u hu => nomatch hu⟩
  | k :: L, h => by
    obtain ⟨u, hu, rfl⟩ := List.mem_map.mp (h k (List.mem_cons_self ..))
    obtain ⟨sts, rfl, h2⟩ := keys_back fun k hk => h k (List.mem_cons_of_mem _ hk)
    refine ⟨u :: sts, rfl, fun v hv => ?_⟩
    rcases List.mem_cons.mp hv with e | e
    · rw [e]; exact hu
    · exact h2 v e
theorem kst_inj {u v : Stand} (h : kSt u = kSt v) : u = v := by
  obtain ⟨a, b, c, d⟩ := u
  obtain ⟨a', b', c', d'⟩ := v
  injection h with h1 h
  injection h with h2 h
  injection h with h3 h
  injection h with h4 _
  have e1 : a = a' := Sum.inr.inj h1
  have e2 : b = b' := Sum.inr.inj h2
  have e3 : c = c' := Sum.inl.inj h3
  have e4 : d = d' := Sum.inl.inj h4
  rw [e1, e2, e3, e4]
/-- the keys that a first stand can have -/
def firstKeys (W : JM.Wo PySem.Str) (S : List PySem.Str) : List (List Key) := S.flatMap fun a => W.words.flatMap fun b => (List.range 12).map fun (i : Nat) => kSt (a, (b, ((i : Int), (i : Int) + W.m b - 1)))
theorem firstKeys_len (W : JM.Wo PySem.Str) {S : List PySem.Str} (hS : S.length ≤ 3) (hw : W.words.length ≤ 2) : (firstKeys W S).length ≤ 72 := by
  have gen : ∀ {α β : Type} (f : α → List β) (k : Nat) (l : List α), (∀ x ∈ l, (f x).length = k) → (l.flatMap f).length = l.length * k := fun f k l h => by
    induction l with
    | nil => simp
    | cons a l ih =>
      rw [List.flatMap_cons, List.length_append, h a (List.mem_cons_self ..), ih fun x hx => h x (List.mem_cons_of_mem _ hx), List.length_cons, Nat.add_mul]
      omega
  have e : (firstKeys W S).length = S.length * (W.words.length * 12) := gen _ _ _ fun a _ => gen _ _ _ fun b _ => by rw [List.length_map, List.length_range]
  rw [e]
  have := Nat.mul_le_mul hS (Nat.mul_le_mul_right 12 hw)
  omega
section
variable {P : Program} {w : World} {K : PySem.W.Frag} {mg : Str → Option Value} {base : Heap}
def sp_first_stands (T : Wd K mg) : Sp := fun vs H Q _ => ∃ (v l : V) (n span : Int) (ws : List (PySem.Str × List Row)) (o : RsO), vs = [v, l] ∧ PartAt T H v n ws ∧ SpanIs n ws span ∧ LetOr T H l n ws o ∧
  ∀ (H' : Hp) (p : V) (ys : List Stand), Same H H' → LAt eStand H' p ys → (∀ u, u ∈ ys ↔ u ∈ firstsS n span ws o) → ys.length ≤ 1000 → Q p H'
theorem sc_first_stands : FnScope ["part", "let", "board", "found", "word", "_", "state"] ["part", "let"] (defScope s_first_stands) := ⟨rfl, rfl, rfl, by decide +kernel, rfl, by decide +kernel, by decide +kernel⟩
-- slots: 0 part, 1 let, 2 board, 3 found, 4 word, 5 _, 6 state
theorem ok_first_stands (T : Wd K mg) : FnOk P w K mg base CX0 8 T.first_stands.f T.first_stands.fd ["part", "let"] (sp_first_stands T) := by
  have G_check_let := ok_check_let (P := P) (w := w) (base := base) T
  have G_Board_init := ok_Board_init (P := P) (w := w) (base := base) T
  have G_first_steps := ok_first_steps (P := P) (w := w) (base := base) T
  have G_stands_of := ok_stands_of (P := P) (w := w) (base := base) T
  refine T.first_stands.F.ok sc_first_stands (fun vs H Q E h => ?_) (fun cdv A outer s H vs Q E hr h => ?_)
  · obtain ⟨v, l, n, span, ws, o, rfl, _⟩ := h
    rfl
  · obtain ⟨v, l, n, span, ws, o, rfl, hv, hsp, hl, q⟩ := h
    have mok := hl.mach
    have hv0 := hv
    obtain ⟨pa, pdx, d, rfl, hpa, _, ok⟩ := hv0
    refine ⟨_, PSs.nox (pss_cons (ps_expr (pe_call G_check_let (hr.mono (by decide)) (by rfl) T.check_let.g T.check_let.F.kp T.check_let.b .nil pass0 (pa_cons (pv 0) (pa_cons (pv 1) pa_nil))))
      (pss_cons (ps_set (i := 2) sc_first_stands.nd rfl (.inl rfl) (pe_make T.Board_init.mkr G_Board_init (hr.mono (by decide)) (by rfl) T.Board.g T.Board_init.b .nil pass0 (pa_cons (pv 0) pa_nil)))
      (pss_cons (ps_set (i := 3) sc_first_stands.nd rfl (.inl rfl) (pe_lst pa_nil))
      (pss_cons (ps_for PassesOwn.never rfl (pi_list (pe_call G_first_steps (hr.mono (by decide)) (by rfl) T.first_steps.g T.first_steps.F.kp T.first_steps.b .nil pass0 (pa_cons (pv 2) (pa_cons (pv 1) pa_nil)))) (pg_tup (by rfl) (pgs_cons (pg_name (i := 4) sc_first_stands.nd rfl (.inl rfl)) (pgs_cons (pg_name (i := 5) sc_first_stands.nd rfl (.inl rfl)) (pgs_cons (pg_name (i := 6) sc_first_stands.nd rfl (.inl rfl)) pgs_nil))))
        (pss_one (ps_expr (pe_bm PySem.F.plainAttrs_list PySem.F.slot_list_extend PySem.F.type_list_extend mt_extend (pv 3) (pa_cons (pe_call G_stands_of (hr.mono (by decide)) (by rfl) T.stands_of.g T.stands_of.F.kp T.stands_of.b .nil pass0 (pa_cons (pv 2) (pa_cons (pv 4) (pa_cons (pv 6) pa_nil)))) pa_nil)))))
      (pss_one (ps_ret (pe_callB (cr_sortedM rfl hr.units) (by rfl) T.n_sorted (by decide +kernel) (pa_cons (pe_callTy (cr_setM rfl hr.units) (by rfl) T.n_set (by decide +kernel) (pa_cons (pv 3) pa_nil)) pa_nil))))))))
, ?_⟩
    refine ⟨_, rfl, _, rfl, _, l, n, ws, o, rfl, hv, hl, fun H1 s1 => ?_⟩
    refine ⟨_, rfl, fun x dx hx hdx nxd => ⟨x, dx, _, n, ws, rfl, upd_same, (hv.sm s1).ke ?_, fun H2 fd span2 k2 hfd hb hf => ⟨rfl, ?_⟩⟩⟩
    · exact ke_of fun b o e => by rw [upd_ne (ne_of_none e hx), upd_ne (ne_of_none e hdx)]; exact e
    have s2 : Same H1 H2 := make_same hx hdx k2
    have hb0 := hb
    obtain ⟨_, _, _, _, _, e, _, _, hsp2, _⟩ := hb0
    cases e
    have es := hsp2.uniq hsp
    subst es
    have Kw := woOf_ok ok hsp
    have s12 := s1.trans s2
    refine ⟨by show 0 ≤ sizeLine; decide, fun F hF => ?_⟩
    have s3 : Same H2 (upd H2 F (.lst [])) := same_new hF
    have hF3 : (upd H2 F (.lst [])) F = some (.lst []) := upd_same
    have hF0 : H F = none := s12.free hF
    have hFb : ∀ b o, H2 b = some o → b ≠ F := fun b o e => ne_of_none e hF
    refine ⟨_, rfl, _, rfl, _, l, n, span2, ws, fd, o, rfl, hb.ke (ke_of s3), hl.ke (ke_of (s12.trans s3)), fun H4 v4 L s4 hL4 hLl hmem => ?_⟩
    obtain ⟨la, lus, rfl, hla, hlus⟩ := hL4
    have hF4 := s4 _ _ hF3
    have b4 : BoardAt T H4 (.ref x) n span2 ws fd := hb.ke (ke_of (s3.trans s4))
    have lul := sda_len hlus
    have m12 : ∀ s ∈ firstsF n ws o, (standsOf (woOf n span2 ws) s).length ≤ 12 := fun s hs => by
      have := Kw.m_le (w := s.1) (firsts_in mok hs).1
      unfold standsOf
      rw [List.length_map, List.length_range]
      omega
    have flen : ∀ i, ((L.take i).flatMap (standsOf (woOf n span2 ws))).length ≤ i * 12 := fun i => by
      induction i with
      | zero => simp
      | succ i ih =>
        by_cases c : i < L.length
        · rw [List.take_add_one, List.getElem?_eq_getElem c, List.flatMap_append, List.length_append]
          have := m12 L[i] ((hmem _).mp (List.getElem_mem c))
          have e : (List.flatMap (standsOf (woOf n span2 ws)) (some L[i]).toList).length = (standsOf (woOf n span2 ws) L[i]).length := by simp
          rw [e]
          omega
        · rw [List.take_of_length_le (by omega)] at ih ⊢
          omega
    have nlF : 0 < lus.length → la ≠ F := fun h z => by
      rw [z, hF4] at hla
      cases hla
      cases h
    refine ⟨la, rfl, ⟨lus, SqL.of hla⟩, ?_⟩
    have s04 := s12.trans (s3.trans s4)
    refine for_it walk_list (fun (i : Nat) (σ : L2.St) (H' : Hp) => Same H2 H' ∧ H' la = some (.lst lus) ∧ SdAll H' lus (L.map eTri) ∧ (∃ us, H' F = some (.lst us) ∧ SdAll H' us (((L.take i).flatMap (standsOf (woOf n span2 ws))).map eStand)) ∧ ∃ x4 x5 x6, σ = [some (.ref pa), some l, some (.ref x), some (.ref F), x4, x5, x6])
      ⟨s3.trans s4, hla, hlus, ⟨[], hF4, .nil⟩, none, none, none, rfl⟩ (fun i σ H' _ p => SqL.of p.2.1) (fun i x' σ H5 H6 hi p yy => ?_) fun σ H5 p => ?_
    · obtain ⟨s5, hla5, hlus5, ⟨us5, hF5, d5⟩, x4, x5, x6, rfl⟩ := p
      have b5 := hb.ke (ke_of s5)
      obtain ⟨rfl, e2⟩ := yy
      obtain ⟨s, hs, hsd⟩ := item_at hlus5 e2
      obtain ⟨c, rfl, hc⟩ := sd_tri hsd
      have hin := firsts_in mok ((hmem s).mp (mem_at hs))
      have nl := nlF (by omega)
      refine ⟨c, _, rfl, SqT.of hc, rfl, _, _, rfl, _, _, rfl, _, _, rfl, rfl, ?_⟩
      refine ⟨_, rfl, .inl ⟨rfl, us5, SqL.of hF5⟩, _, rfl, _, rfl, _, rfl, _, s.1, s.2.2, n, span2, ws, fd, s.2.1, rfl, b5, hin.1, fun H7 b7 np7 s7 h7 => ?_⟩
      obtain ⟨b7', us7, e7, hb7, d7⟩ := h7
      cases e7
      have hF7 := s7 _ _ hF5
      have f1 := flen i
      have f2 := m12 s ((hmem s).mp (mem_at hs))
      have k7 := fz_lst (o := .lst (us5 ++ us7)) hF7
      refine ⟨F, b7, us5, us7, rfl, rfl, hF7, hb7, ?_, ?_⟩
      · rw [sda_len d5, sda_len d7]
        refine Nat.le_trans (m := 1000) ?_ (by decide)
        show _ + (standsOf (woOf n span2 ws) s).length ≤ 1000
        omega
      · refine ⟨fun b o e => (upd_ne (ne_of_none e hF)).trans (s7 _ _ (s5 _ _ e)), (upd_ne nl).trans (s7 _ _ hla5), (hlus5.sm s7).mv k7, ⟨us5 ++ us7, upd_same, ?_⟩, _, _, _, rfl⟩
        rw [List.take_add_one, hs, List.flatMap_append, List.map_append]
        have e : (List.flatMap (standsOf (woOf n span2 ws)) (some s).toList) = standsOf (woOf n span2 ws) s := by simp
        rw [e]
        exact ((d5.sm s7).mv k7).app (d7.mv k7)
    · obtain ⟨s25, hla5, hlus5, ⟨us5, hF5, d5⟩, x4, x5, x6, rfl⟩ := p
      have s5 := s12.trans s25
      rw [lul, List.take_length] at d5
      have fl := flen L.length
      rw [List.take_length] at fl
      obtain ⟨ks, hks, hk2, hk3⟩ := sda_keys d5
      subst hks
      have hkl : ks.length ≤ 96 := by
        have := congrArg List.length hk2
        rw [List.length_map, List.length_map] at this
        omega
      have hall : ∀ p ∈ ks, p.2 ∈ (L.flatMap (standsOf (woOf n span2 ws))).map kSt := fun p hp => by
        rw [← hk2]
        exact List.mem_map.mpr ⟨p, hp, rfl⟩
      refine ⟨_, rfl, F, ks, rfl, SqL.of hF5, hk3, by omega, ⟨firstKeys (woOf n span2 ws) (statesOf o), firstKeys_len _ mok.few (by show (ws.map (·.1)).length ≤ 2; rw [List.length_map]; exact ok.short), fun p hp => ?_⟩, fun a Ls ha hnd h1 h2 => ?_⟩
      · obtain ⟨u, hu, e⟩ := List.mem_map.mp (hall p hp)
        obtain ⟨s, hs, h⟩ := List.mem_flatMap.mp hu
        obtain ⟨i, hi, rfl⟩ := mem_stands.mp h
        have hin := firsts_in mok ((hmem s).mp hs)
        have m := Kw.m_le (w := s.1) hin.1
        rw [← e]
        exact List.mem_flatMap.mpr ⟨s.2.2, hin.2, List.mem_flatMap.mpr ⟨s.1, hin.1, List.mem_map.mpr ⟨i, List.mem_range.mpr (by omega), rfl⟩⟩⟩
      · obtain ⟨sts, e1, e2⟩ := keys_back (ys := L.flatMap (standsOf (woOf n span2 ws))) (L := Ls.map (·.2)) fun k hk => by
          obtain ⟨p, hp, rfl⟩ := List.mem_map.mp hk
          exact hall p (h1 p hp)
        have sa : Same H5 (upd H5 a (MsO P w a Ls)) := same_new ha
        have stl : sts.length ≤ 1000 := by
          have := nodup_len (m := ks.map (·.2)) hnd fun k hk => by
            obtain ⟨p, hp, rfl⟩ := List.mem_map.mp hk
            exact List.mem_map.mpr ⟨p, h1 p hp, rfl⟩
          rw [e1, List.length_map, List.length_map] at this
          omega
        refine ⟨a, Ls, sts, rfl, upd_same, e1, fun p hp => sa _ _ (hk3 p (h1 p hp)), fun p us ys hp hperm hus => ?_⟩
        refine q _ _ ys ((s5.trans sa).trans (same_new hp)) ⟨p, us, rfl, upd_same, hus.sm (same_new hp)⟩ (fun u => ?_) (by rw [hperm.length_eq]; exact stl)
        rw [hperm.mem_iff]
        have fin : u ∈ L.flatMap (standsOf (woOf n span2 ws)) ↔ u ∈ firstsS n span2 ws o := by
          unfold firstsS
          rw [List.mem_flatMap, List.mem_flatMap]
          exact ⟨fun ⟨s, a, b⟩ => ⟨s, (hmem s).mp a, b⟩, fun ⟨s, a, b⟩ => ⟨s, (hmem s).mpr a, b⟩⟩
        rw [← fin]
        constructor
        · exact fun h => e2 u h
        · intro h
          have hk : kSt u ∈ ks.map (·.2) := by rw [hk2]; exact List.mem_map.mpr ⟨u, h, rfl⟩
          obtain ⟨p, hp, e⟩ := List.mem_map.mp hk
          have := h2 p hp
          have e' : p.2 = kSt u := e
          rw [e', e1] at this
          obtain ⟨u', hu', e3⟩ := List.mem_map.mp this
          rw [← kst_inj e3]
          exact hu'
end
end J
/-! is_numbering. -/
namespace J
open PySem PySem.Spec PyProof.Rows L2 LamX NdefX
theorem walk_itemsT {d : Addr} {o : Obj} {kvs : List (List Key × V)} : Walk (ItiT d o kvs) kvs.length (fun H => H d = some (.frz o (.dT kvs))) (fun i H x H' => ∃ (t q : Addr) (k : List Key) (v : V), kvs[i]? = some (k, v) ∧ x = .ref t ∧ H t = none ∧ H q = some (.tup (k.map kV)) ∧ H' = upd H t (.tup [.ref q, v])) :=
  ⟨fun _ _ hi q => ⟨q, hi⟩, fun _ q => ⟨q, Nat.le_refl _⟩, fun _ _ _ _ _ _ ⟨t, q, k, v, h⟩ => ⟨t, q, k, v, h⟩⟩
theorem num_ix {kvs : List (Stand × Int)} {i : Nat} {k : List Key} {v : V} (h : (numKv kvs)[i]? = some (k, v)) : ∃ p, kvs[i]? = some p ∧ k = kSt p.1 ∧ v = .int p.2 := by
  obtain ⟨e, he, e2⟩ := at_map h
  injection e2 with e3 e4
  exact ⟨e, he, e3.symm, e4.symm⟩
theorem samex_lock {fd d : Addr} {H H' : Hp} {o : Obj} {u : HO} (hd : H d = some u) (h : SameX fd (upd H d (.frz o u)) H') : SameX fd H (upd H' d u) := fun b x nb e => by
  by_cases q : b = d
  · subst q
    rw [hd] at e
    rw [upd_same]
    exact e
  · rw [upd_ne q]
    exact h b x nb ((upd_ne q).trans e)
theorem ke_frz {d : Addr} {H : Hp} {o : HO} {kvs : List (List Key × V)} (hd : H d = some (.dT kvs)) : Ke H (upd H d o) := fun b x e n => by
  by_cases q : b = d
  · subst q
    rw [hd] at e
    exact absurd (.inl ⟨kvs, (Option.some.inj e).symm⟩) n
  · exact (upd_ne q).trans e
/-- the function that asks whether a node is open -/
structure Oz where
  f : Addr
  o : HO
  F : NF
  fr : List PySem.Str
  cs : List (Option V)
  l : V
section
variable {P : Program} {w : World} {K : PySem.W.Frag} {mg : Str → Option Value} {base : Heap}
structure OzAt (T : Wd K mg) (z : Mz) (y : Oz) (H : Hp) : Prop where
  lt : LetOr T H y.l z.n z.ws z.mo
  fn : H y.f = some y.o
  co : H y.F.c = some (CodeO y.F.c y.F.qual)
  no : ¬ Gone y.o
theorem OzAt.ke {T : Wd K mg} {z : Mz} {y : Oz} {H H' : Hp} (h : OzAt T z y H) (k : Ke H H') : OzAt T z y H' := ⟨h.lt.ke k, k _ _ h.fn h.no, k.ext h.co, h.no⟩
def sp_op (T : Wd K mg) (z : Mz) (y : Oz) : Sp := fun vs H Q _ => ∃ (v : V) (u : Stand), vs = [v] ∧ BoardAt T H z.b z.n z.span z.ws z.fd ∧ LetOr T H y.l z.n z.ws z.mo ∧ Sd H v (eStand u) ∧ JM.Good z.W z.S u ∧ ¬ JM.Closed u ∧ ∀ H', Same H H' → Q (.bl true) H'
abbrev OzOk (P : Program) (w : World) (base : Heap) (T : Wd K mg) (z : Mz) (y : Oz) : Prop := CalOk P w K mg base 5 y.f y.o y.F y.fr y.cs (sp_op T z y)
def OzG (y : Oz) : List Env → Shared → Hp → Prop := fun outer s H => CellsAt y.F.cl y.fr y.cs s.heap H ∧ ∀ x c, y.F.cl.lookup x = some c → c ∉ frs outer
def sp_is_numbering (T : Wd K mg) (z : Mz) (y : Oz) : Sp := fun vs H Q _ => ∃ (len : Int) (th : Addr) (v : V) (kvs : List (Stand × Int)) (ys : List Stand) (b : Bool), vs = [.int len, .ref th, v, .ref y.f, .ref z.f, .ref T.is_closed.f] ∧ MzAt T z H ∧ OzAt T z y H ∧ th ≠ z.fd ∧ H th = some (.dT (numKv kvs)) ∧ (kvs.map (·.1)).Nodup ∧ JM.P1 z.W z.S kvs ∧ LAt eStand H v ys ∧
  (b = true ↔ JM.P2 ys len kvs ∧ JM.P3 z.W z.steps kvs) ∧ ∀ H', SameX z.fd H H' → FoundAt z.W (H' z.fd) → Q (.bl b) H'
theorem sc_is_numbering : FnScope ["length", "thing", "first", "is_open", "moves", "is_end", "node", "number", "_", "following"] ["length", "thing", "first", "is_open", "moves", "is_end"] (defScope s_is_numbering) := ⟨rfl, rfl, rfl, by decide +kernel, rfl, by decide +kernel, by decide +kernel⟩
-- slots: 0 length, 1 thing, 2 first, 3 is_open, 4 moves, 5 is_end, 6 node, 7 number, 8 _, 9 following
theorem ok_is_numbering (T : Wd K mg) (p : { p : Mz × Oz // MzOk P w base T p.1 ∧ OzOk P w base T p.1 p.2 }) : FnOkG P w K mg base 8 T.is_numbering.f T.is_numbering.fd ["length", "thing", "first", "is_open", "moves", "is_end"] (fun o s H => MzG p.1.1 o s H ∧ OzG p.1.2 o s H) (sp_is_numbering T p.1.1 p.1.2) := by
  have G_is_closed := ok_is_closed (P := P) (w := w) (base := base) T
  have G_is_integer := ok_is_integer (P := P) (w := w) (base := base) T
  obtain ⟨⟨z, y⟩, F_moves, F_is_open⟩ := p
  refine fnG_of T.is_numbering.F sc_is_numbering (fun vs H Q h => ?_) fun cdv A outer s H vs Q hr hG h => ?_
  · obtain ⟨len, th, v, kvs, ys, b, rfl, _⟩ := h
    rfl
  · obtain ⟨len, th, v, kvs, ys, b, rfl, hz, hy, nth, hth, nd, p1, hv, hb, q⟩ := h
    obtain ⟨fa, fus, rfl, hfa, hfus⟩ := hv
    obtain ⟨⟨C_moves, N_moves⟩, C_is_open, N_is_open⟩ := hG
    have hkl : (numKv kvs).length = kvs.length := by unfold numKv; rw [List.length_map]
    have bno : ¬ (JM.P2 ys len kvs ∧ JM.P3 z.W z.steps kvs) → b = false := fun h => by
      cases e : b with
      | false => rfl
      | true => exact absurd (hb.mp e) h
    have nff : fa ≠ z.fd := fun e => by obtain ⟨kv, q, _⟩ := hz.fo; rw [← e, hfa] at q; cases q
    have nft : fa ≠ th := fun e => by rw [e, hth] at hfa; cases hfa
    refine ⟨_, PSs.nox (pss_cons (ps_if (pt_not (pt_val (pe_callB call_isi (by rfl) T.n_isinstance (by decide +kernel) (pa_cons (pv 1) (pa_cons (pe_bltn (v := .ty "dict") (by rfl) T.n_dict (by decide +kernel) rfl) pa_nil))) (fun _ => rfl)))
        (pss_one (ps_ret pe_bl))
        pss_nil)
      (pss_cons (ps_lock (ps_for PassesOwn.never rfl (pi_itemsT (pv 1)) (pg_tup (by rfl) (pgs_cons (pg_name (i := 6) sc_is_numbering.nd rfl (.inl rfl)) (pgs_cons (pg_name (i := 7) sc_is_numbering.nd rfl (.inl rfl)) pgs_nil)))
        (pss_one (ps_if (PW.pt (pw_or (pt_not (pt_val (pe_cal (i := 3) F_is_open C_is_open N_is_open rfl (hr.mono (by decide)) rfl (.inl rfl) (pa_cons (pv 6) pa_nil)) (fun _ => rfl))) (pw_or (pt_not (pt_val (pe_call G_is_integer (hr.mono (by decide)) (by rfl) T.is_integer.g T.is_integer.F.kp T.is_integer.b .nil pass0 (pa_cons (pv 7) pa_nil)) (fun _ => rfl))) (pw_or1 (pt_cmpR op_lt (pv 7) pe_int (nomark _))))))
          (pss_one (ps_ret pe_bl))
          pss_nil))))
      (pss_cons (ps_for PassesOwn.never rfl (pi_list (pv 2)) (pg_name (i := 6) sc_is_numbering.nd rfl (.inl rfl))
        (pss_one (ps_if (pt_val (pe_callL (i := 5) (f := T.is_closed.f) G_is_closed (hr.mono (by decide)) rfl (by first | exact .inl rfl | exact .inr (.inl rfl) | exact .inr (.inr rfl)) T.is_closed.F.kp T.is_closed.b .nil pass0 (pa_cons (pv 6) pa_nil)) (fun _ => rfl))
          (pss_one (ps_if (pt_cmpR op_ge (pv 0) pe_int (nomark _))
            (pss_one (ps_ret pe_bl))
            pss_nil))
          (pss_one (ps_if (PW.pt (pw_or (pt_cmp (pc_dnotin (hu_of hr) (pv 6) (pv 1))) (pw_or1 (pt_cmpR op_lt (pe_dget (hu_of hr) (pv 1) (pv 6) (fun _ _ => rfl)) (pe_op op_sub (pv 0) pe_int) (nomark _)))))
            (pss_one (ps_ret pe_bl))
            pss_nil)))))
      (pss_cons (ps_lock (ps_for PassesOwn.never rfl (pi_itemsT (pv 1)) (pg_tup (by rfl) (pgs_cons (pg_name (i := 6) sc_is_numbering.nd rfl (.inl rfl)) (pgs_cons (pg_name (i := 7) sc_is_numbering.nd rfl (.inl rfl)) pgs_nil)))
        (pss_one (ps_for PassesOwn.never rfl (pi_list (pe_cal (i := 4) F_moves C_moves N_moves rfl (hr.mono (by decide)) rfl (.inl rfl) (pa_cons (pv 6) pa_nil))) (pg_tup (by rfl) (pgs_cons (pg_name (i := 8) sc_is_numbering.nd rfl (.inl rfl)) (pgs_cons (pg_name (i := 9) sc_is_numbering.nd rfl (.inl rfl)) pgs_nil)))
          (pss_cons (ps_if (pt_cmpR op_isN (pv 9) pe_non (nomark _))
              (pss_one ps_continue)
              pss_nil)
            (pss_cons (ps_if (PW.pt (pw_and (pt_not (pt_val (pe_callL (i := 5) (f := T.is_closed.f) G_is_closed (hr.mono (by decide)) rfl (by first | exact .inl rfl | exact .inr (.inl rfl) | exact .inr (.inr rfl)) T.is_closed.F.kp T.is_closed.b .nil pass0 (pa_cons (pv 9) pa_nil)) (fun _ => rfl))) (pw_and1 (pt_cmp (pc_dnotin (hu_of hr) (pv 9) (pv 1))))))
              (pss_one (ps_ret pe_bl))
              pss_nil)
            (pss_one (ps_if (pt_cmpR op_gt (pv 7) (pe_op op_add pe_int (pe_dget2 (hu_of hr) (pv 1) (pv 9) pe_int ⟨rfl, rfl, rfl, rfl⟩)) (nomark _))
            (pss_one (ps_ret pe_bl))
            pss_nil))))))))
      (pss_one (ps_ret pe_bl))))))
, ?_⟩
    refine ⟨_, rfl, _, _, _, _, true, rfl, .ty _, .base (.dT hth), kit_ty (by decide +kernel), true, rfl, iteF ?_⟩
    refine ⟨th, .dT (numKv kvs), hth, trivial, fun od => ⟨_, rfl, th, od, numKv kvs, rfl, upd_same, ?_⟩⟩
    have keL : Ke H (upd H th (.frz od (.dT (numKv kvs)))) := ke_frz hth
    have fdL : (upd H th (.frz od (.dT (numKv kvs)))) z.fd = H z.fd := upd_ne (fun e => nth e.symm)
    have hzL : MzAt T z (upd H th (.frz od (.dT (numKv kvs)))) := hz.ke keL (by rw [fdL]; exact hz.fo)
    have hyL := hy.ke keL
    have hthL : (upd H th (.frz od (.dT (numKv kvs)))) th = some (.frz od (.dT (numKv kvs))) := upd_same
    have bkL : ∀ H', Same (upd H th (.frz od (.dT (numKv kvs)))) H' → Same H (upd H' th (.dT (numKv kvs))) := fun H' s => same_lock hth s
    generalize upd H th (.frz od (.dT (numKv kvs))) = HL at keL fdL hzL hyL hthL bkL
    refine for_it walk_itemsT (fun i σ H' => Same HL H' ∧ ∃ x6 x7, σ = [some (.int len), some (.ref th), some (.ref fa), some (.ref y.f), some (.ref z.f), some (.ref T.is_closed.f), x6, x7, none, none]) ⟨Same.refl _, none, none, rfl⟩ (fun i σ H' _ p => p.1 _ _ hthL) (fun i x' σ H1 H2 hi p yy => ?_) fun σ H1 p => ?_
    · obtain ⟨s1, x6, x7, rfl⟩ := p
      obtain ⟨t, k, kk, vv, e2, rfl, nt, hk, rfl⟩ := yy
      obtain ⟨p, hp, rfl, rfl⟩ := num_ix e2
      obtain ⟨g1, g2, g3⟩ := p1 p (mem_at hp)
      have st : Same H1 (upd H1 t (.tup [.ref k, .int p.2])) := same_new nt
      have s2 := s1.trans st
      have hk2 := st _ _ hk
      refine ⟨t, _, rfl, SqT.of upd_same, rfl, _, _, rfl, _, _, rfl, rfl, ?_⟩
      generalize upd H1 t (.tup [.ref k, .int p.2]) = H2 at st s2 hk2
      have hz2 := hzL.bd.ke (ke_of s2)
      have hy2 := hyL.ke (ke_of s2)
      refine ⟨rfl, hy2.fn, _, rfl, hy2.fn, hy2.co, _, p.1, rfl, hz2, hy2.lt, stand_sd hk2, g1, g2, fun H3 s3 => ⟨true, rfl, iteF ⟨_, rfl, p.2, rfl, true, rfl, iteF ⟨_, rfl, p.2, 0, rfl, rfl, false, d_false (by omega), iteF ?_⟩⟩⟩⟩
      exact ⟨s2.trans s3, _, _, rfl⟩
    · obtain ⟨s1, x6, x7, rfl⟩ := p
      refine ⟨s1 _ _ hthL, ?_⟩
      have s2 := bkL _ s1
      have hth2 : (upd H1 th (.dT (numKv kvs))) th = some (.dT (numKv kvs)) := upd_same
      generalize upd H1 th (.dT (numKv kvs)) = H2 at s2 hth2
      have hfa2 := s2 _ _ hfa
      have hfus2 := hfus.sm s2
      have hful := sda_len hfus
      refine ⟨_, rfl, fa, rfl, ⟨fus, SqL.of hfa2⟩, ?_⟩
      refine for_it walk_list (fun i σ H' => H' = H2 ∧ (∀ u ∈ ys.take i, (JM.Closed u → len < 2) ∧ (¬ JM.Closed u → ∃ x, JM.look kvs u = some x ∧ len - 1 ≤ x)) ∧ ∃ x6 x7, σ = [some (.int len), some (.ref th), some (.ref fa), some (.ref y.f), some (.ref z.f), some (.ref T.is_closed.f), x6, x7, none, none]) ⟨rfl, (fun _ h => nomatch h), _, _, rfl⟩ (fun i σ H' _ p => by rw [p.1]; exact SqL.of hfa2) (fun i x' σ H3 H4 hi p yy => ?_) fun σ H3 p => ?_
      · obtain ⟨rfl, hpr, x6, x7, rfl⟩ := p
        obtain ⟨rfl, e2⟩ := yy
        obtain ⟨u, hu, hsd⟩ := item_at hfus2 e2
        obtain ⟨k, rfl, hk⟩ := sd_stand hsd
        have tk : ys.take (i + 1) = ys.take i ++ [u] := by rw [List.take_add_one, hu]; rfl
        have fo3 : FoundAt z.W (H4 z.fd) := by
          obtain ⟨kv, e, r⟩ := hz.fo
          exact ⟨kv, s2 _ _ e, r⟩
        have fail : ¬ ((JM.Closed u → len < 2) ∧ (¬ JM.Closed u → ∃ x, JM.look kvs u = some x ∧ len - 1 ≤ x)) → Q (.bl false) H4 := fun h => by
          have := q H4 (same_x s2) fo3
          rw [bno fun c => h (c.1 u (mem_at hu))] at this
          exact this
        have pass : ((JM.Closed u → len < 2) ∧ (¬ JM.Closed u → ∃ x, JM.look kvs u = some x ∧ len - 1 ≤ x)) → ∀ v ∈ ys.take (i + 1), (JM.Closed v → len < 2) ∧ (¬ JM.Closed v → ∃ x, JM.look kvs v = some x ∧ len - 1 ≤ x) := fun h v hv => by
          rw [tk] at hv
          rcases List.mem_append.mp hv with c | c
          · exact hpr v c
          · rw [List.mem_singleton.mp c]; exact h
        refine ⟨rfl, _, rfl, _, u, rfl, hsd, _, rfl, ?_⟩
        by_cases cl : u.2.2.1 = u.2.2.2
        · rw [decide_eq_true cl]
          refine iteT ⟨_, rfl, len, 2, rfl, rfl, _, rfl, ite2 (fun c => ?_) fun c => ?_⟩
          · have c' : 2 ≤ len := of_decide_eq_true c
            exact fail fun h => by have := h.1 cl; omega
          · have c' : ¬ 2 ≤ len := fun h => c (decide_eq_true h)
            exact ⟨rfl, pass ⟨fun _ => by omega, fun h => absurd cl h⟩, _, _, rfl⟩
        · rw [decide_eq_false cl]
          refine iteF ⟨_, rfl, _, rfl, th, valV (numKv kvs) (kSt u), rfl, .inr ⟨_, kSt u, k, .inl hth2, rfl, hk, rfl⟩, _, rfl, ?_⟩
          rw [valV_num]
          cases hlk : JM.look kvs u with
          | none =>
            exact iteT (fail fun h => by
              obtain ⟨x, hx, _⟩ := h.2 cl
              rw [hlk] at hx
              cases hx)
          | some x =>
            refine iteF ⟨_, rfl, _, rfl, th, .int x, rfl, .inr ⟨_, kSt u, k, .inl hth2, rfl, hk, by rw [valV_num, hlk]; rfl⟩, _, rfl, len, 1, rfl, rfl, x, len - 1, rfl, rfl, _, rfl, ite2 (fun c => ?_) fun c => ?_⟩
            · have c' : x < len - 1 := of_decide_eq_true c
              exact fail fun h => by
                obtain ⟨x', hx, hle⟩ := h.2 cl
                rw [hlk] at hx
                cases hx
                omega
            · have c' : ¬ x < len - 1 := fun h => c (decide_eq_true h)
              exact ⟨rfl, pass ⟨fun h => absurd h cl, fun _ => ⟨x, hlk, by omega⟩⟩, _, _, rfl⟩
      · obtain ⟨rfl, hpr, x6, x7, rfl⟩ := p
        rw [hful, List.take_length] at hpr
        have P2 : JM.P2 ys len kvs := hpr
        refine ⟨th, .dT (numKv kvs), hth2, trivial, fun od2 => ⟨_, rfl, th, od2, numKv kvs, rfl, upd_same, ?_⟩⟩
        have keM : Ke H (upd H3 th (.frz od2 (.dT (numKv kvs)))) := (ke_of s2).trans (ke_frz hth2)
        have foM : FoundAt z.W ((upd H3 th (.frz od2 (.dT (numKv kvs)))) z.fd) := by
          rw [upd_ne (fun e => nth e.symm)]
          obtain ⟨kv, e, r⟩ := hz.fo
          exact ⟨kv, s2 _ _ e, r⟩
        have hzM : MzAt T z (upd H3 th (.frz od2 (.dT (numKv kvs)))) := hz.ke keM foM
        have hthM : (upd H3 th (.frz od2 (.dT (numKv kvs)))) th = some (.frz od2 (.dT (numKv kvs))) := upd_same
        have bkM : ∀ H', SameX z.fd (upd H3 th (.frz od2 (.dT (numKv kvs)))) H' → SameX z.fd H (upd H' th (.dT (numKv kvs))) := fun H' s => (same_x s2).trans (samex_lock hth2 s)
        generalize upd H3 th (.frz od2 (.dT (numKv kvs))) = HM at keM foM hzM hthM bkM
        refine for_it walk_itemsT (fun (i : Nat) (σ : L2.St) (H' : Hp) => SameX z.fd HM H' ∧ FoundAt z.W (H' z.fd) ∧ (∀ p ∈ kvs.take i, ∀ s ∈ z.steps p.1.1, ∀ f, z.W.behind p.1 s = some f → (JM.Closed f ∨ ∃ x, JM.look kvs f = some x) ∧ p.2 ≤ 1 + (JM.look kvs f).getD 0) ∧ ∃ x6 x7 x8 x9, σ = [some (.int len), some (.ref th), some (.ref fa), some (.ref y.f), some (.ref z.f), some (.ref T.is_closed.f), x6, x7, x8, x9]) ⟨SameX.refl _ _, foM, (fun _ h => nomatch h), _, _, _, _, rfl⟩ (fun i σ H' _ p => p.1 _ _ nth hthM) (fun i x' σ H4 H5 hi p yy => ?_) fun σ H4 p => ?_
        · obtain ⟨k4, f4, hpr4, x6, x7, x8, x9, rfl⟩ := p
          obtain ⟨t, k, kk, vv, e2, rfl, nt, hk, rfl⟩ := yy
          obtain ⟨p, hp, rfl, rfl⟩ := num_ix e2
          have hpm := mem_at hp
          obtain ⟨g1, g2, g3⟩ := p1 p hpm
          have st : Same H4 (upd H4 t (.tup [.ref k, .int p.2])) := same_new nt
          have k5 := k4.trans (same_x st)
          have hk5 := st _ _ hk
          have ntf : t ≠ z.fd := fun e => by obtain ⟨kv, q, _⟩ := f4; rw [← e, nt] at q; cases q
          have f5 : FoundAt z.W ((upd H4 t (.tup [.ref k, .int p.2])) z.fd) := by rw [upd_ne (fun e => ntf e.symm)]; exact f4
          refine ⟨t, _, rfl, SqT.of upd_same, rfl, _, _, rfl, _, _, rfl, rfl, ?_⟩
          generalize upd H4 t (.tup [.ref k, .int p.2]) = H5 at st k5 hk5 f5
          have hz5 := hzM.sx k5 f5
          have hsk : Sd H5 (.ref k) (eStand p.1) := stand_sd hk5
          refine ⟨rfl, hz5.fn, _, rfl, hz5.fn, hz5.co, _, p.1, rfl, hz5, hsk, g1, fun H6 ma L nma k6 f6 hmv hL hmem => ?_⟩
          obtain ⟨ma', mus, e, hma, hmus⟩ := hmv
          cases e
          have hml : mus.length = L.length := by rw [sda_len hmus, List.length_map]
          have k56 := k5.trans k6
          have hth6 := k56 _ _ nth hthM
          have fin : ¬ JM.P3 z.W z.steps kvs → H6 th = some (.frz od2 (.dT (numKv kvs))) ∧ Q (.bl false) (upd H6 th (.dT (numKv kvs))) := fun h => by
            have := q _ (bkM _ k56) (by rw [upd_ne (fun e => nth e.symm)]; exact f6)
            rw [bno fun c => h c.2] at this
            exact ⟨hth6, this⟩
          refine ⟨ma, rfl, ⟨mus, SqL.of hma⟩, ?_⟩
          refine for_it walk_list (fun (j : Nat) (σ : L2.St) (H' : Hp) => H' = H6 ∧ (∀ s ∈ L.take j, ∀ f, z.W.behind p.1 s = some f → (JM.Closed f ∨ ∃ x, JM.look kvs f = some x) ∧ p.2 ≤ 1 + (JM.look kvs f).getD 0) ∧ ∃ x8 x9, σ = [some (.int len), some (.ref th), some (.ref fa), some (.ref y.f), some (.ref z.f), some (.ref T.is_closed.f), some (.ref k), some (.int p.2), x8, x9]) ⟨rfl, (fun _ h => nomatch h), _, _, rfl⟩ (fun j σ H' _ p => by rw [p.1]; exact SqL.of hma) (fun j x' σ H7 H8 hj pp yy => ?_) fun σ H7 pp => ?_
          · obtain ⟨rfl, hprj, y8, y9, rfl⟩ := pp
            obtain ⟨rfl, e3⟩ := yy
            obtain ⟨m, hm, hsm⟩ := item_at hmus e3
            obtain ⟨s, hs, rfl⟩ := at_map hm
            obtain ⟨c, xs, rfl, hc, hxs⟩ := sd_tup hsm
            obtain ⟨x1, r1, rfl, hx1, hr1⟩ := sda_cons hxs
            obtain ⟨x2, r2, rfl, hx2, hr2⟩ := sda_cons hr1
            rw [sda_nil hr2] at hc
            have hx2' : Sd H8 x2 (eOpt (z.W.behind p.1 s)) := hx2
            have hsm' := (hmem s).mp (mem_at hs)
            have tk : L.take (j + 1) = L.take j ++ [s] := by rw [List.take_add_one, hs]; rfl
            refine ⟨c, _, rfl, SqT.of hc, rfl, _, _, rfl, _, _, rfl, rfl, ?_⟩
            cases hbe : z.W.behind p.1 s with
            | none =>
              rw [hbe] at hx2'
              rw [sd_non hx2']
              refine ⟨_, rfl, rfl, _, rfl, iteT ⟨rfl, fun s' hs' f hf => ?_, _, _, rfl⟩⟩
              rw [tk] at hs'
              rcases List.mem_append.mp hs' with h | h
              · exact hprj s' h f hf
              · rw [List.mem_singleton.mp h, hbe] at hf
                cases hf
            | some f =>
              rw [hbe] at hx2'
              obtain ⟨fb, rfl, hfb⟩ := sd_stand hx2'
              have fail : ¬ ((JM.Closed f ∨ ∃ x, JM.look kvs f = some x) ∧ p.2 ≤ 1 + (JM.look kvs f).getD 0) → H8 th = some (.frz od2 (.dT (numKv kvs))) ∧ Q (.bl false) (upd H8 th (.dT (numKv kvs))) := fun h => fin fun P3 => h (P3 p hpm s hsm' f hbe)
              have pass : ((JM.Closed f ∨ ∃ x, JM.look kvs f = some x) ∧ p.2 ≤ 1 + (JM.look kvs f).getD 0) → ∀ s' ∈ L.take (j + 1), ∀ f', z.W.behind p.1 s' = some f' → (JM.Closed f' ∨ ∃ x, JM.look kvs f' = some x) ∧ p.2 ≤ 1 + (JM.look kvs f').getD 0 := fun h s' hs' f' hf' => by
                rw [tk] at hs'
                rcases List.mem_append.mp hs' with c | c
                · exact hprj s' c f' hf'
                · rw [List.mem_singleton.mp c, hbe] at hf'
                  cases hf'
                  exact h
              have hget : DGet H8 th (.ref fb) ((JM.look kvs f).map V.int) := .inr ⟨_, kSt f, fb, .inr ⟨od2, hth6⟩, rfl, hfb, (valV_num kvs f).symm⟩
              refine ⟨_, rfl, rfl, false, rfl, iteF ?_⟩
              have last : (JM.Closed f ∨ ∃ x, JM.look kvs f = some x) → ∀ x : Int, ((JM.look kvs f).map V.int).getD (.int 0) = .int x → x = (JM.look kvs f).getD 0 := fun _ x hx => by
                cases hl : JM.look kvs f with
                | none => rw [hl] at hx; cases hx; rfl
                | some a => rw [hl] at hx; cases hx; rfl
              have gd : ∃ x : Int, ((JM.look kvs f).map V.int).getD (.int 0) = .int x ∧ x = (JM.look kvs f).getD 0 := by
                cases hl : JM.look kvs f with
                | none => exact ⟨0, rfl, rfl⟩
                | some a => exact ⟨a, rfl, rfl⟩
              obtain ⟨x, hx, hx2⟩ := gd
              refine ⟨rfl, _, rfl, _, f, rfl, hx2', _, rfl, ?_⟩
              by_cases cl : f.2.2.1 = f.2.2.2
              · rw [decide_eq_true cl]
                refine iteF ⟨_, rfl, _, rfl, th, rfl, .inr ⟨_, .inr ⟨od2, hth6⟩⟩, _, rfl, _, hget, 1, x, rfl, hx, _, _, rfl, rfl, _, rfl, ite2 (fun c => ?_) fun c => ?_⟩
                · have c' : 1 + x < p.2 := of_decide_eq_true c
                  exact fail fun h => by have := h.2; omega
                · have c' : ¬ 1 + x < p.2 := fun h => c (decide_eq_true h)
                  exact ⟨rfl, pass ⟨.inl cl, by omega⟩, _, _, rfl⟩
              · rw [decide_eq_false cl]
                refine iteT ⟨_, rfl, _, rfl, th, _, rfl, hget, _, rfl, ?_⟩
                cases hlk : JM.look kvs f with
                | none =>
                  exact iteT (fail fun h => by
                    rcases h.1 with c | ⟨x, hx⟩
                    · exact cl c
                    · rw [hlk] at hx
                      cases hx)
                | some a =>
                  have hxa : x = a := by rw [hx2, hlk]; rfl
                  refine iteF ⟨_, rfl, _, rfl, th, rfl, .inr ⟨_, .inr ⟨od2, hth6⟩⟩, _, rfl, _, hget, 1, x, rfl, hx, _, _, rfl, rfl, _, rfl, ite2 (fun c => ?_) fun c => ?_⟩
                  · have c' : 1 + x < p.2 := of_decide_eq_true c
                    exact fail fun h => by have := h.2; omega
                  · have c' : ¬ 1 + x < p.2 := fun h => c (decide_eq_true h)
                    exact ⟨rfl, pass ⟨.inr ⟨a, hlk⟩, by omega⟩, _, _, rfl⟩
          · obtain ⟨rfl, hprj, y8, y9, rfl⟩ := pp
            rw [hml, List.take_length] at hprj
            refine ⟨k56, f6, fun p' hp' s hs f hf => ?_, _, _, _, _, rfl⟩
            rw [List.take_add_one, hp] at hp'
            rcases List.mem_append.mp hp' with h | h
            · exact hpr4 p' h s hs f hf
            · rw [List.mem_singleton.mp (show p' ∈ [p] from h)] at hs hf ⊢
              exact hprj s ((hmem s).mpr hs) f hf
        · obtain ⟨k4, f4, hpr4, x6, x7, x8, x9, rfl⟩ := p
          rw [hkl, List.take_length] at hpr4
          refine ⟨k4 _ _ nth hthM, ?_⟩
          have := q _ (bkM _ k4) (by rw [upd_ne (fun e => nth e.symm)]; exact f4)
          rw [hb.mpr ⟨P2, hpr4⟩] at this
          exact this
end
end J
/-! The walk of explored. -/
namespace J
open PySem PySem.Spec PyProof.Rows L2 LamX NdefX
section
variable {P : Program} {w : World} {K : PySem.W.Frag} {mg : Str → Option Value} {base : Heap}
def DoneN (z : Mz) (e : Nd) : Prop := (JM.Closed e.1 → e.2.2 = []) ∧ (¬ JM.Closed e.1 → ∀ f, (∃ k, (k, f) ∈ e.2.2) ↔ ∃ s ∈ z.steps e.1.1, z.W.behind e.1 s = some f) ∧ e.2.2.length ≤ 720
def edL (z : Mz) (u : Stand) (l : List Tri) : List Ed := l.filterMap fun s => (z.W.behind u s).map fun f => ((s.1, s.2.1), f)
theorem edL_take (z : Mz) (u : Stand) {L : List Tri} {j : Nat} {s : Tri} (h : L[j]? = some s) : edL z u (L.take (j + 1)) = edL z u (L.take j) ++ ((z.W.behind u s).map fun f => (((s.1, s.2.1), f) : Ed)).toList := fm_take _ L h
theorem mem_edL {z : Mz} {u : Stand} {L : List Tri} {f : Stand} : (∃ k, (k, f) ∈ edL z u L) ↔ ∃ s ∈ L, z.W.behind u s = some f := by
  constructor
  · rintro ⟨k, hk⟩
    obtain ⟨s, hs, e⟩ := List.mem_filterMap.mp hk
    cases hb : z.W.behind u s with
    | none => rw [hb] at e; cases e
    | some g =>
      rw [hb] at e
      cases e
      exact ⟨s, hs, hb⟩
  · rintro ⟨s, hs, hb⟩
    exact ⟨(s.1, s.2.1), List.mem_filterMap.mpr ⟨s, hs, by rw [hb]; rfl⟩⟩
theorem key_of {H : Hp} {v : V} {u : Stand} (h : Sd H v (eStand u)) : ∃ b, v = .ref b ∧ H b = some (.tup ((kSt u).map kV)) := by
  obtain ⟨a, rfl, ha⟩ := sd_stand h
  exact ⟨a, rfl, ha⟩
theorem tab_get {H : Hp} {tb : Addr} {nodes : List Nd} {v : V} {u : Stand} (h : TabAt H tb nodes) (hv : Sd H v (eStand u)) : DGet H tb v (valV (tabKv nodes) (kSt u)) := by
  obtain ⟨b, rfl, hb⟩ := key_of hv
  exact .inr ⟨_, _, b, .inl h.1, rfl, hb, rfl⟩
theorem ft_add {H : Hp} {p tb wl : Addr} {us ys : List V} {kvs kvs' : List (List Key × V)} (n : H p = none) (h1 : H tb = some (.dT kvs)) (h2 : H wl = some (.lst us)) : Ft H (upd (upd (upd H p (.lst [])) tb (.dT kvs')) wl (.lst ys)) := fun b xs e => by
  rw [upd_ne (ne_of e h2 fun z => nomatch z), upd_ne (ne_of e h1 fun z => nomatch z), upd_ne (ne_of_none e n)]
  exact e
theorem sc_explored : FnScope ["first", "moves", "is_end", "limit", "table", "waiting", "node", "at", "step", "following"] ["first", "moves", "is_end", "limit"] (defScope s_explored) := ⟨rfl, rfl, rfl, by decide +kernel, rfl, by decide +kernel, by decide +kernel⟩
-- slots: 0 first, 1 moves, 2 is_end, 3 limit, 4 table, 5 waiting, 6 node, 7 at, 8 step, 9 following
theorem ok_explored (T : Wd K mg) (z : { z : Mz // MzOk P w base T z }) : FnOkG P w K mg base 8 T.explored.f T.explored.fd ["first", "moves", "is_end", "limit"] (MzG z.1) (sp_explored T z.1) := by
  have G_is_closed := ok_is_closed (P := P) (w := w) (base := base) T
  obtain ⟨z, F_moves⟩ := z
  refine fnG_of T.explored.F sc_explored (fun vs H Q h => ?_) fun cdv A outer s H vs Q hr hG h => ?_
  · obtain ⟨v, firsts, rfl, _⟩ := h
    rfl
  · obtain ⟨v, firsts, rfl, hz, hv, hgood, q⟩ := h
    obtain ⟨fa, fus, rfl, hfa, hfus⟩ := hv
    obtain ⟨C_moves, N_moves⟩ := hG
    have hfd : H z.fd ≠ none := by
      obtain ⟨kv, e, _⟩ := hz.fo
      rw [e]
      exact fun q => nomatch q
    obtain ⟨_, _, _, _, _, _, _, ⟨_, _, _, _, _, _, okw⟩, hspan, _⟩ := hz.bd
    have Kw : JM.WoOk z.W := woOf_ok okw hspan
    have hwl : z.W.words.length ≤ 2 := by show (z.ws.map (·.1)).length ≤ 2; rw [List.length_map]; exact okw.short
    have hSl : z.S.length ≤ 3 := hz.mok.few
    refine ⟨_, PSs.nox (pss_cons (ps_set (i := 4) sc_explored.nd rfl (.inl rfl) pe_dnewT)
      (pss_cons (ps_set (i := 5) sc_explored.nd rfl (.inl rfl) (pe_lst pa_nil))
      (pss_cons (ps_for PassesOwn.never rfl (pi_list (pv 0)) (pg_name (i := 6) sc_explored.nd rfl (.inl rfl))
        (pss_one (ps_if (pt_cmp (pc_dnotin (hu_of hr) (pv 6) (pv 4)))
          (pss_cons (ps_dput (hu_of hr) (pv 4) (pv 6) (pe_lst pa_nil) rfl)
            (pss_one (ps_expr (pe_bm PySem.F.plainAttrs_list PySem.F.slot_list_append PySem.F.type_list_append mt_append (pv 5) (pa_cons (pv 6) pa_nil)))))
          pss_nil)))
      (pss_cons (ps_set (i := 7) sc_explored.nd rfl (.inl rfl) pe_int)
      (pss_cons (ps_while PassesOwn.never (pt_cmpR op_lt (pv 7) (pe_callB call_len_seq (by rfl) T.n_len (by decide +kernel) (pa_cons (pv 5) pa_nil)) (nomark _))
        (pss_cons (ps_if (PW.pt (pw_and (pt_cmpR op_notN (pv 3) pe_non (nomark _)) (pw_and1 (pt_cmpR op_gt (pe_callB call_len_seq (by rfl) T.n_len (by decide +kernel) (pa_cons (pv 5) pa_nil)) (pv 3) (nomark _)))))
            (pss_one ps_never)
            pss_nil)
          (pss_cons (ps_set (i := 6) sc_explored.nd rfl (.inl rfl) (pe_ix ix_list (pv 5) (pv 7) (fun _ _ => rfl)))
          (pss_cons (ps_aug (i := 7) sc_explored.nd rfl (.inl rfl) pe_int ip_add)
          (pss_cons (ps_if (pt_val (pe_callL (i := 2) (f := T.is_closed.f) G_is_closed (hr.mono (by decide)) rfl (by first | exact .inl rfl | exact .inr (.inl rfl) | exact .inr (.inr rfl)) T.is_closed.F.kp T.is_closed.b .nil pass0 (pa_cons (pv 6) pa_nil)) (fun _ => rfl))
            (pss_one ps_continue)
            pss_nil)
          (pss_one (ps_for PassesOwn.never rfl (pi_list (pe_cal (i := 1) F_moves C_moves N_moves rfl (hr.mono (by decide)) rfl (.inl rfl) (pa_cons (pv 6) pa_nil))) (pg_tup (by rfl) (pgs_cons (pg_name (i := 8) sc_explored.nd rfl (.inl rfl)) (pgs_cons (pg_name (i := 9) sc_explored.nd rfl (.inl rfl)) pgs_nil)))
          (pss_cons (ps_if (pt_cmpR op_isN (pv 9) pe_non (nomark _))
              (pss_one ps_continue)
              pss_nil)
            (pss_cons (ps_expr (pe_bm PySem.F.plainAttrs_list PySem.F.slot_list_append PySem.F.type_list_append mt_append (pe_dget (hu_of hr) (pv 4) (pv 6) (fun _ _ => rfl)) (pa_cons (pe_tup (pa_cons (pv 8) (pa_cons (pv 9) pa_nil))) pa_nil)))
            (pss_one (ps_if (pt_cmp (pc_dnotin (hu_of hr) (pv 9) (pv 4)))
            (pss_cons (ps_dput (hu_of hr) (pv 4) (pv 9) (pe_lst pa_nil) rfl)
              (pss_one (ps_expr (pe_bm PySem.F.plainAttrs_list PySem.F.slot_list_append PySem.F.type_list_append mt_append (pv 5) (pa_cons (pv 9) pa_nil)))))
            pss_nil)))))))))))
      (pss_one (ps_ret (pv 4))))))))
, ?_⟩
    refine fun tb htb => ⟨by show 0 ≤ sizeLine; decide, fun wl hwl0 => ?_⟩
    have ntw : tb ≠ wl := fun e => by rw [← e, upd_same] at hwl0; cases hwl0
    have wl0 : H wl = none := by rw [upd_ne (fun e => ntw e.symm)] at hwl0; exact hwl0
    have nff : fa ≠ z.fd := fun e => by obtain ⟨kv, q, _⟩ := hz.fo; rw [← e, hfa] at q; cases q
    have I0 : ExI z H (upd (upd H tb (.dT [])) wl (.lst [])) tb wl [] := by
      refine ⟨fun b o nb e => (upd_ne (ne_of_none e wl0)).trans ((upd_ne (ne_of_none e htb)).trans e), ?_, ⟨(upd_ne ntw).trans upd_same, List.nodup_nil, (fun _ he => nomatch he)⟩, ⟨[], upd_same, .nil⟩, htb, wl0, (fun _ he => nomatch he), List.nodup_nil, (fun _ he => nomatch he)⟩
      rw [upd_ne (fun e => hfd (by rw [e]; exact wl0)), upd_ne (fun e => hfd (by rw [e]; exact htb))]
      exact hz.fo
    refine ⟨_, rfl, fa, rfl, ⟨fus, SqL.of (I0.k _ _ nff hfa)⟩, ?_⟩
    refine for_it walk_list (fun i σ H' => ∃ nodes x6, ExI z H H' tb wl nodes ∧ (∀ u ∈ firsts.take i, u ∈ nodes.map (·.1)) ∧ (∀ e ∈ nodes, e.2.2 = []) ∧ σ = [some (.ref fa), some (.ref z.f), some (.ref T.is_closed.f), some .non, some (.ref tb), some (.ref wl), x6, none, none, none]) ⟨[], none, I0, (fun _ hu => nomatch hu), (fun _ he => nomatch he), rfl⟩ (fun i σ H' _ ⟨nodes, x6, I, _⟩ => SqL.of (I.k _ _ nff hfa)) (fun i v σ H1 H2 hi p yy => ?_) fun σ H1 p => ?_
    · obtain ⟨nodes, x6, I, hin, hE, rfl⟩ := p
      obtain ⟨rfl, e2⟩ := yy
      obtain ⟨u, hu, hsd⟩ := item_at hfus e2
      have hv1 : Sd H2 v (eStand u) := hsd.mt (hz.fo.ke I.k).ft
      have hum := mem_at hu
      refine ⟨_, rfl, _, rfl, tb, _, rfl, tab_get I.tab hv1, _, rfl, ?_⟩
      have tk : firsts.take (i + 1) = firsts.take i ++ [u] := by rw [List.take_add_one, hu]; rfl
      cases hval : valV (tabKv nodes) (kSt u) with
      | some a =>
        refine iteF ⟨nodes, some v, I, fun x hx => ?_, hE, rfl⟩
        rw [tk] at hx
        rcases List.mem_append.mp hx with h | h
        · exact hin x h
        · rw [List.mem_singleton.mp h]
          refine Classical.byContradiction fun no => ?_
          rw [tab_none.mpr no] at hval
          cases hval
      | none =>
        have hnot := tab_none.mp hval
        obtain ⟨us, hus, dus⟩ := I.wai
        have hlen : nodes.length ≤ 1728 := by
          have := good_len Kw hSl hwl I.nd fun u hu => by
            obtain ⟨e, he, rfl⟩ := List.mem_map.mp hu
            exact I.good e he
          rwa [List.length_map] at this
        have hul : us.length = nodes.length := by rw [dus.len, List.length_map]
        obtain ⟨b, rfl, hb⟩ := key_of hv1
        refine iteT ⟨by show 0 ≤ sizeLine; decide, fun p hp => ?_⟩
        have npt : tb ≠ p := fun e => by have := I.tab.1; rw [e, hp] at this; cases this
        have npw : wl ≠ p := fun e => by rw [e, hp] at hus; cases hus
        refine ⟨_, rfl, _, rfl, tb, _, rfl, .inr ⟨tabKv nodes, kSt u, b, (upd_ne npt).trans I.tab.1, rfl, (upd_ne (ne_of_none hb hp)).trans hb, by unfold tabKv; rw [List.length_map]; exact Nat.lt_of_le_of_lt hlen (by decide), rfl⟩, ?_⟩
        have nwt : wl ≠ tb := fun e => ntw e.symm
        have hus3 : (upd (upd H2 p (.lst [])) tb (.dT (putK (tabKv nodes) (kSt u) (.ref p)))) wl = some (.lst us) := (upd_ne nwt).trans ((upd_ne npw).trans hus)
        refine ⟨_, rfl, .inl ⟨rfl, us, SqL.of hus3⟩, _, rfl, wl, us, _, rfl, rfl, hus3, by rw [hul]; exact Nat.lt_of_le_of_lt hlen (by decide), ?_⟩
        rw [putK_tab hnot]
        refine ⟨nodes ++ [(u, p, [])], _, I.add hfd hp hv1 hnot (hgood u hum) hus, fun x hx => ?_, fun e he => ?_, rfl⟩
        · rw [List.map_append]
          rw [tk] at hx
          rcases List.mem_append.mp hx with h | h
          · exact List.mem_append_left _ (hin x h)
          · rw [List.mem_singleton.mp h]
            exact List.mem_append_right _ (List.mem_singleton.mpr rfl)
        · rcases List.mem_append.mp he with h | h
          · exact hE e h
          · rw [List.mem_singleton.mp h]
    · obtain ⟨nodes0, x6, I1, hin1, hE1, rfl⟩ := p
      have hfl : fus.length = firsts.length := sda_len hfus
      rw [hfl, List.take_length] at hin1
      refine while_by (fun (σ : L2.St) (H' : Hp) => ∃ (pre post : List Nd) (x6 x8 x9 : Option V), ExI z H H' tb wl (pre ++ post) ∧ (∀ u ∈ firsts, u ∈ (pre ++ post).map (·.1)) ∧ (∀ e ∈ pre, DoneN z e) ∧ (∀ e ∈ post, e.2.2 = []) ∧ (∀ e ∈ pre, ∀ x ∈ e.2.2, x.2 ∈ (pre ++ post).map (·.1)) ∧
          σ = [some (.ref fa), some (.ref z.f), some (.ref T.is_closed.f), some .non, some (.ref tb), some (.ref wl), x6, some (.int (pre.length : Nat)), x8, x9])
        (fun σ _ => match σ[7]? with
          | some (some (V.int a)) => (2000 - a).toNat
          | _ => 0) ⟨[], nodes0, x6, none, none, I1, hin1, (fun _ he => nomatch he), hE1, (fun _ he => nomatch he), rfl⟩ (fun σ H2 p => ?_) fun σ H' Q1 Q2 hq h => ?_
      · obtain ⟨pre, post, y6, y8, y9, I, hfirst, hdone, htodo, hinn, rfl⟩ := p
        obtain ⟨us, hus, dus⟩ := I.wai
        have hul : us.length = pre.length + post.length := by rw [dus.len, List.length_map, List.length_append]
        have hlen : (pre ++ post).length ≤ 1728 := by
          have := good_len Kw hSl hwl I.nd fun u hu => by
            obtain ⟨e, he, rfl⟩ := List.mem_map.mp hu
            exact I.good e he
          rwa [List.length_map] at this
        rw [List.length_append] at hlen
        refine ⟨_, rfl, _, rfl, wl, us, rfl, .inl (SqL.of hus), _, _, rfl, rfl, _, rfl, ite2 (fun hc => ?_) fun hc => ?_⟩
        · have hc' : pre.length < us.length := by have := of_decide_eq_true hc; omega
          cases post with
          | nil => simp at hul; omega
          | cons e0 post =>
            have he0 : (pre ++ e0 :: post)[pre.length]? = some e0 := by simp
            have hm0 : e0 ∈ pre ++ e0 :: post := mem_at he0
            obtain ⟨nv, hnv, hsd0⟩ := dus.at (map_at (f := fun e : Nd => eStand e.1) he0)
            have g0 := I.good e0 hm0
            refine ⟨_, rfl, rfl, _, rfl, iteF ?_⟩
            refine ⟨_, rfl, _, rfl, wl, us, _, nv, rfl, rfl, SqL.of hus, atI_of hnv, ?_⟩
            refine ⟨_, rfl, _, _, rfl, rfl, ?_⟩
            refine ⟨rfl, _, rfl, nv, e0.1, rfl, hsd0, _, rfl, ite2 (fun hcl => ?_) fun hop => ?_⟩
            · have hcl' : JM.Closed e0.1 := (of_decide_eq_true hcl : e0.1.2.2.1 = e0.1.2.2.2)
              refine ⟨⟨pre ++ [e0], post, some nv, y8, y9, by rw [List.append_assoc]; exact I, by rw [List.append_assoc]; exact hfirst, fun e he => ?_, fun e he => htodo e (List.mem_cons_of_mem _ he), fun e he x hx => ?_, ?_⟩, ?_⟩
              · rcases List.mem_append.mp he with h | h
                · exact hdone e h
                · rw [List.mem_singleton.mp h]
                  exact ⟨fun _ => htodo e0 (List.mem_cons_self ..), fun no => absurd hcl' no, by rw [htodo e0 (List.mem_cons_self ..)]; decide⟩
              · rw [List.append_assoc]
                rcases List.mem_append.mp he with h | h
                · exact hinn e h x hx
                · rw [List.mem_singleton.mp h, htodo e0 (List.mem_cons_self ..)] at hx
                  cases hx
              · rw [List.length_append]
                rfl
              · show (2000 - ((pre.length : Nat) + (1 : Int))).toNat < (2000 - ((pre.length : Nat) : Int)).toNat
                omega
            · have hop' : ¬ JM.Closed e0.1 := fun c => hop (decide_eq_true (show e0.1.2.2.1 = e0.1.2.2.2 from c))
              have hz2 := hz.sx I.k I.fo
              refine ⟨rfl, hz2.fn, _, rfl, hz2.fn, hz2.co, nv, e0.1, rfl, hz2, hsd0, g0, fun H3 ma L nma0 k3 f3 hmv hL hmem => ?_⟩
              obtain ⟨ma', mus, e, hma, hmus⟩ := hmv
              cases e
              have hml : mus.length = L.length := by rw [sda_len hmus, List.length_map]
              refine ⟨ma, rfl, ⟨mus, SqL.of hma⟩, ?_⟩
              have I3 := I.mv hfd k3 f3
              have nmf : ma ≠ z.fd := fun e => by obtain ⟨kv, q, _⟩ := f3; rw [← e, hma] at q; cases q
              refine for_it walk_list (fun (j : Nat) (σ : L2.St) (H' : Hp) => ∃ (e1 : Nd) (post' : List Nd) (y6 y8 y9 : Option V), e1.1 = e0.1 ∧ e1.2.1 = e0.2.1 ∧ e1.2.2 = edL z e0.1 (L.take j) ∧ ExI z H H' tb wl (pre ++ e1 :: post') ∧ (∀ u ∈ firsts, u ∈ (pre ++ e1 :: post').map (·.1)) ∧ (∀ e ∈ post', e.2.2 = []) ∧ (∀ e ∈ pre, ∀ x ∈ e.2.2, x.2 ∈ (pre ++ e1 :: post').map (·.1)) ∧ (∀ x ∈ e1.2.2, x.2 ∈ (pre ++ e1 :: post').map (·.1)) ∧ (∀ e ∈ pre ++ e1 :: post', e.2.1 ≠ ma) ∧
                  H' ma = some (.lst mus) ∧ SdAll H' mus ((L.map fun (s : Tri) => (((s.1, s.2.1), z.W.behind e0.1 s) : Mv)).map eMv) ∧ (∃ nv', y6 = some nv' ∧ Sd H' nv' (eStand e0.1)) ∧
                  σ = [some (.ref fa), some (.ref z.f), some (.ref T.is_closed.f), some .non, some (.ref tb), some (.ref wl), y6, some (.int ((pre.length : Nat) + (1 : Int))), y8, y9])
                ⟨e0, post, some nv, y8, y9, rfl, rfl, htodo e0 (List.mem_cons_self ..), I3, hfirst, fun e he => htodo e (List.mem_cons_of_mem _ he), hinn, fun x hx => (by rw [htodo e0 (List.mem_cons_self ..)] at hx; cases hx), fun e he q => (by obtain ⟨es, h, _⟩ := I.tab.2.2 e he; rw [q, nma0] at h; cases h), hma, hmus, ⟨nv, rfl, hsd0.mt (I.fo.ke k3).ft⟩, rfl⟩
                (fun j σ H' _ ⟨_, _, _, _, _, _, _, _, _, _, _, _, _, _, h, _⟩ => SqL.of h) (fun j v σ H4 H5 hj p yy => ?_) fun σ H4 p => ?_
              · obtain ⟨e1, post', y6, y8, y9, hk1, ha1, hE1, I4, hf4, ht4, hi4, hi5, hn4, hma4, hmus4, ⟨nv', rfl, hnv'⟩, rfl⟩ := p
                obtain ⟨rfl, e2⟩ := yy
                obtain ⟨m, hm, hsm⟩ := item_at hmus4 e2
                obtain ⟨s, hs, rfl⟩ := at_map hm
                obtain ⟨c, xs, rfl, hc, hxs⟩ := sd_tup hsm
                obtain ⟨x1, r1, rfl, hx1, hr1⟩ := sda_cons hxs
                obtain ⟨x2, r2, rfl, hx2, hr2⟩ := sda_cons hr1
                rw [sda_nil hr2] at hc
                have hx2' : Sd H5 x2 (eOpt (z.W.behind e0.1 s)) := hx2
                have htk := edL_take z e0.1 hs
                have hsm' := (hmem s).mp (mem_at hs)
                refine ⟨c, _, rfl, SqT.of hc, rfl, _, _, rfl, _, _, rfl, rfl, ?_⟩
                cases hbe : z.W.behind e0.1 s with
                | none =>
                  rw [hbe] at hx2'
                  rw [sd_non hx2']
                  refine ⟨_, rfl, rfl, _, rfl, iteT ⟨e1, post', _, _, _, hk1, ha1, ?_, I4, hf4, ht4, hi4, hi5, hn4, hma4, hmus4, ⟨nv', rfl, hnv'⟩, rfl⟩⟩
                  rw [htk, hbe, hE1]
                  simp
                | some f =>
                  rw [hbe] at hx2'
                  obtain ⟨fb, rfl, hfb⟩ := key_of hx2'
                  have gf : JM.Good z.W z.S f := Kw.good (s := s) g0 (steps_in hz.mok g0.st hsm').1 (steps_in hz.mok g0.st hsm').2 hbe
                  have hm1 : e1 ∈ pre ++ e1 :: post' := List.mem_append_right _ (List.mem_cons_self ..)
                  obtain ⟨es, hes, des⟩ := I4.tab.2.2 e1 hm1
                  have hget := tab_get I4.tab hnv'
                  rw [← hk1, tab_at I4.nd hm1] at hget
                  have hEl : e1.2.2.length ≤ 720 := by
                    rw [hE1]
                    exact Nat.le_trans (List.length_filterMap_le _ _) (Nat.le_trans (List.length_take_le' _ _) hL)
                  have hesl : es.length = e1.2.2.length := sda_len des
                  refine ⟨_, rfl, rfl, false, rfl, iteF ?_⟩
                  refine ⟨_, rfl, _, rfl, tb, _, rfl, hget, .inl ⟨rfl, es, SqL.of hes⟩, _, rfl, _, rfl, by show 2 ≤ sizeLine; decide, fun t nt => ?_⟩
                  have It := I4.new (o := .tup [x1, .ref fb]) hfd nt
                  have kt : Same H5 (upd H5 t (.tup [x1, .ref fb])) := same_new nt
                  have hes2 := kt _ _ hes
                  refine ⟨e1.2.1, es, _, rfl, rfl, hes2, by rw [hesl]; exact Nat.lt_of_le_of_lt hEl (by decide), ?_⟩
                  have hedge : Sd (upd H5 t (.tup [x1, .ref fb])) (.ref t) (eEd ((s.1, s.2.1), f)) := .tup upd_same (.cons (hx1.sm kt) (.cons (hx2'.sm kt) .nil))
                  have Ie := It.edge (x := ((s.1, s.2.1), f)) hfd hedge hes2
                  have ftE : Ft H5 (upd (upd H5 t (.tup [x1, .ref fb])) e1.2.1 (.lst (es ++ [.ref t]))) := (ft_of kt).trans (ft_upd hes2 fun _ z => nomatch z)
                  have nma : ma ≠ e1.2.1 := fun e => hn4 e1 hm1 e.symm
                  have hmaE : (upd (upd H5 t (.tup [x1, .ref fb])) e1.2.1 (.lst (es ++ [.ref t]))) ma = some (.lst mus) := (upd_ne nma).trans (kt _ _ hma4)
                  generalize upd (upd H5 t (.tup [x1, .ref fb])) e1.2.1 (.lst (es ++ [.ref t])) = H6 at Ie ftE hmaE
                  have keq : (pre ++ (e1.1, e1.2.1, e1.2.2 ++ [((s.1, s.2.1), f)]) :: post').map (·.1) = (pre ++ e1 :: post').map (·.1) := by rw [List.map_append, List.map_append]; rfl
                  have hE2 : e1.2.2 ++ [((s.1, s.2.1), f)] = edL z e0.1 (L.take (j + 1)) := by rw [htk, hbe, hE1]; rfl
                  have hn5 : ∀ e ∈ pre ++ (e1.1, e1.2.1, e1.2.2 ++ [((s.1, s.2.1), f)]) :: post', e.2.1 ≠ ma := fun e he => by
                    rcases List.mem_append.mp he with h | h
                    · exact hn4 e (List.mem_append_left _ h)
                    · rcases List.mem_cons.mp h with h | h
                      · rw [h]
                        exact hn4 e1 hm1
                      · exact hn4 e (List.mem_append_right _ (List.mem_cons_of_mem _ h))
                  refine ⟨_, rfl, _, rfl, tb, _, rfl, tab_get Ie.tab (hx2'.mt ftE), _, rfl, ?_⟩
                  cases hval : valV (tabKv (pre ++ (e1.1, e1.2.1, e1.2.2 ++ [((s.1, s.2.1), f)]) :: post')) (kSt f) with
                  | some a =>
                    refine iteF ⟨(e1.1, e1.2.1, e1.2.2 ++ [((s.1, s.2.1), f)]), post', _, _, _, hk1, ha1, hE2, Ie, by rw [keq]; exact hf4, ht4, by rw [keq]; exact hi4, fun x hx => ?_, hn5, hmaE, hmus4.mt ftE, ⟨nv', rfl, hnv'.mt ftE⟩, rfl⟩
                    rcases List.mem_append.mp hx with h | h
                    · rw [keq]
                      exact hi5 x h
                    · rw [List.mem_singleton.mp h]
                      refine Classical.byContradiction fun no => ?_
                      rw [tab_none.mpr no] at hval
                      cases hval
                  | none =>
                    have hnot := tab_none.mp hval
                    obtain ⟨us6, hus6, dus6⟩ := Ie.wai
                    have hlen6 : (pre ++ (e1.1, e1.2.1, e1.2.2 ++ [((s.1, s.2.1), f)]) :: post').length ≤ 1728 := by
                      have := good_len Kw hSl hwl Ie.nd fun u hu => by
                        obtain ⟨e, he, rfl⟩ := List.mem_map.mp hu
                        exact Ie.good e he
                      rwa [List.length_map] at this
                    have hul6 : us6.length = (pre ++ (e1.1, e1.2.1, e1.2.2 ++ [((s.1, s.2.1), f)]) :: post').length := by rw [dus6.len, List.length_map]
                    refine iteT ⟨by show 0 ≤ sizeLine; decide, fun p hp => ?_⟩
                    have npt : tb ≠ p := fun e => by have := Ie.tab.1; rw [e, hp] at this; cases this
                    have npw : wl ≠ p := fun e => by rw [e, hp] at hus6; cases hus6
                    have hb6 := ftE _ _ hfb
                    refine ⟨_, rfl, _, rfl, tb, _, rfl, .inr ⟨_, kSt f, fb, (upd_ne npt).trans Ie.tab.1, rfl, (upd_ne (ne_of_none hb6 hp)).trans hb6, by unfold tabKv; rw [List.length_map]; exact Nat.lt_of_le_of_lt hlen6 (by decide), rfl⟩, ?_⟩
                    have nwt : wl ≠ tb := fun e => ntw e.symm
                    refine ⟨_, rfl, .inl ⟨rfl, us6, SqL.of ((upd_ne nwt).trans ((upd_ne npw).trans hus6))⟩, _, rfl, wl, us6, _, rfl, rfl, (upd_ne nwt).trans ((upd_ne npw).trans hus6), by rw [hul6]; exact Nat.lt_of_le_of_lt hlen6 (by decide), ?_⟩
                    have eqA : (pre ++ (e1.1, e1.2.1, e1.2.2 ++ [((s.1, s.2.1), f)]) :: post') ++ [(f, p, [])] = pre ++ (e1.1, e1.2.1, e1.2.2 ++ [((s.1, s.2.1), f)]) :: (post' ++ [(f, p, [])]) := by rw [List.append_assoc, List.cons_append]
                    rw [putK_tab hnot, eqA]
                    have Ia := Ie.add hfd hp (hx2'.mt ftE) hnot gf hus6
                    rw [eqA] at Ia
                    have ftA := ft_add (ys := us6 ++ [.ref fb]) (kvs' := tabKv (pre ++ (e1.1, e1.2.1, e1.2.2 ++ [((s.1, s.2.1), f)]) :: (post' ++ [(f, p, [])]))) hp Ie.tab.1 hus6
                    have keq2 : (pre ++ (e1.1, e1.2.1, e1.2.2 ++ [((s.1, s.2.1), f)]) :: (post' ++ [(f, p, [])])).map (·.1) = (pre ++ e1 :: post').map (·.1) ++ [f] := by
                      rw [← List.cons_append, ← List.append_assoc, List.map_append, keq]
                      rfl
                    have nmt : ma ≠ tb := fun e => by have := Ie.tab.1; rw [← e, hmaE] at this; cases this
                    have nmp : ma ≠ p := fun e => by rw [e, hp] at hmaE; cases hmaE
                    have nmw : ma ≠ wl := fun e => by rw [e, hus] at nma0; cases nma0
                    refine ⟨(e1.1, e1.2.1, e1.2.2 ++ [((s.1, s.2.1), f)]), post' ++ [(f, p, [])], _, _, _, hk1, ha1, hE2, Ia, fun u hu => ?_, fun e he => ?_, fun e he x hx => ?_, fun x hx => ?_, fun e he => ?_, (upd_ne nmw).trans ((upd_ne nmt).trans ((upd_ne nmp).trans hmaE)), (hmus4.mt ftE).mt ftA, ⟨nv', rfl, (hnv'.mt ftE).mt ftA⟩, rfl⟩
                    · rw [keq2]
                      exact List.mem_append_left _ (hf4 u hu)
                    · rcases List.mem_append.mp he with h | h
                      · exact ht4 e h
                      · rw [List.mem_singleton.mp h]
                    · rw [keq2]
                      exact List.mem_append_left _ (hi4 e he x hx)
                    · rw [keq2]
                      rcases List.mem_append.mp hx with h | h
                      · exact List.mem_append_left _ (hi5 x h)
                      · rw [List.mem_singleton.mp h]
                        exact List.mem_append_right _ (List.mem_singleton.mpr rfl)
                    · rw [← List.cons_append, ← List.append_assoc] at he
                      rcases List.mem_append.mp he with h | h
                      · exact hn5 e h
                      · rw [List.mem_singleton.mp h]
                        exact fun q => nmp q.symm
              · obtain ⟨e1, post', y6, y8, y9, hk1, ha1, hE1, I4, hf4, ht4, hi4, hi5, hn4, hma4, hmus4, ⟨nv', rfl, hnv'⟩, rfl⟩ := p
                rw [hml, List.take_length] at hE1
                refine ⟨⟨pre ++ [e1], post', some nv', y8, y9, by rw [List.append_assoc]; exact I4, by rw [List.append_assoc]; exact hf4, fun e he => ?_, ht4, fun e he x hx => ?_, ?_⟩, ?_⟩
                · rcases List.mem_append.mp he with h | h
                  · exact hdone e h
                  · rw [List.mem_singleton.mp h]
                    refine ⟨fun c => absurd (hk1 ▸ c) hop', fun _ f => ?_, by rw [hE1]; exact Nat.le_trans (List.length_filterMap_le _ _) hL⟩
                    rw [hE1, mem_edL, hk1]
                    exact ⟨fun ⟨s, hs, hb⟩ => ⟨s, (hmem s).mp hs, hb⟩, fun ⟨s, hs, hb⟩ => ⟨s, (hmem s).mpr hs, hb⟩⟩
                · rw [List.append_assoc]
                  rcases List.mem_append.mp he with h | h
                  · exact hi4 e h x hx
                  · rw [List.mem_singleton.mp h] at hx
                    exact hi5 x hx
                · rw [List.length_append]
                  rfl
                · show (2000 - ((pre.length : Nat) + (1 : Int))).toNat < (2000 - ((pre.length : Nat) : Int)).toNat
                  omega
        · have hpost : post = [] := by
            cases post with
            | nil => rfl
            | cons a l =>
              refine absurd (decide_eq_true ?_) hc
              rw [hul, List.length_cons]
              omega
          subst hpost
          rw [List.append_nil] at I hfirst hinn
          refine ⟨_, rfl, q H2 tb pre I.k I.fo htb I.tab (fun e he => (I.nn e he).1) ⟨I.nd, I.good, hfirst, fun e he => (hdone e he).1, fun e he => (hdone e he).2.1, hinn, fun e he => (hdone e he).2.2⟩⟩
      · obtain ⟨v1, e1, v2, e2, p1, ys, r1, r2, i1, j1, r3, r4, k1, r5, q1⟩ := h
        exact ⟨v1, e1, v2, e2, p1, ys, r1, r2, i1, j1, r3, r4, k1, r5, hq _ _ q1⟩
end
end J
/-! CutSearch.__init__: with the lambda that tells the moves. -/
namespace J
open PySem PySem.Spec PyProof.Rows L2 LamX NdefX
/-- a def whose code is known -/
theorem okT {CX : CXT} {P : Program} {w : World} {K : PySem.W.Frag} {mg : Str → Option Value} {base : Heap} {x qual : Str} {st : Stmt} {dvs : List V} {f : Addr} {fd : FuncData} {N ps : List Str} {k : Nat} {sp : Sp} (F : FunD K x qual (defArgs st) (defBody st) (defScope st) dvs [] f fd) (S : FnScope N ps (defScope st)) (len : ∀ vs H Q E, sp vs H Q E → vs.length = ps.length)
    (hbody : ∀ (cdv : Value) (A : Around) (outer : List Env) (s : Shared) (H : Hp) (vs : List V) (Q : VK) (E : XK), cdv = fd.code → Room k (A.deeper (envOfC qual (defScope st) s.heap.objs.size f cdv)) → sp vs H Q E →
      ∃ t, PSs (cxOf CX P w K mg base N qual (defScope st) f cdv A outer s H E) (defBody st) t ∧ t { nx := fun _ H' => Q .non H', rt := Q } (L2.start N vs) H) : FnOk P w K mg base CX (k + 1) f fd ps sp := by
  obtain ⟨oc, od, dV, kV, doc, pm, an, cdv, ct, osl, rfl, lk, hcd, _, _⟩ := F.ex
  exact fn_of lk hcd S len fun A outer s H vs Q E hr hsp => hbody cdv A outer s H vs Q E rfl hr hsp
/-- the tables of those code objects that make functions -/
def nmCS : Nat → Nat → PySem.Str := fun _ _ => "CutSearch.__init__.<locals>.<lambda>"
def nmIP : Nat → Nat → PySem.Str := fun l _ => if l = 498 then "is_paper.<locals>.is_open" else "is_paper.<locals>.<lambda>"
structure TbF {K : PySem.W.Frag} {mg : Str → Option Value} (base : Heap) (T : Wd K mg) where
  csc : Addr
  csP : Addr
  cs_code : T.CutSearch_init.fd.code = .ref csc
  cs_tb : TabB base mg csc csP
  ipc : Addr
  ipP : Addr
  ip_code : T.is_paper.fd.code = .ref ipc
  ip_tb : TabB base mg ipc ipP
  ne : csP ≠ ipP
def TbF.tabs {K : PySem.W.Frag} {mg : Str → Option Value} {base : Heap} {T : Wd K mg} (B : TbF base T) : List NTab := [(B.csP, nmCS), (B.ipP, nmIP)]
def lamA : Expr → Arguments
  | .Lambda a _ _ _ => a
  | _ => defArgs (topS 0)
def lamB : Expr → Expr
  | .Lambda _ b _ _ => b
  | e => e
def lamSc : Expr → Scope
  | .Lambda _ _ s _ => s
  | _ => { kind := .function, names := [], isGenerator := false, isCoroutine := false }
/-- the lambda of CutSearch.__init__ -/
def lamCS : Expr := match (defBody s_CutSearch_init).getD 6 (.Pass ⟨0, 0, 0, 0⟩) with
  | .Assign _ (.Call _ as _ _) _ => as.getD 1 (.Constant .none 0 ⟨0, 0, 0, 0⟩)
  | _ => .Constant .none 0 ⟨0, 0, 0, 0⟩
section
variable {P : Program} {w : World} {K : PySem.W.Frag} {mg : Str → Option Value} {base : Heap}
theorem nsc_cs : NScope ["stand", "board", "steps"] ["stand"] ["board", "steps"] (lamSc lamCS) := ⟨rfl, rfl, rfl, by decide +kernel, rfl, by decide +kernel, by decide +kernel, by decide +kernel, by decide +kernel⟩
theorem mz_cs (T : Wd K mg) (z : Mz) (cl : List (PySem.Str × Addr)) (c' : Addr) (q : PySem.Str) (hF : z.F = ⟨"<lambda>", q, lamA lamCS, [], lamSc lamCS, cl, c'⟩) (ho : z.o = LamO z.f z.F (lamB lamCS)) (hfr : z.fr = [("board" : PySem.Str), "steps"]) (hcs : z.cs = [some z.b, some z.st]) : MzOk P w base T z := by
  have G_stand_moves := ok_stand_moves (P := P) (w := w) (base := base) T
  unfold MzOk
  rw [ho, hfr, hcs, hF]
  refine cal_lam (N := ["stand", "board", "steps"]) (ps := ["stand"]) nsc_cs (fun _ _ us hl => match us, hl with | [_], _ => rfl) (fun vs H Q h => ?_) fun A outer s H vs Q hr _ h => ?_
  · obtain ⟨v, u, rfl, _⟩ := h
    rfl
  · obtain ⟨v, u, rfl, hz, hv, hg, q⟩ := h
    refine ⟨_, pe_call G_stand_moves (hr.mono (by decide)) (by rfl) T.stand_moves.g T.stand_moves.F.kp T.stand_moves.b .nil pass0 (pa_cons (pv 1) (pa_cons (pv 2) (pa_cons (pv 0) pa_nil))), ?_⟩
    exact ⟨_, rfl, _, rfl, _, rfl, z.b, z.st, v, z.n, z.span, z.ws, z.fd, z.mo, u, rfl, hz.bd, hz.fo, hz.sts, hz.mok, hv, hg, fun H' p L h0 h1 h2 h3 h4 h5 => q H' p L h0 h1 h2 h3 h4 h5⟩
/-- what a search holds -/
def SearchAt (T : Wd K mg) (H : Hp) (v : V) (n span : Int) (ws : List (PySem.Str × List Row)) (o : RsO) : Prop := ∃ (x dx st tb fr : Addr) (sts : List St3) (nodes : List Nd) (fl : List (Stand × Nat)), v = .ref x ∧ H x = some (.ins T.CutSearch.C dx [("start", .ref st), ("table", .ref tb), ("far", .ref fr)]) ∧ LAt eSt3 H (.ref st) sts ∧ sts.length ≤ 1000 ∧
  (∀ u, u ∈ sts.map (·.2.2) ↔ u ∈ firstsS n span ws o) ∧ TabAt H tb nodes ∧ TabOk (woOf n span ws) (statesOf o) (stepsF n span ws o) (sts.map (·.2.2)) nodes ∧ nodes.length ≤ 1728 ∧ H fr = some (.dT (farKv fl)) ∧ FarOk (woOf n span ws) (stepsF n span ws o) nodes fl
/-- all but x and the code tables is kept -/
def ExtX (x : Addr) (H H' : Hp) : Prop := ∀ b o, b ≠ x → H b = some o → (∀ ps, o ≠ .tbl ps) → H' b = some o
theorem extx_of {x : Addr} {H H' : Hp} (h : SameX x H H') : ExtX x H H' := fun b o n e _ => h b o n e
theorem ExtX.trans {x : Addr} {H H1 H2 : Hp} (a : ExtX x H H1) (b : ExtX x H1 H2) : ExtX x H H2 := fun c o n e t => b c o n (a c o n e t) t
def sp_CutSearch_init (T : Wd K mg) (B : TbF base T) : Sp := fun vs H Q _ => ∃ (x dx : Addr) (v l : V) (n span : Int) (ws : List (PySem.Str × List Row)) (o : RsO), vs = [.ref x, v, l] ∧ H x = some (.ins T.CutSearch.C dx []) ∧ PartAt T H v n ws ∧ SpanIs n ws span ∧ LetOr T H l n ws o ∧ TabsN B.tabs H ∧
  ∀ H', ExtX x H H' → TabsN B.tabs H' → SearchAt T H' (.ref x) n span ws o → Q .non H'
theorem TabsN.sx {L : List NTab} {x : Addr} {H H' : Hp} {o : HO} (h : TabsN L H) (hx : H x = some o) (n1 : ∀ ps, o ≠ .tbl ps) (n2 : ∀ φ, o ≠ .ext φ) (k : SameX x H H') : TabsN L H' := fun p hp => by
  obtain ⟨ps, a1, a2, a3⟩ := h p hp
  refine ⟨ps, k _ _ (fun z => by rw [z, hx] at a1; exact n1 _ (Option.some.inj a1)) a1, a2, fun p' cv hcv => ?_⟩
  obtain ⟨c, e, hc⟩ := a3 p' cv hcv
  exact ⟨c, e, k _ _ (fun z => by rw [z, hx] at hc; exact n2 _ (Option.some.inj hc)) hc⟩
theorem TabsN.sm {L : List NTab} {H H' : Hp} (h : TabsN L H) (k : Same H H') : TabsN L H' := fun p hp => by
  obtain ⟨ps, a1, a2, a3⟩ := h p hp
  refine ⟨ps, k _ _ a1, a2, fun p' cv hcv => ?_⟩
  obtain ⟨c, e, hc⟩ := a3 p' cv hcv
  exact ⟨c, e, k _ _ hc⟩
end
/-- a def called whose functions handed over were made here -/
theorem pe_callCl {X : Cx} {ι : Type} {k : Nat} {f : Addr} {fd : FuncData} {ps : List Str} {sp : ι → Sp} {sel : ι → Mz} {dvs : List V} {ds : List Value} {x : Str} {p pos : Pos} {e : Expr} {es : List Expr} {t : TA} {sc : Scope} {fr : List Str} {js : List Nat}
    (F : ∀ z, FnOkG X.prog X.w X.K X.mg X.base k f fd ps (MzG (sel z)) (sp z)) (hfn : ∀ y, X.fn y = true) (hfree : ∀ y ∈ sc.names, y.2 = .free → X.env.scope.names.lookup y.1 = some .cell ∨ X.env.scope.names.lookup y.1 = some .free) (hfr : ∀ y ∈ fr, (y, NameKind.free) ∈ sc.names) (hjs : js.map (fun j => X.N[j]?) = fr.map some)
    (hr : Room k X.A) (hg : Gl X x) (hm : X.mg x = some (.ref f)) (hk : PySem.W.keepIn X.K (.ref f) = true)
    (hb : Binds X.K fd ps ds) (hd : Vals dvs ds) (ha : PA X (e :: es) t) (hdb : (x == ("__debug__" : Str)) = false := by decide)
    (he : starEach (e :: es) X.env = (false, eval e X.env) :: starEach es X.env := by rfl) (hpl : (backTo pos (starEach es X.env)).any (·.1) = false := by rfl) :
    PE X (.Call (.Name x p) (e :: es) [] pos) (tCallG sp (fun z σ _ => (sel z).F.cl = cloFrom X.env.cells sc.names [] ∧ (sel z).fr = fr ∧ (sel z).cs = js.map (slotAt σ)) dvs t) := by
  refine pe_callG (G := fun z => MzG (sel z)) F (fun z pins σ H s I hC => ?_) hr hg hm hk hb hd ha hdb he hpl
  obtain ⟨e1, e2, e3⟩ := hC
  have cp := Caps.made (fr := fr) (js := js) I.ok hfree hfr hjs
  refine ⟨by rw [e1, e2, e3]; exact cells_of I cp, fun y c hc => ?_⟩
  rw [e1] at hc
  exact cells_nofr I hfn (cp.sub y c hc)
end J
/-! The walk of CutSearch.__init__. -/
namespace J
open PySem PySem.Spec PyProof.Rows L2 LamX NdefX
theorem TabAt.kx {H H' : Hp} {x : Addr} {C dx : Addr} {fs : List (PySem.Str × V)} {tb : Addr} {nodes : List Nd} (B : TabAt H tb nodes) (hx : H x = some (.ins C dx fs)) (k : SameX x H H') : TabAt H' tb nodes := by
  refine ⟨k _ _ (ne_of B.1 hx fun z => nomatch z) B.1, B.2.1, fun e he => ?_⟩
  obtain ⟨es, a, b⟩ := B.2.2 e he
  exact ⟨es, k _ _ (ne_of a hx fun z => nomatch z) a, b.mt (ft_x k hx fun _ z => nomatch z)⟩
section
variable {P : Program} {w : World} {K : PySem.W.Frag} {mg : Str → Option Value} {base : Heap}
theorem sc_CutSearch_init : FnScope ["self", "part", "let", "board", "steps", "word", "turn", "state", "stand", "first", "_"] ["self", "part", "let"] (defScope s_CutSearch_init) := ⟨rfl, rfl, rfl, by decide +kernel, rfl, by decide +kernel, by decide +kernel⟩
-- slots: 0 self, 1 part, 2 let, 3 board*, 4 steps*, 5 word, 6 turn, 7 state, 8 stand, 9 first, 10 _
theorem ok_CutSearch_init (T : Wd K mg) (B : TbF base T) : FnOk P w K mg base CX0 9 T.CutSearch_init.f T.CutSearch_init.fd ["self", "part", "let"] (sp_CutSearch_init T B) := by
  have G_check_let := ok_check_let (P := P) (w := w) (base := base) T
  have G_Board_init := ok_Board_init (P := P) (w := w) (base := base) T
  have G_steps_by_state := ok_steps_by_state (P := P) (w := w) (base := base) T
  have G_first_steps := ok_first_steps (P := P) (w := w) (base := base) T
  have G_stands_of := ok_stands_of (P := P) (w := w) (base := base) T
  have G_distances := ok_distances (P := P) (w := w) (base := base) T
  refine okT T.CutSearch_init.F sc_CutSearch_init (fun vs H Q E h => ?_) (fun cdv A outer s H vs Q E hcd hr h => ?_)
  · obtain ⟨x, dx, v, l, n, span, ws, o, rfl, _⟩ := h
    rfl
  · obtain ⟨x, dx, v, l, n, span, ws, o, rfl, hx, hv, hsp, hl, htn, q⟩ := h
    have hcode : cdv = .ref B.csc := hcd.trans B.cs_code
    have hfree : ∀ y ∈ (lamSc lamCS).names, y.2 = .free → (defScope s_CutSearch_init).names.lookup y.1 = some .cell ∨ (defScope s_CutSearch_init).names.lookup y.1 = some .free := by decide +kernel
    have hfr : ∀ y ∈ ([("board" : PySem.Str), "steps"]), (y, NameKind.free) ∈ (lamSc lamCS).names := by decide +kernel
    have hu : ∀ p ∈ B.tabs, p.1 = B.csP → p.2 = nmCS := fun p hp e => by
      rcases List.mem_cons.mp hp with h | h
      · rw [h]
      · rw [List.mem_singleton.mp h] at e
        exact absurd e.symm B.ne
    refine ⟨_, PSs.nox (pss_cons (ps_expr (pe_call G_check_let (hr.mono (by decide)) (by rfl) T.check_let.g T.check_let.F.kp T.check_let.b .nil pass0 (pa_cons (pv 1) (pa_cons (pv 2) pa_nil))))
      (pss_cons (ps_set (i := 3) sc_CutSearch_init.nd rfl (.inr rfl) (pe_make T.Board_init.mkr G_Board_init (hr.mono (by decide)) (by rfl) T.Board.g T.Board_init.b .nil pass0 (pa_cons (pv 1) pa_nil)))
      (pss_cons (ps_set (i := 4) sc_CutSearch_init.nd rfl (.inr rfl) (pe_call G_steps_by_state (hr.mono (by decide)) (by rfl) T.steps_by_state.g T.steps_by_state.F.kp T.steps_by_state.b .nil pass0 (pa_cons (pv 3) (pa_cons (pv 2) pa_nil))))
      (pss_cons (ps_fld (pv 0) (pe_lst pa_nil) rfl)
      (pss_cons (ps_for PassesOwn.never rfl (pi_list (pe_call G_first_steps (hr.mono (by decide)) (by rfl) T.first_steps.g T.first_steps.F.kp T.first_steps.b .nil pass0 (pa_cons (pv 3) (pa_cons (pv 2) pa_nil)))) (pg_tup (by rfl) (pgs_cons (pg_name (i := 5) sc_CutSearch_init.nd rfl (.inl rfl)) (pgs_cons (pg_name (i := 6) sc_CutSearch_init.nd rfl (.inl rfl)) (pgs_cons (pg_name (i := 7) sc_CutSearch_init.nd rfl (.inl rfl)) pgs_nil))))
        (pss_one (ps_for PassesOwn.never rfl (pi_list (pe_call G_stands_of (hr.mono (by decide)) (by rfl) T.stands_of.g T.stands_of.F.kp T.stands_of.b .nil pass0 (pa_cons (pv 3) (pa_cons (pv 5) (pa_cons (pv 7) pa_nil))))) (pg_name (i := 8) sc_CutSearch_init.nd rfl (.inl rfl))
          (pss_one (ps_expr (pe_bm PySem.F.plainAttrs_list PySem.F.slot_list_append PySem.F.type_list_append mt_append (pe_fld (pv 0) rfl) (pa_cons (pe_tup (pa_cons (pv 5) (pa_cons (pv 6) (pa_cons (pv 8) pa_nil)))) pa_nil)))))))
      (pss_cons (ps_setLc (i := 9) (own := [("_", 10), ("stand", 8)]) rfl sc_CutSearch_init.nd rfl rfl (sw_true rfl rfl rfl (by decide +kernel)) (g := gTup K 3 (gCons (gName 10) (gCons (gName 10) (gCons (gName 8) (gNil))))) (pi_list (pe_fld (pv 0) rfl)) (blkOk_by (own := [("_", 10), ("stand", 8)]) (N := ["self", "part", "let", "board", "steps", "word", "turn", "state", "stand", "first", "_"]) (sc := defScope s_CutSearch_init) (by decide +kernel)) (fun _ _ _ _ _ => (pg_tup (by rfl) (pgs_cons (pg_name (i := 10) sc_CutSearch_init.nd rfl (.inl rfl)) (pgs_cons (pg_name (i := 10) sc_CutSearch_init.nd rfl (.inl rfl)) (pgs_cons (pg_name (i := 8) sc_CutSearch_init.nd rfl (.inl rfl)) pgs_nil))))) (fun _ _ _ _ _ => pts_nil) (fun _ _ _ _ _ => (pv 8)))
      (pss_cons (ps_fld (pv 0) (pe_callCl (sel := fun z : { z : Mz // MzOk P w base T z } => z.1) (sc := lamSc lamCS) (fr := ["board", "steps"]) (js := [3, 4]) (ok_explored T) (fun _ => rfl) hfree hfr rfl (hr.mono (by decide)) (by rfl) T.explored.g T.explored.F.kp T.explored.b T.explored.dr (pa_cons (pv 9) (pa_cons (pe_lamN (T := B.tabs) (nm := nmCS) B.cs_tb hcode (List.mem_cons_self ..) (by rfl) hu hfree (by rfl)) (pa_cons (pe_glob (v := .ref T.is_closed.f) (by rfl) T.is_closed.g rfl) pa_nil)))) rfl)
      (pss_one (ps_fld (pv 0) (pe_call G_distances (hr.mono (by decide)) (by rfl) T.distances.g T.distances.F.kp T.distances.b .nil pass0 (pa_cons (pe_fld (pv 0) rfl) (pa_cons (pe_glob (v := .ref T.is_closed.f) (by rfl) T.is_closed.g rfl) pa_nil))) rfl)))))))))
, ?_⟩
    have mok := hl.mach
    have hv0 := hv
    obtain ⟨pa, pdx, d, rfl, hpa, _, ok⟩ := hv0
    refine ⟨_, rfl, _, rfl, _, l, n, ws, o, rfl, hv, hl, fun H1 s1 => ?_⟩
    refine ⟨_, rfl, fun y dy hy hdy nyd => ⟨y, dy, _, n, ws, rfl, upd_same, (hv.sm s1).ke (ke_of fun b o e => by rw [upd_ne (ne_of_none e hy), upd_ne (ne_of_none e hdy)]; exact e), fun H2 fd span2 k2 hfd hb hf => ⟨rfl, ?_⟩⟩⟩
    have s2 : Same H1 H2 := make_same hy hdy k2
    have hb0 := hb
    obtain ⟨_, _, _, _, _, e, _, _, hsp2, _⟩ := hb0
    cases e
    have es := hsp2.uniq hsp
    subst es
    have Kw := woOf_ok ok hsp
    have s12 := s1.trans s2
    have hfd0 : H fd = none := s1.free (make_none hfd)
    refine ⟨_, rfl, _, rfl, _, l, n, span2, ws, fd, o, rfl, hb, hl.sm s12, fun H3 v3 s3 hst3 => ?_⟩
    have s03 := s12.trans s3
    have hx3 := s03 _ _ hx
    have hb3 := hb.ke (ke_of s3)
    have hf3 : FoundAt (woOf n span2 ws) (H3 fd) := by
      obtain ⟨kv, e, r⟩ := hf
      exact ⟨kv, s3 _ _ e, r⟩
    have htn3 : TabsN B.tabs H3 := htn.ext s03
    have hl3 := hl.sm s03
    refine ⟨by show 0 ≤ sizeLine; decide, fun st hst => ⟨_, rfl, x, T.CutSearch.C, dx, _, rfl, (upd_ne (ne_of_none hx3 hst)).trans hx3, T.CutSearch.cl, T.n_CutSearch_start, by show 0 < 1000; decide, ?_⟩⟩
    have nsx : st ≠ x := fun z => by rw [z, hx3] at hst; cases hst
    have k4 : SameX x H3 (upd (upd H3 st (.lst [])) x (.ins T.CutSearch.C dx (putF "start" (.ref st) []))) := (samex_new hst).at
    have hx4 : (upd (upd H3 st (.lst [])) x (.ins T.CutSearch.C dx (putF "start" (.ref st) []))) x = some (.ins T.CutSearch.C dx [("start", .ref st)]) := upd_same
    have hst4 : (upd (upd H3 st (.lst [])) x (.ins T.CutSearch.C dx (putF "start" (.ref st) []))) st = some (.lst []) := (upd_ne nsx).trans upd_same
    generalize upd (upd H3 st (.lst [])) x (.ins T.CutSearch.C dx (putF "start" (.ref st) [])) = H4 at k4 hx4 hst4
    have kk : ∀ {H' : Hp}, SameX x H3 H' → Ke H3 H' := fun k => ke_in k hx3
    refine ⟨_, rfl, _, rfl, _, l, n, span2, ws, fd, o, rfl, hb3.ke (kk k4), hl3.ke (kk k4), fun H5 v5 L s5 hL5 hLl hmem => ?_⟩
    obtain ⟨la, lus, rfl, hla, hlus⟩ := hL5
    have hst5 := s5 _ _ hst4
    have hx5 := s5 _ _ hx4
    have k5 := k4.trans (same_x s5)
    have lul := sda_len hlus
    have m12 : ∀ s ∈ firstsF n ws o, (standsOf (woOf n span2 ws) s).length ≤ 12 := fun s hs => by
      have := Kw.m_le (w := s.1) (firsts_in mok hs).1
      unfold standsOf
      rw [List.length_map, List.length_range]
      omega
    let tri : Tri → Stand → St3 := fun s u => (s.1, (s.2.1, u))
    have flen : ∀ i, ((L.take i).flatMap fun s => (standsOf (woOf n span2 ws) s).map (tri s)).length ≤ i * 12 := fun i => by
      induction i with
      | zero => simp
      | succ i ih =>
        by_cases c : i < L.length
        · rw [List.take_add_one, List.getElem?_eq_getElem c, List.flatMap_append, List.length_append]
          have := m12 L[i] ((hmem _).mp (List.getElem_mem c))
          have e : (List.flatMap (fun s => (standsOf (woOf n span2 ws) s).map (tri s)) (some L[i]).toList).length = (standsOf (woOf n span2 ws) L[i]).length := by simp
          rw [e]
          omega
        · rw [List.take_of_length_le (by omega)] at ih ⊢
          omega
    have nl : 0 < lus.length → la ≠ st := fun h z => by
      rw [z, hst5] at hla
      cases hla
      cases h
    refine ⟨la, rfl, ⟨lus, SqL.of hla⟩, ?_⟩
    refine for_it walk_list (fun (i : Nat) (σ : L2.St) (H' : Hp) => SameX x H3 H' ∧ H' x = some (.ins T.CutSearch.C dx [("start", .ref st)]) ∧ H' la = some (.lst lus) ∧ SdAll H' lus (L.map eTri) ∧ (∃ us, H' st = some (.lst us) ∧ SdAll H' us (((L.take i).flatMap fun s => (standsOf (woOf n span2 ws) s).map (tri s)).map eSt3)) ∧ ∃ x5 x6 x7 x8, σ = [some (.ref x), some (.ref pa), some l, some (.ref y), some v3, x5, x6, x7, x8, none, none])
      ⟨k5, hx5, hla, hlus, ⟨[], hst5, .nil⟩, none, none, none, none, rfl⟩ (fun i σ H' _ p => SqL.of p.2.2.1) (fun i x' σ H6 H7 hi p yy => ?_) fun σ H6 p => ?_
    · obtain ⟨k6, hx6, hla6, hlus6, ⟨us6, hst6, d6⟩, x5, x6, x7, x8, rfl⟩ := p
      obtain ⟨rfl, e2⟩ := yy
      obtain ⟨s, hs, hsd⟩ := item_at hlus6 e2
      obtain ⟨c, rfl, hc⟩ := sd_tri hsd
      have hin := firsts_in mok ((hmem s).mp (mem_at hs))
      have nla := nl (by omega)
      have f1 := flen i
      have f2 := m12 s ((hmem s).mp (mem_at hs))
      refine ⟨c, _, rfl, SqT.of hc, rfl, _, _, rfl, _, _, rfl, _, _, rfl, rfl, ?_⟩
      refine ⟨_, rfl, _, rfl, _, rfl, _, s.1, s.2.2, n, span2, ws, fd, s.2.1, rfl, hb3.ke (kk k6), hin.1, fun H8 sa nsa s8 h8 => ?_⟩
      obtain ⟨sa', sus, e8, hsa, dsa⟩ := h8
      cases e8
      have sul := sda_len dsa
      have hst8 := s8 _ _ hst6
      have nss : sa ≠ st := fun z => by rw [z, hst6] at nsa; cases nsa
      have k8 := k6.trans (same_x s8)
      refine ⟨sa, rfl, ⟨sus, SqL.of hsa⟩, ?_⟩
      refine for_it walk_list (fun (j : Nat) (σ : L2.St) (H' : Hp) => SameX x H3 H' ∧ H' x = some (.ins T.CutSearch.C dx [("start", .ref st)]) ∧ H' la = some (.lst lus) ∧ SdAll H' lus (L.map eTri) ∧ H' sa = some (.lst sus) ∧ SdAll H' sus ((standsOf (woOf n span2 ws) s).map eStand) ∧ (∃ us, H' st = some (.lst us) ∧ SdAll H' us ((((L.take i).flatMap fun s => (standsOf (woOf n span2 ws) s).map (tri s)) ++ ((standsOf (woOf n span2 ws) s).take j).map (tri s)).map eSt3)) ∧ ∃ x8, σ = [some (.ref x), some (.ref pa), some l, some (.ref y), some v3, some (.str s.1), some (.int s.2.1), some (.str s.2.2), x8, none, none])
        ⟨k8, s8 _ _ hx6, s8 _ _ hla6, hlus6.sm s8, hsa, dsa, ⟨us6, hst8, by simpa using d6.sm s8⟩, _, rfl⟩ (fun j σ H' _ p => SqL.of p.2.2.2.2.1) (fun j x' σ H9 HA hj p yy => ?_) fun σ H9 p => ?_
      · obtain ⟨k9, hx9, hla9, hlus9, hsa9, dsa9, ⟨us9, hst9, d9⟩, y8, rfl⟩ := p
        obtain ⟨rfl, e3⟩ := yy
        obtain ⟨u, hu, hsu⟩ := item_at dsa9 e3
        have hsu' := hsu
        obtain ⟨ub, rfl, hub⟩ := sd_stand hsu'
        refine ⟨_, rfl, x, T.CutSearch.C, dx, _, _, rfl, hx9, T.CutSearch.cl, T.n_CutSearch_start, rfl, .inl ⟨rfl, us9, SqL.of hst9⟩, _, rfl, _, rfl, _, rfl, by show 3 ≤ sizeLine; decide, fun t nt => ?_⟩
        have kt : Same HA (upd HA t (.tup [.str s.1, .int s.2.1, .ref ub])) := same_new nt
        have hst10 := kt _ _ hst9
        have hsd3 : Sd (upd HA t (.tup [.str s.1, .int s.2.1, .ref ub])) (.ref t) (eSt3 (tri s u)) := .tup upd_same (.cons (.str _) (.cons (.int _) (.cons (hsu.sm kt) .nil)))
        have k10 := fz_lst (o := .lst (us9 ++ [.ref t])) hst10
        have nst0 : H3 st = none := hst
        refine ⟨st, us9, _, rfl, rfl, hst10, ?_, fun b o nb e => ?_, (upd_ne (fun z => nsx z.symm)).trans (kt _ _ hx9), (upd_ne nla).trans (kt _ _ hla9), (hlus9.sm kt).mv k10, (upd_ne nss).trans (kt _ _ hsa9), (dsa9.sm kt).mv k10, ⟨us9 ++ [.ref t], upd_same, ?_⟩, _, rfl⟩
        · rw [sda_len d9, List.length_append, List.length_map, List.length_take]
          refine Nat.lt_of_le_of_lt (m := 1000) ?_ (by decide)
          have g1 : ((L.take i).flatMap fun s => (standsOf (woOf n span2 ws) s).map (tri s)).length ≤ i * 12 := f1
          have g2 : i ≤ 8 := by omega
          have g3 : min j (standsOf (woOf n span2 ws) s).length ≤ 12 := by omega
          exact Nat.le_trans (Nat.add_le_add g1 g3) (by omega)
        · exact (upd_ne (ne_of_none e nst0)).trans (kt _ _ (k9 _ _ nb e))
        · have e5 : (((L.take i).flatMap fun s => (standsOf (woOf n span2 ws) s).map (tri s)) ++ ((standsOf (woOf n span2 ws) s).take (j + 1)).map (tri s)) = (((L.take i).flatMap fun s => (standsOf (woOf n span2 ws) s).map (tri s)) ++ ((standsOf (woOf n span2 ws) s).take j).map (tri s)) ++ [tri s u] := by
            rw [List.take_add_one, hu, List.map_append, List.append_assoc]
            rfl
          rw [e5, List.map_append]
          exact ((d9.sm kt).mv k10).app (.cons (hsd3.mv k10) .nil)
      · obtain ⟨k9, hx9, hla9, hlus9, hsa9, dsa9, ⟨us9, hst9, d9⟩, y8, rfl⟩ := p
        rw [sul, List.take_length] at d9
        refine ⟨k9, hx9, hla9, hlus9, ⟨us9, hst9, ?_⟩, _, _, _, _, rfl⟩
        have e5 : ((L.take (i + 1)).flatMap fun s => (standsOf (woOf n span2 ws) s).map (tri s)) = ((L.take i).flatMap fun s => (standsOf (woOf n span2 ws) s).map (tri s)) ++ (standsOf (woOf n span2 ws) s).map (tri s) := by
          rw [List.take_add_one, hs, List.flatMap_append]
          simp
        rw [e5]
        exact d9
    · obtain ⟨k6, hx6, hla6, hlus6, ⟨us6, hst6, d6⟩, x5, x6, x7, x8, rfl⟩ := p
      rw [lul, List.take_length] at d6
      have f1 := flen L.length
      rw [List.take_length] at f1
      have lst6 := sda_len d6
      generalize hsts : (L.flatMap fun s => (standsOf (woOf n span2 ws) s).map (tri s)) = sts at d6 f1 lst6
      have hsmem : ∀ u, u ∈ sts.map (·.2.2) ↔ u ∈ firstsS n span2 ws o := fun u => by
        rw [← hsts]
        unfold firstsS
        rw [List.mem_map, List.mem_flatMap]
        constructor
        · rintro ⟨p, hp, rfl⟩
          obtain ⟨s, hs, h⟩ := List.mem_flatMap.mp hp
          obtain ⟨u, hu, rfl⟩ := List.mem_map.mp h
          exact ⟨s, (hmem s).mp hs, hu⟩
        · rintro ⟨s, hs, hu⟩
          exact ⟨tri s u, List.mem_flatMap.mpr ⟨s, (hmem s).mpr hs, List.mem_map.mpr ⟨u, hu, rfl⟩⟩, rfl⟩
      refine ⟨_, rfl, x, T.CutSearch.C, dx, _, _, rfl, hx6, T.CutSearch.cl, T.n_CutSearch_start, rfl, st, rfl, ⟨us6, SqL.of hst6⟩, fun D hD => ?_⟩
      refine lc_pure walk_list sts (fun p => some p.2.2) eStand lst6 (by rw [lst6]; exact Nat.le_trans (m := 96) (by omega) (by decide)) hD (fun H' s => SqL.of (s _ _ hst6)) (fun i z x' H7 H8 N N0 hz s7 yy hN hN0 => ?_) fun H7 us7 s7 hD7 hu7 => ?_
      · obtain ⟨rfl, e2⟩ := yy
        obtain ⟨p, hp, hsd⟩ := item_at d6 e2
        rw [hz] at hp
        cases hp
        obtain ⟨c, b, rfl, hc, hb', _⟩ := sd_st3 (hsd.sm s7)
        exact ⟨c, _, rfl, SqT.of hc, rfl, _, _, rfl, _, _, rfl, _, _, rfl, rfl, rfl, yesT ⟨_, rfl, hN _ _ _ (Same.refl _) rfl hb'⟩⟩
      · rw [show sts.filterMap (fun p => some p.2.2) = sts.map (·.2.2) by simp] at hu7
        have k7 : SameX x H3 H7 := k6.trans (same_x s7)
        have hx7 := s7 _ _ hx6
        have tn7 : TabsN B.tabs H7 := TabsN.sx htn3 hx3 (fun _ z => nomatch z) (fun _ z => nomatch z) k7
        have nfx : fd ≠ x := fun z => by rw [z, hx] at hfd0; cases hfd0
        obtain ⟨fkv, hfk3, ffnd, ffin⟩ := hf3
        have hfk7 := k7 _ _ nfx hfk3
        have l7 : LAt eSt3 H7 (.ref st) sts := ⟨st, us6, rfl, s7 _ _ hst6, d6.sm s7⟩
        have sgood : ∀ u ∈ sts.map (·.2.2), JM.Good (woOf n span2 ws) (statesOf o) u := fun u hu => firstsS_good Kw mok ((hsmem u).mp hu)
        refine ⟨_, rfl, tn7, fun f c' H8 ex nn8 tn8 nf8 hfo hco => ?_⟩
        have ke8 : Ke H7 H8 := fun b o e n => ex b o e fun ps z => n (.inr (.inl ⟨ps, z⟩))
        have hx8 := ex _ _ hx7 (fun _ z => nomatch z)
        have hfk8 := ex _ _ hfk7 (fun _ z => nomatch z)
        have fo8 : FoundAt (woOf n span2 ws) (H8 fd) := ⟨fkv, hfk8, ffnd, ffin⟩
        have ke38 := (kk k7).trans ke8
        let FF : NF := ⟨"<lambda>", "CutSearch.__init__.<locals>.<lambda>", lamA lamCS, [], lamSc lamCS, cloFrom (envOfC "CutSearch.__init__" (defScope s_CutSearch_init) s.heap.objs.size T.CutSearch_init.f cdv).cells (lamSc lamCS).names [], c'⟩
        let z : Mz := ⟨f, LamO f FF (lamB lamCS), FF, ["board", "steps"], [some (.ref y), some v3], .ref y, v3, n, span2, ws, fd, o⟩
        have hz8 : MzAt T z H8 := ⟨hb3.ke ke38, fo8, hst3.ke ke38, mok, hfo, hco, gone_ext _⟩
        refine ⟨⟨z, mz_cs T z _ c' _ rfl rfl rfl rfl⟩, ⟨rfl, rfl, rfl⟩, .ref D, sts.map (·.2.2), rfl, hz8, LAt.ke ke8 ⟨D, us7, rfl, hD7, hu7⟩, sgood, fun H9 tb nodes k9 f9 ntb ht9 nn9 ok9 => ?_⟩
        have ke9 := fo8.ke k9
        have hx9 := k9 _ _ (fun e => nfx e.symm) hx8
        have nlen : nodes.length ≤ 1728 := by
          have := good_len Kw mok.few (by show (ws.map (·.1)).length ≤ 2; rw [List.length_map]; exact ok.short) ok9.nd fun u hu => by
            obtain ⟨e, he, rfl⟩ := List.mem_map.mp hu
            exact ok9.good e he
          rwa [List.length_map] at this
        refine ⟨_, rfl, x, T.CutSearch.C, dx, _, rfl, hx9, T.CutSearch.cl, T.n_CutSearch_table, by show 1 < 1000; decide, ?_⟩
        have ht10 := ht9.kx hx9 (samex_upd (o := .ins T.CutSearch.C dx (putF "table" (.ref tb) [("start", .ref st)])))
        have l9 : LAt eSt3 H9 (.ref st) sts := (l7.ke ke8).ke ke9
        have l10 := l9.kx hx9 (fun _ z => nomatch z) (fun _ z => nomatch z) (samex_upd (o := .ins T.CutSearch.C dx (putF "table" (.ref tb) [("start", .ref st)])))
        have tn9 : TabsN B.tabs H9 := TabsN.sx tn8 hfk8 (fun _ z => nomatch z) (fun _ z => nomatch z) k9
        have tn10 := TabsN.sx tn9 hx9 (fun _ z => nomatch z) (fun _ z => nomatch z) (samex_upd (o := .ins T.CutSearch.C dx (putF "table" (.ref tb) [("start", .ref st)])))
        have hx10 : (upd H9 x (.ins T.CutSearch.C dx (putF "table" (.ref tb) [("start", .ref st)]))) x = some (.ins T.CutSearch.C dx [("start", .ref st), ("table", .ref tb)]) := upd_same
        have k10 : SameX x H9 (upd H9 x (.ins T.CutSearch.C dx (putF "table" (.ref tb) [("start", .ref st)]))) := samex_upd
        generalize upd H9 x (.ins T.CutSearch.C dx (putF "table" (.ref tb) [("start", .ref st)])) = H10 at ht10 l10 tn10 hx10 k10
        refine ⟨_, rfl, x, T.CutSearch.C, dx, _, _, rfl, hx10, T.CutSearch.cl, T.n_CutSearch_table, rfl, tb, woOf n span2 ws, statesOf o, stepsF n span2 ws o, sts.map (fun p : St3 => p.2.2), nodes, rfl, ht10, ok9, nlen, fun H11 fr fl s11 hfr fok => ?_⟩
        have hx11 := s11 _ _ hx10
        refine ⟨_, rfl, x, T.CutSearch.C, dx, _, rfl, hx11, T.CutSearch.cl, T.n_CutSearch_far, by show 2 < 1000; decide, ?_⟩
        refine q _ (fun b ob nb e nt => ?_) (TabsN.sx (tn10.ext s11) hx11 (fun _ z => nomatch z) (fun _ z => nomatch z) samex_upd) ⟨x, dx, st, tb, fr, sts, nodes, fl, rfl, upd_same, (l10.sm s11).kx hx11 (fun _ z => nomatch z) (fun _ z => nomatch z) samex_upd, by omega, hsmem, (ht10.mv s11).kx hx11 samex_upd, ok9, nlen, (upd_ne (ne_of hfr hx11 fun z => nomatch z)).trans hfr, fok⟩
        rw [upd_ne nb]
        exact s11 _ _ (k10 _ _ nb (k9 _ _ (ne_of_none e hfd0) (ex _ _ (k7 _ _ nb (s03 _ _ e)) nt)))
end
end J
/-! least_length. -/
namespace J
open PySem PySem.Spec PyProof.Rows L2 LamX NdefX
theorem extn_make {H H' : Hp} {x dx C : Addr} (n1 : H x = none) (n2 : H dx = none) (k : ExtX x (upd (upd H dx (.own x)) x (.ins C dx [])) H') : ExtN H H' := fun b o e nt => k b o (ne_of_none e n1) (by rw [upd_ne (ne_of_none e n1), upd_ne (ne_of_none e n2)]; exact e) nt
theorem extn_of {H H' : Hp} (h : Same H H') : ExtN H H' := fun b o e _ => h b o e
theorem extn_trans {H H1 H2 : Hp} (a : ExtN H H1) (b : ExtN H1 H2) : ExtN H H2 := fun c o e n => b c o (a c o e n) n
theorem ke_extn {H H' : Hp} (h : ExtN H H') : Ke H H' := fun b o e n => h b o e fun ps z => n (.inr (.inl ⟨ps, z⟩))
section
variable {P : Program} {w : World} {K : PySem.W.Frag} {mg : Str → Option Value} {base : Heap}
def sp_least_length (T : Wd K mg) (B : TbF base T) : Sp := fun vs H Q _ => ∃ (v l : V) (n span : Int) (ws : List (PySem.Str × List Row)) (o : RsO), vs = [v, l] ∧ PartAt T H v n ws ∧ SpanIs n ws span ∧ LetOr T H l n ws o ∧ TabsN B.tabs H ∧
  ∀ H' r, ExtN H H' → TabsN B.tabs H' → (if span = 1 then r = some 0 else JM.LeastIs (woOf n span ws) (stepsF n span ws o) (firstsS n span ws o) r) → Q (optV r) H'
theorem sc_least_length : FnScope ["part", "let", "search"] ["part", "let"] (defScope s_least_length) := ⟨rfl, rfl, rfl, by decide +kernel, rfl, by decide +kernel, by decide +kernel⟩
-- slots: 0 part, 1 let, 2 search
theorem ok_least_length (T : Wd K mg) (B : TbF base T) : FnOk P w K mg base CX0 11 T.least_length.f T.least_length.fd ["part", "let"] (sp_least_length T B) := by
  have G_CutSearch_init := ok_CutSearch_init (P := P) (w := w) (base := base) T B
  have G_Part_period := ok_Part_period (P := P) (w := w) (base := base) T
  have G_least_count := ok_least_count (P := P) (w := w) (base := base) T
  refine T.least_length.F.ok sc_least_length (fun vs H Q E h => ?_) (fun cdv A outer s H vs Q E hr h => ?_)
  · obtain ⟨v, l, n, span, ws, o, rfl, _⟩ := h
    rfl
  · obtain ⟨v, l, n, span, ws, o, rfl, hv, hsp, hl, htn, q⟩ := h
    have hv0 := hv
    obtain ⟨pa, pdx, d, rfl, hpa, _, ok⟩ := hv0
    refine ⟨_, PSs.nox (pss_cons (ps_set (i := 2) sc_least_length.nd rfl (.inl rfl) (pe_make T.CutSearch_init.mkr G_CutSearch_init (hr.mono (by decide)) (by rfl) T.CutSearch.g T.CutSearch_init.b .nil pass0 (pa_cons (pv 0) (pa_cons (pv 1) pa_nil))))
      (pss_cons (ps_if (pt_cmpR op_eq (pe_prop (pv 0) T.Part.cl T.Part_period.pr G_Part_period (hr.mono (by decide)) T.Part_period.b .nil pass0 rfl) pe_int (nomark _))
        (pss_one (ps_ret pe_int))
        pss_nil)
      (pss_one (ps_ret (pe_call G_least_count (hr.mono (by decide)) (by rfl) T.least_count.g T.least_count.F.kp T.least_count.b .nil pass0 (pa_cons (pe_fld (pv 2) rfl) (pa_cons (pe_fld (pv 2) rfl) pa_nil)))))))
, ?_⟩
    refine ⟨_, rfl, _, rfl, fun x dx hx hdx nxd => ⟨x, dx, _, l, n, span, ws, o, rfl, upd_same, ?_, hsp, ?_, ?_, fun H1 k1 tn1 hse => ⟨rfl, ?_⟩⟩⟩
    · exact hv.sm fun b ob e => by rw [upd_ne (ne_of_none e hx), upd_ne (ne_of_none e hdx)]; exact e
    · exact hl.sm fun b ob e => by rw [upd_ne (ne_of_none e hx), upd_ne (ne_of_none e hdx)]; exact e
    · exact htn.ext fun b ob e => by rw [upd_ne (ne_of_none e hx), upd_ne (ne_of_none e hdx)]; exact e
    have e1 : ExtN H H1 := extn_make hx hdx k1
    have hv1 := hv.ke (ke_extn e1)
    have hpa1 := e1 _ _ hpa (fun _ z => nomatch z)
    refine ⟨_, rfl, pa, pdx, _, rfl, hpa1, _, n, ws, rfl, hv1, fun H2 span2 s2 hs2 => ?_⟩
    have es := JM.IsLeast.uniq hs2 hsp
    subst es
    have e2 := extn_trans e1 (extn_of s2)
    have tn2 := tn1.ext s2
    refine ⟨rfl, _, rfl, ite2 (fun c => ?_) fun c => ?_⟩
    · have c' : span2 = 1 := V.int.inj (of_decide_eq_true c)
      exact q H2 (some 0) e2 tn2 (by rw [if_pos c'])
    · have c' : ¬ span2 = 1 := fun z => c (decide_eq_true (congrArg V.int z))
      obtain ⟨x', dx', st, tb, fr, sts, nodes, fl, e, hx1, hst1, hsl, hsm, ht1, tok, hnl, hfr1, fok⟩ := hse
      cases e
      have hx2 := s2 _ _ hx1
      refine ⟨_, rfl, x, T.CutSearch.C, dx', _, _, rfl, hx2, T.CutSearch.cl, T.n_CutSearch_start, rfl, _, rfl, x, T.CutSearch.C, dx', _, _, rfl, hx2, T.CutSearch.cl, T.n_CutSearch_far, rfl, ?_⟩
      refine ⟨_, fr, sts, woOf n span2 ws, stepsF n span2 ws o, nodes, fl, rfl, hst1.sm s2, hsl, s2 _ _ hfr1, fok, fun p hp => tok.first _ (List.mem_map.mpr ⟨p, hp, rfl⟩), fun H3 r s3 hr3 => ?_⟩
      refine q H3 r (extn_trans e2 (extn_of s3)) (tn2.ext s3) ?_
      rw [if_neg c']
      exact JM.LeastIs.congr (steps' := fun _ => []) hr3 hsm
end
end J
/-! is_paper. -/
namespace J
open PySem PySem.Spec PyProof.Rows L2 LamX NdefX
def stO : Stmt := (defBody s_is_paper).getD 6 (.Pass ⟨0, 0, 0, 0⟩)
def lamIP : Expr := match (defBody s_is_paper).getD 8 (.Pass ⟨0, 0, 0, 0⟩) with
  | .Return (some (.Call _ as _ _)) _ => as.getD 4 (.Constant .none 0 ⟨0, 0, 0, 0⟩)
  | _ => .Constant .none 0 ⟨0, 0, 0, 0⟩
theorem nsc_ip : NScope ["stand", "board", "steps"] ["stand"] ["board", "steps"] (lamSc lamIP) := ⟨rfl, rfl, rfl, by decide +kernel, rfl, by decide +kernel, by decide +kernel, by decide +kernel, by decide +kernel⟩
theorem nsc_o : NScope ["node", "board", "let"] ["node"] ["board", "let"] (C8.fnScope stO) := ⟨rfl, rfl, rfl, by decide +kernel, rfl, by decide +kernel, by decide +kernel, by decide +kernel, by decide +kernel⟩
section
variable {P : Program} {w : World} {K : PySem.W.Frag} {mg : Str → Option Value} {base : Heap}
theorem mz_ip (T : Wd K mg) (z : Mz) (cl : List (PySem.Str × Addr)) (c' : Addr) (q : PySem.Str) (hF : z.F = ⟨"<lambda>", q, lamA lamIP, [], lamSc lamIP, cl, c'⟩) (ho : z.o = LamO z.f z.F (lamB lamIP)) (hfr : z.fr = [("board" : PySem.Str), "steps"]) (hcs : z.cs = [some z.b, some z.st]) : MzOk P w base T z := by
  have G_stand_moves := ok_stand_moves (P := P) (w := w) (base := base) T
  unfold MzOk
  rw [ho, hfr, hcs, hF]
  refine cal_lam (N := ["stand", "board", "steps"]) (ps := ["stand"]) nsc_ip (fun _ _ us hl => match us, hl with | [_], _ => rfl) (fun vs H Q h => ?_) fun A outer s H vs Q hr _ h => ?_
  · obtain ⟨v, u, rfl, _⟩ := h
    rfl
  · obtain ⟨v, u, rfl, hz, hv, hg, q⟩ := h
    refine ⟨_, pe_call G_stand_moves (hr.mono (by decide)) (by rfl) T.stand_moves.g T.stand_moves.F.kp T.stand_moves.b .nil pass0 (pa_cons (pv 1) (pa_cons (pv 2) (pa_cons (pv 0) pa_nil))), ?_⟩
    exact ⟨_, rfl, _, rfl, _, rfl, z.b, z.st, v, z.n, z.span, z.ws, z.fd, z.mo, u, rfl, hz.bd, hz.fo, hz.sts, hz.mok, hv, hg, fun H' p L h0 h1 h2 h3 h4 h5 => q H' p L h0 h1 h2 h3 h4 h5⟩
theorem oz_ip (T : Wd K mg) (z : Mz) (y : Oz) (cl : List (PySem.Str × Addr)) (c' : Addr) (q : PySem.Str) (hF : y.F = NF.of stO "is_open" q cl c') (ho : y.o = FnO y.f y.F) (hfr : y.fr = [("board" : PySem.Str), "let"]) (hcs : y.cs = [some z.b, some y.l]) : OzOk P w base T z y := by
  have G_is_stand := ok_is_stand (P := P) (w := w) (base := base) T
  have G_is_closed := ok_is_closed (P := P) (w := w) (base := base) T
  unfold OzOk
  rw [ho, hfr, hcs, hF]
  refine cal_ndef (ps := ["node"]) (spw := fun ws => fun vs H Q E => ws = [some z.b, some y.l] ∧ sp_op T z y vs H Q E) (nok_of (N := ["node", "board", "let"]) nsc_o (fun _ _ _ us hl => match us, hl with | [_], _ => rfl) (fun ws vs H Q E h => ?_) fun A outer s H vs ws Q E hr _ _ _ h => ?_) |> fun h => ⟨h.fn, fun A outer s H us vs Q hr e0 hf hc C r hq => h.run A outer s H us vs Q hr e0 hf hc C r ⟨rfl, hq⟩⟩
  · obtain ⟨_, v, u, rfl, _⟩ := h
    rfl
  · obtain ⟨rfl, v, u, rfl, hb, hl, hv, hg, ho, q⟩ := h
    refine ⟨_, PSs.nox (pss_one (ps_ret (pe_and (pe_call G_is_stand (hr.mono (by decide)) (by rfl) T.is_stand.g T.is_stand.F.kp T.is_stand.b .nil pass0 (pa_cons (pv 1) (pa_cons (pv 2) (pa_cons (pv 0) pa_nil)))) (pe_one (pe_not (pe_call G_is_closed (hr.mono (by decide)) (by rfl) T.is_closed.g T.is_closed.F.kp T.is_closed.b .nil pass0 (pa_cons (pv 0) pa_nil))))))), ?_⟩
    refine ⟨_, rfl, _, rfl, _, rfl, z.b, y.l, v, z.n, z.span, z.ws, z.fd, z.mo, u, rfl, hb, hl, hv, hg, fun H1 s1 => ⟨true, rfl, iteT ⟨_, rfl, v, u, rfl, hv.sm s1, _, rfl, ?_⟩⟩⟩
    have := q H1 s1
    rw [decide_eq_false (show ¬ u.2.2.1 = u.2.2.2 from ho)]
    exact this
theorem pe_callCl2 {X : Cx} {ι : Type} {k : Nat} {f : Addr} {fd : FuncData} {ps : List Str} {sp : ι → Sp} {sel : ι → Mz} {se2 : ι → Oz} {dvs : List V} {ds : List Value} {x : Str} {p pos : Pos} {e : Expr} {es : List Expr} {t : TA} {sc sc' : Scope} {fr fr' : List Str} {js js' : List Nat}
    (F : ∀ z, FnOkG X.prog X.w X.K X.mg X.base k f fd ps (fun o s H => MzG (sel z) o s H ∧ OzG (se2 z) o s H) (sp z)) (hfn : ∀ y, X.fn y = true) (hfree : ∀ y ∈ sc.names, y.2 = .free → X.env.scope.names.lookup y.1 = some .cell ∨ X.env.scope.names.lookup y.1 = some .free) (hfr : ∀ y ∈ fr, (y, NameKind.free) ∈ sc.names) (hjs : js.map (fun j => X.N[j]?) = fr.map some)
    (hfree' : ∀ y ∈ sc'.names, y.2 = .free → X.env.scope.names.lookup y.1 = some .cell ∨ X.env.scope.names.lookup y.1 = some .free) (hfr' : ∀ y ∈ fr', (y, NameKind.free) ∈ sc'.names) (hjs' : js'.map (fun j => X.N[j]?) = fr'.map some)
    (hr : Room k X.A) (hg : Gl X x) (hm : X.mg x = some (.ref f)) (hk : PySem.W.keepIn X.K (.ref f) = true)
    (hb : Binds X.K fd ps ds) (hd : Vals dvs ds) (ha : PA X (e :: es) t) (hdb : (x == ("__debug__" : Str)) = false := by decide)
    (he : starEach (e :: es) X.env = (false, eval e X.env) :: starEach es X.env := by rfl) (hpl : (backTo pos (starEach es X.env)).any (·.1) = false := by rfl) :
    PE X (.Call (.Name x p) (e :: es) [] pos) (tCallG sp (fun z σ _ => ((sel z).F.cl = cloFrom X.env.cells sc.names [] ∧ (sel z).fr = fr ∧ (sel z).cs = js.map (slotAt σ)) ∧ (se2 z).F.cl = cloFrom X.env.cells sc'.names [] ∧ (se2 z).fr = fr' ∧ (se2 z).cs = js'.map (slotAt σ)) dvs t) := by
  refine pe_callG (G := fun z o s H => MzG (sel z) o s H ∧ OzG (se2 z) o s H) F (fun z pins σ H s I hC => ?_) hr hg hm hk hb hd ha hdb he hpl
  obtain ⟨⟨e1, e2, e3⟩, e4, e5, e6⟩ := hC
  have cp := Caps.made (fr := fr) (js := js) I.ok hfree hfr hjs
  have cp' := Caps.made (fr := fr') (js := js') I.ok hfree' hfr' hjs'
  refine ⟨⟨by rw [e1, e2, e3]; exact cells_of I cp, fun y c hc => ?_⟩, by rw [e4, e5, e6]; exact cells_of I cp', fun y c hc => ?_⟩
  · rw [e1] at hc
    exact cells_nofr I hfn (cp.sub y c hc)
  · rw [e4] at hc
    exact cells_nofr I hfn (cp'.sub y c hc)
def sp_is_paper (T : Wd K mg) (B : TbF base T) : Sp := fun vs H Q _ => ∃ (v l : V) (len : Int) (th : Addr) (n span : Int) (ws : List (PySem.Str × List Row)) (o : RsO), vs = [v, .int len, .ref th, l] ∧ PartAt T H v n ws ∧ SpanIs n ws span ∧ LetOr T H l n ws o ∧ TabsN B.tabs H ∧
  ((len = 0 ∧ H th = some (.dK []) ∧ ∀ H', ExtN H H' → TabsN B.tabs H' → Q (.bl true) H') ∨ (1 ≤ len ∧ span = 1 ∧ ∀ H', ExtN H H' → TabsN B.tabs H' → Q (.bl false) H') ∨
    (1 ≤ len ∧ span ≠ 1 ∧ ∃ (kvs : List (Stand × Int)) (b : Bool), H th = some (.dT (numKv kvs)) ∧ (kvs.map (·.1)).Nodup ∧ JM.P1 (woOf n span ws) (statesOf o) kvs ∧ (b = true ↔ JM.P2 (firstsS n span ws o) len kvs ∧ JM.P3 (woOf n span ws) (stepsF n span ws o) kvs) ∧ ∀ H', ExtN H H' → TabsN B.tabs H' → Q (.bl b) H'))
theorem sc_is_paper : FnScope ["part", "length", "thing", "let", "board", "steps", "is_open", "first"] ["part", "length", "thing", "let"] (defScope s_is_paper) := ⟨rfl, rfl, rfl, by decide +kernel, rfl, by decide +kernel, by decide +kernel⟩
-- slots: 0 part, 1 length, 2 thing, 3 let*, 4 board*, 5 steps*, 6 is_open, 7 first
theorem ok_is_paper (T : Wd K mg) (B : TbF base T) : FnOk P w K mg base CX0 10 T.is_paper.f T.is_paper.fd ["part", "length", "thing", "let"] (sp_is_paper T B) := by
  have G_check_let := ok_check_let (P := P) (w := w) (base := base) T
  have G_is_integer := ok_is_integer (P := P) (w := w) (base := base) T
  have G_is_empty_dict := ok_is_empty_dict (P := P) (w := w) (base := base) T
  have G_Part_period := ok_Part_period (P := P) (w := w) (base := base) T
  have G_Board_init := ok_Board_init (P := P) (w := w) (base := base) T
  have G_steps_by_state := ok_steps_by_state (P := P) (w := w) (base := base) T
  have G_first_stands := ok_first_stands (P := P) (w := w) (base := base) T
  refine okT T.is_paper.F sc_is_paper (fun vs H Q E h => ?_) (fun cdv A outer s H vs Q E hcd hr h => ?_)
  · obtain ⟨v, l, len, th, n, span, ws, o, rfl, _⟩ := h
    rfl
  · obtain ⟨v, l, len, th, n, span, ws, o, rfl, hv, hsp, hl, htn, hcase⟩ := h
    have hcode : cdv = .ref B.ipc := hcd.trans B.ip_code
    have hfree : ∀ y ∈ (lamSc lamIP).names, y.2 = .free → (defScope s_is_paper).names.lookup y.1 = some .cell ∨ (defScope s_is_paper).names.lookup y.1 = some .free := by decide +kernel
    have hfr : ∀ y ∈ ([("board" : PySem.Str), "steps"]), (y, NameKind.free) ∈ (lamSc lamIP).names := by decide +kernel
    have hfreeO : ∀ y ∈ (C8.fnScope stO).names, y.2 = .free → (defScope s_is_paper).names.lookup y.1 = some .cell ∨ (defScope s_is_paper).names.lookup y.1 = some .free := by decide +kernel
    have hfrO : ∀ y ∈ ([("board" : PySem.Str), "let"]), (y, NameKind.free) ∈ (C8.fnScope stO).names := by decide +kernel
    have hm2 : (B.ipP, nmIP) ∈ B.tabs := List.mem_cons_of_mem _ (List.mem_cons_self ..)
    have hu : ∀ p ∈ B.tabs, p.1 = B.ipP → p.2 = nmIP := fun p hp e => by
      rcases List.mem_cons.mp hp with h | h
      · rw [h] at e
        exact absurd e B.ne
      · rw [List.mem_singleton.mp h]
    refine ⟨_, PSs.nox (pss_cons (ps_expr (pe_call G_check_let (hr.mono (by decide)) (by rfl) T.check_let.g T.check_let.F.kp T.check_let.b .nil pass0 (pa_cons (pv 0) (pa_cons (pv 3) pa_nil))))
      (pss_cons (ps_if (PW.pt (pw_or (pt_not (pt_val (pe_call G_is_integer (hr.mono (by decide)) (by rfl) T.is_integer.g T.is_integer.F.kp T.is_integer.b .nil pass0 (pa_cons (pv 1) pa_nil)) (fun _ => rfl))) (pw_or1 (pt_cmpR op_lt (pv 1) pe_int (nomark _)))))
        (pss_one (ps_ret pe_bl))
        pss_nil)
      (pss_cons (ps_if (pt_cmpR op_eq (pv 1) pe_int (nomark _))
        (pss_one (ps_ret (pe_call G_is_empty_dict (hr.mono (by decide)) (by rfl) T.is_empty_dict.g T.is_empty_dict.F.kp T.is_empty_dict.b .nil pass0 (pa_cons (pv 2) pa_nil))))
        pss_nil)
      (pss_cons (ps_if (pt_cmpR op_eq (pe_prop (pv 0) T.Part.cl T.Part_period.pr G_Part_period (hr.mono (by decide)) T.Part_period.b .nil pass0 rfl) pe_int (nomark _))
        (pss_one (ps_ret pe_bl))
        pss_nil)
      (pss_cons (ps_set (i := 4) sc_is_paper.nd rfl (.inr rfl) (pe_make T.Board_init.mkr G_Board_init (hr.mono (by decide)) (by rfl) T.Board.g T.Board_init.b .nil pass0 (pa_cons (pv 0) pa_nil)))
      (pss_cons (ps_set (i := 5) sc_is_paper.nd rfl (.inr rfl) (pe_call G_steps_by_state (hr.mono (by decide)) (by rfl) T.steps_by_state.g T.steps_by_state.F.kp T.steps_by_state.b .nil pass0 (pa_cons (pv 4) (pa_cons (pv 3) pa_nil))))
      (pss_cons (ps_ndefMS (st := stO) (i := 6) (T := B.tabs) (nm := nmIP) (by rfl) B.ip_tb hcode hm2 (by rfl) hu hfreeO (by rfl) (by rfl) (by rfl) sc_is_paper.nd rfl (.inl rfl) (.inl rfl))
      (pss_cons (ps_set (i := 7) sc_is_paper.nd rfl (.inl rfl) (pe_call G_first_stands (hr.mono (by decide)) (by rfl) T.first_stands.g T.first_stands.F.kp T.first_stands.b T.first_stands.dr pass0 (pa_cons (pv 0) (pa_cons (pv 3) pa_nil))))
      (pss_one (ps_ret (pe_callCl2 (sel := fun z : { p : Mz × Oz // MzOk P w base T p.1 ∧ OzOk P w base T p.1 p.2 } => z.1.1) (se2 := fun z => z.1.2) (sc := lamSc lamIP) (sc' := C8.fnScope stO) (fr := ["board", "steps"]) (fr' := ["board", "let"]) (js := [4, 5]) (js' := [4, 3]) (ok_is_numbering T) (fun _ => rfl) hfree hfr rfl hfreeO hfrO rfl (hr.mono (by decide)) (by rfl) T.is_numbering.g T.is_numbering.F.kp T.is_numbering.b .nil (pa_cons (pv 1) (pa_cons (pv 2) (pa_cons (pv 7) (pa_cons (pv 6) (pa_cons (pe_lamN (T := B.tabs) (nm := nmIP) B.ip_tb hcode hm2 (by rfl) hu hfree (by rfl)) (pa_cons (pe_glob (v := .ref T.is_closed.f) (by rfl) T.is_closed.g rfl) pa_nil)))))))))))))))))
, ?_⟩
    have mok := hl.mach
    have hv0 := hv
    obtain ⟨pa, pdx, d, rfl, hpa, _, ok⟩ := hv0
    have l0 : 0 ≤ len := by rcases hcase with ⟨h, _⟩ | ⟨h, _⟩ | ⟨h, _⟩ <;> omega
    refine ⟨_, rfl, _, rfl, _, l, n, ws, o, rfl, hv, hl, fun H1 s1 => ?_⟩
    refine ⟨_, rfl, len, rfl, true, rfl, iteF ⟨_, rfl, len, 0, rfl, rfl, false, d_false (by omega), iteF ?_⟩⟩
    have htn1 := htn.ext s1
    have e1 := extn_of s1
    refine ⟨_, rfl, rfl, _, rfl, ite2 (fun c => ?_) fun c => ?_⟩
    · have c' : len = 0 := V.int.inj (of_decide_eq_true c)
      rcases hcase with ⟨_, ht, q⟩ | ⟨h, _⟩ | ⟨h, _⟩
      · exact ⟨_, rfl, th, rfl, s1 _ _ ht, q H1 e1 htn1⟩
      · omega
      · omega
    · have c' : ¬ len = 0 := fun z => c (decide_eq_true (congrArg V.int z))
      refine ⟨_, rfl, pa, pdx, _, rfl, s1 _ _ hpa, _, n, ws, rfl, hv.sm s1, fun H2 span2 s2 hs2 => ?_⟩
      have es := JM.IsLeast.uniq hs2 hsp
      subst es
      have s12 := s1.trans s2
      refine ⟨rfl, _, rfl, ite2 (fun c2 => ?_) fun c2 => ?_⟩
      · have c3 : span2 = 1 := V.int.inj (of_decide_eq_true c2)
        rcases hcase with ⟨h, _⟩ | ⟨_, _, q⟩ | ⟨_, h, _⟩
        · exact absurd h c'
        · exact q H2 (extn_of s12) (htn.ext s12)
        · exact absurd c3 h
      · have c3 : ¬ span2 = 1 := fun z => c2 (decide_eq_true (congrArg V.int z))
        rcases hcase with ⟨h, _⟩ | ⟨_, h, _⟩ | ⟨_, _, kvs, b, hth, nd, p1, hb, q⟩
        · exact absurd h c'
        · exact absurd h c3
        · refine ⟨_, rfl, fun y dy hy hdy nyd => ⟨y, dy, _, n, ws, rfl, upd_same, (hv.sm s12).ke (ke_of fun b o e => by rw [upd_ne (ne_of_none e hy), upd_ne (ne_of_none e hdy)]; exact e), fun H3 fd span3 k3 hfd hbd hf => ⟨rfl, ?_⟩⟩⟩
          have s3 : Same H2 H3 := make_same hy hdy k3
          have hb0 := hbd
          obtain ⟨_, _, _, _, _, e, _, _, hsp3, _⟩ := hb0
          cases e
          have es := JM.IsLeast.uniq hsp3 hsp
          subst es
          have hfd0 : H fd = none := s12.free (make_none hfd)
          have s03 := s12.trans s3
          refine ⟨_, rfl, _, rfl, _, l, n, span3, ws, fd, o, rfl, hbd, hl.sm s03, fun H4 v4 s4 hst4 => ?_⟩
          have s04 := s03.trans s4
          have hb4 := hbd.ke (ke_of s4)
          obtain ⟨fkv, hfk3, ffnd, ffin⟩ := hf
          have hfk4 := s4 _ _ hfk3
          refine ⟨htn.ext s04, fun fo co H5 ex5 nn5 tn5 nf5 hfo hco => ?_⟩
          have e05 := extn_trans (extn_of s04) ex5
          have ke5 := ke_extn ex5
          have hv5 := hv.ke (ke_extn e05)
          have hl5 := hl.ke (ke_extn e05)
          refine ⟨_, rfl, _, rfl, _, l, n, span3, ws, o, rfl, hv5, hsp, hl5, fun H6 v6 ys s6 hL6 hys hyl => ?_⟩
          have e06 := extn_trans e05 (extn_of s6)
          refine ⟨_, rfl, _, rfl, _, rfl, _, rfl, tn5.ext s6, fun f c7 H7 ex7 nn7 tn7 nf7 hf7 hc7 => ?_⟩
          have e07 := extn_trans e06 ex7
          have ke67 := ke_extn ex7
          have ke47 : Ke H4 H7 := ke5.trans ((ke_of s6).trans ke67)
          have hfk7 : H7 fd = some (.dT fkv) := ex7 _ _ (s6 _ _ (ex5 _ _ hfk4 (fun _ z => nomatch z))) (fun _ z => nomatch z)
          let FF : NF := ⟨"<lambda>", "is_paper.<locals>.<lambda>", lamA lamIP, [], lamSc lamIP, cloFrom (envOfC "is_paper" (defScope s_is_paper) s.heap.objs.size T.is_paper.f cdv).cells (lamSc lamIP).names [], c7⟩
          let z : Mz := ⟨f, LamO f FF (lamB lamIP), FF, ["board", "steps"], [some (.ref y), some v4], .ref y, v4, n, span3, ws, fd, o⟩
          let GG : NF := NF.of stO "is_open" "is_paper.<locals>.is_open" (cloFrom (envOfC "is_paper" (defScope s_is_paper) s.heap.objs.size T.is_paper.f cdv).cells (C8.fnScope stO).names []) co
          let yo : Oz := ⟨fo, FnO fo GG, GG, ["board", "let"], [some (.ref y), some l], l⟩
          have hz7 : MzAt T z H7 := ⟨hb4.ke ke47, ⟨fkv, hfk7, ffnd, ffin⟩, hst4.ke ke47, mok, hf7, hc7, gone_ext _⟩
          have hy7 : OzAt T z yo H7 := ⟨hl.ke (ke_extn e07), ke67.ext ((ke_of s6).ext hfo), ke67.ext ((ke_of s6).ext hco), gone_ext _⟩
          have hth7 := e07 _ _ hth (fun _ z => nomatch z)
          refine ⟨⟨(z, yo), mz_ip T z _ c7 _ rfl rfl rfl rfl, oz_ip T z yo _ co _ rfl rfl rfl rfl⟩, ⟨⟨rfl, rfl, rfl⟩, rfl, rfl, rfl⟩, len, th, _, kvs, ys, b, rfl, hz7, hy7, fun e => ?_, hth7, nd, p1, (hL6.ke ke67), ?_, fun H8 k8 f8 => ?_⟩
          · have e' : th = fd := e
            rw [e', hfd0] at hth
            cases hth
          · rw [hb]
            have eq : JM.P2 (firstsS n span3 ws o) len kvs ↔ JM.P2 ys len kvs := ⟨fun h u hu => h u ((hys u).mp hu), fun h u hu => h u ((hys u).mpr hu)⟩
            rw [eq]
            exact Iff.rfl
          · refine q H8 (fun b o e nt => k8 _ _ (ne_of_none e hfd0) (e07 _ _ e nt)) (TabsN.sx tn7 hfk7 (fun _ z => nomatch z) (fun _ z => nomatch z) k8)
end
end J
/-! The law's own defs: the pool of draws, the laps. -/
namespace J
open PySem PySem.Spec PyProof.Rows L2
/-- the three numbers of a pool -/
structure PoolOk (x y z : Int) : Prop where
  x0 : 0 ≤ x
  y01 : y = 1 ∨ (y = 0 ∧ x < 2147483647)
def PoolAt (H : Hp) (a : Addr) : Prop := ∃ x y z : Int, H a = some (.lst [.int x, .int y, .int z]) ∧ PoolOk x y z
def IntsAt (H : Hp) (a : Addr) : Prop := ∃ is : List Int, H a = some (.lst (is.map .int))
theorem PoolAt.sm {H H' : Hp} {a : Addr} (h : PoolAt H a) (s : Same H H') : PoolAt H' a := by
  obtain ⟨x, y, z, h, o⟩ := h
  exact ⟨x, y, z, s _ _ h, o⟩
def sp__law_pool (K : PySem.W.Frag) : Sp := fun vs H Q _ => ∃ (a : Addr) (k : Int) (is : List Int), vs = [.ref a, .int k] ∧ SqL K H a (is.map .int) ∧ 0 ≤ k ∧ ∀ H' p, H p = none → Same H H' → PoolAt H' p → Q (.ref p) H'
def sp__law_draw : Sp := fun vs H Q _ => ∃ (a : Addr) (m : Int), vs = [.ref a, .int m] ∧ PoolAt H a ∧ 0 < m ∧ m < 1073741824 ∧ ∀ H' r, SameX a H H' → PoolAt H' a → 0 ≤ r → r < m → Q (.int r) H'
/-- laps a draw may name: a divisor of the round up to most -/
def LapsOk (n most : Int) (ev : Bool) (k : Int) : Prop := 1 ≤ k ∧ k ≤ most ∧ n % k = 0 ∧ (ev = true → k % 2 = 0)
def sp__law_laps : Sp := fun vs H Q _ => ∃ (a : Addr) (n most : Int) (ev : Bool), vs = [.ref a, .int n, .bl ev, .int most] ∧ PoolAt H a ∧ 2 ≤ most ∧ most ≤ 1000 ∧ (ev = true → n % 2 = 0) ∧ ∀ H' k, SameX a H H' → PoolAt H' a → LapsOk n most ev k → Q (.int k) H'
section
variable {P : Program} {w : World} {K : PySem.W.Frag} {mg : Str → Option Value} {base : Heap}
theorem sc__law_pool : FnScope ["_law_script", "_law_k", "_law_cell"] ["_law_script", "_law_k"] (defScope s__law_pool) := ⟨rfl, rfl, rfl, by decide +kernel, rfl, by decide +kernel, by decide +kernel⟩
-- slots: 0 _law_script, 1 _law_k, 2 _law_cell
theorem ok__law_pool (T : Wd K mg) : FnOk P w K mg base CX0 1 T._law_pool.f T._law_pool.fd ["_law_script", "_law_k"] (sp__law_pool K) := by
  refine T._law_pool.F.ok sc__law_pool (fun vs H Q E h => ?_) (fun cdv A outer s H vs Q E hr h => ?_)
  · obtain ⟨a, k, is, rfl, _⟩ := h
    rfl
  · obtain ⟨a, k, is, rfl, ha, k0, q⟩ := h
    refine ⟨_, PSs.nox (pss_cons (ps_set (i := 2) sc__law_pool.nd rfl (.inl rfl) pe_int)
      (pss_cons (ps_if (pt_cmpR op_lt (pv 1) (pe_callB call_len_seq (by rfl) T.n_len (by decide +kernel) (pa_cons (pv 0) pa_nil)) (nomark _))
        (pss_one (ps_set (i := 2) sc__law_pool.nd rfl (.inl rfl) (pe_ix ix_list (pv 0) (pv 1) (fun _ _ => rfl))))
        pss_nil)
      (pss_cons (ps_if (pt_cmpR op_ge (pv 2) (pe_op op_pow pe_int pe_int) (nomark _))
        (pss_one (ps_ret (pe_lst (pa_cons (pv 2) (pa_cons pe_int (pa_cons pe_int pa_nil))))))
        pss_nil)
      (pss_one (ps_ret (pe_lst (pa_cons (pe_op op_mod (pe_callTy call_int1 (by rfl) T.n_int (by decide +kernel) (pa_cons (pv 2) pa_nil)) pe_int) (pa_cons pe_int (pa_cons (pv 1) pa_nil)))))))))
, ?_⟩
    have fin : ∀ (c : Int) (p : Addr), 10 ^ 18 ≤ c → H p = none → Q (.ref p) (upd H p (.lst [.int c, .int 1, .int 0])) := fun c p hc np => q _ p np (same_new np) ⟨_, _, _, upd_same, ⟨by omega, .inl rfl⟩⟩
    have fin2 : ∀ (c : Int) (p : Addr), H p = none → Q (.ref p) (upd H p (.lst [.int (c % 2147483647), .int 0, .int k])) := fun c p np => q _ p np (same_new np) ⟨_, _, _, upd_same, ⟨Int.emod_nonneg _ (by decide), .inr ⟨rfl, Int.emod_lt_of_pos _ (by decide)⟩⟩⟩
    refine ⟨_, rfl, _, rfl, a, _, rfl, .inl (ha), k, _, rfl, rfl, _, rfl, ite2 (fun c => ?_) fun c => ?_⟩
    · have hk : k < (is.length : Int) := by
        have := of_decide_eq_true c
        rw [List.length_map] at this
        exact this
      obtain ⟨j, rfl⟩ := Int.eq_ofNat_of_zero_le k0
      have hj : j < is.length := by omega
      have hat : (is.map V.int)[j]? = some (.int is[j]) := by rw [List.getElem?_map, List.getElem?_eq_getElem hj]; rfl
      refine ⟨_, rfl, _, rfl, a, _, _, .int is[j], rfl, rfl, ha, atI_nat hat, ?_⟩
      refine ⟨_, rfl, 10, 18, rfl, rfl, ⟨by decide, by decide, by decide⟩, is[j], 10 ^ 18, rfl, rfl, _, rfl, ite2 (fun c1 => ?_) fun c1 => ?_⟩
      · exact ⟨_, rfl, (by show 3 ≤ sizeLine; decide), fun p np => fin _ p (of_decide_eq_true c1) np⟩
      · exact ⟨_, rfl, .inl ⟨_, rfl, _, _, rfl, rfl, (by show (0:Int) < 2147483647; decide), _, rfl, (by show 3 ≤ sizeLine; decide), fun p np => fin2 _ p np⟩⟩
    · refine ⟨_, rfl, 10, 18, rfl, rfl, ⟨by decide, by decide, by decide⟩, 0, 10 ^ 18, rfl, rfl, _, rfl, ite2 (fun c1 => ?_) fun c1 => ?_⟩
      · exact absurd (of_decide_eq_true c1) (by decide)
      · exact ⟨_, rfl, .inl ⟨_, rfl, _, _, rfl, rfl, (by show (0:Int) < 2147483647; decide), _, rfl, (by show 3 ≤ sizeLine; decide), fun p np => fin2 _ p np⟩⟩
theorem sc__law_draw : FnScope ["_law_pool_here", "_law_many", "_law_number"] ["_law_pool_here", "_law_many"] (defScope s__law_draw) := ⟨rfl, rfl, rfl, by decide +kernel, rfl, by decide +kernel, by decide +kernel⟩
-- slots: 0 _law_pool_here, 1 _law_many, 2 _law_number
theorem ok__law_draw (T : Wd K mg) : FnOk P w K mg base CX0 1 T._law_draw.f T._law_draw.fd ["_law_pool_here", "_law_many"] sp__law_draw := by
  refine T._law_draw.F.ok sc__law_draw (fun vs H Q E h => ?_) (fun cdv A outer s H vs Q E hr h => ?_)
  · obtain ⟨a, m, rfl, _⟩ := h
    rfl
  · obtain ⟨a, m, rfl, hp, m0, m1, q⟩ := h
    obtain ⟨x, y, z, ha, ok⟩ := hp
    refine ⟨_, PSs.nox (pss_cons (ps_set (i := 2) sc__law_draw.nd rfl (.inl rfl) (pe_ix ix_list (pv 0) pe_int (fun _ _ => rfl)))
      (pss_cons (ps_if (pt_cmpR op_eq (pe_ix ix_list (pv 0) pe_int (fun _ _ => rfl)) pe_int (nomark _))
        (pss_cons (ps_asg (pe_op op_fdiv (pv 2) (pv 1)) (pg_sub (pv 0) pe_int set_list))
          (pss_one (ps_ret (pe_op op_mod (pe_callTy call_int1 (by rfl) T.n_int (by decide +kernel) (pa_cons (pv 2) pa_nil)) (pv 1)))))
        pss_nil)
      (pss_cons (ps_asg (pe_op op_add (pe_ix ix_list (pv 0) pe_int (fun _ _ => rfl)) pe_int) (pg_sub (pv 0) pe_int set_list))
      (pss_cons (ps_set (i := 2) sc__law_draw.nd rfl (.inl rfl) (pe_op op_mod (pe_callTy call_int1 (by rfl) T.n_int (by decide +kernel) (pa_cons (pe_op op_add (pe_op op_mul (pv 2) pe_int) (pe_op op_mul pe_int (pe_ix ix_list (pv 0) pe_int (fun _ _ => rfl)))) pa_nil)) pe_int))
      (pss_cons (ps_asg (pv 2) (pg_sub (pv 0) pe_int set_list))
      (pss_one (ps_ret (pe_op op_mod (pe_op op_fdiv (pe_op op_mod (pe_callTy call_int1 (by rfl) T.n_int (by decide +kernel) (pa_cons (pe_op op_mul (pv 2) (pe_op op_add (pe_op op_fdiv (pv 2) pe_int) pe_int)) pa_nil)) pe_int) pe_int) (pv 1)))))))))
, ?_⟩
    have rd : ∀ r : Int, 0 ≤ r % m ∧ r % m < m := fun r => ⟨Int.emod_nonneg _ (by omega), Int.emod_lt_of_pos _ m0⟩
    refine ⟨_, rfl, a, _, 0, .int x, rfl, rfl, SqL.of ha, rfl, ?_⟩
    refine ⟨_, rfl, a, _, 1, .int y, rfl, rfl, SqL.of ha, rfl, rfl, ?_⟩
    refine ⟨_, rfl, ite2 (fun c => ?_) fun c => ?_⟩
    · have ey : y = 1 := V.int.inj (of_decide_eq_true c)
      refine ⟨_, rfl, _, rfl, x, m, rfl, rfl, ⟨m0, m1⟩, _, rfl, a, _, 0, 0, rfl, rfl, ha, rfl, ?_⟩
      refine ⟨_, rfl, .inl ⟨_, rfl, _, rfl, x, m, rfl, rfl, m0, ?_⟩⟩
      exact q _ _ (samex_upd) ⟨x / m, y, z, upd_same, ⟨Int.ediv_nonneg ok.x0 (by omega), .inl ey⟩⟩ (rd x).1 (rd x).2
    · have ey : ¬ y = 1 := fun e => c (decide_eq_true (congrArg V.int e))
      have ey : y = 0 := by
        rcases ok.y01 with h | h
        · exact absurd h ey
        · exact h.1
      refine ⟨_, rfl, a, _, 2, .int z, rfl, rfl, SqL.of ha, rfl, z, 1, rfl, rfl, _, rfl, a, _, 2, 2, rfl, rfl, ha, rfl, ?_⟩
      have h2 : upd H a (.lst (([.int x, .int y, .int z] : List V).set 2 (.int (z + 1)))) a = some (.lst [.int x, .int y, .int (z + 1)]) := upd_same
      refine ⟨_, rfl, x, 48271, rfl, rfl, .inr (by decide), _, rfl, a, _, 2, .int (z + 1), rfl, rfl, SqL.of h2, rfl, 30103, z + 1, rfl, rfl, .inl (by decide), _, _, rfl, rfl, .inl ⟨_, rfl, _, _, rfl, rfl, (by show (0:Int) < 2147483647; decide), ?_⟩⟩
      have n0 : 0 ≤ (x * 48271 + 30103 * (z + 1)) % 2147483647 := Int.emod_nonneg _ (by decide)
      have n1 : (x * 48271 + 30103 * (z + 1)) % 2147483647 < 2147483647 := Int.emod_lt_of_pos _ (by decide)
      refine ⟨_, rfl, _, rfl, a, _, 0, 0, rfl, rfl, h2, rfl, ?_⟩
      refine ⟨_, rfl, _, rfl, _, 1009, rfl, rfl, ⟨by decide, by decide⟩, _, 69621, rfl, rfl, _, _, rfl, rfl, .inl ⟨by omega, by omega⟩, .inl ⟨_, rfl, _, 2147483399, rfl, rfl, (by show (0:Int) < 2147483399; decide), _, 16, rfl, rfl, ⟨by decide, by decide⟩, _, rfl, _, m, rfl, rfl, m0, ?_⟩⟩
      refine q _ _ (samex_upd.trans samex_upd) ⟨_, y, z + 1, upd_same, ⟨n0, .inr ⟨ey, n1⟩⟩⟩ (rd _).1 (rd _).2
theorem sc__law_laps : FnScope ["_law_pool_here", "_law_around", "_law_even", "_law_most", "_law_menu", "_law_at", "_law_laps_here"] ["_law_pool_here", "_law_around", "_law_even", "_law_most"] (defScope s__law_laps) := ⟨rfl, rfl, rfl, by decide +kernel, rfl, by decide +kernel, by decide +kernel⟩
-- slots: 0 _law_pool_here, 1 _law_around*, 2 _law_even, 3 _law_most, 4 _law_menu, 5 _law_at, 6 _law_laps_here
theorem ok__law_laps (T : Wd K mg) : FnOk P w K mg base CX0 2 T._law_laps.f T._law_laps.fd ["_law_pool_here", "_law_around", "_law_even", "_law_most"] sp__law_laps := by
  have G__law_draw := ok__law_draw (P := P) (w := w) (base := base) T
  refine T._law_laps.F.ok sc__law_laps (fun vs H Q E h => ?_) (fun cdv A outer s H vs Q E hr h => ?_)
  · obtain ⟨a, n, most, ev, rfl, _⟩ := h
    rfl
  · obtain ⟨a, n, most, ev, rfl, hp, m0, m1, hev, q⟩ := h
    have hp0 := hp
    obtain ⟨px, py, pz, ha, pok⟩ := hp0
    refine ⟨_, PSs.nox (pss_cons (ps_setLc (i := 4) (own := [("_law_laps_here", 6)]) rfl sc__law_laps.nd rfl rfl (sw_true rfl rfl rfl (by decide +kernel)) (g := gName 6) (pi_range2 (by rfl) T.n_range (pa_cons pe_int (pa_cons (pe_op op_add (pv 3) pe_int) pa_nil))) (blkOk_by (own := [("_law_laps_here", 6)]) (N := ["_law_pool_here", "_law_around", "_law_even", "_law_most", "_law_menu", "_law_at", "_law_laps_here"]) (sc := defScope s__law_laps) (by decide +kernel)) (fun _ _ _ _ _ => (pg_name (i := 6) sc__law_laps.nd rfl (.inl rfl))) (fun _ _ _ _ _ => pts_one (pt_cmpR op_eq (pe_op op_mod (pv 1) (pv 6)) pe_int (nomark _))) (fun _ _ _ _ _ => (pv 6)))
      (C8.pss_cut (ps_if (pt_val (pv 2) (fun _ => rfl))
        (pss_one (ps_setLc (i := 4) (own := [("_law_laps_here", 6)]) rfl sc__law_laps.nd rfl rfl (sw_true rfl rfl rfl (by decide +kernel)) (g := gName 6) (pi_list (pv 4)) (blkOk_by (own := [("_law_laps_here", 6)]) (N := ["_law_pool_here", "_law_around", "_law_even", "_law_most", "_law_menu", "_law_at", "_law_laps_here"]) (sc := defScope s__law_laps) (by decide +kernel)) (fun _ _ _ _ _ => (pg_name (i := 6) sc__law_laps.nd rfl (.inl rfl))) (fun _ _ _ _ _ => pts_one (pt_cmpR op_eq (pe_op op_mod (pv 6) pe_int) pe_int (nomark _))) (fun _ _ _ _ _ => (pv 6))))
        pss_nil)
      (pss_cons (ps_set (i := 5) sc__law_laps.nd rfl (.inl rfl) (pe_call G__law_draw (hr.mono (by decide)) (by rfl) T._law_draw.g T._law_draw.F.kp T._law_draw.b .nil pass0 (pa_cons (pv 0) (pa_cons (pe_op op_mul pe_int (pe_callB call_len_seq (by rfl) T.n_len (by decide +kernel) (pa_cons (pv 4) pa_nil))) pa_nil))))
      (pss_cons (ps_if (pt_cmpR op_ge (pv 5) (pe_callB call_len_seq (by rfl) T.n_len (by decide +kernel) (pa_cons (pv 4) pa_nil)) (nomark _))
        (pss_one (ps_set (i := 5) sc__law_laps.nd rfl (.inl rfl) pe_int))
        pss_nil)
      (pss_one (ps_ret (pe_ix ix_list (pv 4) (pv 5) (fun _ _ => rfl))))))))
, ?_⟩
    refine ⟨_, rfl, most, 1, rfl, rfl, 1, most + 1, rfl, ⟨by decide, by decide, by omega, by omega⟩, fun D hD => ?_⟩
    refine lc_pure walk_range (List.range most.toNat) (fun (i : Nat) => if n % (1 + (i : Int)) = 0 then some (1 + (i : Int)) else none) PyData.int (by rw [List.length_range]; omega) (Nat.le_trans (m := 1000) (by omega) (by decide)) hD (fun _ _ => trivial) (fun i z x H1 H2 N N0 hz s1 y hN hN0 => ?_) fun H1 us s1 hD1 hu1 => ?_
    · obtain ⟨rfl, rfl⟩ := y
      obtain rfl : i = z := (List.getElem?_eq_some_iff.mp hz).2.symm.trans (List.getElem_range ..) |>.symm
      refine ⟨rfl, _, rfl, _, rfl, n, 1 + (i : Int), rfl, rfl, (by omega), rfl, _, rfl, ite2 (fun c => ?_) fun c => ?_⟩
      · exact ⟨_, rfl, hN _ _ _ (Same.refl _) (if_pos (V.int.inj (of_decide_eq_true c))) (.int _)⟩
      · exact hN0 (if_neg fun e => c (decide_eq_true (congrArg V.int e))) _ (Same.refl _)
    · have e1 := sda_ints hu1
      rw [e1] at hD1
      have ne : a ≠ D := ne_of_none ha hD
      have hM : ∀ k ∈ (List.range most.toNat).filterMap (fun (i : Nat) => if n % (1 + (i : Int)) = 0 then some (1 + (i : Int)) else none), LapsOk n most false k := fun k hk => by
        obtain ⟨i, hi, e⟩ := List.mem_filterMap.mp hk
        have := List.mem_range.mp hi
        split at e
        · rename_i hc
          cases e
          exact ⟨by omega, by omega, hc, (nomatch ·)⟩
        · cases e
      have hmem : ∀ k : Int, LapsOk n most false k → k ∈ (List.range most.toNat).filterMap (fun (i : Nat) => if n % (1 + (i : Int)) = 0 then some (1 + (i : Int)) else none) := fun k hk => by
        obtain ⟨h1, h2, h3, _⟩ := hk
        refine List.mem_filterMap.mpr ⟨(k - 1).toNat, List.mem_range.mpr (by omega), ?_⟩
        have : (1 : Int) + ((k - 1).toNat : Int) = k := by omega
        rw [this, if_pos h3]
      have hlen : ((List.range most.toNat).filterMap (fun (i : Nat) => if n % (1 + (i : Int)) = 0 then some (1 + (i : Int)) else none)).length ≤ 1000 := by
        refine Nat.le_trans (List.length_filterMap_le ..) ?_
        rw [List.length_range]
        omega
      generalize (List.range most.toNat).filterMap (fun (i : Nat) => if n % (1 + (i : Int)) = 0 then some (1 + (i : Int)) else none) = M at hM hmem hlen hD1
      refine ⟨fun σ H' => Same H H' ∧ ∃ D M x5 x6, a ≠ D ∧ H' D = some (.lst (M.map V.int)) ∧ M ≠ [] ∧ M.length ≤ 1000 ∧ (∀ k ∈ M, LapsOk n most ev k) ∧ σ = [some (.ref a), some (.int n), some (.bl ev), some (.int most), some (.ref D), x5, x6], ?_, fun σ' H2 hM => ?_⟩
      · refine ⟨_, rfl, ev, rfl, ite2 (fun c => ?_) fun c => ?_⟩
        · have c' : ev = true := c
          subst c'
          refine ⟨_, rfl, D, rfl, ⟨_, SqL.of hD1⟩, fun D2 hD2 => ?_⟩
          have nd : D2 ≠ D := fun e => by rw [e, hD1] at hD2; cases hD2
          refine lc_pure walk_list M (fun k => if k % 2 = 0 then some k else none) PyData.int (by rw [List.length_map]) (by rw [List.length_map]; exact Nat.le_trans hlen (by decide)) hD2 (fun H' s => SqL.of (s _ _ hD1)) (fun i z x H1' H2 N N0 hz s2 yy hN hN0 => ?_) fun H5 us5 s2 hD5 hu5 => ?_
          · obtain ⟨rfl, e2⟩ := yy
            rw [List.getElem?_map, hz] at e2
            cases e2
            refine ⟨rfl, _, rfl, z, 2, rfl, rfl, (by show (0 : Int) < 2; decide), rfl, _, rfl, ite2 (fun c => ?_) fun c => ?_⟩
            · exact ⟨_, rfl, hN _ _ _ (Same.refl _) (if_pos (V.int.inj (of_decide_eq_true c))) (.int _)⟩
            · exact hN0 (if_neg fun e => c (decide_eq_true (congrArg V.int e))) _ (Same.refl _)
          · have e5 := sda_ints hu5
            rw [e5] at hD5
            have n2 : n % 2 = 0 := hev rfl
            have m2 : (2 : Int) ∈ M.filterMap (fun k => if k % 2 = 0 then some k else none) := List.mem_filterMap.mpr ⟨2, hmem 2 ⟨by decide, by omega, n2, (nomatch ·)⟩, rfl⟩
            refine ⟨s1.trans s2, D2, _, _, _, ne_of_none (s1 _ _ ha) hD2, hD5, List.ne_nil_of_mem m2, Nat.le_trans (List.length_filterMap_le ..) hlen, fun k hk => ?_, rfl⟩
            obtain ⟨k', hk', e⟩ := List.mem_filterMap.mp hk
            split at e
            · rename_i hc
              cases e
              have := hM k hk'
              exact ⟨this.1, this.2.1, this.2.2.1, fun _ => hc⟩
            · cases e
        · exact ⟨s1, D, M, _, _, ne, hD1, List.ne_nil_of_mem (hmem 1 ⟨by decide, by omega, Int.emod_one _, (nomatch ·)⟩), hlen, fun k hk => ⟨(hM k hk).1, (hM k hk).2.1, (hM k hk).2.2.1, fun e => absurd e c⟩, rfl⟩
      · obtain ⟨s2, D, M, x5, x6, ne, hD, nM, lM, kM, rfl⟩ := hM
        have l1 : 1 ≤ M.length := List.length_pos_iff.mpr nM
        refine ⟨_, rfl, _, rfl, D, _, rfl, .inl (SqL.of hD), 2, _, rfl, rfl, .inl (by decide), a, _, rfl, hp.sm s2, (by rw [List.length_map]; omega), (by rw [List.length_map]; omega), fun H3 r s3 hp3 r0 r1 => ?_⟩
        rw [List.length_map] at r1
        have hD3 := s3 _ _ (Ne.symm ne) hD
        refine ⟨_, rfl, _, rfl, D, _, rfl, .inl (SqL.of hD3), r, _, rfl, rfl, _, rfl, ite2 (fun c => ?_) fun c => ?_⟩
        · have hat : (M.map V.int)[0]? = some (.int (M[0]'l1)) := by rw [List.getElem?_map, List.getElem?_eq_getElem l1]; rfl
          refine ⟨_, rfl, _, rfl, D, _, 0, _, rfl, rfl, SqL.of hD3, atI_nat hat, ?_⟩
          exact q H3 _ (fun b o nb e => s3 b o nb (s2 _ _ e)) hp3 (kM _ (List.getElem_mem l1))
        · have hr : r < M.length := by
            have h : ¬ (((M.map V.int).length : Nat) : Int) ≤ r := fun h => c (decide_eq_true h)
            rw [List.length_map] at h
            omega
          obtain ⟨j, rfl⟩ := Int.eq_ofNat_of_zero_le r0
          have hj : j < M.length := by omega
          have hat : (M.map V.int)[j]? = some (.int M[j]) := by rw [List.getElem?_map, List.getElem?_eq_getElem hj]; rfl
          refine ⟨_, rfl, _, rfl, D, _, j, _, rfl, rfl, SqL.of hD3, atI_nat hat, ?_⟩
          exact q H3 _ (fun b o nb e => s3 b o nb (s2 _ _ e)) hp3 (kM _ (List.getElem_mem hj))
end
end J
/-! Rows that repeat lap after lap (the law's own rows). -/
namespace JM
/-- begins and offs inside one lap of length s -/
structure LapOk (s : Int) (L : List (Int × Int)) : Prop where
  inb : ∀ p ∈ L, 0 ≤ p.1 ∧ p.1 < s ∧ 0 ≤ p.2
  gap : ∀ p ∈ L, ∀ q ∈ L, p.1 < q.1 → p.1 + p.2 < q.1
  wrap : ∀ p ∈ L, ∀ q ∈ L, p.1 + p.2 < q.1 + s
/-- the row of a begin in a lap -/
def lapRow (n s : Int) (p : Int × Int) (m : Int) : Rw := (p.1 + m * s, (p.1 + m * s + p.2) % n)
section
variable {n s laps : Int} {L : List (Int × Int)}
theorem s_le (hn : n = laps * s) (hl : 1 ≤ laps) (hs : 0 ≤ s) : s ≤ n := by
  have := Int.mul_le_mul_of_nonneg_right hl hs
  omega
theorem lapRow_off (h : LapOk s L) (hn : n = laps * s) (hl : 1 ≤ laps) {p : Int × Int} (hp : p ∈ L) (m : Int) : ((lapRow n s p m).2 - (lapRow n s p m).1) % n = p.2 := by
  have b := h.inb p hp
  have w := h.wrap p hp p hp
  have hs := s_le hn hl (by omega)
  show ((p.1 + m * s + p.2) % n - (p.1 + m * s)) % n = p.2
  rw [Int.sub_emod, Int.emod_emod, ← Int.sub_emod, show p.1 + m * s + p.2 - (p.1 + m * s) = p.2 by omega]
  exact Int.emod_eq_of_lt b.2.2 (by omega)
theorem lap_lt {i : Int} (hn : n = laps * s) (hs : 0 ≤ s) (h : i < laps) : i * s + s ≤ n := by
  have := mul_step (n := s) hs (show i + 1 ≤ laps by omega)
  rw [mul_succ'] at this
  omega
/-- one begin lies before the other's -/
theorem lap_gap (h : LapOk s L) {p q : Int × Int} (hp : p ∈ L) (hq : q ∈ L) {i j : Int} (c : p.1 + i * s < q.1 + j * s) : p.1 + i * s + p.2 < q.1 + j * s := by
  have bp := h.inb p hp
  have bq := h.inb q hq
  rcases Int.lt_trichotomy i j with e | e | e
  · have := mul_step (n := s) (by omega) (show i + 1 ≤ j by omega)
    rw [mul_succ'] at this
    have := h.wrap p hp q hq
    omega
  · subst e
    have := h.gap p hp q hq (by omega)
    omega
  · have := mul_step (n := s) (by omega) (show j + 1 ≤ i by omega)
    rw [mul_succ'] at this
    omega
theorem lap_rows (h : LapOk s L) (hn : n = laps * s) (hl : 1 ≤ laps) (n2 : 2 ≤ n) (n3 : n ≤ 360) {rows : List Rw} (ne : rows ≠ []) (len : rows.length ≤ 12) (inc : rows.Pairwise fun p q => p.1 < q.1)
    (hm : ∀ r, r ∈ rows ↔ ∃ p ∈ L, ∃ i : Int, 0 ≤ i ∧ i < laps ∧ r = lapRow n s p i) : RowsOk n rows where
  lo := n2
  hi := n3
  ne := ne
  len := len
  inc := inc
  inb r hr := by
    obtain ⟨p, hp, i, i0, i1, rfl⟩ := (hm r).mp hr
    have b := h.inb p hp
    have := lap_lt hn (by omega) i1
    have := Int.mul_nonneg i0 (show 0 ≤ s by omega)
    exact ⟨show 0 ≤ p.1 + i * s by omega, show p.1 + i * s < n by omega, Int.emod_nonneg _ (by omega), Int.emod_lt_of_pos _ (by omega)⟩
  gap r hr t ht c := by
    obtain ⟨p, hp, i, i0, i1, rfl⟩ := (hm r).mp hr
    obtain ⟨q, hq, j, j0, j1, rfl⟩ := (hm t).mp ht
    rw [lapRow_off h hn hl hp]
    exact lap_gap h hp hq c
  wrap r hr t ht := by
    obtain ⟨p, hp, i, i0, i1, rfl⟩ := (hm r).mp hr
    obtain ⟨q, hq, j, j0, j1, rfl⟩ := (hm t).mp ht
    rw [lapRow_off h hn hl hp]
    have b := h.inb p hp
    have := lap_lt hn (by omega) i1
    have := Int.mul_nonneg j0 (show 0 ≤ s by omega)
    have := h.wrap p hp q hq
    show p.1 + i * s + p.2 < q.1 + j * s + n
    omega
theorem lap_mul (i j : Int) (hn : n = laps * s) : i * s + j * n = (i + j * laps) * s := by
  rw [hn, Int.add_mul, Int.mul_assoc]
theorem lap_pd (h : LapOk s L) (hn : n = laps * s) (hl : 1 ≤ laps) {rows : List Rw} (R : RowsOk n rows) (hm : ∀ r, r ∈ rows ↔ ∃ p ∈ L, ∃ i : Int, 0 ≤ i ∧ i < laps ∧ r = lapRow n s p i) : Pd (lift n rows) s := fun x => by
  refine lift_eq R ?_
  obtain ⟨r, hr, k, h1, h2, h3⟩ := lift_isF R x
  obtain ⟨p, hp, i, i0, i1, rfl⟩ := (hm r).mp hr
  have bp := h.inb p hp
  have l0 : 0 < laps := by omega
  have mk : ∀ (q : Int × Int) (hq : q ∈ L) (m : Int), ∃ r ∈ rows, ∃ k : Int, r.1 + k * n = q.1 + m * s ∧ (r.2 - r.1) % n = q.2 := fun q hq m => by
    refine ⟨lapRow n s q (m % laps), (hm _).mpr ⟨q, hq, _, Int.emod_nonneg _ (by omega), Int.emod_lt_of_pos _ l0, rfl⟩, m / laps, ?_, lapRow_off h hn hl hq _⟩
    show q.1 + m % laps * s + m / laps * n = q.1 + m * s
    have e := lap_mul (s := s) (m % laps) (m / laps) hn
    have e2 : m % laps + m / laps * laps = m := by rw [Int.mul_comm]; exact Int.emod_add_mul_ediv m laps
    rw [e2] at e
    omega
  rw [lapRow_off h hn hl hp] at h2
  have e1 : (lapRow n s p i).1 + k * n = p.1 + (i + k * laps) * s := by
    have := lap_mul (s := s) i k hn
    show p.1 + i * s + k * n = _
    omega
  rw [e1] at h1 h2
  obtain ⟨t, ht, k', e2, e3⟩ := mk p hp (i + k * laps + 1)
  rw [mul_succ'] at e2
  refine ⟨t, ht, k', by omega, by omega, fun q hq j hj => ?_⟩
  obtain ⟨q', hq', i', i0', i1', rfl⟩ := (hm q).mp hq
  have e4 : (lapRow n s q' i').1 + j * n = q'.1 + (i' + j * laps) * s := by
    have := lap_mul (s := s) i' j hn
    show q'.1 + i' * s + j * n = _
    omega
  rw [e4] at hj ⊢
  obtain ⟨t', ht', k'', e5, _⟩ := mk q' hq' (i' + j * laps - 1)
  rw [mul_pred'] at e5
  have := h3 t' ht' k'' (by omega)
  omega
/-- sorted begins and offs below the room to the next begin -/
theorem begins_ok {bs offs : List Int} (inc : bs.Pairwise (· < ·)) (inb : ∀ b ∈ bs, 0 ≤ b ∧ b < s) (hl : offs.length = bs.length)
    (ho : ∀ k (h : k < bs.length), ∃ o, offs[k]? = some o ∧ 0 ≤ o ∧ ∃ c, bs[(k + 1) % bs.length]? = some c ∧ o < (c - bs[k] - 1) % s + 1) : LapOk s (bs.zip offs) := by
  have key : ∀ p ∈ bs.zip offs, ∃ k, ∃ h : k < bs.length, p.1 = bs[k] ∧ 0 ≤ p.2 ∧ ∃ c, bs[(k + 1) % bs.length]? = some c ∧ p.2 < (c - bs[k] - 1) % s + 1 := fun p hp => by
    obtain ⟨k, hk, e⟩ := List.mem_iff_getElem.mp hp
    have hk2 : k < bs.length := by rw [List.length_zip] at hk; omega
    obtain ⟨o, e2, o0, c, e3, o1⟩ := ho k hk2
    have e4 : p = (bs[k], o) := by
      rw [← e, List.getElem_zip]
      have := (List.getElem?_eq_some_iff.mp e2).2
      rw [this]
    subst e4
    exact ⟨k, hk2, rfl, o0, c, e3, o1⟩
  have lt : ∀ {i j : Nat} (hi : i < bs.length) (hj : j < bs.length), i < j → bs[i] < bs[j] := fun hi hj h => List.pairwise_iff_getElem.mp inc _ _ hi hj h
  have room : ∀ p ∈ bs.zip offs, ∃ k, ∃ h : k < bs.length, p.1 = bs[k] ∧ 0 ≤ p.2 ∧ ((∃ h2 : k + 1 < bs.length, p.1 + p.2 < bs[k + 1]) ∨ (k + 1 = bs.length ∧ p.1 + p.2 < bs[0]'(by omega) + s)) := fun p hp => by
    obtain ⟨k, hk, e1, o0, c, e2, o1⟩ := key p hp
    refine ⟨k, hk, e1, o0, ?_⟩
    have bk := inb _ (List.getElem_mem hk)
    by_cases h2 : k + 1 < bs.length
    · refine .inl ⟨h2, ?_⟩
      rw [Nat.mod_eq_of_lt h2] at e2
      have e3 := (List.getElem?_eq_some_iff.mp e2).2
      have := lt hk h2 (Nat.lt_succ_self k)
      have b2 := inb _ (List.getElem_mem h2)
      rw [e3] at this b2 ⊢
      rw [Int.emod_eq_of_lt (by omega) (by omega)] at o1
      omega
    · have h3 : k + 1 = bs.length := by omega
      refine .inr ⟨h3, ?_⟩
      rw [h3, Nat.mod_self] at e2
      have h0 : 0 < bs.length := by omega
      have e3 := (List.getElem?_eq_some_iff.mp e2).2
      have b0 := inb _ (List.getElem_mem h0)
      have le : bs[0] ≤ bs[k] := by
        rcases Nat.eq_zero_or_pos k with z | z
        · subst z; exact Int.le_refl _
        · exact Int.le_of_lt (lt h0 hk z)
      rw [e3] at le b0 ⊢
      have e5 : (c - bs[k] - 1) % s = c - bs[k] - 1 + s := by
        rw [← Int.add_emod_right, Int.emod_eq_of_lt (by omega) (by omega)]
      omega
  refine ⟨fun p hp => ?_, fun p hp q hq c => ?_, fun p hp q hq => ?_⟩
  · obtain ⟨k, hk, e1, o0, _⟩ := room p hp
    have b := inb _ (List.getElem_mem hk)
    omega
  · obtain ⟨k, hk, e1, o0, h⟩ := room p hp
    obtain ⟨j, hj, e2, _⟩ := room q hq
    have kj : k < j := by
      rcases Nat.lt_trichotomy k j with z | z | z
      · exact z
      · subst z; omega
      · have := lt hj hk z; omega
    rcases h with ⟨h2, h3⟩ | ⟨h2, _⟩
    · rcases Nat.eq_or_lt_of_le (show k + 1 ≤ j from kj) with z | z
      · subst z; omega
      · have := lt h2 hj z; omega
    · omega
  · obtain ⟨k, hk, e1, o0, h⟩ := room p hp
    obtain ⟨j, hj, e2, _⟩ := room q hq
    have bj := inb _ (List.getElem_mem hj)
    rcases h with ⟨h2, h3⟩ | ⟨h2, h3⟩
    · have := inb _ (List.getElem_mem h2)
      omega
    · have h0 : 0 < bs.length := by omega
      have le : bs[0] ≤ bs[j] := by
        rcases Nat.eq_zero_or_pos j with z | z
        · subst z; exact Int.le_refl _
        · exact Int.le_of_lt (lt h0 hj z)
      omega
end
theorem pigeon : ∀ {l m : List Int}, l.Nodup → (∀ x ∈ l, x ∈ m) → l.length ≤ m.length
  | [], _, _, _ => Nat.zero_le _
  | a :: l, m, hn, hs => by
    have ha := hs a (List.mem_cons_self ..)
    obtain ⟨h1, h2⟩ := List.nodup_cons.mp hn
    have h := pigeon (m := m.erase a) h2 fun x hx => (List.mem_erase_of_ne fun e => h1 (by rw [← e]; exact hx)).mpr (hs x (List.mem_cons_of_mem _ hx))
    rw [List.length_erase_of_mem ha] at h
    have := List.length_pos_of_mem ha
    rw [List.length_cons]
    omega
theorem wrap_eq {s x : Int} (h0 : 0 ≤ x) (h1 : x < s + s) (hs : 0 < s) : x % s = if x < s then x else x - s := by
  split
  · exact Int.emod_eq_of_lt h0 (by assumption)
  · rw [← Int.emod_eq_of_lt (show 0 ≤ x - s by omega) (show x - s < s by omega), Int.sub_emod_right]
/-- a walk round a lap meets every place -/
theorem cyc {s b : Int} {bs : List Int} (hs : 0 < s) (h0 : 0 ≤ b) (h1 : b < s) (h : ∀ i : Nat, (i : Int) < s → (b + i) % s ∈ bs) : s ≤ bs.length := by
  have nd : ((List.range s.toNat).map fun (i : Nat) => (b + (i : Int)) % s).Nodup := by
    refine nodup_map (fun i hi j hj e => ?_) List.nodup_range
    have hi := List.mem_range.mp hi
    have hj := List.mem_range.mp hj
    rw [wrap_eq (by omega) (by omega) hs, wrap_eq (by omega) (by omega) hs] at e
    split at e <;> split at e <;> omega
  have p := pigeon nd fun x hx => by
    obtain ⟨i, hi, rfl⟩ := List.mem_map.mp hx
    have := List.mem_range.mp hi
    exact h i (by omega)
  rw [List.length_map, List.length_range] at p
  omega
/-- one step further round -/
theorem step_on {s b : Int} (i : Nat) : ((b + i) % s + 1) % s = (b + ((i + 1 : Nat) : Int)) % s := by
  rw [Int.emod_add_emod, show b + ((i + 1 : Nat) : Int) = b + i + 1 by omega]
/-- the rows of all laps, begin by begin -/
def lapRows (n s laps : Int) (L : List (Int × Int)) : List Rw := L.flatMap fun p => (List.range laps.toNat).map fun (i : Nat) => lapRow n s p i
theorem lapRows_mem {n s laps : Int} {L : List (Int × Int)} (r : Rw) : r ∈ lapRows n s laps L ↔ ∃ p ∈ L, ∃ i : Int, 0 ≤ i ∧ i < laps ∧ r = lapRow n s p i := by
  unfold lapRows
  rw [List.mem_flatMap]
  constructor
  · rintro ⟨p, hp, h⟩
    obtain ⟨i, hi, rfl⟩ := List.mem_map.mp h
    have := List.mem_range.mp hi
    exact ⟨p, hp, i, by omega, by omega, rfl⟩
  · rintro ⟨p, hp, i, i0, i1, rfl⟩
    refine ⟨p, hp, List.mem_map.mpr ⟨i.toNat, List.mem_range.mpr (by omega), ?_⟩⟩
    rw [show ((i.toNat : Nat) : Int) = i by omega]
theorem lapRows_len {n s laps : Int} (L : List (Int × Int)) : (lapRows n s laps L).length = L.length * laps.toNat := by
  unfold lapRows
  induction L with
  | nil => simp
  | cons a l ih => rw [List.flatMap_cons, List.length_append, ih, List.length_map, List.length_range, List.length_cons, Nat.succ_mul, Nat.add_comm]
/-- two rows with one begin are one -/
theorem lapRows_inj {s : Int} {L : List (Int × Int)} (h : LapOk s L) (hL : L.Pairwise fun p q => p.1 < q.1) {p q : Int × Int} (hp : p ∈ L) (hq : q ∈ L) {i j : Int} (e : p.1 + i * s = q.1 + j * s) : p = q ∧ i = j := by
  have bp := h.inb p hp
  have bq := h.inb q hq
  have hij : i = j := by
    rcases Int.lt_trichotomy i j with c | c | c
    · have := mul_step (n := s) (by omega) (show i + 1 ≤ j by omega)
      rw [mul_succ'] at this
      omega
    · exact c
    · have := mul_step (n := s) (by omega) (show j + 1 ≤ i by omega)
      rw [mul_succ'] at this
      omega
  subst hij
  refine ⟨?_, rfl⟩
  have e1 : p.1 = q.1 := by omega
  clear e h bp bq
  induction L with
  | nil => cases hp
  | cons a l ih =>
    obtain ⟨h1, h2⟩ := List.pairwise_cons.mp hL
    rcases List.mem_cons.mp hp with e | e <;> rcases List.mem_cons.mp hq with e' | e'
    · rw [e, e']
    · have := h1 q e'; rw [← e] at this; omega
    · have := h1 p e; rw [← e'] at this; omega
    · exact ih h2 e e'
theorem lapRows_nodup {n s laps : Int} {L : List (Int × Int)} (h : LapOk s L) (hL : L.Pairwise fun p q => p.1 < q.1) : (lapRows n s laps L).Nodup := by
  unfold lapRows
  refine List.pairwise_flatMap.mpr ⟨fun p hp => ?_, hL.imp_of_mem fun {p q} hp hq hlt => ?_⟩
  · refine nodup_map (fun i hi j hj e => ?_) List.nodup_range
    have := (lapRows_inj h hL hp hp (i := i) (j := j) (congrArg Prod.fst e)).2
    omega
  · rintro x hx y hy rfl
    obtain ⟨i, hi, e⟩ := List.mem_map.mp hx
    obtain ⟨j, hj, e'⟩ := List.mem_map.mp hy
    have := (lapRows_inj h hL hp hq (i := i) (j := j) (congrArg Prod.fst (e.trans e'.symm))).1
    rw [this] at hlt
    omega
/-- in order, the rows of all laps are rows -/
theorem lapRows_ok {n s laps : Int} {L : List (Int × Int)} (h : LapOk s L) (hL : L.Pairwise fun p q => p.1 < q.1) (hn : n = laps * s) (hl : 1 ≤ laps) (n2 : 2 ≤ n) (n3 : n ≤ 360) (ne : L ≠ []) (len : L.length * laps.toNat ≤ 12) {ys : List Rw} (hp : ys.Perm (lapRows n s laps L)) (hs : ys.Pairwise lexLe) : RowsOk n ys ∧ Pd (lift n ys) s := by
  have hm : ∀ r, r ∈ ys ↔ ∃ p ∈ L, ∃ i : Int, 0 ≤ i ∧ i < laps ∧ r = lapRow n s p i := fun r => hp.mem_iff.trans (lapRows_mem r)
  have hlen : ys.length = L.length * laps.toNat := hp.length_eq.trans (lapRows_len L)
  have nd : ys.Nodup := hp.nodup_iff.mpr (lapRows_nodup h hL)
  have inc : ys.Pairwise fun p q => p.1 < q.1 := (lex_strict hs nd).imp_of_mem fun {x y} hx hy hlt => by
    rcases hlt with c | ⟨c, c2⟩
    · exact c
    · obtain ⟨p, hp, i, _, _, rfl⟩ := (hm x).mp hx
      obtain ⟨q, hq, j, _, _, rfl⟩ := (hm y).mp hy
      obtain ⟨rfl, rfl⟩ := lapRows_inj h hL hp hq c
      omega
  have l1 : 0 < L.length := List.length_pos_iff.mpr ne
  have R := lap_rows h hn hl n2 n3 (rows := ys) (fun e => by
    rw [e] at hlen
    have : 0 < L.length * laps.toNat := Nat.mul_pos l1 (by omega)
    simp at hlen
    omega) (by omega) inc hm
  exact ⟨R, lap_pd h hn hl R hm⟩
end JM
/-! The law's rows. -/
namespace J
open PySem PySem.Spec PyProof.Rows L2
/-- rows the law may draw -/
def LawRows (n : Int) (ev : Bool) (rows : List Row) : Prop := JM.RowsOk n rows ∧ (ev = true → EvenP n rows)
def sp__law_rows : Sp := fun vs H Q _ => ∃ (a : Addr) (n laps most : Int) (ev : Bool), vs = [.ref a, .int n, .int laps, .int most] ∧ PoolAt H a ∧ 2 ≤ n ∧ n ≤ 360 ∧ most ≤ 12 ∧ LapsOk n most ev laps ∧
  ∀ H' p rows, H p = none → SameX a H H' → PoolAt H' a → LAt eRow H' (.ref p) rows → LawRows n ev rows → Q (.ref p) H'
theorem ft_p {H H' : Hp} {a : Addr} (h : PoolAt H a) (k : SameX a H H') : Ft H H' := by
  obtain ⟨x, y, z, h, _⟩ := h
  exact ft_x k h fun _ z => nomatch z
theorem inV_int (x : Int) (is : List Int) : inV (.int x) (is.map V.int) = decide (x ∈ is) := by
  unfold inV
  rw [List.any_map, Bool.eq_iff_iff, List.any_eq_true, decide_eq_true_iff]
  constructor
  · rintro ⟨y, hy, e⟩
    have : y = x := by simpa [eqV] using e
    exact this ▸ hy
  · exact fun h => ⟨x, h, by simp [eqV]⟩
theorem ints_flat (is : List Int) : (is.map V.int).all flatV = true := List.all_eq_true.mpr fun v hv => by
  obtain ⟨i, _, rfl⟩ := List.mem_map.mp hv
  rfl
section
variable {P : Program} {w : World} {K : PySem.W.Frag} {mg : Str → Option Value} {base : Heap}
theorem sc__law_rows : FnScope ["_law_pool_here", "_law_around", "_law_laps_here", "_law_most", "_law_span_here", "_law_many", "_law_begins", "_law_k", "_law_begin", "_law_j", "_law_pairs", "_law_size", "_law_off", "_law_lap"] ["_law_pool_here", "_law_around", "_law_laps_here", "_law_most"] (defScope s__law_rows) := ⟨rfl, rfl, rfl, by decide +kernel, rfl, by decide +kernel, by decide +kernel⟩
-- slots: 0 _law_pool_here, 1 _law_around, 2 _law_laps_here, 3 _law_most, 4 _law_span_here, 5 _law_many, 6 _law_begins, 7 _law_k, 8 _law_begin, 9 _law_j, 10 _law_pairs, 11 _law_size, 12 _law_off, 13 _law_lap
theorem ok__law_rows (T : Wd K mg) : FnOk P w K mg base CX0 2 T._law_rows.f T._law_rows.fd ["_law_pool_here", "_law_around", "_law_laps_here", "_law_most"] sp__law_rows := by
  have G__law_draw := ok__law_draw (P := P) (w := w) (base := base) T
  refine T._law_rows.F.ok sc__law_rows (fun vs H Q E h => ?_) (fun cdv A outer s H vs Q E hr h => ?_)
  · obtain ⟨a, n, laps, most, ev, rfl, _⟩ := h
    rfl
  · obtain ⟨a, n, laps, most, ev, rfl, hp, n2, n3, m12, lo, q⟩ := h
    obtain ⟨l1, l2, l3, l4⟩ := lo
    refine ⟨_, PSs.nox (pss_cons (ps_set (i := 4) sc__law_rows.nd rfl (.inl rfl) (pe_op op_fdiv (pv 1) (pv 2)))
      (pss_cons (ps_set (i := 5) sc__law_rows.nd rfl (.inl rfl) (pe_op op_add pe_int (pe_call G__law_draw (hr.mono (by decide)) (by rfl) T._law_draw.g T._law_draw.F.kp T._law_draw.b .nil pass0 (pa_cons (pv 0) (pa_cons (pe_callB (call_min2 rfl) (by rfl) T.n_min (by decide +kernel) (pa_cons (pe_op op_fdiv (pv 3) (pv 2)) (pa_cons (pv 4) pa_nil))) pa_nil)))))
      (pss_cons (ps_set (i := 6) sc__law_rows.nd rfl (.inl rfl) (pe_lst pa_nil))
      (pss_cons (ps_for PassesOwn.never rfl (pi_range1 (by rfl) T.n_range (pa_cons (pv 5) pa_nil)) (pg_name (i := 7) sc__law_rows.nd rfl (.inl rfl))
        (pss_cons (ps_set (i := 8) sc__law_rows.nd rfl (.inl rfl) (pe_call G__law_draw (hr.mono (by decide)) (by rfl) T._law_draw.g T._law_draw.F.kp T._law_draw.b .nil pass0 (pa_cons (pv 0) (pa_cons (pv 4) pa_nil))))
          (pss_cons (ps_for PassesOwn.never rfl (pi_range1 (by rfl) T.n_range (pa_cons (pv 4) pa_nil)) (pg_name (i := 9) sc__law_rows.nd rfl (.inl rfl))
            (pss_cons (ps_if (pt_cmpR op_notIn_seq (pv 8) (pv 6) rfl)
                (pss_one ps_break)
                pss_nil)
              (pss_one (ps_set (i := 8) sc__law_rows.nd rfl (.inl rfl) (pe_op op_mod (pe_op op_add (pv 8) pe_int) (pv 4))))))
          (pss_one (ps_expr (pe_bm PySem.F.plainAttrs_list PySem.F.slot_list_append PySem.F.type_list_append mt_append (pv 6) (pa_cons (pv 8) pa_nil)))))))
      (pss_cons (ps_set (i := 6) sc__law_rows.nd rfl (.inl rfl) (pe_callB cr_sortedI (by rfl) T.n_sorted (by decide +kernel) (pa_cons (pv 6) pa_nil)))
      (pss_cons (ps_set (i := 10) sc__law_rows.nd rfl (.inl rfl) (pe_lst pa_nil))
      (pss_cons (ps_for PassesOwn.never rfl (pi_range1 (by rfl) T.n_range (pa_cons (pv 5) pa_nil)) (pg_name (i := 7) sc__law_rows.nd rfl (.inl rfl))
        (pss_cons (ps_set (i := 11) sc__law_rows.nd rfl (.inl rfl) (pe_op op_add (pe_op op_mod (pe_op op_sub (pe_op op_sub (pe_ix ix_list (pv 6) (pe_op op_mod (pe_op op_add (pv 7) pe_int) (pv 5)) (fun _ _ => rfl)) (pe_ix ix_list (pv 6) (pv 7) (fun _ _ => rfl))) pe_int) (pv 4)) pe_int))
          (pss_cons (ps_set (i := 12) sc__law_rows.nd rfl (.inl rfl) (pe_call G__law_draw (hr.mono (by decide)) (by rfl) T._law_draw.g T._law_draw.F.kp T._law_draw.b .nil pass0 (pa_cons (pv 0) (pa_cons (pv 11) pa_nil))))
          (pss_one (ps_for PassesOwn.never rfl (pi_range1 (by rfl) T.n_range (pa_cons (pv 2) pa_nil)) (pg_name (i := 13) sc__law_rows.nd rfl (.inl rfl))
          (pss_cons (ps_set (i := 8) sc__law_rows.nd rfl (.inl rfl) (pe_op op_add (pe_ix ix_list (pv 6) (pv 7) (fun _ _ => rfl)) (pe_op op_mul (pv 13) (pv 4))))
            (pss_one (ps_expr (pe_bm PySem.F.plainAttrs_list PySem.F.slot_list_append PySem.F.type_list_append mt_append (pv 10) (pa_cons (pe_tup (pa_cons (pv 8) (pa_cons (pe_op op_mod (pe_op op_add (pv 8) (pv 12)) (pv 1)) pa_nil))) pa_nil))))))))))
      (pss_one (ps_ret (pe_callB cr_sortedRows (by rfl) T.n_sorted (by decide +kernel) (pa_cons (pv 10) pa_nil)))))))))))
, ?_⟩
    have es : n = laps * (n / laps) := by
      have := Int.emod_add_mul_ediv n laps
      omega
    have s1 : 1 ≤ n / laps := by
      by_cases h : 0 < n / laps
      · omega
      · have h : n / laps ≤ 0 := by omega
        have := Int.mul_nonpos_of_nonneg_of_nonpos (show 0 ≤ laps by omega) h
        omega
    have s360 : n / laps ≤ 360 := by
      have := JM.s_le es l1 (by omega)
      omega
    have mq1 : 1 ≤ most / laps := by
      have := Int.le_ediv_of_mul_le (show 0 < laps by omega) (show 1 * laps ≤ most by omega)
      exact this
    have mq2 : most / laps ≤ 12 := by
      have := Int.ediv_le_self laps (show 0 ≤ most by omega)
      omega
    have mq3 : laps * (most / laps) ≤ most := Int.mul_ediv_self_le (by omega)
    refine ⟨_, rfl, _, rfl, n, laps, rfl, rfl, ⟨by omega, by omega⟩, ?_⟩
    refine ⟨_, rfl, _, rfl, _, rfl, most, laps, rfl, rfl, ⟨by omega, by omega⟩, _, rfl, most / laps, n / laps, rfl, ?_⟩
    refine ⟨a, _, rfl, hp, by split <;> omega, by split <;> omega, fun H1 r s1 hp1 r0 r1 => ⟨1, r, rfl, rfl, ?_⟩⟩
    have rm : 1 + r ≤ most / laps ∧ 1 + r ≤ n / laps := by
      split at r1 <;> omega
    clear r1
    refine ⟨Nat.zero_le _, fun B hB => ?_⟩
    refine ⟨_, rfl, 1 + r, rfl, by omega, by omega, ?_⟩
    have hpa := hp
    obtain ⟨px, py, pz, hpa, _⟩ := hpa
    have naB : a ≠ B := by
      obtain ⟨x, y, z, h, _⟩ := hp1
      exact ne_of_none h hB
    refine for_it walk_range (fun (k : Nat) (σ : L2.St) (H' : Hp) => SameX a H H' ∧ PoolAt H' a ∧ (∃ bs : List Int, H' B = some (.lst (bs.map V.int)) ∧ bs.Nodup ∧ (∀ b ∈ bs, 0 ≤ b ∧ b < n / laps) ∧ bs.length = k) ∧ ∃ x7 x8 x9, σ = [some (.ref a), some (.int n), some (.int laps), some (.int most), some (.int (n / laps)), some (.int (1 + r)), some (.ref B), x7, x8, x9, none, none, none, none]) ⟨?_, ?_, ⟨[], upd_same, List.nodup_nil, (fun _ h => nomatch h), rfl⟩, _, _, _, rfl⟩ (fun k σ H' _ p => trivial) (fun k v σ H2 H3 hk p y => ?_) fun σ H2 p => ?_
    · exact fun b o nb e => by
        rw [upd_ne (ne_of_none (s1 b o nb e) hB)]
        exact s1 b o nb e
    · obtain ⟨x, y, z, h, o⟩ := hp1
      exact ⟨x, y, z, by rw [upd_ne (ne_of_none h hB)]; exact h, o⟩
    · obtain ⟨sx, px', ⟨bs, hbs, nd, hib, hlb⟩, x7, x8, x9, rfl⟩ := p
      obtain ⟨rfl, rfl⟩ := y
      refine ⟨_, rfl, _, rfl, a, _, rfl, px', by omega, by omega, fun H3 b0 s3 hp3 b00 b01 => ?_⟩
      refine ⟨_, rfl, n / laps, rfl, by omega, by omega, ?_⟩
      have hB3 := s3 _ _ (Ne.symm naB) hbs
      refine for_it walk_range (fun (j : Nat) (σ : L2.St) (H' : Hp) => H' = H3 ∧ (∀ i : Nat, i < j → (b0 + i) % (n / laps) ∈ bs) ∧ ∃ x9, σ = [some (.ref a), some (.int n), some (.int laps), some (.int most), some (.int (n / laps)), some (.int (1 + r)), some (.ref B), some (.int (0 + (k : Int))), some (.int ((b0 + j) % (n / laps))), x9, none, none, none, none]) ⟨rfl, (fun _ h => absurd h (Nat.not_lt_zero _)), x9, ?_⟩ (fun j σ H' _ p => trivial) (fun j v σ H4 H5 hj p y => ?_) fun σ H4 p => ?_
      · show _ = [some (.ref a), some (.int n), some (.int laps), some (.int most), some (.int (n / laps)), some (.int (1 + r)), some (.ref B), some (.int (0 + (k : Int))), some (.int ((b0 + 0) % (n / laps))), x9, none, none, none, none]
        rw [Int.add_zero, Int.emod_eq_of_lt b00 b01]
        rfl
      · obtain ⟨rfl, hall, x9', rfl⟩ := p
        obtain ⟨rfl, rfl⟩ := y
        refine ⟨_, rfl, _, rfl, B, _, rfl, .inl (SqL.of hB3), rfl, ints_flat _, _, rfl, ?_⟩
        rw [show (if true = true then !inV (.int ((b0 + j) % (n / laps))) (bs.map V.int) else inV (.int ((b0 + j) % (n / laps))) (bs.map V.int)) = !decide ((b0 + j) % (n / laps) ∈ bs) by rw [inV_int]; rfl]
        by_cases hin : (b0 + j) % (n / laps) ∈ bs
        · rw [decide_eq_true hin]
          refine iteF ⟨_, rfl, _, _, rfl, rfl, _, rfl, _, n / laps, rfl, rfl, (by show 0 < n / laps; omega), ?_⟩
          refine ⟨rfl, fun i hi => ?_, some (.int (0 + (j : Int))), ?_⟩
          · rcases Nat.lt_succ_iff_lt_or_eq.mp hi with h | h
            · exact hall i h
            · rw [h]; exact hin
          · rw [← JM.step_on]
            rfl
        · rw [decide_eq_false hin]
          refine iteT ?_
          have c1 : 0 ≤ (b0 + j) % (n / laps) := Int.emod_nonneg _ (by omega)
          have c2 : (b0 + j) % (n / laps) < n / laps := Int.emod_lt_of_pos _ (by omega)
          refine ⟨_, rfl, .inl ⟨rfl, _, SqL.of hB3⟩, _, rfl, B, _, _, rfl, rfl, hB3, (by rw [List.length_map]; exact Nat.lt_of_le_of_lt (m := 12) (by omega) (by decide)), ?_⟩
          refine ⟨fun b o nb e => ?_, ?_, ⟨bs ++ [(b0 + j) % (n / laps)], ?_, ?_, ?_, ?_⟩, _, _, _, rfl⟩
          · have hb : b ≠ B := fun z => by
              rw [z] at e nb
              have := s1 _ _ nb e
              rw [hB] at this
              cases this
            rw [upd_ne hb]
            exact s3 b o nb (sx b o nb e)
          · obtain ⟨x, y, z, h, o⟩ := hp3
            exact ⟨x, y, z, by rw [upd_ne naB]; exact h, o⟩
          · rw [List.map_append]
            exact upd_same
          · exact List.nodup_append.mpr ⟨nd, (by simp), fun x hx y hy e => by
              rw [List.mem_singleton.mp hy] at e
              exact hin (e ▸ hx)⟩
          · intro x hx
            rcases List.mem_append.mp hx with h | h
            · exact hib x h
            · rw [List.mem_singleton.mp h]
              exact ⟨c1, c2⟩
          · rw [List.length_append, hlb]
            rfl
      · obtain ⟨rfl, hall, x9', rfl⟩ := p
        have := JM.cyc (show 0 < n / laps by omega) b00 b01 (fun i hi => hall i (by omega))
        omega
    · obtain ⟨sx, px', ⟨bs, hbs, nd, hib, hlb⟩, x7, x8, x9, rfl⟩ := p
      have hlb : bs.length = (1 + r).toNat := hlb
      refine ⟨_, rfl, B, bs, rfl, SqL.of hbs, fun ns S perm le hS => ?_⟩
      have nds : ns.Nodup := perm.nodup_iff.mpr nd
      have inc : ns.Pairwise (· < ·) := (le.and nds).imp fun {x y} h => by have := h.1; have := h.2; omega
      refine ⟨Nat.zero_le _, fun C hC => ?_⟩
      have naS : a ≠ S := by
        obtain ⟨x, y, z, h, _⟩ := px'
        exact ne_of_none h hS
      have naC : a ≠ C := by
        obtain ⟨x, y, z, h, _⟩ := px'
        exact ne_of_none (by rw [upd_ne naS]; exact h) hC
      have nSC : S ≠ C := ne_of_none upd_same hC
      have nbC : ∀ b o, b ≠ a → H b = some o → b ≠ C := fun b o nb e => by
        have e2 := sx b o nb e
        exact ne_of_none (by rw [upd_ne (ne_of_none e2 hS)]; exact e2) hC
      have hlen : ns.length = (1 + r).toNat := perm.length_eq.trans hlb
      refine ⟨_, rfl, 1 + r, rfl, by omega, by omega, ?_⟩
      refine for_it walk_range (fun (k : Nat) (σ : L2.St) (H' : Hp) => SameX a H H' ∧ PoolAt H' a ∧ H' S = some (.lst (ns.map V.int)) ∧ (∃ offs : List Int, offs.length = k ∧ (∀ i (h : i < k) (h2 : i < ns.length), ∃ o, offs[i]? = some o ∧ 0 ≤ o ∧ ∃ c, ns[(i + 1) % ns.length]? = some c ∧ o < (c - ns[i] - 1) % (n / laps) + 1) ∧ ∃ us, H' C = some (.lst us) ∧ SdAll H' us ((JM.lapRows n (n / laps) laps ((ns.take k).zip offs)).map eRow)) ∧ ∃ x7 x8 x9 x11 x12 x13, σ = [some (.ref a), some (.int n), some (.int laps), some (.int most), some (.int (n / laps)), some (.int (1 + r)), some (.ref S), x7, x8, x9, some (.ref C), x11, x12, x13]) ⟨?_, ?_, ?_, ⟨[], rfl, (fun _ h => absurd h (Nat.not_lt_zero _)), [], upd_same, .nil⟩, x7, x8, x9, none, none, none, rfl⟩ (fun k σ H' _ p => trivial) (fun k v σ H3 H4 hk p y => ?_) fun σ H3 p => ?_
      · exact fun b o nb e => by
          have e2 := sx b o nb e
          have e3 : (upd H2 S (.lst (ns.map V.int))) b = some o := by rw [upd_ne (ne_of_none e2 hS)]; exact e2
          rw [upd_ne (ne_of_none e3 hC)]
          exact e3
      · obtain ⟨x, y, z, h, o⟩ := px'
        exact ⟨x, y, z, by rw [upd_ne naC, upd_ne naS]; exact h, o⟩
      · rw [upd_ne nSC]
        exact upd_same
      · obtain ⟨s4, p4, hS4, ⟨offs, ol, oh, us, hus, hsd⟩, y7, y8, y9, y11, y12, y13, rfl⟩ := p
        obtain ⟨rfl, rfl⟩ := y
        have hkm : k < ns.length := by omega
        have hk2 : (k + 1) % ns.length < ns.length := Nat.mod_lt _ (by omega)
        have hidx : (0 + (k : Int) + 1) % (1 + r) = (((k + 1) % ns.length : Nat) : Int) := by
          rw [Int.natCast_emod]
          congr 1 <;> omega
        have at1 : (ns.map V.int)[(k + 1) % ns.length]? = some (.int ns[(k + 1) % ns.length]) := by rw [List.getElem?_map, List.getElem?_eq_getElem hk2]; rfl
        have at2 : (ns.map V.int)[k]? = some (.int ns[k]) := by rw [List.getElem?_map, List.getElem?_eq_getElem hkm]; rfl
        have z0 : ((0 + (k : Int))) = k := by omega
        refine ⟨_, rfl, _, rfl, 0 + (k : Int), 1, rfl, rfl, _, rfl, 0 + (k : Int) + 1, 1 + r, rfl, rfl, (by show 0 < 1 + r; omega), S, _, _, _, rfl, rfl, SqL.of hS4, (by rw [hidx]; exact atI_nat at1), ?_⟩
        refine ⟨_, rfl, _, rfl, S, _, _, _, rfl, rfl, SqL.of hS4, (by rw [z0]; exact atI_nat at2), _, _, rfl, rfl, _, _, rfl, rfl, _, rfl, _, n / laps, rfl, rfl, (by show 0 < n / laps; omega), _, _, rfl, rfl, ?_⟩
        have sz0 : 0 ≤ (ns[(k + 1) % ns.length] - ns[k] - 1) % (n / laps) := Int.emod_nonneg _ (by omega)
        have sz1 : (ns[(k + 1) % ns.length] - ns[k] - 1) % (n / laps) < n / laps := Int.emod_lt_of_pos _ (by omega)
        refine ⟨_, rfl, _, rfl, a, _, rfl, p4, (by omega), (by omega), fun H5 off s5 p5 o0 o1 => ?_⟩
        have hS5 := s5 _ _ (Ne.symm naS) hS4
        have hC5 := s5 _ _ (Ne.symm naC) hus
        have hsd5 : SdAll H5 us ((JM.lapRows n (n / laps) laps ((ns.take k).zip offs)).map eRow) := hsd.mt (ft_p p4 s5)
        refine ⟨_, rfl, laps, rfl, by omega, by omega, ?_⟩
        refine for_it walk_range (fun (i : Nat) (σ : L2.St) (H' : Hp) => SameX a H H' ∧ PoolAt H' a ∧ H' S = some (.lst (ns.map V.int)) ∧ (∃ us, H' C = some (.lst us) ∧ SdAll H' us ((JM.lapRows n (n / laps) laps ((ns.take k).zip offs) ++ (List.range i).map fun (m : Nat) => JM.lapRow n (n / laps) (ns[k], off) m).map eRow)) ∧ ∃ y8 y9 y11 y13, σ = [some (.ref a), some (.int n), some (.int laps), some (.int most), some (.int (n / laps)), some (.int (1 + r)), some (.ref S), some (.int (0 + (k : Int))), y8, y9, some (.ref C), y11, some (.int off), y13]) ⟨?_, p5, hS5, ⟨us, hC5, ?_⟩, y8, y9, _, y13, rfl⟩ (fun i σ H' _ p => trivial) (fun i v σ H6 H7 hi p y => ?_) fun σ H6 p => ?_
        · exact fun b o nb e => s5 b o nb (s4 b o nb e)
        · rw [List.range_zero, List.map_nil, List.append_nil]
          exact hsd5
        · obtain ⟨s6, p6, hS6, ⟨us6, hC6, hu6⟩, w8, w9, w11, w13, rfl⟩ := p
          obtain ⟨rfl, rfl⟩ := y
          refine ⟨_, rfl, _, rfl, S, _, _, _, rfl, rfl, SqL.of hS6, (by rw [z0]; exact atI_nat at2), _, rfl, _, rfl, 0 + (i : Int), n / laps, rfl, rfl, .inl (by omega), _, _, rfl, rfl, ?_⟩
          refine ⟨_, rfl, .inl ⟨rfl, _, SqL.of hC6⟩, ?_⟩
          refine ⟨_, rfl, _, rfl, _, rfl, _, off, rfl, rfl, _, rfl, _, n, rfl, rfl, (by show 0 < n; omega), ?_⟩
          refine ⟨(by show 2 ≤ sizeLine; decide), fun t nt => ?_⟩
          have nC : C ≠ t := ne_of_none hC6 nt
          have nS : S ≠ t := ne_of_none hS6 nt
          have na : a ≠ t := by
            obtain ⟨x, y, z, h, _⟩ := p6
            exact ne_of_none h nt
          have hl6 : us6.length ≤ 156 := by
            have h1 := hu6.len
            rw [List.length_map, List.length_append, JM.lapRows_len, List.length_map, List.length_range, List.length_zip] at h1
            have h2 : min (ns.take k).length offs.length * laps.toNat ≤ 12 * 12 := Nat.mul_le_mul (by omega) (by omega)
            omega
          have hC7 : (upd H7 t (.tup [.int (ns[k] + (0 + (i : Int)) * (n / laps)), .int ((ns[k] + (0 + (i : Int)) * (n / laps) + off) % n)])) C = some (.lst us6) := by rw [upd_ne nC]; exact hC6
          refine ⟨C, us6, .ref t, rfl, rfl, hC7, Nat.lt_of_le_of_lt hl6 (by decide), ?_⟩
          refine ⟨fun b o nb e => ?_, ?_, ?_, ⟨us6 ++ [.ref t], upd_same, ?_⟩, _, _, _, _, rfl⟩
          · have e1 := s6 b o nb e
            have n1 : b ≠ C := nbC b o nb e
            rw [upd_ne n1, upd_ne (ne_of_none e1 nt)]
            exact e1
          · obtain ⟨x, y, z, h, o⟩ := p6
            exact ⟨x, y, z, by rw [upd_ne naC, upd_ne na]; exact h, o⟩
          · rw [upd_ne nSC, upd_ne nS]
            exact hS6
          · rw [List.range_succ, List.map_append (f := fun (m : Nat) => JM.lapRow n (n / laps) (ns[k], off) m), ← List.append_assoc, List.map_append, List.map_cons, List.map_nil, List.map_cons, List.map_nil]
            refine SdAll.snoc (hu6.mt ((ft_of (same_new nt)).trans (ft_upd hC7 fun _ z => nomatch z))) ?_
            have z1 : (0 + (i : Int)) = i := by omega
            refine row_sd (a := t) ?_
            rw [upd_ne (Ne.symm nC), upd_same]
            show some (HO.tup [V.int (ns[k] + (0 + (i : Int)) * (n / laps)), V.int ((ns[k] + (0 + (i : Int)) * (n / laps) + off) % n)]) = some (HO.tup [V.int (ns[k] + (i : Int) * (n / laps)), V.int ((ns[k] + (i : Int) * (n / laps) + off) % n)])
            rw [z1]
        · obtain ⟨s6, p6, hS6, ⟨us6, hC6, hu6⟩, w8, w9, w11, w13, rfl⟩ := p
          refine ⟨s6, p6, hS6, ⟨offs ++ [off], ?_, fun i hi h2 => ?_, us6, hC6, ?_⟩, _, _, _, _, _, _, rfl⟩
          · rw [List.length_append, ol]
            rfl
          · rcases Nat.lt_succ_iff_lt_or_eq.mp hi with h | h
            · obtain ⟨o, e, o0', c, e2, o1'⟩ := oh i h h2
              exact ⟨o, by rw [List.getElem?_append_left (by omega)]; exact e, o0', c, e2, o1'⟩
            · subst h
              exact ⟨off, by rw [List.getElem?_append_right (by omega), ol, Nat.sub_self]; rfl, o0, _, List.getElem?_eq_getElem hk2, o1⟩
          · rw [List.take_add_one, List.getElem?_eq_getElem hkm, List.zip_append (by rw [List.length_take]; omega)]
            have e : JM.lapRows n (n / laps) laps ((ns.take k).zip offs ++ (some ns[k]).toList.zip [off]) = JM.lapRows n (n / laps) laps ((ns.take k).zip offs) ++ (List.range laps.toNat).map fun (m : Nat) => JM.lapRow n (n / laps) (ns[k], off) m := by
              unfold JM.lapRows
              rw [List.flatMap_append]
              show _ ++ ([(ns[k], off)].flatMap _) = _
              rw [List.flatMap_cons, List.flatMap_nil, List.append_nil]
            rw [e]
            exact hu6
      · obtain ⟨s4, p4, hS4, ⟨offs, ol, oh, us, hus, hsd⟩, y7, y8, y9, y11, y12, y13, rfl⟩ := p
        have ol : offs.length = ns.length := ol.trans hlen.symm
        have tk : ns.take (1 + r).toNat = ns := by rw [← hlen, List.take_length]
        rw [tk] at hsd
        refine ⟨_, rfl, C, us, _, rfl, SqL.of hus, hsd, fun p us' ys np perm2 lex hys => ?_⟩
        have LO := JM.begins_ok (s := n / laps) inc (fun b hb => hib b (perm.mem_iff.mp hb)) ol (fun k h => by
          obtain ⟨o, e, h0, c, e2, h1⟩ := oh k (by omega) h
          exact ⟨o, e, h0, c, e2, h1⟩)
        have LP : (ns.zip offs).Pairwise fun p q => p.1 < q.1 := by
          have e : (ns.zip offs).map Prod.fst = ns := List.map_fst_zip (by omega)
          have i2 := inc
          rw [← e] at i2
          exact List.pairwise_map.mp i2
        have ln : (ns.zip offs).length = ns.length := by rw [List.length_zip]; omega
        have l12 : (ns.zip offs).length * laps.toNat ≤ 12 := by
          have h1 : ((ns.length * laps.toNat : Nat) : Int) ≤ 12 := by
            rw [Int.natCast_mul, show (ns.length : Int) = 1 + r by omega, show ((laps.toNat : Nat) : Int) = laps by omega, Int.mul_comm]
            have := Int.mul_le_mul_of_nonneg_left rm.1 (show 0 ≤ laps by omega)
            omega
          rw [ln]
          omega
        obtain ⟨R, pd⟩ := JM.lapRows_ok LO LP es l1 n2 n3 (fun e => by rw [e] at ln; simp at ln; omega) l12 perm2 lex
        have nap : a ≠ p := by
          obtain ⟨x, y, z, h, _⟩ := p4
          exact ne_of_none h np
        refine q _ p ys (s4.free (Ne.symm nap) np) (s4.new (s4.free (Ne.symm nap) np)) ?_ ⟨p, us', rfl, upd_same, hys.mt (ft_of (same_new np))⟩ ⟨R, fun e => ?_⟩
        · obtain ⟨x, y, z, h, o⟩ := p4
          exact ⟨x, y, z, by rw [upd_ne nap]; exact h, o⟩
        · have l2 := l4 e
          have e2 : n = 2 * (laps / 2 * (n / laps)) := by
            have h1 : laps = 2 * (laps / 2) := by omega
            calc n = laps * (n / laps) := es
              _ = 2 * (laps / 2) * (n / laps) := by rw [← h1]
              _ = 2 * (laps / 2 * (n / laps)) := Int.mul_assoc ..
          refine ⟨by omega, ?_⟩
          rw [show n / 2 = laps / 2 * (n / laps) by omega]
          exact pd.mul _
end
end J
/-! The law's world and part. -/
namespace J
open PySem PySem.Spec PyProof.Rows L2
def sp__law_world : Sp := fun vs H Q _ => ∃ (a : Addr) (n most : Int), vs = [.ref a, .int n, .int most] ∧ PoolAt H a ∧ 2 ≤ n ∧ n ≤ 360 ∧ most = 12 ∧
  ∀ H' p ws, H p = none → SameX a H H' → PoolAt H' a → DAt (LAt eRow) H' (.ref p) ws → WsOk n ws → Q (.ref p) H'
theorem LAt.pool {β : Type} {enc : β → PyData} {H H' : Hp} {a p : Addr} {l : List β} (n : p ≠ a) (hp : PoolAt H a) (k : SameX a H H') (h : LAt enc H (.ref p) l) : LAt enc H' (.ref p) l := by
  obtain ⟨b, us, e, h1, h2⟩ := h
  cases e
  exact ⟨p, us, rfl, k _ _ n h1, h2.mt (ft_p hp k)⟩
def rLst (K : PySem.W.Frag) : List V → Hp → VK → Prop := fun xs H Q => ∃ p ys, xs = [.ref p] ∧ (SqL K H p ys ∨ SqT K H p ys) ∧ ∀ l, H l = none → Q (.ref l) (upd H l (.lst ys))
section
variable {P : Program} {w : World} {K : PySem.W.Frag} {mg : Str → Option Value} {base : Heap}
def sp__law_part (T : Wd K mg) : Sp := fun vs H Q _ => ∃ (v : V) (n : Int) (ws : List (PySem.Str × List Row)), vs = [v, .int n] ∧ DAt (LAt eRow) H v ws ∧ WsOk n ws ∧ ∀ H' p, Same H H' → PartAt T H' p n ws → Q p H'
theorem sc__law_world : FnScope ["_law_pool_here", "_law_around", "_law_most", "_law_choice", "_law_pairs"] ["_law_pool_here", "_law_around", "_law_most"] (defScope s__law_world) := ⟨rfl, rfl, rfl, by decide +kernel, rfl, by decide +kernel, by decide +kernel⟩
-- slots: 0 _law_pool_here, 1 _law_around, 2 _law_most, 3 _law_choice, 4 _law_pairs
theorem ok__law_world (T : Wd K mg) : FnOk P w K mg base CX0 3 T._law_world.f T._law_world.fd ["_law_pool_here", "_law_around", "_law_most"] sp__law_world := by
  have G__law_draw := ok__law_draw (P := P) (w := w) (base := base) T
  have G__law_rows := ok__law_rows (P := P) (w := w) (base := base) T
  have G__law_laps := ok__law_laps (P := P) (w := w) (base := base) T
  refine T._law_world.F.ok sc__law_world (fun vs H Q E h => ?_) (fun cdv A outer s H vs Q E hr h => ?_)
  · obtain ⟨a, n, most, rfl, _⟩ := h
    rfl
  · obtain ⟨a, n, most, rfl, hp, n2, n3, rfl, q⟩ := h
    refine ⟨_, PSs.nox (pss_cons (ps_set (i := 3) sc__law_world.nd rfl (.inl rfl) (pe_call G__law_draw (hr.mono (by decide)) (by rfl) T._law_draw.g T._law_draw.F.kp T._law_draw.b .nil pass0 (pa_cons (pv 0) (pa_cons pe_int pa_nil))))
      (C8.pss_cut (ps_if (pt_cmpR op_eq (pe_op op_mod (pv 1) pe_int) pe_int (nomark _))
        (pss_one (ps_set (i := 3) sc__law_world.nd rfl (.inl rfl) pe_int))
        pss_nil)
      (pss_cons (ps_set (i := 4) sc__law_world.nd rfl (.inl rfl) pe_dnewK)
      (pss_cons (ps_if (pt_cmpR op_ne (pv 3) pe_int (nomark _))
        (pss_one (ps_dput (hu_of hr) (pv 4) pe_str (pe_call G__law_rows (hr.mono (by decide)) (by rfl) T._law_rows.g T._law_rows.F.kp T._law_rows.b .nil pass0 (pa_cons (pv 0) (pa_cons (pv 1) (pa_cons (pe_call G__law_laps (hr.mono (by decide)) (by rfl) T._law_laps.g T._law_laps.F.kp T._law_laps.b .nil pass0 (pa_cons (pv 0) (pa_cons (pv 1) (pa_cons pe_bl (pa_cons (pv 2) pa_nil))))) (pa_cons (pv 2) pa_nil))))) rfl))
        pss_nil)
      (pss_cons (ps_if (pt_cmpR op_ne (pv 3) pe_int (nomark _))
        (pss_one (ps_dput (hu_of hr) (pv 4) pe_str (pe_call G__law_rows (hr.mono (by decide)) (by rfl) T._law_rows.g T._law_rows.F.kp T._law_rows.b .nil pass0 (pa_cons (pv 0) (pa_cons (pv 1) (pa_cons (pe_call G__law_laps (hr.mono (by decide)) (by rfl) T._law_laps.g T._law_laps.F.kp T._law_laps.b .nil pass0 (pa_cons (pv 0) (pa_cons (pv 1) (pa_cons pe_bl (pa_cons (pv 2) pa_nil))))) (pa_cons (pv 2) pa_nil))))) rfl))
        pss_nil)
      (pss_one (ps_ret (pv 4))))))))
, ?_⟩
    refine ⟨_, rfl, a, _, rfl, hp, by decide, by decide, fun H1 r s1 hp1 r0 r1 => ?_⟩
    refine ⟨fun σ H' => H' = H1 ∧ ∃ c, (c = 0 ∨ c = 1 ∨ c = 2) ∧ (n % 2 = 1 → c = 0) ∧ σ = [some (.ref a), some (.int n), some (.int 12), some (.int c), none], ?_, fun σ' H2 hM => ?_⟩
    · refine ⟨_, rfl, n, 2, rfl, rfl, (by show (0 : Int) < 2; decide), rfl, _, rfl, ite2 (fun c => ?_) fun c => ?_⟩
      · exact ⟨rfl, 0, .inl rfl, fun _ => rfl, rfl⟩
      · exact ⟨rfl, r, by omega, fun e => absurd (decide_eq_true (congrArg V.int e)) c, rfl⟩
    · obtain ⟨rfl, c, hc, ho, rfl⟩ := hM
      intro d hd
      have nad : a ≠ d := by
        obtain ⟨x, y, z, h, _⟩ := hp1
        exact ne_of_none h hd
      have two : ∀ (ev : Bool) (H' : Hp) (R : VK), PoolAt H' a → (ev = true → n % 2 = 0) → (∀ H'' p rows, H' p = none → SameX a H' H'' → PoolAt H'' a → LAt eRow H'' (.ref p) rows → LawRows n ev rows → R (.ref p) H'') →
          tCall sp__law_rows [] E0 (tCons (tVar 0) (tCons (tVar 1) (tCons (tCall sp__law_laps [] E0 (tCons (tVar 0) (tCons (tVar 1) (tCons (tC (.bl ev)) (tCons (tVar 2) tNil))))) (tCons (tVar 2) tNil)))) [some (.ref a), some (.int n), some (.int 12), some (.int c), some (.ref d)] H' R := fun ev H' R hp' hev k =>
        ⟨_, rfl, _, rfl, _, rfl, _, rfl, _, rfl, a, n, 12, ev, rfl, hp', by decide, by decide, hev, fun H3 l s3 p3 lo => ⟨_, rfl, a, n, l, 12, ev, rfl, p3, n2, n3, by decide, lo, fun H4 p rows np s4 p4 hL hR => k H4 p rows (by
          have npa : p ≠ a := fun e => by
            obtain ⟨x, y, z, h, _⟩ := p3
            rw [e, h] at np
            cases np
          exact s3.free npa np) (s3.trans s4) p4 hL hR⟩⟩
      have hp2 : PoolAt (upd H2 d (.dK [])) a := by
        obtain ⟨x, y, z, h, o⟩ := hp1
        exact ⟨x, y, z, by rw [upd_ne nad]; exact h, o⟩
      have ka : SameX a H (upd H2 d (.dK [])) := s1.new (s1.free (Ne.symm nad) hd)
      have hd0 := s1.free (Ne.symm nad) hd
      have put : ∀ {H' : Hp} {kvs : List (Key × V)} {o : HO}, SameX a H H' → PoolAt H' a → SameX a H (upd H' d o) ∧ PoolAt (upd H' d o) a := fun {H' kvs o} k p => ⟨k.new hd0, by
        obtain ⟨x, y, z, h, o⟩ := p
        exact ⟨x, y, z, by rw [upd_ne nad]; exact h, o⟩⟩
      have lup : ∀ {H' : Hp} {kvs : List (Key × V)} {o : HO} {v : V} {l : List Row}, H' d = some (.dK kvs) → LAt eRow H' v l → LAt eRow (upd H' d o) v l := fun {H' kvs o v l} e h => LAt.kx e (fun _ z => nomatch z) (fun _ z => nomatch z) samex_upd h
      rcases hc with rfl | rfl | rfl
      · refine ⟨_, rfl, rfl, _, rfl, iteT (two false _ _ hp2 (nomatch ·) fun H3 p rows np s3 p3 hL hR => ⟨_, rfl, d, _, rfl, .inl ⟨[], .inr "push", s3 _ _ (Ne.symm nad) upd_same, rfl, by decide, rfl⟩, ?_⟩)⟩
        refine ⟨_, rfl, rfl, _, rfl, iteF ⟨_, rfl, ?_⟩⟩
        have z := put (kvs := []) (o := .dK (putK [] (.inr "push") (.ref p))) (ka.trans s3) p3
        exact q _ d [("push", rows)] hd0 z.1 z.2 ⟨d, _, rfl, upd_same, .cons (lup (s3 _ _ (Ne.symm nad) upd_same) hL) .nil⟩ (.one hR.1)
      · have e2 : n % 2 = 0 := by
          rcases Int.emod_two_eq n with h | h
          · exact h
          · exact absurd (ho h) (by decide)
        refine ⟨_, rfl, rfl, _, rfl, iteF ?_⟩
        refine ⟨_, rfl, rfl, _, rfl, iteT (two true _ _ hp2 (fun _ => e2) fun H3 p rows np s3 p3 hL hR => ⟨_, rfl, d, _, rfl, .inl ⟨[], .inr "squeeze", s3 _ _ (Ne.symm nad) upd_same, rfl, by decide, rfl⟩, ?_⟩)⟩
        have z := put (kvs := []) (o := .dK (putK [] (.inr "squeeze") (.ref p))) (ka.trans s3) p3
        exact ⟨_, rfl, q _ d [("squeeze", rows)] hd0 z.1 z.2 ⟨d, _, rfl, upd_same, .cons (lup (s3 _ _ (Ne.symm nad) upd_same) hL) .nil⟩ (.sq hR.1 (hR.2 rfl))⟩
      · have e2 : n % 2 = 0 := by
          rcases Int.emod_two_eq n with h | h
          · exact h
          · exact absurd (ho h) (by decide)
        refine ⟨_, rfl, rfl, _, rfl, iteT (two false _ _ hp2 (nomatch ·) fun H3 p rows np s3 p3 hL hR => ⟨_, rfl, d, _, rfl, .inl ⟨[], .inr "push", s3 _ _ (Ne.symm nad) upd_same, rfl, by decide, rfl⟩, ?_⟩)⟩
        have hd3 := s3 _ _ (Ne.symm nad) (upd_same (H := H2) (a := d) (o := .dK []))
        have z := put (kvs := []) (o := .dK (putK [] (.inr "push") (.ref p))) (ka.trans s3) p3
        have hL3 := lup (o := .dK (putK [] (.inr "push") (.ref p))) hd3 hL
        refine ⟨_, rfl, rfl, _, rfl, iteT (two true _ _ z.2 (fun _ => e2) fun H4 p' rows' np' s4 p4 hL' hR' => ⟨_, rfl, d, _, rfl, .inl ⟨_, .inr "squeeze", s4 _ _ (Ne.symm nad) upd_same, rfl, by show 1 < sizeLine; decide, rfl⟩, ?_⟩)⟩
        have hd4 := s4 _ _ (Ne.symm nad) (upd_same (H := H3) (a := d) (o := .dK (putK [] (.inr "push") (.ref p))))
        have z4 := put (kvs := []) (o := .dK (putK (putK [] (.inr "push") (.ref p)) (.inr "squeeze") (.ref p'))) (z.1.trans s4) p4
        have npa : p ≠ a := fun e => by
          obtain ⟨x, y, z, h, _⟩ := hp2
          rw [e, h] at np
          cases np
        have hL4 : LAt eRow H4 (.ref p) rows := LAt.pool npa z.2 s4 hL3
        exact ⟨_, rfl, q _ d [("push", rows), ("squeeze", rows')] hd0 z4.1 z4.2 ⟨d, _, rfl, upd_same, .cons (lup hd4 hL4) (.cons (lup hd4 hL') .nil)⟩ (.two hR.1 hR'.1 (hR'.2 rfl))⟩
theorem sc__law_part : FnScope ["_law_pairs", "_law_around", "_law_squeeze", "_law_push"] ["_law_pairs", "_law_around"] (defScope s__law_part) := ⟨rfl, rfl, rfl, by decide +kernel, rfl, by decide +kernel, by decide +kernel⟩
-- slots: 0 _law_pairs, 1 _law_around, 2 _law_squeeze, 3 _law_push
theorem ok__law_part (T : Wd K mg) : FnOk P w K mg base CX0 7 T._law_part.f T._law_part.fd ["_law_pairs", "_law_around"] (sp__law_part T) := by
  have G_Turning_init := ok_Turning_init (P := P) (w := w) (base := base) T
  refine T._law_part.F.ok sc__law_part (fun vs H Q E h => ?_) (fun cdv A outer s H vs Q E hr h => ?_)
  · obtain ⟨v, n, ws, rfl, _⟩ := h
    rfl
  · have G_Part_init := ok_Part_init (P := P) (w := w) (base := base) T
    obtain ⟨v, n, ws, rfl, hv, ok, q⟩ := h
    refine ⟨_, PSs.nox (pss_cons (ps_set (i := 2) sc__law_part.nd rfl (.inl rfl) pe_non)
      (pss_cons (ps_set (i := 3) sc__law_part.nd rfl (.inl rfl) pe_non)
      (C8.pss_cut (ps_if (pt_cmp (pc_din (hu_of hr) pe_str (pv 0)))
        (pss_one (ps_set (i := 2) sc__law_part.nd rfl (.inl rfl) (pe_make T.Turning_init.mkr G_Turning_init (hr.mono (by decide)) (by rfl) T.Turning.g T.Turning_init.b .nil pass0 (pa_cons (pv 1) (pa_cons (pe_callTy call_list_of (by rfl) T.n_list (by decide +kernel) (pa_cons (pe_dget (hu_of hr) (pv 0) pe_str (fun _ _ => rfl)) pa_nil)) pa_nil)))))
        pss_nil)
      (C8.pss_cut (ps_if (pt_cmp (pc_din (hu_of hr) pe_str (pv 0)))
        (pss_one (ps_set (i := 3) sc__law_part.nd rfl (.inl rfl) (pe_make T.Turning_init.mkr G_Turning_init (hr.mono (by decide)) (by rfl) T.Turning.g T.Turning_init.b .nil pass0 (pa_cons (pv 1) (pa_cons (pe_callTy call_list_of (by rfl) T.n_list (by decide +kernel) (pa_cons (pe_dget (hu_of hr) (pv 0) pe_str (fun _ _ => rfl)) pa_nil)) pa_nil)))))
        pss_nil)
      (pss_one (ps_ret (pe_makeK0 T.Part_init.mkr G_Part_init (hr.mono (by decide)) (by rfl) T.Part.g T.Part_init.b pass0 (pk_cons (pv 2) (pk_cons (pv 3) pk_nil)))))))))
, ?_⟩
    obtain ⟨d, kvs, rfl, hd, hk⟩ := hv
    have tn : ∀ (x : PySem.Str) (H' : Hp) (R : VK) (σ : L2.St) (j k : Nat) (rows : List Row), Same H H' → JM.look ws x = some rows → σ[j]? = some (some (.ref d)) → σ[k]? = some (some (.int n)) → (∀ H'' u, Same H' H'' → TurnAt T H'' u n rows → R u H'') →
        tMake T.Turning.C (sp_Turning_init T) [] E0 (tCons (tVar k) (tCons (tCB (rLst K) (tCons (tDGet (tVar j) (tC (.str x))) tNil)) tNil)) σ H' R := fun x H' R σ j k rows s1 hl e1 e2 hR => by
      obtain ⟨u, hu, a, us, rfl, ha, hs⟩ := hk.get hl
      refine ⟨_, e2, _, e1, d, _, rfl, .inl ⟨kvs, .inr x, .inl (s1 _ _ hd), rfl, hu.symm⟩, a, us, rfl, .inl (SqL.of (s1 _ _ ha)), fun l nl y dy hy hdy nyd => ?_⟩
      have s2 : Same H' (upd H' l (.lst us)) := same_new' nl
      refine ⟨y, dy, l, n, us, rows, rfl, upd_same, ?_, ?_, ok.rows _ (JM.look_some hl), fun H3 k3 t3 => ⟨rfl, hR H3 _ (s2.trans (make_same hy hdy k3)) t3⟩⟩
      · rw [upd_ne (ne_of_none upd_same hy), upd_ne (ne_of_none upd_same hdy)]
        exact upd_same
      · exact hs.sm fun b o e => by
          have e3 := s2 _ _ (s1 _ _ e)
          rw [upd_ne (ne_of_none e3 hy), upd_ne (ne_of_none e3 hdy)]
          exact e3
    have gt : ∀ (x : PySem.Str) (H' : Hp), Same H H' → DGet H' d (.str x) (valV kvs (.inr x)) := fun x H' s1 => .inl ⟨kvs, .inr x, .inl (s1 _ _ hd), rfl, rfl⟩
    refine ⟨fun σ H' => Same H H' ∧ ∃ sq, σ = [some (.ref d), some (.int n), some sq, some .non] ∧ ((JM.look ws "squeeze" = none ∧ sq = .non) ∨ ∃ r, JM.look ws "squeeze" = some r ∧ TurnAt T H' sq n r), ?_, fun σ' H2 hM => ?_⟩
    · refine ⟨_, rfl, d, _, rfl, gt _ _ (Same.refl _), _, rfl, ?_⟩
      rw [hk.isSome]
      cases hl : JM.look ws "squeeze" with
      | none => exact iteF ⟨Same.refl _, .non, rfl, .inl ⟨rfl, rfl⟩⟩
      | some r => exact iteT (tn _ _ _ _ 0 1 r (Same.refl _) hl rfl rfl fun H3 u s3 t3 => ⟨s3, u, rfl, .inr ⟨r, rfl, t3⟩⟩)
    obtain ⟨s2, sq, rfl, hsq⟩ := hM
    refine ⟨fun σ H' => Same H H' ∧ ∃ sq pu, σ = [some (.ref d), some (.int n), some sq, some pu] ∧ ((JM.look ws "squeeze" = none ∧ sq = .non) ∨ ∃ r, JM.look ws "squeeze" = some r ∧ TurnAt T H' sq n r) ∧ ((JM.look ws "push" = none ∧ pu = .non) ∨ ∃ r, JM.look ws "push" = some r ∧ TurnAt T H' pu n r), ?_, fun σ' H3 hM => ?_⟩
    · refine ⟨_, rfl, d, _, rfl, gt _ _ s2, _, rfl, ?_⟩
      rw [hk.isSome]
      cases hl : JM.look ws "push" with
      | none => exact iteF ⟨s2, sq, .non, rfl, hsq, .inl ⟨rfl, rfl⟩⟩
      | some r => exact iteT (tn _ _ _ _ 0 1 r s2 hl rfl rfl fun H3 u s3 t3 => ⟨s2.trans s3, sq, u, rfl, hsq.imp_right fun ⟨r, h, t⟩ => ⟨r, h, t.sm s3⟩, .inr ⟨r, rfl, t3⟩⟩)
    obtain ⟨s3, sq, pu, rfl, hsq, hpu⟩ := hM
    refine ⟨_, rfl, _, rfl, rfl, rfl, fun x dx hx hdx nxd => ?_⟩
    have s4 : Same H3 (upd (upd H3 dx (.own x)) x (.ins T.Part.C dx [])) := fun b o e => by rw [upd_ne (ne_of_none e hx), upd_ne (ne_of_none e hdx)]; exact e
    have fin : PCase T (upd (upd H3 dx (.own x)) x (.ins T.Part.C dx [])) n sq pu ws := by
      rcases ok.form with ⟨r, rfl⟩ | ⟨r, rfl⟩ | ⟨r, r', rfl⟩
      · rcases hsq with ⟨_, rfl⟩ | ⟨r1, h, _⟩
        · rcases hpu with ⟨h, _⟩ | ⟨r1, h, t⟩
          · cases h
          · cases h
            exact .inl ⟨rfl, _, t.sm s4, rfl⟩
        · cases h
      · rcases hsq with ⟨h, _⟩ | ⟨r1, h, t⟩
        · cases h
        · cases h
          rcases hpu with ⟨h, rfl⟩ | ⟨r1, h, _⟩
          · exact .inr (.inl ⟨rfl, _, t.sm s4, ok.even _ (List.mem_cons_self ..) rfl, rfl⟩)
          · cases h
      · rcases hsq with ⟨h, _⟩ | ⟨r1, h, t⟩
        · cases h
        · cases h
          rcases hpu with ⟨h, rfl⟩ | ⟨r2, h, t2⟩
          · cases h
          · cases h
            exact .inr (.inr ⟨_, _, t2.sm s4, t.sm s4, ok.even _ (List.mem_cons_of_mem _ (List.mem_cons_self ..)) rfl, rfl⟩)
    exact ⟨x, dx, sq, pu, n, ws, rfl, upd_same, fin, fun H5 k5 p5 => ⟨rfl, q H5 _ (s3.trans (make_same hx hdx k5)) p5⟩⟩
end
end J
/-! The law's table: the lifted map at the places of one lap. -/
namespace JM
theorem lift_here {n : Int} {rows : List Rw} (R : RowsOk n rows) {x : Int} (h0 : 0 ≤ x) (h1 : x < n) {i : Nat} (hi : i < rows.length) (a : rows[i].1 ≤ x) (b : ∀ j (hj : j < rows.length), i < j → x < rows[j].1) :
    lift n rows x = rows[i].1 + (rows[i].2 - rows[i].1) % n := by
  have lo := R.lo
  have bi := R.inb _ (List.getElem_mem hi)
  refine lift_eq R ⟨rows[i], List.getElem_mem hi, 0, by omega, by omega, fun q hq j hj => ?_⟩
  obtain ⟨m, hm, rfl⟩ := List.getElem_of_mem hq
  have bq := R.inb _ (List.getElem_mem hm)
  rcases Int.lt_trichotomy j 0 with c | c | c
  · have := mul_step (n := n) (by omega) (show j ≤ -1 by omega)
    omega
  · subst c
    rcases Nat.lt_trichotomy m i with d | d | d
    · have := List.pairwise_iff_getElem.mp R.inc m i hm hi d
      omega
    · subst d
      omega
    · have := b m hm d
      omega
  · have := mul_step (n := n) (by omega) (show 1 ≤ j by omega)
    omega
theorem lift_wrap {n : Int} {rows : List Rw} (R : RowsOk n rows) {x : Int} (h0 : 0 ≤ x) (h1 : x < n) {i : Nat} (hi : i < rows.length) (hl : i + 1 = rows.length) (b : ∀ j (hj : j < rows.length), x < rows[j].1) :
    lift n rows x = rows[i].1 - n + (rows[i].2 - rows[i].1) % n := by
  have lo := R.lo
  have bi := R.inb _ (List.getElem_mem hi)
  refine lift_eq R ⟨rows[i], List.getElem_mem hi, -1, by omega, by omega, fun q hq j hj => ?_⟩
  obtain ⟨m, hm, rfl⟩ := List.getElem_of_mem hq
  have bq := R.inb _ (List.getElem_mem hm)
  have bm := b m hm
  rcases Int.lt_trichotomy j (-1) with c | c | c
  · have := mul_step (n := n) (by omega) (show j ≤ -2 by omega)
    omega
  · subst c
    rcases Nat.lt_or_ge m i with d | d
    · have := List.pairwise_iff_getElem.mp R.inc m i hm hi d
      omega
    · have e : m = i := by omega
      subst e
      omega
  · have := mul_step (n := n) (by omega) (show 0 ≤ j by omega)
    omega
def tblOf (n : Int) (rows : List Rw) : List Int := (List.range n.toNat).map fun (x : Nat) => lift n rows x
theorem tbl_len {n : Int} {rows : List Rw} (h : 0 ≤ n) : ((tblOf n rows).length : Int) = n := by
  unfold tblOf
  rw [List.length_map, List.length_range]
  omega
theorem tbl_at {n : Int} {rows : List Rw} {x : Int} (h0 : 0 ≤ x) (h1 : x < n) : (tblOf n rows)[x.toNat]? = some (lift n rows x) := by
  unfold tblOf
  rw [List.getElem?_map, List.getElem?_range (by omega)]
  show some (lift n rows ((x.toNat : Nat) : Int)) = _
  rw [show ((x.toNat : Nat) : Int) = x by omega]
theorem lift_far {n : Int} {rows : List Rw} (R : RowsOk n rows) (x : Int) : lift n rows (x % n) + x / n * n = lift n rows x := by
  have := (lift_pd R).mul (x / n) (x % n)
  rw [← this]
  congr 1
  have := ediv_split x n
  omega
theorem pd_iff {n s : Int} {rows : List Rw} (R : RowsOk n rows) : Pd (lift n rows) s ↔ ∀ x : Nat, (x : Int) < n → lift n rows ((x : Int) + s) = lift n rows x + s := by
  constructor
  · exact fun h x _ => h x
  · intro h x
    have lo := R.lo
    have e0 : 0 ≤ x % n := Int.emod_nonneg _ (by omega)
    have e1 : x % n < n := Int.emod_lt_of_pos _ (by omega)
    have h1 := h (x % n).toNat (by omega)
    rw [show (((x % n).toNat : Nat) : Int) = x % n by omega] at h1
    have h2 := (lift_pd R).mul (x / n) (x % n + s)
    have h3 := (lift_pd R).mul (x / n) (x % n)
    have e := ediv_split x n
    rw [show x % n + s + x / n * n = x + s by omega] at h2
    rw [show x % n + x / n * n = x by omega] at h3
    omega
end JM
/-! The law's tables. -/
namespace J
open PySem PySem.Spec PyProof.Rows L2
def sp__law_table : Sp := fun vs H Q _ => ∃ (v : V) (n : Int) (rows : List Row), vs = [v, .int n] ∧ LAt eRow H v rows ∧ JM.RowsOk n rows ∧ ∀ H' p, H p = none → Same H H' → LAt PyData.int H' (.ref p) (JM.tblOf n rows) → Q (.ref p) H'
def sp__law_lift : Sp := fun vs H Q _ => ∃ (v : V) (n x : Int) (rows : List Row), vs = [v, .int x] ∧ LAt PyData.int H v (JM.tblOf n rows) ∧ JM.RowsOk n rows ∧ Q (.int (JM.lift n rows x)) H
theorem LAt.ints {H : Hp} {v : V} {ns : List Int} (h : LAt PyData.int H v ns) : ∃ a, v = .ref a ∧ H a = some (.lst (ns.map V.int)) := by
  obtain ⟨a, us, e, h1, h2⟩ := h
  rw [sda_ints h2] at h1
  exact ⟨a, e, h1⟩
theorem LAt.of_ints {H : Hp} {a : Addr} {ns : List Int} (h : H a = some (.lst (ns.map V.int))) : LAt PyData.int H (.ref a) ns := ⟨a, _, rfl, h, sda_of_ints ns⟩
theorem ints_at {ns : List Int} {i : Nat} {x : Int} (h : ns[i]? = some x) : (ns.map V.int)[i]? = some (.int x) := by rw [List.getElem?_map, h]; rfl
theorem atI_m1 {α : Type} {xs : List α} {v : α} (h : xs[xs.length - 1]? = some v) : atI xs (-1) = some v := by
  have hl := (List.getElem?_eq_some_iff.mp h).1
  unfold atI ixN
  rw [if_neg (by decide), if_pos (by omega)]
  show xs[((xs.length : Int) + -1).toNat]? = some v
  rw [show ((xs.length : Int) + -1).toNat = xs.length - 1 by omega]
  exact h
section
variable {P : Program} {w : World} {K : PySem.W.Frag} {mg : Str → Option Value} {base : Heap}
theorem sc__law_table : FnScope ["_law_pairs", "_law_around", "_law_table_here", "_law_at", "_law_place", "_law_begin"] ["_law_pairs", "_law_around"] (defScope s__law_table) := ⟨rfl, rfl, rfl, by decide +kernel, rfl, by decide +kernel, by decide +kernel⟩
-- slots: 0 _law_pairs, 1 _law_around, 2 _law_table_here, 3 _law_at, 4 _law_place, 5 _law_begin
theorem ok__law_table (T : Wd K mg) : FnOk P w K mg base CX0 1 T._law_table.f T._law_table.fd ["_law_pairs", "_law_around"] sp__law_table := by
  refine T._law_table.F.ok sc__law_table (fun vs H Q E h => ?_) (fun cdv A outer s H vs Q E hr h => ?_)
  · obtain ⟨v, n, rows, rfl, _⟩ := h
    rfl
  · obtain ⟨v, n, rows, rfl, hv, R, q⟩ := h
    obtain ⟨a, us, rfl, ha, hu⟩ := hv
    refine ⟨_, PSs.nox (pss_cons (ps_set (i := 2) sc__law_table.nd rfl (.inl rfl) (pe_lst pa_nil))
      (pss_cons (ps_set (i := 3) sc__law_table.nd rfl (.inl rfl) (pe_un un_neg pe_int))
      (pss_cons (ps_for PassesOwn.never rfl (pi_range1 (by rfl) T.n_range (pa_cons (pv 1) pa_nil)) (pg_name (i := 4) sc__law_table.nd rfl (.inl rfl))
        (C8.pss_cut (ps_if (PW.pt (pw_and (pt_cmpR op_lt (pe_op op_add (pv 3) pe_int) (pe_callB call_len_seq (by rfl) T.n_len (by decide +kernel) (pa_cons (pv 0) pa_nil)) (nomark _)) (pw_and1 (pt_cmpR op_eq (pe_ix ix_tup (pe_ix ix_list (pv 0) (pe_op op_add (pv 3) pe_int) (fun _ _ => rfl)) pe_int (fun _ _ => rfl)) (pv 4) (nomark _)))))
            (pss_one (ps_set (i := 3) sc__law_table.nd rfl (.inl rfl) (pe_op op_add (pv 3) pe_int)))
            pss_nil)
          (pss_cons (ps_set (i := 5) sc__law_table.nd rfl (.inl rfl) (pe_ix ix_tup (pe_ix ix_list (pv 0) (pv 3) (fun _ _ => rfl)) pe_int (fun _ _ => rfl)))
          (C8.pss_cut (ps_if (pt_cmpR op_lt (pv 3) pe_int (nomark _))
            (pss_one (ps_set (i := 5) sc__law_table.nd rfl (.inl rfl) (pe_op op_sub (pv 5) (pv 1))))
            pss_nil)
          (pss_one (ps_expr (pe_bm PySem.F.plainAttrs_list PySem.F.slot_list_append PySem.F.type_list_append mt_append (pv 2) (pa_cons (pe_op op_add (pv 5) (pe_op op_mod (pe_op op_sub (pe_ix ix_tup (pe_ix ix_list (pv 0) (pv 3) (fun _ _ => rfl)) pe_int (fun _ _ => rfl)) (pe_ix ix_tup (pe_ix ix_list (pv 0) (pv 3) (fun _ _ => rfl)) pe_int (fun _ _ => rfl))) (pv 1))) pa_nil))))))))
      (pss_one (ps_ret (pv 2))))))
, ?_⟩
    have lo := R.lo
    have hi := R.hi
    have hl : us.length = rows.length := sda_len hu
    have l1 : 0 < rows.length := List.length_pos_iff.mpr R.ne
    refine ⟨Nat.zero_le _, fun D hD => ?_⟩
    refine ⟨1, rfl, ?_⟩
    refine ⟨_, rfl, n, rfl, by omega, by omega, ?_⟩
    have naD : a ≠ D := ne_of_none ha hD
    refine for_it walk_range (fun (k : Nat) (σ : L2.St) (H' : Hp) => Same H H' ∧ H' D = some (.lst (((List.range k).map fun (x : Nat) => JM.lift n rows x).map V.int)) ∧ ∃ (at_ : Int) (x4 x5 : Option V), -1 ≤ at_ ∧ at_ < rows.length ∧ (∀ i (h : i < rows.length), (i : Int) ≤ at_ ↔ rows[i].1 < k) ∧ σ = [some (.ref a), some (.int n), some (.ref D), some (.int at_), x4, x5]) ⟨same_new' hD, upd_same, -1, _, _, by omega, by omega, fun i h => ?_, rfl⟩ (fun k σ H' _ p => trivial) (fun k v σ H2 H3 hk p y => ?_) fun σ H2 p => ?_
    · have := R.inb _ (List.getElem_mem h)
      omega
    · obtain ⟨s2, hD2, at_, x4, x5, a0, a1, hat, rfl⟩ := p
      obtain ⟨rfl, rfl⟩ := y
      have z0 : (0 + (k : Int)) = k := by omega
      have kn : (k : Int) < n := by omega
      have ha2 := s2 _ _ ha
      have hu2 : SdAll H3 us (rows.map eRow) := hu.sm s2
      have row : ∀ (i : Nat) (h : i < rows.length), ∃ t, us[i]? = some (.ref t) ∧ H3 t = some (.tup [.int rows[i].1, .int rows[i].2]) := fun i h => by
        obtain ⟨u, e1, e2⟩ := hu2.at (i := i) (d := eRow rows[i]) (by rw [List.getElem?_map, List.getElem?_eq_getElem h]; rfl)
        obtain ⟨t, rfl, ht⟩ := sd_row e2
        exact ⟨t, e1, ht⟩
      refine ⟨fun σ H' => H' = H3 ∧ ∃ b : Int, -1 ≤ b ∧ b < rows.length ∧ (∀ i (h : i < rows.length), (i : Int) ≤ b ↔ rows[i].1 < ((k + 1 : Nat) : Int)) ∧ σ = [some (.ref a), some (.int n), some (.ref D), some (.int b), some (.int (0 + (k : Int))), x5], ?_, fun σ' H' hM => ?_⟩
      · have stay : (∀ h : (at_ + 1).toNat < rows.length, rows[(at_ + 1).toNat].1 ≠ k) → ∀ i (h : i < rows.length), (i : Int) ≤ at_ ↔ rows[i].1 < ((k + 1 : Nat) : Int) := fun hne i h => by
          have h1 := hat i h
          constructor
          · intro c
            have := h1.mp c
            omega
          · intro c
            rw [h1]
            by_cases hk2 : rows[i].1 = k
            · exfalso
              have hi2 : ¬ (i : Int) ≤ at_ := fun z => by
                have := h1.mp z
                omega
              have hlt : (at_ + 1).toNat < rows.length := by omega
              rcases Nat.eq_or_lt_of_le (show (at_ + 1).toNat ≤ i by omega) with e | e
              · subst e
                exact hne h hk2
              · have := List.pairwise_iff_getElem.mp R.inc _ _ hlt h e
                have h3 := hat _ hlt
                have : ¬ (((at_ + 1).toNat : Nat) : Int) ≤ at_ := by omega
                rw [h3] at this
                omega
            · omega
        refine ⟨_, rfl, at_, 1, rfl, rfl, _, rfl, a, us, rfl, .inl (SqL.of ha2), _, _, rfl, rfl, _, rfl, ite2 (fun c => ?_) fun c => ?_⟩
        · have c1 : at_ + 1 < rows.length := by
            have := of_decide_eq_true c
            omega
          obtain ⟨t, e1, ht⟩ := row (at_ + 1).toNat (by omega)
          have hat1 : atI us (at_ + 1) = some (.ref t) := by
            have := atI_nat e1
            rwa [show (((at_ + 1).toNat : Nat) : Int) = at_ + 1 by omega] at this
          refine ⟨_, rfl, _, rfl, _, 1, rfl, rfl, a, us, _, _, rfl, rfl, SqL.of ha2, hat1, t, _, 0, _, rfl, rfl, SqT.of ht, rfl, _, rfl, rfl, _, rfl, ite2 (fun c2 => ?_) fun c2 => ?_⟩
          · have e2 : rows[(at_ + 1).toNat].1 = 0 + (k : Int) := V.int.inj (of_decide_eq_true c2)
            refine ⟨_, rfl, _, 1, rfl, rfl, rfl, at_ + 1, by omega, by omega, fun i h => ?_, rfl⟩
            have h1 := hat i h
            have hlt : (at_ + 1).toNat < rows.length := by omega
            constructor
            · intro c
              rcases Nat.eq_or_lt_of_le (show i ≤ (at_ + 1).toNat by omega) with e | e
              · subst e
                omega
              · have := List.pairwise_iff_getElem.mp R.inc _ _ h hlt e
                omega
            · intro c
              rcases Nat.lt_or_ge (at_ + 1).toNat i with e | e
              · have := List.pairwise_iff_getElem.mp R.inc _ _ hlt h e
                omega
              · omega
          · refine ⟨rfl, at_, a0, a1, stay fun h e => c2 (decide_eq_true (by rw [e]; show V.int k = V.int (0 + k); rw [z0])), rfl⟩
        · refine ⟨rfl, at_, a0, a1, stay fun h e => c (decide_eq_true (by omega)), rfl⟩
      · obtain ⟨rfl, b, b0, b1, hb, rfl⟩ := hM
        have fin : ∀ (y : Int), y = JM.lift n rows k → Same H (upd H' D (.lst (((List.range k).map fun (x : Nat) => JM.lift n rows x).map V.int ++ [.int y]))) ∧ (upd H' D (.lst (((List.range k).map fun (x : Nat) => JM.lift n rows x).map V.int ++ [.int y]))) D = some (.lst (((List.range (k + 1)).map fun (x : Nat) => JM.lift n rows x).map V.int)) := fun y e => by
          refine ⟨same_updN s2 hD, ?_⟩
          rw [upd_same, List.range_succ, List.map_append, List.map_append, e]
          rfl
        have big : (((List.range k).map fun (x : Nat) => JM.lift n rows x).map V.int).length < sizeLine := by
          rw [List.length_map, List.length_map, List.length_range]
          exact Nat.lt_of_le_of_lt (m := 360) (by omega) (by decide)
        have pick : ∃ j, ∃ h : j < rows.length, ∃ t, atI us b = some (.ref t) ∧ H' t = some (.tup [.int rows[j].1, .int rows[j].2]) ∧ (if b < 0 then rows[j].1 - n else rows[j].1) + (rows[j].2 - rows[j].1) % n = JM.lift n rows k := by
          rcases Int.lt_or_le b 0 with c | c
          · have hlt : rows.length - 1 < rows.length := by omega
            obtain ⟨t, e1, ht⟩ := row (rows.length - 1) hlt
            have eb : b = -1 := by omega
            refine ⟨_, hlt, t, by rw [eb]; exact atI_m1 (by rw [hl]; exact e1), ht, ?_⟩
            rw [if_pos c, JM.lift_wrap R (by omega) kn hlt (by omega) fun j hj => by
              have := hb j hj
              omega]
          · have hlt : b.toNat < rows.length := by omega
            obtain ⟨t, e1, ht⟩ := row b.toNat hlt
            refine ⟨_, hlt, t, ?_, ht, ?_⟩
            · have := atI_nat e1
              rwa [show ((b.toNat : Nat) : Int) = b by omega] at this
            · rw [if_neg (by omega), JM.lift_here R (by omega) kn hlt (by have := hb _ hlt; omega) fun j hj hbj => by
                have := hb j hj
                omega]
        obtain ⟨j, hj, t, hat1, ht, hval⟩ := pick
        refine ⟨_, rfl, _, rfl, a, us, _, _, rfl, rfl, SqL.of ha2, hat1, t, _, 0, _, rfl, rfl, SqT.of ht, rfl, ?_⟩
        refine ⟨fun σ H5 => H5 = H' ∧ σ = [some (.ref a), some (.int n), some (.ref D), some (.int b), some (.int (0 + (k : Int))), some (.int (if b < 0 then rows[j].1 - n else rows[j].1))], ?_, fun σ5 H5 hM => ?_⟩
        · refine ⟨_, rfl, _, 0, rfl, rfl, _, rfl, ite2 (fun c => ?_) fun c => ?_⟩
          · rw [if_pos (of_decide_eq_true c)]
            exact ⟨_, rfl, _, rfl, _, _, rfl, rfl, rfl, rfl⟩
          · rw [if_neg fun z => c (decide_eq_true z)]
            exact ⟨rfl, rfl⟩
        · obtain ⟨rfl, rfl⟩ := hM
          refine ⟨_, rfl, .inl ⟨rfl, _, SqL.of hD2⟩, _, rfl, _, rfl, _, rfl, a, us, _, _, rfl, rfl, SqL.of ha2, hat1, t, _, 1, _, rfl, rfl, SqT.of ht, rfl, _, rfl, _, rfl, a, us, _, _, rfl, rfl, SqL.of ha2, hat1, t, _, 0, _, rfl, rfl, SqT.of ht, rfl, _, _, rfl, rfl, _, rfl, _, n, rfl, rfl, (by show 0 < n; omega), _, _, rfl, rfl, D, _, _, rfl, rfl, hD2, big, ?_⟩
          have z := fin _ hval
          exact ⟨z.1, z.2, b, _, _, b0, b1, hb, rfl⟩
    · obtain ⟨s2, hD2, at_, x4, x5, a0, a1, hat, rfl⟩ := p
      exact ⟨_, rfl, q H2 D hD s2 (LAt.of_ints hD2)⟩
theorem sc__law_lift : FnScope ["_law_table_here", "_law_x", "_law_around"] ["_law_table_here", "_law_x"] (defScope s__law_lift) := ⟨rfl, rfl, rfl, by decide +kernel, rfl, by decide +kernel, by decide +kernel⟩
-- slots: 0 _law_table_here, 1 _law_x, 2 _law_around
theorem ok__law_lift (T : Wd K mg) : FnOk P w K mg base CX0 1 T._law_lift.f T._law_lift.fd ["_law_table_here", "_law_x"] sp__law_lift := by
  refine T._law_lift.F.ok sc__law_lift (fun vs H Q E h => ?_) (fun cdv A outer s H vs Q E hr h => ?_)
  · obtain ⟨v, n, x, rows, rfl, _⟩ := h
    rfl
  · obtain ⟨v, n, x, rows, rfl, hv, R, q⟩ := h
    obtain ⟨a, rfl, ha⟩ := hv.ints
    refine ⟨_, PSs.nox (pss_cons (ps_set (i := 2) sc__law_lift.nd rfl (.inl rfl) (pe_callB call_len_seq (by rfl) T.n_len (by decide +kernel) (pa_cons (pv 0) pa_nil)))
      (pss_one (ps_ret (pe_op op_add (pe_ix ix_list (pv 0) (pe_op op_mod (pe_callTy call_int1 (by rfl) T.n_int (by decide +kernel) (pa_cons (pv 1) pa_nil)) (pv 2)) (fun _ _ => rfl)) (pe_op op_mul (pe_op op_fdiv (pv 1) (pv 2)) (pv 2))))))
, ?_⟩
    have lo := R.lo
    have hi := R.hi
    have hl := JM.tbl_len (rows := rows) (show 0 ≤ n by omega)
    have e0 : 0 ≤ x % n := Int.emod_nonneg _ (by omega)
    have e1 : x % n < n := Int.emod_lt_of_pos _ (by omega)
    have hat : atI ((JM.tblOf n rows).map V.int) (x % n) = some (.int (JM.lift n rows (x % n))) := by
      have := atI_nat (ints_at (JM.tbl_at (rows := rows) e0 e1))
      rwa [show (((x % n).toNat : Nat) : Int) = x % n by omega] at this
    have hlen : ((((JM.tblOf n rows).map V.int).length : Nat) : Int) = n := by rw [List.length_map]; exact hl
    refine ⟨_, rfl, a, _, rfl, .inl (SqL.of ha), ?_⟩
    rw [hlen]
    refine ⟨_, rfl, _, rfl, .inl ⟨_, rfl, _, rfl, x, n, rfl, rfl, (by show 0 < n; omega), a, _, _, _, rfl, rfl, SqL.of ha, hat, ?_⟩⟩
    refine ⟨_, rfl, _, rfl, x, n, rfl, rfl, ⟨by omega, by omega⟩, _, rfl, x / n, n, rfl, rfl, .inr (by omega), _, _, rfl, rfl, ?_⟩
    show Q (.int (JM.lift n rows (x % n) + x / n * n)) H
    rw [JM.lift_far R]
    exact q
end
end J
/-! The law's model. -/
namespace J
open PySem PySem.Spec PyProof.Rows L2
def rowsOf (ws : List (PySem.Str × List Row)) (x : PySem.Str) : List Row := (JM.look ws x).getD []
theorem rowsOf_mem {n : Int} {ws : List (PySem.Str × List Row)} (h : WsOk n ws) {p : PySem.Str × List Row} (m : p ∈ ws) : rowsOf ws p.1 = p.2 := woOf_rows (span := 0) h m
theorem rowsOf_ok {n : Int} {ws : List (PySem.Str × List Row)} (h : WsOk n ws) {x : PySem.Str} (m : x ∈ ws.map (·.1)) : JM.RowsOk n (rowsOf ws x) := by
  obtain ⟨p, hp, rfl⟩ := List.mem_map.mp m
  rw [rowsOf_mem h hp]
  exact h.rows p hp
def tabsOf (n : Int) (ws : List (PySem.Str × List Row)) (ks : List PySem.Str) : List (PySem.Str × List Int) := ks.map fun x => (x, JM.tblOf n (rowsOf ws x))
def TablesAt (H : Hp) (v : V) (n : Int) (ws : List (PySem.Str × List Row)) : Prop := ∃ ks : List PySem.Str, ks.Perm (ws.map (·.1)) ∧ DAt (LAt PyData.int) H v (tabsOf n ws ks)
def sp__law_keeps : Sp := fun vs H Q _ => ∃ (v : V) (n s : Int) (ws : List (PySem.Str × List Row)), vs = [v, .int s] ∧ TablesAt H v n ws ∧ WsOk n ws ∧ ∀ H' b, Same H H' → (b = true ↔ JM.AllPd (fun w : PySem.Str × List Row => JM.lift n w.2) ws s) → Q (.bl b) H'
theorem tabs_at {n : Int} {ws : List (PySem.Str × List Row)} {ks : List PySem.Str} {i : Nat} {x : PySem.Str} {b : List Int} (h : (tabsOf n ws ks)[i]? = some (x, b)) : ks[i]? = some x ∧ b = JM.tblOf n (rowsOf ws x) := by
  unfold tabsOf at h
  rw [List.getElem?_map] at h
  cases e : ks[i]? with
  | none => rw [e] at h; cases h
  | some y => rw [e] at h; cases h; exact ⟨rfl, rfl⟩
theorem tabs_look {n : Int} {ws : List (PySem.Str × List Row)} {ks : List PySem.Str} {x : PySem.Str} (h : x ∈ ks) : JM.look (tabsOf n ws ks) x = some (JM.tblOf n (rowsOf ws x)) := by
  unfold tabsOf
  induction ks with
  | nil => cases h
  | cons y r ih =>
    rw [List.map_cons, JM.look_cons]
    by_cases c : y = x
    · rw [if_pos c, c]
    · rw [if_neg c]
      rcases List.mem_cons.mp h with e | e
      · exact absurd e.symm c
      · exact ih e
def sp__law_tables : Sp := fun vs H Q _ => ∃ (v : V) (n : Int) (ws : List (PySem.Str × List Row)), vs = [v, .int n] ∧ DAt (LAt eRow) H v ws ∧ WsOk n ws ∧ ∀ H' p, H p = none → Same H H' → TablesAt H' (.ref p) n ws → Q (.ref p) H'
def sp__law_span : Sp := fun vs H Q _ => ∃ (v : V) (n : Int) (ws : List (PySem.Str × List Row)), vs = [v, .int n] ∧ TablesAt H v n ws ∧ WsOk n ws ∧ ∀ H' span, Same H H' → SpanIs n ws span → Q (.int span) H'
theorem TablesAt.sm {H H' : Hp} {v : V} {n : Int} {ws : List (PySem.Str × List Row)} (k : Same H H') (h : TablesAt H v n ws) : TablesAt H' v n ws := by
  obtain ⟨ks, p, h⟩ := h
  exact ⟨ks, p, h.sm (fun _ _ h => h.sm k) k⟩
def restsL (n span : Int) (ws : List (PySem.Str × List Row)) (ks : List PySem.Str) : List (PySem.Str × List Int) := ks.map fun x => (x, (woOf n span ws).R x)
/-- the law's own model of a part -/
def ModelAt (H : Hp) (v : V) (n span : Int) (ws : List (PySem.Str × List Row)) : Prop := ∃ (m : Addr) (td rd : V) (ks : List PySem.Str), v = .ref m ∧ H m = some (.dK [(.inr "around", .int n), (.inr "span", .int span), (.inr "tables", td), (.inr "rests", rd)]) ∧
  ks.Perm (ws.map (·.1)) ∧ DAt (LAt PyData.int) H td (tabsOf n ws ks) ∧ DAt (LAt PyData.int) H rd (restsL n span ws ks)
def sp__law_model : Sp := fun vs H Q _ => ∃ (v : V) (n : Int) (ws : List (PySem.Str × List Row)), vs = [v, .int n] ∧ DAt (LAt eRow) H v ws ∧ WsOk n ws ∧ ∀ H' p span, Same H H' → ModelAt H' p n span ws → SpanIs n ws span → Q p H'
section
variable {P : Program} {w : World} {K : PySem.W.Frag} {mg : Str → Option Value} {base : Heap}
theorem sc__law_keeps : FnScope ["_law_tables_here", "_law_span_here", "_law_word", "_law_table_here", "_law_x"] ["_law_tables_here", "_law_span_here"] (defScope s__law_keeps) := ⟨rfl, rfl, rfl, by decide +kernel, rfl, by decide +kernel, by decide +kernel⟩
-- slots: 0 _law_tables_here, 1 _law_span_here, 2 _law_word, 3 _law_table_here, 4 _law_x
theorem ok__law_keeps (T : Wd K mg) : FnOk P w K mg base CX0 2 T._law_keeps.f T._law_keeps.fd ["_law_tables_here", "_law_span_here"] sp__law_keeps := by
  have G__law_lift := ok__law_lift (P := P) (w := w) (base := base) T
  refine T._law_keeps.F.ok sc__law_keeps (fun vs H Q E h => ?_) (fun cdv A outer s H vs Q E hr h => ?_)
  · obtain ⟨v, n, s, ws, rfl, _⟩ := h
    rfl
  · obtain ⟨v, n, sh, ws, rfl, hv, ok, q⟩ := h
    obtain ⟨ks, perm, d, kvs, rfl, hd, hk⟩ := hv
    refine ⟨_, PSs.nox (pss_cons (ps_lock (ps_for PassesOwn.never rfl (pi_keys (pv 0)) (pg_name (i := 2) sc__law_keeps.nd rfl (.inl rfl))
        (pss_cons (ps_set (i := 3) sc__law_keeps.nd rfl (.inl rfl) (pe_dget (hu_of hr) (pv 0) (pv 2) (fun _ _ => rfl)))
          (pss_one (ps_for PassesOwn.never rfl (pi_range1 (by rfl) T.n_range (pa_cons (pe_callB call_len_seq (by rfl) T.n_len (by decide +kernel) (pa_cons (pv 3) pa_nil)) pa_nil)) (pg_name (i := 4) sc__law_keeps.nd rfl (.inl rfl))
          (pss_one (ps_if (pt_cmpR op_ne (pe_call G__law_lift (hr.mono (by decide)) (by rfl) T._law_lift.g T._law_lift.F.kp T._law_lift.b .nil pass0 (pa_cons (pv 3) (pa_cons (pe_op op_add (pv 4) (pv 1)) pa_nil))) (pe_op op_add (pe_ix ix_list (pv 3) (pv 4) (fun _ _ => rfl)) (pv 1)) (nomark _))
            (pss_one (ps_ret pe_bl))
            pss_nil)))))))
      (pss_one (ps_ret pe_bl)))
, ?_⟩
    have lo := ok.lo
    have hi := ok.hi
    have hlen : kvs.length = ks.length := by
      have := hk.len
      rw [this, tabsOf, List.length_map]
    refine ⟨d, .dK kvs, hd, trivial, fun od => ?_⟩
    refine ⟨_, rfl, d, od, rfl, .inl ⟨kvs, upd_same, ?_⟩⟩
    have k1 : Same (upd H d (.frz od (.dK kvs))) (upd H d (.frz od (.dK kvs))) := Same.refl _
    have bk := same_lock hd k1
    have tb : ∀ {v : V} {l : List Int}, LAt PyData.int H v l → LAt PyData.int (upd H d (.frz od (.dK kvs))) v l := fun h => LAt.kx hd (fun _ z => nomatch z) (fun _ z => nomatch z) samex_upd h
    refine for_it walk_keys (fun (i : Nat) (σ : L2.St) (H' : Hp) => H' = upd H d (.frz od (.dK kvs)) ∧ (∀ j x, j < i → ks[j]? = some x → JM.Pd (JM.lift n (rowsOf ws x)) sh) ∧ ∃ x2 x3 x4, σ = [some (.ref d), some (.int sh), x2, x3, x4]) ⟨rfl, (fun _ _ h => absurd h (Nat.not_lt_zero _)), _, _, _, rfl⟩ (fun i σ H' _ p => by rw [p.1]; exact upd_same) (fun i x' σ H2 H3 hi p y => ?_) fun σ H2 p => ?_
    · obtain ⟨rfl, hall, x2, x3, x4, rfl⟩ := p
      obtain ⟨rfl, k, v, e2, rfl⟩ := y
      obtain ⟨x, b, e3, rfl, hv⟩ := hk.at e2
      obtain ⟨e4, rfl⟩ := tabs_at e3
      have hx : x ∈ ws.map (·.1) := perm.mem_iff.mp (List.mem_of_getElem? e4)
      have R := rowsOf_ok ok hx
      obtain ⟨u, hg, hv⟩ := hk.get (tabs_look (n := n) (ws := ws) (List.mem_of_getElem? e4))
      have hvt := tb hv
      obtain ⟨a, rfl, ha⟩ := hvt.ints
      refine ⟨_, rfl, _, rfl, d, _, rfl, .inl ⟨kvs, .inr x, .inr ⟨od, upd_same⟩, rfl, hg.symm⟩, ?_⟩
      have hl := JM.tbl_len (rows := rowsOf ws x) (show 0 ≤ n by omega)
      have hlen2 : ((((JM.tblOf n (rowsOf ws x)).map V.int).length : Nat) : Int) = n := by rw [List.length_map]; exact hl
      refine ⟨_, rfl, a, _, rfl, .inl (SqL.of ha), ?_⟩
      rw [hlen2]
      refine ⟨n, rfl, by omega, by omega, ?_⟩
      refine for_it walk_range (fun (j : Nat) (σ : L2.St) (H' : Hp) => H' = upd H d (.frz od (.dK kvs)) ∧ (∀ m : Nat, m < j → JM.lift n (rowsOf ws x) ((m : Int) + sh) = JM.lift n (rowsOf ws x) m + sh) ∧ ∃ x4, σ = [some (.ref d), some (.int sh), some (.str x), some (.ref a), x4]) ⟨rfl, (fun _ h => absurd h (Nat.not_lt_zero _)), _, rfl⟩ (fun i σ H' _ p => trivial) (fun j x' σ H4 H5 hj p y => ?_) fun σ H4 p => ?_
      · obtain ⟨rfl, hm, x4', rfl⟩ := p
        obtain ⟨rfl, rfl⟩ := y
        have z0 : (0 + (j : Int)) = j := by omega
        have hat : atI ((JM.tblOf n (rowsOf ws x)).map V.int) (0 + (j : Int)) = some (.int (JM.lift n (rowsOf ws x) j)) := by
          have := atI_nat (ints_at (JM.tbl_at (rows := rowsOf ws x) (show (0 : Int) ≤ j by omega) (show (j : Int) < n by omega)))
          rwa [show ((((j : Int).toNat : Nat)) : Int) = 0 + (j : Int) by omega] at this
        refine ⟨_, rfl, _, rfl, _, rfl, _, _, rfl, rfl, .ref a, n, 0 + (j : Int) + sh, _, rfl, hvt, R, ?_⟩
        refine ⟨_, rfl, _, rfl, a, _, _, _, rfl, rfl, SqL.of ha, hat, _, rfl, _, _, rfl, rfl, rfl, _, rfl, ?_⟩
        rw [z0]
        refine ite2 (fun c => ?_) fun c => ?_
        · have ne : ¬ JM.lift n (rowsOf ws x) (j + sh) = JM.lift n (rowsOf ws x) j + sh := fun e => by
            rw [e] at c
            simp at c
          refine ⟨upd_same, q _ false bk ⟨(nomatch ·), fun hp => absurd ?_ ne⟩⟩
          obtain ⟨p, hp2, e⟩ := List.mem_map.mp hx
          have : JM.lift n p.2 (j + sh) = JM.lift n p.2 j + sh := hp p hp2 j
          rw [← rowsOf_mem ok hp2, e] at this
          exact this
        · have ee : JM.lift n (rowsOf ws x) (j + sh) = JM.lift n (rowsOf ws x) j + sh := Decidable.byContradiction fun e => c (by
            simp
            exact e)
          refine ⟨rfl, fun m hm' => ?_, _, rfl⟩
          rcases Nat.lt_succ_iff_lt_or_eq.mp hm' with h | h
          · exact hm m h
          · subst h
            exact ee
      · obtain ⟨rfl, hm, x4', rfl⟩ := p
        refine ⟨rfl, fun j y hj hy => ?_, _, _, _, rfl⟩
        rcases Nat.lt_succ_iff_lt_or_eq.mp hj with h | h
        · exact hall j y h hy
        · subst h
          rw [e4] at hy
          cases hy
          exact (JM.pd_iff R).mpr fun m hm2 => hm m (by omega)
    · obtain ⟨rfl, hall, x2, x3, x4, rfl⟩ := p
      refine ⟨upd_same, q _ true bk ⟨fun _ p hp => ?_, fun _ => rfl⟩⟩
      obtain ⟨j, hj, e⟩ := List.getElem_of_mem (perm.mem_iff.mpr (List.mem_map.mpr ⟨p, hp, rfl⟩))
      have := hall j p.1 (by omega) (by rw [List.getElem?_eq_getElem hj, e])
      rw [rowsOf_mem ok hp] at this
      exact this
theorem sc__law_tables : FnScope ["_law_pairs", "_law_around", "_law_tables_here", "_law_word"] ["_law_pairs", "_law_around"] (defScope s__law_tables) := ⟨rfl, rfl, rfl, by decide +kernel, rfl, by decide +kernel, by decide +kernel⟩
-- slots: 0 _law_pairs, 1 _law_around, 2 _law_tables_here, 3 _law_word
theorem ok__law_tables (T : Wd K mg) : FnOk P w K mg base CX0 2 T._law_tables.f T._law_tables.fd ["_law_pairs", "_law_around"] sp__law_tables := by
  have G__law_table := ok__law_table (P := P) (w := w) (base := base) T
  refine T._law_tables.F.ok sc__law_tables (fun vs H Q E h => ?_) (fun cdv A outer s H vs Q E hr h => ?_)
  · obtain ⟨v, n, ws, rfl, _⟩ := h
    rfl
  · obtain ⟨v, n, ws, rfl, hv, ok, q⟩ := h
    obtain ⟨d, kvs, rfl, hd, hk⟩ := hv
    refine ⟨_, PSs.nox (pss_cons (ps_set (i := 2) sc__law_tables.nd rfl (.inl rfl) pe_dnewK)
      (pss_cons (ps_for PassesOwn.never rfl (pi_list (pe_callB cr_sortedS (by rfl) T.n_sorted (by decide +kernel) (pa_cons (pe_callTy (call_list_dK rfl) (by rfl) T.n_list (by decide +kernel) (pa_cons (pv 0) pa_nil)) pa_nil))) (pg_name (i := 3) sc__law_tables.nd rfl (.inl rfl))
        (pss_one (ps_dput (hu_of hr) (pv 2) (pv 3) (pe_call G__law_table (hr.mono (by decide)) (by rfl) T._law_table.g T._law_table.F.kp T._law_table.b .nil pass0 (pa_cons (pe_dget (hu_of hr) (pv 0) (pv 3) (fun _ _ => rfl)) (pa_cons (pv 1) pa_nil))) rfl)))
      (pss_one (ps_ret (pv 2)))))
, ?_⟩
    intro D hD
    have ndD : d ≠ D := ne_of_none hd hD
    have hd1 : (upd H D (.dK [])) d = some (.dK kvs) := by rw [upd_ne ndD]; exact hd
    have hwl : ws.length ≤ 2 := by rcases ok.form with ⟨r, rfl⟩ | ⟨r, rfl⟩ | ⟨r, r', rfl⟩ <;> simp
    refine ⟨_, rfl, d, kvs, rfl, hd1, fun l hl => ⟨l, ws.map (·.1), rfl, SqL.of (by rw [upd_same, hk.keys, List.map_map]; rfl), by rw [List.length_map]; omega, fun ys p perm _ np => ?_⟩⟩
    have s2 : Same (upd H D (.dK [])) (upd (upd (upd H D (.dK [])) l (.lst (kvs.map fun kv => kV kv.1))) p (.lst (ys.map V.str))) := (same_new hl).trans (same_new np)
    have hp2 : (upd (upd (upd H D (.dK [])) l (.lst (kvs.map fun kv => kV kv.1))) p (.lst (ys.map V.str))) p = some (.lst (ys.map V.str)) := upd_same
    generalize upd (upd (upd H D (.dK [])) l (.lst (kvs.map fun kv => kV kv.1))) p (.lst (ys.map V.str)) = H2 at s2 hp2
    have hD2 := s2 _ _ (upd_same (H := H) (a := D) (o := .dK []))
    have nDp : D ≠ p := ne_of hD2 hp2 fun z => nomatch z
    have s02 : Same H H2 := (same_new hD).trans s2
    have nd : ys.Nodup := perm.nodup_iff.mpr ok.nd
    refine ⟨p, rfl, ⟨_, SqL.of hp2⟩, ?_⟩
    refine for_it walk_list (fun (k : Nat) (σ : L2.St) (H' : Hp) => Same H H' ∧ H' p = some (.lst (ys.map V.str)) ∧ (∃ kv, H' D = some (.dK kv) ∧ DkAt (LAt PyData.int H') kv (tabsOf n ws (ys.take k))) ∧ ∃ x3, σ = [some (.ref d), some (.int n), some (.ref D), x3]) ⟨s02, hp2, ⟨[], hD2, .nil⟩, _, rfl⟩ (fun k σ H' _ p => SqL.of p.2.1) (fun k x' σ H3 H4 hkl pv y => ?_) fun σ H3 pv => ?_
    · obtain ⟨s3, hp3, ⟨kv, hD3, hkv⟩, x3, rfl⟩ := pv
      obtain ⟨rfl, e2⟩ := y
      obtain ⟨x, hx, rfl⟩ := at_map e2
      have hxw : x ∈ ws.map (·.1) := perm.mem_iff.mp (List.mem_of_getElem? hx)
      obtain ⟨rows, hlk⟩ := look_of_mem hxw
      have er : rowsOf ws x = rows := by unfold rowsOf; rw [hlk]; rfl
      obtain ⟨u, hu, hL⟩ := hk.get hlk
      refine ⟨_, rfl, _, rfl, d, _, rfl, .inl ⟨kvs, .inr x, .inl (s3 _ _ hd), rfl, hu.symm⟩, _, rfl, u, n, rows, rfl, hL.sm s3, (by rw [← er]; exact rowsOf_ok ok hxw), fun H5 t nt s5 hT => ?_⟩
      have hD5 := s5 _ _ hD3
      refine ⟨_, rfl, _, rfl, D, _, rfl, .inl ⟨kv, .inr x, hD5, rfl, ?_, rfl⟩, ?_⟩
      · rw [hkv.len, tabsOf, List.length_map, List.length_take]
        have := perm.length_eq
        rw [List.length_map] at this
        exact Nat.lt_of_le_of_lt (m := 2) (by omega) (by decide)
      refine ⟨same_updN (s3.trans s5) hD, by rw [upd_ne (Ne.symm nDp)]; exact s5 _ _ hp3, ⟨_, upd_same, ?_⟩, _, rfl⟩
      have e : tabsOf n ws (ys.take (k + 1)) = tabsOf n ws (ys.take k) ++ [(x, JM.tblOf n rows)] := by
        rw [List.take_add_one, hx, tabsOf, List.map_append]
        show _ = tabsOf n ws (ys.take k) ++ _
        rw [← er]
        rfl
      rw [e]
      have kx : ∀ {v l}, LAt PyData.int H5 v l → LAt PyData.int (upd H5 D (.dK (putK kv (.inr x) (.ref t)))) v l := fun h => LAt.kx hD5 (fun _ z => nomatch z) (fun _ z => nomatch z) samex_upd h
      refine DkAt.put ((hkv.mono fun v b h => h.sm s5).mono fun v b h => kx h) ?_ (kx hT)
      refine JM.look_none.mpr fun z hz => ?_
      obtain ⟨y, hy, e⟩ := List.mem_map.mp hz
      cases e
      obtain ⟨i, e3⟩ := List.mem_iff_getElem?.mp hy
      have hi := (List.getElem?_eq_some_iff.mp e3).1
      rw [List.length_take] at hi
      rw [List.getElem?_take_of_lt (by omega)] at e3
      have := nodup_ix nd e3 hx
      omega
    · obtain ⟨s3, hp3, ⟨kv, hD3, hkv⟩, x3, rfl⟩ := pv
      rw [List.length_map, List.take_length] at hkv
      exact ⟨_, rfl, q H3 D hD s3 ⟨ys, perm, D, kv, rfl, hD3, hkv⟩⟩
theorem sc__law_span : FnScope ["_law_tables_here", "_law_around", "_law_span_here"] ["_law_tables_here", "_law_around"] (defScope s__law_span) := ⟨rfl, rfl, rfl, by decide +kernel, rfl, by decide +kernel, by decide +kernel⟩
-- slots: 0 _law_tables_here, 1 _law_around, 2 _law_span_here
theorem ok__law_span (T : Wd K mg) : FnOk P w K mg base CX0 3 T._law_span.f T._law_span.fd ["_law_tables_here", "_law_around"] sp__law_span := by
  have G__law_keeps := ok__law_keeps (P := P) (w := w) (base := base) T
  refine T._law_span.F.ok sc__law_span (fun vs H Q E h => ?_) (fun cdv A outer s H vs Q E hr h => ?_)
  · obtain ⟨v, n, ws, rfl, _⟩ := h
    rfl
  · obtain ⟨v, n, ws, rfl, hv, ok, q⟩ := h
    refine ⟨_, PSs.nox (pss_cons (ps_for PassesOwn.never rfl (pi_range2 (by rfl) T.n_range (pa_cons pe_int (pa_cons (pv 1) pa_nil))) (pg_name (i := 2) sc__law_span.nd rfl (.inl rfl))
        (pss_one (ps_if (PW.pt (pw_and (pt_cmpR op_eq (pe_op op_mod (pv 1) (pv 2)) pe_int (nomark _)) (pw_and1 (pt_val (pe_call G__law_keeps (hr.mono (by decide)) (by rfl) T._law_keeps.g T._law_keeps.F.kp T._law_keeps.b .nil pass0 (pa_cons (pv 0) (pa_cons (pv 2) pa_nil))) (fun _ => rfl)))))
          (pss_one (ps_ret (pv 2)))
          pss_nil)))
      (pss_one (ps_ret (pv 1))))
, ?_⟩
    have lo := ok.lo
    have hi := ok.hi
    refine ⟨_, rfl, 1, n, rfl, ⟨by decide, by decide, by omega, by omega⟩, ?_⟩
    refine for_it walk_range (fun (k : Nat) (σ : L2.St) (H' : Hp) => Same H H' ∧ (∀ m : Int, 1 ≤ m → m < 1 + (k : Int) → n % m = 0 → ¬ JM.AllPd (fun w : PySem.Str × List Row => JM.lift n w.2) ws m) ∧ ∃ x2, σ = [some v, some (.int n), x2]) ⟨Same.refl _, (fun m h1 h2 => by omega), _, rfl⟩ (fun k σ H' _ p => trivial) (fun k x' σ H3 H4 hk pv y => ?_) fun σ H3 pv => ?_
    · obtain ⟨s3, hm, x2, rfl⟩ := pv
      obtain ⟨rfl, rfl⟩ := y
      have next : ∀ (P : Prop), (n % (1 + (k : Int)) = 0 → ¬ JM.AllPd (fun w : PySem.Str × List Row => JM.lift n w.2) ws (1 + (k : Int))) → ∀ m : Int, 1 ≤ m → m < 1 + ((k + 1 : Nat) : Int) → n % m = 0 → ¬ JM.AllPd (fun w : PySem.Str × List Row => JM.lift n w.2) ws m := fun _ h m h1 h2 h3 => by
        by_cases e : m = 1 + (k : Int)
        · subst e
          exact h h3
        · exact hm m h1 (by omega) h3
      refine ⟨_, rfl, _, rfl, n, 1 + (k : Int), rfl, rfl, (by show 0 < 1 + (k : Int); omega), rfl, _, rfl, ite2 (fun c => ?_) fun c => ?_⟩
      · have c0 : n % (1 + (k : Int)) = 0 := V.int.inj (of_decide_eq_true c)
        refine ⟨_, rfl, _, rfl, v, n, 1 + (k : Int), ws, rfl, hv.sm s3, ok, fun H5 b s5 hb => ⟨_, rfl, ?_⟩⟩
        cases b with
        | true => exact iteT ⟨_, rfl, q H5 _ (s3.trans s5) ⟨by omega, by omega, .inr ⟨c0, hb.mp rfl⟩, fun m h1 h2 h3 => hm m h1 h2 h3⟩⟩
        | false => exact iteF ⟨s3.trans s5, next True fun _ z => (nomatch hb.mpr z), _, rfl⟩
      · exact ⟨s3, next True fun e => absurd (decide_eq_true (congrArg V.int e)) c, _, rfl⟩
    · obtain ⟨s3, hm, x2, rfl⟩ := pv
      exact ⟨_, rfl, q H3 n s3 ⟨by omega, by omega, .inl rfl, fun m h1 h2 h3 => hm m h1 (by omega) h3⟩⟩
theorem sc__law_model : FnScope ["_law_pairs", "_law_around", "_law_tables_here", "_law_span_here", "_law_rests", "_law_word", "_law_x"] ["_law_pairs", "_law_around"] (defScope s__law_model) := ⟨rfl, rfl, rfl, by decide +kernel, rfl, by decide +kernel, by decide +kernel⟩
-- slots: 0 _law_pairs, 1 _law_around, 2 _law_tables_here*, 3 _law_span_here, 4 _law_rests, 5 _law_word*, 6 _law_x
theorem ok__law_model (T : Wd K mg) : FnOk P w K mg base CX0 4 T._law_model.f T._law_model.fd ["_law_pairs", "_law_around"] sp__law_model := by
  have G__law_tables := ok__law_tables (P := P) (w := w) (base := base) T
  have G__law_span := ok__law_span (P := P) (w := w) (base := base) T
  refine T._law_model.F.ok sc__law_model (fun vs H Q E h => ?_) (fun cdv A outer s H vs Q E hr h => ?_)
  · obtain ⟨v, n, ws, rfl, _⟩ := h
    rfl
  · obtain ⟨v, n, ws, rfl, hv, ok, q⟩ := h
    refine ⟨_, PSs.nox (pss_cons (ps_set (i := 2) sc__law_model.nd rfl (.inr rfl) (pe_call G__law_tables (hr.mono (by decide)) (by rfl) T._law_tables.g T._law_tables.F.kp T._law_tables.b .nil pass0 (pa_cons (pv 0) (pa_cons (pv 1) pa_nil))))
      (pss_cons (ps_set (i := 3) sc__law_model.nd rfl (.inl rfl) (pe_call G__law_span (hr.mono (by decide)) (by rfl) T._law_span.g T._law_span.F.kp T._law_span.b .nil pass0 (pa_cons (pv 2) (pa_cons (pv 1) pa_nil))))
      (pss_cons (ps_set (i := 4) sc__law_model.nd rfl (.inl rfl) pe_dnewK)
      (pss_cons (ps_lock (ps_for PassesOwn.never rfl (pi_keys (pv 2)) (pg_name (i := 5) sc__law_model.nd rfl (.inr rfl))
        (pss_one (ps_dput (hu_of hr) (pv 4) (pv 5) (pe_lc (own := [("_law_x", 6)]) (g := gName 6) rfl sc__law_model.nd (pi_range1 (by rfl) T.n_range (pa_cons (pv 3) pa_nil)) (blkOk_by (own := [("_law_x", 6)]) (N := ["_law_pairs", "_law_around", "_law_tables_here", "_law_span_here", "_law_rests", "_law_word", "_law_x"]) (sc := defScope s__law_model) (by decide +kernel)) (fun _ _ _ _ _ => (pg_name (i := 6) sc__law_model.nd rfl (.inl rfl))) (fun _ _ _ _ _ => pts_one (pt_cmpR op_eq (pe_ix (ix_listK (K := K) (by rfl)) (pe_dget (hu_of hr) (pv 2) (pv 5) (fun _ _ => rfl)) (pv 6) (fun _ _ => rfl)) (pv 6) (nomark _))) (fun _ _ _ _ _ => (pv 6))) rfl))))
      (pss_one (ps_ret (pe_disp (pps_cons pe_str (pv 1) (pps_cons pe_str (pv 3) (pps_cons pe_str (pv 2) (pps_cons pe_str (pv 4) pps_nil)))) (by rfl) (by rfl) (fun z => by cases z) (by decide))))))))
, ?_⟩
    refine ⟨_, rfl, _, rfl, v, n, ws, rfl, hv, ok, fun H1 d1 n1 s1 hT => ?_⟩
    refine ⟨_, rfl, _, rfl, .ref d1, n, ws, rfl, hT, ok, fun H2 span s2 hs => ?_⟩
    intro D hD
    have hT2 := hT.sm s2
    obtain ⟨ks, perm, d, kvs, e, hd, hk⟩ := hT2
    cases e
    have ndD : d1 ≠ D := ne_of_none hd hD
    have hd1 : (upd H2 D (.dK [])) d1 = some (.dK kvs) := by rw [upd_ne ndD]; exact hd
    refine ⟨d1, .dK kvs, hd1, trivial, fun od => ?_⟩
    have lo := ok.lo
    have hi := ok.hi
    have hsl := hs.lo
    have hsh := hs.hi
    have hlen : kvs.length = ks.length := by
      have := hk.len
      rw [this, tabsOf, List.length_map]
    have hksl : ks.length ≤ 2 := by
      rw [perm.length_eq, List.length_map]
      rcases ok.form with ⟨r, rfl⟩ | ⟨r, rfl⟩ | ⟨r, r', rfl⟩ <;> simp
    have nd : ks.Nodup := perm.nodup_iff.mpr ok.nd
    have tb : ∀ {v : V} {l : List Int}, LAt PyData.int H2 v l → LAt PyData.int (upd (upd H2 D (.dK [])) d1 (.frz od (.dK kvs))) v l := fun h => LAt.kx hd1 (fun _ z => nomatch z) (fun _ z => nomatch z) samex_upd (h.sm (same_new hD))
    have hkL : (upd (upd H2 D (.dK [])) d1 (.frz od (.dK kvs))) d1 = some (.frz od (.dK kvs)) := upd_same
    have hDL : (upd (upd H2 D (.dK [])) d1 (.frz od (.dK kvs))) D = some (.dK []) := by rw [upd_ne (Ne.symm ndD)]; exact upd_same
    have bk : ∀ H', SameX D (upd (upd H2 D (.dK [])) d1 (.frz od (.dK kvs))) H' → Same H2 (upd H' d1 (.dK kvs)) := fun H' k b o e => by
      by_cases c : b = d1
      · subst c
        rw [upd_same, ← e, hd]
      · have nb : b ≠ D := ne_of_none e hD
        rw [upd_ne c]
        exact k b o nb (by rw [upd_ne c, upd_ne nb]; exact e)
    refine ⟨_, rfl, d1, od, rfl, .inl ⟨kvs, upd_same, ?_⟩⟩
    generalize upd (upd H2 D (.dK [])) d1 (.frz od (.dK kvs)) = HL at tb hkL hDL bk
    refine for_it walk_keys (fun (i : Nat) (σ : L2.St) (H' : Hp) => SameX D HL H' ∧ (∃ kv, H' D = some (.dK kv) ∧ DkAt (LAt PyData.int H') kv (restsL n span ws (ks.take i))) ∧ ∃ x5 x6, σ = [some v, some (.int n), some (.ref d1), some (.int span), some (.ref D), x5, x6]) ⟨SameX.refl _ _, ⟨[], hDL, .nil⟩, _, _, rfl⟩ (fun i σ H' _ p => p.1 _ _ ndD hkL) (fun i x' σ H3 H4 hi' p y => ?_) fun σ H3 p => ?_
    · obtain ⟨s3, ⟨kv, hD3, hkv⟩, x5, x6, rfl⟩ := p
      obtain ⟨rfl, k, v', e2, rfl⟩ := y
      obtain ⟨x, b, e3, rfl, hv'⟩ := hk.at e2
      obtain ⟨e4, rfl⟩ := tabs_at e3
      have hx : x ∈ ws.map (·.1) := perm.mem_iff.mp (List.mem_of_getElem? e4)
      have R := rowsOf_ok ok hx
      obtain ⟨u, hg, hu⟩ := hk.get (tabs_look (n := n) (ws := ws) (List.mem_of_getElem? e4))
      have hu3 : LAt PyData.int H4 u (JM.tblOf n (rowsOf ws x)) := LAt.kx hDL (fun _ z => nomatch z) (fun _ z => nomatch z) s3 (tb hu)
      obtain ⟨a, rfl, ha⟩ := hu3.ints
      refine ⟨_, rfl, span, rfl, by omega, by omega, fun D2 hD2 => ?_⟩
      refine lc_pure walk_range (List.range span.toNat) (fun (i : Nat) => if JM.lift n (rowsOf ws x) i = (i : Int) then some (i : Int) else none) PyData.int (by rw [List.length_range]) (Nat.le_trans (m := 360) (by omega) (by decide)) hD2 (fun _ _ => trivial) (fun j z y' H5 H6 N N0 hz s5 yy hN hN0 => ?_) fun H5 us s5 hD5 hu5 => ?_
      · obtain ⟨rfl, rfl⟩ := yy
        obtain ⟨hj, e⟩ := List.getElem?_eq_some_iff.mp hz
        rw [List.getElem_range] at e
        subst e
        rw [List.length_range] at hj
        have hat : atI ((JM.tblOf n (rowsOf ws x)).map V.int) (0 + (j : Int)) = some (.int (JM.lift n (rowsOf ws x) j)) := by
          have := atI_nat (ints_at (JM.tbl_at (rows := rowsOf ws x) (show (0 : Int) ≤ j by omega) (show (j : Int) < n by omega)))
          rwa [show ((((j : Int).toNat : Nat)) : Int) = 0 + (j : Int) by omega] at this
        have z0 : (0 + (j : Int)) = j := by omega
        have hk6 : H6 d1 = some (.frz od (.dK kvs)) := s5 _ _ (s3 _ _ ndD hkL)
        refine ⟨rfl, _, rfl, _, rfl, d1, _, rfl, .inl ⟨kvs, .inr x, .inr ⟨od, hk6⟩, rfl, hg.symm⟩, _, rfl, a, _, _, _, rfl, rfl, SqL.of (s5 _ _ ha), hat, _, rfl, rfl, _, rfl, ite2 (fun c => ?_) fun c => ?_⟩
        · have c1 : JM.lift n (rowsOf ws x) j = 0 + (j : Int) := V.int.inj (of_decide_eq_true c)
          rw [z0] at c1
          exact ⟨_, rfl, hN _ _ _ (Same.refl _) (if_pos c1) (by rw [← z0]; exact .int _)⟩
        · exact hN0 (if_neg fun e => c (decide_eq_true (by rw [e]; exact congrArg V.int z0.symm))) _ (Same.refl _)
      · have er : (List.range span.toNat).filterMap (fun (i : Nat) => if JM.lift n (rowsOf ws x) i = (i : Int) then some (i : Int) else none) = (woOf n span ws).R x := by
          show _ = JM.restsOf (JM.lift n (rowsOf ws x)) span
          unfold JM.restsOf
          generalize List.range span.toNat = l
          induction l with
          | nil => rfl
          | cons y r ih =>
            rw [List.filterMap_cons, List.map_cons, List.filter_cons]
            by_cases c : JM.lift n (rowsOf ws x) y = (y : Int)
            · have c' : JM.lift n (rowsOf ws x) (Int.ofNat y) = Int.ofNat y := c
              rw [if_pos c, if_pos (decide_eq_true c'), ← ih]
              rfl
            · have c' : ¬ JM.lift n (rowsOf ws x) (Int.ofNat y) = Int.ofNat y := c
              rw [if_neg c, if_neg fun z => c' (of_decide_eq_true z), ← ih]
        rw [er] at hu5
        have hD6 := s5 _ _ hD3
        refine ⟨_, rfl, _, rfl, D, _, rfl, .inl ⟨kv, .inr x, hD6, rfl, ?_, rfl⟩, ?_⟩
        · rw [hkv.len, restsL, List.length_map, List.length_take]
          exact Nat.lt_of_le_of_lt (m := 2) (by omega) (by decide)
        refine ⟨fun b o nb e => by rw [upd_ne nb]; exact s5 _ _ (s3 b o nb e), ⟨_, upd_same, ?_⟩, _, _, rfl⟩
        have e : restsL n span ws (ks.take (i + 1)) = restsL n span ws (ks.take i) ++ [(x, (woOf n span ws).R x)] := by
          rw [List.take_add_one, e4, restsL, List.map_append]
          rfl
        rw [e]
        have kx : ∀ {v l}, LAt PyData.int H5 v l → LAt PyData.int (upd H5 D (.dK (putK kv (.inr x) (.ref D2)))) v l := fun h => LAt.kx hD6 (fun _ z => nomatch z) (fun _ z => nomatch z) samex_upd h
        refine DkAt.put ((hkv.mono fun v b h => h.sm s5).mono fun v b h => kx h) ?_ (kx ⟨D2, us, rfl, hD5, hu5⟩)
        refine JM.look_none.mpr fun z hz => ?_
        obtain ⟨y, hy, e⟩ := List.mem_map.mp hz
        cases e
        obtain ⟨m, e3⟩ := List.mem_iff_getElem?.mp hy
        have hm := (List.getElem?_eq_some_iff.mp e3).1
        rw [List.length_take] at hm
        rw [List.getElem?_take_of_lt (by omega)] at e3
        have := nodup_ix nd e3 e4
        omega
    · obtain ⟨s3, ⟨kv, hD3, hkv⟩, x5, x6, rfl⟩ := p
      rw [hlen, List.take_length] at hkv
      refine ⟨s3 _ _ ndD hkL, fun p np => ?_⟩
      have s4 := bk H3 s3
      have d14 : (upd H3 d1 (.dK kvs)) d1 = some (.dK kvs) := upd_same
      have hD4 : (upd H3 d1 (.dK kvs)) D = some (.dK kv) := by rw [upd_ne (Ne.symm ndD)]; exact hD3
      have hkv4 : DkAt (LAt PyData.int (upd H3 d1 (.dK kvs))) kv (restsL n span ws ks) := hkv.mono fun v b h => LAt.kx (s3 _ _ ndD hkL) (fun _ z => nomatch z) (fun _ z => nomatch z) samex_upd h
      generalize upd H3 d1 (.dK kvs) = H4 at np s4 d14 hD4 hkv4
      have nm1 : d1 ≠ p := ne_of_none d14 np
      have nmD : D ≠ p := ne_of_none hD4 np
      have s6 : ∀ o o', Same H4 (upd (upd H4 p o) p o') := fun o o' b x e => by rw [upd_ne (ne_of_none e np), upd_ne (ne_of_none e np)]; exact e
      refine ⟨_, rfl, _, rfl, _, rfl, _, rfl, upd_same, [(.inr "around", .int n), (.inr "span", .int span), (.inr "tables", .ref d1), (.inr "rests", .ref D)], rfl, (by show 4 ≤ 15; decide), ?_⟩
      exact q _ _ span (s1.trans (s2.trans (s4.trans (s6 _ _)))) ⟨p, .ref d1, .ref D, ks, rfl, upd_same, perm, ⟨d1, kvs, rfl, s6 _ _ _ _ d14, hk.mono fun v b h => h.sm (s4.trans (s6 _ _))⟩, ⟨D, kv, rfl, s6 _ _ _ _ hD4, hkv4.mono fun v b h => h.sm (s6 _ _)⟩⟩ hs
end
end J
/-! The law's rules. -/
namespace J
open PySem PySem.Spec PyProof.Rows L2
def ePr (p : PySem.Str × Int) : PyData := .tuple [.str p.1, .int p.2]
theorem eqv_pr (p q : PySem.Str × Int) : PyData.eqv (ePr p) (ePr q) = decide (p = q) := by
  obtain ⟨a, b⟩ := p
  obtain ⟨c, d⟩ := q
  rw [Bool.eq_iff_iff, decide_eq_true_iff]
  simp [ePr, PyData.eqv, PyData.eqvAll, Prod.ext_iff]
theorem deep_of {A : Around} {k : Nat} (hr : Room k A) : A.units + 65 < cLine := by have := hr.un; omega
theorem shaped_pr {p : PySem.Str × Int} (h : PyData.strOk p.1 = true) : SeqAt.shaped (ePr p) = true := by
  simp [h, SeqAt.shaped, ePr, PyData.canLay0, PyData.canLayAll0, PyData.depth, PyData.depthAll]
theorem shaped_prs (xs : List (PySem.Str × Int)) (h : ∀ p ∈ xs, PyData.strOk p.1 = true) : SeqAt.shaped (.list (xs.map ePr)) = true := by
  have a : ∀ xs : List (PySem.Str × Int), (∀ p ∈ xs, PyData.strOk p.1 = true) → PyData.canLayAll0 (xs.map ePr) = true ∧ PyData.depthAll (xs.map ePr) ≤ 1 := fun xs hx => by
    induction xs with
    | nil => exact ⟨by simp [PyData.canLayAll0], by simp [PyData.depthAll]⟩
    | cons x r ih =>
      have ih := ih fun p hp => hx p (List.mem_cons_of_mem _ hp)
      exact ⟨by simp [PyData.canLayAll0, ePr, PyData.canLay0, ih.1, hx x (List.mem_cons_self ..)], by have h2 := ih.2; simp [PyData.depthAll, ePr, PyData.depth]; omega⟩
  have h := a xs h
  have h2 := h.2
  simp [SeqAt.shaped, PyData.canLay0, PyData.depth, h.1]
  omega
theorem any_pr (ts : List (PySem.Str × Int)) (p : PySem.Str × Int) : ((ts.map ePr).any fun z => PyData.eqv z (ePr p)) = decide (p ∈ ts) := by
  rw [List.any_map, Bool.eq_iff_iff, List.any_eq_true, decide_eq_true_iff]
  constructor
  · rintro ⟨y, hy, e⟩
    have e : PyData.eqv (ePr y) (ePr p) = true := e
    rw [eqv_pr] at e
    exact of_decide_eq_true e ▸ hy
  · exact fun h => ⟨p, h, by show PyData.eqv (ePr p) (ePr p) = true; rw [eqv_pr]; exact decide_eq_true rfl⟩
/-- one row of rules, as the law draws it -/
structure RowL (n : Int) (words names : List PySem.Str) (row : List Tri) : Prop where
  len : row.length ≤ 8
  word : ∀ r ∈ row, r.1 ∈ words
  goal : ∀ r ∈ row, r.2.2 ∈ names
  turns : (row.map fun r => (r.1, r.2.1 % n)).Nodup
theorem turn_mod {n t : Int} (h0 : 0 ≤ t) (h1 : t < n) (z : Int) : (t + n * z) % n = t := by
  rw [Int.add_mul_emod_self_left]
  exact Int.emod_eq_of_lt h0 h1
/-- a list of data that are no ints is no pool -/
theorem LAt.npool {β : Type} {enc : β → PyData} {H : Hp} {a p : Addr} {l : List β} (he : ∀ b i, enc b ≠ .int i) (hp : PoolAt H a) (h : LAt enc H (.ref p) l) : p ≠ a := fun e => by
  obtain ⟨b, us, e1, h1, h2⟩ := h
  cases e1
  obtain ⟨x, y, z, h3, _⟩ := hp
  rw [e, h3] at h1
  cases h1
  cases l with
  | nil => cases h2
  | cons c r =>
    rw [List.map_cons] at h2
    cases h2 with
    | cons s1 s2 =>
      generalize hd : enc c = d at s1
      cases s1
      exact he c x hd
theorem LAt.pool2 {β : Type} {enc : β → PyData} {H H' : Hp} {a : Addr} {v : V} {l : List β} (he : ∀ b i, enc b ≠ .int i) (hp : PoolAt H a) (k : SameX a H H') (h : LAt enc H v l) : LAt enc H' v l := by
  have h0 := h
  obtain ⟨b, us, e1, h1, h2⟩ := h0
  subst e1
  exact LAt.pool (LAt.npool he hp h) hp k h
def nmsL : List PySem.Str := ["start", "b", "wobble", "z", "apex"]
theorem rules_ok {n st : Int} {words : List PySem.Str} (n2 : 2 ≤ n) (n3 : n ≤ 360) (s1 : 1 ≤ st) (s3 : st ≤ 3) (hw : ∀ x ∈ words, x = "push" ∨ x = "squeeze") {rs : List (PySem.Str × List Tri)} (hk : rs.map (·.1) = nmsL.take st.toNat) (hr : ∀ p ∈ rs, RowL n words (nmsL.take st.toNat) p.2) : RulesOk n rs := by
  have hst : st = 1 ∨ st = 2 ∨ st = 3 := by omega
  refine ⟨n2, n3, ?_, ?_, ?_, ?_, fun p hp => (hr p hp).len, fun p hp r h => hw _ ((hr p hp).word r h), fun p hp r h => by rw [hk]; exact (hr p hp).goal r h, fun p hp => (hr p hp).turns⟩
  · rw [hk]
    rcases hst with rfl | rfl | rfl <;> decide +kernel
  · have := congrArg List.length hk
    rw [List.length_map] at this
    rw [this]
    rcases hst with rfl | rfl | rfl <;> decide +kernel
  · rw [hk]
    rcases hst with rfl | rfl | rfl <;> (intro x hx; simp [nmsL] at hx; unfold NameOk)
    · exact .inl hx
    · rcases hx with h | h
      · exact .inl h
      · exact .inr (.inl h)
    · rcases hx with h | h | h
      · exact .inl h
      · exact .inr (.inl h)
      · exact .inr (.inr h)
  · rw [hk]
    rcases hst with rfl | rfl | rfl <;> decide +kernel
def sp__law_rules : Sp := fun vs H Q _ => ∃ (a wa : Addr) (n st most : Int) (words : List PySem.Str), vs = [.ref a, .int n, .ref wa, .int st, .int most] ∧ PoolAt H a ∧ H wa = some (.lst (words.map V.str)) ∧ wa ≠ a ∧ 2 ≤ n ∧ n ≤ 360 ∧ 1 ≤ words.length ∧ words.length ≤ 2 ∧ (∀ x ∈ words, x = "push" ∨ x = "squeeze") ∧ 1 ≤ st ∧ st ≤ 3 ∧ most = 8 ∧
  ∀ H' p rs, H p = none → SameX a H H' → PoolAt H' a → DAt (LAt eTri) H' (.ref p) rs → RulesOk n rs → (∀ pr ∈ rs, ∀ r ∈ pr.2, r.1 ∈ words) → Q (.ref p) H'
section
variable {P : Program} {w : World} {K : PySem.W.Frag} {mg : Str → Option Value} {base : Heap}
theorem sc__law_rules : FnScope ["_law_pool_here", "_law_around", "_law_words", "_law_states", "_law_most", "_law_names", "_law_rules_here", "_law_name", "_law_row", "_law_taken", "_law_k", "_law_word", "_law_turn", "_law_goal"] ["_law_pool_here", "_law_around", "_law_words", "_law_states", "_law_most"] (defScope s__law_rules) := ⟨rfl, rfl, rfl, by decide +kernel, rfl, by decide +kernel, by decide +kernel⟩
-- slots: 0 _law_pool_here, 1 _law_around, 2 _law_words, 3 _law_states, 4 _law_most, 5 _law_names, 6 _law_rules_here, 7 _law_name, 8 _law_row, 9 _law_taken, 10 _law_k, 11 _law_word, 12 _law_turn, 13 _law_goal
theorem ok__law_rules (T : Wd K mg) : FnOk P w K mg base CX0 2 T._law_rules.f T._law_rules.fd ["_law_pool_here", "_law_around", "_law_words", "_law_states", "_law_most"] sp__law_rules := by
  have G__law_draw := ok__law_draw (P := P) (w := w) (base := base) T
  refine T._law_rules.F.ok sc__law_rules (fun vs H Q E h => ?_) (fun cdv A outer s H vs Q E hr h => ?_)
  · obtain ⟨a, wa, n, st, most, words, rfl, _⟩ := h
    rfl
  · obtain ⟨a, wa, n, st, most, words, rfl, hp, hw, nwa, n2, n3, w1, w2, hws, st1, st3, rfl, q⟩ := h
    refine ⟨_, PSs.nox (pss_cons (ps_set (i := 5) sc__law_rules.nd rfl (.inl rfl) (pe_slice sl_list (pe_lst (pa_cons pe_str (pa_cons pe_str (pa_cons pe_str (pa_cons pe_str (pa_cons pe_str pa_nil)))))) po_none (po_some (pv 3))))
      (pss_cons (ps_set (i := 6) sc__law_rules.nd rfl (.inl rfl) pe_dnewK)
      (pss_cons (ps_for PassesOwn.never rfl (pi_list (pv 5)) (pg_name (i := 7) sc__law_rules.nd rfl (.inl rfl))
        (pss_cons (ps_set (i := 8) sc__law_rules.nd rfl (.inl rfl) (pe_lst pa_nil))
          (pss_cons (ps_set (i := 9) sc__law_rules.nd rfl (.inl rfl) (pe_lst pa_nil))
          (pss_cons (ps_for PassesOwn.never rfl (pi_range1 (by rfl) T.n_range (pa_cons (pe_call G__law_draw (hr.mono (by decide)) (by rfl) T._law_draw.g T._law_draw.F.kp T._law_draw.b .nil pass0 (pa_cons (pv 0) (pa_cons (pe_op op_add (pv 4) pe_int) pa_nil))) pa_nil)) (pg_name (i := 10) sc__law_rules.nd rfl (.inl rfl))
            (pss_cons (ps_set (i := 11) sc__law_rules.nd rfl (.inl rfl) (pe_ix ix_list (pv 2) (pe_call G__law_draw (hr.mono (by decide)) (by rfl) T._law_draw.g T._law_draw.F.kp T._law_draw.b .nil pass0 (pa_cons (pv 0) (pa_cons (pe_callB call_len_seq (by rfl) T.n_len (by decide +kernel) (pa_cons (pv 2) pa_nil)) pa_nil))) (fun _ _ => rfl)))
              (pss_cons (ps_set (i := 12) sc__law_rules.nd rfl (.inl rfl) (pe_call G__law_draw (hr.mono (by decide)) (by rfl) T._law_draw.g T._law_draw.F.kp T._law_draw.b .nil pass0 (pa_cons (pv 0) (pa_cons (pv 1) pa_nil))))
              (pss_cons (ps_set (i := 13) sc__law_rules.nd rfl (.inl rfl) (pe_ix ix_list (pv 5) (pe_call G__law_draw (hr.mono (by decide)) (by rfl) T._law_draw.g T._law_draw.F.kp T._law_draw.b .nil pass0 (pa_cons (pv 0) (pa_cons (pv 3) pa_nil))) (fun _ _ => rfl)))
              (pss_one (ps_if (pt_cmpR (op_notInD (deep_of hr)) (pe_tup (pa_cons (pv 11) (pa_cons (pv 12) pa_nil))) (pv 9) rfl)
              (pss_cons (ps_expr (pe_bm PySem.F.plainAttrs_list PySem.F.slot_list_append PySem.F.type_list_append mt_append (pv 9) (pa_cons (pe_tup (pa_cons (pv 11) (pa_cons (pv 12) pa_nil))) pa_nil)))
                (pss_one (ps_expr (pe_bm PySem.F.plainAttrs_list PySem.F.slot_list_append PySem.F.type_list_append mt_append (pv 8) (pa_cons (pe_tup (pa_cons (pv 11) (pa_cons (pe_op op_add (pv 12) (pe_op op_mul (pv 1) (pe_op op_sub (pe_op op_mod (pv 10) pe_int) pe_int))) (pa_cons (pv 13) pa_nil)))) pa_nil)))))
              pss_nil))))))
          (pss_one (ps_dput (hu_of hr) (pv 6) (pv 7) (pv 8) rfl))))))
      (pss_one (ps_ret (pv 6))))))
, ?_⟩
    refine ⟨by show 5 ≤ sizeLine; decide, fun L hL => ⟨_, rfl, st, rfl, L, _, rfl, SqL.of upd_same, fun nl hnl => ?_⟩⟩
    have hst : st = 1 ∨ st = 2 ∨ st = 3 := by omega
    have hcut : cutV [V.str "start", V.str "b", V.str "wobble", V.str "z", V.str "apex"] none (some st) = (nmsL.take st.toNat).map V.str := by rcases hst with rfl | rfl | rfl <;> rfl
    rw [hcut]
    have hNl : (nmsL.take st.toNat).length = st.toNat := by rcases hst with rfl | rfl | rfl <;> rfl
    have hNn : (nmsL.take st.toNat).Nodup := by rcases hst with rfl | rfl | rfl <;> decide +kernel
    have fin := fun {rs} => rules_ok n2 n3 st1 st3 hws (rs := rs)
    generalize nmsL.take st.toNat = N at hcut hNl hNn fin
    intro D hD
    have s0 : Same H (upd (upd (upd H L (.lst [V.str "start", V.str "b", V.str "wobble", V.str "z", V.str "apex"])) nl (.lst (N.map V.str))) D (.dK [])) := (same_new hL).trans ((same_new hnl).trans (same_new hD))
    have hnl0 : (upd (upd (upd H L (.lst [V.str "start", V.str "b", V.str "wobble", V.str "z", V.str "apex"])) nl (.lst (N.map V.str))) D (.dK [])) nl = some (.lst (N.map V.str)) := by
      rw [upd_ne (ne_of_none upd_same hD)]
      exact upd_same
    have hD0 : (upd (upd (upd H L (.lst [V.str "start", V.str "b", V.str "wobble", V.str "z", V.str "apex"])) nl (.lst (N.map V.str))) D (.dK [])) D = some (.dK []) := upd_same
    have hDn : H D = none := ((same_new hL).trans (same_new (o := .lst (N.map V.str)) hnl)).free hD
    have hnn : H nl = none := (same_new hL).free hnl
    have nDa : D ≠ a := fun e => by
      obtain ⟨x, y, z, h, _⟩ := hp
      rw [e, h] at hDn
      cases hDn
    have nna : nl ≠ a := fun e => by
      obtain ⟨x, y, z, h, _⟩ := hp
      rw [e, h] at hnn
      cases hnn
    have nDw : D ≠ wa := fun e => by rw [e, hw] at hDn; cases hDn
    have nDl : D ≠ nl := ne_of hD0 hnl0 fun z => nomatch z
    generalize upd (upd (upd H L (.lst [V.str "start", V.str "b", V.str "wobble", V.str "z", V.str "apex"])) nl (.lst (N.map V.str))) D (.dK []) = H0 at s0 hnl0 hD0
    have hp0 := hp.sm s0
    refine ⟨_, rfl, nl, rfl, ⟨_, SqL.of hnl0⟩, ?_⟩
    refine for_it walk_list (fun (i : Nat) (σ : L2.St) (H' : Hp) => SameX a H H' ∧ PoolAt H' a ∧ H' nl = some (.lst (N.map V.str)) ∧ (∃ kv rs, H' D = some (.dK kv) ∧ DkAt (LAt eTri H') kv rs ∧ rs.map (·.1) = N.take i ∧ ∀ p ∈ rs, RowL n words N p.2) ∧ ∃ x7 x8 x9 x10 x11 x12 x13, σ = [some (.ref a), some (.int n), some (.ref wa), some (.int st), some (.int 8), some (.ref nl), some (.ref D), x7, x8, x9, x10, x11, x12, x13]) ⟨same_x s0, hp0, hnl0, ⟨[], [], hD0, .nil, rfl, (fun _ h => nomatch h)⟩, _, _, _, _, _, _, _, rfl⟩ (fun i σ H' _ p => SqL.of p.2.2.1) (fun i x' σ H2 H2' hi p y => ?_) fun σ H2 p => ?_
    · obtain ⟨s2, p2, hn2, ⟨kv, rs, hD2, hkv, hrs, hrow⟩, x7, x8, x9, x10, x11, x12, x13, rfl⟩ := p
      obtain ⟨rfl, e2⟩ := y
      obtain ⟨nm, hnm, rfl⟩ := at_map e2
      rw [List.length_map] at hi
      refine ⟨Nat.zero_le _, fun R hR => ⟨Nat.zero_le _, fun Tk hTk => ?_⟩⟩
      have sR : Same H2' (upd (upd H2' R (.lst [])) Tk (.lst [])) := (same_new hR).trans (same_new hTk)
      have nRT : R ≠ Tk := ne_of_none upd_same hTk
      have hR0 : (upd (upd H2' R (.lst [])) Tk (.lst [])) R = some (.lst []) := by rw [upd_ne nRT]; exact upd_same
      have hT0 : (upd (upd H2' R (.lst [])) Tk (.lst [])) Tk = some (.lst []) := upd_same
      have hTn : H2' Tk = none := (same_new hR).free hTk
      have nRa : R ≠ a := fun e => by
        obtain ⟨x, y, z, h, _⟩ := p2
        rw [e, h] at hR
        cases hR
      have nTa : Tk ≠ a := fun e => by
        obtain ⟨x, y, z, h, _⟩ := p2
        rw [e, h] at hTn
        cases hTn
      generalize upd (upd H2' R (.lst [])) Tk (.lst []) = H3 at sR hR0 hT0
      refine ⟨_, rfl, _, rfl, _, _, rfl, rfl, a, _, rfl, p2.sm sR, by decide, by decide, fun H4 r s4 p4 r0 r1 => ⟨r, rfl, by omega, by omega, ?_⟩⟩
      have s24 : SameX a H2' H4 := (same_x sR).trans s4
      refine for_it walk_range (fun (k : Nat) (σ : L2.St) (H' : Hp) => SameX a H2' H' ∧ PoolAt H' a ∧ (∃ us ts row, H' R = some (.lst us) ∧ H' Tk = some (.lst ts) ∧ SdAll H' us (row.map eTri) ∧ SdAll H' ts ((row.map fun r => (r.1, r.2.1 % n)).map ePr) ∧ row.length ≤ k ∧ (∀ r ∈ row, r.1 ∈ words) ∧ (∀ r ∈ row, r.2.2 ∈ N) ∧ (row.map fun r => (r.1, r.2.1 % n)).Nodup) ∧ ∃ x10 x11 x12 x13, σ = [some (.ref a), some (.int n), some (.ref wa), some (.int st), some (.int 8), some (.ref nl), some (.ref D), some (.str nm), some (.ref R), some (.ref Tk), x10, x11, x12, x13]) ⟨s24, p4, ⟨[], [], [], s4 _ _ nRa hR0, s4 _ _ nTa hT0, .nil, .nil, Nat.le_refl _, (fun _ h => nomatch h), (fun _ h => nomatch h), List.nodup_nil⟩, _, _, _, _, rfl⟩ (fun k σ H' _ p => trivial) (fun k x'' σ H5 H5' hk pk yk => ?_) fun σ H5 pk => ?_
      · obtain ⟨s5, p5, ⟨us, ts, row, hR5, hT5, hus, hts, hlen, hrw, hrg, hnd⟩, y10, y11, y12, y13, rfl⟩ := pk
        obtain ⟨rfl, rfl⟩ := yk
        have hw5 := s5 _ _ nwa (s2 _ _ nwa hw)
        refine ⟨_, rfl, _, rfl, _, rfl, wa, _, rfl, .inl (SqL.of hw5), a, _, rfl, p5, (by rw [List.length_map]; omega), (by rw [List.length_map]; omega), fun H6 i s6 p6 i0 i1 => ?_⟩
        rw [List.length_map] at i1
        obtain ⟨j, rfl⟩ := Int.eq_ofNat_of_zero_le i0
        have hj : j < words.length := by omega
        have hat : (words.map V.str)[j]? = some (.str words[j]) := by rw [List.getElem?_map, List.getElem?_eq_getElem hj]; rfl
        refine ⟨wa, _, _, _, rfl, rfl, SqL.of (s6 _ _ nwa hw5), atI_nat hat, ?_⟩
        have hwj : words[j] ∈ words := List.getElem_mem hj
        generalize words[j] = wd at hwj
        refine ⟨_, rfl, _, rfl, a, n, rfl, p6, by omega, by omega, fun H7 t s7 p7 tz0 tz1 => ?_⟩
        refine ⟨_, rfl, _, rfl, _, rfl, a, st, rfl, p7, by omega, by omega, fun H8 g s8 p8 g0 g1 => ?_⟩
        obtain ⟨m, rfl⟩ := Int.eq_ofNat_of_zero_le g0
        have hm : m < N.length := by omega
        have hatN : (N.map V.str)[m]? = some (.str N[m]) := by rw [List.getElem?_map, List.getElem?_eq_getElem hm]; rfl
        have s58 : SameX a H5' H8 := s6.trans (s7.trans s8)
        have s28 : SameX a H2' H8 := s5.trans s58
        refine ⟨nl, _, _, _, rfl, rfl, SqL.of (s28 _ _ nna hn2), atI_nat hatN, ?_⟩
        have hNm : N[m] ∈ N := List.getElem_mem hm
        generalize N[m] = gl at hNm
        have hR8 := s58 _ _ nRa hR5
        have hT8 := s58 _ _ nTa hT5
        have hus8 : SdAll H8 us (row.map eTri) := hus.mt (ft_p p5 s58)
        have hts8 : SdAll H8 ts ((row.map fun r => (r.1, r.2.1 % n)).map ePr) := hts.mt (ft_p p5 s58)
        refine ⟨_, rfl, _, rfl, (by show 2 ≤ sizeLine; decide), fun t1 nt1 => ?_⟩
        have hwk : ∀ x ∈ words, PyData.strOk x = true := fun x hx => by
          rcases hws x hx with rfl | rfl <;> decide +kernel
        have s9 : Same H8 (upd H8 t1 (.tup [.str wd, .int t])) := same_new nt1
        have h9 : (upd H8 t1 (.tup [.str wd, .int t])) t1 = some (.tup [.str wd, .int t]) := upd_same
        generalize upd H8 t1 (.tup [.str wd, .int t]) = H9 at s9 h9
        have hR9 := s9 _ _ hR8
        have hT9 := s9 _ _ hT8
        have hus9 := hus8.sm s9
        have hts9 := hts8.sm s9
        have p9 := p8.sm s9
        have s29 : SameX a H2' H9 := s28.trans (same_x s9)
        refine ⟨_, rfl, ePr (wd, t), _, Sd.dp K (ePr (wd, t)) _ (.tup h9 (.cons (.str _) (.cons (.int _) .nil))), .lst (SqL.of hT9) (SdAll.dp K _ _ hts9), shaped_pr (hwk _ hwj), shaped_prs _ (fun p hp => ?_), _, rfl, ?_⟩
        · obtain ⟨r, hr, rfl⟩ := List.mem_map.mp hp
          exact hwk _ (hrw r hr)
        rw [any_pr]
        by_cases hin : (wd, t) ∈ row.map fun r => (r.1, r.2.1 % n)
        · rw [decide_eq_true hin]
          exact iteF ⟨s29, p9, ⟨us, ts, row, hR9, hT9, hus9, hts9, Nat.le_succ_of_le hlen, hrw, hrg, hnd⟩, _, _, _, _, rfl⟩
        · rw [decide_eq_false hin]
          refine iteT ?_
          have hlr : row.length ≤ 8 := by omega
          refine ⟨_, rfl, .inl ⟨rfl, _, SqL.of hT9⟩, _, rfl, _, rfl, (by show 2 ≤ sizeLine; decide), fun t2 nt2 => ?_⟩
          have nT2 : Tk ≠ t2 := ne_of_none hT9 nt2
          have nR2 : R ≠ t2 := ne_of_none hR9 nt2
          have hT10 : (upd H9 t2 (.tup [.str wd, .int t])) Tk = some (.lst ts) := by rw [upd_ne nT2]; exact hT9
          refine ⟨Tk, _, _, rfl, rfl, hT10, ?_, ?_⟩
          · have := hts9.len
            rw [List.length_map, List.length_map] at this
            exact Nat.lt_of_le_of_lt (m := 8) (by omega) (by decide)
          have s10 : Ft H9 (upd (upd H9 t2 (.tup [.str wd, .int t])) Tk (.lst (ts ++ [.ref t2]))) := (ft_of (same_new nt2)).trans (ft_upd hT10 fun _ z => nomatch z)
          have hTb : (upd (upd H9 t2 (.tup [.str wd, .int t])) Tk (.lst (ts ++ [.ref t2]))) Tk = some (.lst (ts ++ [.ref t2])) := upd_same
          have hRb : (upd (upd H9 t2 (.tup [.str wd, .int t])) Tk (.lst (ts ++ [.ref t2]))) R = some (.lst us) := by rw [upd_ne nRT, upd_ne nR2]; exact hR9
          have h2b : (upd (upd H9 t2 (.tup [.str wd, .int t])) Tk (.lst (ts ++ [.ref t2]))) t2 = some (.tup [.str wd, .int t]) := by rw [upd_ne (Ne.symm nT2)]; exact upd_same
          have pb : PoolAt (upd (upd H9 t2 (.tup [.str wd, .int t])) Tk (.lst (ts ++ [.ref t2]))) a := by
            obtain ⟨x, y, z, h, o⟩ := p9
            exact ⟨x, y, z, by rw [upd_ne (Ne.symm nTa), upd_ne (ne_of_none h nt2)]; exact h, o⟩
          have sb : SameX a H2' (upd (upd H9 t2 (.tup [.str wd, .int t])) Tk (.lst (ts ++ [.ref t2]))) := fun b o nb e => by
            have e9 := s29 b o nb e
            rw [upd_ne (ne_of_none e hTn), upd_ne (ne_of_none e9 nt2)]
            exact e9
          have hts11 : SdAll (upd (upd H9 t2 (.tup [.str wd, .int t])) Tk (.lst (ts ++ [.ref t2]))) (ts ++ [.ref t2]) ((row.map fun r => (r.1, r.2.1 % n)).map ePr ++ [ePr (wd, t)]) := (hts9.mt s10).snoc (.tup h2b (.cons (.str _) (.cons (.int _) .nil)))
          have hus11 := hus9.mt s10
          generalize upd (upd H9 t2 (.tup [.str wd, .int t])) Tk (.lst (ts ++ [.ref t2])) = H11 at hTb hRb pb sb hts11 hus11
          refine ⟨_, rfl, .inl ⟨rfl, _, SqL.of hRb⟩, _, rfl, _, rfl, _, rfl, _, rfl, _, 3, rfl, rfl, (by show (0:Int) < 3; decide), _, 1, rfl, rfl, n, _, rfl, rfl, .inl ⟨by omega, by omega⟩, t, _, rfl, rfl, _, rfl, (by show 3 ≤ sizeLine; decide), fun t3 nt3 => ?_⟩
          have nR3 : R ≠ t3 := ne_of_none hRb nt3
          have nT3 : Tk ≠ t3 := ne_of_none hTb nt3
          refine ⟨R, us, .ref t3, rfl, rfl, by rw [upd_ne nR3]; exact hRb, ?_, ?_⟩
          · have := hus11.len
            rw [List.length_map] at this
            exact Nat.lt_of_le_of_lt (m := 8) (by omega) (by decide)
          have hm2 : (row ++ [(wd, (t + n * ((0 + (k : Int)) % 3 - 1), gl))]).map (fun r => (r.1, r.2.1 % n)) = row.map (fun r => (r.1, r.2.1 % n)) ++ [(wd, t)] := by
            rw [List.map_append]
            show _ ++ [(wd, (t + n * ((0 + (k : Int)) % 3 - 1)) % n)] = _
            rw [turn_mod tz0 tz1]
          have hRc : (upd H11 t3 (.tup [.str wd, .int (t + n * ((0 + (k : Int)) % 3 - 1)), .str gl])) R = some (.lst us) := by rw [upd_ne nR3]; exact hRb
          have sc : Ft H11 (upd (upd H11 t3 (.tup [.str wd, .int (t + n * ((0 + (k : Int)) % 3 - 1)), .str gl])) R (.lst (us ++ [.ref t3]))) := (ft_of (same_new nt3)).trans (ft_upd hRc fun _ z => nomatch z)
          refine ⟨fun b o nb e => ?_, ?_, ⟨us ++ [.ref t3], ts ++ [.ref t2], row ++ [(wd, (t + n * ((0 + (k : Int)) % 3 - 1), gl))], upd_same, ?_, ?_, ?_, ?_, ?_, ?_, ?_⟩, _, _, _, _, rfl⟩
          · have e11 := sb b o nb e
            rw [upd_ne (ne_of_none e hR), upd_ne (ne_of_none e11 nt3)]
            exact e11
          · obtain ⟨x, y, z, h, o⟩ := pb
            exact ⟨x, y, z, by rw [upd_ne (Ne.symm nRa), upd_ne (ne_of_none h nt3)]; exact h, o⟩
          · rw [upd_ne (Ne.symm nRT), upd_ne nT3]
            exact hTb
          · rw [List.map_append]
            refine (hus11.mt sc).snoc (tri_sd ?_)
            rw [upd_ne (Ne.symm nR3)]
            exact upd_same
          · rw [hm2, List.map_append]
            exact hts11.mt sc
          · rw [List.length_append]
            exact Nat.succ_le_succ hlen
          · intro r hr
            rcases List.mem_append.mp hr with h | h
            · exact hrw r h
            · rw [List.mem_singleton.mp h]; exact hwj
          · intro r hr
            rcases List.mem_append.mp hr with h | h
            · exact hrg r h
            · rw [List.mem_singleton.mp h]; exact hNm
          · rw [hm2]
            exact List.nodup_append.mpr ⟨hnd, (by simp), fun x hx y hy e => by
              rw [List.mem_singleton.mp hy] at e
              exact hin (e ▸ hx)⟩
      · obtain ⟨s5, p5, ⟨us, ts, row, hR5, hT5, hus, hts, hlen, hrw, hrg, hnd⟩, y10, y11, y12, y13, rfl⟩ := pk
        have hD5 := s5 _ _ nDa hD2
        have hn5 := s5 _ _ nna hn2
        have hkv5 : DkAt (LAt eTri H5) kv rs := hkv.mono fun v b h => LAt.pool2 (fun b i z => by unfold eTri at z; cases z) p2 s5 h
        refine ⟨_, rfl, _, rfl, _, rfl, D, _, rfl, .inl ⟨kv, .inr nm, hD5, rfl, ?_, rfl⟩, ?_⟩
        · rw [hkv.len]
          have := congrArg List.length hrs
          rw [List.length_map, List.length_take] at this
          exact Nat.lt_of_le_of_lt (m := 3) (by omega) (by decide)
        have nRD : R ≠ D := ne_of hR5 hD5 fun z => nomatch z
        have kx : ∀ {v l}, LAt eTri H5 v l → LAt eTri (upd H5 D (.dK (putK kv (.inr nm) (.ref R)))) v l := fun h => LAt.kx hD5 (fun _ z => nomatch z) (fun _ z => nomatch z) samex_upd h
        refine ⟨fun b o nb e => ?_, ?_, ?_, ⟨_, rs ++ [(nm, row)], upd_same, ?_, ?_, ?_⟩, _, _, _, _, _, _, _, rfl⟩
        · rw [upd_ne (ne_of_none e hDn)]
          exact s5 _ _ nb (s2 _ _ nb e)
        · obtain ⟨x, y, z, h, o⟩ := p5
          exact ⟨x, y, z, by rw [upd_ne (Ne.symm nDa)]; exact h, o⟩
        · rw [upd_ne (Ne.symm nDl)]
          exact hn5
        · refine DkAt.put (hkv5.mono fun v b h => kx h) (JM.look_none.mpr fun z hz => ?_) (kx ⟨R, us, rfl, hR5, hus⟩)
          have : nm ∈ rs.map (·.1) := List.mem_map.mpr ⟨_, hz, rfl⟩
          rw [hrs] at this
          obtain ⟨m, e3⟩ := List.mem_iff_getElem?.mp this
          have hm := (List.getElem?_eq_some_iff.mp e3).1
          rw [List.length_take] at hm
          rw [List.getElem?_take_of_lt (by omega)] at e3
          have := nodup_ix hNn e3 hnm
          omega
        · rw [List.map_append, hrs, List.take_add_one, hnm]
          rfl
        · intro p hp'
          rcases List.mem_append.mp hp' with h | h
          · exact hrow p h
          · rw [List.mem_singleton.mp h]
            exact ⟨by show row.length ≤ 8; omega, hrw, hrg, hnd⟩
    · obtain ⟨s2, p2, hn2, ⟨kv, rs, hD2, hkv, hrs, hrow⟩, x7, x8, x9, x10, x11, x12, x13, rfl⟩ := p
      rw [List.length_map, List.take_length] at hrs
      exact ⟨_, rfl, q H2 D rs hDn s2 p2 ⟨D, kv, rfl, hD2, hkv⟩ (fin hrs hrow) fun p hp => (hrow p hp).word⟩
end
end J
/-! The law's rules sorted, copied, made a machine. -/
namespace J
open PySem PySem.Spec PyProof.Rows L2
def RlsAt (H : Hp) (v : V) : RsO → Prop
  | none => v = .non
  | some rs => DAt (LAt eTri) H v rs
theorem RlsAt.sm {H H' : Hp} {v : V} {o : RsO} (k : Same H H') (h : RlsAt H v o) : RlsAt H' v o := by
  cases o with
  | none => exact h
  | some rs => exact DAt.sm (fun _ _ h => h.sm k) k h
def sp__law_rules_of : Sp := fun vs H Q _ => ∃ (v : V) (n : Int) (x : PySem.Str) (rs : List (PySem.Str × List Tri)), vs = [v, .int n, .str x] ∧ DAt (LAt eTri) H v rs ∧ RulesOk n rs ∧ x ∈ rs.map (·.1) ∧ ∀ H' p, H p = none → Same H H' → LAt eTri H' (.ref p) (stepsOf n rs x) → Q (.ref p) H'
def sp__law_handed : Sp := fun vs H Q _ => ∃ (v : V) (n : Int) (rs : List (PySem.Str × List Tri)), vs = [v] ∧ DAt (LAt eTri) H v rs ∧ RulesOk n rs ∧ ∀ H' p, H p = none → Same H H' → DAt (LAt eTri) H' (.ref p) rs → Q (.ref p) H'
section
variable {P : Program} {w : World} {K : PySem.W.Frag} {mg : Str → Option Value} {base : Heap}
def sp__law_let (T : Wd K mg) : Sp := fun vs H Q _ => ∃ (v : V) (n : Int) (ws : List (PySem.Str × List Row)) (o : RsO), vs = [v, .int n] ∧ RlsAt H v o ∧ MachOk n ws o ∧ ∀ H' p, Same H H' → LetOr T H' p n ws o → Q p H'
theorem sc__law_rules_of : FnScope ["_law_rules_here", "_law_around", "_law_state", "_law_rule"] ["_law_rules_here", "_law_around", "_law_state"] (defScope s__law_rules_of) := ⟨rfl, rfl, rfl, by decide +kernel, rfl, by decide +kernel, by decide +kernel⟩
-- slots: 0 _law_rules_here, 1 _law_around*, 2 _law_state, 3 _law_rule
theorem ok__law_rules_of (T : Wd K mg) : FnOk P w K mg base CX0 1 T._law_rules_of.f T._law_rules_of.fd ["_law_rules_here", "_law_around", "_law_state"] sp__law_rules_of := by
  refine T._law_rules_of.F.ok sc__law_rules_of (fun vs H Q E h => ?_) (fun cdv A outer s H vs Q E hr h => ?_)
  · obtain ⟨v, n, x, rs, rfl, _⟩ := h
    rfl
  · obtain ⟨v, n, x, rs, rfl, hv, ok, hx, q⟩ := h
    obtain ⟨d, kvs, rfl, hd, hk⟩ := hv
    refine ⟨_, PSs.nox (pss_one (ps_ret (pe_callB (cr_sortD (enc := eTri) hr.units alike_tri sort_tri dep_tri) (by rfl) T.n_sorted (by decide +kernel) (pa_cons (pe_lc (own := [("_law_rule", 3)]) (g := gName 3) rfl sc__law_rules_of.nd (pi_list (pe_dget (hu_of hr) (pv 0) (pv 2) (fun _ _ => rfl))) (blkOk_by (own := [("_law_rule", 3)]) (N := ["_law_rules_here", "_law_around", "_law_state", "_law_rule"]) (sc := defScope s__law_rules_of) (by decide +kernel)) (fun _ _ _ _ _ => (pg_name (i := 3) sc__law_rules_of.nd rfl (.inl rfl))) (fun _ _ _ _ _ => pts_nil) (fun _ _ _ _ _ => (pe_tup (pa_cons (pe_ix (ix_tupK (K := K) (by rfl)) (pv 3) pe_int (fun _ _ => rfl)) (pa_cons (pe_op op_mod (pe_callTy call_int1 (by rfl) T.n_int (by decide +kernel) (pa_cons (pe_ix (ix_tupK (K := K) (by rfl)) (pv 3) pe_int (fun _ _ => rfl)) pa_nil)) (pv 1)) (pa_cons (pe_ix (ix_tupK (K := K) (by rfl)) (pv 3) pe_int (fun _ _ => rfl)) pa_nil)))))) pa_nil))))
, ?_⟩
    have lo := ok.lo
    obtain ⟨row, hl⟩ := look_of_mem hx
    obtain ⟨u, hu, a, us, rfl, ha, hus⟩ := hk.get hl
    have h8 : row.length ≤ 8 := ok.len _ (JM.look_some hl)
    have hlen : us.length = row.length := sda_len hus
    have es : stepsOf n rs x = sortTri (row.map (norm n)) := by unfold stepsOf; rw [hl]; rfl
    refine ⟨_, rfl, _, rfl, d, _, rfl, .inl ⟨kvs, .inr x, .inl hd, rfl, hu.symm⟩, a, rfl, ⟨us, SqL.of ha⟩, fun D hD => ?_⟩
    refine lc_pure walk_list row (fun r => some (norm n r)) eTri hlen (by rw [hlen]; exact Nat.le_trans h8 (by decide)) hD (fun H' s => SqL.of (s _ _ ha)) (fun i z x' H1' H2 N N0 hz s2 yy hN hN0 => ?_) fun H5 us5 s4 hD5 hu5 => ?_
    · obtain ⟨rfl, e2⟩ := yy
      obtain ⟨r, hr2, hs⟩ := item_at hus e2
      rw [hz] at hr2
      cases hr2
      obtain ⟨c, rfl, hc⟩ := sd_tri (hs.sm s2)
      refine ⟨rfl, yesT ?_⟩
      refine ⟨_, rfl, c, _, 0, _, rfl, rfl, SqT.of hc, rfl, _, rfl, c, _, 1, _, rfl, rfl, SqT.of hc, rfl, .inl ⟨_, rfl, _, rfl, _, _, rfl, rfl, (by show 0 < n; omega), _, rfl, c, _, 2, _, rfl, rfl, SqT.of hc, rfl, (by show 3 ≤ sizeLine; decide), fun t nt => hN _ _ _ (same_new nt) rfl (tri_sd upd_same)⟩⟩
    · rw [show row.filterMap (fun r => some (norm n r)) = row.map (norm n) by simp] at hu5
      refine ⟨D, us5, row.map (norm n), fun v b => Sd H5 v (eTri b), rfl, SqL.of hD5, paired_sd hu5, fun v b h => h.dp _, fun p us' np hp' => ?_⟩
      have hs5 := sd_paired hp'
      refine q _ p (s4.free np) (s4.trans (same_new np)) ⟨p, us', rfl, upd_same, ?_⟩
      rw [es]
      exact hs5.sm (same_new np)
theorem sc__law_handed : FnScope ["_law_rules_here", "_law_handed_here", "_law_name"] ["_law_rules_here"] (defScope s__law_handed) := ⟨rfl, rfl, rfl, by decide +kernel, rfl, by decide +kernel, by decide +kernel⟩
-- slots: 0 _law_rules_here, 1 _law_handed_here, 2 _law_name
theorem ok__law_handed (T : Wd K mg) : FnOk P w K mg base CX0 1 T._law_handed.f T._law_handed.fd ["_law_rules_here"] sp__law_handed := by
  refine T._law_handed.F.ok sc__law_handed (fun vs H Q E h => ?_) (fun cdv A outer s H vs Q E hr h => ?_)
  · obtain ⟨v, n, rs, rfl, _⟩ := h
    rfl
  · obtain ⟨v, n, rs, rfl, hv, ok, q⟩ := h
    obtain ⟨d, kvs, rfl, hd, hk⟩ := hv
    refine ⟨_, PSs.nox (pss_cons (ps_set (i := 1) sc__law_handed.nd rfl (.inl rfl) pe_dnewK)
      (pss_cons (ps_lock (ps_for PassesOwn.never rfl (pi_keys (pv 0)) (pg_name (i := 2) sc__law_handed.nd rfl (.inl rfl))
        (pss_one (ps_dput (hu_of hr) (pv 1) (pv 2) (pe_callTy call_list_of (by rfl) T.n_list (by decide +kernel) (pa_cons (pe_dget (hu_of hr) (pv 0) (pv 2) (fun _ _ => rfl)) pa_nil)) rfl))))
      (pss_one (ps_ret (pv 1)))))
, ?_⟩
    intro D hD
    have ndD : d ≠ D := ne_of_none hd hD
    have hd1 : (upd H D (.dK [])) d = some (.dK kvs) := by rw [upd_ne ndD]; exact hd
    refine ⟨d, .dK kvs, hd1, trivial, fun od => ?_⟩
    have hlen : kvs.length = rs.length := hk.len
    have hrl := ok.few.2
    have tb : ∀ {v : V} {l : List Tri}, LAt eTri H v l → LAt eTri (upd (upd H D (.dK [])) d (.frz od (.dK kvs))) v l := fun h => LAt.kx hd1 (fun _ z => nomatch z) (fun _ z => nomatch z) samex_upd (h.sm (same_new hD))
    have hkL : (upd (upd H D (.dK [])) d (.frz od (.dK kvs))) d = some (.frz od (.dK kvs)) := upd_same
    have hDL : (upd (upd H D (.dK [])) d (.frz od (.dK kvs))) D = some (.dK []) := by rw [upd_ne (Ne.symm ndD)]; exact upd_same
    have bk : ∀ H', SameX D (upd (upd H D (.dK [])) d (.frz od (.dK kvs))) H' → Same H (upd H' d (.dK kvs)) := fun H' k b o e => by
      by_cases c : b = d
      · subst c
        rw [upd_same, ← e, hd]
      · have nb : b ≠ D := ne_of_none e hD
        rw [upd_ne c]
        exact k b o nb (by rw [upd_ne c, upd_ne nb]; exact e)
    refine ⟨_, rfl, d, od, rfl, .inl ⟨kvs, upd_same, ?_⟩⟩
    generalize upd (upd H D (.dK [])) d (.frz od (.dK kvs)) = HL at tb hkL hDL bk
    refine for_it walk_keys (fun (i : Nat) (σ : L2.St) (H' : Hp) => SameX D HL H' ∧ (∃ kv, H' D = some (.dK kv) ∧ DkAt (LAt eTri H') kv (rs.take i)) ∧ ∃ x2, σ = [some (.ref d), some (.ref D), x2]) ⟨SameX.refl _ _, ⟨[], hDL, .nil⟩, _, rfl⟩ (fun i σ H' _ p => p.1 _ _ ndD hkL) (fun i x' σ H3 H4 hi' p y => ?_) fun σ H3 p => ?_
    · obtain ⟨s3, ⟨kv, hD3, hkv⟩, x2, rfl⟩ := p
      obtain ⟨rfl, k, v', e2, rfl⟩ := y
      obtain ⟨x, row, e3, rfl, hv'⟩ := hk.at e2
      obtain ⟨u, hg, hu⟩ := hk.get (JM.look_mem ok.nd (mem_at e3))
      have hu3 : LAt eTri H4 u row := LAt.kx hDL (fun _ z => nomatch z) (fun _ z => nomatch z) s3 (tb hu)
      obtain ⟨a, us, rfl, ha, hs⟩ := hu3
      refine ⟨_, rfl, _, rfl, d, _, rfl, .inl ⟨kvs, .inr x, .inr ⟨od, s3 _ _ ndD hkL⟩, rfl, hg.symm⟩, a, us, rfl, .inl (SqL.of ha), fun l nl => ?_⟩
      have nDl : D ≠ l := ne_of_none hD3 nl
      have hD5 : (upd H4 l (.lst us)) D = some (.dK kv) := by rw [upd_ne nDl]; exact hD3
      refine ⟨_, rfl, _, rfl, D, _, rfl, .inl ⟨kv, .inr x, hD5, rfl, ?_, rfl⟩, ?_⟩
      · rw [hkv.len, List.length_take]
        exact Nat.lt_of_le_of_lt (m := 3) (by omega) (by decide)
      have sl : Same H4 (upd H4 l (.lst us)) := same_new nl
      refine ⟨fun b o nb e => by rw [upd_ne nb]; exact sl _ _ (s3 b o nb e), ⟨_, upd_same, ?_⟩, _, rfl⟩
      rw [List.take_add_one, e3]
      have kx : ∀ {v l'}, LAt eTri (upd H4 l (.lst us)) v l' → LAt eTri (upd (upd H4 l (.lst us)) D (.dK (putK kv (.inr x) (.ref l)))) v l' := fun h => LAt.kx hD5 (fun _ z => nomatch z) (fun _ z => nomatch z) samex_upd h
      refine DkAt.put ((hkv.mono fun v b h => h.sm sl).mono fun v b h => kx h) (look_take (p := (x, row)) ok.nd e3) (kx ⟨l, us, rfl, upd_same, hs.sm sl⟩)
    · obtain ⟨s3, ⟨kv, hD3, hkv⟩, x2, rfl⟩ := p
      rw [hlen, List.take_length] at hkv
      refine ⟨s3 _ _ ndD hkL, _, rfl, ?_⟩
      have hkv4 : DkAt (LAt eTri (upd H3 d (.dK kvs))) kv rs := hkv.mono fun v b h => LAt.kx (s3 _ _ ndD hkL) (fun _ z => nomatch z) (fun _ z => nomatch z) samex_upd h
      exact q _ D hD (bk H3 s3) ⟨D, kv, rfl, by rw [upd_ne (Ne.symm ndD)]; exact hD3, hkv4⟩
theorem sc__law_let : FnScope ["_law_rules_here", "_law_around"] ["_law_rules_here", "_law_around"] (defScope s__law_let) := ⟨rfl, rfl, rfl, by decide +kernel, rfl, by decide +kernel, by decide +kernel⟩
-- slots: 0 _law_rules_here, 1 _law_around
theorem ok__law_let (T : Wd K mg) : FnOk P w K mg base CX0 6 T._law_let.f T._law_let.fd ["_law_rules_here", "_law_around"] (sp__law_let T) := by
  have G_Let_init := ok_Let_init (P := P) (w := w) (base := base) T
  have G__law_handed := ok__law_handed (P := P) (w := w) (base := base) T
  refine T._law_let.F.ok sc__law_let (fun vs H Q E h => ?_) (fun cdv A outer s H vs Q E hr h => ?_)
  · obtain ⟨v, n, ws, o, rfl, _⟩ := h
    rfl
  · obtain ⟨v, n, ws, o, rfl, hv, ok, q⟩ := h
    refine ⟨_, PSs.nox (pss_cons (ps_if (pt_cmpR op_isN (pv 0) pe_non (nomark _))
        (pss_one (ps_ret pe_non))
        pss_nil)
      (pss_one (ps_ret (pe_make T.Let_init.mkr G_Let_init (hr.mono (by decide)) (by rfl) T.Let.g T.Let_init.b .nil pass0 (pa_cons (pv 1) (pa_cons (pe_call G__law_handed (hr.mono (by decide)) (by rfl) T._law_handed.g T._law_handed.F.kp T._law_handed.b .nil pass0 (pa_cons (pv 0) pa_nil)) pa_nil))))))
, ?_⟩
    cases o with
    | none =>
      have e : v = .non := hv
      subst e
      exact ⟨_, rfl, rfl, _, rfl, iteT (q H .non (Same.refl _) rfl)⟩
    | some rs =>
      have hv0 := hv
      obtain ⟨d, kvs, rfl, hd, hk⟩ := hv0
      refine ⟨_, rfl, rfl, _, rfl, iteF ⟨_, rfl, _, rfl, .ref d, n, rs, rfl, hv, ok.1, fun H1 p np s1 hp => fun x dx hx hdx nxd => ?_⟩⟩
      obtain ⟨p', kvs', e, hp1, hp2⟩ := hp
      cases e
      have s2 : Same H1 (upd (upd H1 dx (.own x)) x (.ins T.Let.C dx [])) := fun b o e => by rw [upd_ne (ne_of_none e hx), upd_ne (ne_of_none e hdx)]; exact e
      exact ⟨x, dx, p, n, kvs', rs, rfl, upd_same, s2 _ _ hp1, hp2.mono fun v b h => h.sm s2, ok.1, fun H3 k3 l3 => ⟨rfl, q H3 _ (s1.trans (make_same hx hdx k3)) ⟨l3, ok.2⟩⟩⟩
end
end J
/-! The law's steps, first steps, first stands. -/
namespace J
open PySem PySem.Spec PyProof.Rows L2
/-- what the law's own functions know: its model and its rules -/
structure LawIn (H : Hp) (mv rv : V) (n span : Int) (ws : List (PySem.Str × List Row)) (o : RsO) : Prop where
  md : ModelAt H mv n span ws
  rl : RlsAt H rv o
  ok : WsOk n ws
  sp : SpanIs n ws span
  mo : MachOk n ws o
theorem ModelAt.sm {H H' : Hp} {v : V} {n span : Int} {ws : List (PySem.Str × List Row)} (k : Same H H') (h : ModelAt H v n span ws) : ModelAt H' v n span ws := by
  obtain ⟨m, td, rd, ks, e, hm, hp, h1, h2⟩ := h
  exact ⟨m, td, rd, ks, e, k _ _ hm, hp, h1.sm (fun _ _ h => h.sm k) k, h2.sm (fun _ _ h => h.sm k) k⟩
theorem LawIn.sm {H H' : Hp} {mv rv : V} {n span : Int} {ws : List (PySem.Str × List Row)} {o : RsO} (k : Same H H') (h : LawIn H mv rv n span ws o) : LawIn H' mv rv n span ws o := ⟨h.md.sm k, h.rl.sm k, h.ok, h.sp, h.mo⟩
def sp__law_steps : Sp := fun vs H Q _ => ∃ (mv rv : V) (x : PySem.Str) (n span : Int) (ws : List (PySem.Str × List Row)) (o : RsO), vs = [mv, rv, .str x] ∧ LawIn H mv rv n span ws o ∧ x ∈ statesOf o ∧ ∀ H' p L, H p = none → Same H H' → LAt eTri H' (.ref p) L → (∀ s, s ∈ L ↔ s ∈ stepsF n span ws o x) → L.length ≤ 720 → Q (.ref p) H'
def sp__law_firsts : Sp := fun vs H Q _ => ∃ (mv rv : V) (n span : Int) (ws : List (PySem.Str × List Row)) (o : RsO), vs = [mv, rv] ∧ LawIn H mv rv n span ws o ∧ ∀ H' p L, H p = none → Same H H' → LAt eTri H' (.ref p) L → (∀ s, s ∈ L ↔ s ∈ firstsF n ws o) → L.length ≤ 8 → Q (.ref p) H'
theorem tabs_strs {n : Int} {ws : List (PySem.Str × List Row)} {ks : List PySem.Str} : (tabsOf n ws ks).map (fun w => V.str w.1) = ks.map V.str := by
  unfold tabsOf
  rw [List.map_map]
  rfl
theorem flatR_len {α β : Type} (m : Nat) (f : α → Nat → β) : ∀ l : List α, (l.flatMap fun w => (List.range m).map (f w)).length = l.length * m
  | [] => by simp
  | a :: l => by rw [List.flatMap_cons, List.length_append, flatR_len m f l, List.length_map, List.length_range, List.length_cons, Nat.succ_mul, Nat.add_comm]
theorem tabs_keys {n : Int} {ws : List (PySem.Str × List Row)} {ks : List PySem.Str} : (tabsOf n ws ks).map (·.1) = ks := by
  unfold tabsOf
  rw [List.map_map]
  exact List.map_id'' (fun _ => rfl) ks
def sp__law_first_stands : Sp := fun vs H Q _ => ∃ (mv rv : V) (n span : Int) (ws : List (PySem.Str × List Row)) (o : RsO), vs = [mv, rv] ∧ LawIn H mv rv n span ws o ∧ ∀ H' p ys, H p = none → Same H H' → LAt eStand H' (.ref p) ys → (∀ u, u ∈ ys ↔ u ∈ firstsS n span ws o) → ys.length ≤ 1000 → Q (.ref p) H'
theorem rests_look {n span : Int} {ws : List (PySem.Str × List Row)} {ks : List PySem.Str} {x : PySem.Str} (h : x ∈ ks) : JM.look (restsL n span ws ks) x = some ((woOf n span ws).R x) := by
  unfold restsL
  induction ks with
  | nil => cases h
  | cons y r ih =>
    rw [List.map_cons, JM.look_cons]
    by_cases c : y = x
    · rw [if_pos c, c]
    · rw [if_neg c]
      rcases List.mem_cons.mp h with e | e
      · exact absurd e.symm c
      · exact ih e
section
variable {P : Program} {w : World} {K : PySem.W.Frag} {mg : Str → Option Value} {base : Heap}
theorem sc__law_steps : FnScope ["_law_model_here", "_law_rules_here", "_law_state", "_law_words", "_law_steps_here", "_law_word", "_law_turn"] ["_law_model_here", "_law_rules_here", "_law_state"] (defScope s__law_steps) := ⟨rfl, rfl, rfl, by decide +kernel, rfl, by decide +kernel, by decide +kernel⟩
-- slots: 0 _law_model_here, 1 _law_rules_here, 2 _law_state, 3 _law_words, 4 _law_steps_here, 5 _law_word*, 6 _law_turn
theorem ok__law_steps (T : Wd K mg) : FnOk P w K mg base CX0 2 T._law_steps.f T._law_steps.fd ["_law_model_here", "_law_rules_here", "_law_state"] sp__law_steps := by
  have G__law_rules_of := ok__law_rules_of (P := P) (w := w) (base := base) T
  refine T._law_steps.F.ok sc__law_steps (fun vs H Q E h => ?_) (fun cdv A outer s H vs Q E hr h => ?_)
  · obtain ⟨mv, rv, x, n, span, ws, o, rfl, _⟩ := h
    rfl
  · obtain ⟨mv, rv, x, n, span, ws, o, rfl, hI, hx, q⟩ := h
    refine ⟨_, PSs.nox (pss_cons (ps_if (pt_cmpR op_isN (pv 1) pe_non (nomark _))
        (pss_cons (ps_set (i := 3) sc__law_steps.nd rfl (.inl rfl) (pe_callB cr_sortedS (by rfl) T.n_sorted (by decide +kernel) (pa_cons (pe_callTy (call_list_dK rfl) (by rfl) T.n_list (by decide +kernel) (pa_cons (pe_dget (hu_of hr) (pv 0) pe_str (fun _ _ => rfl)) pa_nil)) pa_nil)))
          (pss_cons (ps_set (i := 4) sc__law_steps.nd rfl (.inl rfl) (pe_lst pa_nil))
          (pss_cons (ps_for PassesOwn.never rfl (pi_list (pv 3)) (pg_name (i := 5) sc__law_steps.nd rfl (.inr rfl))
            (pss_one (ps_set (i := 4) sc__law_steps.nd rfl (.inl rfl) (pe_op op_cat (pv 4) (pe_lc (own := [("_law_turn", 6)]) (g := gName 6) rfl sc__law_steps.nd (pi_range1 (by rfl) T.n_range (pa_cons (pe_dget (hu_of hr) (pv 0) pe_str (fun _ _ => rfl)) pa_nil)) (blkOk_by (own := [("_law_turn", 6)]) (N := ["_law_model_here", "_law_rules_here", "_law_state", "_law_words", "_law_steps_here", "_law_word", "_law_turn"]) (sc := defScope s__law_steps) (by decide +kernel)) (fun _ _ _ _ _ => (pg_name (i := 6) sc__law_steps.nd rfl (.inl rfl))) (fun _ _ _ _ _ => pts_nil) (fun _ _ _ _ _ => (pe_tup (pa_cons (pv 5) (pa_cons (pv 6) (pa_cons pe_str pa_nil))))))))))
          (pss_one (ps_ret (pv 4))))))
        pss_nil)
      (pss_one (ps_ret (pe_call G__law_rules_of (hr.mono (by decide)) (by rfl) T._law_rules_of.g T._law_rules_of.F.kp T._law_rules_of.b .nil pass0 (pa_cons (pv 1) (pa_cons (pe_dget (hu_of hr) (pv 0) pe_str (fun _ _ => rfl)) (pa_cons (pv 2) pa_nil)))))))
, ?_⟩
    obtain ⟨m, td, rd, ks, rfl, hm, perm, ht, hr⟩ := hI.md
    have hspan := hI.sp.lo
    have hsp2 := hI.sp.hi
    have lo := hI.ok.lo
    have hi := hI.ok.hi
    have hksl : ks.length ≤ 2 := by
      rw [perm.length_eq, List.length_map]
      rcases hI.ok.form with ⟨r, rfl⟩ | ⟨r, rfl⟩ | ⟨r, r', rfl⟩ <;> simp
    cases o with
    | none =>
      have e : rv = .non := hI.rl
      subst e
      obtain ⟨d, kvs, rfl, hd, hk⟩ := ht
      refine ⟨_, rfl, rfl, _, rfl, iteT ?_⟩
      refine ⟨_, rfl, m, _, rfl, .inl ⟨_, .inr "tables", .inl hm, rfl, rfl⟩, d, kvs, rfl, hd, fun l hl => ⟨l, ks, rfl, SqL.of ?_, by omega, fun ys p perm2 _ np => ?_⟩⟩
      · rw [upd_same, hk.keys, tabs_strs]
      have s1 : Same H (upd (upd H l (.lst (kvs.map fun kv => kV kv.1))) p (.lst (ys.map V.str))) := (same_new hl).trans (same_new np)
      have hp1 : (upd (upd H l (.lst (kvs.map fun kv => kV kv.1))) p (.lst (ys.map V.str))) p = some (.lst (ys.map V.str)) := upd_same
      generalize upd (upd H l (.lst (kvs.map fun kv => kV kv.1))) p (.lst (ys.map V.str)) = H1 at s1 hp1
      have hyl : ys.length ≤ 2 := by rw [perm2.length_eq]; exact hksl
      refine ⟨Nat.zero_le _, fun L0 hL0 => ?_⟩
      have s2 : Same H (upd H1 L0 (.lst [])) := s1.trans (same_new' hL0)
      refine ⟨_, rfl, p, rfl, ⟨_, SqL.of (same_new' hL0 _ _ hp1)⟩, ?_⟩
      refine for_it walk_list (fun (k : Nat) (σ : L2.St) (H' : Hp) => Same H H' ∧ H' p = some (.lst (ys.map V.str)) ∧ ∃ L x5 x6, H L = none ∧ LAt eTri H' (.ref L) ((ys.take k).flatMap fun w => (List.range span.toNat).map fun (t : Nat) => ((w, ((t : Int), ("" : PySem.Str))) : Tri)) ∧ σ = [some (.ref m), some .non, some (.str x), some (.ref p), some (.ref L), x5, x6]) ⟨s2, same_new' hL0 _ _ hp1, L0, _, _, s1.free hL0, ⟨L0, [], rfl, upd_same, .nil⟩, rfl⟩ (fun k σ H' _ p => SqL.of p.2.1) (fun k x' σ H3 H4 hkl pv y => ?_) fun σ H3 pv => ?_
      · obtain ⟨s3, hp3, L, x5, x6, nL, hL3, rfl⟩ := pv
        obtain ⟨rfl, e2⟩ := y
        obtain ⟨w0, hw0, rfl⟩ := at_map e2
        rw [List.length_map] at hkl
        refine ⟨_, rfl, _, rfl, m, _, rfl, .inl ⟨_, .inr "span", .inl (s3 _ _ hm), rfl, rfl⟩, span, rfl, by omega, by omega, fun D hD => ?_⟩
        refine lc_pure walk_range (List.range span.toNat) (fun (t : Nat) => some ((w0, ((t : Int), ("" : PySem.Str))) : Tri)) eTri (by rw [List.length_range]) (Nat.le_trans (m := 360) (by omega) (by decide)) hD (fun _ _ => trivial) (fun j z y' H5 H6 N N0 hz s5 yy hN hN0 => ?_) fun H5 us s5 hD5 hu5 => ?_
        · obtain ⟨rfl, rfl⟩ := yy
          obtain ⟨hj, e⟩ := List.getElem?_eq_some_iff.mp hz
          rw [List.getElem_range] at e
          subst e
          refine ⟨rfl, yesT ⟨_, rfl, _, rfl, by show 3 ≤ sizeLine; decide, fun t nt => hN _ _ _ (same_new nt) rfl (tri_sd ?_)⟩⟩
          rw [show (j : Int) = 0 + (j : Int) by omega]
          exact upd_same
        · rw [show (List.range span.toNat).filterMap (fun (t : Nat) => some ((w0, ((t : Int), ("" : PySem.Str))) : Tri)) = (List.range span.toNat).map (fun (t : Nat) => ((w0, ((t : Int), ("" : PySem.Str))) : Tri)) by simp] at hu5
          obtain ⟨L', us', e, hL', hus'⟩ := hL3.sm s5
          cases e
          have e : (ys.take (k + 1)).flatMap (fun w => (List.range span.toNat).map fun (t : Nat) => ((w, ((t : Int), ("" : PySem.Str))) : Tri)) = (ys.take k).flatMap (fun w => (List.range span.toNat).map fun (t : Nat) => ((w, ((t : Int), ("" : PySem.Str))) : Tri)) ++ (List.range span.toNat).map fun (t : Nat) => ((w0, ((t : Int), ("" : PySem.Str))) : Tri) := by
            rw [List.take_add_one, hw0, List.flatMap_append]
            show _ ++ ([w0].flatMap _) = _
            rw [List.flatMap_cons, List.flatMap_nil, List.append_nil]
          refine ⟨L, D, us', us, rfl, rfl, hL', hD5, ?_, fun p2 np2 => ⟨s3.trans (s5.trans (same_new np2)), ?_, p2, _, _, (s3.trans s5).free np2, ⟨p2, us' ++ us, rfl, upd_same, ?_⟩, rfl⟩⟩
          · have l1 := sda_len hus'
            have l2 := sda_len hu5
            rw [flatR_len] at l1
            rw [List.length_map, List.length_range] at l2
            rw [l1, l2, List.length_take]
            have : min k ys.length * span.toNat ≤ 2 * 360 := Nat.mul_le_mul (by omega) (by omega)
            exact Nat.le_trans (m := 1080) (by omega) (by decide)
          · rw [upd_ne (ne_of_none (s5 _ _ hp3) np2)]
            exact s5 _ _ hp3
          · rw [e, List.map_append]
            exact (hus'.sm (same_new np2)).app (hu5.sm (same_new np2))
      · obtain ⟨s3, hp3, L, x5, x6, nL, hL3, rfl⟩ := pv
        rw [List.length_map, List.take_length] at hL3
        refine ⟨_, rfl, q H3 L _ nL s3 hL3 (fun s => ?_) ?_⟩
        · show _ ↔ s ∈ (ws.map (·.1)).flatMap _
          rw [List.mem_flatMap, List.mem_flatMap]
          have pm := perm2.trans perm
          exact ⟨fun ⟨w, h1, h2⟩ => ⟨w, pm.mem_iff.mp h1, h2⟩, fun ⟨w, h1, h2⟩ => ⟨w, pm.mem_iff.mpr h1, h2⟩⟩
        · rw [flatR_len]
          have : ys.length * span.toNat ≤ 2 * 360 := Nat.mul_le_mul hyl (by omega)
          omega
    | some rs =>
      have hrl : DAt (LAt eTri) H rv rs := hI.rl
      have hrl0 := hrl
      obtain ⟨d, kvs, rfl, hd, hk⟩ := hrl0
      refine ⟨_, rfl, rfl, _, rfl, iteF ?_⟩
      refine ⟨_, rfl, _, rfl, m, _, rfl, .inl ⟨_, .inr "around", .inl hm, rfl, rfl⟩, _, rfl, .ref d, n, x, rs, rfl, hrl, hI.mo.1, hx, fun H1 p np s1 h1 => ?_⟩
      exact q H1 p _ np s1 h1 (fun _ => Iff.rfl) (Nat.le_trans (stepsOf_len hI.mo.1 _) (by decide))
theorem sc__law_firsts : FnScope ["_law_model_here", "_law_rules_here", "_law_firsts_here", "_law_word"] ["_law_model_here", "_law_rules_here"] (defScope s__law_firsts) := ⟨rfl, rfl, rfl, by decide +kernel, rfl, by decide +kernel, by decide +kernel⟩
-- slots: 0 _law_model_here, 1 _law_rules_here, 2 _law_firsts_here, 3 _law_word
theorem ok__law_firsts (T : Wd K mg) : FnOk P w K mg base CX0 2 T._law_firsts.f T._law_firsts.fd ["_law_model_here", "_law_rules_here"] sp__law_firsts := by
  have G__law_rules_of := ok__law_rules_of (P := P) (w := w) (base := base) T
  refine T._law_firsts.F.ok sc__law_firsts (fun vs H Q E h => ?_) (fun cdv A outer s H vs Q E hr h => ?_)
  · obtain ⟨mv, rv, n, span, ws, o, rfl, _⟩ := h
    rfl
  · obtain ⟨mv, rv, n, span, ws, o, rfl, hI, q⟩ := h
    refine ⟨_, PSs.nox (pss_cons (ps_set (i := 2) sc__law_firsts.nd rfl (.inl rfl) (pe_lst pa_nil))
      (pss_cons (ps_if (pt_cmpR op_isN (pv 1) pe_non (nomark _))
        (pss_one (ps_setLc (i := 2) (own := [("_law_word", 3)]) rfl sc__law_firsts.nd rfl rfl (sw_true rfl rfl rfl (by decide +kernel)) (g := gName 3) (pi_list (pe_callB cr_sortedS (by rfl) T.n_sorted (by decide +kernel) (pa_cons (pe_callTy (call_list_dK rfl) (by rfl) T.n_list (by decide +kernel) (pa_cons (pe_dget (hu_of hr) (pv 0) pe_str (fun _ _ => rfl)) pa_nil)) pa_nil))) (blkOk_by (own := [("_law_word", 3)]) (N := ["_law_model_here", "_law_rules_here", "_law_firsts_here", "_law_word"]) (sc := defScope s__law_firsts) (by decide +kernel)) (fun _ _ _ _ _ => (pg_name (i := 3) sc__law_firsts.nd rfl (.inl rfl))) (fun _ _ _ _ _ => pts_nil) (fun _ _ _ _ _ => (pe_tup (pa_cons (pv 3) (pa_cons pe_int (pa_cons pe_str pa_nil)))))))
        pss_nil)
      (pss_cons (ps_if (pt_cmpR op_notN (pv 1) pe_non (nomark _))
        (pss_one (ps_set (i := 2) sc__law_firsts.nd rfl (.inl rfl) (pe_call G__law_rules_of (hr.mono (by decide)) (by rfl) T._law_rules_of.g T._law_rules_of.F.kp T._law_rules_of.b .nil pass0 (pa_cons (pv 1) (pa_cons (pe_dget (hu_of hr) (pv 0) pe_str (fun _ _ => rfl)) (pa_cons pe_str pa_nil))))))
        pss_nil)
      (pss_one (ps_ret (pv 2))))))
, ?_⟩
    obtain ⟨m, td, rd, ks, rfl, hm, perm, ht, hr⟩ := hI.md
    have hksl : ks.length ≤ 2 := by
      rw [perm.length_eq, List.length_map]
      rcases hI.ok.form with ⟨r, rfl⟩ | ⟨r, rfl⟩ | ⟨r, r', rfl⟩ <;> simp
    refine ⟨Nat.zero_le _, fun L0 hL0 => ?_⟩
    have s0 : Same H (upd H L0 (.lst [])) := same_new' hL0
    cases o with
    | none =>
      have e : rv = .non := hI.rl
      subst e
      obtain ⟨d, kvs, rfl, hd, hk⟩ := ht
      refine ⟨_, rfl, rfl, _, rfl, iteT ?_⟩
      refine ⟨_, rfl, m, _, rfl, .inl ⟨_, .inr "tables", .inl (s0 _ _ hm), rfl, rfl⟩, d, kvs, rfl, s0 _ _ hd, fun l hl => ⟨l, ks, rfl, SqL.of ?_, by omega, fun ys p perm2 _ np => ?_⟩⟩
      · rw [upd_same, hk.keys, tabs_strs]
      have s1 : Same H (upd (upd (upd H L0 (.lst [])) l (.lst (kvs.map fun kv => kV kv.1))) p (.lst (ys.map V.str))) := s0.trans ((same_new hl).trans (same_new np))
      have hp1 : (upd (upd (upd H L0 (.lst [])) l (.lst (kvs.map fun kv => kV kv.1))) p (.lst (ys.map V.str))) p = some (.lst (ys.map V.str)) := upd_same
      generalize upd (upd (upd H L0 (.lst [])) l (.lst (kvs.map fun kv => kV kv.1))) p (.lst (ys.map V.str)) = H1 at s1 hp1
      have hyl : ys.length ≤ 2 := by rw [perm2.length_eq]; exact hksl
      refine ⟨p, rfl, ⟨_, SqL.of hp1⟩, fun D hD => ?_⟩
      refine lc_pure walk_list ys (fun w => some ((w, ((0 : Int), ("" : PySem.Str))) : Tri)) eTri (by simp) (by rw [List.length_map]; exact Nat.le_trans hyl (by decide)) hD (fun H' s => SqL.of (s _ _ hp1)) (fun i z x' H2 H3 N N0 hz s2 yy hN hN0 => ?_) fun H5 us5 s4 hD5 hu5 => ?_
      · obtain ⟨rfl, e2⟩ := yy
        obtain ⟨x, hx, rfl⟩ := at_map e2
        rw [hz] at hx
        cases hx
        exact ⟨rfl, yesT ⟨_, rfl, by show 3 ≤ sizeLine; decide, fun t nt => hN _ _ _ (same_new nt) rfl (tri_sd upd_same)⟩⟩
      · rw [show ys.filterMap (fun w => some ((w, ((0 : Int), ("" : PySem.Str))) : Tri)) = ys.map (fun w => ((w, ((0 : Int), ("" : PySem.Str))) : Tri)) by simp] at hu5
        refine ⟨_, rfl, rfl, _, rfl, iteF ⟨_, rfl, ?_⟩⟩
        refine q H5 D _ (s1.free hD) (s1.trans s4) ⟨D, us5, rfl, hD5, hu5⟩ (fun s => ?_) (by rw [List.length_map]; omega)
        show s ∈ _ ↔ s ∈ (ws.map (·.1)).map _
        have pm := perm2.trans perm
        rw [List.mem_map, List.mem_map]
        exact ⟨fun ⟨w, h1, h2⟩ => ⟨w, pm.mem_iff.mp h1, h2⟩, fun ⟨w, h1, h2⟩ => ⟨w, pm.mem_iff.mpr h1, h2⟩⟩
    | some rs =>
      have hrl : DAt (LAt eTri) H rv rs := hI.rl
      obtain ⟨d, kvs, rfl, hd, hk⟩ := hrl
      refine ⟨_, rfl, rfl, _, rfl, iteF ?_⟩
      refine ⟨_, rfl, rfl, _, rfl, iteT ?_⟩
      refine ⟨_, rfl, _, rfl, m, _, rfl, .inl ⟨_, .inr "around", .inl (s0 _ _ hm), rfl, rfl⟩, .ref d, n, "start", rs, rfl, ⟨d, kvs, rfl, s0 _ _ hd, hk.mono fun v b h => h.sm s0⟩, hI.mo.1, hI.mo.1.start, fun H1 p np s1 h1 => ?_⟩
      exact ⟨_, rfl, q H1 p _ (s0.free np) (s0.trans s1) h1 (fun _ => Iff.rfl) (stepsOf_len hI.mo.1 _)⟩
theorem sc__law_first_stands : FnScope ["_law_model_here", "_law_rules_here", "_law_due", "_law_first", "_law_many", "_law_i"] ["_law_model_here", "_law_rules_here"] (defScope s__law_first_stands) := ⟨rfl, rfl, rfl, by decide +kernel, rfl, by decide +kernel, by decide +kernel⟩
-- slots: 0 _law_model_here, 1 _law_rules_here, 2 _law_due, 3 _law_first, 4 _law_many, 5 _law_i
theorem ok__law_first_stands (T : Wd K mg) : FnOk P w K mg base CX0 3 T._law_first_stands.f T._law_first_stands.fd ["_law_model_here", "_law_rules_here"] sp__law_first_stands := by
  have G__law_firsts := ok__law_firsts (P := P) (w := w) (base := base) T
  refine T._law_first_stands.F.ok sc__law_first_stands (fun vs H Q E h => ?_) (fun cdv A outer s H vs Q E hr h => ?_)
  · obtain ⟨mv, rv, n, span, ws, o, rfl, _⟩ := h
    rfl
  · obtain ⟨mv, rv, n, span, ws, o, rfl, hI, q⟩ := h
    have ok := hI.ok
    have hsp := hI.sp
    have mok := hI.mo
    have Kw := woOf_ok ok hsp
    obtain ⟨m, td, rd, ks0, rfl, hm, perm, ht, hr⟩ := hI.md
    obtain ⟨rd, kvr, rfl, hrd, hkr⟩ := hr
    refine ⟨_, PSs.nox (pss_cons (ps_set (i := 2) sc__law_first_stands.nd rfl (.inl rfl) (pe_lst pa_nil))
      (pss_cons (ps_for PassesOwn.never rfl (pi_list (pe_call G__law_firsts (hr.mono (by decide)) (by rfl) T._law_firsts.g T._law_firsts.F.kp T._law_firsts.b .nil pass0 (pa_cons (pv 0) (pa_cons (pv 1) pa_nil)))) (pg_name (i := 3) sc__law_first_stands.nd rfl (.inl rfl))
        (pss_cons (ps_set (i := 4) sc__law_first_stands.nd rfl (.inl rfl) (pe_callB call_len_seq (by rfl) T.n_len (by decide +kernel) (pa_cons (pe_dget (hu_of hr) (pe_dget (hu_of hr) (pv 0) pe_str (fun _ _ => rfl)) (pe_ix ix_tup (pv 3) pe_int (fun _ _ => rfl)) (fun _ _ => rfl)) pa_nil)))
          (pss_one (ps_for PassesOwn.never rfl (pi_range1 (by rfl) T.n_range (pa_cons (pv 4) pa_nil)) (pg_name (i := 5) sc__law_first_stands.nd rfl (.inl rfl))
          (pss_one (ps_expr (pe_bm PySem.F.plainAttrs_list PySem.F.slot_list_append PySem.F.type_list_append mt_append (pv 2) (pa_cons (pe_tup (pa_cons (pe_ix ix_tup (pv 3) pe_int (fun _ _ => rfl)) (pa_cons (pe_ix ix_tup (pv 3) pe_int (fun _ _ => rfl)) (pa_cons (pv 5) (pa_cons (pe_op op_sub (pe_op op_add (pv 5) (pv 4)) pe_int) pa_nil))))) pa_nil))))))))
      (pss_one (ps_ret (pe_callB (cr_sortedM rfl hr.units) (by rfl) T.n_sorted (by decide +kernel) (pa_cons (pe_callTy (cr_setM rfl hr.units) (by rfl) T.n_set (by decide +kernel) (pa_cons (pv 2) pa_nil)) pa_nil))))))
, ?_⟩
    refine ⟨Nat.zero_le _, fun F hF => ?_⟩
    have s3 : Same H (upd H F (.lst [])) := same_new hF
    have hF3 : (upd H F (.lst [])) F = some (.lst []) := upd_same
    refine ⟨_, rfl, _, rfl, .ref m, rv, n, span, ws, o, rfl, hI.sm s3, fun H4 la L nla s4 hL4 hmem hLl => ?_⟩
    obtain ⟨la', lus, e, hla, hlus⟩ := hL4
    cases e
    have hF4 := s4 _ _ hF3
    have lul := sda_len hlus
    have m12 : ∀ s ∈ firstsF n ws o, (standsOf (woOf n span ws) s).length ≤ 12 := fun s hs => by
      have := Kw.m_le (w := s.1) (firsts_in mok hs).1
      unfold standsOf
      rw [List.length_map, List.length_range]
      omega
    have flen : ∀ i, ((L.take i).flatMap (standsOf (woOf n span ws))).length ≤ i * 12 := fun i => by
      induction i with
      | zero => simp
      | succ i ih =>
        by_cases c : i < L.length
        · rw [List.take_add_one, List.getElem?_eq_getElem c, List.flatMap_append, List.length_append]
          have := m12 L[i] ((hmem _).mp (List.getElem_mem c))
          have e : (List.flatMap (standsOf (woOf n span ws)) (some L[i]).toList).length = (standsOf (woOf n span ws) L[i]).length := by simp
          rw [e]
          omega
        · rw [List.take_of_length_le (by omega)] at ih ⊢
          omega
    have nlF : la ≠ F := fun z => by
      rw [z, upd_same] at nla
      cases nla
    have s04 := s3.trans s4
    refine ⟨la, rfl, ⟨lus, SqL.of hla⟩, ?_⟩
    refine for_it walk_list (fun (i : Nat) (σ : L2.St) (H' : Hp) => Same H H' ∧ H' la = some (.lst lus) ∧ SdAll H' lus (L.map eTri) ∧ (∃ us, H' F = some (.lst us) ∧ SdAll H' us (((L.take i).flatMap (standsOf (woOf n span ws))).map eStand)) ∧ ∃ x3 x4 x5, σ = [some (.ref m), some rv, some (.ref F), x3, x4, x5])
      ⟨s04, hla, hlus, ⟨[], hF4, .nil⟩, _, _, _, rfl⟩ (fun i σ H' _ p => SqL.of p.2.1) (fun i x' σ H5 H6 hi p yy => ?_) fun σ H5 p => ?_
    · obtain ⟨s5, hla5, hlus5, ⟨us5, hF5, d5⟩, x3, x4, x5, rfl⟩ := p
      obtain ⟨rfl, e2⟩ := yy
      obtain ⟨s, hs, hsd⟩ := item_at hlus5 e2
      obtain ⟨c, rfl, hc⟩ := sd_tri hsd
      have hin := firsts_in mok ((hmem s).mp (mem_at hs))
      obtain ⟨u, hu, lx, usx, rfl, hlx, husx⟩ := hkr.get (rests_look (n := n) (span := span) (ws := ws) (perm.mem_iff.mpr hin.1))
      have lenx := sda_len husx
      have emx : (usx.length : Int) = (woOf n span ws).m s.1 := by rw [lenx]; rfl
      have mx := Kw.m_pos (w := s.1) hin.1
      have mx2 := Kw.m_le (w := s.1) hin.1
      refine ⟨_, rfl, m, _, rfl, .inl ⟨_, .inr "rests", .inl (s5 _ _ hm), rfl, rfl⟩, _, rfl, c, _, 0, _, rfl, rfl, SqT.of hc, rfl, rd, _, rfl, .inl ⟨kvr, .inr s.1, .inl (s5 _ _ hrd), rfl, hu.symm⟩, lx, usx, rfl, .inl (SqL.of (s5 _ _ hlx)), ?_⟩
      rw [emx]
      refine ⟨_, rfl, _, rfl, by omega, by omega, ?_⟩
      have f1 := flen i
      refine for_it walk_range (fun (j : Nat) (σ : L2.St) (H' : Hp) => Same H H' ∧ Ft H6 H' ∧ H' la = some (.lst lus) ∧ (∃ us, H' F = some (.lst us) ∧ SdAll H' us (((L.take i).flatMap (standsOf (woOf n span ws)) ++ (standsOf (woOf n span ws) s).take j).map eStand)) ∧ ∃ x5, σ = [some (.ref m), some rv, some (.ref F), some (.ref c), some (.int ((woOf n span ws).m s.1)), x5])
        ⟨s5, (fun _ _ h => h), hla5, ⟨us5, hF5, by rw [List.take_zero, List.append_nil]; exact d5⟩, _, rfl⟩ (fun i σ H' _ p => trivial) (fun j x'' σ H7 H7' hj p yy => ?_) fun σ H7 p => ?_
      · obtain ⟨s7, f7, hla7, ⟨us7, hF7, d7⟩, y5, rfl⟩ := p
        obtain ⟨rfl, rfl⟩ := yy
        have hc7 := f7 _ _ hc
        refine ⟨_, rfl, .inl ⟨rfl, _, SqL.of hF7⟩, _, rfl, c, _, 2, _, rfl, rfl, SqT.of hc7, rfl, _, rfl, c, _, 0, _, rfl, rfl, SqT.of hc7, rfl, _, rfl, _, rfl, _, rfl, _, _, rfl, rfl, _, 1, rfl, rfl, (by show 4 ≤ sizeLine; decide), fun t nt => ?_⟩
        have nFt : F ≠ t := ne_of_none hF7 nt
        have hFt : (upd H7' t (.tup [.str s.2.2, .str s.1, .int (0 + (j : Int)), .int (0 + (j : Int) + (woOf n span ws).m s.1 - 1)])) F = some (.lst us7) := by rw [upd_ne nFt]; exact hF7
        refine ⟨F, us7, .ref t, rfl, rfl, hFt, ?_, ?_⟩
        · have := sda_len d7
          rw [List.length_append, List.length_take] at this
          exact Nat.lt_of_le_of_lt (m := 1000) (by omega) (by decide)
        have kF : Ft H7' (upd (upd H7' t (.tup [.str s.2.2, .str s.1, .int (0 + (j : Int)), .int (0 + (j : Int) + (woOf n span ws).m s.1 - 1)])) F (.lst (us7 ++ [.ref t]))) := (ft_of (same_new nt)).trans (ft_upd hFt fun _ z => nomatch z)
        refine ⟨fun b o e => ?_, f7.trans kF, ?_, ⟨us7 ++ [.ref t], upd_same, ?_⟩, _, rfl⟩
        · have e7 := s7 _ _ e
          rw [upd_ne (ne_of_none e hF), upd_ne (ne_of_none e7 nt)]
          exact e7
        · rw [upd_ne nlF, upd_ne (ne_of_none hla7 nt)]
          exact hla7
        · have ej : (standsOf (woOf n span ws) s)[j]? = some (s.2.2, (s.1, ((j : Int), (j : Int) + (woOf n span ws).m s.1 - 1))) := by
            unfold standsOf
            rw [List.getElem?_map, List.getElem?_range (by omega)]
            rfl
          rw [List.take_add_one, ej, ← List.append_assoc, List.map_append]
          refine (d7.mt kF).snoc (stand_sd ?_)
          rw [upd_ne (Ne.symm nFt), upd_same, show (0 + (j : Int)) = (j : Int) by omega]
      · obtain ⟨s7, f7, hla7, ⟨us7, hF7, d7⟩, y5, rfl⟩ := p
        refine ⟨s7, hla7, hlus5.mt f7, ⟨us7, hF7, ?_⟩, _, _, _, rfl⟩
        rw [List.take_add_one, hs, List.flatMap_append]
        have e : (List.flatMap (standsOf (woOf n span ws)) (some s).toList) = standsOf (woOf n span ws) s := by simp
        rw [e]
        have e3 : (standsOf (woOf n span ws) s).take ((woOf n span ws).m s.1).toNat = standsOf (woOf n span ws) s := List.take_of_length_le (by unfold standsOf; rw [List.length_map, List.length_range]; exact Nat.le_refl _)
        rw [e3] at d7
        exact d7
    · obtain ⟨s5, hla5, hlus5, ⟨us5, hF5, d5⟩, x4, x5, x6, rfl⟩ := p
      rw [lul, List.take_length] at d5
      have fl := flen L.length
      rw [List.take_length] at fl
      obtain ⟨ks, hks, hk2, hk3⟩ := sda_keys d5
      subst hks
      have hkl : ks.length ≤ 96 := by
        have := congrArg List.length hk2
        rw [List.length_map, List.length_map] at this
        omega
      have hall : ∀ p ∈ ks, p.2 ∈ (L.flatMap (standsOf (woOf n span ws))).map kSt := fun p hp => by
        rw [← hk2]
        exact List.mem_map.mpr ⟨p, hp, rfl⟩
      refine ⟨_, rfl, F, ks, rfl, SqL.of hF5, hk3, by omega, ⟨firstKeys (woOf n span ws) (statesOf o), firstKeys_len _ mok.few (by show (ws.map (·.1)).length ≤ 2; rw [List.length_map]; exact ok.short), fun p hp => ?_⟩, fun a Ls ha hnd h1 h2 => ?_⟩
      · obtain ⟨u, hu, e⟩ := List.mem_map.mp (hall p hp)
        obtain ⟨s, hs, h⟩ := List.mem_flatMap.mp hu
        obtain ⟨i, hi, rfl⟩ := mem_stands.mp h
        have hin := firsts_in mok ((hmem s).mp hs)
        have m := Kw.m_le (w := s.1) hin.1
        rw [← e]
        exact List.mem_flatMap.mpr ⟨s.2.2, hin.2, List.mem_flatMap.mpr ⟨s.1, hin.1, List.mem_map.mpr ⟨i, List.mem_range.mpr (by omega), rfl⟩⟩⟩
      · obtain ⟨sts, e1, e2⟩ := keys_back (ys := L.flatMap (standsOf (woOf n span ws))) (L := Ls.map (·.2)) fun k hk => by
          obtain ⟨p, hp, rfl⟩ := List.mem_map.mp hk
          exact hall p (h1 p hp)
        have sa : Same H5 (upd H5 a (MsO P w a Ls)) := same_new ha
        have stl : sts.length ≤ 1000 := by
          have := nodup_len (m := ks.map (·.2)) hnd fun k hk => by
            obtain ⟨p, hp, rfl⟩ := List.mem_map.mp hk
            exact List.mem_map.mpr ⟨p, h1 p hp, rfl⟩
          rw [e1, List.length_map, List.length_map] at this
          omega
        refine ⟨a, Ls, sts, rfl, upd_same, e1, fun p hp => sa _ _ (hk3 p (h1 p hp)), fun p us ys hp hperm hus => ?_⟩
        have nh := (s5.trans sa).free hp
        refine q _ p ys nh ((s5.trans sa).trans (same_new hp)) ⟨p, us, rfl, upd_same, hus.sm (same_new hp)⟩ (fun u => ?_) (by rw [hperm.length_eq]; exact stl)
        rw [hperm.mem_iff]
        have fin : u ∈ L.flatMap (standsOf (woOf n span ws)) ↔ u ∈ firstsS n span ws o := by
          unfold firstsS
          rw [List.mem_flatMap, List.mem_flatMap]
          exact ⟨fun ⟨s, a, b⟩ => ⟨s, (hmem s).mp a, b⟩, fun ⟨s, a, b⟩ => ⟨s, (hmem s).mpr a, b⟩⟩
        rw [← fin]
        constructor
        · exact fun h => e2 u h
        · intro h
          have hk : kSt u ∈ ks.map (·.2) := by rw [hk2]; exact List.mem_map.mpr ⟨u, h, rfl⟩
          obtain ⟨p, hp, e⟩ := List.mem_map.mp hk
          have := h2 p hp
          have e' : p.2 = kSt u := e
          rw [e', e1] at this
          obtain ⟨u', hu', e3⟩ := List.mem_map.mp this
          rw [← kst_inj e3]
          exact hu'
end
end J
/-! The law's own way of a cut. -/
namespace J
open PySem PySem.Spec PyProof.Rows L2
def sp__law_carried : Sp := fun vs H Q _ => ∃ (mv rv v2 : V) (a : PySem.Str) (k n span : Int) (ws : List (PySem.Str × List Row)) (o : RsO) (s : Tri), vs = [mv, .str a, .int k, v2] ∧ LawIn H mv rv n span ws o ∧ Sd H v2 (eTri s) ∧ a ∈ ws.map (·.1) ∧ s.1 ∈ ws.map (·.1) ∧ Q (.int ((woOf n span ws).car a k s.1 s.2.1)) H
def sp__law_behind : Sp := fun vs H Q _ => ∃ (mv rv v1 v2 : V) (n span : Int) (ws : List (PySem.Str × List Row)) (o : RsO) (u : Stand) (s : Tri), vs = [mv, v1, v2] ∧ LawIn H mv rv n span ws o ∧ Sd H v1 (eStand u) ∧ Sd H v2 (eTri s) ∧ u.2.1 ∈ ws.map (·.1) ∧ s.1 ∈ ws.map (·.1) ∧
  ∀ H' v, Same H H' → Sd H' v (eOpt ((woOf n span ws).behind u s)) → Q v H'
def sp__law_is_index : Sp := fun vs H Q _ => ∃ i lo hi : Int, vs = [.int i, .int lo, .int hi] ∧ lo ≤ i ∧ i < hi ∧ Q (.bl true) H
def sp__law_is_open : Sp := fun vs H Q _ => ∃ (mv rv v : V) (n span : Int) (ws : List (PySem.Str × List Row)) (o : RsO) (u : Stand), vs = [mv, rv, v] ∧ LawIn H mv rv n span ws o ∧ Sd H v (eStand u) ∧ JM.Good (woOf n span ws) (statesOf o) u ∧ ¬ JM.Closed u ∧ Q (.bl true) H
section
variable {P : Program} {w : World} {K : PySem.W.Frag} {mg : Str → Option Value} {base : Heap}
theorem sc__law_carried : FnScope ["_law_model_here", "_law_word", "_law_number", "_law_rule", "_law_rests", "_law_goals", "_law_span_here", "_law_place"] ["_law_model_here", "_law_word", "_law_number", "_law_rule"] (defScope s__law_carried) := ⟨rfl, rfl, rfl, by decide +kernel, rfl, by decide +kernel, by decide +kernel⟩
-- slots: 0 _law_model_here, 1 _law_word, 2 _law_number, 3 _law_rule, 4 _law_rests, 5 _law_goals, 6 _law_span_here, 7 _law_place
theorem ok__law_carried (T : Wd K mg) : FnOk P w K mg base CX0 2 T._law_carried.f T._law_carried.fd ["_law_model_here", "_law_word", "_law_number", "_law_rule"] sp__law_carried := by
  have G__law_lift := ok__law_lift (P := P) (w := w) (base := base) T
  refine T._law_carried.F.ok sc__law_carried (fun vs H Q E h => ?_) (fun cdv A outer s H vs Q E hr h => ?_)
  · obtain ⟨mv, rv, v2, a, k, n, span, ws, o, s, rfl, _⟩ := h
    rfl
  · obtain ⟨mv, rv, v2, a, k, n, span, ws, o, s, rfl, hI, hs, hx, hy, q⟩ := h
    have ok := hI.ok
    have hsp := hI.sp
    have Kw := woOf_ok ok hsp
    obtain ⟨m, td, rd, ks0, rfl, hm, perm, ht, hr⟩ := hI.md
    obtain ⟨rd, kvr, rfl, hrd, hkr⟩ := hr
    obtain ⟨td, kvt, rfl, htd, hkt⟩ := ht
    obtain ⟨c, rfl, hc⟩ := sd_tri hs
    obtain ⟨ux, hux, Lx⟩ := hkr.get (rests_look (n := n) (span := span) (ws := ws) (perm.mem_iff.mpr hx))
    obtain ⟨uy, huy, Ly⟩ := hkr.get (rests_look (n := n) (span := span) (ws := ws) (perm.mem_iff.mpr hy))
    obtain ⟨ut, hut, Lt⟩ := hkt.get (tabs_look (n := n) (ws := ws) (perm.mem_iff.mpr hy))
    obtain ⟨lx, rfl, hlx⟩ := Lx.ints
    obtain ⟨ly, rfl, hly⟩ := Ly.ints
    have mx := Kw.m_pos (w := a) hx
    have mx2 := Kw.m_le (w := a) hx
    have my := Kw.m_pos (w := s.1) hy
    have my2 := Kw.m_le (w := s.1) hy
    have sp0 := hsp.lo
    have sp1 := hsp.hi
    have n3 := ok.hi
    have ex : (((((woOf n span ws).R a).map V.int).length : Nat) : Int) = (woOf n span ws).m a := by rw [List.length_map]; rfl
    have ey : (((((woOf n span ws).R s.1).map V.int).length : Nat) : Int) = (woOf n span ws).m s.1 := by rw [List.length_map]; rfl
    refine ⟨_, PSs.nox (pss_cons (ps_set (i := 4) sc__law_carried.nd rfl (.inl rfl) (pe_dget (hu_of hr) (pe_dget (hu_of hr) (pv 0) pe_str (fun _ _ => rfl)) (pv 1) (fun _ _ => rfl)))
      (pss_cons (ps_set (i := 5) sc__law_carried.nd rfl (.inl rfl) (pe_dget (hu_of hr) (pe_dget (hu_of hr) (pv 0) pe_str (fun _ _ => rfl)) (pe_ix ix_tup (pv 3) pe_int (fun _ _ => rfl)) (fun _ _ => rfl)))
      (pss_cons (ps_set (i := 6) sc__law_carried.nd rfl (.inl rfl) (pe_dget (hu_of hr) (pv 0) pe_str (fun _ _ => rfl)))
      (pss_cons (ps_set (i := 7) sc__law_carried.nd rfl (.inl rfl) (pe_op op_add (pe_ix ix_list (pv 4) (pe_op op_mod (pe_callTy call_int1 (by rfl) T.n_int (by decide +kernel) (pa_cons (pv 2) pa_nil)) (pe_callB call_len_seq (by rfl) T.n_len (by decide +kernel) (pa_cons (pv 4) pa_nil))) (fun _ _ => rfl)) (pe_op op_mul (pe_op op_fdiv (pv 2) (pe_callB call_len_seq (by rfl) T.n_len (by decide +kernel) (pa_cons (pv 4) pa_nil))) (pv 6))))
      (pss_cons (ps_set (i := 7) sc__law_carried.nd rfl (.inl rfl) (pe_call G__law_lift (hr.mono (by decide)) (by rfl) T._law_lift.g T._law_lift.F.kp T._law_lift.b .nil pass0 (pa_cons (pe_dget (hu_of hr) (pe_dget (hu_of hr) (pv 0) pe_str (fun _ _ => rfl)) (pe_ix ix_tup (pv 3) pe_int (fun _ _ => rfl)) (fun _ _ => rfl)) (pa_cons (pe_op op_sub (pv 7) (pe_ix ix_tup (pv 3) pe_int (fun _ _ => rfl))) pa_nil))))
      (pss_one (ps_ret (pe_op op_add (pe_bm PySem.F.plainAttrs_list PySem.F.slot_list_index PySem.F.type_list_index mt_index (pv 5) (pa_cons (pe_op op_mod (pe_callTy call_int1 (by rfl) T.n_int (by decide +kernel) (pa_cons (pv 7) pa_nil)) (pv 6)) pa_nil)) (pe_op op_mul (pe_op op_fdiv (pv 7) (pv 6)) (pe_callB call_len_seq (by rfl) T.n_len (by decide +kernel) (pa_cons (pv 5) pa_nil)))))))))))
, ?_⟩
    refine ⟨_, rfl, m, _, rfl, .inl ⟨_, .inr "rests", .inl hm, rfl, rfl⟩, _, rfl, rd, _, rfl, .inl ⟨kvr, .inr a, .inl hrd, rfl, hux.symm⟩, ?_⟩
    refine ⟨_, rfl, m, _, rfl, .inl ⟨_, .inr "rests", .inl hm, rfl, rfl⟩, _, rfl, c, _, 0, _, rfl, rfl, SqT.of hc, rfl, rd, _, rfl, .inl ⟨kvr, .inr s.1, .inl hrd, rfl, huy.symm⟩, ?_⟩
    refine ⟨_, rfl, m, _, rfl, .inl ⟨_, .inr "span", .inl hm, rfl, rfl⟩, ?_⟩
    have e0 : 0 ≤ k % (woOf n span ws).m a := Int.emod_nonneg _ (by omega)
    have e1 : k % (woOf n span ws).m a < (woOf n span ws).m a := Int.emod_lt_of_pos _ mx
    have hj : (k % (woOf n span ws).m a).toNat < ((woOf n span ws).R a).length := by
      have : (woOf n span ws).m a = ((((woOf n span ws).R a).length : Nat) : Int) := rfl
      omega
    have hat : atI (((woOf n span ws).R a).map V.int) (k % (woOf n span ws).m a) = some (.int (((woOf n span ws).R a)[(k % (woOf n span ws).m a).toNat])) := by
      have := atI_nat (ints_at (List.getElem?_eq_getElem hj))
      rwa [show (((k % (woOf n span ws).m a).toNat : Nat) : Int) = k % (woOf n span ws).m a by omega] at this
    refine ⟨_, rfl, _, rfl, .inl ⟨_, rfl, _, rfl, lx, _, rfl, .inl (SqL.of hlx), ?_⟩⟩
    rw [ex]
    refine ⟨k, _, rfl, rfl, mx, lx, _, _, _, rfl, rfl, SqL.of hlx, hat, _, rfl, _, rfl, lx, _, rfl, .inl (SqL.of hlx), ?_⟩
    rw [ex]
    refine ⟨k, _, rfl, rfl, ⟨mx, by omega⟩, _, rfl, _, span, rfl, rfl, .inr (by omega), _, _, rfl, rfl, ?_⟩
    have ep : ((woOf n span ws).R a)[(k % (woOf n span ws).m a).toNat] + k / (woOf n span ws).m a * span = JM.pos ((woOf n span ws).R a) span k := by
      unfold JM.pos
      rw [show ((((woOf n span ws).R a).length : Nat) : Int) = (woOf n span ws).m a from rfl, List.getElem?_eq_getElem hj]
      rfl
    refine ⟨_, rfl, m, _, rfl, .inl ⟨_, .inr "tables", .inl hm, rfl, rfl⟩, _, rfl, c, _, 0, _, rfl, rfl, SqT.of hc, rfl, td, _, rfl, .inl ⟨kvt, .inr s.1, .inl htd, rfl, hut.symm⟩, _, rfl, _, rfl, c, _, 1, _, rfl, rfl, SqT.of hc, rfl, _, _, rfl, rfl, ut, n, JM.pos ((woOf n span ws).R a) span k - s.2.1, rowsOf ws s.1, by rw [← ep]; rfl, Lt, rowsOf_ok ok hy, ?_⟩
    have hF : JM.lift n (rowsOf ws s.1) (JM.pos ((woOf n span ws).R a) span k - s.2.1) = (woOf n span ws).F s.1 (JM.pos ((woOf n span ws).R a) span k - s.2.1) := rfl
    have hfix := Kw.fix (w := s.1) hy (JM.pos ((woOf n span ws).R a) span k - s.2.1)
    have hq : (woOf n span ws).car a k s.1 s.2.1 = JM.idx ((woOf n span ws).R s.1) span ((woOf n span ws).F s.1 (JM.pos ((woOf n span ws).R a) span k - s.2.1)) := rfl
    rw [hq] at q
    rw [hF]
    generalize (woOf n span ws).F s.1 (JM.pos ((woOf n span ws).R a) span k - s.2.1) = y at q hfix
    have hin : y % span ∈ (woOf n span ws).R s.1 := (Kw.en hy).fixmod hfix
    have hil := List.idxOf_lt_length_iff.mpr hin
    have hjy : ((woOf n span ws).R s.1)[((woOf n span ws).R s.1).idxOf (y % span)]? = some (y % span) := by
      rw [List.getElem?_eq_getElem hil, List.getElem_idxOf hil]
    refine ⟨_, rfl, .inl ⟨rfl, _, SqL.of hly⟩, _, rfl, .inl ⟨_, rfl, _, rfl, y, span, rfl, rfl, (by show 0 < span; omega), ly, _, .int (y % span), _, _, rfl, rfl, SqL.of hly, rfl, ints_flat _, ints_at hjy, by simp [eqV], fun i z' hi hz => ?_, ?_⟩⟩
    · obtain ⟨x, hx', rfl⟩ := at_map hz
      have hxl := (List.getElem?_eq_some_iff.mp hx').1
      have e2 := (List.getElem?_eq_some_iff.mp hx').2
      have lt := List.pairwise_iff_getElem.mp (JM.restsOf_lt ((woOf n span ws).F s.1) (woOf n span ws).span) i _ hxl hil hi
      have e3 : ((woOf n span ws).R s.1)[((woOf n span ws).R s.1).idxOf (y % span)] = y % span := List.getElem_idxOf hil
      have lt' : ((woOf n span ws).R s.1)[i] < ((woOf n span ws).R s.1)[((woOf n span ws).R s.1).idxOf (y % span)] := lt
      rw [e2, e3] at lt'
      have ne : ¬ x = y % span := by omega
      simp [eqV, ne]
    · refine ⟨_, rfl, _, rfl, y, span, rfl, rfl, ⟨by omega, by omega⟩, _, rfl, ly, _, rfl, .inl (SqL.of hly), ?_⟩
      refine ⟨_, _, rfl, rfl, .inr ⟨by omega, by omega⟩, _, _, rfl, rfl, ?_⟩
      rw [ey]
      exact q
theorem sc__law_behind : FnScope ["_law_model_here", "_law_stand", "_law_rule", "_law_many", "_law_left", "_law_right", "_law_lap"] ["_law_model_here", "_law_stand", "_law_rule"] (defScope s__law_behind) := ⟨rfl, rfl, rfl, by decide +kernel, rfl, by decide +kernel, by decide +kernel⟩
-- slots: 0 _law_model_here, 1 _law_stand, 2 _law_rule, 3 _law_many, 4 _law_left, 5 _law_right, 6 _law_lap
theorem ok__law_behind (T : Wd K mg) : FnOk P w K mg base CX0 3 T._law_behind.f T._law_behind.fd ["_law_model_here", "_law_stand", "_law_rule"] sp__law_behind := by
  have G__law_carried := ok__law_carried (P := P) (w := w) (base := base) T
  refine T._law_behind.F.ok sc__law_behind (fun vs H Q E h => ?_) (fun cdv A outer s H vs Q E hr h => ?_)
  · obtain ⟨mv, rv, v1, v2, n, span, ws, o, u, s, rfl, _⟩ := h
    rfl
  · obtain ⟨mv, rv, v1, v2, n, span, ws, o, u, s, rfl, hI, h1, h2, hx, hy, q⟩ := h
    have ok := hI.ok
    have hsp := hI.sp
    have Kw := woOf_ok ok hsp
    have hmd := hI.md
    obtain ⟨m, td, rd, ks0, rfl, hm, perm, ht, hr⟩ := hmd
    obtain ⟨rd, kvr, rfl, hrd, hkr⟩ := hr
    have h10 := h1
    have h20 := h2
    obtain ⟨a, rfl, ha⟩ := sd_stand h10
    obtain ⟨c, rfl, hc⟩ := sd_tri h20
    obtain ⟨uy, huy, Ly⟩ := hkr.get (rests_look (n := n) (span := span) (ws := ws) (perm.mem_iff.mpr hy))
    obtain ⟨ly, rfl, hly⟩ := Ly.ints
    have my := Kw.m_pos (w := s.1) hy
    have my2 := Kw.m_le (w := s.1) hy
    have ey : (((((woOf n span ws).R s.1).map V.int).length : Nat) : Int) = (woOf n span ws).m s.1 := by rw [List.length_map]; rfl
    refine ⟨_, PSs.nox (pss_cons (ps_set (i := 3) sc__law_behind.nd rfl (.inl rfl) (pe_callB call_len_seq (by rfl) T.n_len (by decide +kernel) (pa_cons (pe_dget (hu_of hr) (pe_dget (hu_of hr) (pv 0) pe_str (fun _ _ => rfl)) (pe_ix ix_tup (pv 2) pe_int (fun _ _ => rfl)) (fun _ _ => rfl)) pa_nil)))
      (pss_cons (ps_set (i := 4) sc__law_behind.nd rfl (.inl rfl) (pe_call G__law_carried (hr.mono (by decide)) (by rfl) T._law_carried.g T._law_carried.F.kp T._law_carried.b .nil pass0 (pa_cons (pv 0) (pa_cons (pe_ix ix_tup (pv 1) pe_int (fun _ _ => rfl)) (pa_cons (pe_ix ix_tup (pv 1) pe_int (fun _ _ => rfl)) (pa_cons (pv 2) pa_nil))))))
      (pss_cons (ps_set (i := 5) sc__law_behind.nd rfl (.inl rfl) (pe_call G__law_carried (hr.mono (by decide)) (by rfl) T._law_carried.g T._law_carried.F.kp T._law_carried.b .nil pass0 (pa_cons (pv 0) (pa_cons (pe_ix ix_tup (pv 1) pe_int (fun _ _ => rfl)) (pa_cons (pe_ix ix_tup (pv 1) pe_int (fun _ _ => rfl)) (pa_cons (pv 2) pa_nil))))))
      (pss_cons (ps_if (pt_cmpR op_eq (pv 5) (pe_op op_add (pv 4) (pv 3)) (nomark _))
        (pss_one (ps_ret pe_non))
        pss_nil)
      (pss_cons (ps_set (i := 6) sc__law_behind.nd rfl (.inl rfl) (pe_op op_fdiv (pv 4) (pv 3)))
      (pss_one (ps_ret (pe_tup (pa_cons (pe_ix ix_tup (pv 2) pe_int (fun _ _ => rfl)) (pa_cons (pe_ix ix_tup (pv 2) pe_int (fun _ _ => rfl)) (pa_cons (pe_op op_sub (pv 4) (pe_op op_mul (pv 6) (pv 3))) (pa_cons (pe_op op_sub (pv 5) (pe_op op_mul (pv 6) (pv 3))) pa_nil))))))))))))
, ?_⟩
    refine ⟨_, rfl, m, _, rfl, .inl ⟨_, .inr "rests", .inl hm, rfl, rfl⟩, _, rfl, c, _, 0, _, rfl, rfl, SqT.of hc, rfl, rd, _, rfl, .inl ⟨kvr, .inr s.1, .inl hrd, rfl, huy.symm⟩, ly, _, rfl, .inl (SqL.of hly), ?_⟩
    rw [ey]
    refine ⟨_, rfl, _, rfl, a, _, 1, _, rfl, rfl, SqT.of ha, rfl, _, rfl, a, _, 2, _, rfl, rfl, SqT.of ha, rfl, _, rfl, .ref m, rv, .ref c, u.2.1, u.2.2.1, n, span, ws, o, s, rfl, hI, h2, hx, hy, ?_⟩
    refine ⟨_, rfl, _, rfl, a, _, 1, _, rfl, rfl, SqT.of ha, rfl, _, rfl, a, _, 3, _, rfl, rfl, SqT.of ha, rfl, _, rfl, .ref m, rv, .ref c, u.2.1, u.2.2.2, n, span, ws, o, s, rfl, hI, h2, hx, hy, ?_⟩
    have hb : (woOf n span ws).behind u s = if (woOf n span ws).car u.2.1 u.2.2.2 s.1 s.2.1 = (woOf n span ws).car u.2.1 u.2.2.1 s.1 s.2.1 + (woOf n span ws).m s.1 then none else some (s.2.2, s.1, (woOf n span ws).car u.2.1 u.2.2.1 s.1 s.2.1 - (woOf n span ws).car u.2.1 u.2.2.1 s.1 s.2.1 / (woOf n span ws).m s.1 * (woOf n span ws).m s.1, (woOf n span ws).car u.2.1 u.2.2.2 s.1 s.2.1 - (woOf n span ws).car u.2.1 u.2.2.1 s.1 s.2.1 / (woOf n span ws).m s.1 * (woOf n span ws).m s.1) := rfl
    rw [hb] at q
    generalize (woOf n span ws).car u.2.1 u.2.2.1 s.1 s.2.1 = lf at q
    generalize (woOf n span ws).car u.2.1 u.2.2.2 s.1 s.2.1 = rt at q
    refine ⟨_, rfl, _, rfl, _, rfl, _, _, rfl, rfl, rfl, _, rfl, ite2 (fun cc => ?_) fun cc => ?_⟩
    · have e : rt = lf + (woOf n span ws).m s.1 := V.int.inj (of_decide_eq_true cc)
      rw [if_pos e] at q
      exact q H .non (Same.refl _) .non
    · have e : ¬ rt = lf + (woOf n span ws).m s.1 := fun z => cc (decide_eq_true (congrArg V.int z))
      rw [if_neg e] at q
      refine ⟨_, rfl, _, rfl, lf, _, rfl, rfl, ⟨my, by omega⟩, ?_⟩
      refine ⟨_, rfl, c, _, 2, _, rfl, rfl, SqT.of hc, rfl, _, rfl, c, _, 0, _, rfl, rfl, SqT.of hc, rfl, _, rfl, _, rfl, _, rfl, _, _, rfl, rfl, .inr ⟨by omega, by omega⟩, _, _, rfl, rfl, _, rfl, _, rfl, _, rfl, _, _, rfl, rfl, .inr ⟨by omega, by omega⟩, _, _, rfl, rfl, (by show 4 ≤ sizeLine; decide), fun t nt => q _ _ (same_new nt) (stand_sd upd_same)⟩
theorem sc__law_is_index : FnScope ["_law_thing", "_law_low", "_law_behind_here"] ["_law_thing", "_law_low", "_law_behind_here"] (defScope s__law_is_index) := ⟨rfl, rfl, rfl, by decide +kernel, rfl, by decide +kernel, by decide +kernel⟩
-- slots: 0 _law_thing, 1 _law_low, 2 _law_behind_here
theorem ok__law_is_index (T : Wd K mg) : FnOk P w K mg base CX0 1 T._law_is_index.f T._law_is_index.fd ["_law_thing", "_law_low", "_law_behind_here"] sp__law_is_index := by
  refine T._law_is_index.F.ok sc__law_is_index (fun vs H Q E h => ?_) (fun cdv A outer s H vs Q E hr h => ?_)
  · obtain ⟨i, lo, hi, rfl, _⟩ := h
    rfl
  · obtain ⟨i, lo, hi, rfl, h0, h1, q⟩ := h
    refine ⟨_, PSs.nox (pss_one (ps_ret (pe_and (pe_callB call_isi (by rfl) T.n_isinstance (by decide +kernel) (pa_cons (pv 0) (pa_cons (pe_bltn (v := .ty "int") (by rfl) T.n_int (by decide +kernel) rfl) pa_nil))) (pe_and (pe_not (pe_callB call_isi (by rfl) T.n_isinstance (by decide +kernel) (pa_cons (pv 0) (pa_cons (pe_bltn (v := .ty "bool") (by rfl) T.n_bool (by decide +kernel) rfl) pa_nil)))) (pe_one (pe_chain op_le op_lt (pv 1) (pv 0) (pv 2)))))))
, ?_⟩
    exact ⟨_, rfl, _, _, _, _, true, rfl, .ty _, .base (.int i), kit_ty (by decide +kernel), true, rfl, iteT ⟨_, rfl, _, _, _, _, false, rfl, .ty _, .base (.int i), kit_ty (by decide +kernel), false, rfl, true, rfl, iteT ⟨_, rfl, _, rfl, lo, i, rfl, rfl, true, d_true h0, iteT ⟨_, rfl, i, hi, rfl, rfl, q_true (Q := Q) h1 q⟩⟩⟩⟩
theorem sc__law_is_open : FnScope ["_law_model_here", "_law_rules_here", "_law_thing", "_law_many"] ["_law_model_here", "_law_rules_here", "_law_thing"] (defScope s__law_is_open) := ⟨rfl, rfl, rfl, by decide +kernel, rfl, by decide +kernel, by decide +kernel⟩
-- slots: 0 _law_model_here, 1 _law_rules_here, 2 _law_thing, 3 _law_many
theorem ok__law_is_open (T : Wd K mg) : FnOk P w K mg base CX0 2 T._law_is_open.f T._law_is_open.fd ["_law_model_here", "_law_rules_here", "_law_thing"] sp__law_is_open := by
  have G__law_is_index := ok__law_is_index (P := P) (w := w) (base := base) T
  refine T._law_is_open.F.ok sc__law_is_open (fun vs H Q E h => ?_) (fun cdv A outer s H vs Q E hr h => ?_)
  · obtain ⟨mv, rv, v, n, span, ws, o, u, rfl, _⟩ := h
    rfl
  · obtain ⟨mv, rv, v, n, span, ws, o, u, rfl, hI, hv, hg, hop, q⟩ := h
    have ok := hI.ok
    have hsp := hI.sp
    have Kw := woOf_ok ok hsp
    have hmd := hI.md
    obtain ⟨m, td, rd, ks0, rfl, hm, perm, ht, hr⟩ := hmd
    obtain ⟨rd, kvr, rfl, hrd, hkr⟩ := hr
    obtain ⟨a, rfl, ha⟩ := sd_stand hv
    obtain ⟨uy, huy, Ly⟩ := hkr.get (rests_look (n := n) (span := span) (ws := ws) (perm.mem_iff.mpr hg.wd))
    obtain ⟨ly, rfl, hly⟩ := Ly.ints
    have ey : (((((woOf n span ws).R u.2.1).map V.int).length : Nat) : Int) = (woOf n span ws).m u.2.1 := by rw [List.length_map]; rfl
    refine ⟨_, PSs.nox (pss_cons (ps_if (PW.pt (pw_or (pt_not (pt_val (pe_callB call_isi (by rfl) T.n_isinstance (by decide +kernel) (pa_cons (pv 2) (pa_cons (pe_bltn (v := .ty "tuple") (by rfl) T.n_tuple (by decide +kernel) rfl) pa_nil))) (fun _ => rfl))) (pw_or1 (pt_cmpR op_ne (pe_callB call_len_seq (by rfl) T.n_len (by decide +kernel) (pa_cons (pv 2) pa_nil)) pe_int (nomark _)))))
        (pss_one (ps_ret pe_bl))
        pss_nil)
      (pss_cons (ps_if (PW.pt (pw_or (pt_not (pt_val (pe_callB call_isi (by rfl) T.n_isinstance (by decide +kernel) (pa_cons (pe_ix ix_tup (pv 2) pe_int (fun _ _ => rfl)) (pa_cons (pe_bltn (v := .ty "str") (by rfl) T.n_str (by decide +kernel) rfl) pa_nil))) (fun _ => rfl))) (pw_or (pt_not (pt_val (pe_callB call_isi (by rfl) T.n_isinstance (by decide +kernel) (pa_cons (pe_ix ix_tup (pv 2) pe_int (fun _ _ => rfl)) (pa_cons (pe_bltn (v := .ty "str") (by rfl) T.n_str (by decide +kernel) rfl) pa_nil))) (fun _ => rfl))) (pw_or1 (pt_cmp (pc_dnotin (hu_of hr) (pe_ix ix_tup (pv 2) pe_int (fun _ _ => rfl)) (pe_dget (hu_of hr) (pv 0) pe_str (fun _ _ => rfl))))))))
        (pss_one (ps_ret pe_bl))
        pss_nil)
      (C8.pss_cut (ps_if (PW.pt (pw_or (PW.pt (pw_and (pt_cmpR op_isN (pv 1) pe_non (nomark _)) (pw_and1 (pt_cmpR op_ne (pe_ix ix_tup (pv 2) pe_int (fun _ _ => rfl)) pe_str (nomark _))))) (pw_or1 (PW.pt (pw_and (pt_cmpR op_notN (pv 1) pe_non (nomark _)) (pw_and1 (pt_cmp (pc_dnotin (hu_of hr) (pe_ix ix_tup (pv 2) pe_int (fun _ _ => rfl)) (pv 1)))))))))
        (pss_one (ps_ret pe_bl))
        pss_nil)
      (pss_cons (ps_set (i := 3) sc__law_is_open.nd rfl (.inl rfl) (pe_callB call_len_seq (by rfl) T.n_len (by decide +kernel) (pa_cons (pe_dget (hu_of hr) (pe_dget (hu_of hr) (pv 0) pe_str (fun _ _ => rfl)) (pe_ix ix_tup (pv 2) pe_int (fun _ _ => rfl)) (fun _ _ => rfl)) pa_nil)))
      (pss_one (ps_ret (pe_and (pe_call G__law_is_index (hr.mono (by decide)) (by rfl) T._law_is_index.g T._law_is_index.F.kp T._law_is_index.b .nil pass0 (pa_cons (pe_ix ix_tup (pv 2) pe_int (fun _ _ => rfl)) (pa_cons pe_int (pa_cons (pv 3) pa_nil)))) (pe_one (pe_call G__law_is_index (hr.mono (by decide)) (by rfl) T._law_is_index.g T._law_is_index.F.kp T._law_is_index.b .nil pass0 (pa_cons (pe_ix ix_tup (pv 2) pe_int (fun _ _ => rfl)) (pa_cons (pe_op op_add (pe_ix ix_tup (pv 2) pe_int (fun _ _ => rfl)) pe_int) (pa_cons (pe_op op_add (pe_ix ix_tup (pv 2) pe_int (fun _ _ => rfl)) (pv 3)) pa_nil))))))))))))
, ?_⟩
    refine ⟨_, rfl, _, _, _, _, true, rfl, .ty _, .base (.tup ha), kit_ty (by decide +kernel), true, rfl, iteF ?_⟩
    refine ⟨_, rfl, a, _, rfl, .inr (SqT.of ha), rfl, false, rfl, iteF ?_⟩
    refine ⟨_, rfl, a, _, 0, _, rfl, rfl, SqT.of ha, rfl, _, _, _, _, true, rfl, .ty _, .base (.str _), kit_ty (by decide +kernel), true, rfl, iteF ?_⟩
    refine ⟨_, rfl, a, _, 1, _, rfl, rfl, SqT.of ha, rfl, _, _, _, _, true, rfl, .ty _, .base (.str _), kit_ty (by decide +kernel), true, rfl, iteF ?_⟩
    refine ⟨_, rfl, a, _, 1, _, rfl, rfl, SqT.of ha, rfl, _, rfl, m, _, rfl, .inl ⟨_, .inr "rests", .inl hm, rfl, rfl⟩, rd, some (.ref ly), rfl, .inl ⟨kvr, .inr u.2.1, .inl hrd, rfl, huy.symm⟩, false, rfl, iteF ?_⟩
    refine ⟨fun σ H' => H' = H ∧ σ = [some (.ref m), some rv, some (.ref a), none], ?_, fun σ H1 hM => ?_⟩
    · cases o with
      | none =>
        cases (show rv = .non from hI.rl)
        have eu : u.1 = "" := List.mem_singleton.mp hg.st
        refine ⟨_, rfl, rfl, _, rfl, iteT ⟨_, rfl, a, _, 0, _, rfl, rfl, SqT.of ha, rfl, rfl, false, ?_, iteF ⟨_, rfl, rfl, _, rfl, iteF ⟨rfl, rfl⟩⟩⟩⟩
        rw [eu]
        rfl
      | some rs =>
        have hrl : DAt (LAt eTri) H rv rs := hI.rl
        obtain ⟨d, kvs, rfl, hd, hk⟩ := hrl
        refine ⟨_, rfl, rfl, _, rfl, iteF ⟨_, rfl, rfl, _, rfl, iteT ⟨_, rfl, a, _, 0, _, rfl, rfl, SqT.of ha, rfl, _, rfl, d, _, rfl, .inl ⟨kvs, .inr u.1, .inl hd, rfl, rfl⟩, false, ?_, iteF ⟨rfl, rfl⟩⟩⟩⟩
        obtain ⟨row, hl⟩ := look_of_mem (show u.1 ∈ rs.map (·.1) from hg.st)
        rw [hk.isSome, hl]
        rfl
    · obtain ⟨rfl, rfl⟩ := hM
      have hne : u.2.2.1 ≠ u.2.2.2 := hop
      have j0 := hg.j0
      have j1 := hg.j1
      refine ⟨_, rfl, m, _, rfl, .inl ⟨_, .inr "rests", .inl hm, rfl, rfl⟩, _, rfl, a, _, 1, _, rfl, rfl, SqT.of ha, rfl, rd, _, rfl, .inl ⟨kvr, .inr u.2.1, .inl hrd, rfl, huy.symm⟩, ly, _, rfl, .inl (SqL.of hly), ?_⟩
      rw [ey]
      refine ⟨_, rfl, a, _, 2, _, rfl, rfl, SqT.of ha, rfl, _, rfl, u.2.2.1, 0, _, rfl, hg.i0, hg.i1, true, rfl, iteT ?_⟩
      refine ⟨_, rfl, a, _, 3, _, rfl, rfl, SqT.of ha, rfl, _, rfl, a, _, 2, _, rfl, rfl, SqT.of ha, rfl, _, 1, rfl, rfl, _, rfl, a, _, 2, _, rfl, rfl, SqT.of ha, rfl, _, rfl, _, _, rfl, rfl, u.2.2.2, u.2.2.1 + 1, _, rfl, by omega, by omega, q⟩
end
end J
/-! A chain of stands down to a closed one. -/
namespace JM
section
variable {α : Type} {W : Wo α} {S : List α} {steps : α → List (Stp α)}
theorem far_chain (K : WoOk W) (hin : ∀ x ∈ S, ∀ s ∈ steps x, s.1 ∈ W.words ∧ s.2.2 ∈ S) : ∀ (d : Nat) (u : St α), Good W S u → Far W steps u d → ∃ l : List (St α), l.length = d + 1 ∧ l.Nodup ∧ ∀ v ∈ l, Good W S v ∧ ∃ e, e ≤ d ∧ Far W steps v e
  | 0, u, g, h => ⟨[u], rfl, (List.nodup_cons.mpr ⟨(nomatch ·), List.nodup_nil⟩), fun v hv => by rw [List.mem_singleton.mp hv]; exact ⟨g, 0, Nat.le_refl _, h⟩⟩
  | d + 1, u, g, h => by
    have hc : Cl W steps (d + 1) u := h.1
    have hn : ¬ u.2.2.1 = u.2.2.2 := fun e => h.2 0 (by omega) (cl_zero e)
    rcases hc with e | ⟨s, hs, f, hf, hd⟩
    · exact absurd e hn
    · obtain ⟨s1, s2⟩ := hin _ g.st s hs
      have gf := K.good g s1 s2 hf
      obtain ⟨e, he, hfe⟩ := far_of hd
      have ed : e = d := by
        rcases Nat.eq_or_lt_of_le he with q | q
        · exact q
        · exact absurd (show Cl W steps (e + 1) u from .inr ⟨s, hs, f, hf, hfe.1⟩) (h.2 (e + 1) (by omega))
      subst ed
      obtain ⟨l, h1, h2, h3⟩ := far_chain K hin e f gf hfe
      refine ⟨u :: l, by rw [List.length_cons, h1], List.nodup_cons.mpr ⟨fun hu => ?_, h2⟩, fun v hv => ?_⟩
      · obtain ⟨_, e', q, hq⟩ := h3 u hu
        have := far_uniq h hq
        omega
      · rcases List.mem_cons.mp hv with q | q
        · rw [q]; exact ⟨g, e + 1, Nat.le_refl _, h⟩
        · obtain ⟨a, e', b, c⟩ := h3 v q
          exact ⟨a, e', by omega, c⟩
end
end JM
/-! The law's own look at a paper. -/
namespace J
open PySem PySem.Spec PyProof.Rows L2
theorem least_small {n span : Int} {ws : List (PySem.Str × List Row)} {o : RsO} (ok : WsOk n ws) (hsp : SpanIs n ws span) (mok : MachOk n ws o) {c : Int} (h : JM.LeastIs (woOf n span ws) (stepsF n span ws o) (firstsS n span ws o) (some c)) : 1 ≤ c ∧ c ≤ 1728 := by
  have Kw := woOf_ok ok hsp
  obtain ⟨d, e, ⟨u, hu, hd⟩, hl⟩ := h
  have far : JM.Far (woOf n span ws) (stepsF n span ws o) u d := ⟨hd, fun e he hc => hl e he u hu hc⟩
  obtain ⟨l, h1, h2, h3⟩ := JM.far_chain (S := statesOf o) Kw (fun x hx s hs => steps_in mok hx hs) d u (firstsS_good Kw mok hu) far
  have := good_len Kw (S := statesOf o) mok.few (by show (ws.map (·.1)).length ≤ 2; rw [List.length_map]; exact ok.short) h2 fun v hv => (h3 v hv).1
  omega
theorem ModelAt.ke {H H' : Hp} {v : V} {n span : Int} {ws : List (PySem.Str × List Row)} (k : Ke H H') (h : ModelAt H v n span ws) : ModelAt H' v n span ws := by
  obtain ⟨m, td, rd, ks, e, hm, hp, h1, h2⟩ := h
  exact ⟨m, td, rd, ks, e, k.dk hm, hp, h1.ke (fun _ _ h => h.ke k) k, h2.ke (fun _ _ h => h.ke k) k⟩
theorem RlsAt.ke {H H' : Hp} {v : V} {o : RsO} (k : Ke H H') (h : RlsAt H v o) : RlsAt H' v o := by
  cases o with
  | none => exact h
  | some rs => exact DAt.ke (fun _ _ h => h.ke k) k h
theorem LawIn.ke {H H' : Hp} {mv rv : V} {n span : Int} {ws : List (PySem.Str × List Row)} {o : RsO} (k : Ke H H') (h : LawIn H mv rv n span ws o) : LawIn H' mv rv n span ws o := ⟨h.md.ke k, h.rl.ke k, h.ok, h.sp, h.mo⟩
def sp__law_is_paper : Sp := fun vs H Q _ => ∃ (mv rv : V) (len : Int) (th : Addr) (n span : Int) (ws : List (PySem.Str × List Row)) (o : RsO), vs = [mv, rv, .int len, .ref th] ∧ LawIn H mv rv n span ws o ∧
  ((len = 0 ∧ span = 1 ∧ H th = some (.dK []) ∧ ∀ H', Same H H' → Q (.bl true) H') ∨ (1 ≤ len ∧ span ≠ 1 ∧ ∃ (kvs : List (Stand × Int)), H th = some (.dT (numKv kvs)) ∧ (kvs.map (·.1)).Nodup ∧ JM.P1 (woOf n span ws) (statesOf o) kvs ∧ JM.P2 (firstsS n span ws o) len kvs ∧
    JM.P3 (woOf n span ws) (stepsF n span ws o) kvs ∧ (∀ p ∈ kvs, p.2 < 10 ^ 60) ∧ ∀ H', Same H H' → Q (.bl true) H'))
section
variable {P : Program} {w : World} {K : PySem.W.Frag} {mg : Str → Option Value} {base : Heap}
theorem sc__law_is_paper : FnScope ["_law_model_here", "_law_rules_here", "_law_length", "_law_thing", "_law_key", "_law_stand", "_law_rule", "_law_behind_here"] ["_law_model_here", "_law_rules_here", "_law_length", "_law_thing"] (defScope s__law_is_paper) := ⟨rfl, rfl, rfl, by decide +kernel, rfl, by decide +kernel, by decide +kernel⟩
-- slots: 0 _law_model_here, 1 _law_rules_here, 2 _law_length, 3 _law_thing, 4 _law_key, 5 _law_stand, 6 _law_rule, 7 _law_behind_here
theorem ok__law_is_paper (T : Wd K mg) : FnOk P w K mg base CX0 4 T._law_is_paper.f T._law_is_paper.fd ["_law_model_here", "_law_rules_here", "_law_length", "_law_thing"] sp__law_is_paper := by
  have G__law_is_index := ok__law_is_index (P := P) (w := w) (base := base) T
  have G__law_is_open := ok__law_is_open (P := P) (w := w) (base := base) T
  have G__law_first_stands := ok__law_first_stands (P := P) (w := w) (base := base) T
  have G__law_steps := ok__law_steps (P := P) (w := w) (base := base) T
  have G__law_behind := ok__law_behind (P := P) (w := w) (base := base) T
  refine T._law_is_paper.F.ok sc__law_is_paper (fun vs H Q E h => ?_) (fun cdv A outer s H vs Q E hr h => ?_)
  · obtain ⟨mv, rv, len, th, n, span, ws, o, rfl, _⟩ := h
    rfl
  · obtain ⟨mv, rv, len, th, n, span, ws, o, rfl, hI, hcase⟩ := h
    have hmd := hI.md
    obtain ⟨m, td, rd, ks0, rfl, hm, perm, ht, hr0⟩ := hmd
    refine ⟨_, PSs.nox (pss_cons (ps_if (pt_not (pt_val (pe_callB call_isi (by rfl) T.n_isinstance (by decide +kernel) (pa_cons (pv 3) (pa_cons (pe_bltn (v := .ty "dict") (by rfl) T.n_dict (by decide +kernel) rfl) pa_nil))) (fun _ => rfl)))
        (pss_one (ps_ret pe_bl))
        pss_nil)
      (pss_cons (ps_if (PW.pt (pw_or (pt_cmpR op_eq (pv 2) pe_int (nomark _)) (pw_or1 (pt_cmpR op_eq (pe_dget (hu_of hr) (pv 0) pe_str (fun _ _ => rfl)) pe_int (nomark _)))))
        (pss_one (ps_ret (pe_and (pe_cmpR op_eq (pv 2) pe_int (nomark _)) (pe_one (pe_cmpR (op_eqV hr.units) (pv 3) pe_dnewK (nomark _))))))
        pss_nil)
      (pss_cons (ps_lock (ps_for PassesOwn.never rfl (pi_keys (pv 3)) (pg_name (i := 4) sc__law_is_paper.nd rfl (.inl rfl))
        (pss_one (ps_if (PW.pt (pw_or (pt_not (pt_val (pe_call G__law_is_open (hr.mono (by decide)) (by rfl) T._law_is_open.g T._law_is_open.F.kp T._law_is_open.b .nil pass0 (pa_cons (pv 0) (pa_cons (pv 1) (pa_cons (pv 4) pa_nil)))) (fun _ => rfl))) (pw_or1 (pt_not (pt_val (pe_call G__law_is_index (hr.mono (by decide)) (by rfl) T._law_is_index.g T._law_is_index.F.kp T._law_is_index.b .nil pass0 (pa_cons (pe_dget (hu_of hr) (pv 3) (pv 4) (fun _ _ => rfl)) (pa_cons pe_int (pa_cons (pe_op op_pow pe_int pe_int) pa_nil)))) (fun _ => rfl))))))
          (pss_one (ps_ret pe_bl))
          pss_nil))))
      (pss_cons (ps_for PassesOwn.never rfl (pi_list (pe_call G__law_first_stands (hr.mono (by decide)) (by rfl) T._law_first_stands.g T._law_first_stands.F.kp T._law_first_stands.b .nil pass0 (pa_cons (pv 0) (pa_cons (pv 1) pa_nil)))) (pg_name (i := 5) sc__law_is_paper.nd rfl (.inl rfl))
        (pss_one (ps_if (pt_cmpR op_eq (pe_ix ix_tup (pv 5) pe_int (fun _ _ => rfl)) (pe_ix ix_tup (pv 5) pe_int (fun _ _ => rfl)) (nomark _))
          (pss_one (ps_if (pt_cmpR op_ge (pv 2) pe_int (nomark _))
            (pss_one (ps_ret pe_bl))
            pss_nil))
          (pss_one (ps_if (PW.pt (pw_or (pt_cmp (pc_dnotin (hu_of hr) (pv 5) (pv 3))) (pw_or1 (pt_cmpR op_lt (pe_dget (hu_of hr) (pv 3) (pv 5) (fun _ _ => rfl)) (pe_op op_sub (pv 2) pe_int) (nomark _)))))
            (pss_one (ps_ret pe_bl))
            pss_nil)))))
      (pss_cons (ps_lock (ps_for PassesOwn.never rfl (pi_keys (pv 3)) (pg_name (i := 4) sc__law_is_paper.nd rfl (.inl rfl))
        (pss_one (ps_for PassesOwn.never rfl (pi_list (pe_call G__law_steps (hr.mono (by decide)) (by rfl) T._law_steps.g T._law_steps.F.kp T._law_steps.b .nil pass0 (pa_cons (pv 0) (pa_cons (pv 1) (pa_cons (pe_ix ix_tup (pv 4) pe_int (fun _ _ => rfl)) pa_nil))))) (pg_name (i := 6) sc__law_is_paper.nd rfl (.inl rfl))
          (pss_cons (ps_set (i := 7) sc__law_is_paper.nd rfl (.inl rfl) (pe_call G__law_behind (hr.mono (by decide)) (by rfl) T._law_behind.g T._law_behind.F.kp T._law_behind.b .nil pass0 (pa_cons (pv 0) (pa_cons (pv 4) (pa_cons (pv 6) pa_nil)))))
            (pss_cons (ps_if (pt_cmpR op_isN (pv 7) pe_non (nomark _))
              (pss_one ps_continue)
              pss_nil)
            (pss_cons (ps_if (PW.pt (pw_and (pt_cmpR op_ne (pe_ix ix_tup (pv 7) pe_int (fun _ _ => rfl)) (pe_ix ix_tup (pv 7) pe_int (fun _ _ => rfl)) (nomark _)) (pw_and1 (pt_cmp (pc_dnotin (hu_of hr) (pv 7) (pv 3))))))
              (pss_one (ps_ret pe_bl))
              pss_nil)
            (pss_one (ps_if (pt_cmpR op_gt (pe_dget (hu_of hr) (pv 3) (pv 4) (fun _ _ => rfl)) (pe_op op_add pe_int (pe_dget2 (hu_of hr) (pv 3) (pv 7) pe_int ⟨rfl, rfl, rfl, rfl⟩)) (nomark _))
            (pss_one (ps_ret pe_bl))
            pss_nil)))))))))
      (pss_one (ps_ret pe_bl)))))))
, ?_⟩
    rcases hcase with ⟨rfl, rfl, hth, q⟩ | ⟨l1, s1, kvs, hth, nd, p1, p2, p3, pv60, q⟩
    · refine ⟨_, rfl, _, _, _, _, true, rfl, .ty _, .base (.dK hth), kit_ty (by decide +kernel), true, rfl, iteF ?_⟩
      refine ⟨_, rfl, rfl, true, rfl, iteT ?_⟩
      refine ⟨_, rfl, rfl, true, rfl, iteT ⟨_, rfl, fun d hd => ?_⟩⟩
      have ntd : th ≠ d := ne_of_none hth hd
      exact ⟨0, by decide, .inr ⟨th, d, [], [], rfl, rfl, by rw [upd_ne ntd]; exact hth, upd_same, rfl, fun p hp => nomatch hp⟩, q _ (same_new hd)⟩
    · have l0 : ¬ len = 0 := by omega
      refine ⟨_, rfl, _, _, _, _, true, rfl, .ty _, .base (.dT hth), kit_ty (by decide +kernel), true, rfl, iteF ?_⟩
      refine ⟨_, rfl, rfl, false, by simp [l0], iteF ⟨_, rfl, m, _, rfl, .inl ⟨_, .inr "span", .inl hm, rfl, rfl⟩, rfl, false, by simp [s1], iteF ?_⟩⟩
      have hkl : (numKv kvs).length = kvs.length := by unfold numKv; rw [List.length_map]
      refine ⟨th, .dT (numKv kvs), hth, trivial, fun od => ⟨_, rfl, th, od, rfl, .inr ⟨numKv kvs, upd_same, ?_⟩⟩⟩
      have hIL : LawIn (upd H th (.frz od (.dT (numKv kvs)))) (.ref m) rv n span ws o := hI.ke (ke_frz hth)
      have hthL : (upd H th (.frz od (.dT (numKv kvs)))) th = some (.frz od (.dT (numKv kvs))) := upd_same
      have bkL : ∀ H', Same (upd H th (.frz od (.dT (numKv kvs)))) H' → Same H (upd H' th (.dT (numKv kvs))) := fun H' s => same_lock hth s
      generalize upd H th (.frz od (.dT (numKv kvs))) = HL at hIL hthL bkL
      refine for_it walk_keysT (fun i σ H' => H' = HL ∧ ∃ x4, σ = [some (.ref m), some rv, some (.int len), some (.ref th), x4, none, none, none]) ⟨rfl, _, rfl⟩ (fun i σ H' _ p => by rw [p.1]; exact hthL) (fun i x' σ H1 H2 hi p yy => ?_) fun σ H1 p => ?_
      · obtain ⟨rfl, x4, rfl⟩ := p
        obtain ⟨rfl, k, v, b, e2, rfl, hb⟩ := yy
        obtain ⟨p, hp, rfl, rfl⟩ := num_ix e2
        obtain ⟨g1, g2, g3⟩ := p1 p (mem_at hp)
        have g4 := pv60 p (mem_at hp)
        refine ⟨_, rfl, _, rfl, _, rfl, .ref m, rv, .ref b, n, span, ws, o, p.1, rfl, hIL, stand_sd hb, g1, g2, true, rfl, iteF ?_⟩
        refine ⟨_, rfl, _, rfl, th, .int p.2, rfl, .inr ⟨_, kSt p.1, b, .inr ⟨od, hthL⟩, rfl, hb, by rw [valV_num, JM.look_mem nd (x := p.2) (mem_at hp)]; rfl⟩, 10, 60, rfl, rfl, ⟨by decide, by decide, by decide⟩, p.2, 0, _, rfl, g3, g4, true, rfl, iteF ⟨rfl, _, rfl⟩⟩
      · obtain ⟨rfl, x4, rfl⟩ := p
        refine ⟨hthL, ?_⟩
        have s2 := bkL _ (Same.refl _)
        have hth2 : (upd H1 th (.dT (numKv kvs))) th = some (.dT (numKv kvs)) := upd_same
        generalize upd H1 th (.dT (numKv kvs)) = H2 at s2 hth2
        refine ⟨_, rfl, _, rfl, .ref m, rv, n, span, ws, o, rfl, hI.sm s2, fun H3 ya ys nya s3 hL hmem _ => ?_⟩
        obtain ⟨ya', yus, e, hya, hyus⟩ := hL
        cases e
        have hth3 := s3 _ _ hth2
        have hyl := sda_len hyus
        refine ⟨ya, rfl, ⟨yus, SqL.of hya⟩, ?_⟩
        refine for_it walk_list (fun i σ H' => H' = H3 ∧ ∃ x4 x5, σ = [some (.ref m), some rv, some (.int len), some (.ref th), x4, x5, none, none]) ⟨rfl, _, _, rfl⟩ (fun i σ H' _ p => by rw [p.1]; exact SqL.of hya) (fun i x' σ H4 H5 hi p yy => ?_) fun σ H4 p => ?_
        · obtain ⟨rfl, y4, y5, rfl⟩ := p
          obtain ⟨rfl, e2⟩ := yy
          obtain ⟨u, hu, hsd⟩ := item_at hyus e2
          obtain ⟨c, rfl, hc⟩ := sd_stand hsd
          obtain ⟨q1, q2⟩ := p2 u ((hmem u).mp (mem_at hu))
          refine ⟨_, rfl, c, _, 2, _, rfl, rfl, SqT.of hc, rfl, _, rfl, c, _, 3, _, rfl, rfl, SqT.of hc, rfl, rfl, _, rfl, ite2 (fun cl => ?_) fun cl => ?_⟩
          · have cl' : u.2.2.1 = u.2.2.2 := V.int.inj (of_decide_eq_true cl)
            have := q1 cl'
            refine ⟨_, rfl, len, 2, rfl, rfl, false, d_false (by omega), iteF ⟨rfl, _, _, rfl⟩⟩
          · have cl' : ¬ u.2.2.1 = u.2.2.2 := fun e => cl (decide_eq_true (congrArg V.int e))
            obtain ⟨x, hx, hle⟩ := q2 cl'
            have hg : DGet H5 th (.ref c) (some (.int x)) := .inr ⟨_, kSt u, c, .inl hth3, rfl, hc, by rw [valV_num, hx]; rfl⟩
            refine ⟨_, rfl, _, rfl, th, _, rfl, hg, false, rfl, iteF ⟨_, rfl, _, rfl, th, .int x, rfl, hg, _, rfl, len, 1, rfl, rfl, x, len - 1, rfl, rfl, false, d_false (by omega), iteF ⟨rfl, _, _, rfl⟩⟩⟩
        · obtain ⟨rfl, y4, y5, rfl⟩ := p
          refine ⟨th, .dT (numKv kvs), hth3, trivial, fun od2 => ⟨_, rfl, th, od2, rfl, .inr ⟨numKv kvs, upd_same, ?_⟩⟩⟩
          have hIM : LawIn (upd H4 th (.frz od2 (.dT (numKv kvs)))) (.ref m) rv n span ws o := (hI.sm (s2.trans s3)).ke (ke_frz hth3)
          have hthM : (upd H4 th (.frz od2 (.dT (numKv kvs)))) th = some (.frz od2 (.dT (numKv kvs))) := upd_same
          have bkM : ∀ H', Same (upd H4 th (.frz od2 (.dT (numKv kvs)))) H' → Same H (upd H' th (.dT (numKv kvs))) := fun H' s => (s2.trans s3).trans (same_lock hth3 s)
          generalize upd H4 th (.frz od2 (.dT (numKv kvs))) = HM at hIM hthM bkM
          refine for_it walk_keysT (fun i σ H' => Same HM H' ∧ ∃ x4 x5 x6 x7, σ = [some (.ref m), some rv, some (.int len), some (.ref th), x4, x5, x6, x7]) ⟨Same.refl _, _, _, _, _, rfl⟩ (fun i σ H' _ p => p.1 _ _ hthM) (fun i x' σ H5 H6 hi p yy => ?_) fun σ H5 p => ?_
          · obtain ⟨s5, x4, x5, x6, x7, rfl⟩ := p
            obtain ⟨rfl, k, v, b, e2, rfl, hb⟩ := yy
            obtain ⟨p, hp, rfl, rfl⟩ := num_ix e2
            have hpm := mem_at hp
            obtain ⟨g1, g2, g3⟩ := p1 p hpm
            refine ⟨_, rfl, _, rfl, _, rfl, b, _, 0, _, rfl, rfl, SqT.of hb, rfl, .ref m, rv, p.1.1, n, span, ws, o, rfl, hIM.sm s5, g1.st, fun H7 sa L nsa s7 hL7 hmem7 hlen7 => ?_⟩
            obtain ⟨sa', sus, e, hsa, hsus⟩ := hL7
            cases e
            have s57 := s5.trans s7
            refine ⟨sa, rfl, ⟨sus, SqL.of hsa⟩, ?_⟩
            refine for_it walk_list (fun j σ H' => Same H7 H' ∧ ∃ x5 x6 x7, σ = [some (.ref m), some rv, some (.int len), some (.ref th), some (.ref b), x5, x6, x7]) ⟨Same.refl _, _, _, _, rfl⟩ (fun j σ H' _ p => SqL.of (p.1 _ _ hsa)) (fun j x' σ H8 H9 hj pp yy => ?_) fun σ H8 pp => ?_
            · obtain ⟨s8, z5, z6, z7, rfl⟩ := pp
              obtain ⟨rfl, e3⟩ := yy
              obtain ⟨s, hs, hsd⟩ := item_at hsus e3
              have hsm := (hmem7 s).mp (mem_at hs)
              have hin := steps_in hI.mo g1.st hsm
              have hb9 := s8 _ _ (s7 _ _ hb)
              have s09 := s57.trans s8
              refine ⟨_, rfl, _, rfl, _, rfl, .ref m, rv, .ref b, _, n, span, ws, o, p.1, s, rfl, hIM.sm s09, stand_sd hb9, hsd.sm s8, g1.wd, hin.1, fun H10 v10 s10 h10 => ?_⟩
              have hthA := (s09.trans s10) _ _ hthM
              have s8A := s8.trans s10
              cases hbe : (woOf n span ws).behind p.1 s with
              | none =>
                rw [hbe] at h10
                cases (sd_non h10)
                exact ⟨_, rfl, rfl, _, rfl, iteT ⟨s8A, _, _, _, rfl⟩⟩
              | some f =>
                rw [hbe] at h10
                obtain ⟨fb, rfl, hfb⟩ := sd_stand h10
                obtain ⟨r1, r2⟩ := p3 p hpm s hsm f hbe
                have hget : DGet H10 th (.ref fb) ((JM.look kvs f).map V.int) := .inr ⟨_, kSt f, fb, .inr ⟨od2, hthA⟩, rfl, hfb, (valV_num kvs f).symm⟩
                have hgetp : DGet H10 th (.ref b) (some (.int p.2)) := .inr ⟨_, kSt p.1, b, .inr ⟨od2, hthA⟩, rfl, s10 _ _ hb9, by rw [valV_num, JM.look_mem nd (x := p.2) hpm]; rfl⟩
                have gd : ∃ x : Int, ((JM.look kvs f).map V.int).getD (.int 0) = .int x ∧ x = (JM.look kvs f).getD 0 := by
                  cases hl : JM.look kvs f with
                  | none => exact ⟨0, rfl, rfl⟩
                  | some a => exact ⟨a, rfl, rfl⟩
                obtain ⟨x, hx, hx2⟩ := gd
                refine ⟨_, rfl, rfl, _, rfl, iteF ?_⟩
                by_cases cl : f.2.2.1 = f.2.2.2
                · refine ⟨_, rfl, fb, _, 2, _, rfl, rfl, SqT.of hfb, rfl, _, rfl, fb, _, 3, _, rfl, rfl, SqT.of hfb, rfl, rfl, false, by simp [cl], iteF ?_⟩
                  refine ⟨_, rfl, _, rfl, th, .int p.2, rfl, hgetp, _, rfl, th, rfl, .inr ⟨_, .inr ⟨od2, hthA⟩⟩, _, rfl, _, hget, 1, x, rfl, hx, _, _, rfl, rfl, false, d_false (by omega), iteF ⟨s8A, _, _, _, rfl⟩⟩
                · have hs : ((JM.look kvs f).map V.int).isSome = true := by
                    rcases r1 with h | ⟨y, hy⟩
                    · exact absurd h cl
                    · rw [hy]; rfl
                  refine ⟨_, rfl, fb, _, 2, _, rfl, rfl, SqT.of hfb, rfl, _, rfl, fb, _, 3, _, rfl, rfl, SqT.of hfb, rfl, rfl, true, by simp [cl], iteT ⟨_, rfl, _, rfl, th, _, rfl, hget, false, by rw [hs]; rfl, iteF ?_⟩⟩
                  refine ⟨_, rfl, _, rfl, th, .int p.2, rfl, hgetp, _, rfl, th, rfl, .inr ⟨_, .inr ⟨od2, hthA⟩⟩, _, rfl, _, hget, 1, x, rfl, hx, _, _, rfl, rfl, false, d_false (by omega), iteF ⟨s8A, _, _, _, rfl⟩⟩
            · obtain ⟨s8, z5, z6, z7, rfl⟩ := pp
              exact ⟨s57.trans s8, _, _, _, _, rfl⟩
          · obtain ⟨s5, x4, x5, x6, x7, rfl⟩ := p
            exact ⟨s5 _ _ hthM, q _ (bkM _ s5)⟩
end
end J
/-! paper; the law's call of it. -/
namespace J
open PySem PySem.Spec PyProof.Rows L2 LamX NdefX
/-- what the top says of the two error classes -/
structure Wx (K : PySem.W.Frag) (mg : Str → Option Value) where
  N : Addr
  gN : mg "NoPlan" = some (.ref N)
  kN : PySem.W.keepIn K (.ref N) = true
  xN : PySem.W.excIn K N He.veBase "ValueError.__new__" = true
  bN : PySem.W.subIn K (.ref N) (.type "BaseException") = some true
  tN : PySem.W.typeIn K (.ref N) = some (.type "type")
  eN : PySem.W.exmOne K (.ref N) (.ref N) = some true
  cN : ExcC K N
  Jw : Addr
  gJ : mg "JawError" = some (.ref Jw)
  iJ : PySem.W.kitOne K (.ref N) (.ref Jw) = some true
section
variable {X : Cx} {C : Addr} {bmB : List Value} {B newId initId : String}
/-- X() -/
theorem pmk_own0 {x : Str} {p pos : Pos} (F : ExcBaseFacts B newId initId bmB) (q : PySem.W.excIn X.K C bmB newId = true) (gC : X.mg x = some (.ref C)) (kC : PySem.W.keepIn X.K (.ref C) = true) (r : Raises X (.ref C)) (hg : Gl X x)
    (hdb : (x == ("__debug__" : Str)) = false := by decide) : PMk X (.Call (.Name x p) [] [] pos) (fun _ H Q => Q (.ref C) none H) := by
  intro pins s σ H Q I h
  refine wpAny_Call_Name_kw (ld_glob I hg gC ?_ hdb)
  refine PySem.W.callWith_K0 (first := []) I.kIn kC ?_
  show wpAny _ _ (call (.ref C) []) _ _ _
  obtain ⟨bm, N, nm, qn, bs, hdct, sn, sub, ab, col, dd, k0, k1, k2, k3, k5, mN, hC, hN, hni, T⟩ := exc_obj I.kIn q
  exact wpAny_call_exc_subT F T hC hN hni (fun h' e hm => mk_of I hm r h (I.hok.gone hm.new)) (by show 0 ≤ sizeLine; omega)
end
section
variable {P : Program} {w : World} {K : PySem.W.Frag} {mg : Str → Option Value} {base : Heap}
def sp_paper (T : Wd K mg) (B : TbF base T) (U : Wx K mg) : Sp := fun vs H Q E => ∃ (v l : V) (n span : Int) (ws : List (PySem.Str × List Row)) (o : RsO), vs = [v, l] ∧ PartAt T H v n ws ∧ SpanIs n ws span ∧ LetOr T H l n ws o ∧ TabsN B.tabs H ∧
  ((span = 1 ∧ ∀ H' p, ExtN H H' → TabsN B.tabs H' → H' p = some (.dK []) → Q (.ref p) H') ∨
    (span ≠ 1 ∧ (∀ H', JM.LeastIs (woOf n span ws) (stepsF n span ws o) (firstsS n span ws o) none → ExtN H H' → TabsN B.tabs H' → E (.ref U.N) none H') ∧
      ∀ H' p c kvs, JM.LeastIs (woOf n span ws) (stepsF n span ws o) (firstsS n span ws o) (some c) → ExtN H H' → TabsN B.tabs H' → H' p = some (.dT (numKv kvs)) → JM.PaperOf (woOf n span ws) (statesOf o) (stepsF n span ws o) (firstsS n span ws o) c kvs → Q (.ref p) H'))
theorem sc_paper : FnScope ["part", "let", "search", "count"] ["part", "let"] (defScope s_paper) := ⟨rfl, rfl, rfl, by decide +kernel, rfl, by decide +kernel, by decide +kernel⟩
-- slots: 0 part, 1 let, 2 search, 3 count
theorem ok_paper (T : Wd K mg) (B : TbF base T) (U : Wx K mg) : FnOk P w K mg base (L2.CX P w) 11 T.paper.f T.paper.fd ["part", "let"] (sp_paper T B U) := by
  have G_CutSearch_init := ok_CutSearch_init (P := P) (w := w) (base := base) T B
  have G_Part_period := ok_Part_period (P := P) (w := w) (base := base) T
  have G_least_count := ok_least_count (P := P) (w := w) (base := base) T
  have G_numbers := ok_numbers (P := P) (w := w) (base := base) T
  refine T.paper.F.ok sc_paper (fun vs H Q E h => ?_) (fun cdv A outer s H vs Q E hr h => ?_)
  · obtain ⟨v, l, n, span, ws, o, rfl, _⟩ := h
    rfl
  · obtain ⟨v, l, n, span, ws, o, rfl, hv, hsp, hl, htn, hcase⟩ := h
    have hv0 := hv
    obtain ⟨pa, pdx, d, rfl, hpa, _, ok⟩ := hv0
    refine ⟨_, (pss_cons (ps_set (i := 2) sc_paper.nd rfl (.inl rfl) (pe_make T.CutSearch_init.mkr G_CutSearch_init (hr.mono (by decide)) (by rfl) T.CutSearch.g T.CutSearch_init.b .nil pass0 (pa_cons (pv 0) (pa_cons (pv 1) pa_nil))))
      (pss_cons (ps_if (pt_cmpR op_eq (pe_prop (pv 0) T.Part.cl T.Part_period.pr G_Part_period (hr.mono (by decide)) T.Part_period.b .nil pass0 rfl) pe_int (nomark _))
        (pss_one (ps_ret pe_dnewK))
        pss_nil)
      (pss_cons (ps_set (i := 3) sc_paper.nd rfl (.inl rfl) (pe_call G_least_count (hr.mono (by decide)) (by rfl) T.least_count.g T.least_count.F.kp T.least_count.b .nil pass0 (pa_cons (pe_fld (pv 2) rfl) (pa_cons (pe_fld (pv 2) rfl) pa_nil))))
      (pss_cons (ps_if (pt_cmpR op_isN (pv 3) pe_non (nomark _))
        (pss_one (ps_raise rfl (takes_of rfl rfl rfl rfl) (pmk_own0 PySem.F.excBase_ValueError U.xN U.gN U.kN (raises_own U.bN U.tN) (by rfl))))
        pss_nil)
      (pss_one (ps_ret (pe_call G_numbers (hr.mono (by decide)) (by rfl) T.numbers.g T.numbers.F.kp T.numbers.b .nil pass0 (pa_cons (pe_fld (pv 2) rfl) (pa_cons (pe_fld (pv 2) rfl) (pa_cons (pe_glob (v := .ref T.is_closed.f) (by rfl) T.is_closed.g rfl) (pa_cons (pv 3) pa_nil)))))))))))
, ?_⟩
    refine ⟨_, rfl, _, rfl, fun x dx hx hdx nxd => ⟨x, dx, _, l, n, span, ws, o, rfl, upd_same, ?_, hsp, ?_, ?_, fun H1 k1 tn1 hse => ⟨rfl, ?_⟩⟩⟩
    · exact hv.sm fun b ob e => by rw [upd_ne (ne_of_none e hx), upd_ne (ne_of_none e hdx)]; exact e
    · exact hl.sm fun b ob e => by rw [upd_ne (ne_of_none e hx), upd_ne (ne_of_none e hdx)]; exact e
    · exact htn.ext fun b ob e => by rw [upd_ne (ne_of_none e hx), upd_ne (ne_of_none e hdx)]; exact e
    have e1 : ExtN H H1 := extn_make hx hdx k1
    have hv1 := hv.ke (ke_extn e1)
    have hpa1 := e1 _ _ hpa (fun _ z => nomatch z)
    refine ⟨_, rfl, pa, pdx, _, rfl, hpa1, _, n, ws, rfl, hv1, fun H2 span2 s2 hs2 => ?_⟩
    have es := JM.IsLeast.uniq hs2 hsp
    subst es
    have e2 := extn_trans e1 (extn_of s2)
    have tn2 := tn1.ext s2
    refine ⟨rfl, _, rfl, ite2 (fun c => ?_) fun c => ?_⟩
    · have c' : span2 = 1 := V.int.inj (of_decide_eq_true c)
      rcases hcase with ⟨_, q⟩ | ⟨h, _⟩
      · intro p np
        exact q _ p (extn_trans e2 (extn_of (same_new' np))) (tn2.ext (same_new' np)) upd_same
      · exact absurd c' h
    · have c' : ¬ span2 = 1 := fun z => c (decide_eq_true (congrArg V.int z))
      rcases hcase with ⟨h, _⟩ | ⟨_, qn, qs⟩
      · exact absurd h c'
      obtain ⟨x', dx', st, tb, fr, sts, nodes, fl, e, hx1, hst1, hsl, hsm, ht1, tok, hnl, hfr1, fok⟩ := hse
      cases e
      have hx2 := s2 _ _ hx1
      have ht2 : TabAt H2 tb nodes := by
        obtain ⟨a, b, c⟩ := ht1
        exact ⟨s2 _ _ a, b, fun e he => by
          obtain ⟨es, h1, h2⟩ := c e he
          exact ⟨es, s2 _ _ h1, h2.sm s2⟩⟩
      refine ⟨_, rfl, x, T.CutSearch.C, dx', _, _, rfl, hx2, T.CutSearch.cl, T.n_CutSearch_start, rfl, _, rfl, x, T.CutSearch.C, dx', _, _, rfl, hx2, T.CutSearch.cl, T.n_CutSearch_far, rfl, ?_⟩
      refine ⟨_, fr, sts, woOf n span2 ws, stepsF n span2 ws o, nodes, fl, rfl, hst1.sm s2, hsl, s2 _ _ hfr1, fok, fun p hp => tok.first _ (List.mem_map.mpr ⟨p, hp, rfl⟩), fun H3 r s3 hr3 => ?_⟩
      have hLr := JM.LeastIs.congr (steps' := fun _ => []) hr3 hsm
      have e3 := extn_trans e2 (extn_of s3)
      have tn3 := tn2.ext s3
      cases r with
      | none => exact ⟨_, rfl, rfl, _, rfl, iteT (qn H3 hLr e3 tn3)⟩
      | some c =>
        have hx3 := s3 _ _ hx2
        refine ⟨_, rfl, rfl, _, rfl, iteF ?_⟩
        refine ⟨_, rfl, x, T.CutSearch.C, dx', _, _, rfl, hx3, T.CutSearch.cl, T.n_CutSearch_table, rfl, _, rfl, x, T.CutSearch.C, dx', _, _, rfl, hx3, T.CutSearch.cl, T.n_CutSearch_far, rfl, _, rfl, ?_⟩
        have ht3 : TabAt H3 tb nodes := by
          obtain ⟨a, b, c⟩ := ht2
          exact ⟨s3 _ _ a, b, fun e he => by
            obtain ⟨es, h1, h2⟩ := c e he
            exact ⟨es, s3 _ _ h1, h2.sm s3⟩⟩
        refine ⟨tb, fr, c, nodes, fl, rfl, ht3, tok.nd, hnl, s3 _ _ (s2 _ _ hfr1), fun H4 p kvs s4 hp4 nk => ?_⟩
        have tok2 : TabOk (woOf n span2 ws) (statesOf o) (stepsF n span2 ws o) (firstsS n span2 ws o) nodes := ⟨tok.nd, tok.good, fun u hu => tok.first u ((hsm u).mpr hu), tok.closed, tok.edges, tok.inn, tok.elen⟩
        exact qs H4 p c kvs hLr (extn_trans e3 (extn_of s4)) (tn3.ext s4) hp4 (nk.paper tok2 fok)
end
end J
/-! The law's call of paper. -/
namespace J
open PySem PySem.Spec PyProof.Rows L2 LamX NdefX
theorem pss_when {X : Cx} {b : List Stmt} {t : TS} {p : Prop} (h : p → PSs X b t) : PSs X b (fun D σ H => p ∧ t D σ H) := ⟨fun pins s σ H D I ⟨hp, q⟩ => (h hp).run pins s σ H D I q⟩
section
variable {P : Program} {w : World} {K : PySem.W.Frag} {mg : Str → Option Value} {base : Heap}
def sp__law_told (T : Wd K mg) (B : TbF base T) (U : Wx K mg) : Sp := fun vs H Q _ => ∃ (v l : V) (n span : Int) (ws : List (PySem.Str × List Row)) (o : RsO), vs = [v, l] ∧ PartAt T H v n ws ∧ SpanIs n ws span ∧ LetOr T H l n ws o ∧ TabsN B.tabs H ∧
  ((span = 1 ∧ ∀ H' a p, ExtN H H' → TabsN B.tabs H' → H' a = some (.lst [.str "told", .ref p]) → H' p = some (.dK []) → Q (.ref a) H') ∨
    (span ≠ 1 ∧ (∀ H' a, JM.LeastIs (woOf n span ws) (stepsF n span ws o) (firstsS n span ws o) none → ExtN H H' → TabsN B.tabs H' → H' a = some (.lst [.str "none", .bl true]) → Q (.ref a) H') ∧
      ∀ H' a p c kvs, JM.LeastIs (woOf n span ws) (stepsF n span ws o) (firstsS n span ws o) (some c) → ExtN H H' → TabsN B.tabs H' → H' a = some (.lst [.str "told", .ref p]) → H' p = some (.dT (numKv kvs)) → JM.PaperOf (woOf n span ws) (statesOf o) (stepsF n span ws o) (firstsS n span ws o) c kvs → Q (.ref a) H'))
theorem sc__law_told : FnScope ["_law_part_here", "_law_let_here", "_law_told_here", "e"] ["_law_part_here", "_law_let_here"] (defScope s__law_told) := ⟨rfl, rfl, rfl, by decide +kernel, rfl, by decide +kernel, by decide +kernel⟩
-- slots: 0 _law_part_here, 1 _law_let_here, 2 _law_told_here, 3 e
theorem ok__law_told (T : Wd K mg) (B : TbF base T) (U : Wx K mg) : FnOk P w K mg base CX0 12 T._law_told.f T._law_told.fd ["_law_part_here", "_law_let_here"] (sp__law_told T B U) := by
  have G_paper := ok_paper (P := P) (w := w) (base := base) T B U
  have hds : T.paper.ds = [] := by
    have h := T.paper.dr
    cases e : T.paper.ds with
    | nil => rfl
    | cons a r => rw [e] at h; cases h
  have hb : Binds K T.paper.fd ["part", "let"] [] := by
    have := T.paper.b
    rw [hds] at this
    exact this
  refine T._law_told.F.ok sc__law_told (fun vs H Q E h => ?_) (fun cdv A outer s H vs Q E hr h => ?_)
  · obtain ⟨v, l, n, span, ws, o, rfl, _⟩ := h
    rfl
  · obtain ⟨v, l, n, span, ws, o, rfl, hv, hsp, hl, htn, hcase⟩ := h
    refine ⟨_, PSs.nox (pss_cons (ps_try_as (i := 3) rfl rfl sc__law_told.nd rfl rfl ⟨rfl, by decide, .inl U.gN⟩ takes0
          (tb := fun W => tAsg (tCallS (sp_paper T B U) (WE W) (tCons (tVar 0) (tCons (tVar 1) tNil))) (gName 2))
          (ts := fun a cls d => fun D σ H => (cls = .ref U.N ∧ d = none) ∧ tRet (tLst (tCons (tC (.str "none")) (tCons (tCB (rIsE K U.N a) (tCons (tVar 3) (tCons (tC (.ref U.Jw)) tNil))) tNil))) D σ H)
          (fun W pn xe tk _ => pss_one (ps_set (i := 2) sc__law_told.nd rfl (.inl rfl) (pe_callS G_paper (hr.mono (by decide)) (by rfl) T.paper.g T.paper.F.kp hb (fun σ => passAt tk σ) (pa_cons (pv 0) (pa_cons (pv 1) pa_nil)))))
          (fun a oe cls d pn hz hf => pss_when fun hcd => pss_one (ps_ret (pe_lst (pa_cons pe_str (pa_cons (pe_callB (call_isE U.cN (by rw [← hcd.1, ← hcd.2]; exact hz) hf) (by rfl) T.n_isinstance (by decide +kernel) (pa_cons (pv 3) (pa_cons (pe_glob (v := .ref U.Jw) (by rfl) U.gJ rfl) pa_nil))) pa_nil))))))
        (pss_one (ps_ret (pe_lst (pa_cons pe_str (pa_cons (pv 2) pa_nil)))))), ?_⟩
    have tl : ∀ {H1 : Hp} {a : Addr} {o : HO}, TabsN B.tabs H1 → H1 a = none → TabsN B.tabs (upd H1 a o) := fun t n => t.ext (same_new' n)
    refine ⟨_, rfl, _, rfl, v, l, n, span, ws, o, rfl, hv, hsp, hl, htn, ?_⟩
    rcases hcase with ⟨h1, q⟩ | ⟨h1, qn, qs⟩
    · refine .inl ⟨h1, fun H1 p e1 t1 hp => ⟨_, rfl, (by show 2 ≤ sizeLine; decide), fun a na => ?_⟩⟩
      exact q _ a p (extn_trans e1 (extn_of (same_new' na))) (tl t1 na) upd_same (same_new' na _ _ hp)
    · refine .inr ⟨h1, fun H1 hL e1 t1 => ⟨true, U.eN, fun _ a na => ⟨⟨rfl, rfl⟩, ?_⟩, fun z => nomatch z⟩, fun H1 p c kvs hL e1 t1 hp hP => ⟨_, rfl, (by show 2 ≤ sizeLine; decide), fun a na => ?_⟩⟩
      · refine ⟨_, rfl, .ref U.Jw, .ref U.Jw, true, rfl, (fun u r => r), U.iJ, (by show 2 ≤ sizeLine; decide), fun b nb => ?_⟩
        exact qn _ b hL (extn_trans e1 (extn_of (same_new' nb))) (tl t1 nb) upd_same
      · exact qs _ a p c kvs hL (extn_trans e1 (extn_of (same_new' na))) (tl t1 na) upd_same (same_new' na _ _ hp) hP
end
end J
/-! The law. -/
namespace J
open PySem PySem.Spec PyProof.Rows L2 LamX NdefX
/-- without a machine some plan does -/
theorem none_closes {n span : Int} {ws : List (PySem.Str × List Row)} (ok : WsOk n ws) (hsp : SpanIs n ws span) : ¬ JM.LeastIs (woOf n span ws) (stepsF n span ws none) (firstsS n span ws none) none := fun h => by
  have Kw := woOf_ok ok hsp
  have hne : ws ≠ [] := ok.ne
  obtain ⟨w, r, rfl⟩ : ∃ w r, ws = w :: r := by
    cases ws with
    | nil => exact absurd rfl hne
    | cons a r => exact ⟨a, r, rfl⟩
  have hw : w.1 ∈ (w :: r).map (·.1) := List.mem_map.mpr ⟨w, List.mem_cons_self .., rfl⟩
  have m := Kw.m_pos (w := w.1) hw
  have hu : ((("" : PySem.Str), (w.1, ((((0 : Nat) : Int)), ((0 : Nat) : Int) + (woOf n span (w :: r)).m w.1 - 1))) : Stand) ∈ firstsS n span (w :: r) none := by
    unfold firstsS
    refine List.mem_flatMap.mpr ⟨(w.1, ((0 : Int), ("" : PySem.Str))), List.mem_map.mpr ⟨w.1, hw, rfl⟩, ?_⟩
    exact mem_stands.mpr ⟨0, by omega, rfl⟩
  have g := firstsS_good Kw (o := none) trivial hu
  obtain ⟨d, hd⟩ := JM.closes Kw (S := statesOf none) (steps := stepsF n span (w :: r) none) (fun a ha v hv t ht => ⟨"", List.mem_singleton.mpr rfl, List.mem_flatMap.mpr ⟨v, hv, List.mem_map.mpr ⟨t, List.mem_range.mpr (by have : (t : Int) < span := ht; omega), rfl⟩⟩⟩) _ _ g (Int.self_le_toNat _)
  exact h _ hu d hd
theorem same_sx {H H1 H2 : Hp} {p : Addr} (a : Same H H1) (b : SameX p H1 H2) (n : H p = none) : Same H H2 := fun c o e => b _ _ (ne_of_none e n) (a _ _ e)
theorem eTri_ni (b : Tri) (i : Int) : eTri b ≠ .int i := fun z => by unfold eTri at z; cases z
theorem eRow_ni (b : Row) (i : Int) : eRow b ≠ .int i := fun z => by unfold eRow at z; cases z
theorem DAt.pool {β : Type} {enc : β → PyData} {H H' : Hp} {a : Addr} {v : V} {ws : List (PySem.Str × List β)} (he : ∀ b i, enc b ≠ .int i) (hp : PoolAt H a) (k : SameX a H H') (h : DAt (LAt enc) H v ws) : DAt (LAt enc) H' v ws := by
  obtain ⟨d, kvs, e, h1, h2⟩ := h
  refine ⟨d, kvs, e, k _ _ (fun z => ?_) h1, h2.mono fun v b h => LAt.pool2 he hp k h⟩
  obtain ⟨x, y, z', h, _⟩ := hp
  rw [z, h] at h1
  cases h1
section
variable {P : Program} {w : World} {K : PySem.W.Frag} {mg : Str → Option Value} {base : Heap}
def sp_law (T : Wd K mg) (B : TbF base T) : Sp := fun vs H Q _ => ∃ (a : Addr) (is : List Int), vs = [.ref a] ∧ SqL K H a (is.map .int) ∧ TabsN B.tabs H ∧ ∀ H', Q (.bl true) H'
theorem sc_law : FnScope ["_law_script", "_law_sizes", "_law_limited", "_law_around", "_law_pairs", "_law_rules_here", "_law_part_here", "_law_let_here", "_law_model_here", "_law_least", "_law_told_here"] ["_law_script"] (defScope s_law) := ⟨rfl, rfl, rfl, by decide +kernel, rfl, by decide +kernel, by decide +kernel⟩
-- slots: 0 _law_script, 1 _law_sizes, 2 _law_limited, 3 _law_around, 4 _law_pairs, 5 _law_rules_here, 6 _law_part_here, 7 _law_let_here, 8 _law_model_here, 9 _law_least, 10 _law_told_here
theorem ok_law (T : Wd K mg) (B : TbF base T) (U : Wx K mg) {f : Addr} {fd : FuncData} (F : FunD K "law" "law" (defArgs s_law) (defBody s_law) (defScope s_law) [] [] f fd) : FnOk P w K mg base CX0 13 f fd ["_law_script"] (sp_law T B) := by
  have G__law_pool := ok__law_pool (P := P) (w := w) (base := base) T
  have G__law_draw := ok__law_draw (P := P) (w := w) (base := base) T
  have G__law_world := ok__law_world (P := P) (w := w) (base := base) T
  have G__law_rules := ok__law_rules (P := P) (w := w) (base := base) T
  have G__law_part := ok__law_part (P := P) (w := w) (base := base) T
  have G__law_let := ok__law_let (P := P) (w := w) (base := base) T
  have G__law_model := ok__law_model (P := P) (w := w) (base := base) T
  have G_least_length := ok_least_length (P := P) (w := w) (base := base) T B
  have G__law_told := ok__law_told (P := P) (w := w) (base := base) T B U
  have G__law_is_paper := ok__law_is_paper (P := P) (w := w) (base := base) T
  have G_is_paper := ok_is_paper (P := P) (w := w) (base := base) T B
  refine F.ok sc_law (fun vs H Q E h => ?_) (fun cdv A outer s H vs Q E hr h => ?_)
  · obtain ⟨a, is, rfl, _⟩ := h
    rfl
  · obtain ⟨a, is, rfl, hS, htn, q⟩ := h
    refine ⟨_, PSs.nox (pss_cons (ps_set (i := 1) sc_law.nd rfl (.inl rfl) (pe_call G__law_pool (hr.mono (by decide)) (by rfl) T._law_pool.g T._law_pool.F.kp T._law_pool.b .nil pass0 (pa_cons (pv 0) (pa_cons pe_int pa_nil))))
      (pss_cons (ps_set (i := 2) sc_law.nd rfl (.inl rfl) (pe_cmpR op_gt (pe_call G__law_draw (hr.mono (by decide)) (by rfl) T._law_draw.g T._law_draw.F.kp T._law_draw.b .nil pass0 (pa_cons (pv 1) (pa_cons pe_int pa_nil))) pe_int (nomark _)))
      (C8.pss_cut (ps_set (i := 3) sc_law.nd rfl (.inl rfl) (pe_op op_add pe_int (pe_call G__law_draw (hr.mono (by decide)) (by rfl) T._law_draw.g T._law_draw.F.kp T._law_draw.b .nil pass0 (pa_cons (pv 1) (pa_cons (pe_op op_add pe_int (pe_op op_mul pe_int (pe_callTy call_int1 (by rfl) T.n_int (by decide +kernel) (pa_cons (pv 2) pa_nil)))) pa_nil)))))
      (pss_cons (ps_set (i := 4) sc_law.nd rfl (.inl rfl) (pe_call G__law_world (hr.mono (by decide)) (by rfl) T._law_world.g T._law_world.F.kp T._law_world.b .nil pass0 (pa_cons (pe_call G__law_pool (hr.mono (by decide)) (by rfl) T._law_pool.g T._law_pool.F.kp T._law_pool.b .nil pass0 (pa_cons (pv 0) (pa_cons pe_int pa_nil))) (pa_cons (pv 3) (pa_cons pe_int pa_nil)))))
      (pss_cons (ps_set (i := 5) sc_law.nd rfl (.inl rfl) (pe_call G__law_rules (hr.mono (by decide)) (by rfl) T._law_rules.g T._law_rules.F.kp T._law_rules.b .nil pass0 (pa_cons (pe_call G__law_pool (hr.mono (by decide)) (by rfl) T._law_pool.g T._law_pool.F.kp T._law_pool.b .nil pass0 (pa_cons (pv 0) (pa_cons pe_int pa_nil))) (pa_cons (pv 3) (pa_cons (pe_callB cr_sortedS (by rfl) T.n_sorted (by decide +kernel) (pa_cons (pe_callTy (call_list_dK rfl) (by rfl) T.n_list (by decide +kernel) (pa_cons (pv 4) pa_nil)) pa_nil)) (pa_cons (pe_op op_add pe_int (pe_call G__law_draw (hr.mono (by decide)) (by rfl) T._law_draw.g T._law_draw.F.kp T._law_draw.b .nil pass0 (pa_cons (pv 1) (pa_cons pe_int pa_nil)))) (pa_cons pe_int pa_nil)))))))
      (C8.pss_cut (ps_if (pt_not (pt_val (pv 2) (fun _ => rfl)))
        (pss_one (ps_set (i := 5) sc_law.nd rfl (.inl rfl) pe_non))
        pss_nil)
      (pss_cons (ps_set (i := 6) sc_law.nd rfl (.inl rfl) (pe_call G__law_part (hr.mono (by decide)) (by rfl) T._law_part.g T._law_part.F.kp T._law_part.b .nil pass0 (pa_cons (pv 4) (pa_cons (pv 3) pa_nil))))
      (pss_cons (ps_set (i := 7) sc_law.nd rfl (.inl rfl) (pe_call G__law_let (hr.mono (by decide)) (by rfl) T._law_let.g T._law_let.F.kp T._law_let.b .nil pass0 (pa_cons (pv 5) (pa_cons (pv 3) pa_nil))))
      (pss_cons (ps_set (i := 8) sc_law.nd rfl (.inl rfl) (pe_call G__law_model (hr.mono (by decide)) (by rfl) T._law_model.g T._law_model.F.kp T._law_model.b .nil pass0 (pa_cons (pv 4) (pa_cons (pv 3) pa_nil))))
      (pss_cons (ps_set (i := 9) sc_law.nd rfl (.inl rfl) (pe_call G_least_length (hr.mono (by decide)) (by rfl) T.least_length.g T.least_length.F.kp T.least_length.b T.least_length.dr pass0 (pa_cons (pv 6) (pa_cons (pv 7) pa_nil))))
      (pss_cons (ps_set (i := 10) sc_law.nd rfl (.inl rfl) (pe_call G__law_told (hr.mono (by decide)) (by rfl) T._law_told.g T._law_told.F.kp T._law_told.b .nil pass0 (pa_cons (pv 6) (pa_cons (pv 7) pa_nil))))
      (pss_cons (ps_if (pt_cmpR op_isN (pv 9) pe_non (nomark _))
        (pss_one (ps_ret (pe_and (pv 2) (pe_one (pe_cmpR (op_eqD hr.units) (pv 10) (pe_lst (pa_cons pe_str (pa_cons pe_bl pa_nil))) (nomark _))))))
        pss_nil)
      (pss_cons (ps_if (PW.pt (pw_or (pt_cmpR op_ne (pe_ix ix_list (pv 10) pe_int (fun _ _ => rfl)) pe_str (nomark _)) (pw_or1 (pt_not (pt_val (pe_call G__law_is_paper (hr.mono (by decide)) (by rfl) T._law_is_paper.g T._law_is_paper.F.kp T._law_is_paper.b .nil pass0 (pa_cons (pv 8) (pa_cons (pv 5) (pa_cons (pv 9) (pa_cons (pe_ix ix_list (pv 10) pe_int (fun _ _ => rfl)) pa_nil))))) (fun _ => rfl))))))
        (pss_one (ps_ret pe_bl))
        pss_nil)
      (pss_one (ps_ret (pe_and (pe_cmpR op_isBl (pe_call G_is_paper (hr.mono (by decide)) (by rfl) T.is_paper.g T.is_paper.F.kp T.is_paper.b T.is_paper.dr pass0 (pa_cons (pv 6) (pa_cons (pv 9) (pa_cons (pe_ix ix_list (pv 10) pe_int (fun _ _ => rfl)) (pa_cons (pv 7) pa_nil))))) pe_bl (nomark _)) (pe_one (pe_cmpR op_isBl (pe_call G_is_paper (hr.mono (by decide)) (by rfl) T.is_paper.g T.is_paper.F.kp T.is_paper.b T.is_paper.dr pass0 (pa_cons (pv 6) (pa_cons (pe_op op_add (pv 9) pe_int) (pa_cons (pe_ix ix_list (pv 10) pe_int (fun _ _ => rfl)) (pa_cons (pv 7) pa_nil))))) pe_bl (nomark _)))))))))))))))))))
, ?_⟩
    refine ⟨_, rfl, a, 0, is, rfl, hS, by omega, fun H1 p1 n1 s1 hp1 => ?_⟩
    refine ⟨_, rfl, p1, 4, rfl, hp1, by decide, by decide, fun H2 r2 s2 hp2 r20 r21 => ⟨_, _, rfl, rfl, ?_⟩⟩
    have S2 : Same H H2 := same_sx s1 s2 n1
    refine ⟨fun σ H' => Same H H' ∧ PoolAt H' p1 ∧ ∃ (lim : Bool) (n : Int), 2 ≤ n ∧ n ≤ 360 ∧ σ = [some (.ref a), some (.ref p1), some (.bl lim), some (.int n), none, none, none, none, none, none, none], ?_, fun σ' H3 hM => ?_⟩
    · refine ⟨_, rfl, _, rfl, .inr ⟨_, rfl, ?_⟩⟩
      refine ⟨_, _, rfl, rfl, .inl (by decide), _, _, rfl, rfl, p1, _, rfl, hp2, ?_, ?_, fun H3 r3 s3 hp3 r30 r31 => ⟨_, _, rfl, rfl, same_sx S2 s3 n1, hp3, _, _, ?_, ?_, rfl⟩⟩
      · split <;> omega
      · split <;> omega
      · show 2 ≤ 2 + r3
        omega
      · show 2 + r3 ≤ 360
        split at r31 <;> omega
    obtain ⟨S3, hp3, lim, n, n2, n3, rfl⟩ := hM
    refine ⟨_, rfl, a, 1, is, rfl, S3.seq hS, by omega, fun H4 p2 n4 s4 hp4 => ?_⟩
    refine ⟨_, rfl, p2, n, 12, rfl, hp4, n2, n3, rfl, fun H5 pp ws nH5 s5 hp5 hw ok => ?_⟩
    have S35 : Same H3 H5 := same_sx s4 s5 n4
    have S5 := S3.trans S35
    refine ⟨_, rfl, a, 2, is, rfl, S5.seq hS, by omega, fun H6 p3 n6 s6 hp6 => ?_⟩
    have hp1_6 : PoolAt H6 p1 := hp3.sm (S35.trans s6)
    have hw6 : DAt (LAt eRow) H6 (.ref pp) ws := hw.sm (fun _ _ h => h.sm s6) s6
    have hw60 := hw6
    obtain ⟨d, kvs, e, hd6, hk6⟩ := hw60
    cases e
    have hwl : ws.length ≤ 2 := by rcases ok.form with ⟨r, rfl⟩ | ⟨r, rfl⟩ | ⟨r, r', rfl⟩ <;> simp
    have hwp : 1 ≤ ws.length := by rcases ok.form with ⟨r, rfl⟩ | ⟨r, rfl⟩ | ⟨r, r', rfl⟩ <;> simp
    refine ⟨_, rfl, _, rfl, pp, kvs, rfl, hd6, fun l hl => ⟨l, ws.map (·.1), rfl, SqL.of (by rw [upd_same, hk6.keys, List.map_map]; rfl), by rw [List.length_map]; omega, fun ys wa perm _ nwa => ?_⟩⟩
    have s68 : Same H6 (upd (upd H6 l (.lst (kvs.map fun kv => kV kv.1))) wa (.lst (ys.map V.str))) := (same_new hl).trans (same_new nwa)
    have hwa8 : (upd (upd H6 l (.lst (kvs.map fun kv => kV kv.1))) wa (.lst (ys.map V.str))) wa = some (.lst (ys.map V.str)) := upd_same
    have nwa6 : H6 wa = none := (same_new hl).free nwa
    generalize upd (upd H6 l (.lst (kvs.map fun kv => kV kv.1))) wa (.lst (ys.map V.str)) = H7 at s68 hwa8
    have hp1_7 := hp1_6.sm s68
    have hp3_7 := hp6.sm s68
    have n13 : p3 ≠ p1 := fun e => by
      obtain ⟨x, y, z, h, _⟩ := hp3
      have := (S35 _ _ h)
      rw [e, this] at n6
      cases n6
    have nw1 : wa ≠ p1 := fun e => by
      obtain ⟨x, y, z, h, _⟩ := hp1_6
      rw [e, h] at nwa6
      cases nwa6
    have nw3 : wa ≠ p3 := fun e => by
      obtain ⟨x, y, z, h, _⟩ := hp6
      rw [e, h] at nwa6
      cases nwa6
    refine ⟨_, rfl, p1, 3, rfl, hp1_7, by decide, by decide, fun H8 r8 s8 hp1_8 r80 r81 => ⟨_, _, rfl, rfl, ?_⟩⟩
    have hp3_8 : PoolAt H8 p3 := by
      obtain ⟨x, y, z, h, o⟩ := hp3_7
      exact ⟨x, y, z, s8 _ _ n13 h, o⟩
    have hw8 : DAt (LAt eRow) H8 (.ref pp) ws := DAt.pool eRow_ni hp1_7 s8 (hw6.sm (fun _ _ h => h.sm s68) s68)
    have yl : ys.length = ws.length := by rw [perm.length_eq, List.length_map]
    refine ⟨p3, wa, n, 1 + r8, 8, ys, rfl, hp3_8, s8 _ _ nw1 hwa8, nw3, n2, n3, by omega, by omega, fun x hx => ?_, by omega, by omega, rfl, fun H9 rd rs nH9 s9 hp3_9 hR okR fR => ?_⟩
    · have := perm.mem_iff.mp hx
      rcases ok.form with ⟨r, rfl⟩ | ⟨r, rfl⟩ | ⟨r, r', rfl⟩
      · exact .inl (List.mem_singleton.mp this)
      · exact .inr (List.mem_singleton.mp this)
      · rcases List.mem_cons.mp this with h | h
        · exact .inl h
        · exact .inr (List.mem_singleton.mp h)
    have S8 : Same H H8 := same_sx (S5.trans (s6.trans s68)) s8 n1
    have hn3 : H p3 = none := S5.free n6
    have S9 : Same H H9 := same_sx S8 s9 hn3
    have hw9 : DAt (LAt eRow) H9 (.ref pp) ws := DAt.pool eRow_ni hp3_8 s9 hw8
    have tn9 : TabsN B.tabs H9 := htn.ext S9
    have fits : Fits ws rs := fun p hp r hr => perm.mem_iff.mp (fR p hp r hr)
    refine ⟨fun σ H' => H' = H9 ∧ ∃ (rv : V) (o : RsO), RlsAt H9 rv o ∧ MachOk n ws o ∧ (o = none ∨ lim = true) ∧ σ = [some (.ref a), some (.ref p1), some (.bl lim), some (.int n), some (.ref pp), some rv, none, none, none, none, none], ?_, fun σ' H10 hM => ?_⟩
    · refine ⟨_, rfl, lim, rfl, ?_⟩
      cases lim with
      | true => exact iteF ⟨rfl, .ref rd, some rs, hR, ⟨okR, fits⟩, .inr rfl, rfl⟩
      | false => exact iteT ⟨rfl, .non, none, rfl, trivial, .inl rfl, rfl⟩
    obtain ⟨rfl, rv, o, hrv, mok, hlim, rfl⟩ := hM
    refine ⟨_, rfl, _, rfl, .ref pp, n, ws, rfl, hw9, ok, fun HA va sA hPA => ?_⟩
    refine ⟨_, rfl, _, rfl, rv, n, ws, o, rfl, hrv.sm sA, mok, fun HB lb sB hLB => ?_⟩
    refine ⟨_, rfl, _, rfl, .ref pp, n, ws, rfl, hw9.sm (fun _ _ h => h.sm (sA.trans sB)) (sA.trans sB), ok, fun HC mc span sC hMC hsp => ?_⟩
    have hPC : PartAt T HC va n ws := (hPA.ke (ke_of sB)).ke (ke_of sC)
    have hLC : LetOr T HC lb n ws o := hLB.sm sC
    have hIC : LawIn HC mc rv n span ws o := ⟨hMC, (hrv.sm sA).sm (sB.trans sC), ok, hsp, mok⟩
    have tnC : TabsN B.tabs HC := tn9.ext (sA.trans (sB.trans sC))
    refine ⟨_, rfl, _, rfl, va, lb, n, span, ws, o, rfl, hPC, hsp, hLC, tnC, fun HD r eD tnD hr => ?_⟩
    have kD := ke_extn eD
    refine ⟨_, rfl, _, rfl, va, lb, n, span, ws, o, rfl, hPC.ke kD, hsp, hLC.ke kD, tnD, ?_⟩
    by_cases h1 : span = 1
    · rw [if_pos h1] at hr
      subst hr
      refine .inl ⟨h1, fun HE ta tp eE tnE hta htp => ?_⟩
      have kE := kD.trans (ke_extn eE)
      refine ⟨_, rfl, rfl, _, rfl, iteF ?_⟩
      refine ⟨_, rfl, ta, _, 0, _, rfl, rfl, SqL.of hta, rfl, rfl, false, rfl, iteF ?_⟩
      refine ⟨_, rfl, _, rfl, _, rfl, _, rfl, ta, _, 1, _, rfl, rfl, SqL.of hta, rfl, mc, rv, 0, tp, n, span, ws, o, rfl, hIC.ke kE, .inl ⟨rfl, h1, htp, fun HF sF => ⟨true, rfl, iteF ?_⟩⟩⟩
      have kF := kE.trans (ke_of sF)
      refine ⟨_, rfl, _, rfl, _, rfl, ta, _, 1, _, rfl, rfl, SqL.of (sF _ _ hta), rfl, _, rfl, va, lb, 0, tp, n, span, ws, o, rfl, hPC.ke kF, hsp, hLC.ke kF, tnE.ext sF, .inl ⟨rfl, sF _ _ htp, fun HG eG tnG => ⟨true, true, rfl, rfl, true, rfl, iteT ?_⟩⟩⟩
      have kG := kF.trans (ke_extn eG)
      have htaG := eG _ _ (sF _ _ hta) (fun _ z => nomatch z)
      refine ⟨_, rfl, _, rfl, 0, 1, rfl, rfl, _, rfl, ta, _, 1, _, rfl, rfl, SqL.of htaG, rfl, _, rfl, va, lb, 1, tp, n, span, ws, o, rfl, hPC.ke kG, hsp, hLC.ke kG, tnG, .inr (.inl ⟨by decide, h1, fun HH _ _ => ⟨false, false, rfl, rfl, q HH⟩⟩)⟩
    · rw [if_neg h1] at hr
      cases r with
      | none =>
        have hlt : lim = true := by
          rcases hlim with h | h
          · subst h
            exact absurd hr (none_closes ok hsp)
          · exact h
        subst hlt
        refine .inr ⟨h1, fun HE ta hL eE tnE hta => ?_, fun HE ta tp c kvs hL => absurd (JM.LeastIs.uniq hr hL) (nomatch ·)⟩
        refine ⟨_, rfl, rfl, _, rfl, iteT ?_⟩
        refine ⟨_, rfl, true, rfl, iteT ⟨_, rfl, (by show 2 ≤ sizeLine; decide), fun l nl => ?_⟩⟩
        have hta' : (upd HE l (.lst [.str "none", .bl true])) ta = some (.lst [.str "none", .bl true]) := (upd_ne (ne_of_none hta nl)).trans hta
        refine ⟨.list [.str "none", .bool true], .list [.str "none", .bool true], .lst (SqL.of hta') (.cons (.str _) (.cons (.bl _) .nil)), .lst (SqL.of upd_same) (.cons (.str _) (.cons (.bl _) .nil)), by decide +kernel, by decide +kernel, ?_⟩
        have e : PyData.eqv (.list [.str "none", .bool true]) (.list [.str "none", .bool true]) = true := by decide +kernel
        rw [e]
        exact q _
      | some c =>
        refine .inr ⟨h1, fun HE ta hL => absurd (JM.LeastIs.uniq hr hL) (nomatch ·), fun HE ta tp c' kvs hL eE tnE hta htp hP => ?_⟩
        have ec := JM.LeastIs.uniq hr hL
        cases ec
        have kE := kD.trans (ke_extn eE)
        obtain ⟨c1, c2⟩ := least_small ok hsp mok hr
        have P1 := hP.p1 hr
        have P2 := hP.p2 hr
        have P3 := hP.p3 hr
        have N2 := hP.not2 hr
        refine ⟨_, rfl, rfl, _, rfl, iteF ?_⟩
        refine ⟨_, rfl, ta, _, 0, _, rfl, rfl, SqL.of hta, rfl, rfl, false, rfl, iteF ?_⟩
        refine ⟨_, rfl, _, rfl, _, rfl, _, rfl, ta, _, 1, _, rfl, rfl, SqL.of hta, rfl, mc, rv, c, tp, n, span, ws, o, rfl, hIC.ke kE, .inr ⟨c1, h1, kvs, htp, hP.nd, P1, P2, P3, fun p hp => ?_, fun HF sF => ⟨true, rfl, iteF ?_⟩⟩⟩
        · have := (hP.val hr p hp).2
          omega
        have kF := kE.trans (ke_of sF)
        refine ⟨_, rfl, _, rfl, _, rfl, ta, _, 1, _, rfl, rfl, SqL.of (sF _ _ hta), rfl, _, rfl, va, lb, c, tp, n, span, ws, o, rfl, hPC.ke kF, hsp, hLC.ke kF, tnE.ext sF, .inr (.inr ⟨c1, h1, kvs, true, sF _ _ htp, hP.nd, P1, ⟨fun _ => ⟨P2, P3⟩, fun _ => rfl⟩, fun HG eG tnG => ⟨true, true, rfl, rfl, true, rfl, iteT ?_⟩⟩)⟩
        have kG := kF.trans (ke_extn eG)
        have htaG := eG _ _ (sF _ _ hta) (fun _ z => nomatch z)
        have htpG := eG _ _ (sF _ _ htp) (fun _ z => nomatch z)
        refine ⟨_, rfl, _, rfl, c, 1, rfl, rfl, _, rfl, ta, _, 1, _, rfl, rfl, SqL.of htaG, rfl, _, rfl, va, lb, c + 1, tp, n, span, ws, o, rfl, hPC.ke kG, hsp, hLC.ke kG, tnG, .inr (.inr ⟨by omega, h1, kvs, false, htpG, hP.nd, P1, ⟨(nomatch ·), fun h => absurd h.1 N2⟩, fun HH _ _ => ⟨false, false, rfl, rfl, q HH⟩⟩)⟩
end
end J
/-! The top's facts as the walks want them. -/
namespace J
open PySem PySem.Spec PyProof.Rows L2 LamX NdefX
theorem mem_fa {f : He.Fa} (i j : Nat) {l : List He.Fa} (h : [hdFa0, hdFa1, hdFa2, hdFa3, hdFa4][i]? = some l) (e : l[j]? = some f) : f ∈ hdFa := by
  have h1 : l ∈ [hdFa0, hdFa1, hdFa2, hdFa3, hdFa4] := List.mem_of_getElem? h
  have h2 : f ∈ l := List.mem_of_getElem? e
  have h3 : f ∈ [hdFa0, hdFa1, hdFa2, hdFa3, hdFa4].flatten := List.mem_flatten.mpr ⟨l, h1, h2⟩
  have h4 : [hdFa0, hdFa1, hdFa2, hdFa3, hdFa4].flatten = hdFa := by simp [hdFa, List.flatten]
  rw [h4] at h3
  exact h3
section
variable {K : PySem.W.Frag} {h : Heap} {mg : Str → Option Value} {w : World}
theorem SaysJ.d (c : SaysJ w h K) : He.SaysD hdFa hdFn K := c.x.t.d
theorem vals_drop : ∀ (n : Nat) {vs : List V} {us : List Value}, Vals vs us → Vals (vs.drop n) (us.drop n)
  | 0, _, _, h => h
  | n + 1, _, _, .nil => .nil
  | n + 1, _, _, .cons a b => vals_drop n b
theorem ex_parts (c : SaysJ w h K) : (He.tupB K "WORDS" [.str "push", .str "squeeze"] = true ∧ PySem.W.nsIn K mainGlobals "lcm" = some (some (.builtin "math.lcm")) ∧ PySem.W.fnIn K (He.ma K (He.ga K "Part") "__getitem__") = true) ∧
    (PySem.W.findIn K (.ref (He.ga K "NoPlan")) "__getattribute__" = some (some (.builtin "BaseException.__getattribute__")) ∧ PySem.W.findIn K (.ref (He.ga K "NoPlan")) "__getattr__" = some none ∧ PySem.W.hasDictIn K (He.ga K "NoPlan") = true ∧ PySem.W.findIn K (.ref (He.ga K "NoPlan")) "__class__" = some (some (.builtin "object.__class__")) ∧
      PySem.W.specialIn K (.builtin "object.__class__") "__get__" = some (some (.builtin "getset_descriptor.__get__")) ∧ PySem.W.takesIn K (.builtin "object.__class__") = some true ∧ PySem.W.mroIn K (He.ga K "NoPlan") (.type "object") = some true) ∧
    PySem.W.kitOne K (.ref (He.ga K "NoPlan")) (.ref (He.ga K "JawError")) = some true ∧ (He.cT K ("CutSearch", some "__init__")).2 ≠ (He.cT K ("is_paper", none)).2 := by
  have z := c.x.more
  unfold hdEx at z
  simp only [Bool.and_eq_true, Bool.not_eq_true', decide_eq_true_eq, decide_eq_false_iff_not] at z
  obtain ⟨⟨a1, a2, a3⟩, ⟨b1, b2, b3, b4, b5, b6, b7⟩, d1, d2⟩ := z
  exact ⟨⟨a1, He.eqO_ok a2, a3⟩, ⟨He.eqO_ok b1, He.eqO_ok b2, b3, He.eqO_ok b4, He.eqO_ok b5, b6, b7⟩, d1, d2⟩
theorem funAt {a : Addr} {x q : Str} {st : Stmt} (e : obsAt K a = some (x, q, defArgs st, .stmts (defBody st), defScope st, mainGlobals, [], builtinsNs)) (o : okAt K a q = true) : ∃ fd, FunD K x q (defArgs st) (defBody st) (defScope st) [] [] a fd := by
  unfold obsAt at e
  unfold okAt at o
  cases hl : K.lookup a with
  | none => rw [hl] at e; cases e
  | some ob =>
    rw [hl] at e o
    obtain ⟨oc, od, dt, sl⟩ := ob
    cases dt with
    | func u =>
      obtain ⟨u1, u2, u3, u4, u5, u6, u7, u8, u9, u10, u11, u12, u13, u14, u15⟩ := u
      have e' : some (u1, u2, u3, u4, u5, u6, u7, u15) = some (x, q, defArgs st, FuncBody.stmts (defBody st), defScope st, mainGlobals, ([] : List (Str × Addr)), builtinsNs) := e
      simp only [Option.some.injEq, Prod.mk.injEq] at e'
      obtain ⟨rfl, rfl, rfl, rfl, rfl, rfl, rfl, rfl⟩ := e'
      have o' : (PySem.W.keepIn K (.ref a) && PySem.W.codeIn K u13 u2 && noneB u8) = true := o
      rw [Bool.and_eq_true, Bool.and_eq_true] at o'
      obtain ⟨⟨o1, o2⟩, o3⟩ := o'
      cases u8 with
      | none => exact ⟨_, ⟨oc, od, .none, u9, u10, u11, u12, u13, u14, sl, rfl, hl, o2, .inl ⟨rfl, rfl⟩, .inl rfl⟩, o1⟩
      | _ => cases o3
    | _ => cases e
theorem prop_of (c : SaysJ w h K) {d : PrD} (m : d ∈ hdPr) : PropOf K (He.ga K d.c) d.x (d.p K) (d.g K) ∧ ∃ fd, FunD K d.x d.q (defArgs d.st) (defBody d.st) (defScope d.st) [] [] (d.g K) fd := by
  have e1 : (hdPr.all fun d => d.ok K) = true := congrArg Prod.fst c.p
  have e2 : hdPr.map (fun d => obsAt K (d.g K)) = hdPr.map PrD.val := congrArg Prod.snd c.p
  have o := List.all_eq_true.mp e1 d m
  have v : obsAt K (d.g K) = d.val := by
    obtain ⟨i, hi⟩ := List.mem_iff_getElem?.mp m
    have e3 : (hdPr.map (fun d => obsAt K (d.g K)))[i]? = (hdPr.map PrD.val)[i]? := by rw [e2]
    rw [List.getElem?_map, List.getElem?_map, hi] at e3
    exact Option.some.inj e3
  unfold PrD.ok at o
  simp only [Bool.and_eq_true, decide_eq_true_eq] at o
  obtain ⟨o1, o2, o3, o4, o5⟩ := o
  refine ⟨⟨He.eqO_ok o2, He.eqO_ok o3, o4, ?_⟩, funAt v o1⟩
  have hg : d.g K = (match PySem.W.recIn K (d.p K) "property" with | some (.ref g :: _) => g | _ => 0) := rfl
  cases hr : PySem.W.recIn K (d.p K) "property" with
  | none => rw [hr] at o5; cases o5
  | some l =>
    cases l with
    | nil => rw [hr] at o5; cases o5
    | cons v r =>
      cases v with
      | ref g =>
        rw [hr] at hg
        have hg' : d.g K = g := hg
        rw [hg']
        exact ⟨r, rfl⟩
      | _ => rw [hr] at o5; cases o5
theorem code_of {x : Str} {p : He.Defn} {q : Str} {ar : Arguments} {bo : List Stmt} {sc : Scope} {dv : List V} {f : Addr} {fd : FuncData} (F : FunD K x q ar bo sc dv [] f fd) (hf : f = He.fAd K p) : fd.code = .ref (He.codeOf K p) := by
  obtain ⟨oc, od, dV, kV, doc, pm, an, cdv, ct, osl, e, lk, hcd, _, _⟩ := F.ex
  obtain ⟨c', hc⟩ := He.codeIn_ref hcd
  rw [hf] at lk
  have e2 : fd.code = .ref c' := by rw [e]; exact hc
  rw [He.codeOf_eq lk e2]
  exact e2
/-- the function objects that the code tables belong to -/
theorem wd_of (X : K.In h) (G : h.Ns mainGlobals mg) (c : SaysJ w h K) : ∃ T : Wd K mg, T.CutSearch_init.fd.code = .ref (He.codeOf K ("CutSearch", some "__init__")) ∧ T.is_paper.fd.code = .ref (He.codeOf K ("is_paper", none)) := by
  obtain ⟨⟨x1, x2, x3⟩, _, _⟩ := ex_parts c
  obtain ⟨fd_is_integer, F_is_integer⟩ := c.d.def_ 0 (d := hd_is_integer) rfl
  obtain ⟨fd_is_row, F_is_row⟩ := c.d.def_ 1 (d := hd_is_row) rfl
  obtain ⟨fd_is_place, F_is_place⟩ := c.d.def_ 2 (d := hd_is_place) rfl
  obtain ⟨fd_check_round, F_check_round⟩ := c.d.def_ 3 (d := hd_check_round) rfl
  obtain ⟨fd_is_pair, F_is_pair⟩ := c.d.def_ 4 (d := hd_is_pair) rfl
  obtain ⟨fd_checked_rows, F_checked_rows⟩ := c.d.def_ 5 (d := hd_checked_rows) rfl
  obtain ⟨fd_rows_turned, F_rows_turned⟩ := c.d.def_ 6 (d := hd_rows_turned) rfl
  obtain ⟨fd_least_period, F_least_period⟩ := c.d.def_ 7 (d := hd_least_period) rfl
  obtain ⟨fd_is_word, F_is_word⟩ := c.d.def_ 8 (d := hd_is_word) rfl
  obtain ⟨fd_check_even, F_check_even⟩ := c.d.def_ 9 (d := hd_check_even) rfl
  obtain ⟨fd_is_name, F_is_name⟩ := c.d.def_ 10 (d := hd_is_name) rfl
  obtain ⟨fd_is_rule, F_is_rule⟩ := c.d.def_ 11 (d := hd_is_rule) rfl
  obtain ⟨fd_checked_rules, F_checked_rules⟩ := c.d.def_ 12 (d := hd_checked_rules) rfl
  obtain ⟨fd_check_let, F_check_let⟩ := c.d.def_ 13 (d := hd_check_let) rfl
  obtain ⟨fd_steps_by_state, F_steps_by_state⟩ := c.d.def_ 14 (d := hd_steps_by_state) rfl
  obtain ⟨fd_first_steps, F_first_steps⟩ := c.d.def_ 15 (d := hd_first_steps) rfl
  obtain ⟨fd_stands_of, F_stands_of⟩ := c.d.def_ 16 (d := hd_stands_of) rfl
  obtain ⟨fd_is_closed, F_is_closed⟩ := c.d.def_ 17 (d := hd_is_closed) rfl
  obtain ⟨fd_is_stand, F_is_stand⟩ := c.d.def_ 18 (d := hd_is_stand) rfl
  obtain ⟨fd_stand_behind, F_stand_behind⟩ := c.d.def_ 19 (d := hd_stand_behind) rfl
  obtain ⟨fd_stand_moves, F_stand_moves⟩ := c.d.def_ 20 (d := hd_stand_moves) rfl
  obtain ⟨fd_first_stands, F_first_stands⟩ := c.d.def_ 21 (d := hd_first_stands) rfl
  obtain ⟨fd_explored, F_explored⟩ := c.d.def_ 22 (d := hd_explored) rfl
  obtain ⟨fd_distances, F_distances⟩ := c.d.def_ 23 (d := hd_distances) rfl
  obtain ⟨fd_least_count, F_least_count⟩ := c.d.def_ 24 (d := hd_least_count) rfl
  obtain ⟨fd_numbers, F_numbers⟩ := c.d.def_ 25 (d := hd_numbers) rfl
  obtain ⟨fd_is_numbering, F_is_numbering⟩ := c.d.def_ 26 (d := hd_is_numbering) rfl
  obtain ⟨fd_is_empty_dict, F_is_empty_dict⟩ := c.d.def_ 27 (d := hd_is_empty_dict) rfl
  obtain ⟨fd_least_length, F_least_length⟩ := c.d.def_ 28 (d := hd_least_length) rfl
  obtain ⟨fd_paper, F_paper⟩ := c.d.def_ 29 (d := hd_paper) rfl
  obtain ⟨fd_is_paper, F_is_paper⟩ := c.d.def_ 30 (d := hd_is_paper) rfl
  obtain ⟨fd__law_pool, F__law_pool⟩ := c.d.def_ 31 (d := hd__law_pool) rfl
  obtain ⟨fd__law_draw, F__law_draw⟩ := c.d.def_ 32 (d := hd__law_draw) rfl
  obtain ⟨fd__law_laps, F__law_laps⟩ := c.d.def_ 33 (d := hd__law_laps) rfl
  obtain ⟨fd__law_rows, F__law_rows⟩ := c.d.def_ 34 (d := hd__law_rows) rfl
  obtain ⟨fd__law_world, F__law_world⟩ := c.d.def_ 35 (d := hd__law_world) rfl
  obtain ⟨fd__law_part, F__law_part⟩ := c.d.def_ 36 (d := hd__law_part) rfl
  obtain ⟨fd__law_table, F__law_table⟩ := c.d.def_ 37 (d := hd__law_table) rfl
  obtain ⟨fd__law_lift, F__law_lift⟩ := c.d.def_ 38 (d := hd__law_lift) rfl
  obtain ⟨fd__law_keeps, F__law_keeps⟩ := c.d.def_ 39 (d := hd__law_keeps) rfl
  obtain ⟨fd__law_tables, F__law_tables⟩ := c.d.def_ 40 (d := hd__law_tables) rfl
  obtain ⟨fd__law_span, F__law_span⟩ := c.d.def_ 41 (d := hd__law_span) rfl
  obtain ⟨fd__law_model, F__law_model⟩ := c.d.def_ 42 (d := hd__law_model) rfl
  obtain ⟨fd__law_rules, F__law_rules⟩ := c.d.def_ 43 (d := hd__law_rules) rfl
  obtain ⟨fd__law_rules_of, F__law_rules_of⟩ := c.d.def_ 44 (d := hd__law_rules_of) rfl
  obtain ⟨fd__law_handed, F__law_handed⟩ := c.d.def_ 45 (d := hd__law_handed) rfl
  obtain ⟨fd__law_steps, F__law_steps⟩ := c.d.def_ 46 (d := hd__law_steps) rfl
  obtain ⟨fd__law_firsts, F__law_firsts⟩ := c.d.def_ 47 (d := hd__law_firsts) rfl
  obtain ⟨fd__law_first_stands, F__law_first_stands⟩ := c.d.def_ 48 (d := hd__law_first_stands) rfl
  obtain ⟨fd__law_carried, F__law_carried⟩ := c.d.def_ 49 (d := hd__law_carried) rfl
  obtain ⟨fd__law_behind, F__law_behind⟩ := c.d.def_ 50 (d := hd__law_behind) rfl
  obtain ⟨fd__law_is_index, F__law_is_index⟩ := c.d.def_ 51 (d := hd__law_is_index) rfl
  obtain ⟨fd__law_is_open, F__law_is_open⟩ := c.d.def_ 52 (d := hd__law_is_open) rfl
  obtain ⟨fd__law_is_paper, F__law_is_paper⟩ := c.d.def_ 53 (d := hd__law_is_paper) rfl
  obtain ⟨fd__law_let, F__law_let⟩ := c.d.def_ 54 (d := hd__law_let) rfl
  obtain ⟨fd__law_told, F__law_told⟩ := c.d.def_ 55 (d := hd__law_told) rfl
  obtain ⟨fd_Turning_init, F_Turning_init⟩ := c.d.def_ 57 (d := hd_Turning_init) rfl
  obtain ⟨fd_Part_init, F_Part_init⟩ := c.d.def_ 58 (d := hd_Part_init) rfl
  obtain ⟨fd_Let_init, F_Let_init⟩ := c.d.def_ 59 (d := hd_Let_init) rfl
  obtain ⟨fd_Board_init, F_Board_init⟩ := c.d.def_ 60 (d := hd_Board_init) rfl
  obtain ⟨fd_CutSearch_init, F_CutSearch_init⟩ := c.d.def_ 61 (d := hd_CutSearch_init) rfl
  obtain ⟨fd_Turning_rests, F_Turning_rests⟩ := c.d.def_ 62 (d := hd_Turning_rests) rfl
  obtain ⟨fd_Turning_lifted, F_Turning_lifted⟩ := c.d.def_ 63 (d := hd_Turning_lifted) rfl
  obtain ⟨fd_Turning_is_even, F_Turning_is_even⟩ := c.d.def_ 64 (d := hd_Turning_is_even) rfl
  obtain ⟨fd_Part_getitem, F_Part_getitem⟩ := c.d.def_ 65 (d := hd_Part_getitem) rfl
  obtain ⟨fd_Part_rests, F_Part_rests⟩ := c.d.def_ 66 (d := hd_Part_rests) rfl
  obtain ⟨fd_Board_carried, F_Board_carried⟩ := c.d.def_ 67 (d := hd_Board_carried) rfl
  obtain ⟨fd_Let_rules, F_Let_rules⟩ := c.d.def_ 68 (d := hd_Let_rules) rfl
  obtain ⟨R_Turning_period, fd_Turning_period, F_Turning_period⟩ := prop_of c (d := hp_Turning_period) (List.mem_of_getElem? (i := 0) rfl)
  obtain ⟨R_Part_words, fd_Part_words, F_Part_words⟩ := prop_of c (d := hp_Part_words) (List.mem_of_getElem? (i := 1) rfl)
  obtain ⟨R_Part_period, fd_Part_period, F_Part_period⟩ := prop_of c (d := hp_Part_period) (List.mem_of_getElem? (i := 2) rfl)
  obtain ⟨R_Let_states, fd_Let_states, F_Let_states⟩ := prop_of c (d := hp_Let_states) (List.mem_of_getElem? (i := 3) rfl)
  obtain ⟨R_Let_words, fd_Let_words, F_Let_words⟩ := prop_of c (d := hp_Let_words) (List.mem_of_getElem? (i := 4) rfl)
  obtain ⟨ds_first_stands, dr_first_stands, b_first_stands⟩ := FunD.binds1 (ps := ["part", "let"]) (dvs := [.non]) F_first_stands 2 1 (by intro z; cases z) rfl fun _ _ _ _ _ _ _ us its h1 h2 => match us, its, h1, h2 with | [_, _], [_], _, _ => ⟨_, rfl, rfl⟩
  obtain ⟨ds_explored, dr_explored, b_explored⟩ := FunD.binds1 (ps := ["first", "moves", "is_end", "limit"]) (dvs := [.non]) F_explored 3 0 (by intro z; cases z) rfl fun _ _ _ _ _ _ _ us its h1 h2 => match us, its, h1, h2 with | [_, _, _], [_], _, _ => ⟨_, rfl, rfl⟩
  obtain ⟨ds_least_length, dr_least_length, b_least_length⟩ := FunD.binds1 (ps := ["part", "let"]) (dvs := [.non]) F_least_length 2 1 (by intro z; cases z) rfl fun _ _ _ _ _ _ _ us its h1 h2 => match us, its, h1, h2 with | [_, _], [_], _, _ => ⟨_, rfl, rfl⟩
  obtain ⟨ds_paper, dr_paper, b_paper⟩ := FunD.binds1 (ps := ["part", "let"]) (dvs := [.non]) F_paper 2 1 (by intro z; cases z) rfl fun _ _ _ _ _ _ _ us its h1 h2 => match us, its, h1, h2 with | [_, _], [_], _, _ => ⟨_, rfl, rfl⟩
  obtain ⟨ds_is_paper, dr_is_paper, b_is_paper⟩ := FunD.binds1 (ps := ["part", "length", "thing", "let"]) (dvs := [.non]) F_is_paper 4 1 (by intro z; cases z) rfl fun _ _ _ _ _ _ _ us its h1 h2 => match us, its, h1, h2 with | [_, _, _, _], [_], _, _ => ⟨_, rfl, rfl⟩
  obtain ⟨its_P, b_P⟩ := FunD.kbindsD (ps := ["self", "squeeze", "push", "widths"]) (dvs := [.non, .non, .non]) F_Part_init 1 ["squeeze", "push"] (fun us ws zs => us ++ zs ++ ws.drop 2) (by intro z; cases z) (fun {vs ds zs us its ws} r1 r2 r3 => (r1.append r3).append (vals_drop 2 r2))
    fun _ _ _ _ _ _ _ us its ws h1 h2 h3 => match us, its, ws, h1, h2, h3 with | [_], [_, _, _], [_, _], _, _, _ => ⟨_, rfl, rfl⟩
  obtain ⟨t_MOST_ROUND, e_MOST_ROUND⟩ := He.int_ok X G (c.d.facts (mem_fa 2 21 (f := .int "MOST_ROUND" 360) rfl rfl))
  obtain ⟨t_MOST_ROWS, e_MOST_ROWS⟩ := He.int_ok X G (c.d.facts (mem_fa 2 22 (f := .int "MOST_ROWS" 12) rfl rfl))
  obtain ⟨t_MOST_STATES, e_MOST_STATES⟩ := He.int_ok X G (c.d.facts (mem_fa 2 23 (f := .int "MOST_STATES" 5) rfl rfl))
  obtain ⟨t_MOST_RULES, e_MOST_RULES⟩ := He.int_ok X G (c.d.facts (mem_fa 2 24 (f := .int "MOST_RULES" 40) rfl rfl))
  obtain ⟨t_START, e_START⟩ := He.str_ok X G (c.d.facts (mem_fa 2 25 (f := .str "START" "start") rfl rfl))
  obtain ⟨t_LETTERS, e_LETTERS⟩ := He.str_ok X G (c.d.facts (mem_fa 2 26 (f := .str "LETTERS" "abcdefghijklmnopqrstuvwxyz") rfl rfl))
  exact ⟨{
    is_integer := ⟨He.ga K "is_integer", fd_is_integer, F_is_integer, He.glo_ok X G (c.d.facts (mem_fa 0 0 (f := .glo "is_integer") rfl rfl)), FunD.bindsN (ps := ["thing"]) F_is_integer fun _ _ _ _ _ _ us hl => match us, hl with | [_], _ => rfl⟩,
    is_row := ⟨He.ga K "is_row", fd_is_row, F_is_row, He.glo_ok X G (c.d.facts (mem_fa 0 1 (f := .glo "is_row") rfl rfl)), FunD.bindsN (ps := ["thing"]) F_is_row fun _ _ _ _ _ _ us hl => match us, hl with | [_], _ => rfl⟩,
    is_place := ⟨He.ga K "is_place", fd_is_place, F_is_place, He.glo_ok X G (c.d.facts (mem_fa 0 2 (f := .glo "is_place") rfl rfl)), FunD.bindsN (ps := ["thing", "around"]) F_is_place fun _ _ _ _ _ _ us hl => match us, hl with | [_, _], _ => rfl⟩,
    check_round := ⟨He.ga K "check_round", fd_check_round, F_check_round, He.glo_ok X G (c.d.facts (mem_fa 0 3 (f := .glo "check_round") rfl rfl)), FunD.bindsN (ps := ["around"]) F_check_round fun _ _ _ _ _ _ us hl => match us, hl with | [_], _ => rfl⟩,
    is_pair := ⟨He.ga K "is_pair", fd_is_pair, F_is_pair, He.glo_ok X G (c.d.facts (mem_fa 0 4 (f := .glo "is_pair") rfl rfl)), FunD.bindsN (ps := ["thing", "around"]) F_is_pair fun _ _ _ _ _ _ us hl => match us, hl with | [_, _], _ => rfl⟩,
    checked_rows := ⟨He.ga K "checked_rows", fd_checked_rows, F_checked_rows, He.glo_ok X G (c.d.facts (mem_fa 0 5 (f := .glo "checked_rows") rfl rfl)), FunD.bindsN (ps := ["around", "rows"]) F_checked_rows fun _ _ _ _ _ _ us hl => match us, hl with | [_, _], _ => rfl⟩,
    rows_turned := ⟨He.ga K "rows_turned", fd_rows_turned, F_rows_turned, He.glo_ok X G (c.d.facts (mem_fa 0 6 (f := .glo "rows_turned") rfl rfl)), FunD.bindsN (ps := ["around", "rows", "by"]) F_rows_turned fun _ _ _ _ _ _ us hl => match us, hl with | [_, _, _], _ => rfl⟩,
    least_period := ⟨He.ga K "least_period", fd_least_period, F_least_period, He.glo_ok X G (c.d.facts (mem_fa 0 7 (f := .glo "least_period") rfl rfl)), FunD.bindsN (ps := ["around", "rows"]) F_least_period fun _ _ _ _ _ _ us hl => match us, hl with | [_, _], _ => rfl⟩,
    is_word := ⟨He.ga K "is_word", fd_is_word, F_is_word, He.glo_ok X G (c.d.facts (mem_fa 0 8 (f := .glo "is_word") rfl rfl)), FunD.bindsN (ps := ["thing"]) F_is_word fun _ _ _ _ _ _ us hl => match us, hl with | [_], _ => rfl⟩,
    check_even := ⟨He.ga K "check_even", fd_check_even, F_check_even, He.glo_ok X G (c.d.facts (mem_fa 0 9 (f := .glo "check_even") rfl rfl)), FunD.bindsN (ps := ["turning"]) F_check_even fun _ _ _ _ _ _ us hl => match us, hl with | [_], _ => rfl⟩,
    is_name := ⟨He.ga K "is_name", fd_is_name, F_is_name, He.glo_ok X G (c.d.facts (mem_fa 0 10 (f := .glo "is_name") rfl rfl)), FunD.bindsN (ps := ["thing"]) F_is_name fun _ _ _ _ _ _ us hl => match us, hl with | [_], _ => rfl⟩,
    is_rule := ⟨He.ga K "is_rule", fd_is_rule, F_is_rule, He.glo_ok X G (c.d.facts (mem_fa 0 11 (f := .glo "is_rule") rfl rfl)), FunD.bindsN (ps := ["thing", "states"]) F_is_rule fun _ _ _ _ _ _ us hl => match us, hl with | [_, _], _ => rfl⟩,
    checked_rules := ⟨He.ga K "checked_rules", fd_checked_rules, F_checked_rules, He.glo_ok X G (c.d.facts (mem_fa 0 12 (f := .glo "checked_rules") rfl rfl)), FunD.bindsN (ps := ["around", "rows", "state"]) F_checked_rules fun _ _ _ _ _ _ us hl => match us, hl with | [_, _, _], _ => rfl⟩,
    check_let := ⟨He.ga K "check_let", fd_check_let, F_check_let, He.glo_ok X G (c.d.facts (mem_fa 0 13 (f := .glo "check_let") rfl rfl)), FunD.bindsN (ps := ["part", "let"]) F_check_let fun _ _ _ _ _ _ us hl => match us, hl with | [_, _], _ => rfl⟩,
    steps_by_state := ⟨He.ga K "steps_by_state", fd_steps_by_state, F_steps_by_state, He.glo_ok X G (c.d.facts (mem_fa 0 14 (f := .glo "steps_by_state") rfl rfl)), FunD.bindsN (ps := ["board", "let"]) F_steps_by_state fun _ _ _ _ _ _ us hl => match us, hl with | [_, _], _ => rfl⟩,
    first_steps := ⟨He.ga K "first_steps", fd_first_steps, F_first_steps, He.glo_ok X G (c.d.facts (mem_fa 0 15 (f := .glo "first_steps") rfl rfl)), FunD.bindsN (ps := ["board", "let"]) F_first_steps fun _ _ _ _ _ _ us hl => match us, hl with | [_, _], _ => rfl⟩,
    stands_of := ⟨He.ga K "stands_of", fd_stands_of, F_stands_of, He.glo_ok X G (c.d.facts (mem_fa 0 16 (f := .glo "stands_of") rfl rfl)), FunD.bindsN (ps := ["board", "word", "state"]) F_stands_of fun _ _ _ _ _ _ us hl => match us, hl with | [_, _, _], _ => rfl⟩,
    is_closed := ⟨He.ga K "is_closed", fd_is_closed, F_is_closed, He.glo_ok X G (c.d.facts (mem_fa 0 17 (f := .glo "is_closed") rfl rfl)), FunD.bindsN (ps := ["stand"]) F_is_closed fun _ _ _ _ _ _ us hl => match us, hl with | [_], _ => rfl⟩,
    is_stand := ⟨He.ga K "is_stand", fd_is_stand, F_is_stand, He.glo_ok X G (c.d.facts (mem_fa 0 18 (f := .glo "is_stand") rfl rfl)), FunD.bindsN (ps := ["board", "let", "value"]) F_is_stand fun _ _ _ _ _ _ us hl => match us, hl with | [_, _, _], _ => rfl⟩,
    stand_behind := ⟨He.ga K "stand_behind", fd_stand_behind, F_stand_behind, He.glo_ok X G (c.d.facts (mem_fa 0 19 (f := .glo "stand_behind") rfl rfl)), FunD.bindsN (ps := ["board", "stand", "step"]) F_stand_behind fun _ _ _ _ _ _ us hl => match us, hl with | [_, _, _], _ => rfl⟩,
    stand_moves := ⟨He.ga K "stand_moves", fd_stand_moves, F_stand_moves, He.glo_ok X G (c.d.facts (mem_fa 0 20 (f := .glo "stand_moves") rfl rfl)), FunD.bindsN (ps := ["board", "steps", "stand"]) F_stand_moves fun _ _ _ _ _ _ us hl => match us, hl with | [_, _, _], _ => rfl⟩,
    first_stands := ⟨He.ga K "first_stands", fd_first_stands, F_first_stands, He.glo_ok X G (c.d.facts (mem_fa 0 21 (f := .glo "first_stands") rfl rfl)), ds_first_stands, dr_first_stands, b_first_stands⟩,
    explored := ⟨He.ga K "explored", fd_explored, F_explored, He.glo_ok X G (c.d.facts (mem_fa 0 22 (f := .glo "explored") rfl rfl)), ds_explored, dr_explored, b_explored⟩,
    distances := ⟨He.ga K "distances", fd_distances, F_distances, He.glo_ok X G (c.d.facts (mem_fa 0 23 (f := .glo "distances") rfl rfl)), FunD.bindsN (ps := ["table", "is_end"]) F_distances fun _ _ _ _ _ _ us hl => match us, hl with | [_, _], _ => rfl⟩,
    least_count := ⟨He.ga K "least_count", fd_least_count, F_least_count, He.glo_ok X G (c.d.facts (mem_fa 0 24 (f := .glo "least_count") rfl rfl)), FunD.bindsN (ps := ["start", "far"]) F_least_count fun _ _ _ _ _ _ us hl => match us, hl with | [_, _], _ => rfl⟩,
    numbers := ⟨He.ga K "numbers", fd_numbers, F_numbers, He.glo_ok X G (c.d.facts (mem_fa 0 25 (f := .glo "numbers") rfl rfl)), FunD.bindsN (ps := ["table", "far", "is_end", "count"]) F_numbers fun _ _ _ _ _ _ us hl => match us, hl with | [_, _, _, _], _ => rfl⟩,
    is_numbering := ⟨He.ga K "is_numbering", fd_is_numbering, F_is_numbering, He.glo_ok X G (c.d.facts (mem_fa 0 26 (f := .glo "is_numbering") rfl rfl)), FunD.bindsN (ps := ["length", "thing", "first", "is_open", "moves", "is_end"]) F_is_numbering fun _ _ _ _ _ _ us hl => match us, hl with | [_, _, _, _, _, _], _ => rfl⟩,
    is_empty_dict := ⟨He.ga K "is_empty_dict", fd_is_empty_dict, F_is_empty_dict, He.glo_ok X G (c.d.facts (mem_fa 0 27 (f := .glo "is_empty_dict") rfl rfl)), FunD.bindsN (ps := ["thing"]) F_is_empty_dict fun _ _ _ _ _ _ us hl => match us, hl with | [_], _ => rfl⟩,
    least_length := ⟨He.ga K "least_length", fd_least_length, F_least_length, He.glo_ok X G (c.d.facts (mem_fa 0 28 (f := .glo "least_length") rfl rfl)), ds_least_length, dr_least_length, b_least_length⟩,
    paper := ⟨He.ga K "paper", fd_paper, F_paper, He.glo_ok X G (c.d.facts (mem_fa 0 29 (f := .glo "paper") rfl rfl)), ds_paper, dr_paper, b_paper⟩,
    is_paper := ⟨He.ga K "is_paper", fd_is_paper, F_is_paper, He.glo_ok X G (c.d.facts (mem_fa 1 0 (f := .glo "is_paper") rfl rfl)), ds_is_paper, dr_is_paper, b_is_paper⟩,
    _law_pool := ⟨He.ga K "_law_pool", fd__law_pool, F__law_pool, He.glo_ok X G (c.d.facts (mem_fa 1 1 (f := .glo "_law_pool") rfl rfl)), FunD.bindsN (ps := ["_law_script", "_law_k"]) F__law_pool fun _ _ _ _ _ _ us hl => match us, hl with | [_, _], _ => rfl⟩,
    _law_draw := ⟨He.ga K "_law_draw", fd__law_draw, F__law_draw, He.glo_ok X G (c.d.facts (mem_fa 1 2 (f := .glo "_law_draw") rfl rfl)), FunD.bindsN (ps := ["_law_pool_here", "_law_many"]) F__law_draw fun _ _ _ _ _ _ us hl => match us, hl with | [_, _], _ => rfl⟩,
    _law_laps := ⟨He.ga K "_law_laps", fd__law_laps, F__law_laps, He.glo_ok X G (c.d.facts (mem_fa 1 3 (f := .glo "_law_laps") rfl rfl)), FunD.bindsN (ps := ["_law_pool_here", "_law_around", "_law_even", "_law_most"]) F__law_laps fun _ _ _ _ _ _ us hl => match us, hl with | [_, _, _, _], _ => rfl⟩,
    _law_rows := ⟨He.ga K "_law_rows", fd__law_rows, F__law_rows, He.glo_ok X G (c.d.facts (mem_fa 1 4 (f := .glo "_law_rows") rfl rfl)), FunD.bindsN (ps := ["_law_pool_here", "_law_around", "_law_laps_here", "_law_most"]) F__law_rows fun _ _ _ _ _ _ us hl => match us, hl with | [_, _, _, _], _ => rfl⟩,
    _law_world := ⟨He.ga K "_law_world", fd__law_world, F__law_world, He.glo_ok X G (c.d.facts (mem_fa 1 5 (f := .glo "_law_world") rfl rfl)), FunD.bindsN (ps := ["_law_pool_here", "_law_around", "_law_most"]) F__law_world fun _ _ _ _ _ _ us hl => match us, hl with | [_, _, _], _ => rfl⟩,
    _law_part := ⟨He.ga K "_law_part", fd__law_part, F__law_part, He.glo_ok X G (c.d.facts (mem_fa 1 6 (f := .glo "_law_part") rfl rfl)), FunD.bindsN (ps := ["_law_pairs", "_law_around"]) F__law_part fun _ _ _ _ _ _ us hl => match us, hl with | [_, _], _ => rfl⟩,
    _law_table := ⟨He.ga K "_law_table", fd__law_table, F__law_table, He.glo_ok X G (c.d.facts (mem_fa 1 7 (f := .glo "_law_table") rfl rfl)), FunD.bindsN (ps := ["_law_pairs", "_law_around"]) F__law_table fun _ _ _ _ _ _ us hl => match us, hl with | [_, _], _ => rfl⟩,
    _law_lift := ⟨He.ga K "_law_lift", fd__law_lift, F__law_lift, He.glo_ok X G (c.d.facts (mem_fa 1 8 (f := .glo "_law_lift") rfl rfl)), FunD.bindsN (ps := ["_law_table_here", "_law_x"]) F__law_lift fun _ _ _ _ _ _ us hl => match us, hl with | [_, _], _ => rfl⟩,
    _law_keeps := ⟨He.ga K "_law_keeps", fd__law_keeps, F__law_keeps, He.glo_ok X G (c.d.facts (mem_fa 1 9 (f := .glo "_law_keeps") rfl rfl)), FunD.bindsN (ps := ["_law_tables_here", "_law_span_here"]) F__law_keeps fun _ _ _ _ _ _ us hl => match us, hl with | [_, _], _ => rfl⟩,
    _law_tables := ⟨He.ga K "_law_tables", fd__law_tables, F__law_tables, He.glo_ok X G (c.d.facts (mem_fa 1 10 (f := .glo "_law_tables") rfl rfl)), FunD.bindsN (ps := ["_law_pairs", "_law_around"]) F__law_tables fun _ _ _ _ _ _ us hl => match us, hl with | [_, _], _ => rfl⟩,
    _law_span := ⟨He.ga K "_law_span", fd__law_span, F__law_span, He.glo_ok X G (c.d.facts (mem_fa 1 11 (f := .glo "_law_span") rfl rfl)), FunD.bindsN (ps := ["_law_tables_here", "_law_around"]) F__law_span fun _ _ _ _ _ _ us hl => match us, hl with | [_, _], _ => rfl⟩,
    _law_model := ⟨He.ga K "_law_model", fd__law_model, F__law_model, He.glo_ok X G (c.d.facts (mem_fa 1 12 (f := .glo "_law_model") rfl rfl)), FunD.bindsN (ps := ["_law_pairs", "_law_around"]) F__law_model fun _ _ _ _ _ _ us hl => match us, hl with | [_, _], _ => rfl⟩,
    _law_rules := ⟨He.ga K "_law_rules", fd__law_rules, F__law_rules, He.glo_ok X G (c.d.facts (mem_fa 1 13 (f := .glo "_law_rules") rfl rfl)), FunD.bindsN (ps := ["_law_pool_here", "_law_around", "_law_words", "_law_states", "_law_most"]) F__law_rules fun _ _ _ _ _ _ us hl => match us, hl with | [_, _, _, _, _], _ => rfl⟩,
    _law_rules_of := ⟨He.ga K "_law_rules_of", fd__law_rules_of, F__law_rules_of, He.glo_ok X G (c.d.facts (mem_fa 1 14 (f := .glo "_law_rules_of") rfl rfl)), FunD.bindsN (ps := ["_law_rules_here", "_law_around", "_law_state"]) F__law_rules_of fun _ _ _ _ _ _ us hl => match us, hl with | [_, _, _], _ => rfl⟩,
    _law_handed := ⟨He.ga K "_law_handed", fd__law_handed, F__law_handed, He.glo_ok X G (c.d.facts (mem_fa 1 15 (f := .glo "_law_handed") rfl rfl)), FunD.bindsN (ps := ["_law_rules_here"]) F__law_handed fun _ _ _ _ _ _ us hl => match us, hl with | [_], _ => rfl⟩,
    _law_steps := ⟨He.ga K "_law_steps", fd__law_steps, F__law_steps, He.glo_ok X G (c.d.facts (mem_fa 1 16 (f := .glo "_law_steps") rfl rfl)), FunD.bindsN (ps := ["_law_model_here", "_law_rules_here", "_law_state"]) F__law_steps fun _ _ _ _ _ _ us hl => match us, hl with | [_, _, _], _ => rfl⟩,
    _law_firsts := ⟨He.ga K "_law_firsts", fd__law_firsts, F__law_firsts, He.glo_ok X G (c.d.facts (mem_fa 1 17 (f := .glo "_law_firsts") rfl rfl)), FunD.bindsN (ps := ["_law_model_here", "_law_rules_here"]) F__law_firsts fun _ _ _ _ _ _ us hl => match us, hl with | [_, _], _ => rfl⟩,
    _law_first_stands := ⟨He.ga K "_law_first_stands", fd__law_first_stands, F__law_first_stands, He.glo_ok X G (c.d.facts (mem_fa 1 18 (f := .glo "_law_first_stands") rfl rfl)), FunD.bindsN (ps := ["_law_model_here", "_law_rules_here"]) F__law_first_stands fun _ _ _ _ _ _ us hl => match us, hl with | [_, _], _ => rfl⟩,
    _law_carried := ⟨He.ga K "_law_carried", fd__law_carried, F__law_carried, He.glo_ok X G (c.d.facts (mem_fa 1 19 (f := .glo "_law_carried") rfl rfl)), FunD.bindsN (ps := ["_law_model_here", "_law_word", "_law_number", "_law_rule"]) F__law_carried fun _ _ _ _ _ _ us hl => match us, hl with | [_, _, _, _], _ => rfl⟩,
    _law_behind := ⟨He.ga K "_law_behind", fd__law_behind, F__law_behind, He.glo_ok X G (c.d.facts (mem_fa 1 20 (f := .glo "_law_behind") rfl rfl)), FunD.bindsN (ps := ["_law_model_here", "_law_stand", "_law_rule"]) F__law_behind fun _ _ _ _ _ _ us hl => match us, hl with | [_, _, _], _ => rfl⟩,
    _law_is_index := ⟨He.ga K "_law_is_index", fd__law_is_index, F__law_is_index, He.glo_ok X G (c.d.facts (mem_fa 1 21 (f := .glo "_law_is_index") rfl rfl)), FunD.bindsN (ps := ["_law_thing", "_law_low", "_law_behind_here"]) F__law_is_index fun _ _ _ _ _ _ us hl => match us, hl with | [_, _, _], _ => rfl⟩,
    _law_is_open := ⟨He.ga K "_law_is_open", fd__law_is_open, F__law_is_open, He.glo_ok X G (c.d.facts (mem_fa 1 22 (f := .glo "_law_is_open") rfl rfl)), FunD.bindsN (ps := ["_law_model_here", "_law_rules_here", "_law_thing"]) F__law_is_open fun _ _ _ _ _ _ us hl => match us, hl with | [_, _, _], _ => rfl⟩,
    _law_is_paper := ⟨He.ga K "_law_is_paper", fd__law_is_paper, F__law_is_paper, He.glo_ok X G (c.d.facts (mem_fa 1 23 (f := .glo "_law_is_paper") rfl rfl)), FunD.bindsN (ps := ["_law_model_here", "_law_rules_here", "_law_length", "_law_thing"]) F__law_is_paper fun _ _ _ _ _ _ us hl => match us, hl with | [_, _, _, _], _ => rfl⟩,
    _law_let := ⟨He.ga K "_law_let", fd__law_let, F__law_let, He.glo_ok X G (c.d.facts (mem_fa 1 24 (f := .glo "_law_let") rfl rfl)), FunD.bindsN (ps := ["_law_rules_here", "_law_around"]) F__law_let fun _ _ _ _ _ _ us hl => match us, hl with | [_, _], _ => rfl⟩,
    _law_told := ⟨He.ga K "_law_told", fd__law_told, F__law_told, He.glo_ok X G (c.d.facts (mem_fa 1 25 (f := .glo "_law_told") rfl rfl)), FunD.bindsN (ps := ["_law_part_here", "_law_let_here"]) F__law_told fun _ _ _ _ _ _ us hl => match us, hl with | [_, _], _ => rfl⟩,
    Turning := ⟨He.ga K "Turning", He.cls_ok (c.d.facts (mem_fa 2 27 (f := .cls "Turning") rfl rfl)), He.glo_ok X G (c.d.facts (mem_fa 1 27 (f := .glo "Turning") rfl rfl))⟩,
    n_Turning_around := He.noat_ok (c.d.facts (mem_fa 2 29 (f := .noat "Turning" "around") rfl rfl)),
    n_Turning_rows := He.noat_ok (c.d.facts (mem_fa 3 0 (f := .noat "Turning" "rows") rfl rfl)),
    n_Turning__period := He.noat_ok (c.d.facts (mem_fa 3 1 (f := .noat "Turning" "_period") rfl rfl)),
    Part := ⟨He.ga K "Part", He.cls_ok (c.d.facts (mem_fa 3 2 (f := .cls "Part") rfl rfl)), He.glo_ok X G (c.d.facts (mem_fa 1 28 (f := .glo "Part") rfl rfl))⟩,
    n_Part_around := He.noat_ok (c.d.facts (mem_fa 3 4 (f := .noat "Part" "around") rfl rfl)),
    n_Part__shown := He.noat_ok (c.d.facts (mem_fa 3 5 (f := .noat "Part" "_shown") rfl rfl)),
    n_Part__turnings := He.noat_ok (c.d.facts (mem_fa 3 6 (f := .noat "Part" "_turnings") rfl rfl)),
    Let := ⟨He.ga K "Let", He.cls_ok (c.d.facts (mem_fa 3 7 (f := .cls "Let") rfl rfl)), He.glo_ok X G (c.d.facts (mem_fa 1 29 (f := .glo "Let") rfl rfl))⟩,
    n_Let_around := He.noat_ok (c.d.facts (mem_fa 3 9 (f := .noat "Let" "around") rfl rfl)),
    n_Let__table := He.noat_ok (c.d.facts (mem_fa 3 10 (f := .noat "Let" "_table") rfl rfl)),
    Board := ⟨He.ga K "Board", He.cls_ok (c.d.facts (mem_fa 3 11 (f := .cls "Board") rfl rfl)), He.glo_ok X G (c.d.facts (mem_fa 2 0 (f := .glo "Board") rfl rfl))⟩,
    n_Board_source := He.noat_ok (c.d.facts (mem_fa 3 13 (f := .noat "Board" "source") rfl rfl)),
    n_Board_span := He.noat_ok (c.d.facts (mem_fa 3 14 (f := .noat "Board" "span") rfl rfl)),
    n_Board_spots := He.noat_ok (c.d.facts (mem_fa 3 15 (f := .noat "Board" "spots") rfl rfl)),
    n_Board_slots := He.noat_ok (c.d.facts (mem_fa 3 16 (f := .noat "Board" "slots") rfl rfl)),
    n_Board_found := He.noat_ok (c.d.facts (mem_fa 3 17 (f := .noat "Board" "found") rfl rfl)),
    CutSearch := ⟨He.ga K "CutSearch", He.cls_ok (c.d.facts (mem_fa 3 18 (f := .cls "CutSearch") rfl rfl)), He.glo_ok X G (c.d.facts (mem_fa 2 1 (f := .glo "CutSearch") rfl rfl))⟩,
    n_CutSearch_start := He.noat_ok (c.d.facts (mem_fa 3 20 (f := .noat "CutSearch" "start") rfl rfl)),
    n_CutSearch_table := He.noat_ok (c.d.facts (mem_fa 3 21 (f := .noat "CutSearch" "table") rfl rfl)),
    n_CutSearch_far := He.noat_ok (c.d.facts (mem_fa 3 22 (f := .noat "CutSearch" "far") rfl rfl)),
    Turning_init := ⟨He.ma K (He.ga K "Turning") "__init__", fd_Turning_init, F_Turning_init, He.mkr_ok (c.d.facts (mem_fa 2 28 (f := .mkr "Turning") rfl rfl)), FunD.bindsN (ps := ["self", "around", "rows"]) F_Turning_init fun _ _ _ _ _ _ us hl => match us, hl with | [_, _, _], _ => rfl⟩,
    Part_init := ⟨He.ma K (He.ga K "Part") "__init__", fd_Part_init, F_Part_init, He.mkr_ok (c.d.facts (mem_fa 3 3 (f := .mkr "Part") rfl rfl)), its_P, b_P⟩,
    Let_init := ⟨He.ma K (He.ga K "Let") "__init__", fd_Let_init, F_Let_init, He.mkr_ok (c.d.facts (mem_fa 3 8 (f := .mkr "Let") rfl rfl)), FunD.bindsN (ps := ["self", "around", "rules"]) F_Let_init fun _ _ _ _ _ _ us hl => match us, hl with | [_, _, _], _ => rfl⟩,
    Board_init := ⟨He.ma K (He.ga K "Board") "__init__", fd_Board_init, F_Board_init, He.mkr_ok (c.d.facts (mem_fa 3 12 (f := .mkr "Board") rfl rfl)), FunD.bindsN (ps := ["self", "part"]) F_Board_init fun _ _ _ _ _ _ us hl => match us, hl with | [_, _], _ => rfl⟩,
    CutSearch_init := ⟨He.ma K (He.ga K "CutSearch") "__init__", fd_CutSearch_init, F_CutSearch_init, He.mkr_ok (c.d.facts (mem_fa 3 19 (f := .mkr "CutSearch") rfl rfl)), FunD.bindsN (ps := ["self", "part", "let"]) F_CutSearch_init fun _ _ _ _ _ _ us hl => match us, hl with | [_, _, _], _ => rfl⟩,
    Turning_rests := ⟨He.ma K (He.ga K "Turning") "rests", fd_Turning_rests, F_Turning_rests, He.meth_ok (c.d.facts (mem_fa 3 23 (f := .meth "Turning" "rests") rfl rfl)), FunD.bindsN (ps := ["self"]) F_Turning_rests fun _ _ _ _ _ _ us hl => match us, hl with | [_], _ => rfl⟩,
    Turning_lifted := ⟨He.ma K (He.ga K "Turning") "lifted", fd_Turning_lifted, F_Turning_lifted, He.meth_ok (c.d.facts (mem_fa 3 24 (f := .meth "Turning" "lifted") rfl rfl)), FunD.bindsN (ps := ["self", "x"]) F_Turning_lifted fun _ _ _ _ _ _ us hl => match us, hl with | [_, _], _ => rfl⟩,
    Turning_is_even := ⟨He.ma K (He.ga K "Turning") "is_even", fd_Turning_is_even, F_Turning_is_even, He.meth_ok (c.d.facts (mem_fa 3 25 (f := .meth "Turning" "is_even") rfl rfl)), FunD.bindsN (ps := ["self"]) F_Turning_is_even fun _ _ _ _ _ _ us hl => match us, hl with | [_], _ => rfl⟩,
    Part_getitem := ⟨He.ma K (He.ga K "Part") "__getitem__", fd_Part_getitem, F_Part_getitem, He.meth_ok (c.d.facts (mem_fa 3 26 (f := .meth "Part" "__getitem__") rfl rfl)), FunD.bindsN (ps := ["self", "at"]) F_Part_getitem fun _ _ _ _ _ _ us hl => match us, hl with | [_, _], _ => rfl⟩,
    Part_rests := ⟨He.ma K (He.ga K "Part") "rests", fd_Part_rests, F_Part_rests, He.meth_ok (c.d.facts (mem_fa 3 27 (f := .meth "Part" "rests") rfl rfl)), FunD.bindsN (ps := ["self", "word"]) F_Part_rests fun _ _ _ _ _ _ us hl => match us, hl with | [_, _], _ => rfl⟩,
    Board_carried := ⟨He.ma K (He.ga K "Board") "carried", fd_Board_carried, F_Board_carried, He.meth_ok (c.d.facts (mem_fa 3 28 (f := .meth "Board" "carried") rfl rfl)), FunD.bindsN (ps := ["self", "word", "number", "v", "shift"]) F_Board_carried fun _ _ _ _ _ _ us hl => match us, hl with | [_, _, _, _, _], _ => rfl⟩,
    Let_rules := ⟨He.ma K (He.ga K "Let") "rules", fd_Let_rules, F_Let_rules, He.meth_ok (c.d.facts (mem_fa 3 29 (f := .meth "Let" "rules") rfl rfl)), FunD.bindsN (ps := ["self", "state"]) F_Let_rules fun _ _ _ _ _ _ us hl => match us, hl with | [_, _], _ => rfl⟩,
    Turning_period := ⟨hp_Turning_period.g K, hp_Turning_period.p K, fd_Turning_period, F_Turning_period, R_Turning_period, FunD.bindsN (ps := ["self"]) F_Turning_period fun _ _ _ _ _ _ us hl => match us, hl with | [_], _ => rfl⟩,
    Part_words := ⟨hp_Part_words.g K, hp_Part_words.p K, fd_Part_words, F_Part_words, R_Part_words, FunD.bindsN (ps := ["self"]) F_Part_words fun _ _ _ _ _ _ us hl => match us, hl with | [_], _ => rfl⟩,
    Part_period := ⟨hp_Part_period.g K, hp_Part_period.p K, fd_Part_period, F_Part_period, R_Part_period, FunD.bindsN (ps := ["self"]) F_Part_period fun _ _ _ _ _ _ us hl => match us, hl with | [_], _ => rfl⟩,
    Let_states := ⟨hp_Let_states.g K, hp_Let_states.p K, fd_Let_states, F_Let_states, R_Let_states, FunD.bindsN (ps := ["self"]) F_Let_states fun _ _ _ _ _ _ us hl => match us, hl with | [_], _ => rfl⟩,
    Let_words := ⟨hp_Let_words.g K, hp_Let_words.p K, fd_Let_words, F_Let_words, R_Let_words, FunD.bindsN (ps := ["self"]) F_Let_words fun _ _ _ _ _ _ us hl => match us, hl with | [_], _ => rfl⟩,
    t_MOST_ROUND := t_MOST_ROUND,
    m_MOST_ROUND := e_MOST_ROUND,
    t_MOST_ROWS := t_MOST_ROWS,
    m_MOST_ROWS := e_MOST_ROWS,
    t_MOST_STATES := t_MOST_STATES,
    m_MOST_STATES := e_MOST_STATES,
    t_MOST_RULES := t_MOST_RULES,
    m_MOST_RULES := e_MOST_RULES,
    t_START := t_START,
    m_START := e_START,
    t_LETTERS := t_LETTERS,
    m_LETTERS := e_LETTERS,
    WORDS := He.ga K "WORDS",
    m_WORDS := He.glo_ok X G (c.d.facts (mem_fa 2 4 (f := .glo "WORDS") rfl rfl)),
    k_WORDS := fun H => He.tupB_ok x1 H,
    m_lcm := PySem.W.mg_of X G x2,
    n_int := He.free_ok X G (c.d.facts (mem_fa 2 5 (f := .free "int") rfl rfl)),
    n_bool := He.free_ok X G (c.d.facts (mem_fa 2 6 (f := .free "bool") rfl rfl)),
    n_str := He.free_ok X G (c.d.facts (mem_fa 2 7 (f := .free "str") rfl rfl)),
    n_tuple := He.free_ok X G (c.d.facts (mem_fa 2 8 (f := .free "tuple") rfl rfl)),
    n_list := He.free_ok X G (c.d.facts (mem_fa 2 9 (f := .free "list") rfl rfl)),
    n_dict := He.free_ok X G (c.d.facts (mem_fa 2 10 (f := .free "dict") rfl rfl)),
    n_set := He.free_ok X G (c.d.facts (mem_fa 2 11 (f := .free "set") rfl rfl)),
    n_len := He.free_ok X G (c.d.facts (mem_fa 2 12 (f := .free "len") rfl rfl)),
    n_isinstance := He.free_ok X G (c.d.facts (mem_fa 2 13 (f := .free "isinstance") rfl rfl)),
    n_divmod := He.free_ok X G (c.d.facts (mem_fa 2 14 (f := .free "divmod") rfl rfl)),
    n_sorted := He.free_ok X G (c.d.facts (mem_fa 2 15 (f := .free "sorted") rfl rfl)),
    n_min := He.free_ok X G (c.d.facts (mem_fa 2 16 (f := .free "min") rfl rfl)),
    n_all := He.free_ok X G (c.d.facts (mem_fa 2 17 (f := .free "all") rfl rfl)),
    n_any := He.free_ok X G (c.d.facts (mem_fa 2 18 (f := .free "any") rfl rfl)),
    n_range := He.free_ok X G (c.d.facts (mem_fa 2 19 (f := .free "range") rfl rfl)),
    n_enumerate := He.free_ok X G (c.d.facts (mem_fa 2 20 (f := .free "enumerate") rfl rfl)),
    Part_getitem_fn := x3 }, code_of F_CutSearch_init rfl, code_of F_is_paper rfl⟩
theorem m_law : (He.Fa.glo "law") ∈ hdFa := (mem_fa 1 26 (f := .glo "law") rfl rfl)
theorem m_exc : (He.Fa.exc "NoPlan") ∈ hdFa := (mem_fa 4 0 (f := .exc "NoPlan") rfl rfl)
theorem m_exm : (He.Fa.exm "NoPlan" "NoPlan" true) ∈ hdFa := (mem_fa 4 1 (f := .exm "NoPlan" "NoPlan" true) rfl rfl)
theorem m_gN : (He.Fa.glo "NoPlan") ∈ hdFa := (mem_fa 2 2 (f := .glo "NoPlan") rfl rfl)
theorem m_gJ : (He.Fa.glo "JawError") ∈ hdFa := (mem_fa 2 3 (f := .glo "JawError") rfl rfl)
end
end J
/-! The end. -/
namespace J
open PySem PySem.Spec PyProof.Rows L2 LamX NdefX
section
variable {K : PySem.W.Frag} {h : Heap} {mg : Str → Option Value} {w : World}
theorem fact_of (c : SaysJ w h K) {f : He.Fa} (m : f ∈ hdFa) : f.ok K = true := c.d.facts m
theorem wx_of (X : K.In h) (G : h.Ns mainGlobals mg) (c : SaysJ w h K) (m1 : (He.Fa.exc "NoPlan") ∈ hdFa) (m2 : (He.Fa.exm "NoPlan" "NoPlan" true) ∈ hdFa) (m3 : (He.Fa.glo "NoPlan") ∈ hdFa) (m4 : (He.Fa.glo "JawError") ∈ hdFa) : Nonempty (Wx K mg) := by
  obtain ⟨_, ⟨b1, b2, b3, b4, b5, b6, b7⟩, d1, _⟩ := ex_parts c
  obtain ⟨e1, e2, e3, e4⟩ := He.exc_ok (fact_of c m1)
  exact ⟨{ N := He.ga K "NoPlan", gN := He.glo_ok X G (fact_of c m3), kN := e2, xN := e1, bN := e3, tN := e4, eN := He.exm_ok (fact_of c m2), cN := ⟨b1, b2, e3, b3, b4, b5, b6, b7⟩, Jw := He.ga K "JawError", gJ := He.glo_ok X G (fact_of c m4), iJ := d1 }⟩
def tabsJ (K : PySem.W.Frag) : List NTab := [((He.cT K ("CutSearch", some "__init__")).2, nmCS), ((He.cT K ("is_paper", none)).2, nmIP)]
def spJ (K : PySem.W.Frag) : Sp := fun vs H Q _ => ∃ (a : Addr) (is : List Int), vs = [.ref a] ∧ SqL K H a (is.map .int) ∧ TabsN (tabsJ K) H ∧ ∀ H', Q (.bl true) H'
theorem tabs_empty {H : Hp} (e : ∀ p ∈ hdTf.map (He.cT K), H p.2 = some (.tbl #[])) : TabsN (tabsJ K) H := fun p hp => by
  rcases List.mem_cons.mp hp with q | q
  · subst q
    exact ⟨#[], e _ (List.mem_map.mpr ⟨_, List.mem_cons_self .., rfl⟩), trivial, fun p cv z => nomatch z⟩
  · rw [List.mem_singleton.mp q]
    exact ⟨#[], e _ (List.mem_map.mpr ⟨_, List.mem_cons_of_mem _ (List.mem_cons_self ..), rfl⟩), trivial, fun p cv z => nomatch z⟩
theorem law_at {fa : Addr} (X : K.In h) (G : h.Ns mainGlobals mg) (c : SaysJ w h K) (hfa : mg ("law" : Str) = some (.ref fa)) (m0 : (He.Fa.glo "law") ∈ hdFa) (m1 : (He.Fa.exc "NoPlan") ∈ hdFa) (m2 : (He.Fa.exm "NoPlan" "NoPlan" true) ∈ hdFa) (m3 : (He.Fa.glo "NoPlan") ∈ hdFa) (m4 : (He.Fa.glo "JawError") ∈ hdFa) (l : PySem.W.OpenLaw) : LawAtS l w K CX0 13 63 "_law_script" mg fa h := by
  obtain ⟨T, k1, k2⟩ := wd_of X G c
  obtain ⟨U⟩ := wx_of X G c m1 m2 m3 m4
  obtain ⟨_, _, _, ne⟩ := ex_parts c
  obtain ⟨fd, F⟩ := c.d.defs (d := hd_law) (List.mem_of_getElem? (i := 56) rfl)
  have e := hfa.symm.trans (He.glo_ok X G (fact_of c m0))
  cases e
  refine ⟨fd, hdTf.map (He.cT K), spJ K, fun p hp => ?_, fun p hp => ?_, fun p hp => ?_, fun s u => ?_, fun H a ns _ _ hT hS => ⟨a, ns, rfl, hS, tabs_empty hT, fun _ => rfl⟩, fun base KB GB hB => ?_⟩
  · obtain ⟨q, hq, rfl⟩ := List.mem_map.mp hp
    exact c.x.empty q hq
  · obtain ⟨q, hq, rfl⟩ := List.mem_map.mp hp
    exact c.x.out q hq
  · obtain ⟨q, hq, rfl⟩ := List.mem_map.mp hp
    exact PySem.W.codeHd_of_K X (c.x.hd q hq)
  · exact FunD.bindsA (ps := ["_law_script"]) F (fun _ _ _ _ _ _ us hl => match us, hl with | [_], _ => rfl) s [u] rfl
  · exact ok_law (P := l.prog) (w := w) (base := base) T ⟨(He.cT K ("CutSearch", some "__init__")).1, (He.cT K ("CutSearch", some "__init__")).2, k1, hB _ (List.mem_map.mpr ⟨_, List.mem_cons_self .., rfl⟩), (He.cT K ("is_paper", none)).1, (He.cT K ("is_paper", none)).2, k2, hB _ (List.mem_map.mpr ⟨_, List.mem_cons_of_mem _ (List.mem_cons_self ..), rfl⟩), ne⟩ U F
end
end J
open PySem PySem.W PySem.Calls PyProof.Rows
theorem PySem.Challenge.cw_jawturns_k55_whole_paper_holds_holds : PySem.Challenge.rw_jawturns_k55_whole_paper_holds.Holds := by
  w_on; o_law
  refine HandSHeadRun.head_imp (r := OpenLaw.row PySem.Challenge.rw_jawturns_k55_whole_paper_holds) (q := J.qvJ) (H := J.hookJ) (ob := J.obJ) (M := 200000) (loose := J.hdLo) (d := HandSHeadRun.topDef (OpenLaw.row PySem.Challenge.rw_jawturns_k55_whole_paper_holds).prog 91) (kwd := []) J.obJ_eq J.runJ
    (by kernel_rfl) (by kernel_rfl) (by kernel_rfl) (by rfl) (by first | assumption | decide +kernel) (by decide +kernel) ⟨rfl, rfl, rfl, rfl, rfl, by decide +kernel⟩ ?hw ?hc
  case hw => w_witness2
  case hc =>
    refine LamX.walk_ofTsE (l := PySem.Challenge.rw_jawturns_k55_whole_paper_holds) (n := 63) (k := 13) (x := "_law_script") (CX := fun _ => L2.CX0) rfl (by decide) (by kernel_rfl) ⟨rfl, by decide, by decide⟩ ?F (fun _ _ _ _ _ z => z)
    intro w mg fa h Y G hmg0
    obtain ⟨K, KX, c⟩ := Y
    have hmg : mg ("law" : PySem.Str) = some (.ref fa) := by
      have e : (HandSHeadRun.topDef (OpenLaw.row PySem.Challenge.rw_jawturns_k55_whole_paper_holds).prog 91).name = ("law" : PySem.Str) := by kernel_rfl
      rw [← e]
      exact hmg0
    exact ⟨K, KX, J.law_at KX G c hmg J.m_law J.m_exc J.m_exm J.m_gN J.m_gJ _⟩
