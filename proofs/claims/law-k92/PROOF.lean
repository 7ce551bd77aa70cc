import PyProof.Rows.All
import Wide.All
import OpenK.AllK
import Wide.FinOn
import KE.KStateDown
import HandS.ForMost
import HandS.More
import HandS.Defaults
import HandS.Head0
import HandS.Head1
import HandS.Head2
import HandS.HeadEnd
import HandS.HeadHook1
import HandS.HeadHook2
import HandS.HeadHook3
import HandS.HeadHook4
import HandS.Evl
import HandS.Walk
import HandS.IsInst
import HandS.SetKeys
import PyProof.CompTup
import HandS.Deep
import HandS.Strs
import HandS.Style
import KE.GoesMore
import HandS.Zip
import HandS.SetFor
import KE.SortKeyHeap
import HandS.SortKw
import HandS.ExcValue
import HandS.CallLocal
import PyProof.SumWalkG
import PySem.Challenge.RW_doublerings_k92_whole_each_thing_by_itse
set_option Elab.async false
set_option linter.all false
section -- K92Head
set_option maxRecDepth 100000
set_option maxHeartbeats 0
/-! What the top has left. Printed by gen_head.py -/
namespace K92
open PySem PySem.Spec PyProof.Rows L2
/-- the statements by their places -/
def top (i : Nat) : Stmt := PySem.Challenge.pw_doublerings_k92_whole_each_thing_by_itse.main.body.getD i (.Pass ⟨0, 0, 0, 0⟩)
abbrev s_is_word : Stmt := top 7
abbrev s_is_from_to : Stmt := top 8
abbrev s_is_day : Stmt := top 9
abbrev s_is_part : Stmt := top 19
abbrev s_is_page : Stmt := top 20
abbrev s_houses_in : Stmt := top 21
abbrev s_things_in : Stmt := top 22
abbrev s_kinds_in : Stmt := top 23
abbrev s_page_key : Stmt := top 24
abbrev s_in_order : Stmt := top 25
abbrev s_ask_book : Stmt := top 32
abbrev s_houses_of : Stmt := top 33
abbrev s_all_named : Stmt := top 34
abbrev s_pages_in_order : Stmt := top 35
abbrev s_book_of : Stmt := top 36
abbrev s_things_of : Stmt := top 37
abbrev s_arrived : Stmt := top 41
abbrev s_owner_of : Stmt := top 42
abbrev s_moved : Stmt := top 43
abbrev s_Going___init__ : Stmt := inClass (top 44) 0
abbrev s_Going_takes : Stmt := inClass (top 44) 1
abbrev s_Going_comes : Stmt := inClass (top 44) 2
abbrev s_Going_promises : Stmt := inClass (top 44) 3
abbrev s_Going_looses : Stmt := inClass (top 44) 4
abbrev s_track_of : Stmt := top 45
abbrev s_pages_of : Stmt := top 46
abbrev s_track : Stmt := top 47
abbrev s_fitting : Stmt := top 48
abbrev s_unfit : Stmt := top 49
abbrev s_dues_of : Stmt := top 51
abbrev s_plain_dues : Stmt := top 52
abbrev s_all_dues : Stmt := top 53
abbrev s_owed_by : Stmt := top 54
abbrev s_balance_by : Stmt := top 55
abbrev s_balance : Stmt := top 56
abbrev s_only : Stmt := top 58
abbrev s_together : Stmt := top 59
abbrev s_ending : Stmt := top 64
abbrev s_became_of : Stmt := top 65
abbrev s_open_of : Stmt := top 66
abbrev s_open_promises : Stmt := top 67
abbrev s_stand_of : Stmt := top 69
abbrev s_double_of : Stmt := top 70
abbrev s_where : Stmt := top 71
abbrev s_kind_of : Stmt := top 72
abbrev s_is_double : Stmt := top 73
abbrev s__law_draw : Stmt := top 75
abbrev s__law_words : Stmt := top 76
abbrev s__law_here : Stmt := top 77
abbrev s__law_behind : Stmt := top 78
abbrev s__law_of_thing : Stmt := top 79
abbrev s__law_of_houses : Stmt := top 80
abbrev s__law_run : Stmt := top 81
abbrev s__law_sorts : Stmt := top 82
abbrev s__law_turned : Stmt := top 83
abbrev s__law_told : Stmt := top 84
abbrev s__law_strange_looses : Stmt := top 85
abbrev s__law_balance_right : Stmt := top 86
abbrev s_law : Stmt := top 87
/-! ### facts -/
def d_is_word : He.DefD := ⟨("is_word", none), "is_word", "is_word", defArgs s_is_word, defBody s_is_word, defScope s_is_word, [], []⟩
def d_is_from_to : He.DefD := ⟨("is_from_to", none), "is_from_to", "is_from_to", defArgs s_is_from_to, defBody s_is_from_to, defScope s_is_from_to, [], []⟩
def d_is_day : He.DefD := ⟨("is_day", none), "is_day", "is_day", defArgs s_is_day, defBody s_is_day, defScope s_is_day, [], []⟩
def d_is_part : He.DefD := ⟨("is_part", none), "is_part", "is_part", defArgs s_is_part, defBody s_is_part, defScope s_is_part, [], []⟩
def d_is_page : He.DefD := ⟨("is_page", none), "is_page", "is_page", defArgs s_is_page, defBody s_is_page, defScope s_is_page, [], []⟩
def d_houses_in : He.DefD := ⟨("houses_in", none), "houses_in", "houses_in", defArgs s_houses_in, defBody s_houses_in, defScope s_houses_in, [], []⟩
def d_things_in : He.DefD := ⟨("things_in", none), "things_in", "things_in", defArgs s_things_in, defBody s_things_in, defScope s_things_in, [], []⟩
def d_kinds_in : He.DefD := ⟨("kinds_in", none), "kinds_in", "kinds_in", defArgs s_kinds_in, defBody s_kinds_in, defScope s_kinds_in, [], []⟩
def d_page_key : He.DefD := ⟨("page_key", none), "page_key", "page_key", defArgs s_page_key, defBody s_page_key, defScope s_page_key, [], []⟩
def d_in_order : He.DefD := ⟨("in_order", none), "in_order", "in_order", defArgs s_in_order, defBody s_in_order, defScope s_in_order, [], []⟩
def d_ask_book : He.DefD := ⟨("ask_book", none), "ask_book", "ask_book", defArgs s_ask_book, defBody s_ask_book, defScope s_ask_book, [], []⟩
def d_houses_of : He.DefD := ⟨("houses_of", none), "houses_of", "houses_of", defArgs s_houses_of, defBody s_houses_of, defScope s_houses_of, [], []⟩
def d_all_named : He.DefD := ⟨("all_named", none), "all_named", "all_named", defArgs s_all_named, defBody s_all_named, defScope s_all_named, [], []⟩
def d_pages_in_order : He.DefD := ⟨("pages_in_order", none), "pages_in_order", "pages_in_order", defArgs s_pages_in_order, defBody s_pages_in_order, defScope s_pages_in_order, [], []⟩
def d_book_of : He.DefD := ⟨("book_of", none), "book_of", "book_of", defArgs s_book_of, defBody s_book_of, defScope s_book_of, [], []⟩
def d_things_of : He.DefD := ⟨("things_of", none), "things_of", "things_of", defArgs s_things_of, defBody s_things_of, defScope s_things_of, [], []⟩
def d_arrived : He.DefD := ⟨("arrived", none), "arrived", "arrived", defArgs s_arrived, defBody s_arrived, defScope s_arrived, [], []⟩
def d_owner_of : He.DefD := ⟨("owner_of", none), "owner_of", "owner_of", defArgs s_owner_of, defBody s_owner_of, defScope s_owner_of, [], []⟩
def d_moved : He.DefD := ⟨("moved", none), "moved", "moved", defArgs s_moved, defBody s_moved, defScope s_moved, [], []⟩
def d_Going___init__ : He.DefD := ⟨("Going", some "__init__"), "__init__", "Going.__init__", defArgs s_Going___init__, defBody s_Going___init__, defScope s_Going___init__, [], []⟩
def d_Going_takes : He.DefD := ⟨("Going", some "takes"), "takes", "Going.takes", defArgs s_Going_takes, defBody s_Going_takes, defScope s_Going_takes, [], []⟩
def d_Going_comes : He.DefD := ⟨("Going", some "comes"), "comes", "Going.comes", defArgs s_Going_comes, defBody s_Going_comes, defScope s_Going_comes, [], []⟩
def d_Going_promises : He.DefD := ⟨("Going", some "promises"), "promises", "Going.promises", defArgs s_Going_promises, defBody s_Going_promises, defScope s_Going_promises, [], []⟩
def d_Going_looses : He.DefD := ⟨("Going", some "looses"), "looses", "Going.looses", defArgs s_Going_looses, defBody s_Going_looses, defScope s_Going_looses, [], []⟩
def d_track_of : He.DefD := ⟨("track_of", none), "track_of", "track_of", defArgs s_track_of, defBody s_track_of, defScope s_track_of, [], []⟩
def d_pages_of : He.DefD := ⟨("pages_of", none), "pages_of", "pages_of", defArgs s_pages_of, defBody s_pages_of, defScope s_pages_of, [], []⟩
def d_track : He.DefD := ⟨("track", none), "track", "track", defArgs s_track, defBody s_track, defScope s_track, [], []⟩
def d_fitting : He.DefD := ⟨("fitting", none), "fitting", "fitting", defArgs s_fitting, defBody s_fitting, defScope s_fitting, [], []⟩
def d_unfit : He.DefD := ⟨("unfit", none), "unfit", "unfit", defArgs s_unfit, defBody s_unfit, defScope s_unfit, [], []⟩
def d_dues_of : He.DefD := ⟨("dues_of", none), "dues_of", "dues_of", defArgs s_dues_of, defBody s_dues_of, defScope s_dues_of, [], []⟩
def d_plain_dues : He.DefD := ⟨("plain_dues", none), "plain_dues", "plain_dues", defArgs s_plain_dues, defBody s_plain_dues, defScope s_plain_dues, [], []⟩
def d_all_dues : He.DefD := ⟨("all_dues", none), "all_dues", "all_dues", defArgs s_all_dues, defBody s_all_dues, defScope s_all_dues, [], []⟩
def d_owed_by : He.DefD := ⟨("owed_by", none), "owed_by", "owed_by", defArgs s_owed_by, defBody s_owed_by, defScope s_owed_by, [], []⟩
def d_balance_by : He.DefD := ⟨("balance_by", none), "balance_by", "balance_by", defArgs s_balance_by, defBody s_balance_by, defScope s_balance_by, [], []⟩
def d_balance : He.DefD := ⟨("balance", none), "balance", "balance", defArgs s_balance, defBody s_balance, defScope s_balance, [], []⟩
def d_only : He.DefD := ⟨("only", none), "only", "only", defArgs s_only, defBody s_only, defScope s_only, [], []⟩
def d_together : He.DefD := ⟨("together", none), "together", "together", defArgs s_together, defBody s_together, defScope s_together, [], []⟩
def d_ending : He.DefD := ⟨("ending", none), "ending", "ending", defArgs s_ending, defBody s_ending, defScope s_ending, [], []⟩
def d_became_of : He.DefD := ⟨("became_of", none), "became_of", "became_of", defArgs s_became_of, defBody s_became_of, defScope s_became_of, [], []⟩
def d_open_of : He.DefD := ⟨("open_of", none), "open_of", "open_of", defArgs s_open_of, defBody s_open_of, defScope s_open_of, [], []⟩
def d_open_promises : He.DefD := ⟨("open_promises", none), "open_promises", "open_promises", defArgs s_open_promises, defBody s_open_promises, defScope s_open_promises, [], []⟩
def d_stand_of : He.DefD := ⟨("stand_of", none), "stand_of", "stand_of", defArgs s_stand_of, defBody s_stand_of, defScope s_stand_of, [], []⟩
def d_double_of : He.DefD := ⟨("double_of", none), "double_of", "double_of", defArgs s_double_of, defBody s_double_of, defScope s_double_of, [], []⟩
def d_where : He.DefD := ⟨("where", none), "where", "where", defArgs s_where, defBody s_where, defScope s_where, [], []⟩
def d_kind_of : He.DefD := ⟨("kind_of", none), "kind_of", "kind_of", defArgs s_kind_of, defBody s_kind_of, defScope s_kind_of, [], []⟩
def d_is_double : He.DefD := ⟨("is_double", none), "is_double", "is_double", defArgs s_is_double, defBody s_is_double, defScope s_is_double, [], []⟩
def d__law_draw : He.DefD := ⟨("_law_draw", none), "_law_draw", "_law_draw", defArgs s__law_draw, defBody s__law_draw, defScope s__law_draw, [], []⟩
def d__law_words : He.DefD := ⟨("_law_words", none), "_law_words", "_law_words", defArgs s__law_words, defBody s__law_words, defScope s__law_words, [], []⟩
def d__law_here : He.DefD := ⟨("_law_here", none), "_law_here", "_law_here", defArgs s__law_here, defBody s__law_here, defScope s__law_here, [], []⟩
def d__law_behind : He.DefD := ⟨("_law_behind", none), "_law_behind", "_law_behind", defArgs s__law_behind, defBody s__law_behind, defScope s__law_behind, [], []⟩
def d__law_of_thing : He.DefD := ⟨("_law_of_thing", none), "_law_of_thing", "_law_of_thing", defArgs s__law_of_thing, defBody s__law_of_thing, defScope s__law_of_thing, [], []⟩
def d__law_of_houses : He.DefD := ⟨("_law_of_houses", none), "_law_of_houses", "_law_of_houses", defArgs s__law_of_houses, defBody s__law_of_houses, defScope s__law_of_houses, [], []⟩
def d__law_run : He.DefD := ⟨("_law_run", none), "_law_run", "_law_run", defArgs s__law_run, defBody s__law_run, defScope s__law_run, [], []⟩
def d__law_sorts : He.DefD := ⟨("_law_sorts", none), "_law_sorts", "_law_sorts", defArgs s__law_sorts, defBody s__law_sorts, defScope s__law_sorts, [], []⟩
def d__law_turned : He.DefD := ⟨("_law_turned", none), "_law_turned", "_law_turned", defArgs s__law_turned, defBody s__law_turned, defScope s__law_turned, [], []⟩
def d__law_told : He.DefD := ⟨("_law_told", none), "_law_told", "_law_told", defArgs s__law_told, defBody s__law_told, defScope s__law_told, [], []⟩
def d__law_strange_looses : He.DefD := ⟨("_law_strange_looses", none), "_law_strange_looses", "_law_strange_looses", defArgs s__law_strange_looses, defBody s__law_strange_looses, defScope s__law_strange_looses, [], []⟩
def d__law_balance_right : He.DefD := ⟨("_law_balance_right", none), "_law_balance_right", "_law_balance_right", defArgs s__law_balance_right, defBody s__law_balance_right, defScope s__law_balance_right, [], []⟩
def d_law : He.DefD := ⟨("law", none), "law", "law", defArgs s_law, defBody s_law, defScope s_law, [], []⟩
def fn0 : List He.DefD := [d_is_word, d_is_from_to, d_is_day, d_is_part, d_is_page, d_houses_in, d_things_in, d_kinds_in, d_page_key, d_in_order, d_ask_book, d_houses_of, d_all_named, d_pages_in_order, d_book_of, d_things_of, d_arrived, d_owner_of, d_moved, d_Going___init__]
def fn1 : List He.DefD := [d_Going_takes, d_Going_comes, d_Going_promises, d_Going_looses, d_track_of, d_pages_of, d_track, d_fitting, d_unfit, d_dues_of, d_plain_dues, d_all_dues, d_owed_by, d_balance_by, d_balance, d_only, d_together, d_ending, d_became_of, d_open_of]
def fn2 : List He.DefD := [d_open_promises, d_stand_of, d_double_of, d_where, d_kind_of, d_is_double, d__law_draw, d__law_words, d__law_here, d__law_behind, d__law_of_thing, d__law_of_houses, d__law_run, d__law_sorts, d__law_turned, d__law_told, d__law_strange_looses, d__law_balance_right, d_law]
def fn : List He.DefD := fn0 ++ fn1 ++ fn2
def fa0 : List He.Fa := [.glo "is_word", .glo "is_from_to", .glo "is_day", .glo "is_part", .glo "is_page", .glo "houses_in", .glo "things_in", .glo "kinds_in", .glo "page_key", .glo "in_order", .glo "ask_book", .glo "houses_of", .glo "all_named", .glo "pages_in_order", .glo "book_of", .glo "things_of", .glo "arrived", .glo "owner_of", .glo "moved", .glo "track_of"]
def fa1 : List He.Fa := [.glo "pages_of", .glo "track", .glo "fitting", .glo "unfit", .glo "dues_of", .glo "plain_dues", .glo "all_dues", .glo "owed_by", .glo "balance_by", .glo "balance", .glo "only", .glo "together", .glo "ending", .glo "became_of", .glo "open_of", .glo "open_promises", .glo "stand_of", .glo "double_of", .glo "where", .glo "kind_of"]
def fa2 : List He.Fa := [.glo "is_double", .glo "_law_draw", .glo "_law_words", .glo "_law_here", .glo "_law_behind", .glo "_law_of_thing", .glo "_law_of_houses", .glo "_law_run", .glo "_law_sorts", .glo "_law_turned", .glo "_law_told", .glo "_law_strange_looses", .glo "_law_balance_right", .glo "law", .glo "Going", .cls "Going", .mkr "Going", .noat "Going" "stand", .noat "Going" "has_come", .noat "Going" "promised"]
def fa3 : List He.Fa := [.meth "Going" "takes", .meth "Going" "comes", .meth "Going" "promises", .meth "Going" "looses", .str "LETTERS" "abcdefghijklmnopqrstuvwxyz", .int "LONGEST_WORD" 8, .int "LAST_DAY" 999, .int "MOST_DAYS" 9, .int "MOST_WORTH" 1000000000, .int "MOST_WEIGHT" 9, .glo "RANKS", .glo "FORMS", .glo "HOUSES", .glo "OF_THINGS", .glo "OF_KINDS", .int "LEAST_HOUSES" 2, .int "MOST_HOUSES" 6, .int "MOST_PAGES" 200, .int "MOST_THINGS" 16, .int "MOST_KINDS" 6]
def fa4 : List He.Fa := [.glo "OUT", .glo "ALWAYS", .glo "NONE", .glo "OPEN", .glo "LAPSED", .free "isinstance", .free "str", .free "int", .free "bool", .free "len", .free "all", .free "zip", .free "sorted", .free "set", .free "tuple", .free "list", .free "sum", .free "min", .free "range", .free "abs"]
def fa : List He.Fa := fa0 ++ fa1 ++ fa2 ++ fa3 ++ fa4
def names0 : List Str := ["SwapError", "NoBook", "LETTERS", "LONGEST_WORD", "LAST_DAY", "is_word", "is_from_to", "is_day", "MOST_DAYS", "MOST_WORTH", "MOST_WEIGHT", "RANKS", "FORMS", "HOUSES", "OF_THINGS", "OF_KINDS", "is_part", "is_page", "houses_in", "things_in"]
def names1 : List Str := ["kinds_in", "page_key", "in_order", "LEAST_HOUSES", "MOST_HOUSES", "MOST_PAGES", "MOST_THINGS", "MOST_KINDS", "ask_book", "houses_of", "all_named", "pages_in_order", "book_of", "things_of", "OUT", "ALWAYS", "arrived", "owner_of", "moved", "Going"]
def names2 : List Str := ["track_of", "pages_of", "track", "fitting", "unfit", "dues_of", "plain_dues", "all_dues", "owed_by", "balance_by", "balance", "only", "together", "NONE", "OPEN", "LAPSED", "ending", "became_of", "open_of", "open_promises"]
def names3 : List Str := ["stand_of", "double_of", "where", "kind_of", "is_double", "_law_draw", "_law_words", "_law_here", "_law_behind", "_law_of_thing", "_law_of_houses", "_law_run", "_law_sorts", "_law_turned", "_law_told", "_law_strange_looses", "_law_balance_right"]
def names : List Str := names0 ++ names1 ++ names2 ++ names3
/-- the table's entry under a key is a tuple of these -/
def entB (K : PySem.W.Frag) (x : Str) (kv : Str × List He.Dv) : Bool := match PySem.W.nsIn K (He.ga K x) kv.1 with
  | some (some (.ref a)) => (match K.lookup a with
    | some ⟨.type c, _, .seq its _, _⟩ => decide (c = "tuple") && (decide (its.size ≤ sizeLine) && He.relAll (kv.2.map (He.Dv.v K)) its.toList)
    | _ => false)
  | _ => false
def t_FORMS : List (Str × He.Dv) := [("comes", .str "wdwww"), ("trial", .str "wdwwwt"), ("back", .str "wdwwt"), ("keep", .str "wdwwm"), ("give", .str "wdwwwtm"), ("goes", .str "wdww"), ("double", .str "wdww"), ("promise", .str "wdwwwd"), ("loose", .str "wdw"), ("want", .str "wdwwg"), ("owe", .str "wdwwp"), ("pay", .str "wdwwp")]
def t_HOUSES : List (Str × List He.Dv) := [("comes", [.int 5]), ("trial", [.int 4, .int 5]), ("back", [.int 4]), ("keep", [.int 4]), ("give", [.int 4, .int 5]), ("goes", [.int 4]), ("double", [.int 4]), ("promise", [.int 4, .int 5]), ("loose", []), ("want", [.int 3]), ("owe", [.int 3, .int 4]), ("pay", [.int 3, .int 4])]
def noDict (K : PySem.W.Frag) (x : Str) : Bool := match K.lookup (He.ga K x) with
  | some o => o.dict.isNone
  | none => false
def ex (K : PySem.W.Frag) : Bool := He.tupB K "RANKS" [.str "comes", .str "trial", .str "back", .str "keep", .str "give", .str "goes", .str "double", .str "promise", .str "loose", .str "want", .str "owe", .str "pay"] && (He.valsB K (He.ga K "FORMS") t_FORMS && (t_HOUSES.all (entB K "HOUSES") && (He.tupB K "OF_THINGS" [.str "comes", .str "trial", .str "back", .str "keep", .str "give", .str "goes", .str "double", .str "promise"] && (He.tupB K "OF_KINDS" [.str "comes", .str "want"] && (He.tupB K "OUT" [.str "out"] && (He.tupB K "ALWAYS" [.str "want", .str "owe", .str "pay"] && (He.tupB K "NONE" [.str "none"] && (He.tupB K "OPEN" [.str "open"] && (He.tupB K "LAPSED" [.str "lapsed"] && (noDict K "RANKS"))))))))))
def ts : List He.Tab := [(fun K => He.ga K "FORMS", ["comes", "trial", "back", "keep", "give", "goes", "double", "promise", "loose", "want", "owe", "pay"]), (fun K => He.ga K "HOUSES", ["comes", "trial", "back", "keep", "give", "goes", "double", "promise", "loose", "want", "owe", "pay"])]
abbrev R : PySem.W.OpenRow := PySem.W.OpenLaw.row PySem.Challenge.rw_doublerings_k92_whole_each_thing_by_itse
abbrev hk : PySem.W.Hook := He.hookX 5 fa fn ts [] ex
def ob (s : PySem.W.SharedT) : He.AlX := He.obsX 5 fa fn ts [] ex (HandSHeadRun.getT s)
theorem ob_eq (s : PySem.W.SharedT) : ob s = hk.obs s.abs := He.obsX_eq (HandSHeadRun.getT_eq s)
theorem run0 (w : World) : HandSHeadRun.RunEq R (PySem.W.view R.prog [87]) hk ob 20000 names (w.withFollow "special-get-raises" false) := by
  intro os
  kernel_rfl
theorem run1 (w : World) : HandSHeadRun.RunEq R (PySem.W.view R.prog [87]) hk ob 20000 names (w.withFollow "special-get-raises" true) := by
  intro os
  kernel_rfl
theorem run (w : World) : HandSHeadRun.RunEq R (PySem.W.view R.prog [87]) hk ob 20000 names w :=
  PySem.W.byRow2 "special-get-raises" (P := fun w => HandSHeadRun.RunEq R (PySem.W.view R.prog [87]) hk ob 20000 names w) run0 run1 w
end K92
end
section -- K92A
set_option maxRecDepth 100000
set_option maxHeartbeats 1000000
/-! A logic of data over the hand layer: an expression gives data, a statement takes an environment of data to another. -/
namespace K92
open PySem PySem.Spec PyProof.Rows L2

abbrev Ex := Evl.Ex
theorem Ex.refl (H : Hp) : Ex H H := Evl.Ex.refl H
theorem Ex.trans {H H1 H2 : Hp} (a : Ex H H1) (b : Ex H1 H2) : Ex H H2 := Evl.Ex.trans a b
theorem Ex.none {B H : Hp} {p : Addr} (e : Ex B H) (h : H p = Option.none) : B p = Option.none := Evl.fresh_back e h
theorem Ex.new {H : Hp} {p : Addr} {o : HO} (h : H p = Option.none) : Ex H (upd H p o) := Evl.Ex.new h

/-! ### data in a heap -/
mutual
inductive Rp (K : PySem.W.Frag) (B : Hp) : V → PyData → Prop
  | non : Rp K B .non .none
  | bl (b : Bool) : Rp K B (.bl b) (.bool b)
  | int (i : Int) : Rp K B (.int i) (.int i)
  | str (x : Str) : Rp K B (.str x) (.str x)
  | lst {a : Addr} {xs : List V} {ds : List PyData} : B a = some (.lst xs) → RpAll K B xs ds → Rp K B (.ref a) (.list ds)
  | tup {a : Addr} {xs : List V} {ds : List PyData} : SqT K B a xs → RpAll K B xs ds → Rp K B (.ref a) (.tuple ds)
  | dic {a : Addr} {kvs : List (Key × V)} {es : List (PyData × PyData)} : B a = some (.dK kvs) → RpKs K B kvs es → Rp K B (.ref a) (.dict es)
inductive RpAll (K : PySem.W.Frag) (B : Hp) : List V → List PyData → Prop
  | nil : RpAll K B [] []
  | cons {v : V} {vs : List V} {d : PyData} {ds : List PyData} : Rp K B v d → RpAll K B vs ds → RpAll K B (v :: vs) (d :: ds)
inductive RpKs (K : PySem.W.Frag) (B : Hp) : List (Key × V) → List (PyData × PyData) → Prop
  | nil : RpKs K B [] []
  | cons {k : Str} {v : V} {kvs : List (Key × V)} {d : PyData} {es : List (PyData × PyData)} : Rp K B v d → RpKs K B kvs es → RpKs K B ((Sum.inr k, v) :: kvs) ((.str k, d) :: es)
end
section
variable {K : PySem.W.Frag} {B B' H : Hp}
mutual
theorem Rp.mono' (e : Ex B B') : ∀ (d : PyData) (v : V), Rp K B v d → Rp K B' v d
  | .none, _, h => by cases h; exact .non
  | .bool b, _, h => by cases h; exact .bl b
  | .int i, _, h => by cases h; exact .int i
  | .str x, _, h => by cases h; exact .str x
  | .list ds, _, h => by
    cases h with
    | lst hs ha => exact .lst (e _ _ hs) (RpAll.mono' e ds _ ha)
  | .tuple ds, _, h => by
    cases h with
    | tup hs ha => exact .tup (Evl.ex_t e hs) (RpAll.mono' e ds _ ha)
  | .dict es, _, h => by
    cases h with
    | dic hs ha => exact .dic (e _ _ hs) (RpKs.mono' e es _ ha)
theorem RpAll.mono' (e : Ex B B') : ∀ (ds : List PyData) (vs : List V), RpAll K B vs ds → RpAll K B' vs ds
  | [], _, h => by cases h; exact .nil
  | d :: ds, _, h => by
    cases h with
    | cons h1 h2 => exact .cons (Rp.mono' e d _ h1) (RpAll.mono' e ds _ h2)
theorem RpKs.mono' (e : Ex B B') : ∀ (es : List (PyData × PyData)) (kvs : List (Key × V)), RpKs K B kvs es → RpKs K B' kvs es
  | [], _, h => by cases h; exact .nil
  | (p, d) :: es, _, h => by
    cases h with
    | cons h1 h2 => exact .cons (Rp.mono' e d _ h1) (RpKs.mono' e es _ h2)
end
theorem Rp.mono {v : V} {d : PyData} (h : Rp K B v d) (e : Ex B B') : Rp K B' v d := Rp.mono' e d v h
theorem RpAll.mono {vs : List V} {ds : List PyData} (h : RpAll K B vs ds) (e : Ex B B') : RpAll K B' vs ds := RpAll.mono' e ds vs h
theorem RpKs.mono {vs : List (Key × V)} {ds : List (PyData × PyData)} (h : RpKs K B vs ds) (e : Ex B B') : RpKs K B' vs ds := RpKs.mono' e ds vs h

theorem RpAll.length : ∀ {vs : List V} {ds : List PyData}, RpAll K B vs ds → vs.length = ds.length
  | _, _, .nil => rfl
  | _, _, .cons _ t => by rw [List.length_cons, List.length_cons, t.length]
theorem RpAll.get : ∀ {vs : List V} {ds : List PyData} {i : Nat} {d : PyData}, RpAll K B vs ds → ds[i]? = some d → ∃ v, vs[i]? = some v ∧ Rp K B v d
  | _, _, _, _, .nil, h => by simp at h
  | _, _, 0, _, .cons r _, h => ⟨_, rfl, by simp at h; subst h; exact r⟩
  | _, _, i + 1, d, .cons _ t, h => by
    obtain ⟨v, h1, h2⟩ := RpAll.get (i := i) (d := d) t (by simpa using h)
    exact ⟨v, by simpa using h1, h2⟩
theorem RpAll.get' : ∀ {vs : List V} {ds : List PyData} {i : Nat} {v : V}, RpAll K B vs ds → vs[i]? = some v → ∃ d, ds[i]? = some d ∧ Rp K B v d
  | _, _, _, _, .nil, h => by simp at h
  | _, _, 0, _, .cons r _, h => ⟨_, rfl, by simp at h; subst h; exact r⟩
  | _, _, i + 1, d, .cons _ t, h => by
    obtain ⟨v, h1, h2⟩ := RpAll.get' (i := i) (v := d) t (by simpa using h)
    exact ⟨v, by simpa using h1, h2⟩
theorem RpAll.append : ∀ {vs ws : List V} {ds es : List PyData}, RpAll K B vs ds → RpAll K B ws es → RpAll K B (vs ++ ws) (ds ++ es)
  | _, _, _, _, .nil, h => h
  | _, _, _, _, .cons r t, h => .cons r (RpAll.append t h)
theorem RpAll.snoc {vs : List V} {v : V} {ds : List PyData} {d : PyData} (h : RpAll K B vs ds) (r : Rp K B v d) : RpAll K B (vs ++ [v]) (ds ++ [d]) := h.append (.cons r .nil)
theorem RpAll.drop : ∀ {vs : List V} {ds : List PyData} (n : Nat), RpAll K B vs ds → RpAll K B (vs.drop n) (ds.drop n)
  | _, _, 0, h => h
  | _, _, _ + 1, .nil => .nil
  | _, _, n + 1, .cons _ t => RpAll.drop n t
theorem RpAll.take : ∀ {vs : List V} {ds : List PyData} (n : Nat), RpAll K B vs ds → RpAll K B (vs.take n) (ds.take n)
  | _, _, 0, _ => .nil
  | _, _, _ + 1, .nil => .nil
  | _, _, n + 1, .cons r t => .cons r (RpAll.take n t)
theorem rp_strs : ∀ {xs : List Str}, RpAll K B (xs.map V.str) (xs.map PyData.str)
  | [] => .nil
  | x :: xs => .cons (.str x) (rp_strs (xs := xs))
theorem rp_ints : ∀ {xs : List Int}, RpAll K B (xs.map V.int) (xs.map PyData.int)
  | [] => .nil
  | x :: xs => .cons (.int x) (rp_ints (xs := xs))
theorem rp_bools : ∀ {xs : List Bool}, RpAll K B (xs.map V.bl) (xs.map PyData.bool)
  | [] => .nil
  | x :: xs => .cons (.bl x) (rp_bools (xs := xs))
theorem RpAll.strs : ∀ {vs : List V} {xs : List Str}, RpAll K B vs (xs.map PyData.str) → vs = xs.map V.str
  | _, [], h => by cases h; rfl
  | _, x :: xs, h => by
    cases h with
    | cons h1 h2 => cases h1; rw [RpAll.strs h2]; rfl
theorem RpAll.ints : ∀ {vs : List V} {xs : List Int}, RpAll K B vs (xs.map PyData.int) → vs = xs.map V.int
  | _, [], h => by cases h; rfl
  | _, x :: xs, h => by
    cases h with
    | cons h1 h2 => cases h1; rw [RpAll.ints h2]; rfl
theorem RpAll.bools : ∀ {vs : List V} {xs : List Bool}, RpAll K B vs (xs.map PyData.bool) → vs = xs.map V.bl
  | _, [], h => by cases h; rfl
  | _, x :: xs, h => by
    cases h with
    | cons h1 h2 => cases h1; rw [RpAll.bools h2]; rfl
mutual
theorem Rp.dp : ∀ (d : PyData) (v : V), d.canLay0 = true → Rp K B v d → Dp K B v d
  | .none, _, _, h => by cases h; exact .non
  | .bool b, _, _, h => by cases h; exact .bl b
  | .int i, _, _, h => by cases h; exact .int i
  | .str x, _, _, h => by cases h; exact .str x
  | .list ds, _, s, h => by
    cases h with
    | lst hs ha => exact .lst (SqL.of hs) (RpAll.dp ds _ s ha)
  | .tuple ds, _, s, h => by
    cases h with
    | tup hs ha => exact .tup hs (RpAll.dp ds _ s ha)
  | .dict es, _, s, h => by cases s
theorem RpAll.dp : ∀ (ds : List PyData) (vs : List V), PyData.canLayAll0 ds = true → RpAll K B vs ds → DpAll K B vs ds
  | [], _, _, h => by cases h; exact .nil
  | d :: ds, _, s, h => by
    obtain ⟨s1, s2⟩ := Bool.and_eq_true_iff.mp s
    cases h with
    | cons h1 h2 => exact .cons (Rp.dp d _ s1 h1) (RpAll.dp ds _ s2 h2)
end
end
end K92
end
section -- K92B
set_option maxRecDepth 100000
set_option maxHeartbeats 1000000
namespace K92
open PySem PySem.Spec PyProof.Rows L2
/-! ### what a run may change -/
/-- M: the addresses that a run may write; W: what stays true of them; V: what is known from the start -/
structure Ctx where
  M : Addr → Prop
  W : Hp → Prop
  V : Hp → Prop
  stab : ∀ {H H' : Hp}, (∀ p o, M p → H p = some o → H' p = some o) → W H → W H'
  thr : ∀ {H : Hp} {p : Addr}, W H → M p → H p ≠ none
  vm : ∀ {B B' : Hp}, Ex B B' → V B → V B'
def C0 : Ctx := ⟨fun _ => False, fun _ => True, fun _ => True, fun _ h => h, fun _ h => h.elim, fun _ h => h⟩
/-- B is known, H stands -/
structure Ctx.On (C : Ctx) (B H : Hp) : Prop where
  ex : Ex B H
  w : C.W H
  v : C.V B
  nb : ∀ p, C.M p → B p = none
structure Gr (C : Ctx) (B H B' H' : Hp) : Prop where
  on0 : C.On B H
  bb : Ex B B'
  on : C.On B' H'
  own : ∀ p o, ¬ C.M p → B p = none → H p = some o → B' p = none ∧ H' p = some o
section
variable {C : Ctx} {B H B' H' B2 H2 B0 H0 : Hp} {p : Addr} {o : HO}
theorem on0 (e : Ex B H) : C0.On B H := ⟨e, trivial, trivial, fun _ h => h.elim⟩
theorem Gr.refl (o : C.On B H) : Gr C B H B H := ⟨o, Ex.refl B, o, fun _ _ _ h1 h2 => ⟨h1, h2⟩⟩
theorem Gr.trans (a : Gr C B H B' H') (b : Gr C B' H' B2 H2) : Gr C B H B2 H2 :=
  ⟨a.on0, a.bb.trans b.bb, b.on, fun p o m h1 h2 => let ⟨h3, h4⟩ := a.own p o m h1 h2; b.own p o m h3 h4⟩
theorem Gr.notM (o0 : C.On B H) (h : H p = none) : ¬ C.M p := fun m => C.thr o0.w m h
theorem Gr.up (g : Gr C0 B H B' H') (o : C.On B H) : Gr C B H B' H' := by
  have k : ∀ p x, C.M p → H p = some x → B' p = none ∧ H' p = some x := fun p x m h => g.own p x (fun z => z) (o.nb p m) h
  refine ⟨o, g.bb, ⟨g.on.ex, C.stab (fun p x m h => (k p x m h).2) o.w, C.vm g.bb o.v, fun p m => ?_⟩, fun p x _ h1 h2 => g.own p x (fun z => z) h1 h2⟩
  cases q : H p with
  | none => exact absurd q (C.thr o.w m)
  | some x => exact (k p x m q).1
theorem mne {q : Addr} (nm : ¬ C.M p) (m : C.M q) : q ≠ p := fun z => nm (z ▸ m)
theorem Gr.new (o : C.On B H) (x : HO) (h : H p = none) : Gr C B H (upd B p x) (upd H p x) := by
  have hb : B p = none := o.ex.none h
  have nm : ¬ C.M p := Gr.notM o h
  refine ⟨o, Ex.new hb, ⟨fun a y e => ?_, C.stab (fun q y m e => ?_) o.w, C.vm (Ex.new hb) o.v, fun q m => ?_⟩, fun q y _ h1 h2 => ?_⟩
  · by_cases z : a = p
    · subst z; rw [upd_same] at e ⊢; exact e
    · rw [upd_ne z] at e ⊢; exact o.ex a y e
  · rw [upd_ne (mne nm m)]; exact e
  · rw [upd_ne (mne nm m)]; exact o.nb q m
  · have z : q ≠ p := ne_of_none h2 h
    rw [upd_ne z, upd_ne z]; exact ⟨h1, h2⟩
/-- a new object that the run keeps to itself -/
theorem Gr.newO (o : C.On B H) (x : HO) (h : H p = none) : Gr C B H B (upd H p x) := by
  have nm : ¬ C.M p := Gr.notM o h
  refine ⟨o, Ex.refl B, ⟨o.ex.trans (Ex.new h), C.stab (fun q y m e => ?_) o.w, o.v, o.nb⟩, fun q y _ h1 h2 => ?_⟩
  · rw [upd_ne (mne nm m)]; exact e
  · rw [upd_ne (ne_of_none h2 h)]; exact ⟨h1, h2⟩
theorem Gr.mut (g : Gr C B0 H0 B H) (x : HO) (h0 : H0 p = none) (hb : B p = none) : Gr C B0 H0 B (upd H p x) := by
  have nm : ¬ C.M p := Gr.notM g.on0 h0
  refine ⟨g.on0, g.bb, ⟨Evl.Ex.mut g.on.ex hb, C.stab (fun q y m e => ?_) g.on.w, g.on.v, g.on.nb⟩, fun q y m h1 h2 => ?_⟩
  · rw [upd_ne (mne nm m)]; exact e
  · rw [upd_ne (ne_of_none h2 h0)]; exact g.own q y m h1 h2
/-- .. is handed out -/
theorem Gr.fz (g : Gr C B0 H0 B H) {x : HO} (h0 : H0 p = none) (hp : H p = some x) : Gr C B0 H0 (upd B p x) H := by
  have nm : ¬ C.M p := Gr.notM g.on0 h0
  refine ⟨g.on0, fun a y e => ?_, ⟨fun a y e => ?_, g.on.w, C.vm (fun a y e => ?_) g.on.v, fun q m => ?_⟩, fun q y m h1 h2 => ?_⟩
  · rw [upd_ne (ne_of_none e (g.on0.ex.none h0))]; exact g.bb a y e
  · by_cases z : a = p
    · subst z; rw [upd_same] at e; rw [hp]; exact e
    · rw [upd_ne z] at e; exact g.on.ex a y e
  · by_cases z : a = p
    · subst z; rw [upd_same, ← hp]; exact g.on.ex a y e
    · rw [upd_ne z]; exact e
  · rw [upd_ne (mne nm m)]; exact g.on.nb q m
  · obtain ⟨h3, h4⟩ := g.own q y m h1 h2
    rw [upd_ne (ne_of_none h2 h0)]; exact ⟨h3, h4⟩
end

/-! ### environments -/
inductive Cell where
  | unk
  | val (d : PyData)
  | ref (a : Addr)
def CellR (K : PySem.W.Frag) (B : Hp) (c : Cell) (x : Option (Option V)) : Prop := match c with
  | .unk => True
  | .val d => ∃ v, x = some (some v) ∧ Rp K B v d
  | .ref a => x = some (some (.ref a))
structure EnvR (K : PySem.W.Frag) (ρ : List Cell) (σ : L2.St) (B : Hp) : Prop where
  len : σ.length = ρ.length
  at_ : ∀ (i : Nat) (c : Cell), ρ[i]? = some c → CellR K B c σ[i]?
def wipeC (ρ : List Cell) : List Nat → List Cell
  | [] => ρ
  | v :: vs => (wipeC ρ vs).set v .unk
section
variable {K : PySem.W.Frag} {B B' H : Hp} {ρ : List Cell} {σ : L2.St} {i : Nat} {d : PyData} {v : V} {a : Addr}
theorem CellR.mono {c : Cell} {x : Option (Option V)} (h : CellR K B c x) (e : Ex B B') : CellR K B' c x := by
  cases c with
  | unk => trivial
  | val d => obtain ⟨v, h1, h2⟩ := h; exact ⟨v, h1, h2.mono e⟩
  | ref a => exact h
theorem EnvR.mono (h : EnvR K ρ σ B) (e : Ex B B') : EnvR K ρ σ B' := ⟨h.len, fun i c hc => (h.at_ i c hc).mono e⟩
theorem EnvR.val (h : EnvR K ρ σ B) (hc : ρ[i]? = some (.val d)) : ∃ v, σ[i]? = some (some v) ∧ Rp K B v d := h.at_ i _ hc
theorem EnvR.ref (h : EnvR K ρ σ B) (hc : ρ[i]? = some (.ref a)) : σ[i]? = some (some (.ref a)) := h.at_ i _ hc
theorem EnvR.put {c : Cell} {x : Option V} (h : EnvR K ρ σ B) (hx : CellR K B c (some x)) : EnvR K (ρ.set i c) (σ.set i x) B := by
  refine ⟨by rw [List.length_set, List.length_set]; exact h.len, fun j c' hc => ?_⟩
  by_cases z : i = j
  · subst z
    by_cases hl : i < ρ.length
    · rw [List.getElem?_set_self hl] at hc
      rw [List.getElem?_set_self (by rw [h.len]; exact hl)]
      cases hc
      exact hx
    · rw [List.getElem?_eq_none (by rw [List.length_set]; omega)] at hc
      cases hc
  · rw [List.getElem?_set_ne z] at hc ⊢
    exact h.at_ j c' hc
theorem EnvR.setV (h : EnvR K ρ σ B) (r : Rp K B v d) : EnvR K (ρ.set i (.val d)) (σ.set i (some v)) B := h.put ⟨v, rfl, r⟩
theorem EnvR.setR (h : EnvR K ρ σ B) : EnvR K (ρ.set i (.ref a)) (σ.set i (some (.ref a))) B := h.put rfl
theorem EnvR.setU {x : Option V} (h : EnvR K ρ σ B) : EnvR K (ρ.set i .unk) (σ.set i x) B := h.put trivial
theorem EnvR.wipe (h : EnvR K ρ σ B) : ∀ vs : List Nat, EnvR K (wipeC ρ vs) (L2.wipe σ vs) B
  | [] => h
  | v :: vs => (EnvR.wipe h vs).setU
theorem envR_nil : EnvR K [] [] B := ⟨rfl, fun i c h => by simp at h⟩
theorem EnvR.cons {c : Cell} {x : Option V} (h : EnvR K ρ σ B) (hx : CellR K B c (some x)) : EnvR K (c :: ρ) (x :: σ) B := by
  refine ⟨by rw [List.length_cons, List.length_cons, h.len], fun i c' hc => ?_⟩
  cases i with
  | zero => simp at hc; subst hc; exact hx
  | succ i => simp at hc ⊢; exact h.at_ i c' hc
/-- behind the parameters nothing is known -/
def startC (n : Nat) (cs : List Cell) : List Cell := cs ++ List.replicate (n - cs.length) .unk
theorem envR_unk : ∀ n : Nat, EnvR K (List.replicate n .unk) (List.replicate n (none : Option V)) B
  | 0 => envR_nil
  | n + 1 => (envR_unk n).cons trivial
theorem envR_start {N : List Str} : ∀ {cs : List Cell} {vs : List V} (n : Nat), Paired (fun c v => CellR K B c (some (some v))) cs vs → EnvR K (cs ++ List.replicate n .unk) (vs.map some ++ List.replicate n none) B
  | _, _, n, .nil => envR_unk n
  | _, _, n, .cons r t => (envR_start (N := N) n t).cons r
theorem envR_start' {N : List Str} {cs : List Cell} {vs : List V} (h : Paired (fun c v => CellR K B c (some (some v))) cs vs) : EnvR K (startC N.length cs) (L2.start N vs) B := by
  have e : cs.length = vs.length := Paired.length h
  unfold startC L2.start
  rw [e]
  exact envR_start (N := N) _ h
theorem paired_vals : ∀ {vs : List V} {ds : List PyData}, RpAll K B vs ds → Paired (fun c v => CellR K B c (some (some v))) (ds.map Cell.val) vs
  | _, _, .nil => .nil
  | _, _, .cons r t => .cons ⟨_, rfl, r⟩ (paired_vals t)
end

/-! ### an expression gives data -/
section
variable (C : Ctx) (K : PySem.W.Frag)
def Ev (te : TE) (ρ : List Cell) (P : PyData → Prop) : Prop := ∀ σ B H, EnvR K ρ σ B → C.On B H → ∀ Q : VK, (∀ d v B' H', P d → Gr C B H B' H' → Rp K B' v d → Q v H') → te σ H Q
def EvT (tt : TT) (ρ : List Cell) (P : Bool → Prop) : Prop := ∀ σ B H, EnvR K ρ σ B → C.On B H → ∀ Q : Bool → Hp → Prop, (∀ b B' H', P b → Gr C B H B' H' → Q b H') → tt σ H Q
def EvA (ta : TA) (ρ : List Cell) (P : List PyData → Prop) : Prop := ∀ σ B H, EnvR K ρ σ B → C.On B H → ∀ Q : List V → Hp → Prop, (∀ ds vs B' H', P ds → Gr C B H B' H' → RpAll K B' vs ds → Q vs H') → ta σ H Q
def EvO (to : TO) (ρ : List Cell) (o : Option Int) : Prop := ∀ σ B H, EnvR K ρ σ B → C.On B H → ∀ Q : Option Int → Hp → Prop, (∀ B' H', Gr C B H B' H' → Q o H') → to σ H Q
/-- an operation on two data, a call on data -/
def Op2 (r : R2) (x y : PyData) (P : PyData → Prop) : Prop := ∀ B H v u, Rp K B v x → Rp K B u y → C.On B H → ∀ Q : VK, (∀ d w B' H', P d → Gr C B H B' H' → Rp K B' w d → Q w H') → r v u H Q
def OpN (r : List V → Hp → VK → Prop) (ds : List PyData) (P : PyData → Prop) : Prop := ∀ B H vs, RpAll K B vs ds → C.On B H → ∀ Q : VK, (∀ d w B' H', P d → Gr C B H B' H' → Rp K B' w d → Q w H') → r vs H Q
def OpM (r : V → List V → Hp → VK → Prop) (x : PyData) (ds : List PyData) (P : PyData → Prop) : Prop := ∀ B H v vs, Rp K B v x → RpAll K B vs ds → C.On B H → ∀ Q : VK, (∀ d w B' H', P d → Gr C B H B' H' → Rp K B' w d → Q w H') → r v vs H Q
end
section
variable {C : Ctx} {K : PySem.W.Frag} {ρ : List Cell} {ta tb te : TE} {t u : TT} {d x y z : PyData} {P P1 P2 P3 : PyData → Prop} {r : R2}
theorem Ev.imp (h : Ev C K te ρ P) (k : ∀ d, P d → P2 d) : Ev C K te ρ P2 := fun σ B H e o Q q => h σ B H e o Q fun d v B' H' p g r => q d v B' H' (k d p) g r
theorem Ev.is (h : Ev C K te ρ (Eq x)) (e : x = y) : Ev C K te ρ (Eq y) := e ▸ h
theorem EvT.is {a b : Bool} (h : EvT C K t ρ (Eq a)) (e : a = b) : EvT C K t ρ (Eq b) := e ▸ h
theorem EvT.imp {P P2 : Bool → Prop} (h : EvT C K t ρ P) (k : ∀ d, P d → P2 d) : EvT C K t ρ P2 := fun σ B H e o Q q => h σ B H e o Q fun d B' H' p g => q d B' H' (k d p) g
theorem ev_val {te : TE} (h : ∀ σ B H, EnvR K ρ σ B → C.On B H → ∃ v, Rp K B v d ∧ ∀ Q : VK, Q v H → te σ H Q) : Ev C K te ρ (Eq d) := fun σ B H e o Q q =>
  let ⟨v, r, k⟩ := h σ B H e o
  k Q (q d v B H rfl (Gr.refl o) r)
theorem ev_var {i : Nat} (h : ρ[i]? = some (.val d)) : Ev C K (tVar i) ρ (Eq d) := ev_val fun σ B H e o =>
  let ⟨v, h1, r⟩ := e.val h
  ⟨v, r, fun Q q => ⟨v, h1, q⟩⟩
theorem ev_c {v : V} (h : ∀ B, Rp K B v d) : Ev C K (tC v) ρ (Eq d) := ev_val fun σ B H e o => ⟨v, h B, fun Q q => q⟩
theorem ev_int {i : Int} : Ev C K (tC (.int i)) ρ (Eq (.int i)) := ev_c fun _ => .int i
theorem ev_str {x : Str} : Ev C K (tC (.str x)) ρ (Eq (.str x)) := ev_c fun _ => .str x
theorem ev_bl {b : Bool} : Ev C K (tC (.bl b)) ρ (Eq (.bool b)) := ev_c fun _ => .bl b
theorem ev_non : Ev C K (tC .non) ρ (Eq .none) := ev_c fun _ => .non
theorem ev_op' (ha : Ev C K ta ρ P1) (hb : ∀ x, P1 x → Ev C K tb ρ P2) (hr : ∀ x y, P1 x → P2 y → Op2 C K r x y P3) : Ev C K (tOp r ta tb) ρ P3 := fun σ B H e o Q q =>
  ha σ B H e o _ fun x v B1 H1 p1 g1 r1 => hb x p1 σ B1 H1 (e.mono g1.bb) g1.on _ fun y u B2 H2 p2 g2 r2 =>
    hr x y p1 p2 B2 H2 v u (r1.mono g2.bb) r2 g2.on Q fun d w B3 H3 p3 g3 r3 => q d w B3 H3 p3 ((g1.trans g2).trans g3) r3
theorem ev_op (ha : Ev C K ta ρ (Eq x)) (hb : Ev C K tb ρ (Eq y)) (hr : Op2 C K r x y P) : Ev C K (tOp r ta tb) ρ P :=
  ev_op' ha (fun _ e => hb) fun _ _ e1 e2 => by subst e1; subst e2; exact hr
theorem op_val {r : R2} (h : ∀ B H v u, Rp K B v x → Rp K B u y → C.On B H → ∃ w, Rp K B w z ∧ ∀ Q : VK, Q w H → r v u H Q) : Op2 C K r x y (Eq z) := fun B H v u r1 r2 o Q q =>
  let ⟨w, rw', k⟩ := h B H v u r1 r2 o
  k Q (q z w B H rfl (Gr.refl o) rw')
theorem ea_nil : EvA C K tNil ρ (Eq []) := fun σ B H e o Q q => q [] [] B H rfl (Gr.refl o) .nil
theorem ea_cons' {tr : TA} {PA PB : List PyData → Prop} (ha : Ev C K te ρ P) (hr : ∀ x, P x → EvA C K tr ρ PA) (k : ∀ x ds, P x → PA ds → PB (x :: ds)) : EvA C K (tCons te tr) ρ PB := fun σ B H e o Q q =>
  ha σ B H e o _ fun x v B1 H1 p1 g1 r1 => hr x p1 σ B1 H1 (e.mono g1.bb) g1.on _ fun ds vs B2 H2 p2 g2 r2 =>
    q (x :: ds) (v :: vs) B2 H2 (k x ds p1 p2) (g1.trans g2) (.cons (r1.mono g2.bb) r2)
theorem ea_cons {tr : TA} {ds : List PyData} (ha : Ev C K te ρ (Eq x)) (hr : EvA C K tr ρ (Eq ds)) : EvA C K (tCons te tr) ρ (Eq (x :: ds)) :=
  ea_cons' ha (fun _ _ => hr) fun _ _ e1 e2 => by subst e1; subst e2; rfl
theorem sz_ok {n : Nat} (h : n ≤ 100000) : n ≤ sizeLine := Evl.sz_of h
theorem ev_tup' {ta : TA} {PA : List PyData → Prop} (h : EvA C K ta ρ PA) (hl : ∀ ds, PA ds → ds.length ≤ 100000) (k : ∀ ds, PA ds → P (.tuple ds)) : Ev C K (tTup ta) ρ P := fun σ B H e o Q q =>
  h σ B H e o _ fun ds vs B1 H1 p1 g1 r1 => ⟨by rw [r1.length]; exact sz_ok (hl ds p1), fun p hp =>
    have g2 := Gr.new g1.on (.tup vs) hp
    q _ _ _ _ (k ds p1) (g1.trans g2) (.tup (SqT.of upd_same) (r1.mono g2.bb))⟩
theorem ev_tup {ta : TA} {ds : List PyData} (h : EvA C K ta ρ (Eq ds)) (hl : ds.length ≤ 100000 := by (first | decide | simp)) : Ev C K (tTup ta) ρ (Eq (.tuple ds)) :=
  ev_tup' h (fun _ e => e ▸ hl) fun _ e => e ▸ rfl
theorem ev_lst' {ta : TA} {PA : List PyData → Prop} (h : EvA C K ta ρ PA) (hl : ∀ ds, PA ds → ds.length ≤ 100000) (k : ∀ ds, PA ds → P (.list ds)) : Ev C K (tLst ta) ρ P := fun σ B H e o Q q =>
  h σ B H e o _ fun ds vs B1 H1 p1 g1 r1 => ⟨by rw [r1.length]; exact sz_ok (hl ds p1), fun p hp =>
    have g2 := Gr.new g1.on (.lst vs) hp
    q _ _ _ _ (k ds p1) (g1.trans g2) (.lst upd_same (r1.mono g2.bb))⟩
theorem ev_lst {ta : TA} {ds : List PyData} (h : EvA C K ta ρ (Eq ds)) (hl : ds.length ≤ 100000 := by (first | decide | simp)) : Ev C K (tLst ta) ρ (Eq (.list ds)) :=
  ev_lst' h (fun _ e => e ▸ hl) fun _ e => e ▸ rfl
theorem ev_cb' {r : List V → Hp → VK → Prop} {ta : TA} {PA : List PyData → Prop} (h : EvA C K ta ρ PA) (hr : ∀ ds, PA ds → OpN C K r ds P) : Ev C K (tCB r ta) ρ P := fun σ B H e o Q q =>
  h σ B H e o _ fun ds vs B1 H1 p1 g1 r1 => hr ds p1 B1 H1 vs r1 g1.on Q fun d w B2 H2 p2 g2 r2 => q d w B2 H2 p2 (g1.trans g2) r2
theorem ev_cb {r : List V → Hp → VK → Prop} {ta : TA} {ds : List PyData} (h : EvA C K ta ρ (Eq ds)) (hr : OpN C K r ds P) : Ev C K (tCB r ta) ρ P := ev_cb' h fun _ e => e ▸ hr

/-! ### tests -/
theorem et_test (h : Ev C K te ρ (fun d => ∃ b, d = .bool b ∧ P2 d)) {PB : Bool → Prop} (k : ∀ b, P2 (.bool b) → PB b) : EvT C K (tTest te) ρ PB := fun σ B H e o Q q =>
  h σ B H e o _ fun d v B1 H1 ⟨b, hb, p⟩ g r => by
    subst hb
    cases r
    exact ⟨b, rfl, q b B1 H1 (k b p) g⟩
theorem et_testD {b : Bool} (h : Ev C K te ρ (Eq (.bool b))) : EvT C K (tTest te) ρ (Eq b) := fun σ B H e o Q q =>
  h σ B H e o _ fun d v B1 H1 p g r => by
    subst p
    cases r
    exact ⟨b, rfl, q b B1 H1 rfl g⟩
theorem et_B {b : Bool} (h : Ev C K te ρ (Eq (.bool b))) : EvT C K (tB te) ρ (Eq b) := et_testD h
theorem et_andP {PA PB PC : Bool → Prop} (h1 : EvT C K t ρ PA) (h2 : PA true → EvT C K u ρ PB) (k1 : PA false → PC false) (k2 : ∀ b, PA true → PB b → PC b) : EvT C K (tAnd t u) ρ PC := fun σ B H e o Q q =>
  h1 σ B H e o _ fun a B1 H1 p g => by
    cases a with
    | true => exact h2 p σ B1 H1 (e.mono g.bb) g.on Q fun b B2 H2 pb g2 => q b B2 H2 (k2 b p pb) (g.trans g2)
    | false => exact q false B1 H1 (k1 p) g
theorem et_and {a b : Bool} (h1 : EvT C K t ρ (Eq a)) (h2 : a = true → EvT C K u ρ (Eq b)) : EvT C K (tAnd t u) ρ (Eq (a && b)) :=
  et_andP h1 h2 (fun e => by rw [e]; rfl) fun c e1 e2 => by rw [e1, ← e2]; rfl
theorem et_orP {PA PB PC : Bool → Prop} (h1 : EvT C K t ρ PA) (h2 : PA false → EvT C K u ρ PB) (k1 : PA true → PC true) (k2 : ∀ b, PA false → PB b → PC b) : EvT C K (tOr t u) ρ PC := fun σ B H e o Q q =>
  h1 σ B H e o _ fun a B1 H1 p g => by
    cases a with
    | false => exact h2 p σ B1 H1 (e.mono g.bb) g.on Q fun b B2 H2 pb g2 => q b B2 H2 (k2 b p pb) (g.trans g2)
    | true => exact q true B1 H1 (k1 p) g
theorem et_or {a b : Bool} (h1 : EvT C K t ρ (Eq a)) (h2 : a = false → EvT C K u ρ (Eq b)) : EvT C K (tOr t u) ρ (Eq (a || b)) :=
  et_orP h1 h2 (fun e => by rw [e]; rfl) fun c e1 e2 => by rw [e1, ← e2]; rfl
theorem et_not {a : Bool} (h1 : EvT C K t ρ (Eq a)) : EvT C K (tNot t) ρ (Eq (!a)) := fun σ B H e o Q q => h1 σ B H e o _ fun b B1 H1 p g => q (!b) B1 H1 (p ▸ rfl) g
theorem ev_andV {a : Bool} {b : Bool} (h1 : Ev C K ta ρ (Eq (.bool a))) (h2 : a = true → Ev C K tb ρ (Eq (.bool b))) : Ev C K (tAndV ta tb) ρ (Eq (.bool (a && b))) := fun σ B H e o Q q =>
  h1 σ B H e o _ fun d v B1 H1 p g r => by
    subst p
    cases r
    refine ⟨a, rfl, ?_⟩
    cases a with
    | true => exact h2 rfl σ B1 H1 (e.mono g.bb) g.on Q fun d w B2 H2 p2 g2 r2 => q d w B2 H2 (p2 ▸ rfl) (g.trans g2) r2
    | false => exact q _ _ B1 H1 rfl g (.bl false)
theorem ev_orV {a : Bool} {b : Bool} (h1 : Ev C K ta ρ (Eq (.bool a))) (h2 : a = false → Ev C K tb ρ (Eq (.bool b))) : Ev C K (tOrV ta tb) ρ (Eq (.bool (a || b))) := fun σ B H e o Q q =>
  h1 σ B H e o _ fun d v B1 H1 p g r => by
    subst p
    cases r
    refine ⟨a, rfl, ?_⟩
    cases a with
    | false => exact h2 rfl σ B1 H1 (e.mono g.bb) g.on Q fun d w B2 H2 p2 g2 r2 => q d w B2 H2 (p2 ▸ rfl) (g.trans g2) r2
    | true => exact q _ _ B1 H1 rfl g (.bl true)
theorem ev_notV {a : Bool} (h1 : Ev C K ta ρ (Eq (.bool a))) : Ev C K (tNotV ta) ρ (Eq (.bool (!a))) := fun σ B H e o Q q =>
  h1 σ B H e o _ fun d v B1 H1 p g r => by
    subst p
    cases r
    exact ⟨a, rfl, q _ _ B1 H1 rfl g (.bl (!a))⟩
/-- a chain a op b op' c, as a test or a value -/
theorem ev_chain {r r' : R2} {tc : TE} {w : PyData} {a b : Bool} (ha : Ev C K ta ρ (Eq x)) (hb : Ev C K tb ρ (Eq y)) (hr : Op2 C K r x y (Eq (.bool a))) (hc : a = true → Ev C K tc ρ (Eq w)) (hr' : a = true → Op2 C K r' y w (Eq (.bool b))) :
    Ev C K (tChain r r' ta tb tc) ρ (Eq (.bool (a && b))) := fun σ B H e o Q q =>
  ha σ B H e o _ fun x' v B1 H1 p1 g1 r1 => hb σ B1 H1 (e.mono g1.bb) g1.on _ fun y' u B2 H2 p2 g2 r2 => by
    subst p1 p2
    refine hr B2 H2 v u (r1.mono g2.bb) r2 g2.on _ fun d z B3 H3 p3 g3 r3 => ?_
    subst p3
    cases r3
    refine ⟨a, rfl, ?_⟩
    cases a with
    | false => exact q _ _ B3 H3 rfl ((g1.trans g2).trans g3) (.bl false)
    | true =>
      refine hc rfl σ B3 H3 (e.mono ((g1.trans g2).trans g3).bb) g3.on _ fun w' z B4 H4 p4 g4 r4 => ?_
      subst p4
      exact hr' rfl B4 H4 u z (r2.mono (g3.trans g4).bb) r4 g4.on Q fun d z B5 H5 p5 g5 r5 => q d z B5 H5 (p5 ▸ rfl) ((((g1.trans g2).trans g3).trans g4).trans g5) r5
end
end K92
end
section -- K92C
set_option maxRecDepth 100000
set_option maxHeartbeats 1000000
namespace K92
open PySem PySem.Spec PyProof.Rows L2
/-! ### states with objects that the run keeps to itself -/
inductive Oc where
  | lst (ds : List PyData)
  | dic (es : List (PyData × PyData))
  | ins (C dx : Addr) (fs : List (Str × Cell))
/-- the fields of an instance -/
def FsR (K : PySem.W.Frag) (B : Hp) (fs : List (Str × Cell)) (vs : List (Str × V)) : Prop := Paired (fun c f => c.1 = f.1 ∧ CellR K B c.2 (some (some f.2))) fs vs
theorem FsR.mono {K : PySem.W.Frag} {B B' : Hp} {fs : List (Str × Cell)} {vs : List (Str × V)} (h : FsR K B fs vs) (e : Ex B B') : FsR K B' fs vs := Paired.mono (fun _ _ ⟨h1, h2⟩ => ⟨h1, h2.mono e⟩) h
def OcR (K : PySem.W.Frag) (B H : Hp) (p : Addr) (c : Oc) : Prop := match c with
  | .lst ds => ∃ vs, H p = some (.lst vs) ∧ RpAll K B vs ds
  | .dic es => ∃ kvs, H p = some (.dK kvs) ∧ RpKs K B kvs es ∧ (kvs.map (·.1)).Nodup
  | .ins C dx fs => ∃ vs, H p = some (.ins C dx vs) ∧ FsR K B fs vs
abbrev S : Type := List Cell × List (Addr × Oc)
structure SR (C : Ctx) (K : PySem.W.Frag) (B0 H0 : Hp) (s : S) (σ : L2.St) (B H : Hp) : Prop where
  g : Gr C B0 H0 B H
  env : EnvR K s.1 σ B
  own : ∀ c ∈ s.2, H0 c.1 = none ∧ B c.1 = none ∧ OcR K B H c.1 c.2
  nd : (s.2.map (·.1)).Nodup
section
variable {C : Ctx} {K : PySem.W.Frag} {B0 H0 B H B' H' : Hp} {s : S} {σ : L2.St} {p : Addr}
theorem OcR.there {c : Oc} (h : OcR K B H p c) : ∃ x, H p = some x := by
  cases c with
  | lst ds => obtain ⟨vs, h, _⟩ := h; exact ⟨_, h⟩
  | dic es => obtain ⟨vs, h, _⟩ := h; exact ⟨_, h⟩
  | ins C dx fs => obtain ⟨vs, h, _⟩ := h; exact ⟨_, h⟩
theorem OcR.step {c : Oc} (h : OcR K B H p c) (e : Ex B B') (k : ∀ x, H p = some x → H' p = some x) : OcR K B' H' p c := by
  cases c with
  | lst ds => obtain ⟨vs, h, r⟩ := h; exact ⟨vs, k _ h, r.mono e⟩
  | dic es => obtain ⟨vs, h, r, nd⟩ := h; exact ⟨vs, k _ h, r.mono e, nd⟩
  | ins C dx fs => obtain ⟨vs, h, r⟩ := h; exact ⟨vs, k _ h, r.mono e⟩
theorem SR.step (x : SR C K B0 H0 s σ B H) (g : Gr C B H B' H') : SR C K B0 H0 s σ B' H' :=
  ⟨x.g.trans g, x.env.mono g.bb, fun c hc => by
    obtain ⟨h1, h2, h3⟩ := x.own c hc
    have nm : ¬ C.M c.1 := Gr.notM x.g.on0 h1
    obtain ⟨y, hy⟩ := h3.there
    exact ⟨h1, (g.own _ _ nm h2 hy).1, h3.step g.bb fun z hz => (g.own _ _ nm h2 hz).2⟩, x.nd⟩
theorem SR.envOf {ρ' : List Cell} {σ' : L2.St} (x : SR C K B0 H0 s σ B H) (e : EnvR K ρ' σ' B) : SR C K B0 H0 (ρ', s.2) σ' B H := ⟨x.g, e, x.own, x.nd⟩
/-- a new object kept -/
theorem SR.new {c : Oc} {o : HO} (x : SR C K B0 H0 s σ B H) (hp : H p = none) (r : OcR K B (upd H p o) p c) : SR C K B0 H0 (s.1, (p, c) :: s.2) σ B (upd H p o) := by
  have h0 : H0 p = none := by
    cases q : H0 p with
    | none => rfl
    | some y =>
      cases qb : B0 p with
      | some z => exact absurd (x.g.on.ex p _ (x.g.bb p _ qb)) (by rw [hp]; simp)
      | none =>
        by_cases m : C.M p
        · exact absurd hp (C.thr x.g.on.w m)
        · exact absurd (x.g.own p y m qb q).2 (by rw [hp]; simp)
  refine ⟨x.g.trans (Gr.newO x.g.on o hp), x.env, fun c' hc => ?_, ?_⟩
  · rcases List.mem_cons.mp hc with e | hc
    · subst e
      exact ⟨h0, x.g.on.ex.none hp, r⟩
    · obtain ⟨h1, h2, h3⟩ := x.own c' hc
      obtain ⟨y, hy⟩ := h3.there
      exact ⟨h1, h2, h3.step (Ex.refl B) fun z hz => by rw [upd_ne (ne_of_none hz hp)]; exact hz⟩
  · refine List.nodup_cons.mpr ⟨fun m => ?_, x.nd⟩
    obtain ⟨c', hc, e⟩ := List.mem_map.mp m
    obtain ⟨y, hy⟩ := (x.own c' hc).2.2.there
    rw [e, hp] at hy
    cases hy
/-- a kept object changed -/
theorem SR.mut {k : Nat} {c c' : Oc} {o : HO} (x : SR C K B0 H0 s σ B H) (hk : s.2[k]? = some (p, c)) (r : OcR K B (upd H p o) p c') : SR C K B0 H0 (s.1, s.2.set k (p, c')) σ B (upd H p o) := by
  have hm := List.mem_of_getElem? hk
  obtain ⟨h1, h2, h3⟩ := x.own _ hm
  refine ⟨x.g.mut o h1 h2, x.env, fun c2 hc => ?_, ?_⟩
  · obtain ⟨j, hj, e⟩ := List.mem_iff_getElem.mp hc
    have e' : (s.2.set k (p, c'))[j]? = some c2 := by rw [List.getElem?_eq_getElem hj, e]
    by_cases z : k = j
    · subst z
      rw [List.getElem?_set_self (List.getElem?_eq_some_iff.mp hk).1] at e'
      cases e'
      exact ⟨h1, h2, r⟩
    · rw [List.getElem?_set_ne z] at e'
      obtain ⟨g1, g2, g3⟩ := x.own c2 (List.mem_of_getElem? e')
      refine ⟨g1, g2, g3.step (Ex.refl B) fun y hy => ?_⟩
      have ne : c2.1 ≠ p := fun q => by
        have a1 : (s.2.map (·.1))[k]? = some p := by rw [List.getElem?_map, hk]; rfl
        have a2 : (s.2.map (·.1))[j]? = some p := by rw [List.getElem?_map, e']; exact congrArg some q
        exact z (nd_ix x.nd a1 a2)
      rw [upd_ne ne]
      exact hy
  · have e : (s.2.set k (p, c')).map (·.1) = s.2.map (·.1) := by
      rw [List.map_set]
      apply List.ext_getElem?
      intro j
      by_cases z : k = j
      · subst z
        have hl := (List.getElem?_eq_some_iff.mp hk).1
        rw [List.getElem?_set_self (by rw [List.length_map]; exact hl), List.getElem?_map, hk]
        rfl
      · rw [List.getElem?_set_ne z]
    show ((s.2.set k (p, c')).map (·.1)).Nodup
    rw [e]
    exact x.nd
end

/-! ### statements -/
def Tr (C : Ctx) (K : PySem.W.Frag) (t : TS) (s : S) (N : S → Prop) (R : PyData → Prop) : Prop :=
  ∀ B0 H0 D σ B H, SR C K B0 H0 s σ B H → (∀ s' σ' B' H', N s' → Ex B B' → SR C K B0 H0 s' σ' B' H' → D.nx σ' H') → (∀ d v B' H', R d → Gr C B0 H0 B' H' → Rp K B' v d → D.rt v H') → t D σ H
section
variable {C : Ctx} {K : PySem.W.Frag} {s : S} {N N1 : S → Prop} {R P : PyData → Prop} {t u tz t1 t2 : TS} {te ty tv : TE} {c : TT} {i k : Nat} {d : PyData} {p : Addr} {ds : List PyData}
theorem tr_seq (h : Tr C K t s N1 R) (k : ∀ s', N1 s' → Tr C K u s' N R) : Tr C K (tSeq t u) s N R := fun B0 H0 D σ B H x n r =>
  h B0 H0 { D with nx := u D } σ B H x (fun s' σ' B' H' p e x' => k s' p B0 H0 D σ' B' H' x' (fun s2 σ2 B2 H2 p2 e2 x2 => n s2 σ2 B2 H2 p2 (e.trans e2) x2) r) r
theorem Tr.imp {N' : S → Prop} (h : Tr C K t s N R) (k : ∀ s', N s' → N' s') : Tr C K t s N' R := fun B0 H0 D σ B H x n r => h B0 H0 D σ B H x (fun s' σ' B' H' p e x' => n s' σ' B' H' (k s' p) e x') r
theorem Tr.impR {R' : PyData → Prop} (h : Tr C K t s N R) (k : ∀ d, R d → R' d) : Tr C K t s N R' := fun B0 H0 D σ B H x n r => h B0 H0 D σ B H x n fun d v B' H' p g r' => r d v B' H' (k d p) g r'
theorem tr_next (h : N s) : Tr C K tNext s N R := fun B0 H0 D σ B H x n r => n s σ B H h (Ex.refl B) x
theorem tr_never : Tr C K tNever s N R → True := fun _ => trivial
theorem tr_ret (h : Ev C K te s.1 R) : Tr C K (tRet te) s N R := fun B0 H0 D σ B H x n r =>
  h σ B H x.env x.g.on _ fun d v B' H' p g r' => r d v B' H' p (x.g.trans g) r'
theorem tr_retN (h : R .none) : Tr C K tRetN s N R := fun B0 H0 D σ B H x n r => r .none .non B H h x.g .non
/-- the kept list, the kept dict handed back -/
theorem tr_retL (hi : s.1[i]? = some (.ref p)) (hk : s.2[k]? = some (p, .lst ds)) (h : R (.list ds)) : Tr C K (tRet (tVar i)) s N R := fun B0 H0 D σ B H x n r => by
  obtain ⟨h1, h2, vs, h3, h4⟩ := x.own _ (List.mem_of_getElem? hk)
  exact ⟨.ref p, x.env.ref hi, r _ _ _ _ h (x.g.fz h1 h3) (.lst upd_same (h4.mono (Ex.new h2)))⟩
theorem tr_retK {es : List (PyData × PyData)} (hi : s.1[i]? = some (.ref p)) (hk : s.2[k]? = some (p, .dic es)) (h : R (.dict es)) : Tr C K (tRet (tVar i)) s N R := fun B0 H0 D σ B H x n r => by
  obtain ⟨h1, h2, vs, h3, h4, _⟩ := x.own _ (List.mem_of_getElem? hk)
  exact ⟨.ref p, x.env.ref hi, r _ _ _ _ h (x.g.fz h1 h3) (.dic upd_same (h4.mono (Ex.new h2)))⟩
theorem tr_asg' (h : Ev C K te s.1 P) (hn : ∀ d, P d → N (s.1.set i (.val d), s.2)) : Tr C K (tAsg te (gName i)) s N R := fun B0 H0 D σ B H x n r =>
  h σ B H x.env x.g.on _ fun d v B' H' p g r' => n _ _ B' H' (hn d p) g.bb ((x.step g).envOf ((x.env.mono g.bb).setV r'))
theorem q_asg' (h : Ev C K te s.1 P) (k : ∀ d, P d → Tr C K tz (s.1.set i (.val d), s.2) N R) : Tr C K (tSeq (tAsg te (gName i)) tz) s N R :=
  tr_seq (N1 := fun s' => ∃ d, P d ∧ s' = (s.1.set i (.val d), s.2)) (tr_asg' h fun d p => ⟨d, p, rfl⟩) fun s' ⟨d, p, e⟩ => by subst e; exact k d p
theorem q_asg (h : Ev C K te s.1 (Eq d)) (k : Tr C K tz (s.1.set i (.val d), s.2) N R) : Tr C K (tSeq (tAsg te (gName i)) tz) s N R := q_asg' h fun _ e => e ▸ k
theorem tr_drop (h : Ev C K te s.1 P) (hn : N s) : Tr C K (tDrop te) s N R := fun B0 H0 D σ B H x n r =>
  h σ B H x.env x.g.on _ fun d v B' H' p g r' => n s σ B' H' hn g.bb (x.step g)
theorem q_drop (h : Ev C K te s.1 P) (k : Tr C K tz s N R) : Tr C K (tSeq (tDrop te) tz) s N R := tr_seq (N1 := Eq s) (tr_drop h rfl) fun _ e => e ▸ k
theorem tr_if' {PB : Bool → Prop} (h : EvT C K c s.1 PB) (h1 : PB true → Tr C K t1 s N R) (h2 : PB false → Tr C K t2 s N R) : Tr C K (tIfS c t1 t2) s N R := fun B0 H0 D σ B H x n r =>
  h σ B H x.env x.g.on _ fun b B' H' p g => by
    have y := x.step g
    cases b with
    | true => exact h1 p B0 H0 D σ B' H' y (fun s' σ' B2 H2 p2 e2 x2 => n s' σ' B2 H2 p2 (g.bb.trans e2) x2) r
    | false => exact h2 p B0 H0 D σ B' H' y (fun s' σ' B2 H2 p2 e2 x2 => n s' σ' B2 H2 p2 (g.bb.trans e2) x2) r
theorem tr_if {b : Bool} (h : EvT C K c s.1 (Eq b)) (h1 : b = true → Tr C K t1 s N R) (h2 : b = false → Tr C K t2 s N R) : Tr C K (tIfS c t1 t2) s N R := tr_if' h h1 h2
/-- if c: (something that returns); the rest -/
theorem q_ret {b : Bool} (h : EvT C K c s.1 (Eq b)) (h1 : b = true → Tr C K t1 s (fun _ => False) R) (h2 : b = false → Tr C K tz s N R) : Tr C K (tSeq (tIfS c t1 tNext) tz) s N R :=
  tr_seq (N1 := fun s' => s' = s ∧ b = false) (tr_if h (fun e => (h1 e).imp fun _ f => f.elim) fun e => tr_next ⟨rfl, e⟩) fun s' ⟨e1, e2⟩ => by subst e1; exact h2 e2
theorem q_ret' {PB : Bool → Prop} (h : EvT C K c s.1 PB) (h1 : PB true → Tr C K t1 s (fun _ => False) R) (h2 : PB false → Tr C K tz s N R) : Tr C K (tSeq (tIfS c t1 tNext) tz) s N R :=
  tr_seq (N1 := fun s' => s' = s ∧ PB false) (tr_if' h (fun e => (h1 e).imp fun _ f => f.elim) fun e => tr_next ⟨rfl, e⟩) fun s' ⟨e1, e2⟩ => by subst e1; exact h2 e2
theorem tr_newL (hn : ∀ p, N (s.1.set i (.ref p), (p, .lst []) :: s.2)) : Tr C K (tAsg (tLst tNil) (gName i)) s N R := fun B0 H0 D σ B H x n r =>
  ⟨Nat.zero_le _, fun p hp => n _ _ B _ (hn p) (Ex.refl B) ((x.new (c := .lst []) (o := .lst []) hp ⟨[], upd_same, .nil⟩).envOf x.env.setR)⟩
theorem q_newL (k : ∀ p, Tr C K tz (s.1.set i (.ref p), (p, .lst []) :: s.2) N R) : Tr C K (tSeq (tAsg (tLst tNil) (gName i)) tz) s N R :=
  tr_seq (N1 := fun s' => ∃ p, s' = (s.1.set i (.ref p), (p, .lst []) :: s.2)) (tr_newL fun p => ⟨p, rfl⟩) fun s' ⟨p, e⟩ => by subst e; exact k p
theorem tr_newD (hn : ∀ p, N (s.1.set i (.ref p), (p, .dic []) :: s.2)) : Tr C K (tAsg tDNewK (gName i)) s N R := fun B0 H0 D σ B H x n r => fun p hp =>
  n _ _ B _ (hn p) (Ex.refl B) ((x.new (c := .dic []) (o := .dK []) hp ⟨[], upd_same, .nil, List.nodup_nil⟩).envOf x.env.setR)
theorem q_newD (k : ∀ p, Tr C K tz (s.1.set i (.ref p), (p, .dic []) :: s.2) N R) : Tr C K (tSeq (tAsg tDNewK (gName i)) tz) s N R :=
  tr_seq (N1 := fun s' => ∃ p, s' = (s.1.set i (.ref p), (p, .dic []) :: s.2)) (tr_newD fun p => ⟨p, rfl⟩) fun s' ⟨p, e⟩ => by subst e; exact k p
/-- found.append(e) -/
theorem tr_app' (hi : s.1[i]? = some (.ref p)) (hk : s.2[k]? = some (p, .lst ds)) (hl : ds.length < 100000) (h : Ev C K te s.1 P) (hn : ∀ d, P d → N (s.1, s.2.set k (p, .lst (ds ++ [d])))) :
    Tr C K (tDrop (tBM K "list" rAppend (tVar i) (tCons te tNil))) s N R := fun B0 H0 D σ B H x n r => by
  obtain ⟨h1, h2, vs, h3, h4⟩ := x.own _ (List.mem_of_getElem? hk)
  refine ⟨.ref p, x.env.ref hi, Or.inl ⟨rfl, vs, SqL.of h3⟩, h σ B H x.env x.g.on _ fun d v B' H' q g r' => ?_⟩
  have y := x.step g
  obtain ⟨g1, g2, ws, g3, g4⟩ := y.own _ (List.mem_of_getElem? hk)
  refine ⟨p, ws, v, rfl, rfl, g3, by rw [g4.length]; exact Evl.sz_lt hl, n _ σ B' _ (hn d q) g.bb (y.mut hk ⟨_, upd_same, g4.snoc r'⟩)⟩
theorem tr_app (hi : s.1[i]? = some (.ref p)) (hk : s.2[k]? = some (p, .lst ds)) (hl : ds.length < 100000) (h : Ev C K te s.1 (Eq d)) (hn : N (s.1, s.2.set k (p, .lst (ds ++ [d])))) :
    Tr C K (tDrop (tBM K "list" rAppend (tVar i) (tCons te tNil))) s N R := tr_app' hi hk hl h fun _ e => e ▸ hn
end

/-! ### dicts with texts as keys -/
def putE (es : List (PyData × PyData)) (k : Str) (d : PyData) : List (PyData × PyData) := match es with
  | [] => [(.str k, d)]
  | (.str j, e) :: r => if j = k then (.str j, d) :: r else (.str j, e) :: putE r k d
  | e :: r => e :: putE r k d
def getE (es : List (PyData × PyData)) (k : Str) : Option PyData := match es with
  | [] => none
  | (.str j, e) :: r => if j = k then some e else getE r k
  | _ :: r => getE r k
theorem putK_cons_eq {k : Str} {v x : V} {r : List (Key × V)} (hn : ∀ p ∈ r, p.1 ≠ Sum.inr k) : putK ((Sum.inr k, x) :: r) (Sum.inr k) v = (Sum.inr k, v) :: r := by
  unfold putK
  have e1 : (((Sum.inr k, x) :: r : List (Key × V)).any fun kv => decide (kv.1 = Sum.inr k)) = true := by simp
  rw [if_pos e1]
  rw [List.map_cons, if_pos rfl]
  congr 1
  rw [List.map_congr_left (g := id) fun p hp => by rw [if_neg (hn p hp)]; rfl, List.map_id]
theorem putK_cons_ne {k j : Str} {v x : V} {r : List (Key × V)} (h : j ≠ k) : putK ((Sum.inr j, x) :: r) (Sum.inr k) v = (Sum.inr j, x) :: putK r (Sum.inr k) v := by
  have hne : ¬ (Sum.inr j : Key) = Sum.inr k := fun e => h (Sum.inr.inj e)
  unfold putK
  have e1 : (((Sum.inr j, x) :: r : List (Key × V)).any fun kv => decide (kv.1 = Sum.inr k)) = r.any fun kv => decide (kv.1 = Sum.inr k) := by
    rw [List.any_cons, decide_eq_false hne, Bool.false_or]
  rw [e1]
  by_cases q : (r.any fun kv => decide (kv.1 = Sum.inr k)) = true
  · rw [if_pos q, if_pos q, List.map_cons, if_neg hne]
  · rw [if_neg q, if_neg q]; rfl
section
variable {K : PySem.W.Frag} {B : Hp}
theorem RpKs.keys : ∀ {kvs : List (Key × V)} {es : List (PyData × PyData)}, RpKs K B kvs es → ∃ ks : List Str, kvs.map (·.1) = ks.map Sum.inr ∧ es.map (·.1) = ks.map PyData.str
  | _, _, .nil => ⟨[], rfl, rfl⟩
  | _, _, .cons (k := k) _ t => by
    obtain ⟨ks, h1, h2⟩ := RpKs.keys t
    exact ⟨k :: ks, by rw [List.map_cons, List.map_cons, h1], by rw [List.map_cons, List.map_cons, h2]⟩
theorem RpKs.put {k : Str} {v : V} {d : PyData} (r : Rp K B v d) : ∀ {kvs : List (Key × V)} {es : List (PyData × PyData)}, RpKs K B kvs es → (kvs.map (·.1)).Nodup → RpKs K B (putK kvs (Sum.inr k) v) (putE es k d)
  | _, _, .nil, _ => .cons r .nil
  | _, _, .cons (k := j) (v := x) (kvs := kr) (d := e) (es := er) h t, nd => by
    have nd' : (Sum.inr j :: kr.map (·.1)).Nodup := nd
    obtain ⟨n1, n2⟩ := List.nodup_cons.mp nd'
    by_cases q : j = k
    · subst q
      rw [putK_cons_eq fun p hp e => n1 (e ▸ List.mem_map_of_mem hp)]
      show RpKs K B _ (if j = j then _ else _)
      rw [if_pos rfl]
      exact .cons r t
    · rw [putK_cons_ne q]
      show RpKs K B _ (if j = k then _ else _)
      rw [if_neg q]
      exact .cons h (RpKs.put r t n2)
theorem RpKs.length : ∀ {kvs : List (Key × V)} {es : List (PyData × PyData)}, RpKs K B kvs es → kvs.length = es.length
  | _, _, .nil => rfl
  | _, _, .cons _ t => by rw [List.length_cons, List.length_cons, t.length]
theorem RpKs.get {k : Str} : ∀ {kvs : List (Key × V)} {es : List (PyData × PyData)}, RpKs K B kvs es → (match getE es k with
    | some d => ∃ v, valV kvs (Sum.inr k) = some v ∧ Rp K B v d
    | none => valV kvs (Sum.inr k) = none)
  | _, _, .nil => rfl
  | _, _, .cons (k := j) (v := x) (kvs := kr) (d := e) (es := er) h t => by
    by_cases q : j = k
    · subst q
      show (match (if j = j then some e else getE er j) with
        | some d => ∃ v, valV ((Sum.inr j, x) :: kr) (Sum.inr j) = some v ∧ Rp K B v d
        | none => valV ((Sum.inr j, x) :: kr) (Sum.inr j) = none)
      rw [if_pos rfl]
      exact ⟨x, valV_pos rfl, h⟩
    · show (match (if j = k then some e else getE er k) with
        | some d => ∃ v, valV ((Sum.inr j, x) :: kr) (Sum.inr k) = some v ∧ Rp K B v d
        | none => valV ((Sum.inr j, x) :: kr) (Sum.inr k) = none)
      rw [if_neg q]
      have e : valV ((Sum.inr j, x) :: kr) (Sum.inr k) = valV kr (Sum.inr k) := valV_neg fun z => q (Sum.inr.inj z)
      rw [e]
      exact RpKs.get t
theorem RpKs.get1 {k : Str} {kvs : List (Key × V)} {es : List (PyData × PyData)} {d : PyData} (h : RpKs K B kvs es) (e : getE es k = some d) : ∃ v, valV kvs (Sum.inr k) = some v ∧ Rp K B v d := by
  have q := h.get (k := k)
  rw [e] at q
  exact q
theorem RpKs.get0 {k : Str} {kvs : List (Key × V)} {es : List (PyData × PyData)} (h : RpKs K B kvs es) (e : getE es k = none) : valV kvs (Sum.inr k) = none := by
  have q := h.get (k := k)
  rw [e] at q
  exact q
end
end K92
end
section -- K92D
set_option maxRecDepth 100000
set_option maxHeartbeats 1000000
namespace K92
open PySem PySem.Spec PyProof.Rows L2
/-! ### targets -/
/-- the slots but those at is stand as they stood -/
def Sets (is : List Nat) (σ σ' : L2.St) : Prop := σ'.length = σ.length ∧ ∀ j : Nat, j ∉ is → σ'[j]? = σ[j]?
theorem Sets.set {is : List Nat} {σ : L2.St} {i : Nat} {x : Option V} (h : i ∈ is) : Sets is σ (σ.set i x) :=
  ⟨List.length_set .., fun j hj => List.getElem?_set_ne (fun e : i = j => hj (by rw [← e]; exact h))⟩
theorem Sets.trans {is : List Nat} {σ σ1 σ2 : L2.St} (a : Sets is σ σ1) (b : Sets is σ1 σ2) : Sets is σ σ2 := ⟨b.1.trans a.1, fun j hj => (b.2 j hj).trans (a.2 j hj)⟩
theorem wipe_in {σ : L2.St} {i : Nat} : ∀ {vs : List Nat}, i ∈ vs → i < σ.length → (L2.wipe σ vs)[i]? = some none
  | [], h, _ => by cases h
  | v :: vs, h, hl => by
    unfold L2.wipe
    by_cases e : v = i
    · subst e
      rw [List.getElem?_set_self (by rw [wipe_length]; exact hl)]
    · rw [List.getElem?_set_ne e]
      exact wipe_in ((List.mem_cons.mp h).resolve_left fun z => e z.symm) hl
theorem Sets.wipe {σ σ' : L2.St} {vs : List Nat} (h : Sets vs (L2.wipe σ vs) σ') : L2.wipe σ' vs = L2.wipe σ vs := by
  have hl : σ'.length = σ.length := h.1.trans (wipe_length σ vs)
  apply List.ext_getElem?
  intro j
  by_cases hj : j ∈ vs
  · by_cases hlt : j < σ.length
    · rw [wipe_in hj (by rw [hl]; exact hlt), wipe_in hj hlt]
    · rw [List.getElem?_eq_none (by rw [wipe_length, hl]; omega), List.getElem?_eq_none (by rw [wipe_length]; omega)]
  · rw [wipe_out hj]
    exact h.2 j hj
def Tg (K : PySem.W.Frag) (g : TG) (is : List Nat) (ρ : List Cell) (d : PyData) (ρ' : List Cell) : Prop :=
  ∀ σ B H v, EnvR K ρ σ B → Ex B H → Rp K B v d → ∀ Q : L2.St → Hp → Prop, (∀ σ', EnvR K ρ' σ' B → Sets is σ σ' → Q σ' H) → g v σ H Q
def Tgs (K : PySem.W.Frag) (g : TGs) (is : List Nat) (ρ : List Cell) (ds : List PyData) (ρ' : List Cell) : Prop :=
  ∀ σ B H vs, EnvR K ρ σ B → Ex B H → RpAll K B vs ds → ∀ Q : L2.St → Hp → Prop, (∀ σ', EnvR K ρ' σ' B → Sets is σ σ' → Q σ' H) → g vs σ H Q
section
variable {K : PySem.W.Frag} {is : List Nat} {ρ ρ1 ρ2 : List Cell} {d : PyData} {ds : List PyData} {g : TG} {t : TGs} {i n : Nat}
theorem tg_name (h : i ∈ is) : Tg K (gName i) is ρ d (ρ.set i (.val d)) := fun σ B H v e _ r Q q => q _ (e.setV r) (Sets.set h)
theorem tgs_nil : Tgs K gNil is ρ [] ρ := fun σ B H vs e _ r Q q => by
  cases r
  exact ⟨rfl, q σ e ⟨rfl, fun _ _ => rfl⟩⟩
theorem tgs_cons (h1 : Tg K g is ρ d ρ1) (h2 : Tgs K t is ρ1 ds ρ2) : Tgs K (gCons g t) is ρ (d :: ds) ρ2 := fun σ B H vs e x r Q q => by
  cases r with
  | cons r1 r2 => exact ⟨_, _, rfl, h1 σ B H _ e x r1 _ fun σ1 e1 s1 => h2 σ1 B H _ e1 x r2 Q fun σ2 e2 s2 => q σ2 e2 (s1.trans s2)⟩
theorem tg_tup (h : Tgs K t is ρ ds ρ2) (hn : ds.length = n) : Tg K (gTup K n t) is ρ (.tuple ds) ρ2 := fun σ B H v e x r Q q => by
  cases r with
  | tup hs ha => exact ⟨_, _, rfl, Evl.ex_t x hs, by rw [ha.length]; exact hn, h σ B H _ e x ha Q q⟩
end
/-! ### what is walked -/
/-- the iterator gives the data ds one by one -/
structure Wk (C : Ctx) (K : PySem.W.Frag) (J : It) (B : Hp) (ds : List PyData) : Prop where
  go : ∀ i B' H, i < ds.length → Ex B B' → C.On B' H → J.go i H
  stop : ∀ B' H, Ex B B' → C.On B' H → J.stop ds.length H
  yld : ∀ i B' H x H', i < ds.length → Ex B B' → C.On B' H → J.yld i H x H' → ∃ d B2, ds[i]? = some d ∧ Gr C B' H B2 H' ∧ Rp K B2 x d
def EvI (C : Ctx) (K : PySem.W.Frag) (wi : TI) (ρ : List Cell) (P : List PyData → Prop) : Prop :=
  ∀ σ B H, EnvR K ρ σ B → C.On B H → ∀ R : It → Hp → Prop, (∀ ds J B' H', P ds → Gr C B H B' H' → Wk C K J B' ds → R J H') → wi σ H R
section
variable {C : Ctx} {K : PySem.W.Frag} {ρ : List Cell} {te : TE} {ta : TA} {P : PyData → Prop} {ds : List PyData} {J : It} {B : Hp} {tt : TT} {g : TG} {wi : TI} {vs : List Nat}
theorem Wk.walk (w : Wk C K J B ds) : Walk J ds.length (fun H => ∃ B', Ex B B' ∧ C.On B' H) (fun i H x H' => ∀ B', Ex B B' → C.On B' H → ∃ d B2, ds[i]? = some d ∧ Gr C B' H B2 H' ∧ Rp K B2 x d) :=
  ⟨fun i H hi ⟨B', e, o⟩ => w.go i B' H hi e o, fun H ⟨B', e, o⟩ => w.stop B' H e o, fun i H x H' hi _ y B' e o => w.yld i B' H x H' hi e o y⟩
theorem wk_list {a : Addr} {xs : List V} (h : B a = some (.lst xs)) (r : RpAll K B xs ds) : Wk C K (Itl K a) B ds :=
  ⟨fun i B' H hi e o => ⟨xs, xs[i]'(by rw [r.length]; exact hi), SqL.of (o.ex _ _ (e _ _ h)), by simp [r.length, hi]⟩, fun B' H e o => ⟨xs, SqL.of (o.ex _ _ (e _ _ h)), by rw [r.length]; exact Nat.le_refl _⟩,
    fun i B' H x H' hi e o y => by
      obtain ⟨rfl, y⟩ := y
      obtain ⟨d, h1, h2⟩ := r.get' (y xs (SqL.of (o.ex _ _ (e _ _ h))))
      exact ⟨d, B', h1, Gr.refl o, h2.mono e⟩⟩
theorem wk_tup {a : Addr} {xs : List V} (h : SqT K B a xs) (r : RpAll K B xs ds) : Wk C K (Itt K a) B ds :=
  ⟨fun i B' H hi e o => ⟨xs, xs[i]'(by rw [r.length]; exact hi), Evl.ex_t (e.trans o.ex) h, by simp [r.length, hi]⟩, fun B' H e o => ⟨xs, Evl.ex_t (e.trans o.ex) h, by rw [r.length]; exact Nat.le_refl _⟩,
    fun i B' H x H' hi e o y => by
      obtain ⟨rfl, y⟩ := y
      obtain ⟨d, h1, h2⟩ := r.get' (y xs (Evl.ex_t (e.trans o.ex) h))
      exact ⟨d, B', h1, Gr.refl o, h2.mono e⟩⟩
theorem wk_str {z : Str} : Wk C K (Its z) B (z.cps.toList.map fun c => .str ⟨#[c]⟩) :=
  ⟨fun i B' H hi e o => by simpa [Its] using hi, fun B' H e o => by show z.cps.size ≤ _; simp, fun i B' H x H' hi e o y => by
    obtain ⟨rfl, c, h1, rfl⟩ := y
    exact ⟨_, B', by rw [List.getElem?_map, Array.getElem?_toList, h1]; rfl, Gr.refl o, .str _⟩⟩
theorem wk_range {lo : Int} {n : Nat} : Wk C K (Itr lo n) B ((List.range n).map fun i => .int (lo + (i : Nat))) :=
  ⟨fun i B' H hi e o => by simpa [Itr] using hi, fun B' H e o => by show n ≤ _; simp, fun i B' H x H' hi e o y => by
    obtain ⟨rfl, rfl⟩ := y
    have hi' : i < n := by simpa using hi
    exact ⟨_, B', by rw [List.getElem?_map, List.getElem?_range hi']; rfl, Gr.refl o, .int _⟩⟩
theorem ei_list' {PL : List PyData → Prop} (h : Ev C K te ρ (fun d => ∃ ds, d = .list ds ∧ PL ds)) : EvI C K (iList K te) ρ PL := fun σ B H e o R q =>
  h σ B H e o _ fun d v B1 H1 ⟨ds, hd, p⟩ g r => by
    subst hd
    cases r with
    | lst hs ha => exact ⟨_, rfl, ⟨_, SqL.of (g.on.ex _ _ hs)⟩, q ds _ B1 H1 p g (wk_list hs ha)⟩
theorem ei_list (h : Ev C K te ρ (Eq (.list ds))) : EvI C K (iList K te) ρ (Eq ds) := ei_list' (h.imp fun _ e => ⟨ds, e.symm, rfl⟩)
theorem ei_tup (h : Ev C K te ρ (Eq (.tuple ds))) : EvI C K (iTup K te) ρ (Eq ds) := fun σ B H e o R q =>
  h σ B H e o _ fun d v B1 H1 p g r => by
    subst p
    cases r with
    | tup hs ha => exact ⟨_, rfl, ⟨_, Evl.ex_t g.on.ex hs⟩, q _ _ B1 H1 rfl g (wk_tup hs ha)⟩
theorem ei_str {z : Str} (h : Ev C K te ρ (Eq (.str z))) : EvI C K (iStr te) ρ (Eq (z.cps.toList.map fun c => .str ⟨#[c]⟩)) := fun σ B H e o R q =>
  h σ B H e o _ fun d v B1 H1 p g r => by
    subst p
    cases r
    exact ⟨z, rfl, q _ _ B1 H1 rfl g wk_str⟩
theorem ei_range' {PA : List PyData → Prop} {PL : List PyData → Prop} (h : EvA C K ta ρ PA) (k : ∀ ds, PA ds → ∃ n : Int, ds = [.int n] ∧ -(2 ^ 62) ≤ n ∧ n < 2 ^ 62 ∧ PL ((List.range n.toNat).map fun i => .int (0 + (i : Nat)))) :
    EvI C K (iRng1 ta) ρ PL := fun σ B H e o R q =>
  h σ B H e o _ fun ds vs B1 H1 p g r => by
    obtain ⟨n, rfl, h1, h2, pl⟩ := k ds p
    cases r with
    | cons r1 r2 =>
      cases r2
      cases r1
      exact ⟨n, rfl, h1, h2, q _ _ B1 H1 pl g wk_range⟩

/-! ### loops -/
theorem tr_for' {s : S} {N : S → Prop} {R : PyData → Prop} {tb : TS} {is : List Nat} {PL : List PyData → Prop} (h : EvI C K wi s.1 PL) (I : List PyData → Nat → S → Prop) (h0 : ∀ ds, PL ds → I ds 0 s)
    (hs : ∀ ds j d s', PL ds → ds[j]? = some d → I ds j s' → ∃ ρ', Tg K g is s'.1 d ρ' ∧ Tr C K tb (ρ', s'.2) (I ds (j + 1)) R) (hd : ∀ ds s', PL ds → I ds ds.length s' → N s') : Tr C K (tFor wi g tb) s N R := fun B0 H0 D σ B H x n r =>
  h σ B H x.env x.g.on _ fun ds J B1 H1 pl g1 w => by
    refine for_it w.walk (fun i σ' H' => ∃ s' B', I ds i s' ∧ Ex B1 B' ∧ SR C K B0 H0 s' σ' B' H') ⟨s, B1, h0 ds pl, Ex.refl B1, x.step g1⟩ (fun i σ' H' _ ⟨s', B', _, e, x'⟩ => ⟨B', e, x'.g.on⟩) ?_ ?_
    · rintro i y σ' H2 H3 hi ⟨s', B', hI, e, x'⟩ hy
      obtain ⟨d, B3, hd', g3, r3⟩ := hy B' e x'.g.on
      obtain ⟨ρ', ht, hb⟩ := hs ds i d s' pl hd' hI
      have x3 := x'.step g3
      refine ht σ' B3 H3 y x3.env g3.on.ex r3 _ fun σ4 e4 s4 => ?_
      exact hb B0 H0 _ σ4 B3 H3 (x3.envOf e4) (fun s5 σ5 B5 H5 p5 e5 x5 => ⟨s5, B5, p5, (e.trans g3.bb).trans e5, x5⟩) r
    · rintro σ' H' ⟨s', B', hI, e, x'⟩
      exact n s' σ' B' H' (hd ds s' pl hI) (g1.bb.trans e) x'
theorem tr_for {s : S} {N : S → Prop} {R : PyData → Prop} {tb : TS} {is : List Nat} (h : EvI C K wi s.1 (Eq ds)) (I : Nat → S → Prop) (h0 : I 0 s)
    (hs : ∀ j d s', ds[j]? = some d → I j s' → ∃ ρ', Tg K g is s'.1 d ρ' ∧ Tr C K tb (ρ', s'.2) (I (j + 1)) R) (hd : ∀ s', I ds.length s' → N s') : Tr C K (tFor wi g tb) s N R :=
  tr_for' h (fun _ => I) (fun _ _ => h0) (fun ds' j d s' e => by subst e; exact hs j d s') fun ds' s' e => by subst e; exact hd s'

/-! ### comprehensions -/
theorem ev_lc' {PL : List PyData → Prop} (h : EvI C K wi ρ PL) (I : List PyData → Nat → List PyData → Prop) (hl : ∀ ds, PL ds → ds.length ≤ 100000) (h0 : ∀ ds, PL ds → I ds 0 [])
    (hs : ∀ ds j d acc, PL ds → ds[j]? = some d → I ds j acc → acc.length ≤ j → ∃ ρ' PT PE, Tg K g vs (wipeC ρ vs) d ρ' ∧ EvT C K tt ρ' PT ∧ (PT true → Ev C K te ρ' PE) ∧ (PT false → I ds (j + 1) acc) ∧ (PT true → ∀ e, PE e → I ds (j + 1) (acc ++ [e])))
    (hd : ∀ ds acc, PL ds → I ds ds.length acc → P (.list acc)) : Ev C K (tLc wi g tt te vs) ρ P := fun σ B H e o Q q =>
  h σ B H e o _ fun ds J B1 H1 pl g1 w => fun D hD => by
    have o1 := g1.on
    refine lc_it w.walk (fun i H' => ∃ B' acc xs, I ds i acc ∧ acc.length ≤ i ∧ Gr C B1 H1 B' H' ∧ B' D = none ∧ H' D = some (.lst xs) ∧ RpAll K B' xs acc) ⟨B1, [], [], h0 ds pl, Nat.le_refl _, Gr.newO o1 (.lst []) hD, o1.ex.none hD, upd_same, .nil⟩
      (fun i H' _ ⟨B', _, _, _, _, g', _⟩ => ⟨B', g'.bb, g'.on⟩) ?_ ?_
    · rintro i x H2 H3 hi ⟨B2, acc, xs, hI, hlen, g2, b2, h2, r2⟩ hy
      obtain ⟨d, B3, hd', g3, r3⟩ := hy B2 g2.bb g2.on
      obtain ⟨ρ', PT, PE, ht, hT, hE, hf, hk⟩ := hs ds i d acc pl hd' hI hlen
      have hM : ¬ C.M D := Gr.notM o1 hD
      have ew : EnvR K (wipeC ρ vs) (L2.wipe σ vs) B3 := (e.mono ((g1.bb.trans g2.bb).trans g3.bb)).wipe vs
      refine ht _ B3 H3 x ew g3.on.ex r3 _ fun σ4 e4 s4 => ⟨s4.wipe, ?_⟩
      refine hT σ4 B3 H3 e4 g3.on _ fun b B5 H5 pb g5 => ?_
      obtain ⟨b5, h5⟩ := (g3.trans g5).own D _ hM b2 h2
      cases b with
      | false =>
        exact ⟨B5, acc, xs, hf pb, Nat.le_succ_of_le hlen, (g2.trans g3).trans g5, b5, h5, r2.mono (g3.trans g5).bb⟩
      | true =>
        refine hE pb σ4 B5 H5 (e4.mono g5.bb) g5.on _ fun dv v B6 H6 p6 g6 r6 => ?_
        obtain ⟨b6, h6⟩ := g6.own D _ hM b5 h5
        have gg : Gr C B1 H1 B6 H6 := ((g2.trans g3).trans g5).trans g6
        refine ⟨xs, h6, ?_, B6, acc ++ [dv], xs ++ [v], hk pb dv p6, by rw [List.length_append, List.length_singleton]; omega, gg.mut _ hD b6, b6, upd_same, (r2.mono ((g3.trans g5).trans g6).bb).snoc r6⟩
        rw [r2.length]
        exact Evl.sz_lt (by have := hl ds pl; omega)
    · rintro H' ⟨B', acc, xs, hI, _, g', b', h', r'⟩
      exact q _ _ _ _ (hd ds acc pl hI) (g1.trans (g'.fz hD h')) (.lst upd_same (r'.mono (Ex.new b')))
/-- each item by itself: f tells which stay, h what becomes of them -/
theorem ev_lc (h : EvI C K wi ρ (Eq ds)) (f : PyData → Bool) (m : PyData → PyData) (hl : ds.length ≤ 100000)
    (hs : ∀ d, d ∈ ds → ∃ ρ', Tg K g vs (wipeC ρ vs) d ρ' ∧ EvT C K tt ρ' (Eq (f d)) ∧ (f d = true → Ev C K te ρ' (Eq (m d)))) : Ev C K (tLc wi g tt te vs) ρ (Eq (.list ((ds.filter f).map m))) := by
  refine ev_lc' h (fun ds j acc => acc = ((ds.take j).filter f).map m) (fun _ e => e ▸ hl) (fun _ _ => rfl) ?_ ?_
  · rintro ds j d acc rfl hd rfl hlen
    obtain ⟨ρ', h1, h2, h3⟩ := hs d (List.mem_of_getElem? hd)
    have et : ds.take (j + 1) = ds.take j ++ [d] := by rw [List.take_add_one, hd]; rfl
    refine ⟨ρ', _, fun e => e = m d, h1, h2, fun ht => (h3 ht).imp fun _ e => e.symm, fun hf => ?_, fun ht e he => ?_⟩
    · rw [et, List.filter_append, List.filter_cons, if_neg (by rw [hf]; simp)]
      simp
    · subst he
      rw [et, List.filter_append, List.filter_cons, if_pos ht]
      simp
  · rintro ds acc rfl e
    rw [e, List.take_length]
end
/-! ### the promise of a def that takes data and gives data -/
def spD (K : PySem.W.Frag) (R : List PyData → PyData → Prop) : Sp := fun vs H Q _ => ∃ B ds d, R ds d ∧ Ex B H ∧ RpAll K B vs ds ∧ ∀ v B' H', Gr C0 B H B' H' → Rp K B' v d → Q v H'
section
variable {C : Ctx} {K : PySem.W.Frag} {ρ : List Cell} {ta : TA} {R : List PyData → PyData → Prop} {E : XK} {ds : List PyData} {d : PyData} {P : PyData → Prop}
theorem ev_call' {PA : List PyData → Prop} (h : EvA C K ta ρ PA) (k : ∀ ds, PA ds → ∃ d, R ds d ∧ P d) : Ev C K (tCall (spD K R) [] E ta) ρ P := fun σ B H e o Q q =>
  h σ B H e o _ fun ds vs B1 H1 p g r => by
    obtain ⟨d, hR, pd⟩ := k ds p
    show spD K R (vs ++ []) H1 Q E
    rw [List.append_nil]
    exact ⟨B1, ds, d, hR, g.on.ex, r, fun v B' H' g2 r2 => q d v B' H' pd (g.trans (g2.up g.on)) r2⟩
theorem ev_call (h : EvA C K ta ρ (Eq ds)) (k : R ds d) : Ev C K (tCall (spD K R) [] E ta) ρ (Eq d) := ev_call' h fun _ e => ⟨d, e ▸ k, rfl⟩
end
section
variable {P : Program} {w : World} {K : PySem.W.Frag} {mg : Str → Option Value} {base : Heap} {x qual : Str} {params : Arguments} {body : List Stmt} {scope : Scope} {f : Addr} {fd : FuncData} {N ps : List Str} {k : Nat} {R : List PyData → PyData → Prop}
theorem fn_data (F : FunD K x qual params body scope [] [] f fd) (Sc : FnScope N ps scope) (len : ∀ ds d, R ds d → ds.length = ps.length)
    (hb : ∀ (cdv : Value) (A : Around) (outer : List Env) (s : Shared) (H : Hp) (E : XK), Room k (A.deeper (envOfC qual scope s.heap.objs.size f cdv)) →
      ∃ t, PSs (cxOf CX0 P w K mg base N qual scope f cdv A outer s H E).nox body t ∧ ∀ ds d, R ds d → Tr C0 K t (startC N.length (ds.map Cell.val), []) (fun _ => d = .none) (Eq d)) : FnOk P w K mg base CX0 (k + 1) f fd ps (spD K R) := by
  refine F.ok Sc (fun vs H Q E ⟨B, ds, d, hR, _, r, _⟩ => by rw [r.length]; exact len ds d hR) fun cdv A outer s H vs Q E hr ⟨B, ds, d, hR, e, r, q⟩ => ?_
  obtain ⟨t, h1, h2⟩ := hb cdv A outer s H E hr
  refine ⟨t, h1.nox, ?_⟩
  have o := on0 e
  refine h2 ds d hR B H _ _ B H ⟨Gr.refl o, envR_start' (paired_vals r), fun c hc => (by cases hc), List.nodup_nil⟩ (fun s' σ' B' H' hn _ x' => ?_) fun d' v B' H' hd g r' => ?_
  · subst hn
    exact q _ _ _ x'.g .non
  · subst hd
    exact q _ _ _ g r'
end
end K92
end
section -- K92E
set_option maxRecDepth 100000
set_option maxHeartbeats 1000000
namespace K92
open PySem PySem.Spec PyProof.Rows L2
/-! ### a def of the text that may be called by its name -/
structure Cal (P : Program) (w : World) (K : PySem.W.Frag) (mg : Str → Option Value) (base : Heap) (x : Str) (ps : List Str) (k : Nat) (sp : Sp) : Prop where
  ex : ∃ (f : Addr) (fd : FuncData), mg x = some (.ref f) ∧ FnOk P w K mg base CX0 k f fd ps sp ∧ PySem.W.keepIn K (.ref f) = true ∧ Binds K fd ps []
section
variable {X : Cx} {x : Str} {ps : List Str} {k : Nat} {sp : Sp} {p pos : Pos} {e : Expr} {es : List Expr} {t : TA}
theorem pe_cal (c : Cal X.prog X.w X.K X.mg X.base x ps k sp) (hr : Room k X.A) (hg : Gl X x) (ha : PA X (e :: es) t) (hdb : (x == ("__debug__" : Str)) = false := by decide)
    (he : starEach (e :: es) X.env = (false, eval e X.env) :: starEach es X.env := by rfl) (hpl : (backTo pos (starEach es X.env)).any (·.1) = false := by rfl) : PE X (.Call (.Name x p) (e :: es) [] pos) (tCall sp [] E0 t) := by
  obtain ⟨f, fd, h1, h2, h3, h4⟩ := c.ex
  exact pe_call h2 hr hg h1 h3 h4 .nil pass0 ha hdb he hpl
end
/-- a def as it stands behind the top -/
structure Def (K : PySem.W.Frag) (mg : Str → Option Value) (x : Str) (st : Stmt) : Prop where
  ex : ∃ (f : Addr) (fd : FuncData), mg x = some (.ref f) ∧ FunD K x x (defArgs st) (defBody st) (defScope st) [] [] f fd
section
variable {P : Program} {w : World} {K : PySem.W.Frag} {mg : Str → Option Value} {base : Heap} {x : Str} {st : Stmt} {N ps : List Str} {k : Nat} {R : List PyData → PyData → Prop}
theorem cal_data (F : Def K mg x st) (Sc : FnScope N ps (defScope st))
    (hbi : ∀ (kV doc pm : Value) (an : Option Addr) (cdv ct : Value) (us : List Value), us.length = ps.length → bindArgs (PySem.W.fnOf x x (defArgs st) (defBody st) (defScope st) .none kV doc pm an cdv ct) ⟨us, []⟩ = pure (ps.zip us))
    (len : ∀ ds d, R ds d → ds.length = ps.length)
    (hb : ∀ (f : Addr) (cdv : Value) (A : Around) (outer : List Env) (s : Shared) (H : Hp) (E : XK), Room k (A.deeper (envOfC x (defScope st) s.heap.objs.size f cdv)) →
      ∃ t, PSs (cxOf CX0 P w K mg base N x (defScope st) f cdv A outer s H E).nox (defBody st) t ∧ ∀ ds d, R ds d → Tr C0 K t (startC N.length (ds.map Cell.val), []) (fun _ => d = .none) (Eq d)) : Cal P w K mg base x ps (k + 1) (spD K R) := by
  obtain ⟨f, fd, h1, F⟩ := F.ex
  exact ⟨f, fd, h1, fn_data F Sc len (hb f), F.kp, F.bindsN hbi⟩
end
/-! ### operators, for all kinds of values at once -/
def rEQ (K : PySem.W.Frag) : R2 := fun x y H Q => rEq x y H Q ∨ rEqD K x y H Q
def rNE (K : PySem.W.Frag) : R2 := fun x y H Q => rNe x y H Q ∨ rNeD K x y H Q
theorem op_EQ {X : Cx} (hu : X.A.units + 64 < cLine) : OpR X (compareOp .Eq) (rEQ X.K) := op_eq.or (op_eqD hu)
theorem op_NE {X : Cx} (hu : X.A.units + 64 < cLine) : OpR X (compareOp .NotEq) (rNE X.K) := op_ne.or (op_neD hu)
def rAddI : R2 := rI0 fun i j => .int (i + j)
def rAddS : R2 := fun x y H Q => ∃ i j, x = .str i ∧ y = .str j ∧ i.length + j.length ≤ sizeLine ∧ Q (.str (i ++ j)) H
def rADD : R2 := fun x y H Q => rAddI x y H Q ∨ rAddS x y H Q ∨ rCat x y H Q
theorem op_ADD {X : Cx} : OpR X (binaryOp .Add) rADD := OpR.or (r := rAddI) op_add (OpR.or (r := rAddS) op_add_str op_cat)
def rSub : R2 := rI0 fun i j => .int (i - j)
def rMul : R2 := rI CMul fun i j => .int (i * j)
def rDiv : R2 := rI CDiv fun i j => .int (i / j)
def rMod : R2 := rI (fun _ j => 0 < j) fun i j => .int (i % j)
def rPow : R2 := rI CPow fun i j => .int (i ^ j.toNat)
theorem op_SUB {X : Cx} : OpR X (binaryOp .Sub) rSub := op_sub
theorem op_MUL {X : Cx} : OpR X (binaryOp .Mult) rMul := op_mul
theorem op_DIV {X : Cx} : OpR X (binaryOp .FloorDiv) rDiv := op_fdiv
theorem op_MOD {X : Cx} : OpR X (binaryOp .Mod) rMod := op_mod
theorem op_POW {X : Cx} : OpR X (binaryOp .Pow) rPow := op_pow
def rLt : R2 := rI0 fun i j => .bl (decide (i < j))
def rLe : R2 := rI0 fun i j => .bl (decide (i ≤ j))
def rGt : R2 := rI0 fun i j => .bl (decide (j < i))
def rGe : R2 := rI0 fun i j => .bl (decide (j ≤ i))
theorem op_LT {X : Cx} : OpR X (compareOp .Lt) rLt := op_lt
theorem op_LE {X : Cx} : OpR X (compareOp .LtE) rLe := op_le
theorem op_GT {X : Cx} : OpR X (compareOp .Gt) rGt := op_gt
theorem op_GE {X : Cx} : OpR X (compareOp .GtE) rGe := op_ge
/-- one sign in a text; flat in a list or a tuple; data in a tuple -/
def rInS (neg : Bool) : R2 := fun x y H Q => ∃ (c : Nat) (z : Str), x = .str ⟨#[c]⟩ ∧ y = .str z ∧ Q (.bl (if neg then !decide (c ∈ z.cps.toList) else decide (c ∈ z.cps.toList))) H
def rIN (K : PySem.W.Frag) (neg : Bool) : R2 := fun x y H Q => rIn K neg x y H Q ∨ rInS neg x y H Q
theorem op_IN {X : Cx} : OpR X (compareOp .In) (rIN X.K false) := OpR.or op_in_seq (r' := rInS false) op_in_sign
theorem op_NIN {X : Cx} : OpR X (compareOp .NotIn) (rIN X.K true) := OpR.or op_notIn_seq (r' := rInS true) op_notIn_sign
def rNotInT (K : PySem.W.Frag) : R2 := fun x y H Q => ∃ d ds, Dp K H x d ∧ Dp K H y (.tuple ds) ∧ SeqAt.shaped d = true ∧ SeqAt.shaped (.tuple ds) = true ∧ Q (.bl (!ds.any fun z => PyData.eqv z d)) H
theorem op_notInT {X : Cx} (hu : X.A.units + 65 < cLine) : OpR X (compareOp .NotIn) (rNotInT X.K) := by
  intro pins s σ H x y v u Q I rx ry h
  obtain ⟨d, ds, hd, he, sd, se, q⟩ := h
  obtain ⟨as, r1⟩ := Dp.reads I d x v hd rx
  obtain ⟨bs, r2⟩ := Dp.reads I (.tuple ds) y u he ry
  exact SeqAt.notIn_tuple_reads r2 r1 (SeqAt.canLay_of_shaped se) (SeqAt.canLay_of_shaped sd) (room_in_shaped sd hu) ⟨.bl _, H, I, rfl, q⟩
/-- slices -/
def rSL (K : PySem.W.Frag) : V → Option Int → Option Int → Hp → VK → Prop := fun x lo hi H Q => rSlL K x lo hi H Q ∨ rSlT K x lo hi H Q ∨ rSlS x lo hi H Q
theorem sl_SL {X : Cx} : SlR X (rSL X.K) := sl_list.or (sl_tup.or sl_str)
/-- calls of built-ins -/
def rLEN (K : PySem.W.Frag) : List V → Hp → VK → Prop := fun xs H Q => ∃ x n, xs = [x] ∧ LenV K x H n ∧ Q (.int n) H
theorem cr_LEN {X : Cx} : CallR X (.builtin "len") (rLEN X.K) := call_len
def rISI (K : PySem.W.Frag) : List V → Hp → VK → Prop := fun xs H Q => rIsi K xs H Q ∨ rIsiT K xs H Q
theorem cr_ISI {X : Cx} : CallR X (.builtin "isinstance") (rISI X.K) := call_isi.or call_isiT
def rINT : List V → Hp → VK → Prop := fun xs H Q => (∃ i, xs = [.int i] ∧ Q (.int i) H) ∨ ∃ k, xs = [.bl k] ∧ Q (.int (if k then 1 else 0)) H
theorem cr_INT {X : Cx} : CallR X (.type "int") rINT := call_int1
def rABS : List V → Hp → VK → Prop := fun xs H Q => ∃ i, xs = [.int i] ∧ Q (.int (if i < 0 then -i else i)) H
theorem cr_ABS {X : Cx} : CallR X (.builtin "abs") rABS := call_abs
def rMIN : List V → Hp → VK → Prop := fun xs H Q => ∃ i j, xs = [.int i, .int j] ∧ Q (.int (if j < i then j else i)) H
theorem cr_MIN {X : Cx} (hc : X.calm = true) : CallR X (.builtin "min") rMIN := call_min2 hc
def rTUP (K : PySem.W.Frag) : List V → Hp → VK → Prop := fun xs H Q => ∃ p ys, xs = [.ref p] ∧ ((SqL K H p ys ∧ ∀ l, H l = none → Q (.ref l) (upd H l (.tup ys))) ∨ (SqT K H p ys ∧ Q (.ref p) H))
theorem cr_TUP {X : Cx} : CallR X (.type "tuple") (rTUP X.K) := call_tuple_of
def rLIS (K : PySem.W.Frag) : List V → Hp → VK → Prop := fun xs H Q => ∃ p ys, xs = [.ref p] ∧ (SqL K H p ys ∨ SqT K H p ys) ∧ ∀ l, H l = none → Q (.ref l) (upd H l (.lst ys))
theorem cr_LIS {X : Cx} : CallR X (.type "list") (rLIS X.K) := call_list_of
/-- sorted of a dict with texts as keys -/
def rSortD : List V → Hp → VK → Prop := fun xs H Q => ∃ (a : Addr) (kvs : List (Key × V)) (ks : List Str), xs = [.ref a] ∧ Rd H a (.dK kvs) ∧ kvs.map (·.1) = ks.map Sum.inr ∧ ks.length < 64 ∧
    ∀ ys p, ys.Perm ks → sortedS ys = true → H p = none → Q (.ref p) (upd H p (.lst (ys.map V.str)))
theorem cr_SORTD {X : Cx} (hc : X.calm = true) : CallR X (.builtin "sorted") rSortD := call_sortedD hc
/-! ### what they do with data -/
/-- a flat datum's value -/
def fl : PyData → Option V
  | .none => some .non
  | .bool b => some (.bl b)
  | .int i => some (.int i)
  | .str x => some (.str x)
  | _ => none
section
variable {C : Ctx} {K : PySem.W.Frag} {B H : Hp} {v : V} {d x y z : PyData} {u1 u2 : V}
theorem fl_val (h : fl d = some u1) (r : Rp K B v d) : v = u1 := by
  cases r <;> first
    | (cases h; rfl)
    | cases h
theorem fl_rp (h : fl d = some u1) : Rp K B u1 d := by
  cases d <;> first
    | (cases h; first | exact .non | exact .bl _ | exact .int _ | exact .str _)
    | cases h
theorem o_eqF (hx : fl x = some u1) (hy : fl y = some u2) (hs : scal u1 u2 = true) : Op2 C K (rEQ K) x y (Eq (.bool (decide (u1 = u2)))) := op_val fun B H v u r1 r2 o => by
  rw [fl_val hx r1, fl_val hy r2]
  exact ⟨_, .bl _, fun Q q => .inl ⟨hs, q⟩⟩
theorem o_neF (hx : fl x = some u1) (hy : fl y = some u2) (hs : scal u1 u2 = true) : Op2 C K (rNE K) x y (Eq (.bool (!decide (u1 = u2)))) := op_val fun B H v u r1 r2 o => by
  rw [fl_val hx r1, fl_val hy r2]
  exact ⟨_, .bl _, fun Q q => .inl ⟨hs, q⟩⟩
theorem dec_congr {p q : Prop} [Decidable p] [Decidable q] (h : p ↔ q) : decide p = decide q := by
  by_cases hp : p
  · rw [decide_eq_true hp, decide_eq_true (h.mp hp)]
  · rw [decide_eq_false hp, decide_eq_false fun hq => hp (h.mpr hq)]
theorem o_eqS {a b : Str} : Op2 C K (rEQ K) (.str a) (.str b) (Eq (.bool (decide (a = b)))) := by
  have h := o_eqF (C := C) (K := K) (x := .str a) (y := .str b) rfl rfl rfl
  rwa [dec_congr (p := V.str a = V.str b) (q := a = b) ⟨fun e => V.str.inj e, fun e => e ▸ rfl⟩] at h
theorem o_neS {a b : Str} : Op2 C K (rNE K) (.str a) (.str b) (Eq (.bool (!decide (a = b)))) := by
  have h := o_neF (C := C) (K := K) (x := .str a) (y := .str b) rfl rfl rfl
  rwa [dec_congr (p := V.str a = V.str b) (q := a = b) ⟨fun e => V.str.inj e, fun e => e ▸ rfl⟩] at h
theorem o_eqI {a b : Int} : Op2 C K (rEQ K) (.int a) (.int b) (Eq (.bool (decide (a = b)))) := by
  have h := o_eqF (C := C) (K := K) (x := .int a) (y := .int b) rfl rfl rfl
  rwa [dec_congr (p := V.int a = V.int b) (q := a = b) ⟨fun e => V.int.inj e, fun e => e ▸ rfl⟩] at h
theorem o_neI {a b : Int} : Op2 C K (rNE K) (.int a) (.int b) (Eq (.bool (!decide (a = b)))) := by
  have h := o_neF (C := C) (K := K) (x := .int a) (y := .int b) rfl rfl rfl
  rwa [dec_congr (p := V.int a = V.int b) (q := a = b) ⟨fun e => V.int.inj e, fun e => e ▸ rfl⟩] at h
theorem o_neNS {b : Str} : Op2 C K (rNE K) .none (.str b) (Eq (.bool true)) := by
  have h := o_neF (C := C) (K := K) (x := .none) (y := .str b) rfl rfl rfl
  rwa [decide_eq_false (fun e => nomatch e)] at h
theorem o_eqD (hx : SeqAt.shaped x = true) (hy : SeqAt.shaped y = true) : Op2 C K (rEQ K) x y (Eq (.bool (PyData.eqv x y))) := op_val fun B H v u r1 r2 o =>
  ⟨_, .bl _, fun Q q => .inr ⟨x, y, (r1.mono o.ex).dp _ _ (SeqAt.canLay_of_shaped hx), (r2.mono o.ex).dp _ _ (SeqAt.canLay_of_shaped hy), hx, hy, q⟩⟩
theorem o_neD (hx : SeqAt.shaped x = true) (hy : SeqAt.shaped y = true) : Op2 C K (rNE K) x y (Eq (.bool (!PyData.eqv x y))) := op_val fun B H v u r1 r2 o =>
  ⟨_, .bl _, fun Q q => .inr ⟨x, y, (r1.mono o.ex).dp _ _ (SeqAt.canLay_of_shaped hx), (r2.mono o.ex).dp _ _ (SeqAt.canLay_of_shaped hy), hx, hy, q⟩⟩
theorem atI_rp {xs : List V} {ds : List PyData} {i : Int} (r : RpAll K B xs ds) (h : atI ds i = some d) : ∃ w, atI xs i = some w ∧ Rp K B w d := by
  unfold atI at h ⊢
  rw [r.length]
  cases q : ixN ds.length i with
  | none => rw [q] at h; cases h
  | some j =>
    rw [q] at h
    exact r.get h
theorem o_ixL {ds : List PyData} {i : Int} (h : atI ds i = some d) : Op2 C K (rIx K) (.list ds) (.int i) (Eq d) := op_val fun B H v u r1 r2 o => by
  cases r2
  cases r1 with
  | lst hs ha =>
    obtain ⟨w, h1, h2⟩ := atI_rp ha h
    exact ⟨w, h2, fun Q q => .inl ⟨_, _, _, w, rfl, rfl, SqL.of (o.ex _ _ hs), h1, q⟩⟩
theorem o_ixT {ds : List PyData} {i : Int} (h : atI ds i = some d) : Op2 C K (rIx K) (.tuple ds) (.int i) (Eq d) := op_val fun B H v u r1 r2 o => by
  cases r2
  cases r1 with
  | tup hs ha =>
    obtain ⟨w, h1, h2⟩ := atI_rp ha h
    exact ⟨w, h2, fun Q q => .inr (.inl ⟨_, _, _, w, rfl, rfl, Evl.ex_t o.ex hs, h1, q⟩)⟩
theorem o_ixS {s : Str} {i : Int} {c : Nat} (hl : s.length ≤ 100000) (h : atI s.cps.toList i = some c) : Op2 C K (rIx K) (.str s) (.int i) (Eq (.str ⟨#[c]⟩)) := op_val fun B H v u r1 r2 o => by
  cases r2
  cases r1
  exact ⟨_, .str _, fun Q q => .inr (.inr ⟨s, i, c, rfl, rfl, sz_ok hl, h, q⟩)⟩
theorem o_I0 {g : Int → Int → V} {f : Int → Int → PyData} {a b : Int} (h : ∀ a b B, Rp K B (g a b) (f a b)) : Op2 C K (rI0 g) (.int a) (.int b) (Eq (f a b)) := op_val fun B H v u r1 r2 o => by
  cases r2
  cases r1
  exact ⟨_, h a b B, fun Q q => ⟨a, b, rfl, rfl, q⟩⟩
theorem o_I {Cd : Int → Int → Prop} {g : Int → Int → V} {f : Int → Int → PyData} {a b : Int} (h : ∀ a b B, Rp K B (g a b) (f a b)) (hc : Cd a b) : Op2 C K (rI Cd g) (.int a) (.int b) (Eq (f a b)) := op_val fun B H v u r1 r2 o => by
  cases r2
  cases r1
  exact ⟨_, h a b B, fun Q q => ⟨a, b, rfl, rfl, hc, q⟩⟩
theorem o_lt {a b : Int} : Op2 C K rLt (.int a) (.int b) (Eq (.bool (decide (a < b)))) := o_I0 (f := fun a b => .bool (decide (a < b))) fun _ _ _ => .bl _
theorem o_le {a b : Int} : Op2 C K rLe (.int a) (.int b) (Eq (.bool (decide (a ≤ b)))) := o_I0 (f := fun a b => .bool (decide (a ≤ b))) fun _ _ _ => .bl _
theorem o_gt {a b : Int} : Op2 C K rGt (.int a) (.int b) (Eq (.bool (decide (b < a)))) := o_I0 (f := fun a b => .bool (decide (b < a))) fun _ _ _ => .bl _
theorem o_ge {a b : Int} : Op2 C K rGe (.int a) (.int b) (Eq (.bool (decide (b ≤ a)))) := o_I0 (f := fun a b => .bool (decide (b ≤ a))) fun _ _ _ => .bl _
theorem o_sub {a b : Int} : Op2 C K rSub (.int a) (.int b) (Eq (.int (a - b))) := o_I0 (f := fun a b => .int (a - b)) fun _ _ _ => .int _
theorem o_mul {a b : Int} (h : CMul a b) : Op2 C K rMul (.int a) (.int b) (Eq (.int (a * b))) := o_I (f := fun a b => .int (a * b)) (fun _ _ _ => .int _) h
theorem o_div {a b : Int} (h : CDiv a b) : Op2 C K rDiv (.int a) (.int b) (Eq (.int (a / b))) := o_I (f := fun a b => .int (a / b)) (fun _ _ _ => .int _) h
theorem o_mod {a b : Int} (h : 0 < b) : Op2 C K rMod (.int a) (.int b) (Eq (.int (a % b))) := o_I (f := fun a b => .int (a % b)) (fun _ _ _ => .int _) h
theorem o_pow {a b : Int} (h : CPow a b) : Op2 C K rPow (.int a) (.int b) (Eq (.int (a ^ b.toNat))) := o_I (f := fun a b => .int (a ^ b.toNat)) (fun _ _ _ => .int _) h
theorem o_addI {a b : Int} : Op2 C K rADD (.int a) (.int b) (Eq (.int (a + b))) := op_val fun B H v u r1 r2 o => by
  cases r2
  cases r1
  exact ⟨_, .int _, fun Q q => .inl ⟨a, b, rfl, rfl, q⟩⟩
theorem o_addS {a b : Str} (h : a.length + b.length ≤ 100000) : Op2 C K rADD (.str a) (.str b) (Eq (.str (a ++ b))) := op_val fun B H v u r1 r2 o => by
  cases r2
  cases r1
  exact ⟨_, .str _, fun Q q => .inr (.inl ⟨a, b, rfl, rfl, sz_ok h, q⟩)⟩
theorem o_addL {a b : List PyData} (h : a.length + b.length ≤ 100000) : Op2 C K rADD (.list a) (.list b) (Eq (.list (a ++ b))) := fun B H v u r1 r2 o Q q => by
  cases r1 with
  | @lst p1 xs _ h1 a1 =>
    cases r2 with
    | @lst p2 zs _ h2 a2 =>
      refine .inr (.inr ⟨_, _, _, _, rfl, rfl, o.ex _ _ h1, o.ex _ _ h2, by rw [a1.length, a2.length]; exact sz_ok h, fun p hp => ?_⟩)
      have g := Gr.new o (.lst (xs ++ zs)) hp
      exact q _ _ _ _ rfl g (.lst upd_same ((a1.append a2).mono g.bb))
/-- a text among texts -/
def isStr : PyData → Bool
  | .str _ => true
  | _ => false
def inD (a : Str) (ds : List PyData) : Bool := ds.any fun d => match d with
  | .str b => decide (b = a)
  | _ => false
theorem rp_flat : ∀ {xs : List V} {ds : List PyData}, RpAll K B xs ds → ds.all isStr = true → xs.all flatV = true ∧ ∀ a : Str, inV (.str a) xs = inD a ds
  | _, _, .nil, _ => ⟨rfl, fun _ => rfl⟩
  | _, _, .cons (d := d) r t, h => by
    rw [List.all_cons, Bool.and_eq_true] at h
    obtain ⟨i1, i2⟩ := rp_flat t h.2
    cases r with
    | str x =>
      refine ⟨by rw [List.all_cons, i1]; rfl, fun a => ?_⟩
      have e := i2 a
      unfold inV inD at e ⊢
      rw [List.any_cons, List.any_cons, e]
      congr 1
    | _ => exact absurd h.1 (by simp [isStr])
theorem o_inT {neg : Bool} {a : Str} {ds : List PyData} (h : ds.all isStr = true := by rfl) : Op2 C K (rIN K neg) (.str a) (.tuple ds) (Eq (.bool (if neg then !inD a ds else inD a ds))) := op_val fun B H v u r1 r2 o => by
  cases r1
  cases r2 with
  | tup hs ha =>
    obtain ⟨h1, h2⟩ := rp_flat ha h
    exact ⟨_, .bl _, fun Q q => .inl ⟨_, _, rfl, .inr (Evl.ex_t o.ex hs), rfl, h1, by rw [h2 a]; exact q⟩⟩
theorem o_inL {neg : Bool} {a : Str} {ds : List PyData} (h : ds.all isStr = true := by rfl) : Op2 C K (rIN K neg) (.str a) (.list ds) (Eq (.bool (if neg then !inD a ds else inD a ds))) := op_val fun B H v u r1 r2 o => by
  cases r1
  cases r2 with
  | lst hs ha =>
    obtain ⟨h1, h2⟩ := rp_flat ha h
    exact ⟨_, .bl _, fun Q q => .inl ⟨_, _, rfl, .inl (SqL.of (o.ex _ _ hs)), rfl, h1, by rw [h2 a]; exact q⟩⟩
theorem o_inS {neg : Bool} {c : Nat} {s : Str} : Op2 C K (rIN K neg) (.str ⟨#[c]⟩) (.str s) (Eq (.bool (if neg then !decide (c ∈ s.cps.toList) else decide (c ∈ s.cps.toList)))) := op_val fun B H v u r1 r2 o => by
  cases r1
  cases r2
  exact ⟨_, .bl _, fun Q q => .inr ⟨c, s, rfl, rfl, q⟩⟩
theorem o_notInT {ds : List PyData} (hx : SeqAt.shaped d = true) (hy : SeqAt.shaped (.tuple ds) = true) : Op2 C K (rNotInT K) d (.tuple ds) (Eq (.bool (!ds.any fun z => PyData.eqv z d))) := op_val fun B H v u r1 r2 o =>
  ⟨_, .bl _, fun Q q => ⟨d, ds, (r1.mono o.ex).dp _ _ (SeqAt.canLay_of_shaped hx), (r2.mono o.ex).dp _ _ (SeqAt.canLay_of_shaped hy), hx, hy, q⟩⟩
/-! ### calls -/
theorem opn_val {r : List V → Hp → VK → Prop} {ds : List PyData} (h : ∀ B H vs, RpAll K B vs ds → C.On B H → ∃ w, Rp K B w z ∧ ∀ Q : VK, Q w H → r vs H Q) : OpN C K r ds (Eq z) := fun B H vs r1 o Q q =>
  let ⟨w, rw', k⟩ := h B H vs r1 o
  k Q (q z w B H rfl (Gr.refl o) rw')
theorem n_lenL {ds : List PyData} : OpN C K (rLEN K) [.list ds] (Eq (.int ds.length)) := opn_val fun B H vs r o => by
  cases r with
  | cons r1 r2 =>
    cases r2
    cases r1 with
    | lst hs ha => exact ⟨_, .int _, fun Q q => ⟨_, _, rfl, .inl ⟨_, SqL.of (o.ex _ _ hs), rfl⟩, by rw [ha.length]; exact q⟩⟩
theorem n_lenT {ds : List PyData} : OpN C K (rLEN K) [.tuple ds] (Eq (.int ds.length)) := opn_val fun B H vs r o => by
  cases r with
  | cons r1 r2 =>
    cases r2
    cases r1 with
    | tup hs ha => exact ⟨_, .int _, fun Q q => ⟨_, _, rfl, .inr ⟨_, Evl.ex_t o.ex hs, rfl⟩, by rw [ha.length]; exact q⟩⟩
theorem n_lenS {s : Str} (h : s.length ≤ 100000) : OpN C K (rLEN K) [.str s] (Eq (.int s.length)) := opn_val fun B H vs r o => by
  cases r with
  | cons r1 r2 =>
    cases r2
    cases r1
    exact ⟨_, .int _, fun Q q => ⟨.str s, s.length, rfl, ⟨sz_ok h, rfl⟩, q⟩⟩
theorem n_intB {b : Bool} : OpN C K rINT [.bool b] (Eq (.int (if b then 1 else 0))) := opn_val fun B H vs r o => by
  cases r with
  | cons r1 r2 =>
    cases r2
    cases r1
    exact ⟨_, .int _, fun Q q => .inr ⟨b, rfl, q⟩⟩
theorem n_abs {i : Int} : OpN C K rABS [.int i] (Eq (.int (if i < 0 then -i else i))) := opn_val fun B H vs r o => by
  cases r with
  | cons r1 r2 =>
    cases r2
    cases r1
    exact ⟨_, .int _, fun Q q => ⟨i, rfl, q⟩⟩
theorem n_min {i j : Int} : OpN C K rMIN [.int i, .int j] (Eq (.int (if j < i then j else i))) := opn_val fun B H vs r o => by
  cases r with
  | cons r1 r2 =>
    cases r2 with
    | cons r2 r3 =>
      cases r3
      cases r1
      cases r2
      exact ⟨_, .int _, fun Q q => ⟨i, j, rfl, q⟩⟩
theorem n_tupL {ds : List PyData} : OpN C K (rTUP K) [.list ds] (Eq (.tuple ds)) := fun B H vs r o Q q => by
  cases r with
  | cons r1 r2 =>
    cases r2
    cases r1 with
    | lst hs ha => exact ⟨_, _, rfl, .inl ⟨SqL.of (o.ex _ _ hs), fun l hl => have g := Gr.new o (.tup _) hl; q _ _ _ _ rfl g (.tup (SqT.of upd_same) (ha.mono g.bb))⟩⟩
theorem n_lisT {ds : List PyData} : OpN C K (rLIS K) [.tuple ds] (Eq (.list ds)) := fun B H vs r o Q q => by
  cases r with
  | cons r1 r2 =>
    cases r2
    cases r1 with
    | tup hs ha => exact ⟨_, _, rfl, .inr (Evl.ex_t o.ex hs), fun l hl => have g := Gr.new o (.lst _) hl; q _ _ _ _ rfl g (.lst upd_same (ha.mono g.bb))⟩
theorem n_lisL {ds : List PyData} : OpN C K (rLIS K) [.list ds] (Eq (.list ds)) := fun B H vs r o Q q => by
  cases r with
  | cons r1 r2 =>
    cases r2
    cases r1 with
    | lst hs ha => exact ⟨_, _, rfl, .inl (SqL.of (o.ex _ _ hs)), fun l hl => have g := Gr.new o (.lst _) hl; q _ _ _ _ rfl g (.lst upd_same (ha.mono g.bb))⟩
theorem n_all {bs : List Bool} : OpN C K (rAll K) [.list (bs.map .bool)] (Eq (.bool (bs.all id))) := opn_val fun B H vs r o => by
  cases r with
  | cons r1 r2 =>
    cases r2
    cases r1 with
    | lst hs ha => exact ⟨_, .bl _, fun Q q => ⟨_, bs, rfl, by rw [← ha.bools]; exact SqL.of (o.ex _ _ hs), q⟩⟩
theorem n_sum {is : List Int} : OpN C K (rSum K) [.list (is.map .int)] (Eq (.int is.sum)) := opn_val fun B H vs r o => by
  cases r with
  | cons r1 r2 =>
    cases r2
    cases r1 with
    | lst hs ha => exact ⟨_, .int _, fun Q q => ⟨_, is, rfl, by rw [← ha.ints]; exact SqL.of (o.ex _ _ hs), q⟩⟩
/-- the texts in their order: the one sorted arrangement -/
theorem n_sortS' {xs : List Str} {P : PyData → Prop} (h : xs.length < 64) (k : ∀ ys : List Str, ys.Perm xs → sortedS ys = true → P (.list (ys.map .str))) : OpN C K (rSortedS K) [.list (xs.map .str)] P := fun B H vs r o Q q => by
  cases r with
  | cons r1 r2 =>
    cases r2
    cases r1 with
    | lst hs ha => exact ⟨_, xs, rfl, by rw [← ha.strs]; exact SqL.of (o.ex _ _ hs), h, fun ys p hp hso hn => have g := Gr.new o (.lst _) hn; q _ _ _ _ (k ys hp hso) g (.lst upd_same rp_strs)⟩
/-! ### the type of a datum -/
def tyD : PyData → String
  | .none => "NoneType"
  | .bool _ => "bool"
  | .int _ => "int"
  | .str _ => "str"
  | .list _ => "list"
  | .tuple _ => "tuple"
  | .dict _ => "dict"
theorem rp_ty (e : Ex B H) (r : Rp K B v d) : TyX K H v (.type (tyD d)) := by
  cases r with
  | non => exact .base .non
  | bl b => exact .base (.bl b)
  | int i => exact .base (.int i)
  | str x => exact .base (.str x)
  | lst h _ => exact .base (.lst (e _ _ h))
  | dic h _ => exact .base (.dK (e _ _ h))
  | tup h _ =>
    rcases h with (h | ⟨o, h⟩) | ⟨o, its, n, h, hc, _⟩
    · exact .base (.tup (e _ _ h))
    · exact .fTuple (e _ _ h)
    · exact .kTuple h hc
end
/-- isinstance(x, T) -/
theorem ev_isi {C : Ctx} {K : PySem.W.Frag} {ρ : List Cell} {te : TE} {d : PyData} {T : String} {b : Bool} (h : Ev C K te ρ (Eq d)) (hk : kitB (tyD d) T = some b) : Ev C K (tCB (rISI K) (tCons te (tCons (tC (.ty T)) tNil))) ρ (Eq (.bool b)) := fun σ B H e o Q q =>
  h σ B H e o _ fun d' v B1 H1 p g r => by
    subst p
    exact .inl ⟨v, .ty T, .type (tyD _), .type T, b, rfl, .ty T, rp_ty g.on.ex r, kit_ty hk, q _ _ B1 H1 rfl g (.bl b)⟩
end K92
end
section -- K92T
set_option maxRecDepth 100000
set_option maxHeartbeats 2000000
/-! The facts of the text as one structure. Printed by gen_tx.py -/
namespace K92
open PySem PySem.Spec PyProof.Rows L2
section
variable {X : Cx} {x : Str} {p : Pos}
theorem pe_gs {z : Str} (hg : Gl X x) (h : ∃ t, X.mg x = some (.str z t)) (hd : (x == ("__debug__" : Str)) = false := by decide) : PE X (.Name x p) (tC (.str z)) := by
  obtain ⟨t, h⟩ := h
  exact pe_glob hg h ⟨t, rfl⟩ hd
theorem pe_gi {i : Int} (hg : Gl X x) (h : ∃ t, X.mg x = some (.int i t)) (hd : (x == ("__debug__" : Str)) = false := by decide) : PE X (.Name x p) (tC (.int i)) := by
  obtain ⟨t, h⟩ := h
  exact pe_glob hg h ⟨t, rfl⟩ hd
theorem pe_gr {a : Addr} (hg : Gl X x) (h : X.mg x = some (.ref a)) (hd : (x == ("__debug__" : Str)) = false := by decide) : PE X (.Name x p) (tC (.ref a)) := pe_glob hg h rfl hd
end
theorem rp_dv {K : PySem.W.Frag} {B : Hp} : ∀ {vs : List He.Dv} {ds : List PyData}, Paired (fun v d => fl d = some (v.v K)) vs ds → RpAll K B (vs.map (He.Dv.v K)) ds
  | _, _, .nil => .nil
  | _, _, .cons r t => .cons (fl_rp r) (rp_dv t)
abbrev gG (K : PySem.W.Frag) : Addr := He.ga K "Going"
abbrev gM (K : PySem.W.Frag) (m : Str) : Addr := He.ma K (gG K) m
structure Tx (w : World) (K : PySem.W.Frag) (mg : Str → Option Value) : Prop where
  isinstance : mg "isinstance" = none
  str : mg "str" = none
  int : mg "int" = none
  bool : mg "bool" = none
  len : mg "len" = none
  all : mg "all" = none
  zip : mg "zip" = none
  sorted : mg "sorted" = none
  set : mg "set" = none
  tuple : mg "tuple" = none
  list : mg "list" = none
  sum : mg "sum" = none
  min : mg "min" = none
  range : mg "range" = none
  abs : mg "abs" = none
  LETTERS : ∃ t, mg "LETTERS" = some (.str "abcdefghijklmnopqrstuvwxyz" t)
  LONGEST_WORD : ∃ t, mg "LONGEST_WORD" = some (.int 8 t)
  LAST_DAY : ∃ t, mg "LAST_DAY" = some (.int 999 t)
  MOST_DAYS : ∃ t, mg "MOST_DAYS" = some (.int 9 t)
  MOST_WORTH : ∃ t, mg "MOST_WORTH" = some (.int 1000000000 t)
  MOST_WEIGHT : ∃ t, mg "MOST_WEIGHT" = some (.int 9 t)
  RANKS : mg "RANKS" = some (.ref (He.ga K "RANKS"))
  rRANKS : ∀ B, Rp K B (.ref (He.ga K "RANKS")) (.tuple [.str "comes", .str "trial", .str "back", .str "keep", .str "give", .str "goes", .str "double", .str "promise", .str "loose", .str "want", .str "owe", .str "pay"])
  tRANKS : ∃ o, K.lookup (He.ga K "RANKS") = some o ∧ o.cls = .type "tuple"
  FORMS : mg "FORMS" = some (.ref (He.ga K "FORMS"))
  DFORMS : ∃ es n, KDict K w (He.ga K "FORMS") es n
  FORMS_comes : KDct K w (He.ga K "FORMS") "comes" (.str "wdwww")
  FORMS_trial : KDct K w (He.ga K "FORMS") "trial" (.str "wdwwwt")
  FORMS_back : KDct K w (He.ga K "FORMS") "back" (.str "wdwwt")
  FORMS_keep : KDct K w (He.ga K "FORMS") "keep" (.str "wdwwm")
  FORMS_give : KDct K w (He.ga K "FORMS") "give" (.str "wdwwwtm")
  FORMS_goes : KDct K w (He.ga K "FORMS") "goes" (.str "wdww")
  FORMS_double : KDct K w (He.ga K "FORMS") "double" (.str "wdww")
  FORMS_promise : KDct K w (He.ga K "FORMS") "promise" (.str "wdwwwd")
  FORMS_loose : KDct K w (He.ga K "FORMS") "loose" (.str "wdw")
  FORMS_want : KDct K w (He.ga K "FORMS") "want" (.str "wdwwg")
  FORMS_owe : KDct K w (He.ga K "FORMS") "owe" (.str "wdwwp")
  FORMS_pay : KDct K w (He.ga K "FORMS") "pay" (.str "wdwwp")
  HOUSES : mg "HOUSES" = some (.ref (He.ga K "HOUSES"))
  DHOUSES : ∃ es n, KDict K w (He.ga K "HOUSES") es n
  HOUSES_comes : ∃ a, KDct K w (He.ga K "HOUSES") "comes" (.ref a) ∧ ∀ B, Rp K B (.ref a) (.tuple [.int 5])
  HOUSES_trial : ∃ a, KDct K w (He.ga K "HOUSES") "trial" (.ref a) ∧ ∀ B, Rp K B (.ref a) (.tuple [.int 4, .int 5])
  HOUSES_back : ∃ a, KDct K w (He.ga K "HOUSES") "back" (.ref a) ∧ ∀ B, Rp K B (.ref a) (.tuple [.int 4])
  HOUSES_keep : ∃ a, KDct K w (He.ga K "HOUSES") "keep" (.ref a) ∧ ∀ B, Rp K B (.ref a) (.tuple [.int 4])
  HOUSES_give : ∃ a, KDct K w (He.ga K "HOUSES") "give" (.ref a) ∧ ∀ B, Rp K B (.ref a) (.tuple [.int 4, .int 5])
  HOUSES_goes : ∃ a, KDct K w (He.ga K "HOUSES") "goes" (.ref a) ∧ ∀ B, Rp K B (.ref a) (.tuple [.int 4])
  HOUSES_double : ∃ a, KDct K w (He.ga K "HOUSES") "double" (.ref a) ∧ ∀ B, Rp K B (.ref a) (.tuple [.int 4])
  HOUSES_promise : ∃ a, KDct K w (He.ga K "HOUSES") "promise" (.ref a) ∧ ∀ B, Rp K B (.ref a) (.tuple [.int 4, .int 5])
  HOUSES_loose : ∃ a, KDct K w (He.ga K "HOUSES") "loose" (.ref a) ∧ ∀ B, Rp K B (.ref a) (.tuple [])
  HOUSES_want : ∃ a, KDct K w (He.ga K "HOUSES") "want" (.ref a) ∧ ∀ B, Rp K B (.ref a) (.tuple [.int 3])
  HOUSES_owe : ∃ a, KDct K w (He.ga K "HOUSES") "owe" (.ref a) ∧ ∀ B, Rp K B (.ref a) (.tuple [.int 3, .int 4])
  HOUSES_pay : ∃ a, KDct K w (He.ga K "HOUSES") "pay" (.ref a) ∧ ∀ B, Rp K B (.ref a) (.tuple [.int 3, .int 4])
  OF_THINGS : mg "OF_THINGS" = some (.ref (He.ga K "OF_THINGS"))
  rOF_THINGS : ∀ B, Rp K B (.ref (He.ga K "OF_THINGS")) (.tuple [.str "comes", .str "trial", .str "back", .str "keep", .str "give", .str "goes", .str "double", .str "promise"])
  tOF_THINGS : ∃ o, K.lookup (He.ga K "OF_THINGS") = some o ∧ o.cls = .type "tuple"
  OF_KINDS : mg "OF_KINDS" = some (.ref (He.ga K "OF_KINDS"))
  rOF_KINDS : ∀ B, Rp K B (.ref (He.ga K "OF_KINDS")) (.tuple [.str "comes", .str "want"])
  tOF_KINDS : ∃ o, K.lookup (He.ga K "OF_KINDS") = some o ∧ o.cls = .type "tuple"
  LEAST_HOUSES : ∃ t, mg "LEAST_HOUSES" = some (.int 2 t)
  MOST_HOUSES : ∃ t, mg "MOST_HOUSES" = some (.int 6 t)
  MOST_PAGES : ∃ t, mg "MOST_PAGES" = some (.int 200 t)
  MOST_THINGS : ∃ t, mg "MOST_THINGS" = some (.int 16 t)
  MOST_KINDS : ∃ t, mg "MOST_KINDS" = some (.int 6 t)
  OUT : mg "OUT" = some (.ref (He.ga K "OUT"))
  rOUT : ∀ B, Rp K B (.ref (He.ga K "OUT")) (.tuple [.str "out"])
  tOUT : ∃ o, K.lookup (He.ga K "OUT") = some o ∧ o.cls = .type "tuple"
  ALWAYS : mg "ALWAYS" = some (.ref (He.ga K "ALWAYS"))
  rALWAYS : ∀ B, Rp K B (.ref (He.ga K "ALWAYS")) (.tuple [.str "want", .str "owe", .str "pay"])
  tALWAYS : ∃ o, K.lookup (He.ga K "ALWAYS") = some o ∧ o.cls = .type "tuple"
  NONE : mg "NONE" = some (.ref (He.ga K "NONE"))
  rNONE : ∀ B, Rp K B (.ref (He.ga K "NONE")) (.tuple [.str "none"])
  tNONE : ∃ o, K.lookup (He.ga K "NONE") = some o ∧ o.cls = .type "tuple"
  OPEN : mg "OPEN" = some (.ref (He.ga K "OPEN"))
  rOPEN : ∀ B, Rp K B (.ref (He.ga K "OPEN")) (.tuple [.str "open"])
  tOPEN : ∃ o, K.lookup (He.ga K "OPEN") = some o ∧ o.cls = .type "tuple"
  LAPSED : mg "LAPSED" = some (.ref (He.ga K "LAPSED"))
  rLAPSED : ∀ B, Rp K B (.ref (He.ga K "LAPSED")) (.tuple [.str "lapsed"])
  tLAPSED : ∃ o, K.lookup (He.ga K "LAPSED") = some o ∧ o.cls = .type "tuple"
  d_is_word : Def K mg "is_word" s_is_word
  d_is_from_to : Def K mg "is_from_to" s_is_from_to
  d_is_day : Def K mg "is_day" s_is_day
  d_is_part : Def K mg "is_part" s_is_part
  d_is_page : Def K mg "is_page" s_is_page
  d_houses_in : Def K mg "houses_in" s_houses_in
  d_things_in : Def K mg "things_in" s_things_in
  d_kinds_in : Def K mg "kinds_in" s_kinds_in
  d_page_key : Def K mg "page_key" s_page_key
  d_in_order : Def K mg "in_order" s_in_order
  d_ask_book : Def K mg "ask_book" s_ask_book
  d_houses_of : Def K mg "houses_of" s_houses_of
  d_all_named : Def K mg "all_named" s_all_named
  d_pages_in_order : Def K mg "pages_in_order" s_pages_in_order
  d_book_of : Def K mg "book_of" s_book_of
  d_things_of : Def K mg "things_of" s_things_of
  d_arrived : Def K mg "arrived" s_arrived
  d_owner_of : Def K mg "owner_of" s_owner_of
  d_moved : Def K mg "moved" s_moved
  d_track_of : Def K mg "track_of" s_track_of
  d_pages_of : Def K mg "pages_of" s_pages_of
  d_track : Def K mg "track" s_track
  d_fitting : Def K mg "fitting" s_fitting
  d_unfit : Def K mg "unfit" s_unfit
  d_dues_of : Def K mg "dues_of" s_dues_of
  d_plain_dues : Def K mg "plain_dues" s_plain_dues
  d_all_dues : Def K mg "all_dues" s_all_dues
  d_owed_by : Def K mg "owed_by" s_owed_by
  d_balance_by : Def K mg "balance_by" s_balance_by
  d_balance : Def K mg "balance" s_balance
  d_only : Def K mg "only" s_only
  d_together : Def K mg "together" s_together
  d_ending : Def K mg "ending" s_ending
  d_became_of : Def K mg "became_of" s_became_of
  d_open_of : Def K mg "open_of" s_open_of
  d_open_promises : Def K mg "open_promises" s_open_promises
  d_stand_of : Def K mg "stand_of" s_stand_of
  d_double_of : Def K mg "double_of" s_double_of
  d_where : Def K mg "where" s_where
  d_kind_of : Def K mg "kind_of" s_kind_of
  d_is_double : Def K mg "is_double" s_is_double
  d__law_draw : Def K mg "_law_draw" s__law_draw
  d__law_words : Def K mg "_law_words" s__law_words
  d__law_here : Def K mg "_law_here" s__law_here
  d__law_behind : Def K mg "_law_behind" s__law_behind
  d__law_of_thing : Def K mg "_law_of_thing" s__law_of_thing
  d__law_of_houses : Def K mg "_law_of_houses" s__law_of_houses
  d__law_run : Def K mg "_law_run" s__law_run
  d__law_sorts : Def K mg "_law_sorts" s__law_sorts
  d__law_turned : Def K mg "_law_turned" s__law_turned
  d__law_told : Def K mg "_law_told" s__law_told
  d__law_strange_looses : Def K mg "_law_strange_looses" s__law_strange_looses
  d__law_balance_right : Def K mg "_law_balance_right" s__law_balance_right
  d_law : Def K mg "law" s_law
  nRANKS : ∃ o, K.lookup (He.ga K "RANKS") = some o ∧ o.cls = .type "tuple" ∧ o.dict = none
  Going : mg "Going" = some (.ref (gG K))
  clG : Cls K (gG K)
  mkG : Mk K (gG K) (gM K "__init__")
  n_stand : NoAttr K (gG K) "stand"
  n_has_come : NoAttr K (gG K) "has_come"
  n_promised : NoAttr K (gG K) "promised"
  m_takes : Meth K (gG K) "takes" (gM K "takes")
  m_comes : Meth K (gG K) "comes" (gM K "comes")
  m_promises : Meth K (gG K) "promises" (gM K "promises")
  m_looses : Meth K (gG K) "looses" (gM K "looses")
  f___init__ : ∃ fd, FunD K "__init__" "Going.__init__" (defArgs s_Going___init__) (defBody s_Going___init__) (defScope s_Going___init__) [] [] (gM K "__init__") fd
  f_takes : ∃ fd, FunD K "takes" "Going.takes" (defArgs s_Going_takes) (defBody s_Going_takes) (defScope s_Going_takes) [] [] (gM K "takes") fd
  f_comes : ∃ fd, FunD K "comes" "Going.comes" (defArgs s_Going_comes) (defBody s_Going_comes) (defScope s_Going_comes) [] [] (gM K "comes") fd
  f_promises : ∃ fd, FunD K "promises" "Going.promises" (defArgs s_Going_promises) (defBody s_Going_promises) (defScope s_Going_promises) [] [] (gM K "promises") fd
  f_looses : ∃ fd, FunD K "looses" "Going.looses" (defArgs s_Going_looses) (defBody s_Going_looses) (defScope s_Going_looses) [] [] (gM K "looses") fd
section
variable {w : World} {K : PySem.W.Frag} {h : Heap} {mg : Str → Option Value}
theorem ent_ok {x : Str} {k : Str} {vs : List He.Dv} {ds : List PyData} (D : ∃ es n, KDict K w (He.ga K x) es n) (h : entB K x (k, vs) = true) (hp : Paired (fun v d => fl d = some (v.v K)) vs ds) : ∃ a, KDct K w (He.ga K x) k (.ref a) ∧ ∀ B, Rp K B (.ref a) (.tuple ds) := by
  obtain ⟨es, n, D⟩ := D
  unfold entB at h
  cases q : PySem.W.nsIn K (He.ga K x) k with
  | none => rw [q] at h; cases h
  | some o =>
    rw [q] at h
    cases o with
    | none => cases h
    | some v =>
      cases v with
      | ref a =>
        refine ⟨a, ⟨es, n, .ref a, D.at_, D.lit, q, rfl⟩, fun B => ?_⟩
        have h : (match K.lookup a with
          | some ⟨.type c, _, .seq its _, _⟩ => decide (c = "tuple") && (decide (its.size ≤ sizeLine) && He.relAll (vs.map (He.Dv.v K)) its.toList)
          | _ => false) = true := h
        cases e : K.lookup a with
        | none => rw [e] at h; cases h
        | some o =>
          rw [e] at h
          obtain ⟨oc, od, dt, osl⟩ := o
          cases oc with
          | type c =>
            cases dt with
            | seq its m =>
              obtain ⟨h1, h2⟩ := He.ba h
              obtain ⟨h3, h4⟩ := He.ba h2
              exact .tup (.inr ⟨_, its, m, e, congrArg Value.type (of_decide_eq_true h1), rfl, of_decide_eq_true h3, He.relAll_ok h4⟩) (rp_dv hp)
            | _ => cases h
          | _ => cases dt <;> cases h
      | _ => cases h
theorem val_ok {x k : Str} {v : He.Dv} {kvs : List (Str × He.Dv)} (D : ∃ es n, KDict K w (He.ga K x) es n) (h : He.valsB K (He.ga K x) kvs = true) (hq : (k, v) ∈ kvs) : KDct K w (He.ga K x) k (v.v K) := by
  obtain ⟨es, n, D⟩ := D
  obtain ⟨u, h1, h2⟩ := He.valsB_ok h hq
  exact ⟨es, n, u, D.at_, D.lit, h1, h2⟩
theorem tup_ok {x : Str} {vs : List He.Dv} {ds : List PyData} (h : He.tupB K x vs = true) (hp : Paired (fun v d => fl d = some (v.v K)) vs ds) (B : Hp) : Rp K B (.ref (He.ga K x)) (.tuple ds) := .tup (He.tupB_ok h B) (rp_dv hp)
theorem tup_cls {x : Str} {vs : List He.Dv} (h : He.tupB K x vs = true) : ∃ o, K.lookup (He.ga K x) = some o ∧ o.cls = .type "tuple" := by
  unfold He.tupB at h
  cases q : K.lookup (He.ga K x) with
  | none => rw [q] at h; cases h
  | some o =>
    obtain ⟨oc, od, dt, osl⟩ := o
    rw [q] at h
    cases oc with
    | type c =>
      cases dt with
      | seq its n =>
        obtain ⟨h1, h2⟩ := He.ba (show (decide (c = "tuple") && (decide (its.size ≤ sizeLine) && He.relAll (vs.map (He.Dv.v K)) its.toList)) = true from h)
        exact ⟨_, rfl, congrArg Value.type (of_decide_eq_true h1)⟩
      | _ => cases h
    | _ => cases dt <;> cases h
theorem tup_plain {x : Str} {vs : List He.Dv} (h : He.tupB K x vs = true) (h2 : noDict K x = true) : ∃ o, K.lookup (He.ga K x) = some o ∧ o.cls = .type "tuple" ∧ o.dict = none := by
  obtain ⟨o, e1, e2⟩ := tup_cls h
  refine ⟨o, e1, e2, ?_⟩
  unfold noDict at h2
  rw [e1] at h2
  exact Option.isNone_iff_eq_none.mp h2
theorem mg_def {x : Str} {st : Stmt} (c : He.SaysD fa fn K) (i j : Nat) (X : K.In h) (G : h.Ns mainGlobals mg) (hi : fa[i]? = some (.glo x)) (hj : fn[j]? = some ⟨(x, none), x, x, defArgs st, defBody st, defScope st, [], []⟩) : Def K mg x st := by
  obtain ⟨fd, F⟩ := c.def_ j hj
  exact ⟨_, fd, He.glo_ok X G (c.fact i hi), F⟩
theorem tx_mk {hp : Heap} (s : He.SaysX fa fn ts [] ex w hp K) (X : K.In h) (G : h.Ns mainGlobals mg) : Tx w K mg := by
  have c := s.t.d
  obtain ⟨e0, m0⟩ := He.ba s.more
  obtain ⟨e1, m1⟩ := He.ba m0
  obtain ⟨e2, m2⟩ := He.ba m1
  obtain ⟨e3, m3⟩ := He.ba m2
  obtain ⟨e4, m4⟩ := He.ba m3
  obtain ⟨e5, m5⟩ := He.ba m4
  obtain ⟨e6, m6⟩ := He.ba m5
  obtain ⟨e7, m7⟩ := He.ba m6
  obtain ⟨e8, m8⟩ := He.ba m7
  obtain ⟨e9, m9⟩ := He.ba m8
  have e10 := m9
  have DFORMS : ∃ es n, KDict K w (He.ga K "FORMS") es n := s.t.tab 0 rfl
  have DHOUSES : ∃ es n, KDict K w (He.ga K "HOUSES") es n := s.t.tab 1 rfl
  exact {
    isinstance := He.free_ok X G (c.fact 85 rfl)
    str := He.free_ok X G (c.fact 86 rfl)
    int := He.free_ok X G (c.fact 87 rfl)
    bool := He.free_ok X G (c.fact 88 rfl)
    len := He.free_ok X G (c.fact 89 rfl)
    all := He.free_ok X G (c.fact 90 rfl)
    zip := He.free_ok X G (c.fact 91 rfl)
    sorted := He.free_ok X G (c.fact 92 rfl)
    set := He.free_ok X G (c.fact 93 rfl)
    tuple := He.free_ok X G (c.fact 94 rfl)
    list := He.free_ok X G (c.fact 95 rfl)
    sum := He.free_ok X G (c.fact 96 rfl)
    min := He.free_ok X G (c.fact 97 rfl)
    range := He.free_ok X G (c.fact 98 rfl)
    abs := He.free_ok X G (c.fact 99 rfl)
    LETTERS := He.str_ok X G (c.fact 64 rfl)
    LONGEST_WORD := He.int_ok X G (c.fact 65 rfl)
    LAST_DAY := He.int_ok X G (c.fact 66 rfl)
    MOST_DAYS := He.int_ok X G (c.fact 67 rfl)
    MOST_WORTH := He.int_ok X G (c.fact 68 rfl)
    MOST_WEIGHT := He.int_ok X G (c.fact 69 rfl)
    RANKS := He.glo_ok X G (c.fact 70 rfl)
    rRANKS := tup_ok e0 (.cons rfl (.cons rfl (.cons rfl (.cons rfl (.cons rfl (.cons rfl (.cons rfl (.cons rfl (.cons rfl (.cons rfl (.cons rfl (.cons rfl (.nil)))))))))))))
    tRANKS := tup_cls e0
    FORMS := He.glo_ok X G (c.fact 71 rfl)
    DFORMS := DFORMS
    FORMS_comes := val_ok (v := .str "wdwww") DFORMS e1 (List.mem_of_getElem? (i := 0) rfl)
    FORMS_trial := val_ok (v := .str "wdwwwt") DFORMS e1 (List.mem_of_getElem? (i := 1) rfl)
    FORMS_back := val_ok (v := .str "wdwwt") DFORMS e1 (List.mem_of_getElem? (i := 2) rfl)
    FORMS_keep := val_ok (v := .str "wdwwm") DFORMS e1 (List.mem_of_getElem? (i := 3) rfl)
    FORMS_give := val_ok (v := .str "wdwwwtm") DFORMS e1 (List.mem_of_getElem? (i := 4) rfl)
    FORMS_goes := val_ok (v := .str "wdww") DFORMS e1 (List.mem_of_getElem? (i := 5) rfl)
    FORMS_double := val_ok (v := .str "wdww") DFORMS e1 (List.mem_of_getElem? (i := 6) rfl)
    FORMS_promise := val_ok (v := .str "wdwwwd") DFORMS e1 (List.mem_of_getElem? (i := 7) rfl)
    FORMS_loose := val_ok (v := .str "wdw") DFORMS e1 (List.mem_of_getElem? (i := 8) rfl)
    FORMS_want := val_ok (v := .str "wdwwg") DFORMS e1 (List.mem_of_getElem? (i := 9) rfl)
    FORMS_owe := val_ok (v := .str "wdwwp") DFORMS e1 (List.mem_of_getElem? (i := 10) rfl)
    FORMS_pay := val_ok (v := .str "wdwwp") DFORMS e1 (List.mem_of_getElem? (i := 11) rfl)
    HOUSES := He.glo_ok X G (c.fact 72 rfl)
    DHOUSES := DHOUSES
    HOUSES_comes := ent_ok DHOUSES (List.all_eq_true.mp e2 _ (List.mem_of_getElem? (i := 0) rfl)) (.cons rfl (.nil))
    HOUSES_trial := ent_ok DHOUSES (List.all_eq_true.mp e2 _ (List.mem_of_getElem? (i := 1) rfl)) (.cons rfl (.cons rfl (.nil)))
    HOUSES_back := ent_ok DHOUSES (List.all_eq_true.mp e2 _ (List.mem_of_getElem? (i := 2) rfl)) (.cons rfl (.nil))
    HOUSES_keep := ent_ok DHOUSES (List.all_eq_true.mp e2 _ (List.mem_of_getElem? (i := 3) rfl)) (.cons rfl (.nil))
    HOUSES_give := ent_ok DHOUSES (List.all_eq_true.mp e2 _ (List.mem_of_getElem? (i := 4) rfl)) (.cons rfl (.cons rfl (.nil)))
    HOUSES_goes := ent_ok DHOUSES (List.all_eq_true.mp e2 _ (List.mem_of_getElem? (i := 5) rfl)) (.cons rfl (.nil))
    HOUSES_double := ent_ok DHOUSES (List.all_eq_true.mp e2 _ (List.mem_of_getElem? (i := 6) rfl)) (.cons rfl (.nil))
    HOUSES_promise := ent_ok DHOUSES (List.all_eq_true.mp e2 _ (List.mem_of_getElem? (i := 7) rfl)) (.cons rfl (.cons rfl (.nil)))
    HOUSES_loose := ent_ok DHOUSES (List.all_eq_true.mp e2 _ (List.mem_of_getElem? (i := 8) rfl)) (.nil)
    HOUSES_want := ent_ok DHOUSES (List.all_eq_true.mp e2 _ (List.mem_of_getElem? (i := 9) rfl)) (.cons rfl (.nil))
    HOUSES_owe := ent_ok DHOUSES (List.all_eq_true.mp e2 _ (List.mem_of_getElem? (i := 10) rfl)) (.cons rfl (.cons rfl (.nil)))
    HOUSES_pay := ent_ok DHOUSES (List.all_eq_true.mp e2 _ (List.mem_of_getElem? (i := 11) rfl)) (.cons rfl (.cons rfl (.nil)))
    OF_THINGS := He.glo_ok X G (c.fact 73 rfl)
    rOF_THINGS := tup_ok e3 (.cons rfl (.cons rfl (.cons rfl (.cons rfl (.cons rfl (.cons rfl (.cons rfl (.cons rfl (.nil)))))))))
    tOF_THINGS := tup_cls e3
    OF_KINDS := He.glo_ok X G (c.fact 74 rfl)
    rOF_KINDS := tup_ok e4 (.cons rfl (.cons rfl (.nil)))
    tOF_KINDS := tup_cls e4
    LEAST_HOUSES := He.int_ok X G (c.fact 75 rfl)
    MOST_HOUSES := He.int_ok X G (c.fact 76 rfl)
    MOST_PAGES := He.int_ok X G (c.fact 77 rfl)
    MOST_THINGS := He.int_ok X G (c.fact 78 rfl)
    MOST_KINDS := He.int_ok X G (c.fact 79 rfl)
    OUT := He.glo_ok X G (c.fact 80 rfl)
    rOUT := tup_ok e5 (.cons rfl (.nil))
    tOUT := tup_cls e5
    ALWAYS := He.glo_ok X G (c.fact 81 rfl)
    rALWAYS := tup_ok e6 (.cons rfl (.cons rfl (.cons rfl (.nil))))
    tALWAYS := tup_cls e6
    NONE := He.glo_ok X G (c.fact 82 rfl)
    rNONE := tup_ok e7 (.cons rfl (.nil))
    tNONE := tup_cls e7
    OPEN := He.glo_ok X G (c.fact 83 rfl)
    rOPEN := tup_ok e8 (.cons rfl (.nil))
    tOPEN := tup_cls e8
    LAPSED := He.glo_ok X G (c.fact 84 rfl)
    rLAPSED := tup_ok e9 (.cons rfl (.nil))
    tLAPSED := tup_cls e9
    d_is_word := mg_def c 0 0 X G rfl rfl
    d_is_from_to := mg_def c 1 1 X G rfl rfl
    d_is_day := mg_def c 2 2 X G rfl rfl
    d_is_part := mg_def c 3 3 X G rfl rfl
    d_is_page := mg_def c 4 4 X G rfl rfl
    d_houses_in := mg_def c 5 5 X G rfl rfl
    d_things_in := mg_def c 6 6 X G rfl rfl
    d_kinds_in := mg_def c 7 7 X G rfl rfl
    d_page_key := mg_def c 8 8 X G rfl rfl
    d_in_order := mg_def c 9 9 X G rfl rfl
    d_ask_book := mg_def c 10 10 X G rfl rfl
    d_houses_of := mg_def c 11 11 X G rfl rfl
    d_all_named := mg_def c 12 12 X G rfl rfl
    d_pages_in_order := mg_def c 13 13 X G rfl rfl
    d_book_of := mg_def c 14 14 X G rfl rfl
    d_things_of := mg_def c 15 15 X G rfl rfl
    d_arrived := mg_def c 16 16 X G rfl rfl
    d_owner_of := mg_def c 17 17 X G rfl rfl
    d_moved := mg_def c 18 18 X G rfl rfl
    d_track_of := mg_def c 19 24 X G rfl rfl
    d_pages_of := mg_def c 20 25 X G rfl rfl
    d_track := mg_def c 21 26 X G rfl rfl
    d_fitting := mg_def c 22 27 X G rfl rfl
    d_unfit := mg_def c 23 28 X G rfl rfl
    d_dues_of := mg_def c 24 29 X G rfl rfl
    d_plain_dues := mg_def c 25 30 X G rfl rfl
    d_all_dues := mg_def c 26 31 X G rfl rfl
    d_owed_by := mg_def c 27 32 X G rfl rfl
    d_balance_by := mg_def c 28 33 X G rfl rfl
    d_balance := mg_def c 29 34 X G rfl rfl
    d_only := mg_def c 30 35 X G rfl rfl
    d_together := mg_def c 31 36 X G rfl rfl
    d_ending := mg_def c 32 37 X G rfl rfl
    d_became_of := mg_def c 33 38 X G rfl rfl
    d_open_of := mg_def c 34 39 X G rfl rfl
    d_open_promises := mg_def c 35 40 X G rfl rfl
    d_stand_of := mg_def c 36 41 X G rfl rfl
    d_double_of := mg_def c 37 42 X G rfl rfl
    d_where := mg_def c 38 43 X G rfl rfl
    d_kind_of := mg_def c 39 44 X G rfl rfl
    d_is_double := mg_def c 40 45 X G rfl rfl
    d__law_draw := mg_def c 41 46 X G rfl rfl
    d__law_words := mg_def c 42 47 X G rfl rfl
    d__law_here := mg_def c 43 48 X G rfl rfl
    d__law_behind := mg_def c 44 49 X G rfl rfl
    d__law_of_thing := mg_def c 45 50 X G rfl rfl
    d__law_of_houses := mg_def c 46 51 X G rfl rfl
    d__law_run := mg_def c 47 52 X G rfl rfl
    d__law_sorts := mg_def c 48 53 X G rfl rfl
    d__law_turned := mg_def c 49 54 X G rfl rfl
    d__law_told := mg_def c 50 55 X G rfl rfl
    d__law_strange_looses := mg_def c 51 56 X G rfl rfl
    d__law_balance_right := mg_def c 52 57 X G rfl rfl
    d_law := mg_def c 53 58 X G rfl rfl
    nRANKS := tup_plain e0 e10
    Going := He.glo_ok X G (c.fact 54 rfl)
    clG := He.cls_ok (c.fact 55 rfl)
    mkG := He.mkr_ok (c.fact 56 rfl)
    n_stand := He.noat_ok (c.fact 57 rfl)
    n_has_come := He.noat_ok (c.fact 58 rfl)
    n_promised := He.noat_ok (c.fact 59 rfl)
    m_takes := He.meth_ok (c.fact 60 rfl)
    m_comes := He.meth_ok (c.fact 61 rfl)
    m_promises := He.meth_ok (c.fact 62 rfl)
    m_looses := He.meth_ok (c.fact 63 rfl)
    f___init__ := c.def_ 19 rfl
    f_takes := c.def_ 20 rfl
    f_comes := c.def_ 21 rfl
    f_promises := c.def_ 22 rfl
    f_looses := c.def_ 23 rfl
  }
end
end K92
end
section -- K92M
set_option maxRecDepth 100000
set_option maxHeartbeats 1000000
/-! The program in plain functions. -/
namespace K92
open PySem

/-- where a thing is -/
inductive Stand where
  | out
  | at_ (h : Str)
  | trial (h o : Str)
  | way (a b : Str) (d : Int)
  | away (a b : Str) (d : Int) (o : Str)
  deriving DecidableEq
def Stand.ds : Stand → List PyData
  | .out => [.str "out"]
  | .at_ h => [.str "at", .str h]
  | .trial h o => [.str "trial", .str h, .str o]
  | .way a b d => [.str "way", .str a, .str b, .int d]
  | .away a b d o => [.str "away", .str a, .str b, .int d, .str o]
abbrev Stand.d (s : Stand) : PyData := .tuple s.ds

def Stand.ok (s : Stand) : Prop := s.d.canLay0 = true
def okS (x : Str) : Prop := (PyData.str x).canLay0 = true
theorem Stand.sh {s : Stand} (h : s.ok) : SeqAt.shaped s.d = true := by
  refine Bool.and_eq_true_iff.mpr ⟨h, decide_eq_true ?_⟩
  cases s <;> (simp only [ds, PyData.depth, PyData.depthAll]; decide)
theorem at_sh {h : Str} (x : okS h) : SeqAt.shaped (.tuple [.str "at", .str h]) = true := Stand.sh (s := .at_ h) (by
  unfold okS at x
  simp only [Stand.ok, Stand.d, Stand.ds, PyData.canLay0, PyData.canLayAll0] at x ⊢
  rw [x]
  decide +kernel)
theorem sbeq (a b : Str) : (a == b) = decide (a = b) := by
  by_cases h : a = b
  · subst h; simp
  · rw [decide_eq_false h]; exact beq_eq_false_iff_ne.mpr h
theorem eqv_at {s : Stand} {h : Str} : PyData.eqv s.d (.tuple [.str "at", .str h]) = decide (s = .at_ h) := by
  have e1 : (("out" : Str) == "at") = false := by decide
  have e2 : (("trial" : Str) == "at") = false := by decide
  have e3 : (("way" : Str) == "at") = false := by decide
  have e4 : (("away" : Str) == "at") = false := by decide
  have e5 : (("at" : Str) == "at") = true := by decide
  cases s <;> simp [Stand.ds, PyData.eqv, PyData.eqvAll, e1, e2, e3, e4, e5]
  rename_i h'
  exact sbeq h' h
inductive Page where
  | comes (n : Str) (day : Int) (t k h : Str)
  | trial (n : Str) (day : Int) (t a b : Str) (y : Int)
  | back (n : Str) (day : Int) (t h : Str) (y : Int)
  | keep (n : Str) (day : Int) (t h : Str) (m : Int)
  | give (n : Str) (day : Int) (t a b : Str) (y m : Int)
  | goes (n : Str) (day : Int) (t h : Str)
  | double (n : Str) (day : Int) (t h : Str)
  | promise (n : Str) (day : Int) (t a b : Str) (due : Int)
  | loose (n : Str) (day : Int) (p : Str)
  | want (n : Str) (day : Int) (h k : Str) (g : Int)
  | owe (n : Str) (day : Int) (a b : Str) (m : Int)
  | pay (n : Str) (day : Int) (a b : Str) (m : Int)
  deriving DecidableEq
namespace Page
def word : Page → Str
  | comes .. => "comes" | trial .. => "trial" | back .. => "back" | keep .. => "keep" | give .. => "give" | goes .. => "goes"
  | double .. => "double" | promise .. => "promise" | loose .. => "loose" | want .. => "want" | owe .. => "owe" | pay .. => "pay"
def rank : Page → Nat
  | comes .. => 0 | trial .. => 1 | back .. => 2 | keep .. => 3 | give .. => 4 | goes .. => 5
  | double .. => 6 | promise .. => 7 | loose .. => 8 | want .. => 9 | owe .. => 10 | pay .. => 11
def name : Page → Str
  | comes n .. => n | trial n .. => n | back n .. => n | keep n .. => n | give n .. => n | goes n .. => n
  | double n .. => n | promise n .. => n | loose n .. => n | want n .. => n | owe n .. => n | pay n .. => n
def day : Page → Int
  | comes _ d .. => d | trial _ d .. => d | back _ d .. => d | keep _ d .. => d | give _ d .. => d | goes _ d .. => d
  | double _ d .. => d | promise _ d .. => d | loose _ d .. => d | want _ d .. => d | owe _ d .. => d | pay _ d .. => d
def ds : Page → List PyData
  | comes n e t k h => [.str "comes", .str n, .int e, .str t, .str k, .str h]
  | trial n e t a b y => [.str "trial", .str n, .int e, .str t, .str a, .str b, .int y]
  | back n e t h y => [.str "back", .str n, .int e, .str t, .str h, .int y]
  | keep n e t h m => [.str "keep", .str n, .int e, .str t, .str h, .int m]
  | give n e t a b y m => [.str "give", .str n, .int e, .str t, .str a, .str b, .int y, .int m]
  | goes n e t h => [.str "goes", .str n, .int e, .str t, .str h]
  | double n e t h => [.str "double", .str n, .int e, .str t, .str h]
  | promise n e t a b u => [.str "promise", .str n, .int e, .str t, .str a, .str b, .int u]
  | loose n e p => [.str "loose", .str n, .int e, .str p]
  | want n e h k g => [.str "want", .str n, .int e, .str h, .str k, .int g]
  | owe n e a b m => [.str "owe", .str n, .int e, .str a, .str b, .int m]
  | pay n e a b m => [.str "pay", .str n, .int e, .str a, .str b, .int m]
abbrev d (p : Page) : PyData := .tuple p.ds
def things : Page → List Str
  | comes _ _ t _ _ => [t] | trial _ _ t _ _ _ => [t] | back _ _ t _ _ => [t] | keep _ _ t _ _ => [t] | give _ _ t _ _ _ _ => [t]
  | goes _ _ t _ => [t] | double _ _ t _ => [t] | promise _ _ t _ _ _ => [t] | _ => []
def kinds : Page → List Str
  | comes _ _ _ k _ => [k] | want _ _ _ k _ => [k] | _ => []
def houses : Page → List Str
  | comes _ _ _ _ h => [h] | trial _ _ _ a b _ => [a, b] | back _ _ _ h _ => [h] | keep _ _ _ h _ => [h] | give _ _ _ a b _ _ => [a, b]
  | goes _ _ _ h => [h] | double _ _ _ h => [h] | promise _ _ _ a b _ => [a, b] | loose .. => [] | want _ _ h _ _ => [h] | owe _ _ a b _ => [a, b] | pay _ _ a b _ => [a, b]
theorem ds_head (p : Page) : ∃ r, p.ds = .str p.word :: .str p.name :: .int p.day :: r := by cases p <;> exact ⟨_, rfl⟩
def ok (p : Page) : Prop := p.d.canLay0 = true
theorem sh {p : Page} (h : p.ok) : SeqAt.shaped p.d = true := by
  refine Bool.and_eq_true_iff.mpr ⟨h, decide_eq_true ?_⟩
  cases p <;> (simp only [ds, PyData.depth, PyData.depthAll]; decide)
theorem ok_houses {p : Page} (h : p.ok) : ∀ x, x ∈ p.houses → okS x := by
  cases p <;> (simp only [ok, ds, PyData.canLay0, PyData.canLayAll0, Bool.and_eq_true] at h; simp [houses, okS, PyData.canLay0, h])
theorem ok_things {p : Page} (h : p.ok) : ∀ x, x ∈ p.things → okS x := by
  cases p <;> (simp only [ok, ds, PyData.canLay0, PyData.canLayAll0, Bool.and_eq_true] at h; simp [things, okS, PyData.canLay0, h])
theorem ok_kinds {p : Page} (h : p.ok) : ∀ x, x ∈ p.kinds → okS x := by
  cases p <;> (simp only [ok, ds, PyData.canLay0, PyData.canLayAll0, Bool.and_eq_true] at h; simp [kinds, okS, PyData.canLay0, h])
theorem ok_name {p : Page} (h : p.ok) : okS p.name := by
  cases p <;> (simp only [ok, ds, PyData.canLay0, PyData.canLayAll0, Bool.and_eq_true] at h; simp [name, okS, PyData.canLay0, h])
end Page

/-! ### tracks -/
def arrived (s : Stand) (day : Int) : Stand := match s with
  | .way a b d => if d ≤ day then .at_ b else .way a b d
  | .away a b d o => if d ≤ day then (if b = o then .at_ o else .trial b o) else .away a b d o
  | s => s
def ownerOf : Stand → Option Str
  | .at_ h => some h
  | .trial _ o => some o
  | .away _ _ _ o => some o
  | _ => none
def moved (p : Page) (s : Stand) : Option Stand := match p with
  | .back _ day _ h y => (match s with
    | .trial a o => if a = h then some (arrived (.away h o (day + y) o) day) else none
    | _ => none)
  | .keep _ _ _ h _ => (match s with
    | .trial a _ => if a = h then some (.at_ h) else none
    | _ => none)
  | .trial _ day _ a b y => if s = .at_ a then some (arrived (.away a b (day + y) a) day) else none
  | .give _ day _ a b y _ => if s = .at_ a then some (arrived (.way a b (day + y)) day) else none
  | .goes _ _ _ h => if s = .at_ h then some .out else none
  | .double _ _ _ h => if s = .at_ h then some s else none
  | _ => none
structure Gst where
  stand : Stand
  come : Bool
  prom : List (Str × Int)
def dropP (l : List (Str × Int)) (k : Str) : List (Str × Int) := l.filter fun q => decide (q.1 ≠ k)
def putP : List (Str × Int) → Str → Int → List (Str × Int)
  | [], k, v => [(k, v)]
  | (j, e) :: r, k, v => if j = k then (j, v) :: r else (j, e) :: putP r k v
def getP : List (Str × Int) → Str → Option Int
  | [], _ => none
  | (j, e) :: r, k => if j = k then some e else getP r k
def takes (g : Gst) (p : Page) : Bool × Gst :=
  let st := arrived g.stand p.day
  match p with
  | .comes _ _ _ _ h => if g.come then (false, { g with stand := st }) else (true, { g with stand := .at_ h, come := true })
  | .promise n _ _ a _ due => if ownerOf st = some a then (true, { g with stand := st, prom := putP g.prom n due }) else (false, { g with stand := st })
  | .loose _ day q => (match getP g.prom q with
    | some due => (decide (day ≤ due), { g with stand := st, prom := dropP g.prom q })
    | none => (false, { g with stand := st }))
  | .want .. => (false, { g with stand := st })
  | .owe .. => (false, { g with stand := st })
  | .pay .. => (false, { g with stand := st })
  | p => (match moved p st with
    | none => (false, { g with stand := st })
    | some s2 => (true, { g with stand := s2, prom := match p with
      | .keep .. => [] | .give .. => [] | .goes .. => [] | _ => g.prom }))
abbrev Row : Type := Str × Bool × Stand
abbrev Row.ds (r : Row) : List PyData := [.str r.1, .bool r.2.1, r.2.2.d]
abbrev Row.d (r : Row) : PyData := .tuple (Row.ds r)
def trackFrom (g : Gst) : List Page → List Row
  | [] => []
  | p :: ps => (p.name, (takes g p).1, (takes g p).2.stand) :: trackFrom (takes g p).2 ps
def Gst.new : Gst := ⟨.out, false, []⟩
def trackOf (ps : List Page) : List Row := trackFrom Gst.new ps
theorem trackFrom_len : ∀ (g : Gst) (ps : List Page), (trackFrom g ps).length = ps.length
  | _, [] => rfl
  | g, p :: ps => by rw [trackFrom, List.length_cons, List.length_cons, trackFrom_len]
theorem track_len (ps : List Page) : ps.length = (trackOf ps).length := (trackFrom_len _ ps).symm
structure Book where
  houses : List Str
  pages : List Page
abbrev Book.ds (b : Book) : List PyData := [.tuple (b.houses.map .str), .tuple (b.pages.map Page.d)]
abbrev Book.d (b : Book) : PyData := .tuple b.ds
def Page.isLoose : Page → Option Str
  | .loose _ _ p => some p
  | _ => none
def isPromOf (t : Str) (p : Page) : Bool := match p with
  | .promise _ _ u _ _ _ => decide (u = t)
  | _ => false
def promNames (ps : List Page) (t : Str) : List Str := (ps.filter (isPromOf t)).map Page.name
def looseIn (names : List Str) (p : Page) : Bool := match p with
  | .loose _ _ q => names.any fun n => decide (n = q)
  | _ => false
def ofThing (names : List Str) (t : Str) (p : Page) : Bool := decide (p.things = [t]) || looseIn names p
def pagesOf (ps : List Page) (t : Str) : List Page := ps.filter (ofThing (promNames ps t) t)
def track (b : Book) (t : Str) : List Row := trackOf (pagesOf b.pages t)

/-! ### stands, promises -/
def standOf (ps : List Page) (rows : List Row) (day : Int) : Stand :=
  arrived ((ps.zip rows).foldl (fun s q => if q.1.day ≤ day then q.2.2.2 else s) .out) day
def Page.isDouble : Page → Bool
  | .double .. => true
  | _ => false
def Page.isPromLoose : Page → Bool
  | .promise .. => true
  | .loose .. => true
  | _ => false
def doubleOf (ps : List Page) (rows : List Row) (day : Int) : Bool :=
  (ps.zip rows).foldl (fun f q => if decide (q.1.day ≤ day) && (q.2.2.1 && !q.1.isPromLoose) then q.1.isDouble else f) false
def kindOf : List Page → Option Str
  | [] => none
  | .comes _ _ _ k _ :: _ => some k
  | _ :: r => kindOf r
inductive End where
  | none_ | open_ | lapsed | loosed (n : Str) | kept (n : Str) | lost (n : Str)
  deriving DecidableEq
def End.ds : End → List PyData
  | .none_ => [.str "none"]
  | .open_ => [.str "open"]
  | .lapsed => [.str "lapsed"]
  | .loosed n => [.str "loosed", .str n]
  | .kept n => [.str "kept", .str n]
  | .lost n => [.str "lost", .str n]
abbrev End.d (e : End) : PyData := .tuple e.ds
structure Prom where
  name : Str
  day : Int
  thing : Str
  one : Str
  other : Str
  due : Int
def Prom.page (q : Prom) : Page := .promise q.name q.day q.thing q.one q.other q.due
def ending (q : Prom) (p : Page) : End := match p with
  | .loose n _ l => if l = q.name then .loosed n else .open_
  | .give n _ _ _ b _ _ => if b = q.other then .kept n else .lost n
  | .keep n _ _ h _ => if h = q.other then .kept n else .lost n
  | .goes n _ _ _ => .lost n
  | _ => .open_
def becameStep (q : Prom) (day : Int) (f : End) (x : Page × Row) : End :=
  if x.1.day ≤ day ∧ x.1 = q.page ∧ x.2.2.1 = true then .open_
  else if f = .open_ ∧ x.1.day ≤ min day q.due ∧ x.2.2.1 = true then ending q x.1 else f
def becameOf (ps : List Page) (rows : List Row) (q : Prom) (day : Int) : End :=
  let f := (ps.zip rows).foldl (becameStep q day) .none_
  if f = .open_ ∧ q.due < day then .lapsed else f
def Page.prom? : Page → Option Prom
  | .promise n d t a b e => some ⟨n, d, t, a, b, e⟩
  | _ => none
def openOf (ps : List Page) (rows : List Row) (day : Int) : List Page :=
  ps.filter fun p => match p.prom? with
    | some q => decide (becameOf ps rows q day = .open_)
    | none => false

/-! ### balances -/
structure Due where
  at_ : Int
  who : Str
  whom : Str
  worth : Int
abbrev Due.ds (x : Due) : List PyData := [.int x.at_, .str x.who, .str x.whom, .int x.worth]
abbrev Due.d (x : Due) : PyData := .tuple x.ds
def trialOwner : Stand → Str
  | .trial _ o => o
  | .way _ b _ => b
  | .away _ b _ _ => b
  | _ => ""
def dueOf (s : Stand) (p : Page) (r : Row) : List Due := match p with
  | .give _ d _ a b _ m => if r.2.1 then [⟨d, b, a, m⟩] else []
  | .keep _ d _ h m => if r.2.1 then [⟨d, h, trialOwner (arrived s d), m⟩] else []
  | _ => []
def duesFrom (s : Stand) : List (Page × Row) → List Due
  | [] => []
  | x :: r => dueOf s x.1 x.2 ++ duesFrom x.2.2.2 r
def duesOf (ps : List Page) (rows : List Row) : List Due := duesFrom .out (ps.zip rows)
def plainDue : Page → List Due
  | .owe _ d a b m => [⟨d, a, b, m⟩]
  | .pay _ d a b m => [⟨d, b, a, m⟩]
  | _ => []
def plainDues (ps : List Page) : List Due := ps.flatMap plainDue
def owedBy (some_ : List Due) (one other : Str) (day : Int) : Int := ((some_.filter fun x => decide (x.at_ ≤ day) && (decide (x.who = one) && decide (x.whom = other))).map Due.worth).sum
def balanceBy (some_ : List Due) (one other : Str) (day : Int) : Int := owedBy some_ one other day - owedBy some_ other one day
/-! ### a track's rows as dues see them -/
abbrev lastStand (s : Stand) (l : List (Page × Row)) : Stand := l.foldl (fun _ q => q.2.2.2) s
def Good (s : Stand) (x : Page) (r : Row) : Prop := match x with
  | .keep _ d _ _ _ => r.2.1 = true → ∃ h o, arrived s d = .trial h o
  | _ => True
theorem good_takes (g : Gst) (p : Page) : Good g.stand p (p.name, (takes g p).1, (takes g p).2.stand) := by
  cases p with
  | keep n d t h m =>
    intro q
    show ∃ a o, arrived g.stand d = .trial a o
    have q' : (takes g (.keep n d t h m)).1 = true := q
    cases e : arrived g.stand d with
    | trial a o => exact ⟨a, o, rfl⟩
    | _ =>
      unfold takes at q'
      simp [Page.day, e, moved] at q'
  | _ => trivial
theorem good_from : ∀ (ps : List Page) (g : Gst) (pre post : List (Page × Row)) (x : Page × Row), ps.zip (trackFrom g ps) = pre ++ x :: post → Good (lastStand g.stand pre) x.1 x.2
  | [], _, pre, post, x, h => by cases pre <;> simp [trackFrom] at h
  | p :: ps, g, pre, post, x, h => by
    rw [trackFrom, List.zip_cons_cons] at h
    cases pre with
    | nil =>
      rw [List.nil_append] at h
      obtain ⟨rfl, _⟩ := List.cons.inj h
      exact good_takes g p
    | cons y pre =>
      rw [List.cons_append] at h
      obtain ⟨rfl, h2⟩ := List.cons.inj h
      exact good_from ps _ pre post x h2
theorem duesFrom_snoc : ∀ (l : List (Page × Row)) (s : Stand) (x : Page × Row), duesFrom s (l ++ [x]) = duesFrom s l ++ dueOf (lastStand s l) x.1 x.2
  | [], s, x => by simp [duesFrom]
  | y :: l, s, x => by
    rw [List.cons_append, duesFrom, duesFrom_snoc l, duesFrom, List.append_assoc]
    rfl
theorem dueOf_len (s : Stand) (p : Page) (r : Row) : (dueOf s p r).length ≤ 1 := by
  cases p <;> simp only [dueOf] <;> (first | (split <;> simp) | simp)
theorem duesFrom_len : ∀ (l : List (Page × Row)) (s : Stand), (duesFrom s l).length ≤ l.length
  | [], _ => Nat.le_refl _
  | x :: l, s => by
    rw [duesFrom, List.length_append, List.length_cons]
    have h1 := dueOf_len s x.1 x.2
    have h2 := duesFrom_len l x.2.2.2
    omega
/-! ### equality of pages' data -/
def simpleD : PyData → Bool
  | .int _ => true
  | .str _ => true
  | _ => false
theorem eqv_simple : ∀ xs ys : List PyData, xs.all simpleD = true → ys.all simpleD = true → PyData.eqvAll xs ys = true → xs = ys
  | [], [], _, _, _ => rfl
  | [], _ :: _, _, _, h => by simp [PyData.eqvAll] at h
  | _ :: _, [], _, _, h => by simp [PyData.eqvAll] at h
  | x :: xs, y :: ys, h1, h2, h => by
    rw [PyData.eqvAll, Bool.and_eq_true] at h
    rw [List.all_cons, Bool.and_eq_true] at h1 h2
    have e := eqv_simple xs ys h1.2 h2.2 h.2
    subst e
    have h3 := h1.1
    have h4 := h2.1
    have h5 := h.1
    cases x <;> simp only [simpleD, Bool.false_eq_true] at h3 <;> cases y <;> simp only [simpleD, Bool.false_eq_true] at h4 <;> simp [PyData.eqv] at h5 <;> subst h5 <;> rfl
def rankOf (x : Str) : Nat := if x = "comes" then 0 else if x = "trial" then 1 else if x = "back" then 2 else if x = "keep" then 3 else if x = "give" then 4 else if x = "goes" then 5 else if x = "double" then 6 else if x = "promise" then 7 else if x = "loose" then 8 else if x = "want" then 9 else if x = "owe" then 10 else 11
theorem rankOf_word (p : Page) : rankOf p.word = p.rank := by
  cases p
  · show rankOf "comes" = 0; decide +kernel
  · show rankOf "trial" = 1; decide +kernel
  · show rankOf "back" = 2; decide +kernel
  · show rankOf "keep" = 3; decide +kernel
  · show rankOf "give" = 4; decide +kernel
  · show rankOf "goes" = 5; decide +kernel
  · show rankOf "double" = 6; decide +kernel
  · show rankOf "promise" = 7; decide +kernel
  · show rankOf "loose" = 8; decide +kernel
  · show rankOf "want" = 9; decide +kernel
  · show rankOf "owe" = 10; decide +kernel
  · show rankOf "pay" = 11; decide +kernel
theorem Page.inj {p q : Page} (h : p.ds = q.ds) : p = q := by
  have hw : p.word = q.word := by
    obtain ⟨r1, e1⟩ := p.ds_head
    obtain ⟨r2, e2⟩ := q.ds_head
    rw [e1, e2] at h
    exact PyData.str.inj (List.cons.inj h).1
  have hr : p.rank = q.rank := by rw [← rankOf_word, ← rankOf_word, hw]
  cases p <;> cases q <;> first
    | (simp [Page.rank] at hr; done)
    | (simp only [Page.ds, List.cons.injEq, PyData.str.injEq, PyData.int.injEq, true_and, and_true] at h; simp [h])
theorem Page.simple (p : Page) : p.ds.all simpleD = true := by cases p <;> rfl
theorem eqv_page (p q : Page) : PyData.eqv p.d q.d = decide (p = q) := by
  by_cases h : p = q
  · subst h
    rw [decide_eq_true rfl]
    show PyData.eqvAll p.ds p.ds = true
    have : ∀ xs : List PyData, xs.all simpleD = true → PyData.eqvAll xs xs = true := by
      intro xs
      induction xs with
      | nil => intro _; simp [PyData.eqvAll]
      | cons x xs ih =>
        intro hx
        rw [List.all_cons, Bool.and_eq_true] at hx
        rw [PyData.eqvAll, ih hx.2]
        have h3 := hx.1
        cases x <;> simp only [simpleD, Bool.false_eq_true] at h3 <;> simp [PyData.eqv]
    exact this _ p.simple
  · rw [decide_eq_false h]
    cases e : PyData.eqv p.d q.d with
    | false => rfl
    | true => exact absurd (Page.inj (eqv_simple _ _ p.simple q.simple e)) h
/-! ### ends -/
def End.ok (e : End) : Prop := e.d.canLay0 = true
theorem End.sh {e : End} (h : e.ok) : SeqAt.shaped e.d = true := by
  refine Bool.and_eq_true_iff.mpr ⟨h, decide_eq_true ?_⟩
  cases e <;> (simp only [ds, PyData.depth, PyData.depthAll]; decide)
theorem eqv_open (e : End) : PyData.eqv e.d (.tuple [.str "open"]) = decide (e = .open_) := by
  have e1 : (("none" : Str) == "open") = false := by decide
  have e2 : (("open" : Str) == "open") = true := by decide
  have e3 : (("lapsed" : Str) == "open") = false := by decide
  have e4 : (("loosed" : Str) == "open") = false := by decide
  have e5 : (("kept" : Str) == "open") = false := by decide
  have e6 : (("lost" : Str) == "open") = false := by decide
  cases e <;> simp [End.ds, PyData.eqv, PyData.eqvAll, e1, e2, e3, e4, e5, e6]
theorem End.ok_open : End.ok .open_ := by unfold End.ok; decide +kernel
theorem End.ok_none : End.ok .none_ := by unfold End.ok; decide +kernel
theorem ending_ok {q : Prom} {p : Page} (h : p.ok) : (ending q p).ok := by
  have hn := p.ok_name h
  have k1 : (PyData.str "loosed").canLay0 = true := by decide +kernel
  have k2 : (PyData.str "kept").canLay0 = true := by decide +kernel
  have k3 : (PyData.str "lost").canLay0 = true := by decide +kernel
  have a1 : ∀ n, okS n → End.ok (.loosed n) := fun n h => by unfold okS at h; simp only [End.ok, End.ds, PyData.canLay0, PyData.canLayAll0] at k1 h ⊢; rw [k1, h]; rfl
  have a2 : ∀ n, okS n → End.ok (.kept n) := fun n h => by unfold okS at h; simp only [End.ok, End.ds, PyData.canLay0, PyData.canLayAll0] at k2 h ⊢; rw [k2, h]; rfl
  have a3 : ∀ n, okS n → End.ok (.lost n) := fun n h => by unfold okS at h; simp only [End.ok, End.ds, PyData.canLay0, PyData.canLayAll0] at k3 h ⊢; rw [k3, h]; rfl
  cases p <;> simp only [ending] <;> first
    | exact End.ok_open
    | exact a3 _ hn
    | (split <;> first | exact End.ok_open | exact a1 _ hn | exact a2 _ hn | exact a3 _ hn)
theorem becameStep_ok {q : Prom} {day : Int} {f : End} {x : Page × Row} (hf : f.ok) (hx : x.1.ok) : (becameStep q day f x).ok := by
  unfold becameStep
  split
  · exact End.ok_open
  · split
    · exact ending_ok hx
    · exact hf
theorem became_fold_ok {q : Prom} {day : Int} : ∀ {l : List (Page × Row)} {f : End}, f.ok → (∀ x, x ∈ l → x.1.ok) → (l.foldl (becameStep q day) f).ok
  | [], f, hf, _ => hf
  | x :: l, f, hf, h => by
    rw [List.foldl_cons]
    exact became_fold_ok (becameStep_ok hf (h x (List.mem_cons_self ..))) fun y hy => h y (List.mem_cons_of_mem _ hy)
end K92
end
section -- K92L
set_option maxRecDepth 100000
set_option maxHeartbeats 1000000
namespace K92
open PySem PySem.Spec PyProof.Rows L2
theorem at0 {α : Type} (a : α) (l : List α) : atI (a :: l) 0 = some a := atI_nat (j := 0) rfl
theorem at1 {α : Type} (a b : α) (l : List α) : atI (a :: b :: l) 1 = some b := atI_nat (j := 1) rfl
theorem at2 {α : Type} (a b c : α) (l : List α) : atI (a :: b :: c :: l) 2 = some c := atI_nat (j := 2) rfl
theorem at_if {α : Type} {x y : α} {c : Bool} : atI [x, y] (if c = true then 1 else 0) = some (if c = true then y else x) := by cases c <;> rfl
theorem fa_nil {α : Type} {Q : α → Prop} : ∀ d, d ∈ ([] : List α) → Q d := fun d h => by cases h
theorem fa_cons {α : Type} {Q : α → Prop} {a : α} {l : List α} (h : Q a) (t : ∀ d, d ∈ l → Q d) : ∀ d, d ∈ a :: l → Q d := fun d m => by
  rcases List.mem_cons.mp m with e | m
  · exact e ▸ h
  · exact t d m
theorem pairedGet {α β : Type} {F : α → β → Prop} : ∀ {l : List α} {r : List β} {i : Nat} {a : α}, Paired F l r → l[i]? = some a → ∃ b, r[i]? = some b ∧ F a b
  | _, _, _, _, .nil, h => by simp at h
  | _, _, 0, _, .cons f _, h => by simp at h; subst h; exact ⟨_, rfl, f⟩
  | _, _, i + 1, _, .cons _ t, h => by
    simp at h
    obtain ⟨b, h1, h2⟩ := pairedGet t h
    exact ⟨b, by simpa using h1, h2⟩
section
variable {C : Ctx} {K : PySem.W.Frag} {ρ : List Cell} {t u c : TT} {b a : Bool} {s : S} {N : S → Prop} {R : PyData → Prop} {t1 tz t2 : TS} {te : TE} {d : PyData}
theorem et_andF (h : EvT C K t ρ (Eq b)) (hb : b = false) : EvT C K (tAnd t u) ρ (Eq false) := fun σ B H e o Q q => h σ B H e o _ fun b B1 H1 p g => by
  subst p
  subst hb
  exact q _ B1 H1 rfl g
theorem et_orT (h : EvT C K t ρ (Eq b)) (hb : b = true) : EvT C K (tOr t u) ρ (Eq true) := fun σ B H e o Q q => h σ B H e o _ fun b B1 H1 p g => by
  subst p
  subst hb
  exact q _ B1 H1 rfl g
theorem q_retF (h : EvT C K c s.1 (Eq b)) (hb : b = false) (k : Tr C K tz s N R) : Tr C K (tSeq (tIfS c t1 tNext) tz) s N R := q_ret h (fun e => by rw [hb] at e; cases e) fun _ => k
theorem q_retT (h : EvT C K c s.1 (Eq b)) (hb : b = true) (k : Tr C K t1 s (fun _ => False) R) : Tr C K (tSeq (tIfS c t1 tNext) tz) s N R := q_ret h (fun _ => k) fun e => by rw [hb] at e; cases e
theorem q_retB (h : EvT C K c s.1 (Eq b)) (k1 : b = true → Tr C K t1 s (fun _ => False) R) (k2 : b = false → Tr C K tz s N R) : Tr C K (tSeq (tIfS c t1 tNext) tz) s N R := q_ret h k1 k2
theorem tr_retI (h : Ev C K te s.1 (Eq d)) (k : R d) : Tr C K (tRet te) s N R := tr_ret (h.imp fun _ e => e ▸ k)
theorem ev_tupW {ta : TA} {ds : List PyData} (h : EvA C K ta ρ (Eq ds)) (hl : ds.length ≤ 100000) : Ev C K (tTup ta) ρ (Eq (.tuple ds)) := ev_tup h hl
theorem ev_lstW {ta : TA} {ds : List PyData} (h : EvA C K ta ρ (Eq ds)) (hl : ds.length ≤ 100000) : Ev C K (tLst ta) ρ (Eq (.list ds)) := ev_lst h hl
/-! more on expressions -/
def rNEG : V → Hp → VK → Prop := rU fun i => .int (-i)
theorem un_NEG {X : Cx} : UnR X (unaryOp .USub) rNEG := un_neg
theorem ev_neg {i : Int} (h : Ev C K te ρ (Eq (.int i))) : Ev C K (tUn rNEG te) ρ (Eq (.int (-i))) := fun σ B H e o Q q =>
  h σ B H e o _ fun d v B1 H1 p g r => by
    subst p
    cases r
    exact ⟨i, rfl, q _ _ B1 H1 rfl g (.int _)⟩
def noneD : PyData → Bool
  | .none => true
  | _ => false
theorem rp_none {B : Hp} {v : V} {d : PyData} (r : Rp K B v d) : decide (v = .non) = noneD d := by
  cases r <;> rfl
theorem ev_isN {P : PyData → Prop} (h : Ev C K te ρ P) : Ev C K (tIsN te) ρ (fun d => ∃ x, P x ∧ d = .bool (noneD x)) := fun σ B H e o Q q =>
  h σ B H e o _ fun d v B1 H1 p g r => q (.bool (noneD d)) _ B1 H1 ⟨d, p, rfl⟩ g (by rw [rp_none r]; exact .bl _)
theorem ev_isNE (h : Ev C K te ρ (Eq d)) : Ev C K (tIsN te) ρ (Eq (.bool (noneD d))) := (ev_isN h).imp fun _ ⟨_, e1, e2⟩ => by subst e1; exact e2.symm
theorem ev_notN (h : Ev C K te ρ (Eq d)) : Ev C K (tNotN te) ρ (Eq (.bool (!noneD d))) := fun σ B H e o Q q =>
  h σ B H e o _ fun x v B1 H1 p g r => q _ _ B1 H1 rfl g (by subst p; rw [rp_none r]; exact .bl _)
theorem ev_kd {w : World} {a : Addr} {k : Str} {v : V} {x : PyData} (h : Ev C K te ρ (Eq (.str k))) (hk : KDct K w a k v) (hr : ∀ B, Rp K B v x) : Ev C K (tOp (rIxD K w) (tC (.ref a)) te) ρ (Eq x) := fun σ B H e o Q q =>
  h σ B H e o _ fun x' u B1 H1 p g r => by
    subst p
    cases r
    exact ⟨a, k, v, rfl, rfl, hk, q x v B1 H1 rfl g (hr B1)⟩
/-! slices -/
theorem eo_none : EvO C K tNoPart ρ none := fun σ B H e o Q q => q B H (Gr.refl o)
theorem eo_some {i : Int} (h : Ev C K te ρ (Eq (.int i))) : EvO C K (tPart te) ρ (some i) := fun σ B H e o Q q =>
  h σ B H e o _ fun d v B1 H1 p g r => by
    subst p
    cases r
    exact ⟨i, rfl, q B1 H1 g⟩
def cutD (xs : List PyData) (lo hi : Option Int) : List PyData := (xs.drop (HT.sIx xs.length 0 lo)).take (HT.sIx xs.length xs.length hi - HT.sIx xs.length 0 lo)
theorem rp_cut {B : Hp} {vs : List V} {ds : List PyData} {lo hi : Option Int} (h : RpAll K B vs ds) : RpAll K B (cutV vs lo hi) (cutD ds lo hi) := by
  unfold cutV cutD
  rw [h.length]
  exact RpAll.take _ (RpAll.drop _ h)
theorem ev_sl {tl th : TO} {lo hi : Option Int} {x y : PyData} (h : Ev C K te ρ (Eq x)) (hl : EvO C K tl ρ lo) (hh : EvO C K th ρ hi)
    (k : ∀ B H v, Rp K B v x → C.On B H → ∀ Q : VK, (∀ w B' H', Gr C B H B' H' → Rp K B' w y → Q w H') → rSL K v lo hi H Q) : Ev C K (tSl (rSL K) te tl th) ρ (Eq y) := fun σ B H e o Q q =>
  h σ B H e o _ fun d v B1 H1 p g r => by
    subst p
    refine hl σ B1 H1 (e.mono g.bb) g.on _ fun B2 H2 g2 => ?_
    refine hh σ B2 H2 (e.mono (g.trans g2).bb) g2.on _ fun B3 H3 g3 => ?_
    exact k B3 H3 v (r.mono (g2.trans g3).bb) g3.on Q fun w B4 H4 g4 r4 => q _ _ B4 H4 rfl (((g.trans g2).trans g3).trans g4) r4
theorem cut2 {a b : PyData} {l : List PyData} : cutD (a :: b :: l) none (some 2) = [a, b] := by
  have e : HT.sIx (a :: b :: l).length (a :: b :: l).length (some 2) = 2 := by
    simp only [HT.sIx, List.length_cons]
    rw [if_neg (by decide)]
    show min 2 _ = 2
    omega
  unfold cutD
  rw [e]
  rfl
theorem cut3 {a b c : PyData} {l : List PyData} : cutD (a :: b :: c :: l) none (some 3) = [a, b, c] := by
  have e : HT.sIx (a :: b :: c :: l).length (a :: b :: c :: l).length (some 3) = 3 := by
    simp only [HT.sIx, List.length_cons]
    rw [if_neg (by decide)]
    show min 3 _ = 3
    omega
  unfold cutD
  rw [e]
  rfl
theorem ev_slT {tl th : TO} {lo hi : Option Int} {ds es : List PyData} (h : Ev C K te ρ (Eq (.tuple ds))) (hl : EvO C K tl ρ lo) (hh : EvO C K th ρ hi) (hw : ¬ (HT.sIx ds.length 0 lo = 0 ∧ HT.sIx ds.length ds.length hi = ds.length)) (he : cutD ds lo hi = es) :
    Ev C K (tSl (rSL K) te tl th) ρ (Eq (.tuple es)) := ev_sl h hl hh fun B H v r o Q q => by
  subst he
  cases r with
  | tup hs ha =>
    refine .inr (.inl ⟨_, _, rfl, Evl.ex_t o.ex hs, by rw [ha.length]; exact hw, fun p hp => ?_⟩)
    exact q _ _ _ (Gr.new o (.tup (cutV _ lo hi)) hp) (.tup (SqT.of upd_same) ((rp_cut ha).mono (Gr.new o (.tup (cutV _ lo hi)) hp).bb))
theorem ev_slL {tl th : TO} {lo hi : Option Int} {ds es : List PyData} (h : Ev C K te ρ (Eq (.list ds))) (hl : EvO C K tl ρ lo) (hh : EvO C K th ρ hi) (he : cutD ds lo hi = es) :
    Ev C K (tSl (rSL K) te tl th) ρ (Eq (.list es)) := ev_sl h hl hh fun B H v r o Q q => by
  subst he
  cases r with
  | lst hs ha =>
    refine .inl ⟨_, _, rfl, SqL.of (o.ex _ _ hs), fun p hp => ?_⟩
    exact q _ _ _ (Gr.new o (.lst (cutV _ lo hi)) hp) (.lst upd_same ((rp_cut ha).mono (Gr.new o (.lst (cutV _ lo hi)) hp).bb))
theorem ev_slS {tl th : TO} {lo hi : Option Int} {z y : Str} (h : Ev C K te ρ (Eq (.str z))) (hl : EvO C K tl ρ lo) (hh : EvO C K th ρ hi) (hz : z.length ≤ 100000) (he : cutS z lo hi = y) :
    Ev C K (tSl (rSL K) te tl th) ρ (Eq (.str y)) := ev_sl h hl hh fun B H v r o Q q => by
  subst he
  cases r
  exact .inr (.inr ⟨z, rfl, sz_ok hz, q _ _ _ (Gr.refl o) (.str _)⟩)
/-! zip -/
theorem wk_zip {B : Hp} {a b : Addr} {xs ys : List V} {ds es : List PyData} (h : B a = some (.lst xs)) (h2 : B b = some (.lst ys)) (r : RpAll K B xs ds) (r2 : RpAll K B ys es) (hl : ds.length = es.length) :
    Wk C K (Itz K a b) B ((ds.zip es).map fun q => .tuple [q.1, q.2]) := by
  have hn : ((ds.zip es).map fun q : PyData × PyData => PyData.tuple [q.1, q.2]).length = ds.length := by rw [List.length_map, List.length_zip, ← hl, Nat.min_self]
  refine ⟨fun i B' H hi e o => ?_, fun B' H e o => ?_, fun i B' H x H' hi e o y => ?_⟩
  · rw [hn] at hi
    exact ⟨xs, ys, xs[i]'(by rw [r.length]; exact hi), ys[i]'(by rw [r2.length, ← hl]; exact hi), SqL.of (o.ex _ _ (e _ _ h)), SqL.of (o.ex _ _ (e _ _ h2)), by simp [r.length, hi], by simp [r2.length, ← hl, hi]⟩
  · exact ⟨xs, ys, SqL.of (o.ex _ _ (e _ _ h)), SqL.of (o.ex _ _ (e _ _ h2)), .inl (by rw [r.length, hn]; exact Nat.le_refl _)⟩
  · obtain ⟨T, x1, y1, rfl, hT, rfl, k1, k2⟩ := y
    obtain ⟨d1, e1, s1⟩ := r.get' (k1 xs (SqL.of (o.ex _ _ (e _ _ h))))
    obtain ⟨d2, e2, s2⟩ := r2.get' (k2 ys (SqL.of (o.ex _ _ (e _ _ h2))))
    have g := Gr.new o (.tup [x1, y1]) hT
    refine ⟨.tuple [d1, d2], _, ?_, g, .tup (SqT.of upd_same) (.cons (s1.mono (e.trans g.bb)) (.cons (s2.mono (e.trans g.bb)) .nil))⟩
    have ez : (ds.zip es)[i]? = some (d1, d2) := List.getElem?_zip_eq_some.mpr ⟨e1, e2⟩
    rw [List.getElem?_map, ez]
    rfl
theorem ei_zip' {ta : TA} {PA : List PyData → Prop} {PL : List PyData → Prop} (h : EvA C K ta ρ PA) (k : ∀ ds, PA ds → ∃ xs ys, ds = [.list xs, .list ys] ∧ xs.length = ys.length ∧ PL ((xs.zip ys).map fun q => .tuple [q.1, q.2])) : EvI C K (iZip K ta) ρ PL := fun σ B H e o R q =>
  h σ B H e o _ fun ds vs B1 H1 p g r => by
    obtain ⟨xs, ys, rfl, hl, pl⟩ := k ds p
    cases r with
    | cons r1 r2 =>
      cases r2 with
      | cons r2 r3 =>
        cases r3
        cases r1 with
        | lst h1 a1 =>
          cases r2 with
          | lst h2 a2 => exact ⟨_, _, _, _, rfl, SqL.of (g.on.ex _ _ h1), SqL.of (g.on.ex _ _ h2), q _ _ B1 H1 pl g (wk_zip h1 h2 a1 a2 hl)⟩
theorem ei_zip {ta : TA} {xs ys : List PyData} (h : EvA C K ta ρ (Eq [.list xs, .list ys])) (hl : xs.length = ys.length) : EvI C K (iZip K ta) ρ (Eq ((xs.zip ys).map fun q => .tuple [q.1, q.2])) :=
  ei_zip' h fun _ e => ⟨xs, ys, e.symm, hl, rfl⟩
/-! lists changed in place; dicts -/
theorem tr_ext' {s : S} {N : S → Prop} {R P : PyData → Prop} {i k : Nat} {p : Addr} {ds : List PyData} (hi : s.1[i]? = some (.ref p)) (hk : s.2[k]? = some (p, .lst ds)) (h : Ev C K te s.1 P) (hl : ∀ d, P d → ∃ es, d = .list es ∧ ds.length + es.length ≤ 100000 ∧ N (s.1, s.2.set k (p, .lst (ds ++ es)))) :
    Tr C K (tDrop (tBM K "list" rExtend (tVar i) (tCons te tNil))) s N R := fun B0 H0 D σ B H x n r => by
  obtain ⟨h1, h2, vs, h3, h4⟩ := x.own _ (List.mem_of_getElem? hk)
  refine ⟨.ref p, x.env.ref hi, Or.inl ⟨rfl, vs, SqL.of h3⟩, h σ B H x.env x.g.on _ fun d v B' H' q g r' => ?_⟩
  obtain ⟨es, rfl, hz, hn⟩ := hl d q
  have y := x.step g
  obtain ⟨g1, g2, ws, g3, g4⟩ := y.own _ (List.mem_of_getElem? hk)
  cases r' with
  | lst hs ha =>
    refine ⟨p, _, ws, _, rfl, rfl, g3, g.on.ex _ _ hs, by rw [g4.length, ha.length]; exact sz_ok hz, n _ σ B' _ hn g.bb (y.mut hk ⟨_, upd_same, g4.append ha⟩)⟩
theorem nd_map {kvs : List (Key × V)} {k : Key} {v : V} (h : (kvs.map (·.1)).Nodup) : ((putK kvs k v).map (·.1)).Nodup := by
  unfold putK
  split
  · have e : (kvs.map fun kv => if kv.1 = k then (kv.1, v) else kv).map (·.1) = kvs.map (·.1) := by
      rw [List.map_map]
      apply List.map_congr_left
      intro q _
      show (if q.1 = k then (q.1, v) else q).1 = q.1
      split <;> rfl
    rw [e]
    exact h
  · rename_i hn
    rw [List.map_append]
    refine List.nodup_append.mpr ⟨h, by simp, ?_⟩
    intro a ha b hb
    simp at hb
    subst hb
    intro e
    subst e
    obtain ⟨q, hq, e⟩ := List.mem_map.mp ha
    exact hn (List.any_eq_true.mpr ⟨q, hq, by simp [e]⟩)
/-- found[key] = value -/
theorem tr_dput' {s : S} {N : S → Prop} {R P : PyData → Prop} {tk tv : TE} {i j : Nat} {p : Addr} {es : List (PyData × PyData)} {k : Str} (hi : s.1[i]? = some (.ref p)) (hk : s.2[j]? = some (p, .dic es)) (hl : es.length < 100000)
    (hv : Ev C K tv s.1 P) (hx : Ev C K tk s.1 (Eq (.str k))) (hn : ∀ d, P d → N (s.1, s.2.set j (p, .dic (putE es k d)))) : Tr C K (sDPut (tVar i) tk tv) s N R := fun B0 H0 D σ B H x n r =>
  hv σ B H x.env x.g.on _ fun d v B1 H1 q g1 r1 => by
    have x1 := x.step g1
    refine ⟨.ref p, x1.env.ref hi, hx σ B1 H1 x1.env x1.g.on _ fun d2 u B2 H2 q2 g2 r2 => ?_⟩
    subst q2
    cases r2
    have y := x1.step g2
    obtain ⟨a1, a2, kvs, a3, a4, a5⟩ := y.own _ (List.mem_of_getElem? hk)
    refine ⟨p, _, rfl, DPut.k (k := Sum.inr k) a3 (by rw [a4.length]; exact Evl.sz_lt hl), n _ σ B2 _ (hn d q) (g1.trans g2).bb (y.mut hk ⟨_, upd_same, a4.put (r1.mono g2.bb) a5, nd_map a5⟩)⟩
/-- found.setdefault(key, value) -/
theorem tr_dsetd {s : S} {N : S → Prop} {R : PyData → Prop} {tk tv : TE} {d : PyData} {i j : Nat} {p : Addr} {es : List (PyData × PyData)} {k : Str} (hi : s.1[i]? = some (.ref p)) (hk : s.2[j]? = some (p, .dic es)) (hl : es.length < 100000)
    (hx : Ev C K tk s.1 (Eq (.str k))) (hv : Ev C K tv s.1 (Eq d)) (hn : N (s.1, s.2.set j (p, .dic (match getE es k with | some _ => es | none => putE es k d)))) : Tr C K (tDrop (tDSetd (tVar i) tk tv)) s N R := fun B0 H0 D σ B H x n r => by
  obtain ⟨c1, c2, kv0, c3, c4, c5⟩ := x.own _ (List.mem_of_getElem? hk)
  refine ⟨.ref p, x.env.ref hi, p, rfl, .inl ⟨kv0, .inl c3⟩, hx σ B H x.env x.g.on _ fun d2 u B1 H1 q1 g1 r1 => hv σ B1 H1 (x.env.mono g1.bb) g1.on _ fun d3 v B2 H2 q2 g2 r2 => ?_⟩
  subst q1
  subst q2
  cases r1
  have y := (x.step g1).step g2
  obtain ⟨a1, a2, kvs, a3, a4, a5⟩ := y.own _ (List.mem_of_getElem? hk)
  refine ⟨kvs, Sum.inr k, a3, rfl, by rw [a4.length]; exact Evl.sz_lt hl, fun v' hv' => ?_, fun hv' => ?_⟩
  · have e : ∃ d', getE es k = some d' := by
      cases q : getE es k with
      | some d' => exact ⟨d', rfl⟩
      | none => rw [a4.get0 q] at hv'; cases hv'
    obtain ⟨d', e⟩ := e
    rw [e] at hn
    have e3 : s.2.set j (p, Oc.dic es) = s.2 := by
      apply List.ext_getElem?
      intro m
      by_cases z : j = m
      · subst z
        rw [List.getElem?_set_self (List.getElem?_eq_some_iff.mp hk).1, hk]
      · rw [List.getElem?_set_ne z]
    have hn' : N s := by
      have h : N (s.1, s.2.set j (p, Oc.dic es)) := hn
      rw [e3] at h
      exact h
    exact n _ σ B2 _ hn' (g1.trans g2).bb y
  · have e : getE es k = none := by
      cases q : getE es k with
      | none => rfl
      | some d' =>
        obtain ⟨v', q1, _⟩ := a4.get1 q
        rw [q1] at hv'
        cases hv'
    rw [e] at hn
    exact n _ σ B2 _ hn (g1.trans g2).bb (y.mut hk ⟨_, upd_same, a4.put r2 a5, nd_map a5⟩)
/-- d[key], d a dict that stands -/
theorem ev_dget {td tk : TE} {es : List (PyData × PyData)} {k : Str} (h : Ev C K td ρ (Eq (.dict es))) (hx : Ev C K tk ρ (Eq (.str k))) (hd : getE es k = some d) : Ev C K (tDGet td tk) ρ (Eq d) := fun σ B H e o Q q =>
  h σ B H e o _ fun d1 v B1 H1 q1 g1 r1 => hx σ B1 H1 (e.mono g1.bb) g1.on _ fun d2 u B2 H2 q2 g2 r2 => by
    subst q1
    subst q2
    cases r2
    cases r1 with
    | dic hs ha =>
      obtain ⟨v, e1, e2⟩ := ha.get1 hd
      refine ⟨_, v, rfl, ?_, q _ _ B2 H2 rfl (g1.trans g2) (e2.mono g2.bb)⟩
      have hh := g2.on.ex _ _ (g2.bb _ _ hs)
      have z := DGet.k (k := Sum.inr k) hh
      rw [e1] at z
      exact z
/-! targets of an assignment -/
theorem tr_asgG {s : S} {N : S → Prop} {R : PyData → Prop} {g : TG} {is : List Nat} {ρ' : List Cell} (h : Ev C K te s.1 (Eq d)) (ht : Tg K g is s.1 d ρ') (hn : N (ρ', s.2)) : Tr C K (tAsg te g) s N R := fun B0 H0 D σ B H x n r =>
  h σ B H x.env x.g.on _ fun d' v B' H' p gg r' => by
    subst p
    have y := x.step gg
    exact ht σ B' H' v y.env gg.on.ex r' _ fun σ' e' _ => n _ σ' B' H' hn gg.bb (y.envOf e')
theorem q_asgG {s : S} {N : S → Prop} {R : PyData → Prop} {g : TG} {is : List Nat} {ρ' : List Cell} {tz : TS} (h : Ev C K te s.1 (Eq d)) (ht : Tg K g is s.1 d ρ') (k : Tr C K tz (ρ', s.2) N R) : Tr C K (tSeq (tAsg te g) tz) s N R :=
  tr_seq (N1 := Eq (ρ', s.2)) (tr_asgG h ht rfl) fun _ e => e ▸ k
abbrev anyS : List Nat := List.range 64
theorem q_asgA {s : S} {N : S → Prop} {R : PyData → Prop} {g : TG} {ρ' : List Cell} {tz : TS} (h : Ev C K te s.1 (Eq d)) (ht : Tg K g anyS s.1 d ρ') (k : Tr C K tz (ρ', s.2) N R) : Tr C K (tSeq (tAsg te g) tz) s N R := q_asgG h ht k
theorem tg_tupW {is : List Nat} {ρ2 : List Cell} {ds : List PyData} {t : TGs} {n : Nat} (h : Tgs K t is ρ ds ρ2) (hn : ds.length = n) : Tg K (gTup K n t) is ρ (.tuple ds) ρ2 := tg_tup h hn
theorem lc_T : EvT C K tYes ρ (Eq true) := fun σ B H e o Q q => q true B H rfl (Gr.refl o)
theorem ev_lcM {wi : TI} {g : TG} {tt : TT} {vs : List Nat} {ds es : List PyData} (h : EvI C K wi ρ (Eq ds)) (hl : ds.length ≤ 100000)
    (hs : Paired (fun d e => ∃ ρ', Tg K g vs (wipeC ρ vs) d ρ' ∧ EvT C K tt ρ' (Eq true) ∧ (true = true → Ev C K te ρ' (Eq e))) ds es) : Ev C K (tLc wi g tt te vs) ρ (Eq (.list es)) := by
  have hn : ds.length = es.length := Paired.length hs
  refine ev_lc' h (fun _ j acc => acc = es.take j) (fun _ e => e ▸ hl) (fun _ _ => rfl) ?_ ?_
  · rintro ds' j d acc rfl hd rfl hlen
    obtain ⟨e, he, ρ', h1, h2, h3⟩ := pairedGet hs hd
    refine ⟨ρ', _, Eq e, h1, h2, fun _ => h3 rfl, fun hf => ?_, fun _ x hx => ?_⟩
    · cases hf
    · subst hx
      rw [List.take_add_one, he]
      rfl
  · rintro ds' acc rfl e
    rw [e, hn, List.take_length]
theorem lcI {g : TG} {vs : List Nat} {ρ0 ρ' : List Cell} {P : Bool → Prop} {b : Bool} {P2 : PyData → Prop} {tt : TT} (h1 : Tg K g vs ρ0 d ρ') (h2 : EvT C K tt ρ' P) (h3 : b = true → Ev C K te ρ' P2) :
    ∃ ρ', Tg K g vs ρ0 d ρ' ∧ EvT C K tt ρ' P ∧ (b = true → Ev C K te ρ' P2) := ⟨ρ', h1, h2, h3⟩
theorem q_par {s : S} {N : S → Prop} {R : PyData → Prop} {tz : TS} {i j : Nat} {ta : TA} {x y : PyData} (h : EvA C K ta s.1 (Eq [x, y])) (k : Tr C K tz ((s.1.set i (.val x)).set j (.val y), s.2) N R) : Tr C K (tSeq (tPar i j ta) tz) s N R := fun B0 H0 D σ B H z n r =>
  h σ B H z.env z.g.on _ fun ds vs B1 H1 p g rr => by
    subst p
    have y1 := z.step g
    cases rr with
    | cons r1 rr =>
      cases rr with
      | cons r2 rr =>
        cases rr
        refine ⟨_, _, rfl, ?_⟩
        exact k B0 H0 D _ B1 H1 (y1.envOf ((y1.env.setV r1).setV r2)) (fun s' σ' B2 H2 p2 e2 x2 => n s' σ' B2 H2 p2 (g.bb.trans e2) x2) r
theorem q_par3 {s : S} {N : S → Prop} {R : PyData → Prop} {tz : TS} {i j l : Nat} {ta : TA} {x y u : PyData} (h : EvA C K ta s.1 (Eq [x, y, u])) (k : Tr C K tz (((s.1.set i (.val x)).set j (.val y)).set l (.val u), s.2) N R) : Tr C K (tSeq (tPar3 i j l ta) tz) s N R := fun B0 H0 D σ B H z n r =>
  h σ B H z.env z.g.on _ fun ds vs B1 H1 p g rr => by
    subst p
    have y1 := z.step g
    cases rr with
    | cons r1 rr =>
      cases rr with
      | cons r2 rr =>
        cases rr with
        | cons r3 rr =>
          cases rr
          refine ⟨_, _, _, rfl, ?_⟩
          exact k B0 H0 D _ B1 H1 (y1.envOf (((y1.env.setV r1).setV r2).setV r3)) (fun s' σ' B2 H2 p2 e2 x2 => n s' σ' B2 H2 p2 (g.bb.trans e2) x2) r
theorem et_andT {a : Bool} (h : EvT C K t ρ (Eq a)) (ha : a = true) (h2 : EvT C K u ρ (Eq b)) : EvT C K (tAnd t u) ρ (Eq b) := EvT.is (et_and h fun _ => h2) (by rw [ha]; rfl)
theorem et_orF {a : Bool} (h : EvT C K t ρ (Eq a)) (ha : a = false) (h2 : EvT C K u ρ (Eq b)) : EvT C K (tOr t u) ρ (Eq b) := EvT.is (et_or h fun _ => h2) (by rw [ha]; rfl)
theorem q_app {s : S} {N : S → Prop} {R : PyData → Prop} {tz : TS} {i k : Nat} {p : Addr} {ds : List PyData} (hi : s.1[i]? = some (.ref p)) (hk : s.2[k]? = some (p, .lst ds)) (hl : ds.length < 100000) (h : Ev C K te s.1 (Eq d)) (kk : Tr C K tz (s.1, s.2.set k (p, .lst (ds ++ [d]))) N R) :
    Tr C K (tSeq (tDrop (tBM K "list" rAppend (tVar i) (tCons te tNil))) tz) s N R := tr_seq (N1 := Eq (s.1, s.2.set k (p, .lst (ds ++ [d])))) (tr_app hi hk hl h rfl) fun _ e => e ▸ kk
theorem ev_andVF {ta tb : TE} {a : Bool} (h1 : Ev C K ta ρ (Eq (.bool a))) (ha : a = false) : Ev C K (tAndV ta tb) ρ (Eq (.bool false)) := Ev.is (ev_andV (b := false) h1 fun e => by rw [ha] at e; cases e) (by rw [ha]; rfl)
theorem ev_andVT {ta tb : TE} {a b : Bool} (h1 : Ev C K ta ρ (Eq (.bool a))) (ha : a = true) (h2 : Ev C K tb ρ (Eq (.bool b))) : Ev C K (tAndV ta tb) ρ (Eq (.bool b)) := Ev.is (ev_andV h1 fun _ => h2) (by rw [ha]; rfl)
theorem ev_orVT {ta tb : TE} {a : Bool} (h1 : Ev C K ta ρ (Eq (.bool a))) (ha : a = true) : Ev C K (tOrV ta tb) ρ (Eq (.bool true)) := Ev.is (ev_orV (b := false) h1 fun e => by rw [ha] at e; cases e) (by rw [ha]; rfl)
theorem ev_orVF {ta tb : TE} {a b : Bool} (h1 : Ev C K ta ρ (Eq (.bool a))) (ha : a = false) (h2 : Ev C K tb ρ (Eq (.bool b))) : Ev C K (tOrV ta tb) ρ (Eq (.bool b)) := Ev.is (ev_orV h1 fun _ => h2) (by rw [ha]; rfl)
/-! ifs that go on -/
theorem q_i {s : S} {N : S → Prop} {R : PyData → Prop} {b : Bool} {c : TT} {t1 t2 tz : TS} (h : EvT C K c s.1 (Eq b)) (k1 : b = true → Tr C K (tSeq t1 tz) s N R) (k2 : b = false → Tr C K (tSeq t2 tz) s N R) : Tr C K (tSeq (tIfS c t1 t2) tz) s N R := fun B0 H0 D σ B H x n r =>
  h σ B H x.env x.g.on _ fun b' B' H' p g => by
    subst p
    have y := x.step g
    cases b with
    | true => exact k1 rfl B0 H0 D σ B' H' y (fun s' σ' B2 H2 p2 e2 x2 => n s' σ' B2 H2 p2 (g.bb.trans e2) x2) r
    | false => exact k2 rfl B0 H0 D σ B' H' y (fun s' σ' B2 H2 p2 e2 x2 => n s' σ' B2 H2 p2 (g.bb.trans e2) x2) r
theorem q_iT {s : S} {N : S → Prop} {R : PyData → Prop} {b : Bool} {c : TT} {t1 t2 tz : TS} (h : EvT C K c s.1 (Eq b)) (hb : b = true) (k1 : Tr C K (tSeq t1 tz) s N R) : Tr C K (tSeq (tIfS c t1 t2) tz) s N R := q_i h (fun _ => k1) fun e => by rw [hb] at e; cases e
theorem q_iF {s : S} {N : S → Prop} {R : PyData → Prop} {b : Bool} {c : TT} {t1 t2 tz : TS} (h : EvT C K c s.1 (Eq b)) (hb : b = false) (k2 : Tr C K (tSeq t2 tz) s N R) : Tr C K (tSeq (tIfS c t1 t2) tz) s N R := q_i h (fun e => by rw [hb] at e; cases e) fun _ => k2
theorem q_nx {s : S} {N : S → Prop} {R : PyData → Prop} {tz : TS} (k : Tr C K tz s N R) : Tr C K (tSeq tNext tz) s N R := k
theorem q_as {s : S} {N : S → Prop} {R : PyData → Prop} {a b c : TS} (k : Tr C K (tSeq a (tSeq b c)) s N R) : Tr C K (tSeq (tSeq a b) c) s N R := k
theorem q_rt {s : S} {N : S → Prop} {R : PyData → Prop} {tz : TS} (h : Ev C K te s.1 (Eq d)) (k : R d) : Tr C K (tSeq (tRet te) tz) s N R := fun B0 H0 D σ B H x n r => tr_retI (N := N) h k B0 H0 D σ B H x n r
theorem tr_one {s : S} {N : S → Prop} {R : PyData → Prop} {t : TS} (k : Tr C K (tSeq t tNext) s N R) : Tr C K t s N R := k
end
end K92
end
section -- K92N
set_option maxRecDepth 100000
set_option maxHeartbeats 1000000
/-! Comprehensions and loops over encoded lists. -/
namespace K92
open PySem PySem.Spec PyProof.Rows L2
section
variable {α : Type} {C : Ctx} {K : PySem.W.Frag} {ρ : List Cell} {wi : TI} {g : TG} {tt : TT} {te : TE} {vs is : List Nat} {s : S} {N : S → Prop} {R : PyData → Prop} {tb tz : TS}
theorem ev_lcX (enc : α → PyData) (xs : List α) (h : EvI C K wi ρ (Eq (xs.map enc))) (f : α → Bool) (m : α → PyData) (hl : xs.length ≤ 100000)
    (hs : ∀ x, x ∈ xs → ∃ ρ', Tg K g vs (wipeC ρ vs) (enc x) ρ' ∧ EvT C K tt ρ' (Eq (f x)) ∧ (f x = true → Ev C K te ρ' (Eq (m x)))) : Ev C K (tLc wi g tt te vs) ρ (Eq (.list ((xs.filter f).map m))) := by
  refine ev_lc' h (fun _ j acc => acc = ((xs.take j).filter f).map m) (fun _ e => e ▸ by rw [List.length_map]; exact hl) (fun _ _ => rfl) ?_ ?_
  · rintro ds j d acc rfl hd rfl hlen
    rw [List.getElem?_map] at hd
    cases q : xs[j]? with
    | none => rw [q] at hd; cases hd
    | some x =>
      rw [q] at hd
      cases hd
      obtain ⟨ρ', h1, h2, h3⟩ := hs x (List.mem_of_getElem? q)
      have et : xs.take (j + 1) = xs.take j ++ [x] := by rw [List.take_add_one, q]; rfl
      refine ⟨ρ', _, fun e => e = m x, h1, h2, fun ht => (h3 ht).imp fun _ e => e.symm, fun hf => ?_, fun ht e he => ?_⟩
      · rw [et, List.filter_append, List.filter_cons, if_neg (by rw [hf]; simp)]
        simp
      · subst he
        rw [et, List.filter_append, List.filter_cons, if_pos ht]
        simp
  · rintro ds acc rfl e
    rw [e, List.length_map, List.take_length]
/-- the same, all of them kept -/
theorem ev_lcY (enc : α → PyData) (xs : List α) (h : EvI C K wi ρ (Eq (xs.map enc))) (m : α → PyData) (hl : xs.length ≤ 100000)
    (hs : ∀ x, x ∈ xs → ∃ ρ', Tg K g vs (wipeC ρ vs) (enc x) ρ' ∧ EvT C K tt ρ' (Eq true) ∧ (true = true → Ev C K te ρ' (Eq (m x)))) : Ev C K (tLc wi g tt te vs) ρ (Eq (.list (xs.map m))) := by
  have q := ev_lcX (f := fun _ => true) enc xs h m hl (fun x hx => let ⟨a, b, c, d⟩ := hs x hx; ⟨a, b, c, fun _ => d rfl⟩)
  rwa [List.filter_eq_self.mpr fun _ _ => rfl] at q
/-- for x in xs: I holds of what is walked -/
theorem q_forX (enc : α → PyData) (xs : List α) (h : EvI C K wi s.1 (Eq (xs.map enc))) (I : List α → S → Prop) (h0 : I [] s)
    (hs : ∀ pre x post s', xs = pre ++ x :: post → I pre s' → ∃ ρ', Tg K g is s'.1 (enc x) ρ' ∧ Tr C K tb (ρ', s'.2) (I (pre ++ [x])) R) (hd : ∀ s', I xs s' → Tr C K tz s' N R) : Tr C K (tSeq (tFor wi g tb) tz) s N R := by
  refine tr_seq (N1 := I xs) (tr_for (is := is) h (fun j s' => I (xs.take j) s') h0 ?_ ?_) hd
  · intro j d s' hj hI
    rw [List.getElem?_map] at hj
    cases q : xs[j]? with
    | none => rw [q] at hj; cases hj
    | some x =>
      rw [q] at hj
      cases hj
      have et : xs.take (j + 1) = xs.take j ++ [x] := by rw [List.take_add_one, q]; rfl
      have ex : xs = xs.take j ++ x :: xs.drop (j + 1) := by
        conv => lhs; rw [← List.take_append_drop j xs]
        congr 1
        obtain ⟨hl, e⟩ := List.getElem?_eq_some_iff.mp q
        rw [List.drop_eq_getElem_cons hl, e]
      rw [et]
      exact hs _ x _ s' ex hI
  · intro s' hI
    rw [List.length_map, List.take_length] at hI
    exact hI
end
theorem forI {K : PySem.W.Frag} {g : TG} {is : List Nat} {ρ0 ρ' : List Cell} {d : PyData} {p : List Cell → Prop} (h1 : Tg K g is ρ0 d ρ') (h2 : p ρ') : ∃ ρ', Tg K g is ρ0 d ρ' ∧ p ρ' := ⟨ρ', h1, h2⟩
/-! equalities of data -/
theorem eqv_strs : ∀ xs ys : List Str, PyData.eqvAll (xs.map .str) (ys.map .str) = decide (xs = ys)
  | [], [] => by simp [PyData.eqvAll]
  | [], _ :: _ => by simp [PyData.eqvAll]
  | _ :: _, [] => by simp [PyData.eqvAll]
  | x :: xs, y :: ys => by
    have e := eqv_strs xs ys
    rw [List.map_cons, List.map_cons, PyData.eqvAll, e]
    show (x == y && _) = _
    rw [sbeq]
    by_cases h1 : x = y <;> by_cases h2 : xs = ys <;> simp [h1, h2]
theorem strs_lay : ∀ {xs : List Str}, (∀ x, x ∈ xs → okS x) → PyData.canLayAll0 (xs.map .str) = true
  | [], _ => rfl
  | x :: xs, h => by
    rw [List.map_cons, PyData.canLayAll0, strs_lay fun y hy => h y (List.mem_cons_of_mem _ hy)]
    have hx : (PyData.str x).canLay0 = true := h x (List.mem_cons_self ..)
    rw [hx]
    rfl
theorem strs_depth : ∀ {xs : List Str}, PyData.depthAll (xs.map .str) = 0
  | [] => rfl
  | x :: xs => by rw [List.map_cons, PyData.depthAll, strs_depth]; rfl
theorem strs_sh {xs : List Str} (h : ∀ x, x ∈ xs → okS x) : SeqAt.shaped (.list (xs.map .str)) = true := by
  refine Bool.and_eq_true_iff.mpr ⟨?_, decide_eq_true ?_⟩
  · rw [PyData.canLay0]; exact strs_lay h
  · rw [PyData.depth, strs_depth]; decide
theorem strT_sh {xs : List Str} (h : ∀ x, x ∈ xs → okS x) : SeqAt.shaped (.tuple (xs.map .str)) = true := by
  refine Bool.and_eq_true_iff.mpr ⟨?_, decide_eq_true ?_⟩
  · rw [PyData.canLay0]; exact strs_lay h
  · rw [PyData.depth, strs_depth]; decide
theorem at_word (p : Page) : atI p.ds 0 = some (.str p.word) := by cases p <;> rfl
theorem at_name (p : Page) : atI p.ds 1 = some (.str p.name) := by cases p <;> rfl
theorem at_day (p : Page) : atI p.ds 2 = some (.int p.day) := by cases p <;> rfl
theorem zip_enc {α β : Type} (f : α → PyData) (g : β → PyData) : ∀ (xs : List α) (ys : List β), (((xs.map f).zip (ys.map g)).map fun q => PyData.tuple [q.1, q.2]) = (xs.zip ys).map fun q => .tuple [f q.1, g q.2]
  | [], _ => rfl
  | _ :: _, [] => rfl
  | x :: xs, y :: ys => by
    rw [List.map_cons, List.map_cons, List.zip_cons_cons, List.map_cons, List.zip_cons_cons, List.map_cons, zip_enc f g xs ys]
abbrev encR (q : Page × Row) : PyData := .tuple [q.1.d, q.2.d]
theorem ei_zipR {C : Ctx} {K : PySem.W.Frag} {ρ : List Cell} {ta : TA} {ps : List Page} {rows : List Row} (h : EvA C K ta ρ (Eq [.list (ps.map Page.d), .list (rows.map Row.d)])) (hl : ps.length = rows.length) : EvI C K (iZip K ta) ρ (Eq ((ps.zip rows).map encR)) := by
  have q := ei_zip h (by rw [List.length_map, List.length_map]; exact hl)
  rwa [zip_enc] at q
/-! membership of texts -/
theorem inD_strs {a : Str} : ∀ {xs : List Str}, inD a (xs.map .str) = xs.any fun b => decide (b = a)
  | [] => rfl
  | x :: xs => by
    have e := inD_strs (a := a) (xs := xs)
    unfold inD at e ⊢
    rw [List.map_cons, List.any_cons, e, List.any_cons]
theorem all_isStr : ∀ {xs : List Str}, (xs.map PyData.str).all isStr = true
  | [] => rfl
  | x :: xs => by rw [List.map_cons, List.all_cons, all_isStr]; rfl
end K92
end
section -- K92K
set_option maxRecDepth 100000
set_option maxHeartbeats 1000000
/-! Returns with what the run keeps: fresh lists handed out, methods on an instance that the caller keeps. -/
namespace K92
open PySem PySem.Spec PyProof.Rows L2
/-! ### expressions in a state -/
section
variable (C : Ctx) (K : PySem.W.Frag) (s : S)
def EvS (te : TE) (P : PyData → Prop) : Prop := ∀ B0 H0 σ B H, SR C K B0 H0 s σ B H → ∀ Q : VK, (∀ d v B' H', P d → Gr C B H B' H' → Rp K B' v d → Q v H') → te σ H Q
def EvTS (tt : TT) (P : Bool → Prop) : Prop := ∀ B0 H0 σ B H, SR C K B0 H0 s σ B H → ∀ Q : Bool → Hp → Prop, (∀ b B' H', P b → Gr C B H B' H' → Q b H') → tt σ H Q
def EvAS (ta : TA) (P : List PyData → Prop) : Prop := ∀ B0 H0 σ B H, SR C K B0 H0 s σ B H → ∀ Q : List V → Hp → Prop, (∀ ds vs B' H', P ds → Gr C B H B' H' → RpAll K B' vs ds → Q vs H') → ta σ H Q
def TrK (t : TS) (N : S → Prop) (R : Cell → S → Prop) : Prop :=
  ∀ B0 H0 D σ B H, SR C K B0 H0 s σ B H → (∀ s' σ' B' H', N s' → Ex B B' → SR C K B0 H0 s' σ' B' H' → D.nx σ' H') → (∀ c v s' σ' B' H', R c s' → Ex B B' → SR C K B0 H0 s' σ' B' H' → CellR K B' c (some (some v)) → D.rt v H') → t D σ H
end
section
variable {C : Ctx} {K : PySem.W.Frag} {s : S} {te ta tb tv : TE} {tt : TT} {tas : TA} {d x y : PyData} {ds : List PyData} {P : PyData → Prop} {r : R2} {N N1 : S → Prop} {R : Cell → S → Prop} {t u tz t1 : TS} {i j k : Nat} {p : Addr} {c : TT} {b : Bool}
theorem Ev.toS (h : Ev C K te s.1 P) : EvS C K s te P := fun B0 H0 σ B H x Q q => h σ B H x.env x.g.on Q q
theorem EvA.toS {P : List PyData → Prop} (h : EvA C K tas s.1 P) : EvAS C K s tas P := fun B0 H0 σ B H x Q q => h σ B H x.env x.g.on Q q
theorem EvT.toS {P : Bool → Prop} (h : EvT C K tt s.1 P) : EvTS C K s tt P := fun B0 H0 σ B H x Q q => h σ B H x.env x.g.on Q q
theorem EvS.is (h : EvS C K s te (Eq x)) (e : x = y) : EvS C K s te (Eq y) := e ▸ h
theorem es_op (h1 : EvS C K s ta (Eq x)) (h2 : EvS C K s tb (Eq y)) (hr : Op2 C K r x y P) : EvS C K s (tOp r ta tb) P := fun B0 H0 σ B H z Q q =>
  h1 B0 H0 σ B H z _ fun x' v B1 H1 p1 g1 r1 => h2 B0 H0 σ B1 H1 (z.step g1) _ fun y' w B2 H2 p2 g2 r2 => by
    subst p1 p2
    exact hr B2 H2 v w (r1.mono g2.bb) r2 g2.on Q fun d w B3 H3 p3 g3 r3 => q d w B3 H3 p3 ((g1.trans g2).trans g3) r3
theorem eas_nil : EvAS C K s tNil (Eq []) := fun B0 H0 σ B H z Q q => q [] [] B H rfl (Gr.refl z.g.on) .nil
theorem eas_cons (h1 : EvS C K s te (Eq x)) (h2 : EvAS C K s tas (Eq ds)) : EvAS C K s (tCons te tas) (Eq (x :: ds)) := fun B0 H0 σ B H z Q q =>
  h1 B0 H0 σ B H z _ fun x' v B1 H1 p1 g1 r1 => h2 B0 H0 σ B1 H1 (z.step g1) _ fun ds' vs B2 H2 p2 g2 r2 => by
    subst p1 p2
    exact q _ _ B2 H2 rfl (g1.trans g2) (.cons (r1.mono g2.bb) r2)
theorem es_tup (h : EvAS C K s tas (Eq ds)) (hl : ds.length ≤ 100000) : EvS C K s (tTup tas) (Eq (.tuple ds)) := fun B0 H0 σ B H z Q q =>
  h B0 H0 σ B H z _ fun ds' vs B1 H1 p1 g1 r1 => ⟨by rw [r1.length, ← p1]; exact sz_ok hl, fun p hp => by
    subst p1
    have g2 := Gr.new g1.on (.tup vs) hp
    exact q _ _ _ _ rfl (g1.trans g2) (.tup (SqT.of upd_same) (r1.mono g2.bb))⟩
theorem es_call {R : List PyData → PyData → Prop} {E : XK} (h : EvAS C K s tas (Eq ds)) (k : R ds d) : EvS C K s (tCall (spD K R) [] E tas) (Eq d) := fun B0 H0 σ B H z Q q =>
  h B0 H0 σ B H z _ fun ds' vs B1 H1 p g r => by
    subst p
    show spD K R (vs ++ []) H1 Q E
    rw [List.append_nil]
    exact ⟨B1, _, d, k, g.on.ex, r, fun v B' H' g2 r2 => q d v B' H' rfl (g.trans (g2.up g.on)) r2⟩
theorem ets_test (h : EvS C K s te (Eq (.bool b))) : EvTS C K s (tTest te) (Eq b) := fun B0 H0 σ B H z Q q =>
  h B0 H0 σ B H z _ fun d v B1 H1 p g r => by
    subst p
    cases r
    exact ⟨b, rfl, q b B1 H1 rfl g⟩
theorem ets_B (h : EvS C K s te (Eq (.bool b))) : EvTS C K s (tB te) (Eq b) := ets_test h
theorem FsR.get {B : Hp} {f : Str} {c : Cell} : ∀ {fs : List (Str × Cell)} {vs : List (Str × V)}, FsR K B fs vs → fs.lookup f = some c → ∃ v, vs.lookup f = some v ∧ CellR K B c (some (some v))
  | _, _, .nil, h => by simp [List.lookup] at h
  | (g, cc) :: _, (g', v) :: _, .cons ⟨h1, h2⟩ t, h => by
    have h1' : g = g' := h1
    subst h1'
    rw [List.lookup_cons] at h
    rw [List.lookup_cons]
    cases q : (f == g) with
    | true =>
      rw [q] at h
      cases h
      exact ⟨v, rfl, h2⟩
    | false =>
      rw [q] at h
      exact FsR.get t h
theorem FsR.names {B : Hp} : ∀ {fs : List (Str × Cell)} {vs : List (Str × V)}, FsR K B fs vs → vs.map (·.1) = fs.map (·.1)
  | _, _, .nil => rfl
  | _, _, .cons h t => by rw [List.map_cons, List.map_cons, h.1, FsR.names t]
theorem lookup_none {α : Type} {f : Str} : ∀ {fs : List (Str × α)}, (fs.map (·.1)).contains f = false → fs.lookup f = none
  | [], _ => rfl
  | (g, x) :: r, h => by
    rw [List.map_cons, List.contains_cons, Bool.or_eq_false_iff] at h
    rw [List.lookup_cons, h.1]
    exact lookup_none h.2
def putC (f : Str) (v : Cell) : List (Str × Cell) → List (Str × Cell)
  | [] => [(f, v)]
  | (g, x) :: r => if g = f then (g, v) :: r else (g, x) :: putC f v r
theorem FsR.put {B : Hp} {f : Str} {c : Cell} {v : V} (h : CellR K B c (some (some v))) : ∀ {fs : List (Str × Cell)} {vs : List (Str × V)}, FsR K B fs vs → FsR K B (putC f c fs) (putF f v vs)
  | _, _, .nil => .cons ⟨rfl, h⟩ .nil
  | (g, cc) :: _, (g', w) :: _, .cons ⟨h1, h2⟩ t => by
    have h1' : g = g' := h1
    subst h1'
    unfold putC putF
    by_cases q : g = f
    · rw [if_pos q, if_pos q]
      exact .cons ⟨rfl, h⟩ t
    · rw [if_neg q, if_neg q]
      exact .cons ⟨rfl, h2⟩ (FsR.put h t)
/-- self.f, a datum -/
theorem es_fld {G dx : Addr} {fs : List (Str × Cell)} {f : Str} (hi : s.1[i]? = some (.ref p)) (hk : s.2[k]? = some (p, .ins G dx fs)) (hc : Cls K G) (hn : NoAttr K G f) (hf : fs.lookup f = some (.val d)) : EvS C K s (tFld K (tVar i) f) (Eq d) := fun B0 H0 σ B H z Q q => by
  obtain ⟨_, _, vs, h3, h4⟩ := z.own _ (List.mem_of_getElem? hk)
  obtain ⟨v, e1, w, e2, e3⟩ := FsR.get h4 hf
  cases e2
  exact ⟨.ref p, z.env.ref hi, p, G, dx, vs, v, rfl, h3, hc, hn, e1, q d v B H rfl (Gr.refl z.g.on) e3⟩
/-! ### statements -/
theorem k_seq (h : Tr C K t s N1 (fun _ => False)) (k : ∀ s', N1 s' → TrK C K s' u N R) : TrK C K s (tSeq t u) N R := fun B0 H0 D σ B H x n r =>
  h B0 H0 { D with nx := u D } σ B H x (fun s' σ' B' H' p e x' => k s' p B0 H0 D σ' B' H' x' (fun s2 σ2 B2 H2 p2 e2 x2 => n s2 σ2 B2 H2 p2 (e.trans e2) x2) fun c v s2 σ2 B2 H2 p2 e2 x2 r2 => r c v s2 σ2 B2 H2 p2 (e.trans e2) x2 r2) fun _ _ _ _ f => f.elim
theorem k_asg (h : EvS C K s te (Eq d)) (k : TrK C K (s.1.set i (.val d), s.2) tz N R) : TrK C K s (tSeq (tAsg te (gName i)) tz) N R := fun B0 H0 D σ B H x n r =>
  h B0 H0 σ B H x _ fun d' v B' H' p g r' => by
    subst p
    exact k B0 H0 D _ B' H' ((x.step g).envOf ((x.env.mono g.bb).setV r')) (fun s2 σ2 B2 H2 p2 e2 x2 => n s2 σ2 B2 H2 p2 (g.bb.trans e2) x2) fun c v s2 σ2 B2 H2 p2 e2 x2 r2 => r c v s2 σ2 B2 H2 p2 (g.bb.trans e2) x2 r2
theorem k_if (h : EvTS C K s c (Eq b)) (k1 : b = true → TrK C K s (tSeq t1 tz) N R) (k2 : b = false → TrK C K s (tSeq t tz) N R) : TrK C K s (tSeq (tIfS c t1 t) tz) N R := fun B0 H0 D σ B H x n r =>
  h B0 H0 σ B H x _ fun b' B' H' p g => by
    subst p
    cases b with
    | true => exact k1 rfl B0 H0 D σ B' H' (x.step g) (fun s2 σ2 B2 H2 p2 e2 x2 => n s2 σ2 B2 H2 p2 (g.bb.trans e2) x2) fun c v s2 σ2 B2 H2 p2 e2 x2 r2 => r c v s2 σ2 B2 H2 p2 (g.bb.trans e2) x2 r2
    | false => exact k2 rfl B0 H0 D σ B' H' (x.step g) (fun s2 σ2 B2 H2 p2 e2 x2 => n s2 σ2 B2 H2 p2 (g.bb.trans e2) x2) fun c v s2 σ2 B2 H2 p2 e2 x2 r2 => r c v s2 σ2 B2 H2 p2 (g.bb.trans e2) x2 r2
theorem k_nx (k : TrK C K s tz N R) : TrK C K s (tSeq tNext tz) N R := k
theorem k_as {a b c : TS} (k : TrK C K s (tSeq a (tSeq b c)) N R) : TrK C K s (tSeq (tSeq a b) c) N R := k
theorem k_one (k : TrK C K s (tSeq t tNext) N R) : TrK C K s t N R := k
theorem k_ret (h : EvS C K s te (Eq d)) (k : R (.val d) s) : TrK C K s (tRet te) N R := fun B0 H0 D σ B H x n r =>
  h B0 H0 σ B H x _ fun d' v B' H' p g r' => by
    subst p
    exact r _ v s σ B' H' k g.bb (x.step g) ⟨v, rfl, r'⟩
theorem k_rt (h : EvS C K s te (Eq d)) (k : R (.val d) s) : TrK C K s (tSeq (tRet te) tz) N R := fun B0 H0 D σ B H x n r => k_ret (N := N) h k B0 H0 D σ B H x n r
theorem k_next (h : N s) : TrK C K s tNext N R := fun B0 H0 D σ B H x n r => n s σ B H h (Ex.refl B) x
theorem k_retR (hi : s.1[i]? = some (.ref p)) (k : R (.ref p) s) : TrK C K s (tRet (tVar i)) N R := fun B0 H0 D σ B H x n r =>
  ⟨.ref p, x.env.ref hi, r _ _ s σ B H k (Ex.refl B) x rfl⟩
/-- self.f = value -/
theorem k_fld {G dx : Addr} {fs : List (Str × Cell)} {f : Str} (hi : s.1[i]? = some (.ref p)) (hk : s.2[k]? = some (p, .ins G dx fs)) (hc : Cls K G) (hn : NoAttr K G f) (hl : fs.length < 1000) (h : EvS C K s tv (Eq d)) (kk : TrK C K (s.1, s.2.set k (p, .ins G dx (putC f (.val d) fs))) tz N R) :
    TrK C K s (tSeq (sFld K (tVar i) tv f) tz) N R := fun B0 H0 D σ B H x n r =>
  h B0 H0 σ B H x _ fun d' v B' H' p' g r' => by
    subst p'
    have y := x.step g
    obtain ⟨_, _, vs, h3, h4⟩ := y.own _ (List.mem_of_getElem? hk)
    refine ⟨.ref p, y.env.ref hi, p, G, dx, vs, rfl, h3, hc, hn, by rw [← Paired.length h4]; exact hl, ?_⟩
    exact kk B0 H0 D σ B' _ (y.mut hk ⟨_, upd_same, FsR.put (c := .val d) ⟨v, rfl, r'⟩ h4⟩) (fun s2 σ2 B2 H2 p2 e2 x2 => n s2 σ2 B2 H2 p2 (g.bb.trans e2) x2) fun c v s2 σ2 B2 H2 p2 e2 x2 r2 => r c v s2 σ2 B2 H2 p2 (g.bb.trans e2) x2 r2
/-- self.f = {} -/
theorem k_fldD {G dx : Addr} {fs : List (Str × Cell)} {f : Str} (hi : s.1[i]? = some (.ref p)) (hk : s.2[k]? = some (p, .ins G dx fs)) (hc : Cls K G) (hn : NoAttr K G f) (hl : fs.length < 1000)
    (kk : ∀ q, TrK C K (s.1, (q, .dic []) :: s.2.set k (p, .ins G dx (putC f (.ref q) fs))) tz N R) : TrK C K s (tSeq (sFld K (tVar i) tDNewK f) tz) N R := fun B0 H0 D σ B H x n r => fun q hq => by
  have y := x.new (c := .dic []) (o := .dK []) hq ⟨[], upd_same, .nil, List.nodup_nil⟩
  have hk' : ((q, Oc.dic []) :: s.2)[k + 1]? = some (p, .ins G dx fs) := by rw [List.getElem?_cons_succ]; exact hk
  obtain ⟨_, _, vs, h3, h4⟩ := y.own _ (List.mem_of_getElem? hk')
  refine ⟨.ref p, y.env.ref hi, p, G, dx, vs, rfl, h3, hc, hn, by rw [← Paired.length h4]; exact hl, ?_⟩
  exact kk q B0 H0 D σ B _ (y.mut hk' ⟨_, upd_same, FsR.put (c := .ref q) (v := .ref q) rfl h4⟩) n r
/-- self.f[key] = value -/
theorem k_fdput {G dx q : Addr} {fs : List (Str × Cell)} {es : List (PyData × PyData)} {f key : Str} {tk : TE} (hi : s.1[i]? = some (.ref p)) (hk : s.2[k]? = some (p, .ins G dx fs)) (hc : Cls K G) (hn : NoAttr K G f) (hf : fs.lookup f = some (.ref q)) (hj : s.2[j]? = some (q, .dic es)) (hl : es.length < 100000)
    (hv : EvS C K s tv (Eq d)) (hx : EvS C K s tk (Eq (.str key))) (kk : TrK C K (s.1, s.2.set j (q, .dic (putE es key d))) tz N R) : TrK C K s (tSeq (sDPut (tFld K (tVar i) f) tk tv) tz) N R := fun B0 H0 D σ B H x n r =>
  hv B0 H0 σ B H x _ fun d1 v B1 H1 p1 g1 r1 => by
    have x1 := x.step g1
    obtain ⟨_, _, vs, h3, h4⟩ := x1.own _ (List.mem_of_getElem? hk)
    obtain ⟨v', e1, e2⟩ := FsR.get h4 hf
    have e3 : v' = .ref q := by
      have z : some (some v') = some (some (V.ref q)) := e2
      exact Option.some.inj (Option.some.inj z)
    subst e3
    refine ⟨.ref p, x1.env.ref hi, p, G, dx, vs, _, rfl, h3, hc, hn, e1, ?_⟩
    refine hx B0 H0 σ B1 H1 x1 _ fun d2 u B2 H2 p2 g2 r2 => ?_
    subst p1 p2
    cases r2
    have y := x1.step g2
    obtain ⟨_, _, kvs, a3, a4, a5⟩ := y.own _ (List.mem_of_getElem? hj)
    refine ⟨q, _, rfl, DPut.k (k := Sum.inr key) a3 (by rw [a4.length]; exact Evl.sz_lt hl), ?_⟩
    exact kk B0 H0 D σ B2 _ (y.mut hj ⟨_, upd_same, a4.put (r1.mono g2.bb) a5, nd_map a5⟩) (fun s2 σ2 B2 H2 p2 e2 x2 => n s2 σ2 B2 H2 p2 ((g1.trans g2).bb.trans e2) x2) fun c v s2 σ2 B2 H2 p2 e2 x2 r2 => r c v s2 σ2 B2 H2 p2 ((g1.trans g2).bb.trans e2) x2 r2
theorem k_iT (h : EvTS C K s c (Eq b)) (hb : b = true) (k1 : TrK C K s (tSeq t1 tz) N R) : TrK C K s (tSeq (tIfS c t1 t) tz) N R := k_if h (fun _ => k1) fun e => by rw [hb] at e; cases e
theorem k_iF (h : EvTS C K s c (Eq b)) (hb : b = false) (k2 : TrK C K s (tSeq t tz) N R) : TrK C K s (tSeq (tIfS c t1 t) tz) N R := k_if h (fun e => by rw [hb] at e; cases e) fun _ => k2
theorem tr_appS {N : S → Prop} {R : PyData → Prop} (hi : s.1[i]? = some (.ref p)) (hk : s.2[k]? = some (p, .lst ds)) (hl : ds.length < 100000) (h : EvS C K s te (Eq d)) (hn : N (s.1, s.2.set k (p, .lst (ds ++ [d])))) :
    Tr C K (tDrop (tBM K "list" rAppend (tVar i) (tCons te tNil))) s N R := fun B0 H0 D σ B H x n r => by
  obtain ⟨h1, h2, vs, h3, h4⟩ := x.own _ (List.mem_of_getElem? hk)
  refine ⟨.ref p, x.env.ref hi, Or.inl ⟨rfl, vs, SqL.of h3⟩, h B0 H0 σ B H x _ fun d v B' H' q g r' => ?_⟩
  subst q
  have y := x.step g
  obtain ⟨g1, g2, ws, g3, g4⟩ := y.own _ (List.mem_of_getElem? hk)
  refine ⟨p, ws, v, rfl, rfl, g3, by rw [g4.length]; exact Evl.sz_lt hl, n _ σ B' _ hn g.bb (y.mut hk ⟨_, upd_same, g4.snoc r'⟩)⟩
/-- what is dropped from a dict -/
def dropE (es : List (PyData × PyData)) (k : Str) : List (PyData × PyData) := es.filter fun e => match e.1 with
  | .str j => decide (j ≠ k)
  | _ => true
theorem RpKs.drop {B : Hp} {k : Str} : ∀ {kvs : List (Key × V)} {es : List (PyData × PyData)}, RpKs K B kvs es → RpKs K B (dropK kvs (Sum.inr k)) (dropE es k)
  | _, _, .nil => .nil
  | _, _, .cons (k := j) (v := x) (kvs := kr) (d := e) (es := er) h t => by
    have ih := RpKs.drop (k := k) t
    unfold dropK dropE at ih ⊢
    rw [List.filter_cons, List.filter_cons]
    by_cases q : j = k
    · have e1 : decide ((Sum.inr j : Key) ≠ Sum.inr k) = false := by simp [q]
      have e2 : decide (j ≠ k) = false := by simp [q]
      simp only [e1, e2]
      exact ih
    · have e1 : decide ((Sum.inr j : Key) ≠ Sum.inr k) = true := by simp [q]
      have e2 : decide (j ≠ k) = true := by simp [q]
      simp only [e1, e2]
      exact RpKs.cons h ih
theorem nd_drop {kvs : List (Key × V)} {k : Key} (h : (kvs.map (·.1)).Nodup) : ((dropK kvs k).map (·.1)).Nodup := by
  unfold dropK
  exact List.Sublist.nodup (List.Sublist.map _ (List.filter_sublist ..)) h
theorem dropE_none {k : Str} : ∀ {es : List (PyData × PyData)}, getE es k = none → dropE es k = es
  | [], _ => rfl
  | (a, b) :: r, h => by
    unfold dropE
    cases a with
    | str j =>
      have h' : (if j = k then some b else getE r k) = none := h
      by_cases q : j = k
      · rw [if_pos q] at h'; cases h'
      · rw [if_neg q] at h'
        have ih := dropE_none h'
        unfold dropE at ih
        rw [List.filter_cons, if_pos (by simpa using q), ih]
    | _ =>
      have ih := dropE_none (es := r) (k := k) h
      unfold dropE at ih
      rw [List.filter_cons, if_pos rfl, ih]
/-- x = self.f.pop(key, None) -/
theorem k_fpop {G dx q : Addr} {fs : List (Str × Cell)} {es : List (PyData × PyData)} {f key : Str} {tk : TE} {m : Nat} (hi : s.1[i]? = some (.ref p)) (hk : s.2[k]? = some (p, .ins G dx fs)) (hc : Cls K G) (hn : NoAttr K G f) (hf : fs.lookup f = some (.ref q)) (hj : s.2[j]? = some (q, .dic es))
    (hx : EvS C K s tk (Eq (.str key))) (kk : TrK C K (s.1.set m (.val ((getE es key).getD .none)), s.2.set j (q, .dic (dropE es key))) tz N R) : TrK C K s (tSeq (tAsg (tDPop2 (tFld K (tVar i) f) tk (tC .non)) (gName m)) tz) N R := fun B0 H0 D σ B H x n r => by
  obtain ⟨_, _, vs, h3, h4⟩ := x.own _ (List.mem_of_getElem? hk)
  obtain ⟨v', e1, e2⟩ := FsR.get h4 hf
  have e3 : v' = .ref q := by
    have z : some (some v') = some (some (V.ref q)) := e2
    exact Option.some.inj (Option.some.inj z)
  subst e3
  obtain ⟨_, _, kv0, c3, _⟩ := x.own _ (List.mem_of_getElem? hj)
  refine ⟨.ref p, x.env.ref hi, p, G, dx, vs, _, rfl, h3, hc, hn, e1, ?_⟩
  refine ⟨q, rfl, .inl ⟨kv0, .inl c3⟩, hx B0 H0 σ B H x _ fun d2 u B2 H2 p2 g2 r2 => ?_⟩
  subst p2
  cases r2
  have y := x.step g2
  obtain ⟨_, _, kvs, a3, a4, a5⟩ := y.own _ (List.mem_of_getElem? hj)
  refine ⟨kvs, Sum.inr key, a3, rfl, fun v hv => ?_, fun hv => ?_⟩
  · cases e : getE es key with
    | none => rw [a4.get0 e] at hv; cases hv
    | some d' =>
      obtain ⟨v2, e4, e5⟩ := a4.get1 e
      rw [hv] at e4
      cases e4
      rw [e] at kk
      exact kk B0 H0 D _ B2 _ ((y.mut hj (c' := .dic (dropE es key)) ⟨_, upd_same, a4.drop, nd_drop a5⟩).envOf (y.env.setV e5)) (fun s2 σ2 B3 H3 p3 e3 x3 => n s2 σ2 B3 H3 p3 (g2.bb.trans e3) x3) fun c v s2 σ2 B3 H3 p3 e3 x3 r3 => r c v s2 σ2 B3 H3 p3 (g2.bb.trans e3) x3 r3
  · cases e : getE es key with
    | some d' =>
      obtain ⟨v2, e4, e5⟩ := a4.get1 e
      rw [hv] at e4
      cases e4
    | none =>
      rw [e, dropE_none e] at kk
      have e3 : s.2.set j (q, Oc.dic es) = s.2 := by
        apply List.ext_getElem?
        intro l
        by_cases z : j = l
        · subst z
          rw [List.getElem?_set_self (List.getElem?_eq_some_iff.mp hj).1, hj]
        · rw [List.getElem?_set_ne z]
      rw [e3] at kk
      exact kk B0 H0 D _ B2 _ (y.envOf (y.env.setV .non)) (fun s2 σ2 B3 H3 p3 e3 x3 => n s2 σ2 B3 H3 p3 (g2.bb.trans e3) x3) fun c v s2 σ2 B3 H3 p3 e3 x3 r3 => r c v s2 σ2 B3 H3 p3 (g2.bb.trans e3) x3 r3
end
/-! ### a fresh list handed out -/
def spL (K : PySem.W.Frag) (R : List PyData → List PyData → Prop) : Sp := fun vs H Q _ => ∃ B ds es, R ds es ∧ Ex B H ∧ RpAll K B vs ds ∧ ∀ p xs B' H', H p = none → B' p = none → H' p = some (.lst xs) → Gr C0 B H B' H' → RpAll K B' xs es → Q (.ref p) H'
section
variable {C : Ctx} {K : PySem.W.Frag} {s : S} {ta : TA} {RL : List PyData → List PyData → Prop} {ds es : List PyData} {N : S → Prop} {R : PyData → Prop} {tz : TS} {i : Nat} {E : XK}
theorem SR.keep {B0 H0 B H : Hp} {σ : L2.St} {p : Addr} {c : Oc} (y : SR C K B0 H0 s σ B H) (h0 : H0 p = none) (hb : B p = none) (hs : ∀ c', c' ∈ s.2 → c'.1 ≠ p) (r : OcR K B H p c) : SR C K B0 H0 (s.1, (p, c) :: s.2) σ B H := by
  refine ⟨y.g, y.env, fun c' hc => ?_, ?_⟩
  · rcases List.mem_cons.mp hc with e | hc
    · subst e
      exact ⟨h0, hb, r⟩
    · exact y.own c' hc
  · refine List.nodup_cons.mpr ⟨fun m => ?_, y.nd⟩
    obtain ⟨c', hc, e⟩ := List.mem_map.mp m
    exact hs c' hc e
theorem SR.h0 {B0 H0 B H : Hp} {σ : L2.St} {p : Addr} (x : SR C K B0 H0 s σ B H) (hp : H p = none) : H0 p = none := by
  cases q : H0 p with
  | none => rfl
  | some y =>
    cases qb : B0 p with
    | some z => exact absurd (x.g.on.ex p _ (x.g.bb p _ qb)) (by rw [hp]; simp)
    | none =>
      by_cases m : C.M p
      · exact absurd hp (C.thr x.g.on.w m)
      · exact absurd (x.g.own p y m qb q).2 (by rw [hp]; simp)
theorem SR.notin {B0 H0 B H : Hp} {σ : L2.St} {p : Addr} (x : SR C K B0 H0 s σ B H) (hp : H p = none) : ∀ c', c' ∈ s.2 → c'.1 ≠ p := fun c' hc e => by
  obtain ⟨y, hy⟩ := (x.own c' hc).2.2.there
  rw [e, hp] at hy
  cases hy
theorem q_callL (h : EvA C K ta s.1 (Eq ds)) (hR : RL ds es) (k : ∀ p, Tr C K tz (s.1.set i (.ref p), (p, .lst es) :: s.2) N R) : Tr C K (tSeq (tAsg (tCall (spL K RL) [] E ta) (gName i)) tz) s N R := fun B0 H0 D σ B H x n r =>
  h σ B H x.env x.g.on _ fun ds' vs B1 H1 p g rr => by
    subst p
    show spL K RL (vs ++ []) H1 _ E
    rw [List.append_nil]
    have y := x.step g
    refine ⟨B1, _, es, hR, g.on.ex, rr, fun q xs B2 H2 h1 h2 h3 g2 r2 => ?_⟩
    have y2 := y.step (g2.up g.on)
    exact k q B0 H0 D _ B2 H2 ((y2.keep (c := .lst es) (y.h0 h1) h2 (y.notin h1) ⟨xs, h3, r2⟩).envOf y2.env.setR) (fun s2 σ2 B3 H3 p3 e3 x3 => n s2 σ2 B3 H3 p3 ((g.trans (g2.up g.on)).bb.trans e3) x3) r
end
section
variable {P : Program} {w : World} {K : PySem.W.Frag} {mg : Str → Option Value} {base : Heap} {x : Str} {st : Stmt} {N ps : List Str} {k : Nat} {RL : List PyData → List PyData → Prop}
theorem cal_list (F : Def K mg x st) (Sc : FnScope N ps (defScope st))
    (hbi : ∀ (kV doc pm : Value) (an : Option Addr) (cdv ct : Value) (us : List Value), us.length = ps.length → bindArgs (PySem.W.fnOf x x (defArgs st) (defBody st) (defScope st) .none kV doc pm an cdv ct) ⟨us, []⟩ = pure (ps.zip us))
    (len : ∀ ds d, RL ds d → ds.length = ps.length)
    (hb : ∀ (f : Addr) (cdv : Value) (A : Around) (outer : List Env) (s : Shared) (H : Hp) (E : XK), Room k (A.deeper (envOfC x (defScope st) s.heap.objs.size f cdv)) →
      ∃ t, PSs (cxOf CX0 P w K mg base N x (defScope st) f cdv A outer s H E).nox (defBody st) t ∧ ∀ ds es, RL ds es → TrK C0 K (startC N.length (ds.map Cell.val), []) t (fun _ => False) (fun c s' => ∃ (j : Nat) (p : Addr), c = .ref p ∧ s'.2[j]? = some (p, .lst es))) : Cal P w K mg base x ps (k + 1) (spL K RL) := by
  obtain ⟨f, fd, h1, F⟩ := F.ex
  refine ⟨f, fd, h1, ?_, F.kp, F.bindsN hbi⟩
  refine F.ok Sc (fun vs H Q E ⟨B, ds, d, hR, _, r, _⟩ => by rw [r.length]; exact len ds d hR) fun cdv A outer s H vs Q E hr ⟨B, ds, es, hR, e, r, q⟩ => ?_
  obtain ⟨t, h1, h2⟩ := hb f cdv A outer s H E hr
  refine ⟨t, h1.nox, ?_⟩
  have o := on0 e
  refine h2 ds es hR B H _ _ B H ⟨Gr.refl o, envR_start' (paired_vals r), fun c hc => (by cases hc), List.nodup_nil⟩ (fun s' σ' B' H' hn _ x' => hn.elim) fun c v s' σ' B' H' ⟨j, p, hc, hj⟩ _ x' r' => ?_
  subst hc
  have e3 : v = .ref p := by
    have z : some (some v) = some (some (V.ref p)) := r'
    exact Option.some.inj (Option.some.inj z)
  subst e3
  obtain ⟨a1, a2, xs, a3, a4⟩ := x'.own _ (List.mem_of_getElem? hj)
  exact q p xs B' H' a1 a2 a3 x'.g a4
end
end K92
end
section -- K92P
set_option maxRecDepth 100000
set_option maxHeartbeats 1000000
/-! The pen: a list [script, at, big] that the law's helpers write. -/
namespace K92
open PySem PySem.Spec PyProof.Rows L2
def PenAt (pen scr : Addr) (H : Hp) : Prop := ∃ at_ big : Int, 0 ≤ at_ ∧ 0 ≤ big ∧ H pen = some (.lst [.ref scr, .int at_, .int big])
def CP (K : PySem.W.Frag) (pen scr : Addr) (is : List Int) : Ctx where
  M := fun p => p = pen
  W := PenAt pen scr
  V := fun B => SqL K B scr (is.map V.int)
  stab := fun k ⟨a, b, h1, h2, h3⟩ => ⟨a, b, h1, h2, k _ _ rfl h3⟩
  thr := fun ⟨a, b, h1, h2, h3⟩ m e => by rw [m, h3] at e; cases e
  vm := fun e h => Evl.ex_l e h
section
variable {pen scr : Addr} {is : List Int} {K : PySem.W.Frag} {B H B' H' : Hp} {ρ : List Cell} {i : Nat}
/-- the pen written -/
theorem gr_pen (o : (CP K pen scr is).On B H) {a b : Int} (ha : 0 ≤ a) (hb : 0 ≤ b) : Gr (CP K pen scr is) B H B (upd H pen (.lst [.ref scr, .int a, .int b])) :=
  ⟨o, Ex.refl B, ⟨Evl.Ex.mut o.ex (o.nb pen rfl), ⟨a, b, ha, hb, upd_same⟩, o.v, o.nb⟩, fun p x m h1 h2 => ⟨h1, by rw [upd_ne (show p ≠ pen from m)]; exact h2⟩⟩
theorem ev_penLen (h : ρ[i]? = some (.ref pen)) : Ev (CP K pen scr is) K (tCB (rLEN K) (tCons (tOp (rIx K) (tVar i) (tC (.int 0))) tNil)) ρ (Eq (.int ((is.map PyData.int).length : Nat))) := fun σ B H e o Q q => by
  obtain ⟨a, b, h1, h2, h3⟩ := o.w
  exact ⟨.ref pen, e.ref h, .inl ⟨pen, _, 0, .ref scr, rfl, rfl, SqL.of h3, rfl, .ref scr, (is.map V.int).length, rfl, .inl ⟨_, Evl.ex_l o.ex o.v, rfl⟩, by
    rw [List.length_map] at q ⊢
    exact q _ _ B H rfl (Gr.refl o) (.int _)⟩⟩
theorem ev_penAt {te : TE} {j c : Int} (h : ρ[i]? = some (.ref pen)) (ht : Ev (CP K pen scr is) K te ρ (Eq (.int j))) (hc : atI (is.map PyData.int) j = some (.int c)) : Ev (CP K pen scr is) K (tOp (rIx K) (tOp (rIx K) (tVar i) (tC (.int 0))) te) ρ (Eq (.int c)) := fun σ B H e o Q q => by
  obtain ⟨a, b, h1, h2, h3⟩ := o.w
  refine ⟨.ref pen, e.ref h, .inl ⟨pen, _, 0, .ref scr, rfl, rfl, SqL.of h3, rfl, ht σ B H e o _ fun d u B1 H1 p g r => ?_⟩⟩
  subst p
  cases r
  obtain ⟨w, hw, rw'⟩ := atI_rp (K := K) (B := B1) rp_ints hc
  cases rw'
  exact .inl ⟨scr, _, j, .int c, rfl, rfl, Evl.ex_l g.on.ex g.on.v, hw, q _ _ B1 H1 rfl g (.int c)⟩
theorem ev_pen1 (h : ρ[i]? = some (.ref pen)) : Ev (CP K pen scr is) K (tOp (rIx K) (tVar i) (tC (.int 1))) ρ (fun d => ∃ a : Int, 0 ≤ a ∧ d = .int a) := fun σ B H e o Q q => by
  obtain ⟨a, b, h1, h2, h3⟩ := o.w
  exact ⟨.ref pen, e.ref h, .inl ⟨pen, _, 1, .int a, rfl, rfl, SqL.of h3, rfl, q _ _ B H ⟨a, h1, rfl⟩ (Gr.refl o) (.int a)⟩⟩
theorem ev_pen2 (h : ρ[i]? = some (.ref pen)) : Ev (CP K pen scr is) K (tOp (rIx K) (tVar i) (tC (.int 2))) ρ (fun d => ∃ a : Int, 0 ≤ a ∧ d = .int a) := fun σ B H e o Q q => by
  obtain ⟨a, b, h1, h2, h3⟩ := o.w
  exact ⟨.ref pen, e.ref h, .inl ⟨pen, _, 2, .int b, rfl, rfl, SqL.of h3, rfl, q _ _ B H ⟨b, h2, rfl⟩ (Gr.refl o) (.int b)⟩⟩
end
/-- the promise of a def that takes the pen -/
def spP (K : PySem.W.Frag) (Pre : List PyData → Prop) (R : List PyData → PyData → Prop) : Sp := fun vs H Q _ => ∃ B pen scr is us ds, vs = .ref pen :: us ∧ RpAll K B us ds ∧ (CP K pen scr is).On B H ∧ Pre ds ∧
  ∀ v d B' H', R ds d → Gr (CP K pen scr is) B H B' H' → Rp K B' v d → Q v H'
section
variable {pen scr : Addr} {is : List Int} {K : PySem.W.Frag} {ρ : List Cell} {i : Nat} {ta : TA} {Pre : List PyData → Prop} {R : List PyData → PyData → Prop} {E : XK} {PA : List PyData → Prop} {P : PyData → Prop}
theorem ev_callP (hi : ρ[i]? = some (.ref pen)) (h : EvA (CP K pen scr is) K ta ρ PA) (k : ∀ ds, PA ds → Pre ds ∧ ∀ d, R ds d → P d) : Ev (CP K pen scr is) K (tCall (spP K Pre R) [] E (tCons (tVar i) ta)) ρ P := fun σ B H e o Q q =>
  ⟨.ref pen, e.ref hi, h σ B H e o _ fun ds vs B1 H1 p g r => by
    obtain ⟨k1, k2⟩ := k ds p
    show spP K Pre R ((.ref pen :: vs) ++ []) H1 Q E
    rw [List.append_nil]
    exact ⟨B1, pen, scr, is, vs, ds, rfl, r, g.on, k1, fun v d B' H' hd g2 r2 => q d v B' H' (k2 d hd) (g.trans g2) r2⟩⟩
end
section
variable {P : Program} {w : World} {K : PySem.W.Frag} {mg : Str → Option Value} {base : Heap} {x : Str} {st : Stmt} {N ps : List Str} {k : Nat} {Pre : List PyData → Prop} {R : List PyData → PyData → Prop}
theorem cal_pen (F : Def K mg x st) (Sc : FnScope N ps (defScope st))
    (hbi : ∀ (kV doc pm : Value) (an : Option Addr) (cdv ct : Value) (us : List Value), us.length = ps.length → bindArgs (PySem.W.fnOf x x (defArgs st) (defBody st) (defScope st) .none kV doc pm an cdv ct) ⟨us, []⟩ = pure (ps.zip us))
    (len : ∀ ds, Pre ds → ds.length + 1 = ps.length)
    (hb : ∀ (f : Addr) (cdv : Value) (A : Around) (outer : List Env) (s : Shared) (H : Hp) (E : XK), Room k (A.deeper (envOfC x (defScope st) s.heap.objs.size f cdv)) →
      ∃ t, PSs (cxOf CX0 P w K mg base N x (defScope st) f cdv A outer s H E).nox (defBody st) t ∧ ∀ pen scr is ds, Pre ds → Tr (CP K pen scr is) K t (startC N.length (.ref pen :: ds.map Cell.val), []) (fun _ => R ds .none) (R ds)) : Cal P w K mg base x ps (k + 1) (spP K Pre R) := by
  obtain ⟨f, fd, h1, F⟩ := F.ex
  refine ⟨f, fd, h1, ?_, F.kp, F.bindsN hbi⟩
  refine F.ok Sc (fun vs H Q E ⟨B, pen, scr, is, us, ds, e, r, _, hp, _⟩ => by rw [e, List.length_cons, r.length]; exact len ds hp) fun cdv A outer s H vs Q E hr ⟨B, pen, scr, is, us, ds, e, r, on, hp, q⟩ => ?_
  subst e
  obtain ⟨t, t1, t2⟩ := hb f cdv A outer s H E hr
  refine ⟨t, t1.nox, ?_⟩
  refine t2 pen scr is ds hp B H _ _ B H ⟨Gr.refl on, envR_start' (.cons rfl (paired_vals r)), fun c hc => (by cases hc), List.nodup_nil⟩ (fun s' σ' B' H' hn _ x' => q _ _ _ _ hn x'.g .non) fun d v B' H' hd g rv => q _ _ _ _ hd g rv
end
section
variable {K : PySem.W.Frag} {s : S} {N : S → Prop} {R : PyData → Prop} {i : Nat} {tz : TS} {te : TE} {is : List Int}
/-- the script read, nothing written -/
def CL (K : PySem.W.Frag) (scr : Addr) (is : List Int) : Ctx := ⟨fun _ => False, fun _ => True, fun B => SqL K B scr (is.map V.int), fun _ h => h, fun _ h => h.elim, fun e h => Evl.ex_l e h⟩
/-- pen = [script, 0, 0] -/
theorem q_pen {scr : Addr} {j : Nat} (hs : s.2 = []) (h : s.1[j]? = some (.ref scr)) (k : ∀ pen, Tr (CP K pen scr is) K tz (s.1.set i (.ref pen), []) (fun _ => False) R) :
    Tr (CL K scr is) K (tSeq (tAsg (tLst (tCons (tVar j) (tCons (tC (.int 0)) (tCons (tC (.int 0)) tNil)))) (gName i)) tz) s N R := fun B0 H0 D σ B H x n r => by
  refine ⟨.ref scr, x.env.ref h, by show 3 ≤ sizeLine; decide, fun pen hp => ?_⟩
  have nb : B pen = none := x.g.on.ex.none hp
  have on : (CP K pen scr is).On B (upd H pen (.lst [.ref scr, .int 0, .int 0])) := ⟨x.g.on.ex.trans (Ex.new hp), ⟨0, 0, Int.le_refl _, Int.le_refl _, upd_same⟩, x.g.on.v, fun p m => by rw [show p = pen from m]; exact nb⟩
  refine k pen B _ D _ B _ ⟨Gr.refl on, x.env.setR, fun c hc => (by cases hc), List.nodup_nil⟩ (fun _ _ _ _ f _ _ => f.elim) fun d v B' H' hd g rv => r d v B' H' hd ?_ rv
  refine ⟨x.g.on0, x.g.bb.trans g.bb, ⟨g.on.ex, trivial, g.on.v, fun _ h => h.elim⟩, fun p o _ h1 h2 => ?_⟩
  obtain ⟨h3, h4⟩ := x.g.own p o (fun z => z) h1 h2
  have np : p ≠ pen := ne_of_none h4 hp
  exact g.own p o np h3 (by rw [upd_ne np]; exact h4)
end
section
variable {pen scr : Addr} {is : List Int} {K : PySem.W.Frag} {s : S} {N : S → Prop} {R : PyData → Prop} {i : Nat} {tz : TS} {te ta tb : TE} {P1 P2 P3 : PyData → Prop} {C : Ctx} {ρ : List Cell} {r : R2}
/-- pen[1], pen[2] written -/
theorem q_penSet {k : Int} (hk : k = 1 ∨ k = 2) (hi : s.1[i]? = some (.ref pen)) (h : Ev (CP K pen scr is) K te s.1 (fun d => ∃ a : Int, 0 ≤ a ∧ d = .int a)) (kk : Tr (CP K pen scr is) K tz s N R) : Tr (CP K pen scr is) K (tSeq (tAsg te (gSub (tVar i) (tC (.int k)) rSetL)) tz) s N R := fun B0 H0 D σ B H x n rr =>
  h σ B H x.env x.g.on _ fun d v B1 H1 ⟨a, ha, e⟩ g r1 => by
    subst e
    cases r1
    have y := x.step g
    obtain ⟨at_, big, h1, h2, h3⟩ := y.g.on.w
    rcases hk with e | e
    · subst e
      have g2 := gr_pen y.g.on ha h2
      refine ⟨.ref pen, y.env.ref hi, pen, _, 1, 1, rfl, rfl, h3, rfl, ?_⟩
      exact kk B0 H0 D σ B1 _ (y.step g2) (fun s2 σ2 B2 H2 p2 e2 x2 => n s2 σ2 B2 H2 p2 (g.bb.trans e2) x2) rr
    · subst e
      have g2 := gr_pen y.g.on h1 ha
      refine ⟨.ref pen, y.env.ref hi, pen, _, 2, 2, rfl, rfl, h3, rfl, ?_⟩
      exact kk B0 H0 D σ B1 _ (y.step g2) (fun s2 σ2 B2 H2 p2 e2 x2 => n s2 σ2 B2 H2 p2 (g.bb.trans e2) x2) rr
/-- operators on what is known only by range -/
theorem ev_opE {PX : Int → Prop} {y : PyData} (ha : Ev C K ta ρ (fun d => ∃ a : Int, PX a ∧ d = .int a)) (hb : Ev C K tb ρ (Eq y)) (hr : ∀ a : Int, PX a → Op2 C K r (.int a) y P3) : Ev C K (tOp r ta tb) ρ P3 :=
  ev_op' ha (fun _ _ => hb) fun x z ⟨a, h, e⟩ e2 => by subst e; subst e2; exact hr a h
theorem op_imp {x y : PyData} (h : Op2 C K r x y P1) (k : ∀ d, P1 d → P2 d) : Op2 C K r x y P2 := fun B H v u r1 r2 o Q q => h B H v u r1 r2 o Q fun d w B' H' p g rw' => q d w B' H' (k d p) g rw'
theorem et_any {tt : TE} (h : Ev C K tt ρ (fun d => ∃ b, d = .bool b)) : EvT C K (tTest tt) ρ (fun _ => True) := et_test (P2 := fun _ => True) (h.imp fun d ⟨b, e⟩ => ⟨b, e, trivial⟩) fun _ _ => trivial
end
/-- the promise of the law -/
def spLaw (K : PySem.W.Frag) : Sp := fun vs H Q _ => ∃ (scr : Addr) (is : List Int), vs = [.ref scr] ∧ SqL K H scr (is.map V.int) ∧ ∀ H', Q (.bl true) H'
section
variable {P : Program} {w : World} {K : PySem.W.Frag} {mg : Str → Option Value} {base : Heap} {x qual : Str} {params : Arguments} {body : List Stmt} {scope : Scope} {f : Addr} {fd : FuncData} {N : List Str} {p0 : Str} {k : Nat}
theorem fn_law (F : FunD K x qual params body scope [] [] f fd) (Sc : FnScope N [p0] scope)
    (hb : ∀ (cdv : Value) (A : Around) (outer : List Env) (s : Shared) (H : Hp) (E : XK), Room k (A.deeper (envOfC qual scope s.heap.objs.size f cdv)) →
      ∃ t, PSs (cxOf CX0 P w K mg base N qual scope f cdv A outer s H E).nox body t ∧ ∀ scr is, Tr (CL K scr is) K t (startC N.length [.ref scr], []) (fun _ => False) (Eq (.bool true))) : FnOk P w K mg base CX0 (k + 1) f fd [p0] (spLaw K) := by
  refine F.ok Sc (fun vs H Q E ⟨scr, is, e, _⟩ => by rw [e]; rfl) fun cdv A outer s H vs Q E hr ⟨scr, is, e, hS, q⟩ => ?_
  subst e
  obtain ⟨t, h1, h2⟩ := hb cdv A outer s H E hr
  refine ⟨t, h1.nox, ?_⟩
  have on : (CL K scr is).On H H := ⟨Ex.refl H, trivial, hS, fun _ h => h.elim⟩
  refine h2 scr is H H _ _ H H ⟨Gr.refl on, envR_start' (.cons rfl .nil), fun c hc => (by cases hc), List.nodup_nil⟩ (fun _ _ _ _ f _ _ => f.elim) fun d v B' H' hd g r' => ?_
  subst hd
  cases r'
  exact q _
end
end K92
end
section -- K92F17
set_option maxRecDepth 100000
set_option maxHeartbeats 1000000
namespace K92
open PySem PySem.Spec PyProof.Rows L2
local macro_rules | `(tactic| walk_at "dc") => `(tactic| first | decide +kernel | with_reducible rfl)
local macro_rules | `(tactic| walk_at "bb") => `(tactic| first | exact Eq.trans (b := true) (by decide +kernel) rfl | exact Eq.trans (b := false) (by decide +kernel) rfl)
local macro_rules | `(tactic| walk_at "go") => `(tactic| dsimp only [cxOf, Cx.nox, startC, List.map_cons, List.map_nil, List.length_cons, List.length_nil])
local macro_rules | `(tactic| walk_at "at") => `(tactic| first | with_reducible exact at_if | with_reducible exact at0 _ _ | with_reducible exact at1 _ _ _ | with_reducible exact at2 _ _ _ _ | rfl | exact at_word _ | exact at_name _ | exact at_day _)
local macro_rules | `(tactic| walk_at "op") => `(tactic| first
  | ((with_reducible apply o_ixT); walk_at "at")
  | ((with_reducible apply o_ixL); walk_at "at")
  | with_reducible exact o_eqS
  | with_reducible exact o_eqI
  | with_reducible exact o_neS
  | with_reducible exact o_neI
  | with_reducible exact o_le
  | with_reducible exact o_lt
  | with_reducible exact o_addI
  | with_reducible exact o_sub
  | ((with_reducible apply o_inT); first | assumption | rfl)
  | ((with_reducible apply o_inL); first | assumption | rfl)
  | with_reducible exact o_inS
  | with_reducible exact o_neNS
  | ((with_reducible apply o_neD); assumption; assumption)
  | ((with_reducible apply o_eqD); assumption; assumption))
local macro_rules | `(tactic| walk_at "tg") => `(tactic| first
  | ((with_reducible apply tg_name); decide)
  | ((with_reducible apply tg_tupW); (walk_at "tg"); rfl)
  | with_reducible exact tgs_nil
  | ((with_reducible apply tgs_cons); (walk_at "tg"); (walk_at "tg")))
local macro_rules | `(tactic| walk_at "lc") => `(tactic| ((apply lcI); (walk_at "tg"); (apply EvT.is); (walk_at "ev"); rfl; (intro _); (apply Ev.is); (walk_at "ev"); rfl))
local macro_rules | `(tactic| walk_at "ev") => `(tactic| first
  | ((with_reducible apply ev_var); rfl)
  | with_reducible exact ev_str
  | with_reducible exact ev_int
  | with_reducible exact ev_bl
  | with_reducible exact ev_non
  | with_reducible exact ev_c (by assumption)
  | with_reducible exact ea_nil
  | ((with_reducible apply ev_op); (walk_at "ev"); (walk_at "ev"); (walk_at "op"))
  | ((with_reducible apply ea_cons); (walk_at "ev"); (walk_at "ev"))
  | ((with_reducible apply ev_tupW); (walk_at "ev"); exact Nat.le_of_ble_eq_true rfl)
  | ((with_reducible apply ev_lstW); (walk_at "ev"); exact Nat.le_of_ble_eq_true rfl)
  | ((with_reducible apply et_testD); walk_at "ev")
  | ((with_reducible apply et_B); walk_at "ev")
  | ((with_reducible apply et_not); walk_at "ev")
  | ((with_reducible apply et_andF); (walk_at "ev"); (walk_at "dc"))
  | ((with_reducible apply et_andT); (walk_at "ev"); (walk_at "dc"); (walk_at "ev"))
  | ((with_reducible apply et_and); (walk_at "ev"); intro _; (walk_at "ev"))
  | ((with_reducible apply et_orT); (walk_at "ev"); (walk_at "dc"))
  | ((with_reducible apply et_orF); (walk_at "ev"); (walk_at "dc"); (walk_at "ev"))
  | ((with_reducible apply et_or); (walk_at "ev"); intro _; (walk_at "ev"))
  | ((with_reducible apply ev_andVF); (walk_at "ev"); (walk_at "dc"))
  | ((with_reducible apply ev_andVT); (walk_at "ev"); (walk_at "dc"); (walk_at "ev"))
  | ((with_reducible apply ev_orVT); (walk_at "ev"); (walk_at "dc"))
  | ((with_reducible apply ev_orVF); (walk_at "ev"); (walk_at "dc"); (walk_at "ev"))
  | ((with_reducible apply ev_andV); (walk_at "ev"); intro _; (walk_at "ev"))
  | ((with_reducible apply ev_orV); (walk_at "ev"); intro _; (walk_at "ev"))
  | ((with_reducible apply ev_notV); walk_at "ev")
  | ((with_reducible apply ev_neg); (walk_at "ev"))
  | ((with_reducible apply ev_isNE); (walk_at "ev"))
  | ((with_reducible apply ev_notN); (walk_at "ev"))
  | with_reducible exact lc_T
  | with_reducible exact eo_none
  | ((with_reducible apply eo_some); (walk_at "ev"))
  | ((with_reducible apply ev_slT); (walk_at "ev"); (walk_at "ev"); (walk_at "ev"); (exact fun h => Nat.ne_of_beq_eq_false rfl h.2); first | exact cut2 | exact cut3 | rfl)
  | ((with_reducible apply ev_slL); (walk_at "ev"); (walk_at "ev"); (walk_at "ev"); rfl)
  | ((with_reducible apply ev_kd); (walk_at "ev"); assumption; assumption)
  | ((with_reducible apply ev_call); (walk_at "ev"); assumption)
  | ((with_reducible apply ev_cb); (walk_at "ev"); (walk_at "cb"))
  | ((with_reducible apply ev_isi); (walk_at "ev"); (walk_at "dc"))
  | ((with_reducible apply ev_lcM); (walk_at "ev"); (exact Nat.le_of_ble_eq_true rfl); (walk_at "pd"))
  | ((with_reducible apply ei_list); (walk_at "ev"))
  | ((with_reducible apply ei_tup); (walk_at "ev"))
  | ((with_reducible apply ei_zip); (walk_at "ev"); assumption))
local macro_rules | `(tactic| walk_at "pd") => `(tactic| first | exact Paired.nil | ((apply Paired.cons); (walk_at "lc"); (walk_at "pd")))
local macro_rules | `(tactic| walk_at "cb") => `(tactic| first
  | with_reducible exact n_lenL
  | with_reducible exact n_lenT
  | ((with_reducible apply n_lenS); assumption)
  | with_reducible exact n_intB
  | with_reducible exact n_abs
  | with_reducible exact n_min
  | with_reducible exact n_tupL
  | with_reducible exact n_lisT
  | with_reducible exact n_lisL)
local macro_rules | `(tactic| walk_at "tr") => `(tactic| first
  | ((with_reducible apply q_retF); (walk_at "ev"); (walk_at "dc"))
  | ((with_reducible apply q_retT); (walk_at "ev"); (walk_at "dc"))
  | ((with_reducible apply q_retB); (walk_at "ev"))
  | ((with_reducible apply tr_retI); (walk_at "ev"))
  | ((with_reducible apply q_par); (walk_at "ev"))
  | ((with_reducible apply q_par3); (walk_at "ev"))
  | ((with_reducible apply q_newL); intro _)
  | ((with_reducible apply q_newD); intro _)
  | ((with_reducible apply q_asgA); (walk_at "ev"); (walk_at "tg")))
local macro_rules | `(tactic| walk_at "if") => `(tactic| first
  | ((with_reducible apply q_app (k := 0)); rfl; rfl; assumption; (walk_at "ev"))
  | with_reducible apply q_as
  | with_reducible apply q_nx
  | ((with_reducible apply q_par); (walk_at "ev"))
  | ((with_reducible apply q_par3); (walk_at "ev"))
  | ((with_reducible apply q_iF); (walk_at "ev"); (walk_at "dc"))
  | ((with_reducible apply q_iT); (walk_at "ev"); (walk_at "dc"))
  | ((with_reducible apply q_i); (walk_at "ev"))
  | ((with_reducible apply q_rt); (walk_at "ev"))
  | ((with_reducible apply q_asgA); (walk_at "ev"); (walk_at "tg")))


section
variable {P : Program} {w : World} {K : PySem.W.Frag} {mg : Str → Option Value} {base : Heap}
abbrev N__law_draw : List Str := ["_law_pen", "_law_many", "_law_drawn", "_law_at", "_law_cell", "_law_number"]
theorem sc__law_draw : FnScope N__law_draw ["_law_pen", "_law_many"] (defScope s__law_draw) := ⟨rfl, rfl, rfl, by decide +kernel, rfl, by decide +kernel, by decide +kernel⟩
def Pre_draw (ds : List PyData) : Prop := ∃ m : Int, 0 < m ∧ m < 1073741824 ∧ ds = [.int m]
def R_draw (ds : List PyData) (d : PyData) : Prop := ∃ m x : Int, ds = [.int m] ∧ 0 ≤ x ∧ x < m ∧ d = .int x
theorem ok__law_draw (T : Tx w K mg) : Cal P w K mg base "_law_draw" ["_law_pen", "_law_many"] 1 (spP K Pre_draw R_draw) := by
  refine cal_pen T.d__law_draw sc__law_draw (fun _ _ _ _ _ _ us hl => match us, hl with | [_, _], _ => rfl) (fun ds ⟨_, _, _, h1⟩ => by subst h1; rfl) (fun f cdv A outer s H E hr => ⟨_,
    (pss_cons (ps_if (pt_cmpR op_GT (pe_ix (r := rIx K) ix_seq (pv 0) pe_int (fun _ _ => rfl)) pe_int (nomark _)) (pss_cons (ps_set (i := 2) sc__law_draw.nd rfl (by first | exact .inl rfl | exact .inr rfl) (pe_op op_MOD (pe_ix (r := rIx K) ix_seq (pv 0) pe_int (fun _ _ => rfl)) (pv 1)))
  (pss_cons (ps_asg (pe_op op_DIV (pe_ix (r := rIx K) ix_seq (pv 0) pe_int (fun _ _ => rfl)) (pv 1)) (pg_sub (pv 0) pe_int set_list))
  (pss_one (ps_ret (pv 2))))) pss_nil)
  (pss_cons (ps_set (i := 3) sc__law_draw.nd rfl (by first | exact .inl rfl | exact .inr rfl) (pe_ix (r := rIx K) ix_seq (pv 0) pe_int (fun _ _ => rfl)))
  (pss_cons (ps_asg (pe_op op_ADD (pv 3) pe_int) (pg_sub (pv 0) pe_int set_list))
  (pss_cons (ps_set (i := 4) sc__law_draw.nd rfl (by first | exact .inl rfl | exact .inr rfl) pe_int)
  (pss_cons (ps_if (pt_cmpR op_GT (pe_callB (r := rLEN K) cr_LEN (by rfl) T.len (by decide +kernel) (pa_cons (pe_ix (r := rIx K) ix_seq (pv 0) pe_int (fun _ _ => rfl)) pa_nil)) pe_int (nomark _)) (pss_one (ps_set (i := 4) sc__law_draw.nd rfl (by first | exact .inl rfl | exact .inr rfl) (pe_ix (r := rIx K) ix_seq (pe_ix (r := rIx K) ix_seq (pv 0) pe_int (fun _ _ => rfl)) (pe_op op_MOD (pv 3) (pe_callB (r := rLEN K) cr_LEN (by rfl) T.len (by decide +kernel) (pa_cons (pe_ix (r := rIx K) ix_seq (pv 0) pe_int (fun _ _ => rfl)) pa_nil))) (fun _ _ => rfl)))) pss_nil)
  (pss_cons (ps_if (PW.pt (pw_and (pt_cmpR op_LT (pv 3) (pe_callB (r := rLEN K) cr_LEN (by rfl) T.len (by decide +kernel) (pa_cons (pe_ix (r := rIx K) ix_seq (pv 0) pe_int (fun _ _ => rfl)) pa_nil)) (nomark _)) (pw_and1 (pt_cmpR op_GE (pe_callB cr_ABS (by rfl) T.abs (by decide +kernel) (pa_cons (pv 4) pa_nil)) (pe_op op_POW pe_int pe_int) (nomark _))))) (pss_cons (ps_asg (pe_op op_DIV (pe_callB cr_ABS (by rfl) T.abs (by decide +kernel) (pa_cons (pv 4) pa_nil)) (pv 1)) (pg_sub (pv 0) pe_int set_list))
  (pss_one (ps_ret (pe_op op_MOD (pe_callB cr_ABS (by rfl) T.abs (by decide +kernel) (pa_cons (pv 4) pa_nil)) (pv 1))))) pss_nil)
  (pss_cons (ps_set (i := 5) sc__law_draw.nd rfl (by first | exact .inl rfl | exact .inr rfl) (pe_op op_MOD (pe_op op_ADD (pe_op op_ADD (pe_op op_MOD (pv 4) pe_int) (pe_op op_MUL pe_int (pv 3))) pe_int) pe_int))
  (pss_cons (ps_set (i := 5) sc__law_draw.nd rfl (by first | exact .inl rfl | exact .inr rfl) (pe_op op_MOD (pe_op op_ADD (pe_op op_ADD (pe_op op_MUL (pv 5) (pv 5)) (pe_op op_MUL pe_int (pv 3))) pe_int) pe_int))
  (pss_cons (ps_set (i := 5) sc__law_draw.nd rfl (by first | exact .inl rfl | exact .inr rfl) (pe_op op_MOD (pe_op op_ADD (pe_op op_ADD (pe_op op_MUL (pv 5) (pv 5)) (pe_op op_MUL pe_int (pv 5))) (pv 3)) pe_int))
  (pss_one (ps_ret (pe_op op_MOD (pe_op op_DIV (pv 5) pe_int) (pv 1))))))))))))), fun pen scr is ds hR => ?_⟩)
  obtain ⟨m, h0, h1, rfl⟩ := hR
  walk_at "go"
  refine q_ret' (PB := fun _ => True) (et_any (ev_opE (ev_pen2 rfl) ev_int fun a ha => op_imp o_gt fun d e => ⟨_, e.symm⟩)) (fun _ => ?_) fun _ => ?_
  · refine q_asg' (P := fun d => ∃ x : Int, 0 ≤ x ∧ x < m ∧ d = .int x) (ev_opE (ev_pen2 rfl) (by walk_at "ev") fun a ha => op_imp (o_mod h0) fun d e => ⟨_, Int.emod_nonneg _ (by omega), Int.emod_lt_of_pos _ h0, e.symm⟩) ?_
    rintro _ ⟨x, hx0, hx1, rfl⟩
    refine q_penSet (.inr rfl) rfl (ev_opE (ev_pen2 rfl) (by walk_at "ev") fun a ha => op_imp (o_div ⟨h0, h1⟩) fun d e => ⟨_, Int.ediv_nonneg ha (by omega), e.symm⟩) ?_
    exact tr_retI (by walk_at "ev") ⟨m, x, rfl, hx0, hx1, rfl⟩
  refine q_asg' (ev_pen1 rfl) ?_
  rintro _ ⟨a, ha, rfl⟩
  refine q_penSet (.inl rfl) rfl ((by walk_at "ev" : Ev (CP K pen scr is) K (tOp rADD (tVar 3) (tC (.int 1))) _ (Eq (.int (a + 1)))).imp fun d e => ⟨a + 1, by omega, e.symm⟩) ?_
  refine q_asg (d := .int 0) (by walk_at "ev") ?_
  have el : Ev (CP K pen scr is) K (tCB (rLEN K) (tCons (tOp (rIx K) (tVar 0) (tC (V.int 0))) tNil)) [Cell.ref pen, .val (.int m), .unk, .val (.int a), .val (.int 0), .unk] (Eq (.int ((is.map PyData.int).length : Nat))) := ev_penLen rfl
  refine tr_seq (N1 := fun s' => ∃ c : Int, s' = ([Cell.ref pen, .val (.int m), .unk, .val (.int a), .val (.int c), .unk], [])) (tr_if (b := decide (0 < (((is.map PyData.int).length : Nat) : Int))) (et_testD (ev_op el ev_int o_gt)) (fun e => ?_) fun _ => tr_next ⟨0, rfl⟩) ?_
  · have hn : 0 < (((is.map PyData.int).length : Nat) : Int) := of_decide_eq_true e
    obtain ⟨c, hc⟩ : ∃ c : Int, atI (is.map PyData.int) (a % (((is.map PyData.int).length : Nat) : Int)) = some (.int c) := by
      have b1 := Int.emod_nonneg a (b := (((is.map PyData.int).length : Nat) : Int)) (by omega)
      have b2 := Int.emod_lt_of_pos a hn
      generalize a % (((is.map PyData.int).length : Nat) : Int) = j at b1 b2
      have hj : j.toNat < is.length := by rw [List.length_map] at b2; omega
      refine ⟨is[j.toNat], ?_⟩
      have e2 : atI (is.map PyData.int) ((j.toNat : Nat) : Int) = some (.int is[j.toNat]) := atI_nat (by rw [List.getElem?_map, List.getElem?_eq_getElem hj]; rfl)
      rwa [Int.toNat_of_nonneg b1] at e2
    refine tr_asgG (is := anyS) (ev_penAt rfl (ev_op (by walk_at "ev") el (o_mod hn)) hc) (by walk_at "tg") ?_
    exact ⟨c, rfl⟩
  rintro _ ⟨c, rfl⟩
  have el2 : Ev (CP K pen scr is) K (tCB (rLEN K) (tCons (tOp (rIx K) (tVar 0) (tC (V.int 0))) tNil)) [Cell.ref pen, .val (.int m), .unk, .val (.int a), .val (.int c), .unk] (Eq (.int ((is.map PyData.int).length : Nat))) := ev_penLen rfl
  have ep : CPow 10 18 := ⟨by decide, by decide, by decide⟩
  refine q_retB (et_and (et_testD (ev_op (by walk_at "ev") el2 o_lt)) fun _ => et_testD (ev_op (ev_cb (by walk_at "ev") n_abs) (ev_op (by walk_at "ev") (by walk_at "ev") (o_pow ep)) o_ge)) (fun _ => ?_) fun _ => ?_
  · have hab : 0 ≤ (if c < 0 then -c else c) := by split <;> omega
    refine q_penSet (.inr rfl) rfl ((ev_op (ev_cb (by walk_at "ev") n_abs) (by walk_at "ev") (o_div ⟨h0, h1⟩)).imp fun d e => ⟨_, Int.ediv_nonneg hab (by omega), e.symm⟩) ?_
    exact tr_retI (ev_op (ev_cb (by walk_at "ev") n_abs) (by walk_at "ev") (o_mod h0)) ⟨m, _, rfl, Int.emod_nonneg _ (by omega), Int.emod_lt_of_pos _ h0, rfl⟩
  have c1 : CMul 52361 a := .inl ⟨by decide, by decide⟩
  have c2 : CMul 69427 a := .inl ⟨by decide, by decide⟩
  have md : ∀ (x M : Int), 0 < M → 0 ≤ x % M ∧ x % M < M := fun x M h => ⟨Int.emod_nonneg _ (by omega), Int.emod_lt_of_pos _ h⟩
  refine q_asg (ev_op (ev_op (ev_op (ev_op (by walk_at "ev") (by walk_at "ev") (o_mod (by decide))) (ev_op (by walk_at "ev") (by walk_at "ev") (o_mul c1)) o_addI) (by walk_at "ev") o_addI) (by walk_at "ev") (o_mod (by decide))) ?_
  generalize (c % 2147483579 + 52361 * a + 7) = y1
  have hy1 := md y1 2147483647 (by decide)
  generalize y1 % 2147483647 = x1 at hy1 ⊢
  have m1 : CMul x1 x1 := .inl ⟨by omega, by omega⟩
  refine q_asg (ev_op (ev_op (ev_op (ev_op (by walk_at "ev") (by walk_at "ev") (o_mul m1)) (ev_op (by walk_at "ev") (by walk_at "ev") (o_mul c2)) o_addI) (by walk_at "ev") o_addI) (by walk_at "ev") (o_mod (by decide))) ?_
  generalize (x1 * x1 + 69427 * a + 5) = y2
  have hy2 := md y2 2147483587 (by decide)
  generalize y2 % 2147483587 = x2 at hy2 ⊢
  have m2 : CMul x2 x2 := .inl ⟨by omega, by omega⟩
  have m3 : CMul 31 x2 := .inl ⟨by decide, by decide⟩
  refine q_asg (ev_op (ev_op (ev_op (ev_op (by walk_at "ev") (by walk_at "ev") (o_mul m2)) (ev_op (by walk_at "ev") (by walk_at "ev") (o_mul m3)) o_addI) (by walk_at "ev") o_addI) (by walk_at "ev") (o_mod (by decide))) ?_
  exact tr_retI (ev_op (ev_op (by walk_at "ev") (by walk_at "ev") (o_div ⟨by decide, by decide⟩)) (by walk_at "ev") (o_mod h0)) ⟨m, _, rfl, (md _ m h0).1, (md _ m h0).2, rfl⟩
end
end K92
end
section -- K92F18
set_option maxRecDepth 100000
set_option maxHeartbeats 1000000
namespace K92
open PySem PySem.Spec PyProof.Rows L2
local macro_rules | `(tactic| walk_at "dc") => `(tactic| first | decide +kernel | with_reducible rfl)
local macro_rules | `(tactic| walk_at "bb") => `(tactic| first | exact Eq.trans (b := true) (by decide +kernel) rfl | exact Eq.trans (b := false) (by decide +kernel) rfl)
local macro_rules | `(tactic| walk_at "go") => `(tactic| dsimp only [cxOf, Cx.nox, startC, List.map_cons, List.map_nil, List.length_cons, List.length_nil])
local macro_rules | `(tactic| walk_at "at") => `(tactic| first | with_reducible exact at_if | with_reducible exact at0 _ _ | with_reducible exact at1 _ _ _ | with_reducible exact at2 _ _ _ _ | rfl | exact at_word _ | exact at_name _ | exact at_day _)
local macro_rules | `(tactic| walk_at "op") => `(tactic| first
  | ((with_reducible apply o_ixT); walk_at "at")
  | ((with_reducible apply o_ixL); walk_at "at")
  | with_reducible exact o_eqS
  | with_reducible exact o_eqI
  | with_reducible exact o_neS
  | with_reducible exact o_neI
  | with_reducible exact o_le
  | with_reducible exact o_lt
  | with_reducible exact o_addI
  | with_reducible exact o_sub
  | ((with_reducible apply o_inT); first | assumption | rfl)
  | ((with_reducible apply o_inL); first | assumption | rfl)
  | with_reducible exact o_inS
  | with_reducible exact o_neNS
  | ((with_reducible apply o_neD); assumption; assumption)
  | ((with_reducible apply o_eqD); assumption; assumption))
local macro_rules | `(tactic| walk_at "tg") => `(tactic| first
  | ((with_reducible apply tg_name); decide)
  | ((with_reducible apply tg_tupW); (walk_at "tg"); rfl)
  | with_reducible exact tgs_nil
  | ((with_reducible apply tgs_cons); (walk_at "tg"); (walk_at "tg")))
local macro_rules | `(tactic| walk_at "lc") => `(tactic| ((apply lcI); (walk_at "tg"); (apply EvT.is); (walk_at "ev"); rfl; (intro _); (apply Ev.is); (walk_at "ev"); rfl))
local macro_rules | `(tactic| walk_at "ev") => `(tactic| first
  | ((with_reducible apply ev_var); rfl)
  | with_reducible exact ev_str
  | with_reducible exact ev_int
  | with_reducible exact ev_bl
  | with_reducible exact ev_non
  | with_reducible exact ev_c (by assumption)
  | with_reducible exact ea_nil
  | ((with_reducible apply ev_op); (walk_at "ev"); (walk_at "ev"); (walk_at "op"))
  | ((with_reducible apply ea_cons); (walk_at "ev"); (walk_at "ev"))
  | ((with_reducible apply ev_tupW); (walk_at "ev"); exact Nat.le_of_ble_eq_true rfl)
  | ((with_reducible apply ev_lstW); (walk_at "ev"); exact Nat.le_of_ble_eq_true rfl)
  | ((with_reducible apply et_testD); walk_at "ev")
  | ((with_reducible apply et_B); walk_at "ev")
  | ((with_reducible apply et_not); walk_at "ev")
  | ((with_reducible apply et_andF); (walk_at "ev"); (walk_at "dc"))
  | ((with_reducible apply et_andT); (walk_at "ev"); (walk_at "dc"); (walk_at "ev"))
  | ((with_reducible apply et_and); (walk_at "ev"); intro _; (walk_at "ev"))
  | ((with_reducible apply et_orT); (walk_at "ev"); (walk_at "dc"))
  | ((with_reducible apply et_orF); (walk_at "ev"); (walk_at "dc"); (walk_at "ev"))
  | ((with_reducible apply et_or); (walk_at "ev"); intro _; (walk_at "ev"))
  | ((with_reducible apply ev_andVF); (walk_at "ev"); (walk_at "dc"))
  | ((with_reducible apply ev_andVT); (walk_at "ev"); (walk_at "dc"); (walk_at "ev"))
  | ((with_reducible apply ev_orVT); (walk_at "ev"); (walk_at "dc"))
  | ((with_reducible apply ev_orVF); (walk_at "ev"); (walk_at "dc"); (walk_at "ev"))
  | ((with_reducible apply ev_andV); (walk_at "ev"); intro _; (walk_at "ev"))
  | ((with_reducible apply ev_orV); (walk_at "ev"); intro _; (walk_at "ev"))
  | ((with_reducible apply ev_notV); walk_at "ev")
  | ((with_reducible apply ev_neg); (walk_at "ev"))
  | ((with_reducible apply ev_isNE); (walk_at "ev"))
  | ((with_reducible apply ev_notN); (walk_at "ev"))
  | with_reducible exact lc_T
  | with_reducible exact eo_none
  | ((with_reducible apply eo_some); (walk_at "ev"))
  | ((with_reducible apply ev_slT); (walk_at "ev"); (walk_at "ev"); (walk_at "ev"); (exact fun h => Nat.ne_of_beq_eq_false rfl h.2); first | exact cut2 | exact cut3 | rfl)
  | ((with_reducible apply ev_slL); (walk_at "ev"); (walk_at "ev"); (walk_at "ev"); rfl)
  | ((with_reducible apply ev_kd); (walk_at "ev"); assumption; assumption)
  | ((with_reducible apply ev_call); (walk_at "ev"); assumption)
  | ((with_reducible apply ev_cb); (walk_at "ev"); (walk_at "cb"))
  | ((with_reducible apply ev_isi); (walk_at "ev"); (walk_at "dc"))
  | ((with_reducible apply ev_lcM); (walk_at "ev"); (exact Nat.le_of_ble_eq_true rfl); (walk_at "pd"))
  | ((with_reducible apply ei_list); (walk_at "ev"))
  | ((with_reducible apply ei_tup); (walk_at "ev"))
  | ((with_reducible apply ei_zip); (walk_at "ev"); assumption))
local macro_rules | `(tactic| walk_at "pd") => `(tactic| first | exact Paired.nil | ((apply Paired.cons); (walk_at "lc"); (walk_at "pd")))
local macro_rules | `(tactic| walk_at "cb") => `(tactic| first
  | with_reducible exact n_lenL
  | with_reducible exact n_lenT
  | ((with_reducible apply n_lenS); assumption)
  | with_reducible exact n_intB
  | with_reducible exact n_abs
  | with_reducible exact n_min
  | with_reducible exact n_tupL
  | with_reducible exact n_lisT
  | with_reducible exact n_lisL)
local macro_rules | `(tactic| walk_at "tr") => `(tactic| first
  | ((with_reducible apply q_retF); (walk_at "ev"); (walk_at "dc"))
  | ((with_reducible apply q_retT); (walk_at "ev"); (walk_at "dc"))
  | ((with_reducible apply q_retB); (walk_at "ev"))
  | ((with_reducible apply tr_retI); (walk_at "ev"))
  | ((with_reducible apply q_par); (walk_at "ev"))
  | ((with_reducible apply q_par3); (walk_at "ev"))
  | ((with_reducible apply q_newL); intro _)
  | ((with_reducible apply q_newD); intro _)
  | ((with_reducible apply q_asgA); (walk_at "ev"); (walk_at "tg")))
local macro_rules | `(tactic| walk_at "if") => `(tactic| first
  | ((with_reducible apply q_app (k := 0)); rfl; rfl; assumption; (walk_at "ev"))
  | with_reducible apply q_as
  | with_reducible apply q_nx
  | ((with_reducible apply q_par); (walk_at "ev"))
  | ((with_reducible apply q_par3); (walk_at "ev"))
  | ((with_reducible apply q_iF); (walk_at "ev"); (walk_at "dc"))
  | ((with_reducible apply q_iT); (walk_at "ev"); (walk_at "dc"))
  | ((with_reducible apply q_i); (walk_at "ev"))
  | ((with_reducible apply q_rt); (walk_at "ev"))
  | ((with_reducible apply q_asgA); (walk_at "ev"); (walk_at "tg")))


/-- where the law's own run thinks a thing is -/
inductive LS where
  | st (s : Stand)
  | gone
def LS.ds : LS → List PyData
  | .st s => s.ds
  | .gone => [.str "gone"]
abbrev LS.d (s : LS) : PyData := .tuple s.ds
def lhere : LS → Int → LS
  | .st s, day => .st (arrived s day)
  | .gone, _ => .gone
def lbehind (s : LS) (p : Page) : LS := match p with
  | .comes _ _ _ _ h => .st (.at_ h)
  | .trial _ e _ a b y => .st (.away a b (e + y) a)
  | .back _ e _ h y => (match s with
    | .st (.trial _ o) => .st (.away h o (e + y) o)
    | s => s)
  | .keep _ _ _ h _ => .st (.at_ h)
  | .give _ e _ a b y _ => .st (.way a b (e + y))
  | .goes .. => .gone
  | _ => s
section
variable {P : Program} {w : World} {K : PySem.W.Frag} {mg : Str → Option Value} {base : Heap}
abbrev N__law_here : List Str := ["_law_stand", "_law_day"]
theorem sc__law_here : FnScope N__law_here ["_law_stand", "_law_day"] (defScope s__law_here) := ⟨rfl, rfl, rfl, by decide +kernel, rfl, by decide +kernel, by decide +kernel⟩
def R_here (ds : List PyData) (d : PyData) : Prop := ∃ s day, ds = [LS.d s, .int day] ∧ d = (lhere s day).d
theorem ok__law_here (T : Tx w K mg) : Cal P w K mg base "_law_here" ["_law_stand", "_law_day"] 1 (spD K R_here) := by
  refine cal_data T.d__law_here sc__law_here (fun _ _ _ _ _ _ us hl => match us, hl with | [_, _], _ => rfl) (fun ds d ⟨s, day, h1, h2⟩ => by subst h1; rfl) (fun f cdv A outer s H E hr => ⟨_,
    (pss_cons (ps_if (PW.pt (pw_and (pt_cmpR (r := rIN K false) op_IN (pe_ix (r := rIx K) ix_seq (pv 0) pe_int (fun _ _ => rfl)) (pe_tup (pa_cons pe_str (pa_cons pe_str pa_nil))) rfl) (pw_and1 (pt_cmpR op_LE (pe_ix (r := rIx K) ix_seq (pv 0) pe_int (fun _ _ => rfl)) (pv 1) (nomark _))))) (pss_cons (ps_if (PW.pt (pw_or (pt_cmpR (r := rEQ K) (op_EQ hr.units) (pe_ix (r := rIx K) ix_seq (pv 0) pe_int (fun _ _ => rfl)) pe_str (nomark _)) (pw_or1 (pt_cmpR (r := rEQ K) (op_EQ hr.units) (pe_ix (r := rIx K) ix_seq (pv 0) pe_int (fun _ _ => rfl)) (pe_ix (r := rIx K) ix_seq (pv 0) pe_int (fun _ _ => rfl)) (nomark _))))) (pss_one (ps_ret (pe_tup (pa_cons pe_str (pa_cons (pe_ix (r := rIx K) ix_seq (pv 0) pe_int (fun _ _ => rfl)) pa_nil))))) pss_nil)
  (pss_one (ps_ret (pe_tup (pa_cons pe_str (pa_cons (pe_ix (r := rIx K) ix_seq (pv 0) pe_int (fun _ _ => rfl)) (pa_cons (pe_ix (r := rIx K) ix_seq (pv 0) pe_int (fun _ _ => rfl)) pa_nil))))))) pss_nil)
  (pss_one (ps_ret (pv 0)))), fun ds d hR => ?_⟩)
  obtain ⟨s, day, rfl, rfl⟩ := hR
  walk_at "go"
  cases s with
  | gone => walk_at "tr"; walk_at "tr"; rfl
  | st s =>
    cases s with
    | out => walk_at "tr"; walk_at "tr"; rfl
    | at_ h => walk_at "tr"; walk_at "tr"; rfl
    | trial h o => walk_at "tr"; walk_at "tr"; rfl
    | way a b dd =>
      walk_at "tr"
      · intro e
        walk_at "tr"; walk_at "tr"
        simp only [lhere, arrived, if_pos (show dd ≤ day by simpa using e)]; rfl
      · intro e
        walk_at "tr"
        simp only [lhere, arrived, if_neg (show ¬ dd ≤ day by simpa using e)]
    | away a b dd o =>
      walk_at "tr"
      · intro e
        have e' : dd ≤ day := by simpa using e
        walk_at "tr"
        · intro e
          have e2 : b = o := by simpa using e
          walk_at "tr"
          simp only [lhere, arrived, if_pos e', if_pos e2, e2]; rfl
        · intro e
          walk_at "tr"
          simp only [lhere, arrived, if_pos e', if_neg (show ¬ b = o by simpa using e)]; rfl
      · intro e
        walk_at "tr"
        simp only [lhere, arrived, if_neg (show ¬ dd ≤ day by simpa using e)]
abbrev N__law_behind : List Str := ["_law_stand", "_law_page", "_law_word", "_law_name", "_law_day"]
theorem sc__law_behind : FnScope N__law_behind ["_law_stand", "_law_page"] (defScope s__law_behind) := ⟨rfl, rfl, rfl, by decide +kernel, rfl, by decide +kernel, by decide +kernel⟩
def R_behind (ds : List PyData) (d : PyData) : Prop := ∃ s p, Page.rank p < 8 ∧ ds = [LS.d s, Page.d p] ∧ d = (lbehind s p).d
theorem LS.ds_head (s : LS) : ∃ x r, s.ds = .str x :: r := by cases s with
  | gone => exact ⟨_, _, rfl⟩
  | st s => cases s <;> exact ⟨_, _, rfl⟩
theorem ok__law_behind (T : Tx w K mg) : Cal P w K mg base "_law_behind" ["_law_stand", "_law_page"] 1 (spD K R_behind) := by
  refine cal_data T.d__law_behind sc__law_behind (fun _ _ _ _ _ _ us hl => match us, hl with | [_, _], _ => rfl) (fun ds d ⟨s, p, _, h1, h2⟩ => by subst h1; rfl) (fun f cdv A outer s H E hr => ⟨_,
    (pss_cons (ps_asg (pe_slice (r := rSL K) sl_SL (pv 1) po_none (po_some pe_int)) (pg_tup rfl (pgs_cons (pg_name (i := 2) sc__law_behind.nd rfl (by first | exact .inl rfl | exact .inr rfl)) (pgs_cons (pg_name (i := 3) sc__law_behind.nd rfl (by first | exact .inl rfl | exact .inr rfl)) (pgs_cons (pg_name (i := 4) sc__law_behind.nd rfl (by first | exact .inl rfl | exact .inr rfl)) pgs_nil)))))
  (pss_cons (ps_if (pt_cmpR (r := rEQ K) (op_EQ hr.units) (pv 2) pe_str (nomark _)) (pss_one (ps_ret (pe_tup (pa_cons pe_str (pa_cons (pe_ix (r := rIx K) ix_seq (pv 1) pe_int (fun _ _ => rfl)) pa_nil))))) pss_nil)
  (pss_cons (ps_if (pt_cmpR (r := rEQ K) (op_EQ hr.units) (pv 2) pe_str (nomark _)) (pss_one (ps_ret (pe_tup (pa_cons pe_str (pa_cons (pe_ix (r := rIx K) ix_seq (pv 1) pe_int (fun _ _ => rfl)) (pa_cons (pe_ix (r := rIx K) ix_seq (pv 1) pe_int (fun _ _ => rfl)) (pa_cons (pe_op op_ADD (pv 4) (pe_ix (r := rIx K) ix_seq (pv 1) pe_int (fun _ _ => rfl))) (pa_cons (pe_ix (r := rIx K) ix_seq (pv 1) pe_int (fun _ _ => rfl)) pa_nil)))))))) pss_nil)
  (pss_cons (ps_if (PW.pt (pw_and (pt_cmpR (r := rEQ K) (op_EQ hr.units) (pv 2) pe_str (nomark _)) (pw_and1 (pt_cmpR (r := rEQ K) (op_EQ hr.units) (pe_ix (r := rIx K) ix_seq (pv 0) pe_int (fun _ _ => rfl)) pe_str (nomark _))))) (pss_one (ps_ret (pe_tup (pa_cons pe_str (pa_cons (pe_ix (r := rIx K) ix_seq (pv 1) pe_int (fun _ _ => rfl)) (pa_cons (pe_ix (r := rIx K) ix_seq (pv 0) pe_int (fun _ _ => rfl)) (pa_cons (pe_op op_ADD (pv 4) (pe_ix (r := rIx K) ix_seq (pv 1) pe_int (fun _ _ => rfl))) (pa_cons (pe_ix (r := rIx K) ix_seq (pv 0) pe_int (fun _ _ => rfl)) pa_nil)))))))) pss_nil)
  (pss_cons (ps_if (pt_cmpR (r := rEQ K) (op_EQ hr.units) (pv 2) pe_str (nomark _)) (pss_one (ps_ret (pe_tup (pa_cons pe_str (pa_cons (pe_ix (r := rIx K) ix_seq (pv 1) pe_int (fun _ _ => rfl)) pa_nil))))) pss_nil)
  (pss_cons (ps_if (pt_cmpR (r := rEQ K) (op_EQ hr.units) (pv 2) pe_str (nomark _)) (pss_one (ps_ret (pe_tup (pa_cons pe_str (pa_cons (pe_ix (r := rIx K) ix_seq (pv 1) pe_int (fun _ _ => rfl)) (pa_cons (pe_ix (r := rIx K) ix_seq (pv 1) pe_int (fun _ _ => rfl)) (pa_cons (pe_op op_ADD (pv 4) (pe_ix (r := rIx K) ix_seq (pv 1) pe_int (fun _ _ => rfl))) pa_nil))))))) pss_nil)
  (pss_one (ps_ret (pe_ix (r := rIx K) ix_seq (pe_lst (pa_cons (pv 0) (pa_cons (pe_tup (pa_cons pe_str pa_nil)) pa_nil))) (pe_callTy cr_INT (by rfl) T.int (by decide +kernel) (pa_cons (pe_cmpR (r := rEQ K) (op_EQ hr.units) (pv 2) pe_str (nomark _)) pa_nil)) (fun _ _ => rfl)))))))))), fun ds d hR => ?_⟩)
  obtain ⟨s, p, hr8, rfl, rfl⟩ := hR
  walk_at "go"
  cases p
  case comes => walk_at "tr"; walk_at "tr"; walk_at "tr"; rfl
  case trial => walk_at "tr"; walk_at "tr"; walk_at "tr"; walk_at "tr"; rfl
  case back n e t h y =>
    cases s with
    | gone =>
      walk_at "tr"; walk_at "tr"; walk_at "tr"; walk_at "tr"; walk_at "tr"; walk_at "tr"; walk_at "tr"; rfl
    | st s =>
      cases s
      case trial => walk_at "tr"; walk_at "tr"; walk_at "tr"; walk_at "tr"; walk_at "tr"; rfl
      all_goals (walk_at "tr"; walk_at "tr"; walk_at "tr"; walk_at "tr"; walk_at "tr"; walk_at "tr"; walk_at "tr"; rfl)
  case keep => walk_at "tr"; walk_at "tr"; walk_at "tr"; walk_at "tr"; walk_at "tr"; walk_at "tr"; rfl
  case give => walk_at "tr"; walk_at "tr"; walk_at "tr"; walk_at "tr"; walk_at "tr"; walk_at "tr"; walk_at "tr"; rfl
  case loose => exact absurd hr8 (show ¬ 8 < 8 by decide)
  case want => exact absurd hr8 (show ¬ 9 < 8 by decide)
  case owe => exact absurd hr8 (show ¬ 10 < 8 by decide)
  case pay => exact absurd hr8 (show ¬ 11 < 8 by decide)
  all_goals (walk_at "tr"; walk_at "tr"; walk_at "tr"; walk_at "tr"; walk_at "tr"; walk_at "tr"; walk_at "tr"; rfl)
end
end K92
end
section -- K92Z
set_option maxRecDepth 100000
set_option maxHeartbeats 1000000
/-! zip of a text and a tuple of one length. -/
namespace K92
open PySem PySem.Spec PyProof.Rows L2
def ItzST (K : PySem.W.Frag) (zz : Str) (b : Addr) : It :=
  ⟨fun i H => ∃ (ys : List V) (c : Nat) (y : V), SqT K H b ys ∧ zz.cps[i]? = some c ∧ ys[i]? = some y,
    fun i H v H' => ∃ T c y, v = .ref T ∧ H T = none ∧ H' = upd H T (.tup [.str ⟨#[c]⟩, y]) ∧ zz.cps[i]? = some c ∧ ∀ ys, SqT K H b ys → ys[i]? = some y,
    fun i H => ∃ ys : List V, SqT K H b ys ∧ ys.length = zz.cps.size ∧ i = zz.cps.size⟩
theorem turn_zipST {P : Program} {w : World} {K : PySem.W.Frag} {elts : List Expr} {kk : Nat} {tpos : Pos} {zz : Str} {t : Tok} {b z TI TO i1 i2 : Addr} (D : ZipSep2 z TI TO i1 i2 [i1] [i2, b]) (hb : b ≠ i2) :
    Turn P w K (.Tuple elts kk tpos) (ItzST K zz b) [z, TI, TO, i1, i2] z (fun i h => IsZip h z TI TO .none ∧ IsTupOf2 h TI (.ref i1) (.ref i2) ∧ (∃ x y, IsTupOf2 h TO x y) ∧ h.IsStrIter i1 (strIterType zz) zz t i ∧ h.IsTupleIter i2 b i) where
  mem := by simp
  obj := fun i h st c hc => by
    obtain ⟨hz, hTI, ⟨x, y, hTO⟩, ⟨o1, e1, _, d1⟩, ⟨o2, e2, _, d2⟩⟩ := st
    have e' : c = z ∨ c = TI ∨ c = TO ∨ c = i1 ∨ c = i2 := by simpa using hc
    rcases e' with q | q | q | q | q
    · rw [q]; exact ⟨_, hz, fun v q => nomatch q⟩
    · rw [q]; exact ⟨_, hTI, fun v q => nomatch q⟩
    · rw [q]; exact ⟨_, hTO, fun v q => nomatch q⟩
    · rw [q]; exact ⟨o1, e1, fun v q => by rw [d1] at q; cases q⟩
    · rw [q]; exact ⟨o2, e2, fun v q => by rw [d2] at q; cases q⟩
  keep := fun i h h' st k => by
    obtain ⟨hz, hTI, ⟨x, y, hTO⟩, ⟨o1, e1, c1, d1⟩, h2⟩ := st
    exact ⟨k z (by simp) _ hz, k TI (by simp) _ hTI, ⟨x, y, k TO (by simp) _ hTO⟩, ⟨o1, k i1 (by simp) _ e1, c1, d1⟩, h2.at fun o q => k i2 (by simp) o q⟩
  item := by
    intro X hP hw hK hc i pins s σ H E I hf st hg
    subst hP hw hK
    obtain ⟨hz, hTI, ⟨x0, y0, hTO⟩, h1, h2⟩ := st
    obtain ⟨ys, c, y, hqy, hx, hy⟩ := hg
    obtain ⟨its2, rv2, p2, _⟩ := I.tuple hqy
    obtain ⟨u2, hu2, ru2⟩ := rv2.get hy
    have hzl : z < s.heap.objs.size := Heap.lt_size hz
    have hh : X.A.in1.handled = none := I.ok.hd hc
    have lc : i < zz.cps.size := by
      obtain ⟨q, _⟩ := Array.getElem?_eq_some_iff.mp hx
      exact q
    have lu : i < its2.toArray.size := by
      obtain ⟨q, _⟩ := List.getElem?_eq_some_iff.mp hu2
      simpa using q
    refine wpAny_pyNext_zipD2_item D (Draws.text hh i1 zz t) (Draws.tuple hh i2 b hb its2.toArray) hz hTI hTO h1 ⟨h2, p2⟩ lc lu fun x1 x2 h' tk hx1 hx2 z' TO' h1' h2' hT hsz hk => ?_
    obtain ⟨c', u', hc', rfl⟩ := hx1
    rw [hx] at hc'
    cases hc'
    have e2 : x2 = u2 := by
      rw [show its2.toArray[i]? = some u2 by simpa using hu2] at hx2
      exact (Option.some.inj hx2).symm
    subst e2
    refine ⟨_, rfl, wpAny_letOwnedTupleGo_zip (s := { s with heap := h', toks := tk }) z' fun h'' z'' sb => ?_⟩
    have hT2 : h''.get? s.heap.objs.size = some { cls := .type "tuple", data := .seq #[.str ⟨#[c]⟩ u', x2] } := (sb.2 _ (Nat.ne_of_gt hzl)).trans hT
    have new : ObjOk X.prog X.w (upd H s.heap.objs.size (.tup [.str ⟨#[c]⟩, y])) h'' s.heap.objs.size (.tup [.str ⟨#[c]⟩, y]) :=
      ⟨by show 2 ≤ sizeLine; decide, [.str ⟨#[c]⟩ u', x2], .cons ⟨_, rfl⟩ (.cons ru2 .nil), ⟨_, hT2, rfl, _, rfl⟩⟩
    have I1 : Inv X pins σ (upd H s.heap.objs.size (.tup [.str ⟨#[c]⟩, y])) { s with heap := h'', toks := tk } :=
      I.turnedNew (t' := tk) (ch := [z, TI, TO, i1, i2]) (fun c o hb q => (sb.2 c (fun q' => hb (by simp [q']))).trans (hk c o (fun q' => hb (by simp [q'])) (fun q' => hb (by simp [q'])) (fun q' => hb (by simp [q'])) (fun q' => hb (by simp [q'])) q)) hf (Nat.le_refl _) new
    refine ⟨.ref s.heap.objs.size, _, I1, rfl, ⟨_, c, y, rfl, I.hok.fresh (Nat.le_refl _), rfl, hx, fun l hl => by rw [I.tuple_inj hl hqy]; exact hy⟩, ⟨z'', ?_, ⟨.str ⟨#[c]⟩ u', x2, ?_⟩, ?_, ?_⟩, fun c hcm => ?_⟩
    · exact (sb.2 _ D.TIz).trans (hk _ _ D.TIz D.TITO D.TIi1 D.TIi2 hTI)
    · exact (sb.2 _ D.TOz).trans TO'
    · exact h1'.extBut sb.extBut (Ne.symm D.zi1)
    · exact h2'.1.at fun o q => (sb.2 _ (Ne.symm D.zi2)).trans q
    · have hlt : c < s.heap.objs.size := by
        have e' : c = z ∨ c = TI ∨ c = TO ∨ c = i1 ∨ c = i2 := by simpa using hcm
        rcases e' with q | q | q | q | q
        · rw [q]; exact hzl
        · rw [q]; exact Heap.lt_size hTI
        · rw [q]; exact Heap.lt_size hTO
        · rw [q]; obtain ⟨_, e1, _⟩ := h1; exact Heap.lt_size e1
        · rw [q]; obtain ⟨_, e2, _⟩ := h2; exact Heap.lt_size e2
      rw [upd_ne (Nat.ne_of_lt hlt)]
      exact (hf c hcm).1
  done := by
    intro X hP hw hK hc i pins s σ H E I hf st hg
    subst hP hw hK
    obtain ⟨hz, hTI, ⟨x0, y0, hTO⟩, h1, h2⟩ := st
    obtain ⟨ys, hqy, hl, hi⟩ := hg
    obtain ⟨its2, rv2, p2, _⟩ := I.tuple hqy
    have l2 := rv2.length
    have hh : X.A.in1.handled = none := I.ok.hd hc
    have ls : its2.toArray.size = zz.cps.size := by simp; omega
    exact wpAny_pyNext_zipD2_end D (Draws.text hh i1 zz t) (Draws.tuple hh i2 b hb its2.toArray) hz hTI hTO h1 ⟨h2, p2⟩ (by omega) (by omega) (.inl hi) fun h' tk hk => ⟨rfl, I.turnedL (t' := tk) (ch := [z, TI, TO, i1, i2]) (fun c o hb q =>
      hk c o (fun q' => hb (by simp [q'])) (fun q' => hb (by simp [q'])) (fun q' => hb (by simp [q'])) (fun q' => hb (by simp [q'])) q) hf⟩
  self := fun A i s Q E st h => wpAny_pyIter_zip st.1 h
theorem nin1 {x a : Nat} (h : x ≠ a) : x ∉ [a] := fun m => h (List.mem_singleton.mp m)
theorem nin2 {x a b : Nat} (h : x ≠ a) (h2 : x ≠ b) : x ∉ [a, b] := fun m => (List.mem_cons.mp m).elim h fun m => h2 (List.mem_singleton.mp m)
theorem sepN (n b : Nat) (h : b < n) : ZipSep2 (n + 4) (n + 2) (n + 3) n (n + 1) [n] [n + 1, b] ∧ b ≠ n + 1 :=
  ⟨⟨(by omega : n + 2 ≠ n + 4), (by omega : n + 3 ≠ n + 4), (by omega : n + 2 ≠ n + 3), (by omega : n + 2 ≠ n), List.mem_cons_self .., nin1 (by omega), nin1 (by omega), (by omega : n + 2 ≠ n + 1), List.mem_cons_self .., nin2 (by omega) (by omega), nin2 (by omega) (by omega), nin2 (by omega) (by omega), nin1 (by omega)⟩, by omega⟩
def iZipST (K : PySem.W.Frag) (ta : TA) : TI := fun σ H R => ta σ H fun vs H1 => ∃ zz b ys, vs = [.str zz, .ref b] ∧ SqT K H1 b ys ∧ R (ItzST K zz b) H1
theorem pi_zipST {X : Cx} {e e2 : Expr} {ta : TA} {p pos tpos : Pos} {elts : List Expr} {kk : Nat} (hg : Gl X "zip") (hm : X.mg "zip" = none) (ha : PA X [e, e2] ta)
    (hs : starEach [e, e2] X.env = (false, eval e X.env) :: starEach [e2] X.env := by rfl) (hpl : (backTo pos (starEach [e2] X.env)).any (·.1) = false := by rfl) :
    PI X (.Tuple elts kk tpos) (.Call (.Name "zip" p) [e, e2] [] pos) (iZipST X.K ta) := by
  refine ⟨fun pins s σ H R I h => ?_⟩
  refine Call_ (ld_blt I hg hm PyProof.Rows.boot_zip (PyProof.Rows.callWith_type1 (thn (ha.run pos pins s σ H _ I h) fun us s1 ⟨vs, H1, I1, r1, q1⟩ => ?_) hs hpl))
  obtain ⟨zz, b, ys, ex, hqy, q⟩ := q1
  subst ex
  cases r1 with
  | cons r rr =>
    cases rr with
    | cons r' rr =>
      cases rr
      obtain ⟨t, rfl⟩ := r
      cases r'
      obtain ⟨its2, rv2, p2, _⟩ := I1.tuple hqy
      obtain ⟨ob, hob, _⟩ := id p2
      have lb : b < s1.heap.objs.size := Heap.lt_size hob
      refine zip_begins2 (begins_text zz t) (begins_tuple b its2.toArray) trivial p2 fun h' hz hTI hTO h1 h2 hsz hk => wpAny_pyIter_zip hz ?_
      have I2 : Inv X pins σ H1 { s1 with heap := h' } := I1.kept (t' := s1.toks) hk
      have sep := sepN s1.heap.objs.size b lb
      refine ⟨s1.heap.objs.size + 4, [s1.heap.objs.size + 4, s1.heap.objs.size + 2, s1.heap.objs.size + 3, s1.heap.objs.size, s1.heap.objs.size + 1], _, _, H1, rfl, I2, turn_zipST (zz := zz) (t := t) (b := b) sep.1 sep.2, ⟨hz, hTI, ⟨_, _, hTO⟩, ⟨_, h1, rfl, rfl⟩, ⟨_, h2, rfl, rfl⟩⟩, fun c hcm => ?_, q⟩
      have e' : c = s1.heap.objs.size + 4 ∨ c = s1.heap.objs.size + 2 ∨ c = s1.heap.objs.size + 3 ∨ c = s1.heap.objs.size ∨ c = s1.heap.objs.size + 1 := by simpa using hcm
      have hle : s1.heap.objs.size ≤ c := by
        rcases e' with z | z | z | z | z
        · rw [z]; exact Nat.le_add_right _ _
        · rw [z]; exact Nat.le_add_right _ _
        · rw [z]; exact Nat.le_add_right _ _
        · rw [z]; exact Nat.le_refl _
        · rw [z]; exact Nat.le_add_right _ _
      exact I1.fpOk hle (I1.hok.fresh hle)
section
variable {C : Ctx} {K : PySem.W.Frag} {ρ : List Cell} {ta : TA}
theorem wk_zipST {B : Hp} {zz : Str} {b : Addr} {ys : List V} {es : List PyData} (h : SqT K B b ys) (r : RpAll K B ys es) (hl : zz.cps.size = es.length) :
    Wk C K (ItzST K zz b) B (((zz.cps.toList.map fun c => PyData.str ⟨#[c]⟩).zip es).map fun q => .tuple [q.1, q.2]) := by
  have hn : (((zz.cps.toList.map fun c => PyData.str ⟨#[c]⟩).zip es).map fun q : PyData × PyData => PyData.tuple [q.1, q.2]).length = es.length := by rw [List.length_map, List.length_zip, List.length_map]; simp [hl]
  refine ⟨fun i B' H hi e o => ?_, fun B' H e o => ?_, fun i B' H x H' hi e o y => ?_⟩
  · rw [hn] at hi
    exact ⟨ys, zz.cps[i]'(by omega), ys[i]'(by rw [r.length]; exact hi), Evl.ex_t (e.trans o.ex) h, by simp [hl, hi], by simp [r.length, hi]⟩
  · exact ⟨ys, Evl.ex_t (e.trans o.ex) h, by rw [r.length, hl], by rw [hn, hl]⟩
  · obtain ⟨T, c, y1, rfl, hT, rfl, hc, k2⟩ := y
    obtain ⟨d2, e2, s2⟩ := r.get' (k2 ys (Evl.ex_t (e.trans o.ex) h))
    have g := Gr.new o (.tup [.str ⟨#[c]⟩, y1]) hT
    refine ⟨.tuple [.str ⟨#[c]⟩, d2], _, ?_, g, .tup (SqT.of upd_same) (.cons (.str _) (.cons (s2.mono (e.trans g.bb)) .nil))⟩
    have e1 : (zz.cps.toList.map fun c => PyData.str ⟨#[c]⟩)[i]? = some (.str ⟨#[c]⟩) := by rw [List.getElem?_map, Array.getElem?_toList, hc]; rfl
    rw [List.getElem?_map, show ((zz.cps.toList.map fun c => PyData.str ⟨#[c]⟩).zip es)[i]? = some (.str ⟨#[c]⟩, d2) from List.getElem?_zip_eq_some.mpr ⟨e1, e2⟩]
    rfl
theorem ei_zipST {zz : Str} {es : List PyData} (h : EvA C K ta ρ (Eq [.str zz, .tuple es])) (hl : zz.cps.size = es.length) : EvI C K (iZipST K ta) ρ (Eq (((zz.cps.toList.map fun c => PyData.str ⟨#[c]⟩).zip es).map fun q => .tuple [q.1, q.2])) := fun σ B H e o R q =>
  h σ B H e o _ fun ds vs B1 H1 p g r => by
    subst p
    cases r with
    | cons r1 r2 =>
      cases r2 with
      | cons r2 r3 =>
        cases r3
        cases r1
        cases r2 with
        | tup h2 a2 => exact ⟨zz, _, _, rfl, Evl.ex_t g.on.ex h2, q _ _ B1 H1 rfl g (wk_zipST h2 a2 hl)⟩
end
end K92
end
section -- K92U
set_option maxRecDepth 100000
set_option maxHeartbeats 1000000
/-! Sets of texts: set(list), set(tuple), sorted(set), len(set). Turned from the kit's proofs for sets of whole numbers. -/
namespace K92
open PySem PySem.Spec PyProof.Rows L2
def keyS (e : Int × Value) : Str := match e.2 with | .str x _ => x | _ => Str.empty
def GoodS (w : World) (e : Int × Value) : Prop := ∃ k tk, e.2 = Value.str k tk ∧ e.1 = hashStr w k

/-- the set of texts at a: S its members, n their number; its table rises and can be walked -/
def SetRS (w : World) (h : Heap) (a : Addr) (S : Str → Bool) (n : Nat) : Prop :=
  ∃ o es ep t, h.get? a = some o ∧ o.ExactSet ∧ o.data = .set es ep t ∧ (∀ e ∈ es.toList, GoodS w e) ∧ (es.toList.map keyS).Nodup ∧ (∀ k, S k = true ↔ k ∈ es.toList.map keyS) ∧
    es.size < scanBound ∧ t.fits es.size = true ∧ es.size = n ∧ Ris t.place.toList ∧ (w.params.followText "set-order" = true ∨ t.led = true)

section
variable {P : Program} {w : World} {h h' : Heap} {a : Addr} {S : Str → Bool} {n : Nat}

theorem SetRS.at (R : SetRS w h a S n) (k : ∀ o, h.get? a = some o → h'.get? a = some o) : SetRS w h' a S n := by
  obtain ⟨o, es, ep, t, ho, r⟩ := R
  exact ⟨o, es, ep, t, k o ho, r⟩
theorem SetRS.lt (R : SetRS w h a S n) : a < h.objs.size := by
  obtain ⟨o, es, ep, t, ho, r⟩ := R
  exact Heap.lt_size ho
theorem SetRS.congr {S' : Str → Bool} (R : SetRS w h a S n) (e : ∀ k, S' k = S k) : SetRS w h a S' n := by
  have q : S' = S := funext e
  rw [q]; exact R
theorem goodS_elems {l : List (Int × Value)} (g : ∀ e ∈ l, GoodS w e) : ElemsOf (strKind P w) l := fun e he => by
  obtain ⟨k, tk, h1, h2⟩ := g e he
  exact ⟨⟨k, by rw [h1]; exact strKind_is P w k tk, h2⟩, by rw [h1] <;> rfl⟩
theorem goodS_is {e : Int × Value} (g : GoodS w e) (k : Str) : (strKind P w).is k e.2 = true ↔ keyS e = k := by
  obtain ⟨k0, tk, h1, _⟩ := g
  unfold keyS
  rw [h1]
  show ((k0 == k) = true) ↔ k0 = k
  exact beq_iff_eq
theorem goodS_mem {l : List (Int × Value)} (g : ∀ e ∈ l, GoodS w e) (k : Str) : k ∈ l.map keyS ↔ ∃ e ∈ l, (strKind P w).is k e.2 = true := by
  rw [List.mem_map]
  constructor
  · rintro ⟨e, he, q⟩
    exact ⟨e, he, (goodS_is (g e he) k).2 q⟩
  · rintro ⟨e, he, q⟩
    exact ⟨e, he, (goodS_is (g e he) k).1 q⟩
theorem SetRS.setOf (R : SetRS w h a S n) : h.SetOf (strKind P w) a S n := by
  obtain ⟨o, es, ep, t, ho, hx, hd, g, nd, hm, hb, hf, hn, _⟩ := R
  exact ⟨o, es, ep, t, ho, hx, hd, goodS_elems g, fun k => (hm k).trans (goodS_mem g k), hb, hf, hn⟩
end

section
variable {P : Program} {w : World} {A : Around} {E : Value → Shared → Prop} {s : Shared} {a : Addr} {S : Str → Bool} {n : Nat}

theorem setS_add_tail {g : Bool → Sem Unit} (hg : ∀ (b : Bool) (s₁ : Shared) (Q' : Unit → Shared → Prop), Q' () s₁ → wpAny (model P w) A (g b) Q' E s₁)
    {o : Obj} {es : Array (Int × Value)} {ep : Nat} {t : SetTable} (ho : s.heap.get? a = some o) (hex : o.ExactSet) (hd : o.data = .set es ep t)
    {es1 : Array (Int × Value)} {t2 : SetTable} {S' : Str → Bool} (g1 : ∀ e ∈ es1.toList, GoodS w e) (nd1 : (es1.toList.map keyS).Nodup) (m1 : ∀ k, S' k = true ↔ k ∈ es1.toList.map keyS)
    (hb1 : es1.size < scanBound) (hf2 : t2.fits es1.size = true) (hr : Ris t2.place.toList) (hl : w.params.followText "set-order" = true ∨ t2.led = true) {wasDummy : Bool} {R : Option Bool → Shared → Prop}
    (hR : ∀ h', Heap.SameBut a s.heap h' → SetRS w h' a S' es1.size → R (some true) { s with heap := h' }) :
    wpAny (model P w) A (do
        storeSet a es1 t2
        if (!wasDummy && t2.tooFull) = true then do
            g (relayAll t2 es1 (SetTable.grown es1.size)).2.2
            storeSet a (relayAll t2 es1 (SetTable.grown es1.size)).1 (relayAll t2 es1 (SetTable.grown es1.size)).2.1
            pure (some true)
          else pure (some true)) R E s := by
  refine wpAny_bind (wpAny_storeSet_of ho hd ?_ (fits_of_scanBound hb1))
  have ho1 := store_at (es' := es1) (t' := t2) ho hd
  have sb1 := Heap.SameBut.update s.heap a (Obj.putSet es1 t2)
  split
  · have pm := relayAll_perm t2 es1 (SetTable.grown es1.size)
    have hf3 := relayAll_fits t2 es1 (SetTable.grown es1.size)
    have hr3 := relayAll_ris t2 es1 (SetTable.grown es1.size)
    have hl3 := relayAll_led t2 es1 (SetTable.grown es1.size)
    generalize relayAll t2 es1 (SetTable.grown es1.size) = Z at pm hf3 hr3 hl3 ⊢
    obtain ⟨es2, t3, gave⟩ := Z
    dsimp only at pm hf3 hr3 hl3 ⊢
    have hsz : es2.size = es1.size := by rw [← Array.length_toList, pm.length_eq, Array.length_toList]
    have hb2 : es2.size < scanBound := by rw [hsz]; exact hb1
    refine wpAny_bind (hg _ _ _ ?_)
    refine wpAny_bind (wpAny_storeSet_of ho1 rfl ?_ (fits_of_scanBound hb2))
    have ho2 := store_at (es' := es2) (t' := t3) ho1 rfl
    refine wpAny_pure (hR _ (sb1.trans (Heap.SameBut.update _ a _)) ?_)
    exact ⟨_, es2, _, t3, ho2, hex, rfl, fun e he => g1 e (pm.mem_iff.mp he), (pm.map keyS).nodup_iff.mpr nd1, fun k => (m1 k).trans (pm.map keyS).mem_iff.symm, hb2, hf3, hsz, hr3,
      hl.imp id fun z => by rw [hl3]; exact z⟩
  · exact wpAny_pure (hR _ sb1 ⟨_, es1, _, t2, ho1, hex, rfl, g1, nd1, m1, hb1, hf2, rfl, hr, hl⟩)

theorem setS_add_hashed {k : Str} {tk : Tok} {Q : Bool → Shared → Prop} (R : SetRS w s.heap a S n) (room : n + 1 < scanBound)
    (hQ : ∀ h', Heap.SameBut a s.heap h' → SetRS w h' a (fun j => S j || decide (j = k)) (if S k = true then n else n + 1) → Q (!S k) { s with heap := h' }) :
    wpAny (model P w) A (setAddHashed a (.str k tk) ((strKind P w).hash k)) Q E s := by
  obtain ⟨o, es, ep, t, ho, hex, hd, g, nd, hm, hb, hf, hn, hr, hl⟩ := R
  have hkey : (strKind P w).is k (.str k tk) = true := strKind_is P w k tk
  have hsc : (Value.str k tk).scannable = true := rfl
  have hel : ElemsOf (strKind P w) es.toList := goodS_elems g
  unfold setAddHashed setAddHashedIn
  refine wpAny_holding (wpAny_bind (wpAny_setState_of ho hd hf ?_))
  dsimp only
  rw [byScan_of hsc hb hel]
  simp only [↓reduceIte]
  unfold setAddByScan
  refine wpAny_bind ?_
  refine wpAny_bind (wpAny_rule ?_)
  refine wpAny_bind (wpAny_setScan_of hkey ho hd hf hel ?_)
  cases hfi : List.findIdx? (fun e => (strKind P w).is k e.2) es.toList with
  | some j =>
    dsimp only
    obtain ⟨hj, pj, _⟩ := List.findIdx?_eq_some_iff_getElem.mp hfi
    have hSk : S k = true := (hm k).2 ((goodS_mem (P := P) (w := w) g k).2 ⟨es.toList[j], List.getElem_mem hj, pj⟩)
    refine wpAny_pure (wpAny_pure ?_)
    have q := hQ s.heap (Heap.SameBut.refl a s.heap) ⟨o, es, ep, t, ho, hex, hd, g, nd, fun i => by
      rw [Bool.or_eq_true, decide_eq_true_eq, ← hm i]
      exact ⟨fun z => z.elim id (fun e => e ▸ hSk), .inl⟩, hb, hf, by rw [if_pos hSk]; exact hn, hr, hl⟩
    rw [hSk] at q
    exact q
  | none =>
    dsimp only
    have hnk : k ∉ es.toList.map keyS := fun z => by
      obtain ⟨e, he, q⟩ := (goodS_mem (P := P) (w := w) g k).1 z
      have c := List.findIdx?_eq_none_iff.mp hfi e he
      rw [q] at c
      cases c
    have hSk : S k = false := by
      cases q : S k with
      | false => rfl
      | true => exact absurd ((hm k).1 q) hnk
    have hgw : ∀ (b : Bool) {s₁ : Shared} {Q' : Unit → Shared → Prop}, Q' () s₁ → wpAny (model P w) A (match b with | true => rule "set.scan.the-table-gave-way" | false => pure ()) Q' E s₁ :=
      fun b s₁ Q' q => by cases b <;> first | exact wpAny_pure q | exact wpAny_rule q
    have pm := layNew_perm t es ((strKind P w).hash k) (.str k tk)
    have hf1 := layNew_fits t es ((strKind P w).hash k) (.str k tk)
    have hr1 := layNew_ris t es ((strKind P w).hash k) (.str k tk) hr
    have hl1 := layNew_led t es ((strKind P w).hash k) (.str k tk)
    generalize layNew t es ((strKind P w).hash k) (.str k tk) = Z at pm hf1 hr1 hl1 ⊢
    obtain ⟨es1, t1, wasDummy, gave⟩ := Z
    dsimp only at pm hf1 hr1 hl1 ⊢
    rw [Array.toList_push] at pm
    have pc : es1.toList.Perm (((strKind P w).hash k, Value.str k tk) :: es.toList) := pm.trans (List.perm_append_singleton _ _)
    have pk : (es1.toList.map keyS).Perm (k :: es.toList.map keyS) := pc.map keyS
    have g1 : ∀ e ∈ es1.toList, GoodS w e := fun e he => by
      rcases List.mem_cons.mp (pc.mem_iff.mp he) with z | z
      · rw [z]; exact ⟨k, tk, rfl, rfl⟩
      · exact g e z
    have nd1 : (es1.toList.map keyS).Nodup := pk.nodup_iff.mpr (List.nodup_cons.mpr ⟨hnk, nd⟩)
    have m1 : ∀ i, (S i || decide (i = k)) = true ↔ i ∈ es1.toList.map keyS := fun i => by
      rw [Bool.or_eq_true, decide_eq_true_eq, hm i, pk.mem_iff, List.mem_cons]
      exact Or.comm
    have hsz : es1.size = n + 1 := by rw [← Array.length_toList, pc.length_eq, List.length_cons, Array.length_toList, hn]
    have hb1 : es1.size < scanBound := by rw [hsz]; exact room
    have hled : w.params.followText "set-order" = true ∨ t1.led = true := hl.imp id fun z => by rw [hl1]; exact z
    have fin : ∀ h', Heap.SameBut a s.heap h' → SetRS w h' a (fun j => S j || decide (j = k)) es1.size → Q true { s with heap := h' } := fun h' sb r => by
      have q := hQ h' sb
      rw [hSk] at q
      rw [hsz] at r
      exact q r
    refine wpAny_bind (hgw _ ?_)
    split
    · refine wpAny_bind ?_
      rw [hashByValue_scannable 8 hsc]
      refine wpAny_pure ?_
      refine setS_add_tail ?_ ho hex hd g1 nd1 m1 hb1 ?_ ?_ ?_ ?_
      · intro b s₁ Q' q; cases b <;> first | exact wpAny_pure q | exact wpAny_rule q
      · first | (split <;> first | exact hf1 | exact SetTable.fits_plain_off hf1) | exact hf1
      · first | (split <;> exact hr1) | exact hr1
      · first | (split <;> exact hled) | exact hled
      · intro h' sb r; dsimp only; exact wpAny_pure (fin h' sb r)
    · refine wpAny_bind (wpAny_pure ?_)
      simp only [↓reduceIte]
      refine setS_add_tail ?_ ho hex hd g1 nd1 m1 hb1 hf1 hr1 hled ?_
      · intro b s₁ Q' q; cases b <;> first | exact wpAny_pure q | exact wpAny_rule q
      · intro h' sb r; dsimp only; exact wpAny_pure (fin h' sb r)

/-- the text of a value -/
def strIn (v : Value) : Str := match v with | .str x _ => x | _ => Str.empty
theorem strs_in : ∀ (l : List Value), (∀ v ∈ l, ∃ k tk, v = Value.str k tk) → StrsAre l (l.map strIn)
  | [], _ => .nil
  | v :: l, h => by
    obtain ⟨k, tk, rfl⟩ := h v List.mem_cons_self
    exact .cons k tk (strs_in l fun u hu => h u (List.mem_cons_of_mem _ hu))
theorem sorted_setS {S : Str → Bool} {n : Nat} {Q : Value → Shared → Prop} (R : SetRS w s.heap a S n) (hh : A.handled = none) (h64 : n < 64)
    (hQ : ∀ s' p (out : Array Value) (c : Nat) (ns : List Str), (∀ b o, s.heap.get? b = some o → s'.heap.get? b = some o) → s'.gens = s.gens → s'.os = s.os → s.heap.objs.size ≤ p →
      s'.heap.get? p = some (seqObj "list" out c) → StrsAre out.toList ns → sortedS ns = true → ns.Nodup → (∀ k, k ∈ ns ↔ S k = true) → ns.length = n → Q (.ref p) s') :
    wpAny (model P w) A (call (.builtin "sorted") [.ref a]) Q E s := by
  obtain ⟨o, es, ep, t, ho, hex, hd, g, nd, hm, hb, hf, hn, hr, hl⟩ := R
  refine Calls.call_function_entry kind_sorted plain_sorted entry_sorted (args_sorted1 _) ?_
  unfold Builtin.«sorted»
  refine wpAny_bind (m := checkCount "sorted" 1 1 _) (wpAny_pure ?_)
  refine wpAny_bind (collect_set (A := A.in1) hh ⟨o, ho, hex.1, hd⟩ hf hb hr hl fun s1 vs k1 hz g1 o1 pm => ?_)
  have hvl : vs.length = n := by rw [pm.length_eq, List.length_map, Array.length_toList]; exact hn
  have hI : StrsAre vs (vs.map strIn) := strs_in vs fun v hv => by
    obtain ⟨e, he, q⟩ := List.mem_map.mp (pm.mem_iff.mp hv)
    obtain ⟨k, tk, h1, _⟩ := g e he
    exact ⟨k, tk, by rw [← q]; exact h1⟩
  have pk : (vs.map strIn).Perm (es.toList.map keyS) := by
    have q := pm.map strIn
    rw [List.map_map] at q
    exact q
  refine wpAny_bind (wpAny_newList ?_ (by rw [hvl, sizeLine_eq]; omega))
  have hoL : (s1.heap.push (seqObj "list" vs.toArray 0)).get? s1.heap.objs.size = some (seqObj "list" vs.toArray 0) := Heap.get?_push_size _ rfl
  refine wpAny_bind (wpAny_holding (wpAny_call_entry slot_list_sort ⟨_, hoL, rfl⟩ entry_list_sort
    (list_sort_treeK strKind_oneLt hoL hI.keysOf (fun v₁ v₂ rest e => keyKind_strs (by rw [← e]; exact hI)) (by rw [hvl]; exact h64) fun st' hp hs => ⟨_, rfl, ?_⟩) (args_list_sort _)))
  obtain ⟨ns', a1, a2, a3⟩ := sorted_out_str hI hp hs
  obtain ⟨c, hc⟩ := sortedHeap_at (vs := vs) (out := (arrOf st').map (·.2)) hoL
  have pn : ns'.Perm (es.toList.map keyS) := a2.trans pk
  refine wpAny_pure ⟨_, rfl, hQ _ s1.heap.objs.size _ c ns' (fun b u e => ?_) g1 o1 hz hc a1 a3 (pn.nodup_iff.mpr nd) (fun k => by rw [pn.mem_iff, ← hm k]) ?_⟩
  · have q := k1 b u e
    have hlt := Heap.lt_size q
    show (sortedHeap (s1.heap.push (seqObj "list" vs.toArray 0)) s1.heap.objs.size vs _).get? b = some u
    rw [sortedHeap_old (Nat.ne_of_lt hlt) (by rw [size_push']; exact Nat.lt_succ_of_lt hlt)]
    exact Heap.get?_push_of_some _ q
  · rw [pn.length_eq, List.length_map, Array.length_toList]; exact hn
end
theorem setS_new_at {w : World} {h : Heap} {a : Addr} {ns : List Str} (ho : h.get? a = some { cls := .type "set", dict := none, data := .set #[] 0 (.fresh 0 0 (!w.params.followText "set-order")) }) : SetRS w h a (fun j => decide (j ∈ ns.take 0)) 0 :=
  ⟨_, #[], 0, _, ho, ⟨rfl, rfl, rfl⟩, rfl, (fun e he => by simp at he), (by simp), (fun k => by simp), (by decide), (by rfl), rfl, List.Pairwise.nil, by
    show _ ∨ (!w.params.followText "set-order") = true
    cases w.params.followText "set-order"
    · exact .inr rfl
    · exact .inl rfl⟩
section
variable {P : Program} {w : World} {A : Around} {E : Value → Shared → Prop} {s : Shared}
theorem set_update_strs {I : Addr} {fp wr : List Addr} {G : Array GenState → Array GenState → Prop} {n : Nat} {Pv : Nat → Value → Prop} {St : Nat → Shared → Prop} {R : Result → Shared → Prop}
    (W : WalksS P w A.in1 I fp wr G n Pv St) (S : Addr) (hSf : S ∉ fp) (ns : List Str) (hn : n = ns.length) (hb : ns.length + 1 < scanBound) (hval : ∀ i v, Pv i v → ∃ k t, ns[i]? = some k ∧ v = .str k t) :
    ∀ (k i : Nat) (s : Shared), n - i = k → i ≤ n → St i s → (∃ c, c ≤ i ∧ SetRS w s.heap S (fun j => decide (j ∈ ns.take i)) c) →
      (∀ s' c, Moved (S :: wr) G s s' → c ≤ n → SetRS w s'.heap S (fun j => decide (j ∈ ns)) c → R (.ok (.ret .none)) s') →
      codeAny (model P w) A (.builtin "set.update.loop" ⟨[.ref S, .ref I], []⟩) R s := by
  have hSw : S ∉ wr := fun h => hSf (W.sub _ h)
  have hsub : ∀ b ∈ wr, b ∈ S :: wr := fun b hb => List.mem_cons_of_mem _ hb
  intro k
  induction k with
  | zero =>
    intro i s hk' hi hst ⟨c, hc, hS⟩ hR
    have hin : i = n := by omega
    subst hin
    refine codeAny_builtin F.entry_set_update_loop ?_
    rw [Around.under_plainId F.plain_set_update_loop _]
    show wpAny _ A.in1 (pyNext (.ref I) >>= _) _ _ s
    refine wpAny_bind (W.done s _ _ hst fun s' hm => ?_)
    show wpAny _ A.in1 (ret Value.none) _ _ s'
    have e : ns.take i = ns := List.take_of_length_le (by omega)
    rw [e] at hS
    exact wpAny_pure (hR s' c (hm.mono hsub) hc (hS.at fun o e => hm.heap S o hSw e))
  | succ k ih =>
    intro i s hk' hi hst ⟨c, hc, hS⟩ hR
    have hlt : i < n := by omega
    refine codeAny_builtin F.entry_set_update_loop ?_
    rw [Around.under_plainId F.plain_set_update_loop _]
    show wpAny _ A.in1 (pyNext (.ref I) >>= _) _ _ s
    refine wpAny_bind (W.item i s _ _ hlt hst fun v s' hP hst' hm => ?_)
    obtain ⟨z, t, hz, rfl⟩ := hval i v hP
    have hS' : SetRS w s'.heap S (fun j => decide (j ∈ ns.take i)) c := hS.at fun o e => hm.heap S o hSw e
    show wpAny _ A.in1 (holding [Value.str z t] (setAdd S (.str z t)) >>= _) _ _ s'
    refine wpAny_bind (wpAny_holding ?_)
    unfold setAdd
    refine wpAny_holding ?_
    refine wpAny_bind ((strKind P w).pyHash (k := z) (strKind_is _ _ _ _) ?_)
    refine setS_add_hashed (s := { s' with toks := s'.toks + 1 }) hS' (by omega) fun h' hsb hS2 => ?_
    have hS3 : SetRS w h' S (fun j => decide (j ∈ ns.take (i + 1))) (if decide (z ∈ ns.take i) = true then c else c + 1) := hS2.congr fun j => by
      rw [List.take_add_one, hz]
      simp [List.mem_append]
    have hc3 : (if decide (z ∈ ns.take i) = true then c else c + 1) ≤ i + 1 := by
      split <;> omega
    refine wpAny_pure ⟨plainId_quiet F.plain_set_update_loop _, ih (i + 1) _ (by omega) hlt (W.frame _ s' _ _ hst' (Nat.le_succ _) fun b hb o e => ?_) ⟨_, hc3, hS3⟩ fun s'' c2 hm'' hc'' hS'' => ?_⟩
    · rw [hsb.2 b (fun h : b = S => hSf (by rw [← h]; exact hb))]; exact e
    · refine hR s'' c2 (Moved.trans W.gtrans ((hm.mono hsub).then_heap (Nat.le_succ _) fun b o hb e => ?_) hm'') hc'' hS''
      rw [hsb.2 b (fun h : b = S => hb (by rw [h]; exact List.mem_cons_self))]; exact e

set_option maxRecDepth 100000 in
set_option maxHeartbeats 3200000 in
theorem call_set_tupS {l : Addr} {items : Array Value} (ns : List Str) {Q : Value → Shared → Prop} (hh : A.handled = none) (hl : s.heap.IsTuple l items) (hit : StrsAre items.toList ns) (hb : ns.length + 1 < scanBound)
    (h : ∀ (h' : Heap) (tk c : Nat), SetRS w h' s.heap.objs.size (fun j => decide (j ∈ ns)) c → c ≤ ns.length → (∀ b o, s.heap.get? b = some o → h'.get? b = some o) → Q (.ref s.heap.objs.size) { s with heap := h', toks := tk }) :
    wpAny (model P w) A (call (.type "set") [.ref l]) Q E s := by
  have hisz : items.size = ns.length := by
    have q := StrsAre.len_eq hit
    rw [Array.length_toList] at q
    exact q
  obtain ⟨c, tl, hmro⟩ := F.called_set.mro
  have hmade := F.called_set.made
  have hsub := F.called_set.sub
  refine wpAny_call (codeAny_of_tree ?_)
  show wpAny _ _ (callAny (.type "set") _) _ _ _
  refine wpAny_pure ⟨Code.quiet_builtin _ (by decide +kernel), codeAny_builtin F.entry_type_call ?_⟩
  rw [Around.under_plain (weight_type_call_type "set" [.ref l] []) rfl]
  have h1 := F.called_set.notType
  have h2 := F.called_set.canCreate
  have hct := F.typeCall_set_1 (.ref l)
  repeat (any_goals (first | assumption | wp_step))

  refine codeAny_mono (code_set_led1 (.ref l) (E := E) (Q₁ := fun obj s₁ => obj = .ref s.heap.objs.size ∧ s₁ = { s with heap := s.heap.push { cls := .type "set", dict := none, data := .set #[] 0 (.fresh 0 0 (!w.params.followText "set-order")) } }) ⟨rfl, rfl⟩) fun r s₁ hr => ?_
  cases r with
  | error e => exact hr
  | ok fl =>
    cases fl with
    | ret obj =>
      obtain ⟨rfl, rfl⟩ := hr
      have hS : (s.heap.push { cls := .type "set", dict := none, data := .set #[] 0 (.fresh 0 0 (!w.params.followText "set-order")) }).get? s.heap.objs.size = some { cls := .type "set", dict := none, data := .set #[] 0 (.fresh 0 0 (!w.params.followText "set-order")) } := Heap.get?_push_size _ rfl
      have hT : Shared.TypeIs { s with heap := s.heap.push { cls := .type "set", dict := none, data := .set #[] 0 (.fresh 0 0 (!w.params.followText "set-order")) } } (.ref s.heap.objs.size) "set" := ⟨_, hS, rfl⟩
      have hli := F.called_set.init.lookup
      have hbi := F.called_set.init.bind (.ref s.heap.objs.size)
      repeat (any_goals (first | assumption | wp_step))

      refine codeAny_mono (codeAny_call_builtin (R := wants (fun r s₂ => r = .none ∧ ∃ h' tk c, s₂ = { s with heap := h', toks := tk } ∧ SetRS w h' s.heap.objs.size (fun j => decide (j ∈ ns)) c ∧ c ≤ ns.length ∧
          (∀ b o, s.heap.get? b = some o → h'.get? b = some o)) E) F.called_set.init.plain F.entry_set_init (check_set_init_1 hT ?_)) fun r₂ s₂ hr₂ => ?_
      · obtain ⟨ol, hol, hcl, nl, hdl⟩ := hl
        obtain ⟨ocls, odict, odata, oslots⟩ := ol
        simp only at hcl hdl
        subst hcl; subst hdl
        have hol' : (s.heap.push { cls := .type "set", dict := none, data := .set #[] 0 (.fresh 0 0 (!w.params.followText "set-order")) }).get? l = some { cls := .type "tuple", dict := odict, data := .seq items nl, slots := oslots } := Heap.get?_push_of_some _ hol
        have hsls := F.sub_tuple_set
        have hslf := F.sub_tuple_frozenset
        have hne : (Value.type "tuple" == Value.type "dict") = false := by decide
        have hl1 : (s.heap.push { cls := .type "set", dict := none, data := .set #[] 0 (.fresh 0 0 (!w.params.followText "set-order")) }).IsTuple l items := ⟨_, hol', rfl, nl, rfl⟩
        unfold Builtin.«set.__init__» noKeywords Builtin.Frozenset.updateFrom
        generalize hPI : pyIter = PI
        wp_walk
        subst hPI

        refine wpAny_pyIter_tuple hl1 ?_
        refine wpAny_bind (wpAny_runValue ?_)
        have hlS : l < s.heap.objs.size := Heap.lt_size hol
        have hh3 : A.in1.in1.in1.handled = none := by simp [hh]
        have hz1 : (s.heap.push { cls := .type "set", dict := none, data := .set #[] 0 (.fresh 0 0 (!w.params.followText "set-order")) }).objs.size = s.heap.objs.size + 1 := Heap.size_push ..
        have hneI : l ≠ (s.heap.push { cls := .type "set", dict := none, data := .set #[] 0 (.fresh 0 0 (!w.params.followText "set-order")) }).objs.size := by
          rw [Heap.size_push]; exact Nat.ne_of_lt (Nat.lt_succ_of_lt hlS)
        have hSf : s.heap.objs.size ∉ [(s.heap.push { cls := .type "set", dict := none, data := .set #[] 0 (.fresh 0 0 (!w.params.followText "set-order")) }).objs.size, l] := by
          rw [Heap.size_push]; simp only [List.mem_cons, List.mem_singleton, List.not_mem_nil, or_false, not_or]
          exact ⟨Nat.ne_of_lt (Nat.lt_succ_self _), Nat.ne_of_gt hlS⟩
        have hval : ∀ (i : Nat) (v : Value), items[i]? = some v → ∃ k t, ns[i]? = some k ∧ v = .str k t := fun i v hv => by
          have hi : i < ns.length := by rw [← hisz]; exact (Array.getElem?_eq_some_iff.mp hv).1
          obtain ⟨t, e⟩ := SS.strs_at hit i v (by rw [Array.getElem?_toList]; exact hv)
          refine ⟨ns[i], t, List.getElem?_eq_getElem hi, ?_⟩
          rw [e, List.getD_eq_getElem?_getD, List.getElem?_eq_getElem hi] <;> rfl
        refine set_update_strs ((Walks.tuple hh3 _ l hneI items).toS) s.heap.objs.size
          hSf ns hisz hb hval (items.size - 0) 0 _ (by omega) (Nat.zero_le _)
          ⟨⟨_, Heap.get?_push_size _ rfl, rfl, rfl⟩, (hl1.push _)⟩ ?hS0 ?hR
        case hS0 =>
          have hget : ((s.heap.push { cls := .type "set", dict := none, data := .set #[] 0 (.fresh 0 0 (!w.params.followText "set-order")) }).push { cls := .type "tuple_iterator", data := .fields #[.ref l, .int 0 0] }).get? s.heap.objs.size
              = some { cls := .type "set", dict := none, data := .set #[] 0 (.fresh 0 0 (!w.params.followText "set-order")) } := Heap.get?_push_of_some _ hS
          exact ⟨0, Nat.le_refl 0, setS_new_at hget⟩
        case hR =>
          intro s' c' hm hc' hS'
          obtain ⟨h', g2, d', tk', os'⟩ := s'
          have eg : g2 = s.gens := hm.gens
          have ed : d' = s.drawn := hm.drawn
          have eo : os' = s.os := hm.os
          subst eg; subst ed; subst eo
          show wpAny _ _ _ _ _ _
          refine wpAny_pure ?_
          show wpAny _ _ (ret Value.none) _ _ _
          rw [hisz] at hc'
          refine wpAny_pure ⟨rfl, h', tk', c', rfl, hS', hc', fun b o e => ?_⟩
          have hb0 : b < s.heap.objs.size := Heap.lt_size e
          have hb1 : b ≠ s.heap.objs.size := Nat.ne_of_lt hb0
          have hb2 : b ≠ (s.heap.push { cls := .type "set", dict := none, data := .set #[] 0 (.fresh 0 0 (!w.params.followText "set-order")) }).objs.size := by
            rw [Heap.size_push]; exact Nat.ne_of_lt (Nat.lt_succ_of_lt hb0)
          exact hm.heap b o (by simp only [List.mem_cons, List.mem_singleton, List.not_mem_nil, or_false, not_or]; exact ⟨hb1, hb2⟩) (Heap.get?_push_of_some _ (Heap.get?_push_of_some _ e))

      · cases r₂ with
        | error e => exact hr₂
        | ok fl₂ =>
          cases fl₂ with
          | ret r =>
            obtain ⟨rfl, h', tk, c', rfl, hS', hc', hk'⟩ := hr₂
            repeat (any_goals (first | assumption | wp_step))
            exact h _ _ _ hS' hc' hk'
          | _ => exact hr₂.elim
    | _ => exact hr.elim

set_option maxRecDepth 100000 in
set_option maxHeartbeats 3200000 in
theorem call_set_listU {l : Addr} {items : Array Value} (ns : List Str) {Q : Value → Shared → Prop} (hh : A.handled = none) (hl : s.heap.IsList l items) (hit : StrsAre items.toList ns) (hb : ns.length + 1 < scanBound)
    (h : ∀ (h' : Heap) (tk c : Nat), SetRS w h' s.heap.objs.size (fun j => decide (j ∈ ns)) c → c ≤ ns.length → (∀ b o, s.heap.get? b = some o → h'.get? b = some o) → Q (.ref s.heap.objs.size) { s with heap := h', toks := tk }) :
    wpAny (model P w) A (call (.type "set") [.ref l]) Q E s := by
  have hisz : items.size = ns.length := by
    have q := StrsAre.len_eq hit
    rw [Array.length_toList] at q
    exact q
  obtain ⟨c, tl, hmro⟩ := F.called_set.mro
  have hmade := F.called_set.made
  have hsub := F.called_set.sub
  refine wpAny_call (codeAny_of_tree ?_)
  show wpAny _ _ (callAny (.type "set") _) _ _ _
  refine wpAny_pure ⟨Code.quiet_builtin _ (by decide +kernel), codeAny_builtin F.entry_type_call ?_⟩
  rw [Around.under_plain (weight_type_call_type "set" [.ref l] []) rfl]
  have h1 := F.called_set.notType
  have h2 := F.called_set.canCreate
  have hct := F.typeCall_set_1 (.ref l)
  repeat (any_goals (first | assumption | wp_step))

  refine codeAny_mono (code_set_led1 (.ref l) (E := E) (Q₁ := fun obj s₁ => obj = .ref s.heap.objs.size ∧ s₁ = { s with heap := s.heap.push { cls := .type "set", dict := none, data := .set #[] 0 (.fresh 0 0 (!w.params.followText "set-order")) } }) ⟨rfl, rfl⟩) fun r s₁ hr => ?_
  cases r with
  | error e => exact hr
  | ok fl =>
    cases fl with
    | ret obj =>
      obtain ⟨rfl, rfl⟩ := hr
      have hS : (s.heap.push { cls := .type "set", dict := none, data := .set #[] 0 (.fresh 0 0 (!w.params.followText "set-order")) }).get? s.heap.objs.size = some { cls := .type "set", dict := none, data := .set #[] 0 (.fresh 0 0 (!w.params.followText "set-order")) } := Heap.get?_push_size _ rfl
      have hT : Shared.TypeIs { s with heap := s.heap.push { cls := .type "set", dict := none, data := .set #[] 0 (.fresh 0 0 (!w.params.followText "set-order")) } } (.ref s.heap.objs.size) "set" := ⟨_, hS, rfl⟩
      have hli := F.called_set.init.lookup
      have hbi := F.called_set.init.bind (.ref s.heap.objs.size)
      repeat (any_goals (first | assumption | wp_step))

      refine codeAny_mono (codeAny_call_builtin (R := wants (fun r s₂ => r = .none ∧ ∃ h' tk c, s₂ = { s with heap := h', toks := tk } ∧ SetRS w h' s.heap.objs.size (fun j => decide (j ∈ ns)) c ∧ c ≤ ns.length ∧
          (∀ b o, s.heap.get? b = some o → h'.get? b = some o)) E) F.called_set.init.plain F.entry_set_init (check_set_init_1 hT ?_)) fun r₂ s₂ hr₂ => ?_
      · obtain ⟨ol, hol, hcl, nl, hdl⟩ := hl
        obtain ⟨ocls, odict, odata, oslots⟩ := ol
        simp only at hcl hdl
        subst hcl; subst hdl
        have hol' : (s.heap.push { cls := .type "set", dict := none, data := .set #[] 0 (.fresh 0 0 (!w.params.followText "set-order")) }).get? l = some { cls := .type "list", dict := odict, data := .seq items nl, slots := oslots } := Heap.get?_push_of_some _ hol
        have hsls := F.sub_list_set
        have hslf := F.sub_list_frozenset
        have hne : (Value.type "list" == Value.type "dict") = false := by decide
        have hl1 : (s.heap.push { cls := .type "set", dict := none, data := .set #[] 0 (.fresh 0 0 (!w.params.followText "set-order")) }).IsList l items := ⟨_, hol', rfl, nl, rfl⟩
        unfold Builtin.«set.__init__» noKeywords Builtin.Frozenset.updateFrom
        generalize hPI : pyIter = PI
        wp_walk
        subst hPI

        refine wpAny_pyIter_list hl1 ?_
        refine wpAny_bind (wpAny_runValue ?_)
        have hlS : l < s.heap.objs.size := Heap.lt_size hol
        have hh3 : A.in1.in1.in1.handled = none := by simp [hh]
        have hz1 : (s.heap.push { cls := .type "set", dict := none, data := .set #[] 0 (.fresh 0 0 (!w.params.followText "set-order")) }).objs.size = s.heap.objs.size + 1 := Heap.size_push ..
        have hneI : l ≠ (s.heap.push { cls := .type "set", dict := none, data := .set #[] 0 (.fresh 0 0 (!w.params.followText "set-order")) }).objs.size := by
          rw [Heap.size_push]; exact Nat.ne_of_lt (Nat.lt_succ_of_lt hlS)
        have hSf : s.heap.objs.size ∉ [(s.heap.push { cls := .type "set", dict := none, data := .set #[] 0 (.fresh 0 0 (!w.params.followText "set-order")) }).objs.size, l] := by
          rw [Heap.size_push]; simp only [List.mem_cons, List.mem_singleton, List.not_mem_nil, or_false, not_or]
          exact ⟨Nat.ne_of_lt (Nat.lt_succ_self _), Nat.ne_of_gt hlS⟩
        have hval : ∀ (i : Nat) (v : Value), items[i]? = some v → ∃ k t, ns[i]? = some k ∧ v = .str k t := fun i v hv => by
          have hi : i < ns.length := by rw [← hisz]; exact (Array.getElem?_eq_some_iff.mp hv).1
          obtain ⟨t, e⟩ := SS.strs_at hit i v (by rw [Array.getElem?_toList]; exact hv)
          refine ⟨ns[i], t, List.getElem?_eq_getElem hi, ?_⟩
          rw [e, List.getD_eq_getElem?_getD, List.getElem?_eq_getElem hi] <;> rfl
        refine set_update_strs ((Walks.list hh3 _ l hneI items).toS) s.heap.objs.size
          hSf ns hisz hb hval (items.size - 0) 0 _ (by omega) (Nat.zero_le _)
          ⟨⟨_, Heap.get?_push_size _ rfl, rfl, rfl⟩, (hl1.push _)⟩ ?hS0 ?hR
        case hS0 =>
          have hget : ((s.heap.push { cls := .type "set", dict := none, data := .set #[] 0 (.fresh 0 0 (!w.params.followText "set-order")) }).push { cls := .type "list_iterator", data := .fields #[.ref l, .int 0 0] }).get? s.heap.objs.size
              = some { cls := .type "set", dict := none, data := .set #[] 0 (.fresh 0 0 (!w.params.followText "set-order")) } := Heap.get?_push_of_some _ hS
          exact ⟨0, Nat.le_refl 0, setS_new_at hget⟩
        case hR =>
          intro s' c' hm hc' hS'
          obtain ⟨h', g2, d', tk', os'⟩ := s'
          have eg : g2 = s.gens := hm.gens
          have ed : d' = s.drawn := hm.drawn
          have eo : os' = s.os := hm.os
          subst eg; subst ed; subst eo
          show wpAny _ _ _ _ _ _
          refine wpAny_pure ?_
          show wpAny _ _ (ret Value.none) _ _ _
          rw [hisz] at hc'
          refine wpAny_pure ⟨rfl, h', tk', c', rfl, hS', hc', fun b o e => ?_⟩
          have hb0 : b < s.heap.objs.size := Heap.lt_size e
          have hb1 : b ≠ s.heap.objs.size := Nat.ne_of_lt hb0
          have hb2 : b ≠ (s.heap.push { cls := .type "set", dict := none, data := .set #[] 0 (.fresh 0 0 (!w.params.followText "set-order")) }).objs.size := by
            rw [Heap.size_push]; exact Nat.ne_of_lt (Nat.lt_succ_of_lt hb0)
          exact hm.heap b o (by simp only [List.mem_cons, List.mem_singleton, List.not_mem_nil, or_false, not_or]; exact ⟨hb1, hb2⟩) (Heap.get?_push_of_some _ (Heap.get?_push_of_some _ e))

      · cases r₂ with
        | error e => exact hr₂
        | ok fl₂ =>
          cases fl₂ with
          | ret r =>
            obtain ⟨rfl, h', tk, c', rfl, hS', hc', hk'⟩ := hr₂
            repeat (any_goals (first | assumption | wp_step))
            exact h _ _ _ hS' hc' hk'
          | _ => exact hr₂.elim
    | _ => exact hr.elim

end
end K92
end
section -- K92V
set_option maxRecDepth 100000
set_option maxHeartbeats 1000000
/-! sorted(set(e)), len(set(e)), e a list or a tuple of texts. -/
namespace K92
open PySem PySem.Spec PyProof.Rows L2
def tSortSet (K : PySem.W.Frag) (ta : TE) : TE := fun σ H Q => ta σ H fun x H1 => ∃ (l : Addr) (xs : List Str), x = .ref l ∧ (SqL K H1 l (xs.map V.str) ∨ SqT K H1 l (xs.map V.str)) ∧ xs.length < 64 ∧
  ∀ (ys : List Str) (p : Addr), ys.Nodup → sortedS ys = true → (∀ k, k ∈ ys ↔ k ∈ xs) → H1 p = none → Q (.ref p) (upd H1 p (.lst (ys.map V.str)))
def tLenSetU (K : PySem.W.Frag) (ta : TE) : TE := fun σ H Q => ta σ H fun x H1 => ∃ (l : Addr) (xs : List Str), x = .ref l ∧ SqL K H1 l (xs.map V.str) ∧ xs.length < 64 ∧ xs.Nodup ∧ Q (.int (xs.length : Nat)) H1
section
variable {X : Cx} {a : Expr} {ta : TE} {p p2 q pos : Pos}
theorem setS_card {w : World} {h : Heap} {a : Addr} {xs : List Str} {n : Nat} (R : SetRS w h a (fun j => decide (j ∈ xs)) n) (hn : xs.Nodup) : n = xs.length := by
  obtain ⟨o, es, ep, t, ho, hex, hd, g, nd, hm, hb, hf, e, _⟩ := R
  have pk : (es.toList.map keyS).Perm xs := (List.perm_ext_iff_of_nodup nd hn).mpr fun k => by rw [← hm k, decide_eq_true_eq]
  have z := pk.length_eq
  rw [List.length_map, Array.length_toList] at z
  rw [← e, z]
theorem pe_sortSet (hc : X.calm = true) (hg : Gl X "sorted") (hm : X.mg "sorted" = none) (hg2 : Gl X "set") (hm2 : X.mg "set" = none) (ha : PE X a ta)
    (na : starEach [a] X.env = (false, eval a X.env) :: starEach [] X.env := by rfl) : PE X (.Call (.Name "sorted" p) [.Call (.Name "set" p2) [a] [] q] [] pos) (tSortSet X.K ta) := by
  refine ⟨fun pins s σ H Q I h => ?_⟩
  refine Call_ (ld_blt I hg hm boot_sorted ?_)
  refine PyProof.Rows.callWith_builtin1 (PyProof.Rows.args_cons ?_ rfl) rfl rfl
  refine Call_ (ld_blt I hg2 hm2 boot_set ?_)
  refine PyProof.Rows.callWith_type1 (PyProof.Rows.args_cons (thn (ha.run pins s σ H _ I h) fun v s1 ⟨x, H1, I1, r1, q1⟩ => PyProof.Rows.args_nil ?_) na) na rfl
  obtain ⟨l, xs, rfl, hq, h64, q1⟩ := q1
  cases r1
  have hd := I1.ok.hd hc
  have room : xs.length + 1 < scanBound := by unfold scanBound; omega
  have fin : ∀ (h' : Heap) (tk c : Nat), SetRS X.w h' s1.heap.objs.size (fun j => decide (j ∈ xs)) c → c ≤ xs.length → (∀ b o, s1.heap.get? b = some o → h'.get? b = some o) →
      wpAny (model X.prog X.w) X.A (spliced (backTo pos (starEach [] X.env))) (fun vs s₂ => wpAny (model X.prog X.w) X.A (call (.builtin "sorted") (Value.ref s1.heap.objs.size :: vs)) (EP X pins σ Q) X.xe s₂) X.xe { s1 with heap := h', toks := tk } := fun h' tk c R1 hcn k => by
    refine PyProof.Rows.args_nil ?_
    refine sorted_setS (s := { s1 with heap := h', toks := tk }) R1 hd (by omega) fun s' pl out cc ns k' g o hpl hg' hi hs hnd hm' hl => ?_
    have hlen : (ns.map V.str).length ≤ sizeLine := by rw [List.length_map, hl, sizeLine_eq]; omega
    have hle : s1.heap.objs.size ≤ pl := Nat.le_trans (Nat.le_of_lt (SetRS.lt R1)) hpl
    have hn : H1 pl = none := I1.hok.fresh hle
    have kk : ∀ b o, s1.heap.get? b = some o → s'.heap.get? b = some o := fun b o e => k' b o (k b o e)
    have J : Inv X pins σ (upd H1 pl (.lst (ns.map V.str))) { s1 with heap := s'.heap, gens := s'.gens, drawn := s'.drawn, toks := s'.toks } :=
      I1.call (ch := []) (Un.laid kk hle hn) (I1.hok.laid kk hle ⟨hlen, out.toList, cc, vals_of_strs hi, hg'⟩) (by rw [g]; exact I1.bare) (fun _ z => nomatch z)
    have e : s' = { s1 with heap := s'.heap, gens := s'.gens, drawn := s'.drawn, toks := s'.toks } := by
      obtain ⟨h2, g2, d2, t2, o2⟩ := s'
      have eo : o2 = s1.os := o
      subst eo
      rfl
    rw [e]
    exact ⟨.ref pl, _, J, rfl, q1 ns pl hnd hs (fun kx => by rw [hm' kx, decide_eq_true_eq]) hn⟩
  rcases hq with hq | hq
  · obtain ⟨its, rv, pl, hz⟩ := I1.list hq
    exact call_set_listU xs hd pl.isList (by simpa using strsAre_of rv) room fin
  · obtain ⟨its, rv, pl, hz⟩ := I1.tuple hq
    exact call_set_tupS xs hd pl (by simpa using strsAre_of rv) room fin
theorem pe_lenSetU (hc : X.calm = true) (hg : Gl X "len") (hm : X.mg "len" = none) (hg2 : Gl X "set") (hm2 : X.mg "set" = none) (ha : PE X a ta)
    (na : starEach [a] X.env = (false, eval a X.env) :: starEach [] X.env := by rfl) : PE X (.Call (.Name "len" p) [.Call (.Name "set" p2) [a] [] q] [] pos) (tLenSetU X.K ta) := by
  refine ⟨fun pins s σ H Q I h => ?_⟩
  refine Call_ (ld_blt I hg hm boot_len ?_)
  refine PyProof.Rows.callWith_builtin1 (PyProof.Rows.args_cons ?_ rfl) rfl rfl
  refine Call_ (ld_blt I hg2 hm2 boot_set ?_)
  refine PyProof.Rows.callWith_type1 (PyProof.Rows.args_cons (thn (ha.run pins s σ H _ I h) fun v s1 ⟨x, H1, I1, r1, q1⟩ => PyProof.Rows.args_nil ?_) na) na rfl
  obtain ⟨l, xs, rfl, hq, h64, hnd, q1⟩ := q1
  cases r1
  obtain ⟨its, rv, pl, hz⟩ := I1.list hq
  refine call_set_listU xs (I1.ok.hd hc) pl.isList (by simpa using strsAre_of rv) (by unfold scanBound; omega) fun h' tk c R1 hcn k => ?_
  refine PyProof.Rows.args_nil ?_
  have ec := setS_card R1 hnd
  obtain ⟨o, es, ep, t, ho, hex, hdt, g, nd, hm', hb, hf, hn, _⟩ := R1
  have I2 : Inv X pins σ H1 { s1 with heap := h', toks := tk } := I1.kept k
  exact call_len_set ho hex hdt hf (by rw [hn] <;> omega) ⟨.int xs.length, H1, I2.tok _, ⟨_, by rw [hn, ec]⟩, q1⟩
end
section
variable {C : Ctx} {K : PySem.W.Frag} {ρ : List Cell} {te : TE}
theorem ev_sortSet {xs : List Str} (h : Ev C K te ρ (fun d => d = .list (xs.map .str) ∨ d = .tuple (xs.map .str))) (hl : xs.length < 64) {P : PyData → Prop}
    (k : ∀ ys : List Str, ys.Nodup → sortedS ys = true → (∀ k, k ∈ ys ↔ k ∈ xs) → P (.list (ys.map .str))) : Ev C K (tSortSet K te) ρ P := fun σ B H e o Q q =>
  h σ B H e o _ fun d v B1 H1 p g r => by
    have fin : ∀ (ys : List Str) (pl : Addr), ys.Nodup → sortedS ys = true → (∀ k, k ∈ ys ↔ k ∈ xs) → H1 pl = none → Q (.ref pl) (upd H1 pl (.lst (ys.map V.str))) := fun ys pl h1 h2 h3 h4 =>
      q _ _ _ _ (k ys h1 h2 h3) (g.trans (Gr.new g.on (.lst (ys.map V.str)) h4)) (.lst upd_same rp_strs)
    rcases p with p | p
    · subst p
      cases r with
      | lst hs ha => exact ⟨_, xs, rfl, .inl (by rw [← ha.strs]; exact SqL.of (g.on.ex _ _ hs)), hl, fin⟩
    · subst p
      cases r with
      | tup hs ha => exact ⟨_, xs, rfl, .inr (by rw [← ha.strs]; exact Evl.ex_t g.on.ex hs), hl, fin⟩
theorem ev_lenSet {xs : List Str} (h : Ev C K te ρ (Eq (.list (xs.map .str)))) (hl : xs.length < 64) (hn : xs.Nodup) : Ev C K (tLenSetU K te) ρ (Eq (.int xs.length)) := fun σ B H e o Q q =>
  h σ B H e o _ fun d v B1 H1 p g r => by
    subst p
    cases r with
    | lst hs ha => exact ⟨_, xs, rfl, by rw [← ha.strs]; exact SqL.of (g.on.ex _ _ hs), hl, hn, q _ _ _ _ rfl g (.int _)⟩
end
end K92
end
section -- K92W
set_option maxRecDepth 100000
set_option maxHeartbeats 1000000
/-! sorted(xs, key=f), f a def of the text with a promise on data. -/
namespace K92
open PySem PySem.Spec PySem.W PySem.Calls PyProof.Rows L2
section
variable {X : Cx} {pins more : List (Addr × Obj)} {s : Shared} {σ : L2.St} {H : Hp}
theorem inv_pin {b : Addr} {o : Obj} (I : Inv X pins σ H s) (hg : s.heap.get? b = some o) (hf : FpOk X pins H b) (hd : ∀ v, o.data ≠ .cell v) : Inv X (pins ++ [(b, o)]) σ H s :=
  { I with
    pin := fun p hp => by
      rcases List.mem_append.mp hp with h | h
      · exact I.pin p (List.mem_append_left _ h)
      · rcases List.mem_append.mp h with h | h
        · exact I.pin p (List.mem_append_right _ h)
        · rw [List.mem_singleton.mp h]
          exact ⟨hg, hf.1, hf.2.1, hf.2.2.1, hd⟩ }
theorem inv_unpin (I : Inv X (pins ++ more) σ H s) : Inv X pins σ H s :=
  { I with
    pin := fun p hp => I.pin p (by
      rcases List.mem_append.mp hp with h | h
      · exact List.mem_append_left _ h
      · exact List.mem_append_right _ (List.mem_append_left _ h)) }
/-- an untracked object of ours is tracked from here on -/
theorem inv_track {a : Addr} {ho : HO} (I : Inv X pins σ H s) (hf : FpOk X pins H a) (new : ObjOk X.prog X.w (upd H a ho) s.heap a ho) : Inv X pins σ (upd H a ho) s := by
  refine I.call' (ch := [a]) rfl ⟨fun b o e n _ _ => e, fun b o e n _ _ => ⟨o.slots, e⟩, fun b o e n hb => ?_, fun b o e _ => ⟨o, e⟩, fun b xs e => ?_, fun b o u e => ?_, fun b ps e => ⟨#[], ?_⟩⟩ (I.hok.laidN (fun b u e => e) hf.1 new) I.bare fun b hb => ?_
  · rw [upd_ne (fun z => hb (by rw [z]; exact List.mem_singleton.mpr rfl))]
    exact n
  · rw [upd_ne (fun z => by rw [z, hf.1] at e; cases e)]
    exact e
  · rw [upd_ne (fun z => by rw [z, hf.1] at e; cases e)]
    exact e
  · rw [upd_ne (fun z => by rw [z, hf.1] at e; cases e), Array.append_empty]
    exact e
  · rw [List.mem_singleton.mp hb]
    exact ⟨hf.2.2.2.1, hf.2.1, hf.2.2.2.2.1, hf.2.2.2.2.2⟩
theorem run_in2 {kk : Nat} {f : Addr} {fd : FuncData} {ps : List Str} {sp : Sp} {E : XK} (F : FnOk X.prog X.w X.K X.mg X.base CX0 kk f fd ps sp) (hr : Room (kk + 2) X.A) (hb : Binds X.K fd ps []) (I : Inv X pins σ H s) {us : List Value} {vs : List V} {Q : VK} (r : Vals vs us) (h : sp vs H Q E) :
    wpAny (model X.prog X.w) X.A.in1.in1 (call (.ref f) us) (EP X pins σ Q) (fun _ _ => False) s := by
  have hl : (us ++ []).length = ps.length := by rw [List.append_nil, ← r.length]; exact F.len _ _ _ _ h
  have hbs := hb s us I.kIn hl
  rw [List.append_nil] at hbs
  refine wpAny_call (codeAny_mono (F.run X.A.in1.in1 X.stack s H ⟨us, []⟩ us vs Q E hr.in1.in1 I.env0.in1.in1 hbs r h) fun r s' hq => ?_)
  cases r with
  | error e => exact False.elim hq
  | ok fl =>
    cases fl with
    | ret u => exact I.after hq
    | next => exact False.elim hq
    | brk => exact False.elim hq
    | cont => exact False.elim hq
end
/-- the heap without the object at a -/
def offH (h : Heap) (a : Addr) : Heap := h.update a fun _ => { cls := .none, data := .freed }
theorem offH_at {h : Heap} {a : Addr} : (offH h a).get? a = none := by
  cases q : (offH h a).get? a with
  | none => rfl
  | some o =>
    obtain ⟨e1, e2⟩ := Heap.get?_some_iff.mp q
    have e3 : ∃ u, h.objs[a]? = some u ∧ (⟨.none, none, .freed, #[]⟩ : Obj) = o := by
      have z : (h.objs.modify a fun _ => (⟨.none, none, .freed, #[]⟩ : Obj))[a]? = some o := e1
      rw [Array.getElem?_modify, if_pos rfl] at z
      exact Option.map_eq_some_iff.mp z
    obtain ⟨_, _, rfl⟩ := e3
    cases e2
theorem offH_ne {h : Heap} {a b : Addr} (hb : b ≠ a) : (offH h a).get? b = h.get? b := Heap.get?_update_other _ _ (Ne.symm hb)
section
variable {α : Type} {X : Cx} {pins : List (Addr × Obj)} {s : Shared} {σ : L2.St} {H B : Hp} {R : List PyData → PyData → Prop} {kk : Nat} {f : Addr} {fd : FuncData} {enc kd : α → PyData} {bs : List α}
theorem each_rel {K : PySem.W.Frag} {B : Hp} : ∀ {xs : List V} {us : List Value} {as : List α}, Vals xs us → RpAll K B xs (as.map enc) → EachIs (fun u a => ∃ x, RelV x u ∧ Rp K B x (enc a)) us as
  | _, _, [], .nil, _ => .nil
  | _, _, [], .cons _ _, r => by cases r
  | _, _, a :: as, .nil, r => by cases r
  | _, _, a :: as, .cons rv t, r => by
    cases r with
    | cons r1 r2 => exact .cons ⟨_, rv, r1⟩ (each_rel t r2)
theorem rel_each {K : PySem.W.Frag} {B : Hp} : ∀ {us : List Value} {as : List α}, EachIs (fun u a => ∃ x, RelV x u ∧ Rp K B x (enc a)) us as → ∃ xs, Vals xs us ∧ RpAll K B xs (as.map enc)
  | _, _, .nil => ⟨[], .nil, .nil⟩
  | _, _, .cons ⟨x, h1, h2⟩ t => by
    obtain ⟨xs, h3, h4⟩ := rel_each t
    exact ⟨x :: xs, .cons h1 h3, .cons h2 h4⟩
theorem list_obj {b : Addr} {o : Obj} {T : String} {xs : Array Value} {n : Nat} (h : o = seqObj T xs n) : ∀ v, o.data ≠ .cell v := fun v e => by
  rw [h] at e
  cases e
theorem keyR (F : FnOk X.prog X.w X.K X.mg X.base CX0 kk f fd ["page"] (spD X.K R)) (hr : Room (kk + 2) X.A) (hb : Binds X.K fd ["page"] []) {a kS : Addr} {e1 : Nat} {vs : List Value} {xs : List V} {P : PySem.Fin → Shared → Prop} {E : Value → Shared → Prop}
    (I : Inv X pins σ H s) (on : C0.On B H) (fa : FpOk X pins H a) (fk : FpOk X pins H kS) (nk : s.heap.get? kS = some (seqObj "list" #[] 0)) (na : s.heap.get? a = some (seqObj "list" #[] e1)) (hka : kS ≠ a)
    (rv : Vals xs vs) (rx : RpAll X.K B xs (bs.map enc)) (hZ : vs.length ≤ sizeLine) (hR : ∀ x, x ∈ bs → R [enc x] (kd x)) (hal : AllAlike (bs.map kd)) (hsk : Sortable (bs.map kd)) (hcl : ∀ x, x ∈ bs → (kd x).canLay0 = true)
    (hu : ∀ d, d ∈ bs.map kd → X.A.in1.in1.units + d.depth < cLine)
    (h : ∀ s' out c zs B' H', Inv X pins σ H' s' → FpOk X pins H' a → Gr C0 B H B' H' → s'.heap.get? a = some (seqObj "list" (List.toArray out) c) → Vals zs out → RpAll X.K B' zs ((bs.mergeSort (dataLe false kd)).map enc) → P (.done (.ret .none)) s') :
    wpAny (model X.prog X.w) X.A.in1.in1 (ksk_rest a (.ref f) false vs.toArray e1 (.ref kS)) P E s := by
  have hlen : bs.length = vs.length := by
    have h1 := rx.length
    have h2 := rv.length
    rw [List.length_map] at h1
    omega
  have ev := each_rel rv rx
  unfold ksk_rest
  refine wpAny_bind (wpAny_rule ?_)
  first
    | rw [List.forIn_toArray]
    | (rw [← Array.forIn_toList]; simp only [List.toList_toArray])
  refine wpAny_bind (ksk_fold (fun i s' => ∃ B' H' kA e, Inv X pins σ H' s' ∧ Gr C0 B H B' H' ∧ FpOk X pins H' a ∧ FpOk X pins H' kS ∧ s'.heap.get? kS = some (seqObj "list" kA e) ∧ s'.heap.get? a = some (seqObj "list" #[] e1) ∧
    EachIs (fun u b => ∃ x, RelV x u ∧ Rp X.K B' x (kd b)) kA.toList (bs.take i)) vs 0 s ⟨B, H, #[], 0, I, Gr.refl on, fa, fk, nk, na, by rw [List.take_zero]; exact EachIs.nil⟩ ?step ?done)
  case step =>
    rintro j u s' hx ⟨B', H', kA, e, I', g', fa', fk', nk', na', hk⟩
    simp only [Nat.zero_add] at hk ⊢
    have hj : j < vs.length := (List.getElem?_eq_some_iff.mp hx).1
    obtain ⟨b, hbj⟩ : ∃ b, bs[j]? = some b := ⟨_, List.getElem?_eq_getElem (by omega)⟩
    have hz : kA.size ≤ vs.length := by
      have h1 := hk.length
      rw [Array.length_toList, List.length_take] at h1
      omega
    have hp := ev.zip (u, b) (List.mem_of_getElem? (i := j) (List.getElem?_zip_eq_some.mpr ⟨hx, hbj⟩))
    obtain ⟨x, rxu, rxb⟩ := hp
    have J1 := inv_pin I' na' fa' (list_obj (b := a) rfl)
    have fk1 : FpOk X (pins ++ [(a, seqObj "list" #[] e1)]) H' kS := ⟨fk'.1, fk'.2.1, fk'.2.2.1, fk'.2.2.2.1, fk'.2.2.2.2.1, fun p hp => by
      rcases List.mem_append.mp hp with q | q
      · exact fk'.2.2.2.2.2 p (List.mem_append_left _ q)
      · rcases List.mem_append.mp q with q | q
        · exact fk'.2.2.2.2.2 p (List.mem_append_right _ q)
        · rw [List.mem_singleton.mp q]
          exact hka.symm⟩
    have J2 := inv_pin J1 nk' fk1 (list_obj (b := kS) rfl)
    refine wpAny_bind (wpAny_attempt (wpAny_mono (run_in2 (E := E0) (Q := fun w H2 => ∃ B2, Gr C0 B' H' B2 H2 ∧ Rp X.K B2 w (kd b)) F hr hb J2 (.cons rxu .nil) ?_) (fun w s'' he => ?_) fun _ _ hF => hF.elim))
    · exact ⟨B', [enc b], kd b, hR b (List.mem_of_getElem? hbj), g'.on.ex, .cons (rxb.mono g'.bb) .nil, fun w B2 H2 g2 r2 => ⟨B2, g2, r2⟩⟩
    · obtain ⟨xw, H2, I2, rw2, B2, g2, r2⟩ := he
      try dsimp only
      have pk := I2.pin (kS, seqObj "list" kA e) (by simp)
      have pa := I2.pin (a, seqObj "list" #[] e1) (by simp)
      have nk2 : s''.heap.get? kS = some (seqObj "list" kA e) := pk.1
      have na2 : s''.heap.get? a = some (seqObj "list" #[] e1) := pa.1
      have fk2 : FpOk X pins H2 kS := ⟨pk.2.1, fk'.2⟩
      have fa2 : FpOk X pins H2 a := ⟨pa.2.1, fa'.2⟩
      have I3 : Inv X pins σ H2 s'' := inv_unpin (inv_unpin I2)
      have s1 := Heap.SameBut.update s''.heap kS (Obj.mapSeq (·.push w))
      obtain ⟨c2, hc2⟩ : ∃ c2, (s''.heap.update kS (Obj.mapSeq (·.push w))).get? kS = some (seqObj "list" (kA.push w) c2) := ⟨_, get?_update_seq nk2 (·.push w)⟩
      have ek : bs.take (j + 1) = bs.take j ++ [b] := by rw [List.take_add_one, hbj]; rfl
      have ea : (kA.push w).toList = kA.toList ++ [w] := by simp
      refine wpAny_bind (listUpdate_at nk2 rfl ?_ (Nat.le_trans hz hZ) (Nat.le_trans (Nat.le_of_eq (Array.size_push ..)) (Nat.succ_le_succ (Nat.le_trans hz hZ))))
      have I4 := I3.turnedL (t' := s''.toks) (ch := [kS]) (h' := s''.heap.update kS (Obj.mapSeq (·.push w))) (fun b o hb e => (s1.2 b (fun z => hb (List.mem_singleton.mpr z))).trans e) (fun b hb => by rw [List.mem_singleton.mp hb]; exact fk2)
      refine wpAny_pure ⟨rfl, B2, H2, kA.push w, c2, I4, g'.trans g2, fa2, fk2, hc2, (s1.2 a hka.symm).trans na2, ?_⟩
      rw [ea, ek]
      exact each_snoc ⟨xw, rw2, r2⟩ (hk.mono fun u d ⟨x, h1, h2⟩ => ⟨x, h1, h2.mono g2.bb⟩)
  case done =>
    rintro s' ⟨B', H', kA, e, I', g', fa', fk', nk', na', hk⟩
    have e3 : bs.take (0 + vs.length) = bs := List.take_of_length_le (by omega)
    rw [e3] at hk
    have hk' : EachIs (fun v k => ∃ as, Reads s'.heap v k as) kA.toList (bs.map kd) := by
      have go : ∀ {us : List Value} {as : List α}, (∀ x, x ∈ as → x ∈ bs) → EachIs (fun u b => ∃ x, RelV x u ∧ Rp X.K B' x (kd b)) us as → EachIs (fun v k => ∃ as, Reads s'.heap v k as) us (as.map kd) := by
        intro us as hs h
        induction h with
        | nil => exact .nil
        | @cons u b _ _ hx _ ih =>
          obtain ⟨x, h1, h2⟩ := hx
          refine .cons ?_ (ih fun y hy => hs y (List.mem_cons_of_mem _ hy))
          exact Dp.reads I' (kd b) x u ((h2.mono g'.on.ex).dp _ _ (hcl b (hs b (List.mem_cons_self ..)))) h1
      exact go (fun x hx => hx) hk
    have hsz : kA.size = vs.length := by
      have h1 := hk'.length
      rw [Array.length_toList, List.length_map] at h1
      omega
    try dsimp only
    refine wpAny_bind (listItems_at nk' rfl ?_)
    have kp : KeepsBut a (offH s'.heap kS) s'.heap := fun b o hb q => by
      have hbk : b ≠ kS := fun z => by rw [z, offH_at] at q; cases q
      rw [offH_ne hbk] at q
      exact q
    refine keyH_end (κ := dataKind s'.heap (bs.map kd)) (h₁ := offH s'.heap kS) kp offH_at nk' na' hka (SortsAt.data (s := s') hk' hal hsk hu) hsz hZ fun h3 tk3 c k3 n3 => ?_
    have ko : KeyedOut false (bs.map kd) vs (sortVals (dataKind s'.heap (bs.map kd)) false kA.toList vs) := ⟨s'.heap, kA.toList, hal, rfl, hk'⟩
    obtain ⟨zs, z1, z2⟩ := rel_each (keyedOut_each kd ko ev)
    have I4 : Inv X pins σ H' { s' with heap := h3, toks := tk3 } := I'.turnedL (t' := tk3) (ch := [a, kS]) (fun b o hb e => k3 b o (fun z => hb (by simp [z])) (by rw [offH_ne (fun z => hb (by simp [z]))]; exact e)) fun b hb => by
      rcases List.mem_cons.mp hb with z | hb
      · rw [z]; exact fa'
      · rw [List.mem_singleton.mp hb]; exact fk'
    exact h _ _ c zs B' H' I4 fa' g' n3 z1 (z2.mono g'.bb)
theorem sortedKey_run (F : FnOk X.prog X.w X.K X.mg X.base CX0 kk f fd ["page"] (spD X.K R)) (hr : Room (kk + 2) X.A) (hb : Binds X.K fd ["page"] []) {l : Addr} {xs : List V} {Q : VK}
    (I : Inv X pins σ H s) (on : C0.On B H) (hs : SqL X.K H l xs) (rx : RpAll X.K B xs (bs.map enc)) (hR : ∀ x, x ∈ bs → R [enc x] (kd x)) (hal : AllAlike (bs.map kd)) (hsk : Sortable (bs.map kd)) (hcl : ∀ x, x ∈ bs → (kd x).canLay0 = true)
    (hu : ∀ d, d ∈ bs.map kd → X.A.in1.in1.units + d.depth < cLine)
    (h : ∀ p zs B' H', Gr C0 B H B' H' → H' p = none → RpAll X.K B' zs ((bs.mergeSort (dataLe false kd)).map enc) → Q (.ref p) (upd H' p (.lst zs))) :
    wpAny (model X.prog X.w) X.A (call (.builtin "sorted") [.ref l] [(Str.ofString "key", .ref f)]) (EP X pins σ Q) X.xe s := by
  obtain ⟨vs, rv, hl, hz⟩ := I.list hs
  have hZ : vs.length ≤ sizeLine := by rw [← rv.length]; exact hz
  refine sorted_of_sort hl.isList hZ (PyProof.Rows.ksk_s1 _ _) (fun _ => PyProof.Rows.ksk_l1 _ _) fun E' => ?_
  rw [ksk_t1]
  have I1 : Inv X pins σ H { s with heap := copyHeap s.heap vs } := I.kept (t' := s.toks) fun b o e => copyHeap_old e
  have ho := copyHeap_at s.heap vs
  have fa : FpOk X pins H (s.heap.objs.size + 1) := I.fpOk (Nat.le_succ _) (I.hok.fresh (Nat.le_succ _))
  have ha : s.heap.objs.size + 1 < (copyHeap s.heap vs).objs.size := Heap.lt_size ho
  obtain ⟨e1, ho1⟩ : ∃ e1, ((copyHeap s.heap vs).update (s.heap.objs.size + 1) (Obj.mapSeq fun _ => (#[] : Array Value))).get? (s.heap.objs.size + 1) = some (seqObj "list" #[] e1) := ⟨_, get?_update_seq ho fun _ => #[]⟩
  have hkS : (((copyHeap s.heap vs).update (s.heap.objs.size + 1) (Obj.mapSeq fun _ => (#[] : Array Value))).push (seqObj "tuple" vs.toArray 0)).objs.size = (copyHeap s.heap vs).objs.size + 1 := by rw [size_push', Heap.size_update]
  have sb := Heap.SameBut.update (copyHeap s.heap vs) (s.heap.objs.size + 1) (Obj.mapSeq fun _ => (#[] : Array Value))
  have I2 : Inv X pins σ H { s with heap := (((copyHeap s.heap vs).update (s.heap.objs.size + 1) (Obj.mapSeq fun _ => (#[] : Array Value))).push (seqObj "tuple" vs.toArray 0)).push (seqObj "list" #[] 0) } :=
    Inv.turnedL (s := { s with heap := copyHeap s.heap vs }) (t' := s.toks) (ch := [s.heap.objs.size + 1]) I1 (fun b o hb' e => Heap.get?_push_of_some _ (Heap.get?_push_of_some _ ((sb.2 b (fun z => hb' (List.mem_singleton.mpr z))).trans e))) fun b hb' => by rw [List.mem_singleton.mp hb']; exact fa
  have hle : s.heap.objs.size ≤ (((copyHeap s.heap vs).update (s.heap.objs.size + 1) (Obj.mapSeq fun _ => (#[] : Array Value))).push (seqObj "tuple" vs.toArray 0)).objs.size := by
    rw [hkS]
    exact Nat.le_trans (Nat.le_succ _) (Nat.le_trans (Nat.le_of_lt ha) (Nat.le_succ _))
  have fk := I.fpOk hle (I.hok.fresh hle)
  unfold ksk_tree
  refine wpAny_bind (listItems_at ho rfl ?_)
  refine wpAny_bind (listUpdate_at ho rfl ?_ (by rw [List.size_toArray]; exact hZ) (Nat.zero_le _))
  refine wpAny_bind (seqEpoch_at ho1 rfl ?_)
  refine wpAny_bind (wpAny_newTuple ?_ (by show vs.length ≤ _; exact hZ))
  refine wpAny_bind (wpAny_newList ?_ (Nat.zero_le _))
  refine wpAny_holding ?_
  refine keyR (s := { s with heap := (((copyHeap s.heap vs).update (s.heap.objs.size + 1) (Obj.mapSeq fun _ => (#[] : Array Value))).push (seqObj "tuple" vs.toArray 0)).push (seqObj "list" #[] 0) }) F hr hb I2 on fa fk (Heap.get?_push_size _ rfl) (Heap.get?_push_of_some _ (Heap.get?_push_of_some _ ho1))
    (by rw [hkS]; exact Nat.ne_of_gt (Nat.lt_succ_of_lt ha)) rv rx hZ hR hal hsk hcl hu fun s' out c zs B' H' I3 fa3 g3 n3 z1 z2 => ⟨rfl, ?_⟩
  have hlz : zs.length ≤ sizeLine := by
    have q1 := z2.length
    have q2 := rx.length
    rw [List.length_map, (List.mergeSort_perm bs (dataLe false kd)).length_eq] at q1
    rw [List.length_map] at q2
    rw [q1, ← q2]
    exact hz
  exact ⟨.ref _, _, inv_track (ho := .lst zs) I3 fa3 ⟨hlz, out, c, z1, n3⟩, rfl, h _ zs B' H' g3 fa3.1 z2⟩
/-- sorted(e, key=f) -/
def rSortK (α : Type) (K : PySem.W.Frag) (f : Addr) (enc kd : α → PyData) : List V → List V → Hp → VK → Prop := fun vs zs H Q => ∃ (l : Addr) (xs : List V) (bs : List α) (B : Hp), vs = [.ref l] ∧ zs = [.ref f] ∧ C0.On B H ∧ SqL K H l xs ∧ RpAll K B xs (bs.map enc) ∧
  AllAlike (bs.map kd) ∧ Sortable (bs.map kd) ∧ (∀ x, x ∈ bs → (kd x).canLay0 = true ∧ (kd x).depth ≤ 1) ∧ ∀ p zs B' H', Gr C0 B H B' H' → H' p = none → RpAll K B' zs ((bs.mergeSort (dataLe false kd)).map enc) → Q (.ref p) (upd H' p (.lst zs))
theorem cr_sortK {α : Type} {enc kd : α → PyData} (F : FnOk X.prog X.w X.K X.mg X.base CX0 kk f fd ["page"] (spD X.K fun ds d => ∃ x : α, ds = [enc x] ∧ d = kd x)) (hr : Room (kk + 2) X.A) (hb : Binds X.K fd ["page"] []) : CallRK X (.builtin "sorted") [Str.ofString "key"] (rSortK α X.K f enc kd) := by
  intro pins s σ H vs zs us ws Q I r rz h
  obtain ⟨l, xs, bs, B, rfl, rfl, on, hs, rx, hal, hsk, hcl, q⟩ := h
  obtain rfl := Vals.ref1 r
  obtain rfl := Vals.ref1 rz
  refine sortedKey_run F hr hb I on hs rx (fun x hx => ⟨x, rfl, rfl⟩) hal hsk (fun x hx => (hcl x hx).1) (fun d hd => ?_) q
  obtain ⟨x, hx, rfl⟩ := List.mem_map.mp hd
  have h1 := (hcl x hx).2
  have h2 := hr.units
  have h3 : X.A.in1.in1.units = X.A.units + 2 := rfl
  omega
theorem ev_sortK {α : Type} {K : PySem.W.Frag} {ρ : List Cell} {te : TE} {f : Addr} {enc kd : α → PyData} {bs : List α} (h : Ev C0 K te ρ (Eq (.list (bs.map enc)))) (hal : AllAlike (bs.map kd)) (hsk : Sortable (bs.map kd)) (hcl : ∀ x, x ∈ bs → (kd x).canLay0 = true ∧ (kd x).depth ≤ 1) :
    Ev C0 K (tCKw (rSortK α K f enc kd) (tCons te tNil) (tCons (tC (.ref f)) tNil)) ρ (Eq (.list ((bs.mergeSort (dataLe false kd)).map enc))) := fun σ B H e o Q q =>
  h σ B H e o _ fun d v B1 H1 p g r => by
    subst p
    cases r with
    | lst hs ha =>
      refine ⟨_, _, bs, B1, rfl, rfl, g.on, SqL.of (g.on.ex _ _ hs), ha, hal, hsk, hcl, fun p zs B' H' g2 hp r2 => ?_⟩
      have g3 := Gr.new g2.on (.lst zs) hp
      exact q _ _ _ _ rfl ((g.trans g2).trans g3) (.lst upd_same (r2.mono g3.bb))
end
end K92
end
section -- K92S
set_option maxRecDepth 100000
set_option maxHeartbeats 1000000
/-! The order of texts; names in their order, each once. -/
namespace K92
open PySem PySem.Spec PyProof.Rows L2
theorem lc_irrefl : ∀ a : List Nat, ltCps a a = false
  | [] => rfl
  | a :: r => by
    have ih := lc_irrefl r
    simp [ltCps, ih]
theorem lc_trans : ∀ a b c : List Nat, ltCps a b = true → ltCps b c = true → ltCps a c = true
  | [], [], _, h, _ => by simp [ltCps] at h
  | [], _ :: _, [], _, h => by simp [ltCps] at h
  | [], _ :: _, _ :: _, _, _ => rfl
  | _ :: _, [], _, h, _ => by simp [ltCps] at h
  | _ :: _, _ :: _, [], _, h => by simp [ltCps] at h
  | a :: r, b :: s, c :: t, h1, h2 => by
    simp only [ltCps, Bool.or_eq_true, decide_eq_true_eq, Bool.and_eq_true, beq_iff_eq] at h1 h2 ⊢
    rcases h1 with h1 | ⟨h1, h3⟩
    · rcases h2 with h2 | ⟨h2, h4⟩
      · left; omega
      · left; omega
    · rcases h2 with h2 | ⟨h2, h4⟩
      · left; omega
      · right; exact ⟨h1.trans h2, lc_trans r s t h3 h4⟩
theorem lc_tri : ∀ a b : List Nat, ltCps a b = false → ltCps b a = false → a = b
  | [], [], _, _ => rfl
  | [], _ :: _, h, _ => by simp [ltCps] at h
  | _ :: _, [], _, h => by simp [ltCps] at h
  | a :: r, b :: s, h1, h2 => by
    simp only [ltCps, Bool.or_eq_false_iff, decide_eq_false_iff_not, Bool.and_eq_false_iff, beq_eq_false_iff_ne] at h1 h2
    have e : a = b := by omega
    subst e
    have h3 : ltCps r s = false := by
      rcases h1.2 with h | h
      · exact absurd rfl h
      · exact h
    have h4 : ltCps s r = false := by
      rcases h2.2 with h | h
      · exact absurd rfl h
      · exact h
    rw [lc_tri r s h3 h4]
def leS (a b : Str) : Bool := !ltCps b.cps.toList a.cps.toList
theorem leS_trans (a b c : Str) (h1 : leS a b = true) (h2 : leS b c = true) : leS a c = true := by
  unfold leS at *
  rw [Bool.not_eq_true'] at *
  cases q : ltCps c.cps.toList a.cps.toList with
  | false => rfl
  | true =>
    cases q2 : ltCps a.cps.toList b.cps.toList with
    | true => rw [lc_trans _ _ _ q q2] at h2; cases h2
    | false =>
      have e := lc_tri _ _ q2 h1
      rw [e, h2] at q
      cases q
theorem leS_total (a b : Str) : (leS a b || leS b a) = true := by
  unfold leS
  cases q : ltCps b.cps.toList a.cps.toList with
  | false => rfl
  | true =>
    cases q2 : ltCps a.cps.toList b.cps.toList with
    | false => rfl
    | true =>
      have z := lc_trans _ _ _ q q2
      rw [lc_irrefl] at z
      cases z
theorem leS_anti (a b : Str) (h1 : leS a b = true) (h2 : leS b a = true) : a = b := by
  unfold leS at *
  rw [Bool.not_eq_true'] at *
  have e := lc_tri _ _ h2 h1
  obtain ⟨⟨x⟩⟩ := a
  obtain ⟨⟨y⟩⟩ := b
  have e' : x = y := e
  rw [e']
def sortS (xs : List Str) : List Str := xs.mergeSort leS
theorem rising_pw : ∀ (r : List Str) (p : Str), risingS p r = true → (p :: r).Pairwise fun a b => leS a b = true
  | [], p, _ => by simp
  | x :: r, p, h => by
    rw [risingS, Bool.and_eq_true] at h
    have ih := rising_pw r x h.2
    refine List.pairwise_cons.mpr ⟨fun y hy => ?_, ih⟩
    have h1 : leS p x = true := h.1
    rcases List.mem_cons.mp hy with e | hy
    · rw [e]; exact h1
    · exact leS_trans _ _ _ h1 ((List.pairwise_cons.mp ih).1 y hy)
theorem sorted_pw {l : List Str} (h : sortedS l = true) : l.Pairwise fun a b => leS a b = true := by
  cases l with
  | nil => simp
  | cons p r => exact rising_pw r p h
theorem sort_uniq {xs ys : List Str} (hp : ys.Perm xs) (hs : sortedS ys = true) : ys = sortS xs :=
  List.Perm.eq_of_pairwise (le := fun a b => leS a b = true) (fun a b _ _ h1 h2 => leS_anti a b h1 h2) (sorted_pw hs) (List.pairwise_mergeSort leS_trans leS_total xs) (hp.trans (List.mergeSort_perm xs leS).symm)
theorem sortS_perm (xs : List Str) : (sortS xs).Perm xs := List.mergeSort_perm xs leS
theorem sortS_pw (xs : List Str) : (sortS xs).Pairwise fun a b => leS a b = true := List.pairwise_mergeSort leS_trans leS_total xs
theorem sortS_congr {xs ys : List Str} (hp : xs.Perm ys) : sortS xs = sortS ys :=
  List.Perm.eq_of_pairwise (le := fun a b => leS a b = true) (fun a b _ _ h1 h2 => leS_anti a b h1 h2) (sortS_pw xs) (sortS_pw ys) (((sortS_perm xs).trans hp).trans (sortS_perm ys).symm)
/-! names, each once, as they come -/
def addK (ks : List Str) (n : Str) : List Str := if n ∈ ks then ks else ks ++ [n]
def keysFrom (ks : List Str) (l : List Str) : List Str := l.foldl addK ks
def keysOf (l : List Str) : List Str := keysFrom [] l
theorem addK_nd {ks : List Str} {n : Str} (h : ks.Nodup) : (addK ks n).Nodup := by
  unfold addK
  split
  · exact h
  · rename_i q
    exact List.nodup_append.mpr ⟨h, by simp, fun a ha b hb e => q (by simp at hb; rw [← hb, ← e]; exact ha)⟩
theorem addK_mem {ks : List Str} {n x : Str} : x ∈ addK ks n ↔ x ∈ ks ∨ x = n := by
  unfold addK
  split
  · rename_i q
    exact ⟨fun h => .inl h, fun h => h.elim id fun e => e ▸ q⟩
  · simp
theorem keysFrom_nd : ∀ {l ks : List Str}, ks.Nodup → (keysFrom ks l).Nodup
  | [], _, h => h
  | x :: l, ks, h => keysFrom_nd (l := l) (addK_nd (n := x) h)
theorem keysFrom_mem : ∀ {l ks : List Str} {x : Str}, x ∈ keysFrom ks l ↔ x ∈ ks ∨ x ∈ l
  | [], _, x => by simp [keysFrom]
  | y :: l, ks, x => by
    have ih := keysFrom_mem (l := l) (ks := addK ks y) (x := x)
    show x ∈ keysFrom (addK ks y) l ↔ _
    rw [ih, addK_mem, List.mem_cons]
    constructor
    · rintro ((h | h) | h)
      · exact .inl h
      · exact .inr (.inl h)
      · exact .inr (.inr h)
    · rintro (h | h | h)
      · exact .inl (.inl h)
      · exact .inl (.inr h)
      · exact .inr h
theorem keysFrom_len : ∀ {l ks : List Str}, (keysFrom ks l).length ≤ ks.length + l.length
  | [], _ => Nat.le_refl _
  | x :: l, ks => by
    have ih := keysFrom_len (l := l) (ks := addK ks x)
    have h : (addK ks x).length ≤ ks.length + 1 := by unfold addK; split <;> simp
    show (keysFrom (addK ks x) l).length ≤ _
    rw [List.length_cons]
    omega
def trueD (ks : List Str) : List (PyData × PyData) := ks.map fun n => (.str n, .bool true)
theorem trueD_put : ∀ {ks : List Str} {n : Str}, putE (trueD ks) n (.bool true) = trueD (addK ks n)
  | [], n => by simp [trueD, putE, addK]
  | j :: ks, n => by
    have ih := trueD_put (ks := ks) (n := n)
    show (if j = n then _ else _) = _
    by_cases h : j = n
    · rw [if_pos h]
      unfold addK
      rw [if_pos (by simp [h])]
      rfl
    · rw [if_neg h]
      show _ :: putE (trueD ks) n (.bool true) = _
      rw [ih]
      unfold addK
      by_cases q : n ∈ ks
      · rw [if_pos q, if_pos (List.mem_cons_of_mem _ q)]; rfl
      · rw [if_neg q, if_neg (by simp [q]; exact fun e => h e.symm)]; rfl
/-- the names that f gives, each once, in their order -/
def namesBy (f : Page → List Str) (ps : List Page) : List Str := sortS (keysOf (ps.flatMap f))
theorem namesBy_mem {f : Page → List Str} {ps : List Page} {x : Str} : x ∈ namesBy f ps ↔ ∃ p, p ∈ ps ∧ x ∈ f p := by
  unfold namesBy
  rw [(sortS_perm _).mem_iff]
  unfold keysOf
  rw [keysFrom_mem, List.mem_flatMap]
  simp
theorem namesBy_nd {f : Page → List Str} {ps : List Page} : (namesBy f ps).Nodup := (sortS_perm _).nodup_iff.mpr (keysFrom_nd List.nodup_nil)
/-- the same members, each once: the same row -/
theorem sortS_ext {xs ys : List Str} (hx : xs.Nodup) (hy : ys.Nodup) (h : ∀ a, a ∈ xs ↔ a ∈ ys) : sortS xs = sortS ys := sortS_congr ((List.perm_ext_iff_of_nodup hx hy).mpr h)
/-! what fits -/
def putA {α : Type} : List (Str × α) → Str → α → List (Str × α)
  | [], k, v => [(k, v)]
  | (j, e) :: r, k, v => if j = k then (j, v) :: r else (j, e) :: putA r k v
def getA {α : Type} : List (Str × α) → Str → Option α
  | [], _ => none
  | (j, e) :: r, k => if j = k then some e else getA r k
def asD {α : Type} (f : α → PyData) (l : List (Str × α)) : List (PyData × PyData) := l.map fun q => (.str q.1, f q.2)
theorem asD_put {α : Type} {f : α → PyData} : ∀ {l : List (Str × α)} {k : Str} {v : α}, putE (asD f l) k (f v) = asD f (putA l k v)
  | [], _, _ => rfl
  | (j, e) :: r, k, v => by
    have ih := asD_put (f := f) (l := r) (k := k) (v := v)
    show (if j = k then _ else _) = asD f (if j = k then _ else _)
    by_cases h : j = k
    · rw [if_pos h, if_pos h]; rfl
    · rw [if_neg h, if_neg h]
      show _ :: putE (asD f r) k (f v) = _ :: asD f (putA r k v)
      rw [ih]
theorem asD_get {α : Type} {f : α → PyData} : ∀ {l : List (Str × α)} {k : Str}, getE (asD f l) k = (getA l k).map f
  | [], _ => rfl
  | (j, e) :: r, k => by
    have ih := asD_get (f := f) (l := r) (k := k)
    show (if j = k then _ else _) = Option.map f (if j = k then _ else _)
    by_cases h : j = k
    · rw [if_pos h, if_pos h]; rfl
    · rw [if_neg h, if_neg h]
      exact ih
theorem asD_len {α : Type} {f : α → PyData} {l : List (Str × α)} : (asD f l).length = l.length := List.length_map ..
theorem putA_len {α : Type} : ∀ {l : List (Str × α)} {k : Str} {v : α}, (putA l k v).length ≤ l.length + 1
  | [], _, _ => Nat.le_refl _
  | (j, e) :: r, k, v => by
    have ih := putA_len (l := r) (k := k) (v := v)
    unfold putA
    split
    · simp
    · simp only [List.length_cons]; omega
theorem getA_put {α : Type} : ∀ {l : List (Str × α)} {k j : Str} {v : α}, getA (putA l k v) j = if k = j then some v else getA l j
  | [], k, j, v => by
    show (if k = j then some v else none) = _
    rfl
  | (i, e) :: r, k, j, v => by
    have ih := getA_put (l := r) (k := k) (j := j) (v := v)
    unfold putA
    by_cases h : i = k
    · rw [if_pos h]
      show (if i = j then some v else getA r j) = if k = j then some v else (if i = j then some e else getA r j)
      subst h
      by_cases q : i = j
      · rw [if_pos q, if_pos q]
      · rw [if_neg q, if_neg q, if_neg q]
    · rw [if_neg h]
      show (if i = j then some e else getA (putA r k v) j) = if k = j then some v else (if i = j then some e else getA r j)
      rw [ih]
      by_cases q : i = j
      · rw [if_pos q, if_pos q]
        by_cases q2 : k = j
        · exact absurd (q.trans q2.symm) h
        · rw [if_neg q2]
      · rw [if_neg q, if_neg q]
def Page.always (p : Page) : Bool := decide (9 ≤ p.rank)
def thingsOf (ps : List Page) : List Str := namesBy Page.things ps
def setd (l : List (Str × Bool)) (p : Page) : List (Str × Bool) := match getA l p.name with
  | some _ => l
  | none => putA l p.name p.always
theorem setd_asD {l : List (Str × Bool)} {p : Page} : (match getE (asD PyData.bool l) p.name with | some _ => asD PyData.bool l | none => putE (asD PyData.bool l) p.name (.bool p.always)) = asD PyData.bool (setd l p) := by
  unfold setd
  rw [asD_get]
  cases getA l p.name with
  | some v => rfl
  | none => exact asD_put (f := PyData.bool)
def rowPut (l : List (Str × Bool)) (r : Row) : List (Str × Bool) := putA l r.1 r.2.1
def tracksFit (b : Book) : List (Str × Bool) := ((thingsOf b.pages).flatMap (track b)).foldl rowPut []
def fitting (b : Book) : List (Str × Bool) := b.pages.foldl setd (tracksFit b)
def misfit (b : Book) (p : Page) : Bool := !(getA (fitting b) p.name).getD false
def unfit (b : Book) : List Str := (b.pages.filter (misfit b)).map Page.name
theorem setd_has {l : List (Str × Bool)} {p : Page} {k : Str} (h : (getA l k).isSome = true ∨ p.name = k) : (getA (setd l p) k).isSome = true := by
  unfold setd
  cases q : getA l p.name with
  | some v =>
    rcases h with h | h
    · exact h
    · rw [← h]
      show (getA l p.name).isSome = true
      rw [q]
      rfl
  | none =>
    show (getA (putA l p.name p.always) k).isSome = true
    rw [getA_put]
    by_cases z : p.name = k
    · rw [if_pos z]; rfl
    · rw [if_neg z]
      exact h.resolve_right z
theorem setd_fold {k : Str} : ∀ (ps : List Page) (l : List (Str × Bool)), ((getA l k).isSome = true ∨ ∃ p, p ∈ ps ∧ p.name = k) → (getA (ps.foldl setd l) k).isSome = true
  | [], l, h => h.elim id fun ⟨_, h, _⟩ => by cases h
  | p :: ps, l, h => by
    rw [List.foldl_cons]
    refine setd_fold ps _ ?_
    rcases h with h | ⟨q, hq, e⟩
    · exact .inl (setd_has (.inl h))
    · rcases List.mem_cons.mp hq with z | hq
      · exact .inl (setd_has (.inr (z ▸ e)))
      · exact .inr ⟨q, hq, e⟩
theorem fitting_has {b : Book} {p : Page} (h : p ∈ b.pages) : ∃ v, getA (fitting b) p.name = some v :=
  Option.isSome_iff_exists.mp (setd_fold b.pages _ (.inr ⟨p, h, rfl⟩))
theorem setd_len {l : List (Str × Bool)} {p : Page} : (setd l p).length ≤ l.length + 1 := by
  unfold setd
  split
  · omega
  · exact putA_len
theorem foldlen {α β : Type} {f : List α → β → List α} (hf : ∀ l x, (f l x).length ≤ l.length + 1) : ∀ (xs : List β) (l : List α), (xs.foldl f l).length ≤ l.length + xs.length
  | [], l => Nat.le_refl _
  | x :: xs, l => by
    have h1 := hf l x
    have h2 := foldlen hf xs (f l x)
    rw [List.foldl_cons, List.length_cons]
    omega
def allDues (b : Book) : List Due := plainDues b.pages ++ (thingsOf b.pages).flatMap fun t => duesOf (pagesOf b.pages t) (track b t)
def balance (b : Book) (one other : Str) (day : Int) : Int := balanceBy (allDues b) one other day
def openP (b : Book) (t : Str) (day : Int) : List Str := sortS ((openOf (pagesOf b.pages t) (track b t) day).map Page.name)
end K92
end
section -- K92F1
set_option maxRecDepth 100000
set_option maxHeartbeats 1000000
namespace K92
open PySem PySem.Spec PyProof.Rows L2
local macro_rules | `(tactic| walk_at "dc") => `(tactic| first | decide +kernel | with_reducible rfl)
local macro_rules | `(tactic| walk_at "bb") => `(tactic| first | exact Eq.trans (b := true) (by decide +kernel) rfl | exact Eq.trans (b := false) (by decide +kernel) rfl)
local macro_rules | `(tactic| walk_at "go") => `(tactic| dsimp only [cxOf, Cx.nox, startC, List.map_cons, List.map_nil, List.length_cons, List.length_nil])
local macro_rules | `(tactic| walk_at "at") => `(tactic| first | with_reducible exact at_if | with_reducible exact at0 _ _ | with_reducible exact at1 _ _ _ | with_reducible exact at2 _ _ _ _ | rfl | exact at_word _ | exact at_name _ | exact at_day _)
local macro_rules | `(tactic| walk_at "op") => `(tactic| first
  | ((with_reducible apply o_ixT); walk_at "at")
  | ((with_reducible apply o_ixL); walk_at "at")
  | with_reducible exact o_eqS
  | with_reducible exact o_eqI
  | with_reducible exact o_neS
  | with_reducible exact o_neI
  | with_reducible exact o_le
  | with_reducible exact o_lt
  | with_reducible exact o_addI
  | with_reducible exact o_sub
  | ((with_reducible apply o_inT); first | assumption | rfl)
  | ((with_reducible apply o_inL); first | assumption | rfl)
  | with_reducible exact o_inS
  | with_reducible exact o_neNS
  | ((with_reducible apply o_neD); assumption; assumption)
  | ((with_reducible apply o_eqD); assumption; assumption))
local macro_rules | `(tactic| walk_at "tg") => `(tactic| first
  | ((with_reducible apply tg_name); decide)
  | ((with_reducible apply tg_tupW); (walk_at "tg"); rfl)
  | with_reducible exact tgs_nil
  | ((with_reducible apply tgs_cons); (walk_at "tg"); (walk_at "tg")))
local macro_rules | `(tactic| walk_at "lc") => `(tactic| ((apply lcI); (walk_at "tg"); (apply EvT.is); (walk_at "ev"); rfl; (intro _); (apply Ev.is); (walk_at "ev"); rfl))
local macro_rules | `(tactic| walk_at "ev") => `(tactic| first
  | ((with_reducible apply ev_var); rfl)
  | with_reducible exact ev_str
  | with_reducible exact ev_int
  | with_reducible exact ev_bl
  | with_reducible exact ev_non
  | with_reducible exact ev_c (by assumption)
  | with_reducible exact ea_nil
  | ((with_reducible apply ev_op); (walk_at "ev"); (walk_at "ev"); (walk_at "op"))
  | ((with_reducible apply ea_cons); (walk_at "ev"); (walk_at "ev"))
  | ((with_reducible apply ev_tupW); (walk_at "ev"); exact Nat.le_of_ble_eq_true rfl)
  | ((with_reducible apply ev_lstW); (walk_at "ev"); exact Nat.le_of_ble_eq_true rfl)
  | ((with_reducible apply et_testD); walk_at "ev")
  | ((with_reducible apply et_B); walk_at "ev")
  | ((with_reducible apply et_not); walk_at "ev")
  | ((with_reducible apply et_andF); (walk_at "ev"); (walk_at "dc"))
  | ((with_reducible apply et_andT); (walk_at "ev"); (walk_at "dc"); (walk_at "ev"))
  | ((with_reducible apply et_and); (walk_at "ev"); intro _; (walk_at "ev"))
  | ((with_reducible apply et_orT); (walk_at "ev"); (walk_at "dc"))
  | ((with_reducible apply et_orF); (walk_at "ev"); (walk_at "dc"); (walk_at "ev"))
  | ((with_reducible apply et_or); (walk_at "ev"); intro _; (walk_at "ev"))
  | ((with_reducible apply ev_andVF); (walk_at "ev"); (walk_at "dc"))
  | ((with_reducible apply ev_andVT); (walk_at "ev"); (walk_at "dc"); (walk_at "ev"))
  | ((with_reducible apply ev_orVT); (walk_at "ev"); (walk_at "dc"))
  | ((with_reducible apply ev_orVF); (walk_at "ev"); (walk_at "dc"); (walk_at "ev"))
  | ((with_reducible apply ev_andV); (walk_at "ev"); intro _; (walk_at "ev"))
  | ((with_reducible apply ev_orV); (walk_at "ev"); intro _; (walk_at "ev"))
  | ((with_reducible apply ev_notV); walk_at "ev")
  | ((with_reducible apply ev_neg); (walk_at "ev"))
  | ((with_reducible apply ev_isNE); (walk_at "ev"))
  | ((with_reducible apply ev_notN); (walk_at "ev"))
  | with_reducible exact lc_T
  | with_reducible exact eo_none
  | ((with_reducible apply eo_some); (walk_at "ev"))
  | ((with_reducible apply ev_slT); (walk_at "ev"); (walk_at "ev"); (walk_at "ev"); (exact fun h => Nat.ne_of_beq_eq_false rfl h.2); first | exact cut2 | exact cut3 | rfl)
  | ((with_reducible apply ev_slL); (walk_at "ev"); (walk_at "ev"); (walk_at "ev"); rfl)
  | ((with_reducible apply ev_kd); (walk_at "ev"); assumption; assumption)
  | ((with_reducible apply ev_call); (walk_at "ev"); assumption)
  | ((with_reducible apply ev_cb); (walk_at "ev"); (walk_at "cb"))
  | ((with_reducible apply ev_isi); (walk_at "ev"); (walk_at "dc"))
  | ((with_reducible apply ev_lcM); (walk_at "ev"); (exact Nat.le_of_ble_eq_true rfl); (walk_at "pd"))
  | ((with_reducible apply ei_list); (walk_at "ev"))
  | ((with_reducible apply ei_tup); (walk_at "ev"))
  | ((with_reducible apply ei_zip); (walk_at "ev"); assumption))
local macro_rules | `(tactic| walk_at "pd") => `(tactic| first | exact Paired.nil | ((apply Paired.cons); (walk_at "lc"); (walk_at "pd")))
local macro_rules | `(tactic| walk_at "cb") => `(tactic| first
  | with_reducible exact n_lenL
  | with_reducible exact n_lenT
  | ((with_reducible apply n_lenS); assumption)
  | with_reducible exact n_intB
  | with_reducible exact n_abs
  | with_reducible exact n_min
  | with_reducible exact n_tupL
  | with_reducible exact n_lisT
  | with_reducible exact n_lisL)
local macro_rules | `(tactic| walk_at "tr") => `(tactic| first
  | ((with_reducible apply q_retF); (walk_at "ev"); (walk_at "dc"))
  | ((with_reducible apply q_retT); (walk_at "ev"); (walk_at "dc"))
  | ((with_reducible apply q_retB); (walk_at "ev"))
  | ((with_reducible apply tr_retI); (walk_at "ev"))
  | ((with_reducible apply q_par); (walk_at "ev"))
  | ((with_reducible apply q_par3); (walk_at "ev"))
  | ((with_reducible apply q_newL); intro _)
  | ((with_reducible apply q_newD); intro _)
  | ((with_reducible apply q_asgA); (walk_at "ev"); (walk_at "tg")))
local macro_rules | `(tactic| walk_at "if") => `(tactic| first
  | ((with_reducible apply q_app (k := 0)); rfl; rfl; assumption; (walk_at "ev"))
  | with_reducible apply q_as
  | with_reducible apply q_nx
  | ((with_reducible apply q_par); (walk_at "ev"))
  | ((with_reducible apply q_par3); (walk_at "ev"))
  | ((with_reducible apply q_iF); (walk_at "ev"); (walk_at "dc"))
  | ((with_reducible apply q_iT); (walk_at "ev"); (walk_at "dc"))
  | ((with_reducible apply q_i); (walk_at "ev"))
  | ((with_reducible apply q_rt); (walk_at "ev"))
  | ((with_reducible apply q_asgA); (walk_at "ev"); (walk_at "tg")))


section
variable {P : Program} {w : World} {K : PySem.W.Frag} {mg : Str → Option Value} {base : Heap}
abbrev N_arrived : List Str := ["stand", "day"]
theorem sc_arrived : FnScope N_arrived ["stand", "day"] (defScope s_arrived) := ⟨rfl, rfl, rfl, by decide +kernel, rfl, by decide +kernel, by decide +kernel⟩
def R_arrived (ds : List PyData) (d : PyData) : Prop := ∃ s day, ds = [Stand.d s, .int day] ∧ d = (arrived s day).d
theorem ok_arrived (T : Tx w K mg) : Cal P w K mg base "arrived" ["stand", "day"] 1 (spD K R_arrived) := by
  refine cal_data T.d_arrived sc_arrived (fun _ _ _ _ _ _ us hl => match us, hl with | [_, _], _ => rfl) (fun ds d ⟨s, day, h1, h2⟩ => by subst h1; rfl) (fun f cdv A outer s H E hr => ⟨_,
    (pss_cons (ps_if (PW.pt (pw_and (pt_cmpR (r := rEQ K) (op_EQ hr.units) (pe_ix (r := rIx K) ix_seq (pv 0) pe_int (fun _ _ => rfl)) pe_str (nomark _)) (pw_and1 (pt_cmpR op_LE (pe_ix (r := rIx K) ix_seq (pv 0) pe_int (fun _ _ => rfl)) (pv 1) (nomark _))))) (pss_one (ps_ret (pe_tup (pa_cons pe_str (pa_cons (pe_ix (r := rIx K) ix_seq (pv 0) pe_int (fun _ _ => rfl)) pa_nil))))) pss_nil)
  (pss_cons (ps_if (PW.pt (pw_and (pt_cmpR (r := rEQ K) (op_EQ hr.units) (pe_ix (r := rIx K) ix_seq (pv 0) pe_int (fun _ _ => rfl)) pe_str (nomark _)) (pw_and1 (pt_cmpR op_LE (pe_ix (r := rIx K) ix_seq (pv 0) pe_int (fun _ _ => rfl)) (pv 1) (nomark _))))) (pss_cons (ps_if (pt_cmpR (r := rEQ K) (op_EQ hr.units) (pe_ix (r := rIx K) ix_seq (pv 0) pe_int (fun _ _ => rfl)) (pe_ix (r := rIx K) ix_seq (pv 0) pe_int (fun _ _ => rfl)) (nomark _)) (pss_one (ps_ret (pe_tup (pa_cons pe_str (pa_cons (pe_ix (r := rIx K) ix_seq (pv 0) pe_int (fun _ _ => rfl)) pa_nil))))) pss_nil)
  (pss_one (ps_ret (pe_tup (pa_cons pe_str (pa_cons (pe_ix (r := rIx K) ix_seq (pv 0) pe_int (fun _ _ => rfl)) (pa_cons (pe_ix (r := rIx K) ix_seq (pv 0) pe_int (fun _ _ => rfl)) pa_nil))))))) pss_nil)
  (pss_one (ps_ret (pv 0))))), fun ds d hR => ?_⟩)
  obtain ⟨s, day, rfl, rfl⟩ := hR
  walk_at "go"
  cases s with
  | out => walk_at "tr"; walk_at "tr"; walk_at "tr"; rfl
  | at_ h => walk_at "tr"; walk_at "tr"; walk_at "tr"; rfl
  | trial h o => walk_at "tr"; walk_at "tr"; walk_at "tr"; rfl
  | way a b dd =>
    walk_at "tr"
    · intro e
      walk_at "tr"
      simp only [arrived, if_pos (show dd ≤ day by simpa using e)]; rfl
    · intro e
      walk_at "tr"; walk_at "tr"
      simp only [arrived, if_neg (show ¬ dd ≤ day by simpa using e)]
  | away a b dd o =>
    walk_at "tr"
    walk_at "tr"
    · intro e
      have e' : dd ≤ day := by simpa using e
      walk_at "tr"
      · intro e
        walk_at "tr"
        simp only [arrived, if_pos e', if_pos (show b = o by simpa using e)]; rfl
      · intro e
        walk_at "tr"
        simp only [arrived, if_pos e', if_neg (show ¬ b = o by simpa using e)]; rfl
    · intro e
      walk_at "tr"
      simp only [arrived, if_neg (show ¬ dd ≤ day by simpa using e)]
end
end K92
end
section -- K92F2
set_option maxRecDepth 100000
set_option maxHeartbeats 1000000
namespace K92
open PySem PySem.Spec PyProof.Rows L2
local macro_rules | `(tactic| walk_at "dc") => `(tactic| first | decide +kernel | with_reducible rfl)
local macro_rules | `(tactic| walk_at "bb") => `(tactic| first | exact Eq.trans (b := true) (by decide +kernel) rfl | exact Eq.trans (b := false) (by decide +kernel) rfl)
local macro_rules | `(tactic| walk_at "go") => `(tactic| dsimp only [cxOf, Cx.nox, startC, List.map_cons, List.map_nil, List.length_cons, List.length_nil])
local macro_rules | `(tactic| walk_at "at") => `(tactic| first | with_reducible exact at_if | with_reducible exact at0 _ _ | with_reducible exact at1 _ _ _ | with_reducible exact at2 _ _ _ _ | rfl | exact at_word _ | exact at_name _ | exact at_day _)
local macro_rules | `(tactic| walk_at "op") => `(tactic| first
  | ((with_reducible apply o_ixT); walk_at "at")
  | ((with_reducible apply o_ixL); walk_at "at")
  | with_reducible exact o_eqS
  | with_reducible exact o_eqI
  | with_reducible exact o_neS
  | with_reducible exact o_neI
  | with_reducible exact o_le
  | with_reducible exact o_lt
  | with_reducible exact o_addI
  | with_reducible exact o_sub
  | ((with_reducible apply o_inT); first | assumption | rfl)
  | ((with_reducible apply o_inL); first | assumption | rfl)
  | with_reducible exact o_inS
  | with_reducible exact o_neNS
  | ((with_reducible apply o_neD); assumption; assumption)
  | ((with_reducible apply o_eqD); assumption; assumption))
local macro_rules | `(tactic| walk_at "tg") => `(tactic| first
  | ((with_reducible apply tg_name); decide)
  | ((with_reducible apply tg_tupW); (walk_at "tg"); rfl)
  | with_reducible exact tgs_nil
  | ((with_reducible apply tgs_cons); (walk_at "tg"); (walk_at "tg")))
local macro_rules | `(tactic| walk_at "lc") => `(tactic| ((apply lcI); (walk_at "tg"); (apply EvT.is); (walk_at "ev"); rfl; (intro _); (apply Ev.is); (walk_at "ev"); rfl))
local macro_rules | `(tactic| walk_at "ev") => `(tactic| first
  | ((with_reducible apply ev_var); rfl)
  | with_reducible exact ev_str
  | with_reducible exact ev_int
  | with_reducible exact ev_bl
  | with_reducible exact ev_non
  | with_reducible exact ev_c (by assumption)
  | with_reducible exact ea_nil
  | ((with_reducible apply ev_op); (walk_at "ev"); (walk_at "ev"); (walk_at "op"))
  | ((with_reducible apply ea_cons); (walk_at "ev"); (walk_at "ev"))
  | ((with_reducible apply ev_tupW); (walk_at "ev"); exact Nat.le_of_ble_eq_true rfl)
  | ((with_reducible apply ev_lstW); (walk_at "ev"); exact Nat.le_of_ble_eq_true rfl)
  | ((with_reducible apply et_testD); walk_at "ev")
  | ((with_reducible apply et_B); walk_at "ev")
  | ((with_reducible apply et_not); walk_at "ev")
  | ((with_reducible apply et_andF); (walk_at "ev"); (walk_at "dc"))
  | ((with_reducible apply et_andT); (walk_at "ev"); (walk_at "dc"); (walk_at "ev"))
  | ((with_reducible apply et_and); (walk_at "ev"); intro _; (walk_at "ev"))
  | ((with_reducible apply et_orT); (walk_at "ev"); (walk_at "dc"))
  | ((with_reducible apply et_orF); (walk_at "ev"); (walk_at "dc"); (walk_at "ev"))
  | ((with_reducible apply et_or); (walk_at "ev"); intro _; (walk_at "ev"))
  | ((with_reducible apply ev_andVF); (walk_at "ev"); (walk_at "dc"))
  | ((with_reducible apply ev_andVT); (walk_at "ev"); (walk_at "dc"); (walk_at "ev"))
  | ((with_reducible apply ev_orVT); (walk_at "ev"); (walk_at "dc"))
  | ((with_reducible apply ev_orVF); (walk_at "ev"); (walk_at "dc"); (walk_at "ev"))
  | ((with_reducible apply ev_andV); (walk_at "ev"); intro _; (walk_at "ev"))
  | ((with_reducible apply ev_orV); (walk_at "ev"); intro _; (walk_at "ev"))
  | ((with_reducible apply ev_notV); walk_at "ev")
  | ((with_reducible apply ev_neg); (walk_at "ev"))
  | ((with_reducible apply ev_isNE); (walk_at "ev"))
  | ((with_reducible apply ev_notN); (walk_at "ev"))
  | with_reducible exact lc_T
  | with_reducible exact eo_none
  | ((with_reducible apply eo_some); (walk_at "ev"))
  | ((with_reducible apply ev_slT); (walk_at "ev"); (walk_at "ev"); (walk_at "ev"); (exact fun h => Nat.ne_of_beq_eq_false rfl h.2); first | exact cut2 | exact cut3 | rfl)
  | ((with_reducible apply ev_slL); (walk_at "ev"); (walk_at "ev"); (walk_at "ev"); rfl)
  | ((with_reducible apply ev_kd); (walk_at "ev"); assumption; assumption)
  | ((with_reducible apply ev_call); (walk_at "ev"); assumption)
  | ((with_reducible apply ev_cb); (walk_at "ev"); (walk_at "cb"))
  | ((with_reducible apply ev_isi); (walk_at "ev"); (walk_at "dc"))
  | ((with_reducible apply ev_lcM); (walk_at "ev"); (exact Nat.le_of_ble_eq_true rfl); (walk_at "pd"))
  | ((with_reducible apply ei_list); (walk_at "ev"))
  | ((with_reducible apply ei_tup); (walk_at "ev"))
  | ((with_reducible apply ei_zip); (walk_at "ev"); assumption))
local macro_rules | `(tactic| walk_at "pd") => `(tactic| first | exact Paired.nil | ((apply Paired.cons); (walk_at "lc"); (walk_at "pd")))
local macro_rules | `(tactic| walk_at "cb") => `(tactic| first
  | with_reducible exact n_lenL
  | with_reducible exact n_lenT
  | ((with_reducible apply n_lenS); assumption)
  | with_reducible exact n_intB
  | with_reducible exact n_abs
  | with_reducible exact n_min
  | with_reducible exact n_tupL
  | with_reducible exact n_lisT
  | with_reducible exact n_lisL)
local macro_rules | `(tactic| walk_at "tr") => `(tactic| first
  | ((with_reducible apply q_retF); (walk_at "ev"); (walk_at "dc"))
  | ((with_reducible apply q_retT); (walk_at "ev"); (walk_at "dc"))
  | ((with_reducible apply q_retB); (walk_at "ev"))
  | ((with_reducible apply tr_retI); (walk_at "ev"))
  | ((with_reducible apply q_par); (walk_at "ev"))
  | ((with_reducible apply q_par3); (walk_at "ev"))
  | ((with_reducible apply q_newL); intro _)
  | ((with_reducible apply q_newD); intro _)
  | ((with_reducible apply q_asgA); (walk_at "ev"); (walk_at "tg")))
local macro_rules | `(tactic| walk_at "if") => `(tactic| first
  | ((with_reducible apply q_app (k := 0)); rfl; rfl; assumption; (walk_at "ev"))
  | with_reducible apply q_as
  | with_reducible apply q_nx
  | ((with_reducible apply q_par); (walk_at "ev"))
  | ((with_reducible apply q_par3); (walk_at "ev"))
  | ((with_reducible apply q_iF); (walk_at "ev"); (walk_at "dc"))
  | ((with_reducible apply q_iT); (walk_at "ev"); (walk_at "dc"))
  | ((with_reducible apply q_i); (walk_at "ev"))
  | ((with_reducible apply q_rt); (walk_at "ev"))
  | ((with_reducible apply q_asgA); (walk_at "ev"); (walk_at "tg")))


section
variable {P : Program} {w : World} {K : PySem.W.Frag} {mg : Str → Option Value} {base : Heap}
abbrev N_owner_of : List Str := ["stand"]
theorem sc_owner_of : FnScope N_owner_of ["stand"] (defScope s_owner_of) := ⟨rfl, rfl, rfl, by decide +kernel, rfl, by decide +kernel, by decide +kernel⟩
def ownD : Option Str → PyData
  | some h => .str h
  | none => .none
def R_owner_of (ds : List PyData) (d : PyData) : Prop := ∃ s, ds = [Stand.d s] ∧ d = ownD (ownerOf s)
theorem ok_owner_of (T : Tx w K mg) : Cal P w K mg base "owner_of" ["stand"] 1 (spD K R_owner_of) := by
  refine cal_data T.d_owner_of sc_owner_of (fun _ _ _ _ _ _ us hl => match us, hl with | [_], _ => rfl) (fun ds d ⟨s, h1, h2⟩ => by subst h1; rfl) (fun f cdv A outer s H E hr => ⟨_,
    (pss_cons (ps_if (pt_cmpR (r := rIN K false) op_IN (pe_ix (r := rIx K) ix_seq (pv 0) pe_int (fun _ _ => rfl)) (pe_tup (pa_cons pe_str (pa_cons pe_str (pa_cons pe_str pa_nil)))) rfl) (pss_one (ps_ret (pe_ix (r := rIx K) ix_seq (pv 0) (pe_un un_NEG pe_int) (fun _ _ => rfl)))) pss_nil)
  (pss_one (ps_ret pe_non))), fun ds d hR => ?_⟩)
  obtain ⟨s, rfl, rfl⟩ := hR
  walk_at "go"
  cases s with
  | out => walk_at "tr"; walk_at "tr"; rfl
  | at_ h => walk_at "tr"; walk_at "tr"; rfl
  | trial h o => walk_at "tr"; walk_at "tr"; rfl
  | way a b dd => walk_at "tr"; walk_at "tr"; rfl
  | away a b dd o => walk_at "tr"; walk_at "tr"; rfl
abbrev N_houses_in : List Str := ["page", "at"]
theorem sc_houses_in : FnScope N_houses_in ["page"] (defScope s_houses_in) := ⟨rfl, rfl, rfl, by decide +kernel, rfl, by decide +kernel, by decide +kernel⟩
def R_houses_in (ds : List PyData) (d : PyData) : Prop := ∃ p, ds = [Page.d p] ∧ d = .list (p.houses.map .str)
theorem ok_houses_in (T : Tx w K mg) : Cal P w K mg base "houses_in" ["page"] 1 (spD K R_houses_in) := by
  refine cal_data T.d_houses_in sc_houses_in (fun _ _ _ _ _ _ us hl => match us, hl with | [_], _ => rfl) (fun ds d ⟨s, h1, h2⟩ => by subst h1; rfl) (fun f cdv A outer s H E hr => ⟨_,
    (pss_one (ps_ret (pe_lc (own := [("at", 1)]) (g := gName 1) rfl sc_houses_in.nd (pi_tup (pe_ix (r := rIxD K w) ix_kdict (pe_gr (by rfl) T.HOUSES) (pe_ix (r := rIx K) ix_seq (pv 0) pe_int (fun _ _ => rfl)) (fun _ _ => rfl))) (blkOk_by (own := [("at", 1)]) (N := N_houses_in) (sc := defScope s_houses_in) (by decide +kernel)) (fun _ _ _ _ _ => (pg_name (i := 1) sc_houses_in.nd rfl (.inl rfl))) (fun _ _ _ _ _ => pts_nil) (fun _ _ _ _ _ => (pe_ix (r := rIx K) ix_seq (pv 0) (pv 1) (fun _ _ => rfl)))))), fun ds d hR => ?_⟩)
  obtain ⟨p, rfl, rfl⟩ := hR
  walk_at "go"
  obtain ⟨a1, k1, r1⟩ := T.HOUSES_comes
  obtain ⟨a2, k2, r2⟩ := T.HOUSES_trial
  obtain ⟨a3, k3, r3⟩ := T.HOUSES_back
  obtain ⟨a4, k4, r4⟩ := T.HOUSES_keep
  obtain ⟨a5, k5, r5⟩ := T.HOUSES_give
  obtain ⟨a6, k6, r6⟩ := T.HOUSES_goes
  obtain ⟨a7, k7, r7⟩ := T.HOUSES_double
  obtain ⟨a8, k8, r8⟩ := T.HOUSES_promise
  obtain ⟨a9, k9, r9⟩ := T.HOUSES_loose
  obtain ⟨b1, k10, r10⟩ := T.HOUSES_want
  obtain ⟨b2, k11, r11⟩ := T.HOUSES_owe
  obtain ⟨b3, k12, r12⟩ := T.HOUSES_pay
  cases p <;> ((with_reducible apply tr_retI); (walk_at "ev"); rfl)
abbrev N_things_in : List Str := ["page"]
theorem sc_things_in : FnScope N_things_in ["page"] (defScope s_things_in) := ⟨rfl, rfl, rfl, by decide +kernel, rfl, by decide +kernel, by decide +kernel⟩
def R_things_in (ds : List PyData) (d : PyData) : Prop := ∃ p, ds = [Page.d p] ∧ d = .list (p.things.map .str)
theorem ok_things_in (T : Tx w K mg) : Cal P w K mg base "things_in" ["page"] 1 (spD K R_things_in) := by
  refine cal_data T.d_things_in sc_things_in (fun _ _ _ _ _ _ us hl => match us, hl with | [_], _ => rfl) (fun ds d ⟨s, h1, h2⟩ => by subst h1; rfl) (fun f cdv A outer s H E hr => ⟨_,
    (pss_cons (ps_if (pt_cmpR (r := rIN K false) op_IN (pe_ix (r := rIx K) ix_seq (pv 0) pe_int (fun _ _ => rfl)) (pe_gr (by rfl) T.OF_THINGS) rfl) (pss_one (ps_ret (pe_lst (pa_cons (pe_ix (r := rIx K) ix_seq (pv 0) pe_int (fun _ _ => rfl)) pa_nil)))) pss_nil)
  (pss_one (ps_ret (pe_lst pa_nil)))), fun ds d hR => ?_⟩)
  obtain ⟨p, rfl, rfl⟩ := hR
  walk_at "go"
  have rc := T.rOF_THINGS
  cases p <;> ((walk_at "tr"); (walk_at "tr"); rfl)
abbrev N_kinds_in : List Str := ["page"]
theorem sc_kinds_in : FnScope N_kinds_in ["page"] (defScope s_kinds_in) := ⟨rfl, rfl, rfl, by decide +kernel, rfl, by decide +kernel, by decide +kernel⟩
def R_kinds_in (ds : List PyData) (d : PyData) : Prop := ∃ p, ds = [Page.d p] ∧ d = .list (p.kinds.map .str)
theorem ok_kinds_in (T : Tx w K mg) : Cal P w K mg base "kinds_in" ["page"] 1 (spD K R_kinds_in) := by
  refine cal_data T.d_kinds_in sc_kinds_in (fun _ _ _ _ _ _ us hl => match us, hl with | [_], _ => rfl) (fun ds d ⟨s, h1, h2⟩ => by subst h1; rfl) (fun f cdv A outer s H E hr => ⟨_,
    (pss_cons (ps_if (pt_cmpR (r := rIN K false) op_IN (pe_ix (r := rIx K) ix_seq (pv 0) pe_int (fun _ _ => rfl)) (pe_gr (by rfl) T.OF_KINDS) rfl) (pss_one (ps_ret (pe_lst (pa_cons (pe_ix (r := rIx K) ix_seq (pv 0) pe_int (fun _ _ => rfl)) pa_nil)))) pss_nil)
  (pss_one (ps_ret (pe_lst pa_nil)))), fun ds d hR => ?_⟩)
  obtain ⟨p, rfl, rfl⟩ := hR
  walk_at "go"
  have rc := T.rOF_KINDS
  cases p <;> ((walk_at "tr"); (walk_at "tr"); rfl)
abbrev N_moved : List Str := ["page", "stand", "word", "day", "house"]
theorem sc_moved : FnScope N_moved ["page", "stand"] (defScope s_moved) := ⟨rfl, rfl, rfl, by decide +kernel, rfl, by decide +kernel, by decide +kernel⟩
def mvD : Option Stand → PyData
  | some s => s.d
  | none => .none
def R_moved (ds : List PyData) (d : PyData) : Prop := ∃ p s, p.rank < 7 ∧ p.rank ≠ 0 ∧ ds = [Page.d p, Stand.d s] ∧ p.ok ∧ s.ok ∧ d = mvD (moved p s)
theorem ok_moved (T : Tx w K mg) (c_arrived : Cal P w K mg base "arrived" ["stand", "day"] 1 (spD K R_arrived)) : Cal P w K mg base "moved" ["page", "stand"] 2 (spD K R_moved) := by
  refine cal_data T.d_moved sc_moved (fun _ _ _ _ _ _ us hl => match us, hl with | [_, _], _ => rfl) (fun ds d ⟨p, s, _, _, h1, _⟩ => by subst h1; rfl) (fun f cdv A outer s H E hr => ⟨_,
    (pss_cons (ps_par3 (i := 2) (j := 3) (l := 4) rfl sc_moved.nd rfl rfl rfl (by decide) (by decide) (by decide) (by rfl) (by rfl) (by rfl) (pa_cons (pe_ix (r := rIx K) ix_seq (pv 0) pe_int (fun _ _ => rfl)) (pa_cons (pe_ix (r := rIx K) ix_seq (pv 0) pe_int (fun _ _ => rfl)) (pa_cons (pe_ix (r := rIx K) ix_seq (pv 0) pe_int (fun _ _ => rfl)) pa_nil))) (by rfl))
  (pss_cons (ps_if (pt_cmpR (r := rIN K false) op_IN (pv 2) (pe_tup (pa_cons pe_str (pa_cons pe_str pa_nil))) rfl) (pss_cons (ps_if (PW.pt (pw_or (pt_cmpR (r := rNE K) (op_NE hr.units) (pe_ix (r := rIx K) ix_seq (pv 1) pe_int (fun _ _ => rfl)) pe_str (nomark _)) (pw_or1 (pt_cmpR (r := rNE K) (op_NE hr.units) (pe_ix (r := rIx K) ix_seq (pv 1) pe_int (fun _ _ => rfl)) (pv 4) (nomark _))))) (pss_one (ps_ret pe_non)) pss_nil)
  (pss_cons (ps_if (pt_cmpR (r := rEQ K) (op_EQ hr.units) (pv 2) pe_str (nomark _)) (pss_one (ps_ret (pe_tup (pa_cons pe_str (pa_cons (pv 4) pa_nil))))) pss_nil)
  (pss_one (ps_ret (pe_cal c_arrived (hr.mono (by decide)) (by rfl) (pa_cons (pe_tup (pa_cons pe_str (pa_cons (pv 4) (pa_cons (pe_ix (r := rIx K) ix_seq (pv 1) pe_int (fun _ _ => rfl)) (pa_cons (pe_op op_ADD (pv 3) (pe_ix (r := rIx K) ix_seq (pv 0) pe_int (fun _ _ => rfl))) (pa_cons (pe_ix (r := rIx K) ix_seq (pv 1) pe_int (fun _ _ => rfl)) pa_nil)))))) (pa_cons (pv 3) pa_nil))))))) pss_nil)
  (pss_cons (ps_if (pt_cmpR (r := rNE K) (op_NE hr.units) (pv 1) (pe_tup (pa_cons pe_str (pa_cons (pv 4) pa_nil))) (nomark _)) (pss_one (ps_ret pe_non)) pss_nil)
  (pss_cons (ps_if (pt_cmpR (r := rEQ K) (op_EQ hr.units) (pv 2) pe_str (nomark _)) (pss_one (ps_ret (pe_cal c_arrived (hr.mono (by decide)) (by rfl) (pa_cons (pe_tup (pa_cons pe_str (pa_cons (pv 4) (pa_cons (pe_ix (r := rIx K) ix_seq (pv 0) pe_int (fun _ _ => rfl)) (pa_cons (pe_op op_ADD (pv 3) (pe_ix (r := rIx K) ix_seq (pv 0) pe_int (fun _ _ => rfl))) (pa_cons (pv 4) pa_nil)))))) (pa_cons (pv 3) pa_nil))))) pss_nil)
  (pss_cons (ps_if (pt_cmpR (r := rEQ K) (op_EQ hr.units) (pv 2) pe_str (nomark _)) (pss_one (ps_ret (pe_cal c_arrived (hr.mono (by decide)) (by rfl) (pa_cons (pe_tup (pa_cons pe_str (pa_cons (pv 4) (pa_cons (pe_ix (r := rIx K) ix_seq (pv 0) pe_int (fun _ _ => rfl)) (pa_cons (pe_op op_ADD (pv 3) (pe_ix (r := rIx K) ix_seq (pv 0) pe_int (fun _ _ => rfl))) pa_nil))))) (pa_cons (pv 3) pa_nil))))) pss_nil)
  (pss_cons (ps_if (pt_cmpR (r := rEQ K) (op_EQ hr.units) (pv 2) pe_str (nomark _)) (pss_one (ps_ret (pe_gr (by rfl) T.OUT))) pss_nil)
  (pss_one (ps_ret (pv 1))))))))), fun ds d hR => ?_⟩)
  obtain ⟨p, s, h1, h2, rfl, h3, h4, rfl⟩ := hR
  walk_at "go"
  have ro := T.rOUT
  have hs := Stand.sh h4
  cases p
  case comes => exact absurd rfl h2
  case promise => exact absurd h1 (show ¬ 7 < 7 by decide)
  case loose => exact absurd h1 (show ¬ 8 < 7 by decide)
  case want => exact absurd h1 (show ¬ 9 < 7 by decide)
  case owe => exact absurd h1 (show ¬ 10 < 7 by decide)
  case pay => exact absurd h1 (show ¬ 11 < 7 by decide)
  case back n e t h y =>
    cases s
    case trial a o =>
      walk_at "tr"
      walk_at "tr"
      walk_at "tr"
      · intro q
        walk_at "tr"
        simp only [moved, if_neg (show ¬ a = h by simpa using q)]
        rfl
      · intro q
        have r1 : R_arrived [(Stand.away h o (e + y) o).d, .int e] (arrived (.away h o (e + y) o) e).d := ⟨_, _, rfl, rfl⟩
        walk_at "tr"
        walk_at "tr"
        simp only [moved, if_pos (show a = h by simpa using q)]
        rfl
    all_goals ((walk_at "tr"); (walk_at "tr"); (walk_at "tr"); (walk_at "tr"); rfl)
  case keep n e t h m =>
    cases s
    case trial a o =>
      walk_at "tr"
      walk_at "tr"
      walk_at "tr"
      · intro q
        walk_at "tr"
        simp only [moved, if_neg (show ¬ a = h by simpa using q)]
        rfl
      · intro q
        walk_at "tr"
        walk_at "tr"
        simp only [moved, if_pos (show a = h by simpa using q)]
        rfl
    all_goals ((walk_at "tr"); (walk_at "tr"); (walk_at "tr"); (walk_at "tr"); rfl)
  case trial n e t a b y =>
    have ha := at_sh (Page.ok_houses h3 a (by simp [Page.houses]))
    have r1 : R_arrived [(Stand.away a b (e + y) a).d, .int e] (arrived (.away a b (e + y) a) e).d := ⟨_, _, rfl, rfl⟩
    walk_at "tr"
    walk_at "tr"
    walk_at "tr"
    · intro q
      walk_at "tr"
      rw [eqv_at] at q
      simp only [moved, if_neg (show ¬ s = .at_ a by simpa using q)]
      rfl
    · intro q
      rw [eqv_at] at q
      walk_at "tr"
      walk_at "tr"
      simp only [moved, if_pos (show s = .at_ a by simpa using q)]
      rfl
  case give n e t a b y m =>
    have ha := at_sh (Page.ok_houses h3 a (by simp [Page.houses]))
    have r1 : R_arrived [(Stand.way a b (e + y)).d, .int e] (arrived (.way a b (e + y)) e).d := ⟨_, _, rfl, rfl⟩
    walk_at "tr"
    walk_at "tr"
    walk_at "tr"
    · intro q
      walk_at "tr"
      rw [eqv_at] at q
      simp only [moved, if_neg (show ¬ s = .at_ a by simpa using q)]
      rfl
    · intro q
      rw [eqv_at] at q
      walk_at "tr"
      walk_at "tr"
      walk_at "tr"
      simp only [moved, if_pos (show s = .at_ a by simpa using q)]
      rfl
  case goes n e t a =>
    have ha := at_sh (Page.ok_houses h3 a (by simp [Page.houses]))
    walk_at "tr"
    walk_at "tr"
    walk_at "tr"
    · intro q
      walk_at "tr"
      rw [eqv_at] at q
      simp only [moved, if_neg (show ¬ s = .at_ a by simpa using q)]
      rfl
    · intro q
      rw [eqv_at] at q
      walk_at "tr"
      walk_at "tr"
      walk_at "tr"
      walk_at "tr"
      simp only [moved, if_pos (show s = .at_ a by simpa using q)]
      rfl
  case double n e t a =>
    have ha := at_sh (Page.ok_houses h3 a (by simp [Page.houses]))
    walk_at "tr"
    walk_at "tr"
    walk_at "tr"
    · intro q
      walk_at "tr"
      rw [eqv_at] at q
      simp only [moved, if_neg (show ¬ s = .at_ a by simpa using q)]
      rfl
    · intro q
      rw [eqv_at] at q
      walk_at "tr"
      walk_at "tr"
      walk_at "tr"
      walk_at "tr"
      simp only [moved, if_pos (show s = .at_ a by simpa using q)]
      rfl
end
end K92
end
section -- K92F3
set_option maxRecDepth 100000
set_option maxHeartbeats 1000000
namespace K92
open PySem PySem.Spec PyProof.Rows L2
local macro_rules | `(tactic| walk_at "dc") => `(tactic| first | decide +kernel | with_reducible rfl)
local macro_rules | `(tactic| walk_at "bb") => `(tactic| first | exact Eq.trans (b := true) (by decide +kernel) rfl | exact Eq.trans (b := false) (by decide +kernel) rfl)
local macro_rules | `(tactic| walk_at "go") => `(tactic| dsimp only [cxOf, Cx.nox, startC, List.map_cons, List.map_nil, List.length_cons, List.length_nil])
local macro_rules | `(tactic| walk_at "at") => `(tactic| first | with_reducible exact at_if | with_reducible exact at0 _ _ | with_reducible exact at1 _ _ _ | with_reducible exact at2 _ _ _ _ | rfl | exact at_word _ | exact at_name _ | exact at_day _)
local macro_rules | `(tactic| walk_at "op") => `(tactic| first
  | ((with_reducible apply o_ixT); walk_at "at")
  | ((with_reducible apply o_ixL); walk_at "at")
  | with_reducible exact o_eqS
  | with_reducible exact o_eqI
  | with_reducible exact o_neS
  | with_reducible exact o_neI
  | with_reducible exact o_le
  | with_reducible exact o_lt
  | with_reducible exact o_addI
  | with_reducible exact o_sub
  | ((with_reducible apply o_inT); first | assumption | rfl)
  | ((with_reducible apply o_inL); first | assumption | rfl)
  | with_reducible exact o_inS
  | with_reducible exact o_neNS
  | ((with_reducible apply o_neD); assumption; assumption)
  | ((with_reducible apply o_eqD); assumption; assumption))
local macro_rules | `(tactic| walk_at "tg") => `(tactic| first
  | ((with_reducible apply tg_name); decide)
  | ((with_reducible apply tg_tupW); (walk_at "tg"); rfl)
  | with_reducible exact tgs_nil
  | ((with_reducible apply tgs_cons); (walk_at "tg"); (walk_at "tg")))
local macro_rules | `(tactic| walk_at "lc") => `(tactic| ((apply lcI); (walk_at "tg"); (apply EvT.is); (walk_at "ev"); rfl; (intro _); (apply Ev.is); (walk_at "ev"); rfl))
local macro_rules | `(tactic| walk_at "ev") => `(tactic| first
  | ((with_reducible apply ev_var); rfl)
  | with_reducible exact ev_str
  | with_reducible exact ev_int
  | with_reducible exact ev_bl
  | with_reducible exact ev_non
  | with_reducible exact ev_c (by assumption)
  | with_reducible exact ea_nil
  | ((with_reducible apply ev_op); (walk_at "ev"); (walk_at "ev"); (walk_at "op"))
  | ((with_reducible apply ea_cons); (walk_at "ev"); (walk_at "ev"))
  | ((with_reducible apply ev_tupW); (walk_at "ev"); exact Nat.le_of_ble_eq_true rfl)
  | ((with_reducible apply ev_lstW); (walk_at "ev"); exact Nat.le_of_ble_eq_true rfl)
  | ((with_reducible apply et_testD); walk_at "ev")
  | ((with_reducible apply et_B); walk_at "ev")
  | ((with_reducible apply et_not); walk_at "ev")
  | ((with_reducible apply et_andF); (walk_at "ev"); (walk_at "dc"))
  | ((with_reducible apply et_andT); (walk_at "ev"); (walk_at "dc"); (walk_at "ev"))
  | ((with_reducible apply et_and); (walk_at "ev"); intro _; (walk_at "ev"))
  | ((with_reducible apply et_orT); (walk_at "ev"); (walk_at "dc"))
  | ((with_reducible apply et_orF); (walk_at "ev"); (walk_at "dc"); (walk_at "ev"))
  | ((with_reducible apply et_or); (walk_at "ev"); intro _; (walk_at "ev"))
  | ((with_reducible apply ev_andVF); (walk_at "ev"); (walk_at "dc"))
  | ((with_reducible apply ev_andVT); (walk_at "ev"); (walk_at "dc"); (walk_at "ev"))
  | ((with_reducible apply ev_orVT); (walk_at "ev"); (walk_at "dc"))
  | ((with_reducible apply ev_orVF); (walk_at "ev"); (walk_at "dc"); (walk_at "ev"))
  | ((with_reducible apply ev_andV); (walk_at "ev"); intro _; (walk_at "ev"))
  | ((with_reducible apply ev_orV); (walk_at "ev"); intro _; (walk_at "ev"))
  | ((with_reducible apply ev_notV); walk_at "ev")
  | ((with_reducible apply ev_neg); (walk_at "ev"))
  | ((with_reducible apply ev_isNE); (walk_at "ev"))
  | ((with_reducible apply ev_notN); (walk_at "ev"))
  | with_reducible exact lc_T
  | with_reducible exact eo_none
  | ((with_reducible apply eo_some); (walk_at "ev"))
  | ((with_reducible apply ev_slT); (walk_at "ev"); (walk_at "ev"); (walk_at "ev"); (exact fun h => Nat.ne_of_beq_eq_false rfl h.2); first | exact cut2 | exact cut3 | rfl)
  | ((with_reducible apply ev_slL); (walk_at "ev"); (walk_at "ev"); (walk_at "ev"); rfl)
  | ((with_reducible apply ev_kd); (walk_at "ev"); assumption; assumption)
  | ((with_reducible apply ev_call); (walk_at "ev"); assumption)
  | ((with_reducible apply ev_cb); (walk_at "ev"); (walk_at "cb"))
  | ((with_reducible apply ev_isi); (walk_at "ev"); (walk_at "dc"))
  | ((with_reducible apply ev_lcM); (walk_at "ev"); (exact Nat.le_of_ble_eq_true rfl); (walk_at "pd"))
  | ((with_reducible apply ei_list); (walk_at "ev"))
  | ((with_reducible apply ei_tup); (walk_at "ev"))
  | ((with_reducible apply ei_zip); (walk_at "ev"); assumption))
local macro_rules | `(tactic| walk_at "pd") => `(tactic| first | exact Paired.nil | ((apply Paired.cons); (walk_at "lc"); (walk_at "pd")))
local macro_rules | `(tactic| walk_at "cb") => `(tactic| first
  | with_reducible exact n_lenL
  | with_reducible exact n_lenT
  | ((with_reducible apply n_lenS); assumption)
  | with_reducible exact n_intB
  | with_reducible exact n_abs
  | with_reducible exact n_min
  | with_reducible exact n_tupL
  | with_reducible exact n_lisT
  | with_reducible exact n_lisL)
local macro_rules | `(tactic| walk_at "tr") => `(tactic| first
  | ((with_reducible apply q_retF); (walk_at "ev"); (walk_at "dc"))
  | ((with_reducible apply q_retT); (walk_at "ev"); (walk_at "dc"))
  | ((with_reducible apply q_retB); (walk_at "ev"))
  | ((with_reducible apply tr_retI); (walk_at "ev"))
  | ((with_reducible apply q_par); (walk_at "ev"))
  | ((with_reducible apply q_par3); (walk_at "ev"))
  | ((with_reducible apply q_newL); intro _)
  | ((with_reducible apply q_newD); intro _)
  | ((with_reducible apply q_asgA); (walk_at "ev"); (walk_at "tg")))
local macro_rules | `(tactic| walk_at "if") => `(tactic| first
  | ((with_reducible apply q_app (k := 0)); rfl; rfl; assumption; (walk_at "ev"))
  | with_reducible apply q_as
  | with_reducible apply q_nx
  | ((with_reducible apply q_par); (walk_at "ev"))
  | ((with_reducible apply q_par3); (walk_at "ev"))
  | ((with_reducible apply q_iF); (walk_at "ev"); (walk_at "dc"))
  | ((with_reducible apply q_iT); (walk_at "ev"); (walk_at "dc"))
  | ((with_reducible apply q_i); (walk_at "ev"))
  | ((with_reducible apply q_rt); (walk_at "ev"))
  | ((with_reducible apply q_asgA); (walk_at "ev"); (walk_at "tg")))


section
variable {P : Program} {w : World} {K : PySem.W.Frag} {mg : Str → Option Value} {base : Heap}
abbrev N_pages_of : List Str := ["book", "thing", "names", "page", "found"]
theorem sc_pages_of : FnScope N_pages_of ["book", "thing"] (defScope s_pages_of) := ⟨rfl, rfl, rfl, by decide +kernel, rfl, by decide +kernel, by decide +kernel⟩
structure Book.ok (b : Book) : Prop where
  pages : ∀ p, p ∈ b.pages → p.ok
  few : b.pages.length ≤ 30
  houses : ∀ h, h ∈ b.houses → okS h
  hfew : b.houses.length ≤ 1000
def R_pages_of (ds : List PyData) (d : PyData) : Prop := ∃ b t, b.ok ∧ okS t ∧ ds = [Book.d b, .str t] ∧ d = .list ((pagesOf b.pages t).map Page.d)
theorem ok_pages_of (T : Tx w K mg) (c_things_in : Cal P w K mg base "things_in" ["page"] 1 (spD K R_things_in)) : Cal P w K mg base "pages_of" ["book", "thing"] 2 (spD K R_pages_of) := by
  refine cal_data T.d_pages_of sc_pages_of (fun _ _ _ _ _ _ us hl => match us, hl with | [_, _], _ => rfl) (fun ds d ⟨s, day, _, _, h1, h2⟩ => by subst h1; rfl) (fun f cdv A outer s H E hr => ⟨_,
    (pss_cons (ps_setLc (i := 2) (own := [("page", 3)]) (g := gName 3) rfl sc_pages_of.nd rfl rfl (sw_true rfl rfl rfl (by decide +kernel)) (pi_tup (pe_ix (r := rIx K) ix_seq (pv 0) pe_int (fun _ _ => rfl))) (blkOk_by (own := [("page", 3)]) (N := N_pages_of) (sc := defScope s_pages_of) (by decide +kernel)) (fun _ _ _ _ _ => (pg_name (i := 3) sc_pages_of.nd rfl (.inl rfl))) (fun _ _ _ _ _ => (pts_one (PW.pt (pw_and (pt_cmpR (r := rEQ K) (op_EQ hr.units) (pe_ix (r := rIx K) ix_seq (pv 3) pe_int (fun _ _ => rfl)) pe_str (nomark _)) (pw_and1 (pt_cmpR (r := rEQ K) (op_EQ hr.units) (pe_ix (r := rIx K) ix_seq (pv 3) pe_int (fun _ _ => rfl)) (pv 1) (nomark _))))))) (fun _ _ _ _ _ => (pe_ix (r := rIx K) ix_seq (pv 3) pe_int (fun _ _ => rfl))))
  (pss_cons (ps_set (i := 4) sc_pages_of.nd rfl (by first | exact .inl rfl | exact .inr rfl) (pe_lst pa_nil))
  (pss_cons (ps_for PassesOwn.never rfl (pi_tup (pe_ix (r := rIx K) ix_seq (pv 0) pe_int (fun _ _ => rfl))) (pg_name (i := 3) sc_pages_of.nd rfl (by first | exact .inl rfl | exact .inr rfl)) (pss_one (ps_if (PW.pt (pw_or (pt_cmpR (r := rEQ K) (op_EQ hr.units) (pe_cal c_things_in (hr.mono (by decide)) (by rfl) (pa_cons (pv 3) pa_nil)) (pe_lst (pa_cons (pv 1) pa_nil)) (nomark _)) (pw_or1 (PW.pt (pw_and (pt_cmpR (r := rEQ K) (op_EQ hr.units) (pe_ix (r := rIx K) ix_seq (pv 3) pe_int (fun _ _ => rfl)) pe_str (nomark _)) (pw_and1 (pt_cmpR (r := rIN K false) op_IN (pe_ix (r := rIx K) ix_seq (pv 3) pe_int (fun _ _ => rfl)) (pv 2) rfl))))))) (pss_one (ps_expr (pe_bm PySem.F.plainAttrs_list PySem.F.slot_list_append PySem.F.type_list_append mt_append (pv 4) (pa_cons (pv 3) pa_nil)))) pss_nil)))
  (pss_one (ps_ret (pv 4)))))), fun ds d hR => ?_⟩)
  obtain ⟨b, t, hb, ht, rfl, rfl⟩ := hR
  walk_at "go"
  refine q_asgG (is := anyS) (Ev.is (ev_lcX Page.d b.pages (by walk_at "ev") (isPromOf t) (fun p => .str p.name) (by have := hb.few; omega) ?_) (show _ = PyData.list ((promNames b.pages t).map .str) by unfold promNames; rw [List.map_map]; rfl)) (by walk_at "tg") ?_
  · intro x hx
    cases x <;> walk_at "lc"
  walk_at "tr"
  rename_i p
  refine q_forX (is := anyS) Page.d b.pages (by walk_at "ev") (fun pre s' => ∃ c, s' = ([.val b.d, .val (.str t), .val (.list ((promNames b.pages t).map .str)), c, .ref p], [(p, .lst ((pre.filter (ofThing (promNames b.pages t) t)).map Page.d))])) ⟨_, rfl⟩ ?_ ?_
  · rintro pre x post _ ex ⟨c, rfl⟩
    have hx : x ∈ b.pages := by rw [ex]; simp
    refine forI (by walk_at "tg") ?_
    have r1 : R_things_in [Page.d x] (.list (x.things.map .str)) := ⟨x, rfl, rfl⟩
    have sh1 := strs_sh (Page.ok_things (hb.pages x hx))
    have sh2 : SeqAt.shaped (.list [.str t]) = true := strs_sh (xs := [t]) (by simpa using ht)
    have al := all_isStr (xs := promNames b.pages t)
    have ee : PyData.eqv (.list (x.things.map .str)) (.list [.str t]) = decide (x.things = [t]) := eqv_strs x.things [t]
    refine tr_if (b := ofThing (promNames b.pages t) t x) (EvT.is (et_or (et_testD (by walk_at "ev")) (fun _ => (?_ : EvT C0 K _ _ (Eq (looseIn (promNames b.pages t) x))))) (by rw [ee]; rfl)) ?_ ?_
    · cases x <;> ((apply EvT.is); (walk_at "ev"); first | rfl | exact inD_strs)
    · intro q
      refine tr_app (k := 0) rfl rfl ?_ (by walk_at "ev") ⟨.val x.d, ?_⟩
      · have h1 := List.length_filter_le (ofThing (promNames b.pages t) t) pre
        have h2 : pre.length ≤ b.pages.length := by rw [ex]; simp
        have h3 := hb.few
        rw [List.length_map]
        omega
      · rw [List.filter_append, List.filter_cons, if_pos q, List.map_append]; rfl
    · intro q
      refine tr_next ⟨.val x.d, ?_⟩
      rw [List.filter_append, List.filter_cons, if_neg (by rw [q]; simp)]; simp
  · rintro s' ⟨c, rfl⟩
    exact tr_retL (k := 0) rfl rfl rfl
end
end K92
end
section -- K92F4
set_option maxRecDepth 100000
set_option maxHeartbeats 1000000
namespace K92
open PySem PySem.Spec PyProof.Rows L2
local macro_rules | `(tactic| walk_at "dc") => `(tactic| first | decide +kernel | with_reducible rfl)
local macro_rules | `(tactic| walk_at "bb") => `(tactic| first | exact Eq.trans (b := true) (by decide +kernel) rfl | exact Eq.trans (b := false) (by decide +kernel) rfl)
local macro_rules | `(tactic| walk_at "go") => `(tactic| dsimp only [cxOf, Cx.nox, startC, List.map_cons, List.map_nil, List.length_cons, List.length_nil])
local macro_rules | `(tactic| walk_at "at") => `(tactic| first | with_reducible exact at_if | with_reducible exact at0 _ _ | with_reducible exact at1 _ _ _ | with_reducible exact at2 _ _ _ _ | rfl | exact at_word _ | exact at_name _ | exact at_day _)
local macro_rules | `(tactic| walk_at "op") => `(tactic| first
  | ((with_reducible apply o_ixT); walk_at "at")
  | ((with_reducible apply o_ixL); walk_at "at")
  | with_reducible exact o_eqS
  | with_reducible exact o_eqI
  | with_reducible exact o_neS
  | with_reducible exact o_neI
  | with_reducible exact o_le
  | with_reducible exact o_lt
  | with_reducible exact o_addI
  | with_reducible exact o_sub
  | ((with_reducible apply o_inT); first | assumption | rfl)
  | ((with_reducible apply o_inL); first | assumption | rfl)
  | with_reducible exact o_inS
  | with_reducible exact o_neNS
  | ((with_reducible apply o_neD); assumption; assumption)
  | ((with_reducible apply o_eqD); assumption; assumption))
local macro_rules | `(tactic| walk_at "tg") => `(tactic| first
  | ((with_reducible apply tg_name); decide)
  | ((with_reducible apply tg_tupW); (walk_at "tg"); rfl)
  | with_reducible exact tgs_nil
  | ((with_reducible apply tgs_cons); (walk_at "tg"); (walk_at "tg")))
local macro_rules | `(tactic| walk_at "lc") => `(tactic| ((apply lcI); (walk_at "tg"); (apply EvT.is); (walk_at "ev"); rfl; (intro _); (apply Ev.is); (walk_at "ev"); rfl))
local macro_rules | `(tactic| walk_at "ev") => `(tactic| first
  | ((with_reducible apply ev_var); rfl)
  | with_reducible exact ev_str
  | with_reducible exact ev_int
  | with_reducible exact ev_bl
  | with_reducible exact ev_non
  | with_reducible exact ev_c (by assumption)
  | with_reducible exact ea_nil
  | ((with_reducible apply ev_op); (walk_at "ev"); (walk_at "ev"); (walk_at "op"))
  | ((with_reducible apply ea_cons); (walk_at "ev"); (walk_at "ev"))
  | ((with_reducible apply ev_tupW); (walk_at "ev"); exact Nat.le_of_ble_eq_true rfl)
  | ((with_reducible apply ev_lstW); (walk_at "ev"); exact Nat.le_of_ble_eq_true rfl)
  | ((with_reducible apply et_testD); walk_at "ev")
  | ((with_reducible apply et_B); walk_at "ev")
  | ((with_reducible apply et_not); walk_at "ev")
  | ((with_reducible apply et_andF); (walk_at "ev"); (walk_at "dc"))
  | ((with_reducible apply et_andT); (walk_at "ev"); (walk_at "dc"); (walk_at "ev"))
  | ((with_reducible apply et_and); (walk_at "ev"); intro _; (walk_at "ev"))
  | ((with_reducible apply et_orT); (walk_at "ev"); (walk_at "dc"))
  | ((with_reducible apply et_orF); (walk_at "ev"); (walk_at "dc"); (walk_at "ev"))
  | ((with_reducible apply et_or); (walk_at "ev"); intro _; (walk_at "ev"))
  | ((with_reducible apply ev_andVF); (walk_at "ev"); (walk_at "dc"))
  | ((with_reducible apply ev_andVT); (walk_at "ev"); (walk_at "dc"); (walk_at "ev"))
  | ((with_reducible apply ev_orVT); (walk_at "ev"); (walk_at "dc"))
  | ((with_reducible apply ev_orVF); (walk_at "ev"); (walk_at "dc"); (walk_at "ev"))
  | ((with_reducible apply ev_andV); (walk_at "ev"); intro _; (walk_at "ev"))
  | ((with_reducible apply ev_orV); (walk_at "ev"); intro _; (walk_at "ev"))
  | ((with_reducible apply ev_notV); walk_at "ev")
  | ((with_reducible apply ev_neg); (walk_at "ev"))
  | ((with_reducible apply ev_isNE); (walk_at "ev"))
  | ((with_reducible apply ev_notN); (walk_at "ev"))
  | with_reducible exact lc_T
  | with_reducible exact eo_none
  | ((with_reducible apply eo_some); (walk_at "ev"))
  | ((with_reducible apply ev_slT); (walk_at "ev"); (walk_at "ev"); (walk_at "ev"); (exact fun h => Nat.ne_of_beq_eq_false rfl h.2); first | exact cut2 | exact cut3 | rfl)
  | ((with_reducible apply ev_slL); (walk_at "ev"); (walk_at "ev"); (walk_at "ev"); rfl)
  | ((with_reducible apply ev_kd); (walk_at "ev"); assumption; assumption)
  | ((with_reducible apply ev_call); (walk_at "ev"); assumption)
  | ((with_reducible apply ev_cb); (walk_at "ev"); (walk_at "cb"))
  | ((with_reducible apply ev_isi); (walk_at "ev"); (walk_at "dc"))
  | ((with_reducible apply ev_lcM); (walk_at "ev"); (exact Nat.le_of_ble_eq_true rfl); (walk_at "pd"))
  | ((with_reducible apply ei_list); (walk_at "ev"))
  | ((with_reducible apply ei_tup); (walk_at "ev"))
  | ((with_reducible apply ei_zip); (walk_at "ev"); assumption))
local macro_rules | `(tactic| walk_at "pd") => `(tactic| first | exact Paired.nil | ((apply Paired.cons); (walk_at "lc"); (walk_at "pd")))
local macro_rules | `(tactic| walk_at "cb") => `(tactic| first
  | with_reducible exact n_lenL
  | with_reducible exact n_lenT
  | ((with_reducible apply n_lenS); assumption)
  | with_reducible exact n_intB
  | with_reducible exact n_abs
  | with_reducible exact n_min
  | with_reducible exact n_tupL
  | with_reducible exact n_lisT
  | with_reducible exact n_lisL)
local macro_rules | `(tactic| walk_at "tr") => `(tactic| first
  | ((with_reducible apply q_retF); (walk_at "ev"); (walk_at "dc"))
  | ((with_reducible apply q_retT); (walk_at "ev"); (walk_at "dc"))
  | ((with_reducible apply q_retB); (walk_at "ev"))
  | ((with_reducible apply tr_retI); (walk_at "ev"))
  | ((with_reducible apply q_par); (walk_at "ev"))
  | ((with_reducible apply q_par3); (walk_at "ev"))
  | ((with_reducible apply q_newL); intro _)
  | ((with_reducible apply q_newD); intro _)
  | ((with_reducible apply q_asgA); (walk_at "ev"); (walk_at "tg")))
local macro_rules | `(tactic| walk_at "if") => `(tactic| first
  | ((with_reducible apply q_app (k := 0)); rfl; rfl; assumption; (walk_at "ev"))
  | with_reducible apply q_as
  | with_reducible apply q_nx
  | ((with_reducible apply q_par); (walk_at "ev"))
  | ((with_reducible apply q_par3); (walk_at "ev"))
  | ((with_reducible apply q_iF); (walk_at "ev"); (walk_at "dc"))
  | ((with_reducible apply q_iT); (walk_at "ev"); (walk_at "dc"))
  | ((with_reducible apply q_i); (walk_at "ev"))
  | ((with_reducible apply q_rt); (walk_at "ev"))
  | ((with_reducible apply q_asgA); (walk_at "ev"); (walk_at "tg")))


section
variable {P : Program} {w : World} {K : PySem.W.Frag} {mg : Str → Option Value} {base : Heap}
abbrev N_stand_of : List Str := ["pages", "rows", "day", "stand", "page", "row"]
theorem sc_stand_of : FnScope N_stand_of ["pages", "rows", "day"] (defScope s_stand_of) := ⟨rfl, rfl, rfl, by decide +kernel, rfl, by decide +kernel, by decide +kernel⟩
def R_stand_of (ds : List PyData) (d : PyData) : Prop := ∃ ps rows day, List.length ps = rows.length ∧ ds = [.list (ps.map Page.d), .list (rows.map Row.d), .int day] ∧ d = (standOf ps rows day).d
theorem ok_stand_of (T : Tx w K mg) (c_arrived : Cal P w K mg base "arrived" ["stand", "day"] 1 (spD K R_arrived)) : Cal P w K mg base "stand_of" ["pages", "rows", "day"] 2 (spD K R_stand_of) := by
  refine cal_data T.d_stand_of sc_stand_of (fun _ _ _ _ _ _ us hl => match us, hl with | [_, _, _], _ => rfl) (fun ds d ⟨_, _, _, _, h1, h2⟩ => by subst h1; rfl) (fun f cdv A outer s H E hr => ⟨_,
    (pss_cons (ps_set (i := 3) sc_stand_of.nd rfl (by first | exact .inl rfl | exact .inr rfl) (pe_gr (by rfl) T.OUT))
  (pss_cons (ps_for PassesOwn.never rfl (pi_zip (by rfl) T.zip (pa_cons (pv 0) (pa_cons (pv 1) pa_nil))) (pg_tup rfl (pgs_cons (pg_name (i := 4) sc_stand_of.nd rfl (by first | exact .inl rfl | exact .inr rfl)) (pgs_cons (pg_name (i := 5) sc_stand_of.nd rfl (by first | exact .inl rfl | exact .inr rfl)) pgs_nil))) (pss_one (ps_if (pt_cmpR op_LE (pe_ix (r := rIx K) ix_seq (pv 4) pe_int (fun _ _ => rfl)) (pv 2) (nomark _)) (pss_one (ps_set (i := 3) sc_stand_of.nd rfl (by first | exact .inl rfl | exact .inr rfl) (pe_ix (r := rIx K) ix_seq (pv 5) pe_int (fun _ _ => rfl)))) pss_nil)))
  (pss_one (ps_ret (pe_cal c_arrived (hr.mono (by decide)) (by rfl) (pa_cons (pv 3) (pa_cons (pv 2) pa_nil))))))), fun ds d hR => ?_⟩)
  obtain ⟨ps, rows, day, hl, rfl, rfl⟩ := hR
  walk_at "go"
  have ro := T.rOUT
  walk_at "tr"
  refine q_forX (is := anyS) encR (ps.zip rows) (ei_zipR (by walk_at "ev") hl) (fun pre s' => ∃ c1 c2, s' = ([.val (.list (ps.map Page.d)), .val (.list (rows.map Row.d)), .val (.int day), .val (Stand.d (pre.foldl (fun s q => if q.1.day ≤ day then q.2.2.2 else s) .out)), c1, c2], [])) ⟨_, _, rfl⟩ ?_ ?_
  · rintro pre x post _ ex ⟨c1, c2, rfl⟩
    refine forI (by walk_at "tg") ?_
    refine tr_if (by walk_at "ev") ?_ ?_
    · intro q
      refine tr_asgG (is := anyS) (by walk_at "ev") (by walk_at "tg") ⟨.val x.1.d, .val x.2.d, ?_⟩
      rw [List.foldl_append, List.foldl_cons, List.foldl_nil, if_pos (of_decide_eq_true q)]
      rfl
    · intro q
      refine tr_next ⟨.val x.1.d, .val x.2.d, ?_⟩
      rw [List.foldl_append, List.foldl_cons, List.foldl_nil, if_neg (of_decide_eq_false q)]
      rfl
  · rintro s' ⟨c1, c2, rfl⟩
    have r1 : R_arrived [Stand.d ((ps.zip rows).foldl (fun s q => if q.1.day ≤ day then q.2.2.2 else s) .out), .int day] (standOf ps rows day).d := ⟨_, _, rfl, rfl⟩
    walk_at "tr"
    rfl
abbrev N_double_of : List Str := ["pages", "rows", "day", "found", "page", "row"]
theorem sc_double_of : FnScope N_double_of ["pages", "rows", "day"] (defScope s_double_of) := ⟨rfl, rfl, rfl, by decide +kernel, rfl, by decide +kernel, by decide +kernel⟩
def R_double_of (ds : List PyData) (d : PyData) : Prop := ∃ ps rows day, List.length ps = rows.length ∧ ds = [.list (ps.map Page.d), .list (rows.map Row.d), .int day] ∧ d = .bool (doubleOf ps rows day)
theorem ok_double_of (T : Tx w K mg) : Cal P w K mg base "double_of" ["pages", "rows", "day"] 1 (spD K R_double_of) := by
  refine cal_data T.d_double_of sc_double_of (fun _ _ _ _ _ _ us hl => match us, hl with | [_, _, _], _ => rfl) (fun ds d ⟨_, _, _, _, h1, h2⟩ => by subst h1; rfl) (fun f cdv A outer s H E hr => ⟨_,
    (pss_cons (ps_set (i := 3) sc_double_of.nd rfl (by first | exact .inl rfl | exact .inr rfl) pe_bl)
  (pss_cons (ps_for PassesOwn.never rfl (pi_zip (by rfl) T.zip (pa_cons (pv 0) (pa_cons (pv 1) pa_nil))) (pg_tup rfl (pgs_cons (pg_name (i := 4) sc_double_of.nd rfl (by first | exact .inl rfl | exact .inr rfl)) (pgs_cons (pg_name (i := 5) sc_double_of.nd rfl (by first | exact .inl rfl | exact .inr rfl)) pgs_nil))) (pss_one (ps_if (PW.pt (pw_and (pt_cmpR op_LE (pe_ix (r := rIx K) ix_seq (pv 4) pe_int (fun _ _ => rfl)) (pv 2) (nomark _)) (pw_and (pt_val (pe_ix (r := rIx K) ix_seq (pv 5) pe_int (fun _ _ => rfl))) (pw_and1 (pt_cmpR (r := rIN K true) op_NIN (pe_ix (r := rIx K) ix_seq (pv 4) pe_int (fun _ _ => rfl)) (pe_tup (pa_cons pe_str (pa_cons pe_str pa_nil))) rfl))))) (pss_one (ps_set (i := 3) sc_double_of.nd rfl (by first | exact .inl rfl | exact .inr rfl) (pe_cmpR (r := rEQ K) (op_EQ hr.units) (pe_ix (r := rIx K) ix_seq (pv 4) pe_int (fun _ _ => rfl)) pe_str (nomark _)))) pss_nil)))
  (pss_one (ps_ret (pv 3))))), fun ds d hR => ?_⟩)
  obtain ⟨ps, rows, day, hl, rfl, rfl⟩ := hR
  walk_at "go"
  walk_at "tr"
  refine q_forX (is := anyS) encR (ps.zip rows) (ei_zipR (by walk_at "ev") hl) (fun pre s' => ∃ c1 c2, s' = ([.val (.list (ps.map Page.d)), .val (.list (rows.map Row.d)), .val (.int day), .val (.bool (pre.foldl (fun f q => if decide (q.1.day ≤ day) && (q.2.2.1 && !q.1.isPromLoose) then q.1.isDouble else f) false)), c1, c2], [])) ⟨_, _, rfl⟩ ?_ ?_
  · rintro pre x post _ ex ⟨c1, c2, rfl⟩
    obtain ⟨p, row⟩ := x
    refine forI (by walk_at "tg") ?_
    refine tr_if (b := decide (p.day ≤ day) && (row.2.1 && !p.isPromLoose)) ?_ ?_ ?_
    · refine et_and (by walk_at "ev") fun _ => et_and (by walk_at "ev") fun _ => ?_
      cases p <;> ((apply EvT.is); (walk_at "ev"); (walk_at "bb"))
    · intro q
      refine tr_asgG (is := anyS) (d := .bool p.isDouble) ?_ (by walk_at "tg") ⟨.val p.d, .val row.d, ?_⟩
      · cases p <;> ((apply Ev.is); (walk_at "ev"); (exact congrArg PyData.bool (by walk_at "bb")))
      · rw [List.foldl_append, List.foldl_cons, List.foldl_nil, if_pos q]
        rfl
    · intro q
      refine tr_next ⟨.val p.d, .val row.d, ?_⟩
      rw [List.foldl_append, List.foldl_cons, List.foldl_nil, if_neg (by rw [q]; simp)]
      rfl
  · rintro s' ⟨c1, c2, rfl⟩
    walk_at "tr"
    rfl
def R_track_of (ds : List PyData) (d : PyData) : Prop := ∃ ps, (∀ p, p ∈ ps → Page.ok p ∧ p.rank < 9) ∧ ps.length ≤ 1000 ∧ ds = [.list (ps.map Page.d)] ∧ d = .list ((trackOf ps).map Row.d)
theorem pagesOf_ok {b : Book} {t : Str} (hb : b.ok) : (∀ p, p ∈ pagesOf b.pages t → Page.ok p ∧ p.rank < 9) ∧ (pagesOf b.pages t).length ≤ 1000 := by
  refine ⟨fun p hp => ⟨hb.pages p (List.mem_filter.mp hp).1, ?_⟩, Nat.le_trans (List.length_filter_le _ _) (Nat.le_trans hb.few (by decide))⟩
  have h := (List.mem_filter.mp hp).2
  cases p <;> simp [ofThing, Page.things, looseIn] at h <;> simp [Page.rank]
abbrev N_track : List Str := ["book", "thing"]
theorem sc_track : FnScope N_track ["book", "thing"] (defScope s_track) := ⟨rfl, rfl, rfl, by decide +kernel, rfl, by decide +kernel, by decide +kernel⟩
def R_track (ds : List PyData) (d : PyData) : Prop := ∃ b t, b.ok ∧ okS t ∧ ds = [Book.d b, .str t] ∧ d = .list ((track b t).map Row.d)
theorem ok_track (T : Tx w K mg) (c_pages_of : Cal P w K mg base "pages_of" ["book", "thing"] 2 (spD K R_pages_of)) (c_track_of : Cal P w K mg base "track_of" ["pages"] 5 (spD K R_track_of)) : Cal P w K mg base "track" ["book", "thing"] 6 (spD K R_track) := by
  refine cal_data T.d_track sc_track (fun _ _ _ _ _ _ us hl => match us, hl with | [_, _], _ => rfl) (fun ds d ⟨_, _, _, _, h1, h2⟩ => by subst h1; rfl) (fun f cdv A outer s H E hr => ⟨_,
    (pss_one (ps_ret (pe_cal c_track_of (hr.mono (by decide)) (by rfl) (pa_cons (pe_cal c_pages_of (hr.mono (by decide)) (by rfl) (pa_cons (pv 0) (pa_cons (pv 1) pa_nil))) pa_nil)))), fun ds d hR => ?_⟩)
  obtain ⟨b, t, hb, ht, rfl, rfl⟩ := hR
  walk_at "go"
  have r1 : R_pages_of [Book.d b, .str t] (.list ((pagesOf b.pages t).map Page.d)) := ⟨b, t, hb, ht, rfl, rfl⟩
  have r2 : R_track_of [.list ((pagesOf b.pages t).map Page.d)] (.list ((trackOf (pagesOf b.pages t)).map Row.d)) := ⟨_, (pagesOf_ok hb).1, (pagesOf_ok hb).2, rfl, rfl⟩
  walk_at "tr"
  rfl
abbrev N_where : List Str := ["book", "thing", "day", "pages"]
theorem sc_where : FnScope N_where ["book", "thing", "day"] (defScope s_where) := ⟨rfl, rfl, rfl, by decide +kernel, rfl, by decide +kernel, by decide +kernel⟩
def R_where (ds : List PyData) (d : PyData) : Prop := ∃ b t day, b.ok ∧ okS t ∧ ds = [Book.d b, .str t, .int day] ∧ d = (standOf (pagesOf b.pages t) (track b t) day).d
theorem ok_where (T : Tx w K mg) (c_pages_of : Cal P w K mg base "pages_of" ["book", "thing"] 2 (spD K R_pages_of)) (c_track_of : Cal P w K mg base "track_of" ["pages"] 5 (spD K R_track_of))
    (c_stand_of : Cal P w K mg base "stand_of" ["pages", "rows", "day"] 2 (spD K R_stand_of)) : Cal P w K mg base "where" ["book", "thing", "day"] 6 (spD K R_where) := by
  refine cal_data T.d_where sc_where (fun _ _ _ _ _ _ us hl => match us, hl with | [_, _, _], _ => rfl) (fun ds d ⟨_, _, _, _, _, h1, h2⟩ => by subst h1; rfl) (fun f cdv A outer s H E hr => ⟨_,
    (pss_cons (ps_set (i := 3) sc_where.nd rfl (by first | exact .inl rfl | exact .inr rfl) (pe_cal c_pages_of (hr.mono (by decide)) (by rfl) (pa_cons (pv 0) (pa_cons (pv 1) pa_nil))))
  (pss_one (ps_ret (pe_cal c_stand_of (hr.mono (by decide)) (by rfl) (pa_cons (pv 3) (pa_cons (pe_cal c_track_of (hr.mono (by decide)) (by rfl) (pa_cons (pv 3) pa_nil)) (pa_cons (pv 2) pa_nil))))))), fun ds d hR => ?_⟩)
  obtain ⟨b, t, day, hb, ht, rfl, rfl⟩ := hR
  walk_at "go"
  have r1 : R_pages_of [Book.d b, .str t] (.list ((pagesOf b.pages t).map Page.d)) := ⟨b, t, hb, ht, rfl, rfl⟩
  have r2 : R_track_of [.list ((pagesOf b.pages t).map Page.d)] (.list ((trackOf (pagesOf b.pages t)).map Row.d)) := ⟨_, (pagesOf_ok hb).1, (pagesOf_ok hb).2, rfl, rfl⟩
  have r3 : R_stand_of [.list ((pagesOf b.pages t).map Page.d), .list ((trackOf (pagesOf b.pages t)).map Row.d), .int day] (standOf (pagesOf b.pages t) (trackOf (pagesOf b.pages t)) day).d := ⟨_, _, _, track_len _, rfl, rfl⟩
  walk_at "tr"
  walk_at "tr"
  rfl
abbrev N_is_double : List Str := ["book", "thing", "day", "pages"]
theorem sc_is_double : FnScope N_is_double ["book", "thing", "day"] (defScope s_is_double) := ⟨rfl, rfl, rfl, by decide +kernel, rfl, by decide +kernel, by decide +kernel⟩
def R_is_double (ds : List PyData) (d : PyData) : Prop := ∃ b t day, b.ok ∧ okS t ∧ ds = [Book.d b, .str t, .int day] ∧ d = .bool (doubleOf (pagesOf b.pages t) (track b t) day)
theorem ok_is_double (T : Tx w K mg) (c_pages_of : Cal P w K mg base "pages_of" ["book", "thing"] 2 (spD K R_pages_of)) (c_track_of : Cal P w K mg base "track_of" ["pages"] 5 (spD K R_track_of))
    (c_double_of : Cal P w K mg base "double_of" ["pages", "rows", "day"] 1 (spD K R_double_of)) : Cal P w K mg base "is_double" ["book", "thing", "day"] 6 (spD K R_is_double) := by
  refine cal_data T.d_is_double sc_is_double (fun _ _ _ _ _ _ us hl => match us, hl with | [_, _, _], _ => rfl) (fun ds d ⟨_, _, _, _, _, h1, h2⟩ => by subst h1; rfl) (fun f cdv A outer s H E hr => ⟨_,
    (pss_cons (ps_set (i := 3) sc_is_double.nd rfl (by first | exact .inl rfl | exact .inr rfl) (pe_cal c_pages_of (hr.mono (by decide)) (by rfl) (pa_cons (pv 0) (pa_cons (pv 1) pa_nil))))
  (pss_one (ps_ret (pe_cal c_double_of (hr.mono (by decide)) (by rfl) (pa_cons (pv 3) (pa_cons (pe_cal c_track_of (hr.mono (by decide)) (by rfl) (pa_cons (pv 3) pa_nil)) (pa_cons (pv 2) pa_nil))))))), fun ds d hR => ?_⟩)
  obtain ⟨b, t, day, hb, ht, rfl, rfl⟩ := hR
  walk_at "go"
  have r1 : R_pages_of [Book.d b, .str t] (.list ((pagesOf b.pages t).map Page.d)) := ⟨b, t, hb, ht, rfl, rfl⟩
  have r2 : R_track_of [.list ((pagesOf b.pages t).map Page.d)] (.list ((trackOf (pagesOf b.pages t)).map Row.d)) := ⟨_, (pagesOf_ok hb).1, (pagesOf_ok hb).2, rfl, rfl⟩
  have r3 : R_double_of [.list ((pagesOf b.pages t).map Page.d), .list ((trackOf (pagesOf b.pages t)).map Row.d), .int day] (.bool (doubleOf (pagesOf b.pages t) (trackOf (pagesOf b.pages t)) day)) := ⟨_, _, _, track_len _, rfl, rfl⟩
  walk_at "tr"
  walk_at "tr"
  rfl
abbrev N_kind_of : List Str := ["book", "thing", "page"]
theorem sc_kind_of : FnScope N_kind_of ["book", "thing"] (defScope s_kind_of) := ⟨rfl, rfl, rfl, by decide +kernel, rfl, by decide +kernel, by decide +kernel⟩
def R_kind_of (ds : List PyData) (d : PyData) : Prop := ∃ b t, b.ok ∧ okS t ∧ ds = [Book.d b, .str t] ∧ d = ownD (kindOf (pagesOf b.pages t))
theorem ok_kind_of (T : Tx w K mg) (c_pages_of : Cal P w K mg base "pages_of" ["book", "thing"] 2 (spD K R_pages_of)) : Cal P w K mg base "kind_of" ["book", "thing"] 3 (spD K R_kind_of) := by
  refine cal_data T.d_kind_of sc_kind_of (fun _ _ _ _ _ _ us hl => match us, hl with | [_, _], _ => rfl) (fun ds d ⟨_, _, _, _, h1, h2⟩ => by subst h1; rfl) (fun f cdv A outer s H E hr => ⟨_,
    (pss_cons (ps_for PassesOwn.never rfl (pi_list (pe_cal c_pages_of (hr.mono (by decide)) (by rfl) (pa_cons (pv 0) (pa_cons (pv 1) pa_nil)))) (pg_name (i := 2) sc_kind_of.nd rfl (by first | exact .inl rfl | exact .inr rfl)) (pss_one (ps_if (pt_cmpR (r := rEQ K) (op_EQ hr.units) (pe_ix (r := rIx K) ix_seq (pv 2) pe_int (fun _ _ => rfl)) pe_str (nomark _)) (pss_one (ps_ret (pe_ix (r := rIx K) ix_seq (pv 2) pe_int (fun _ _ => rfl)))) pss_nil)))
  (pss_one (ps_ret pe_non))), fun ds d hR => ?_⟩)
  obtain ⟨b, t, hb, ht, rfl, rfl⟩ := hR
  walk_at "go"
  have r1 : R_pages_of [Book.d b, .str t] (.list ((pagesOf b.pages t).map Page.d)) := ⟨b, t, hb, ht, rfl, rfl⟩
  refine q_forX (is := anyS) Page.d (pagesOf b.pages t) (by walk_at "ev") (fun pre s' => ∃ c, s' = ([.val b.d, .val (.str t), c], []) ∧ kindOf pre = none) ⟨_, rfl, rfl⟩ ?_ ?_
  · rintro pre x post _ ex ⟨c, rfl, hk⟩
    refine forI (by walk_at "tg") ?_
    have ek : ∀ (l : List Page) (r : List Page), kindOf l = none → kindOf (l ++ r) = kindOf r := by
      intro l
      induction l with
      | nil => intro r _; rfl
      | cons y l ih =>
        intro r h
        cases y with
        | comes => simp [kindOf] at h
        | _ => exact ih r h
    have e2 : kindOf (pagesOf b.pages t) = kindOf (x :: post) := by rw [ex]; exact ek pre _ hk
    cases x
    case comes n e t' k h =>
      refine tr_if (by walk_at "ev") (fun _ => ?_) fun q => absurd q (by decide +kernel)
      walk_at "tr"
      rw [e2]
      rfl
    all_goals (refine tr_if (by walk_at "ev") (fun q => absurd q (by decide +kernel)) fun _ => tr_next ⟨_, rfl, by rw [ek pre _ hk]; rfl⟩)
  · rintro s' ⟨c, rfl, hk⟩
    walk_at "tr"
    rw [hk]
    rfl
end
end K92
end
section -- K92G
set_option maxRecDepth 100000
set_option maxHeartbeats 1000000
/-! The class of the tracks: its instance is kept by the run that made it. -/
namespace K92
open PySem PySem.Spec PyProof.Rows L2
def GFd (sd cb : PyData) (pc : Cell) : List (Str × Cell) := [("stand", .val sd), ("has_come", .val cb), ("promised", pc)]
abbrev GF (g : Gst) (pd : Addr) : List (Str × Cell) := GFd g.stand.d (.bool g.come) (.ref pd)
theorem lk_stand {a b : PyData} {c : Cell} : (GFd a b c).lookup ("stand" : Str) = some (.val a) := rfl
theorem lk_come {a b : PyData} {c : Cell} : (GFd a b c).lookup ("has_come" : Str) = some (.val b) := rfl
theorem lk_prom {a b : PyData} {c : Cell} : (GFd a b c).lookup ("promised" : Str) = some c := rfl
theorem pu_stand {a b d : PyData} {c : Cell} : putC "stand" (.val d) (GFd a b c) = GFd d b c := rfl
theorem pu_come {a b d : PyData} {c : Cell} : putC "has_come" (.val d) (GFd a b c) = GFd a d c := rfl
theorem pu_prom {a b : PyData} {c c' : Cell} : putC "promised" c' (GFd a b c) = GFd a b c' := rfl
def promD (l : List (Str × Int)) : List (PyData × PyData) := l.map fun q => (.str q.1, .int q.2)
theorem prom_put : ∀ {l : List (Str × Int)} {k : Str} {v : Int}, putE (promD l) k (.int v) = promD (putP l k v)
  | [], _, _ => rfl
  | (j, e) :: r, k, v => by
    have ih := prom_put (l := r) (k := k) (v := v)
    show (if j = k then _ else _) = promD (if j = k then _ else _)
    by_cases h : j = k
    · rw [if_pos h, if_pos h]; rfl
    · rw [if_neg h, if_neg h]
      show _ :: putE (promD r) k (.int v) = _ :: promD (putP r k v)
      rw [ih]
theorem prom_get : ∀ {l : List (Str × Int)} {k : Str}, getE (promD l) k = (getP l k).map .int
  | [], _ => rfl
  | (j, e) :: r, k => by
    have ih := prom_get (l := r) (k := k)
    show (if j = k then _ else _) = Option.map PyData.int (if j = k then _ else _)
    by_cases h : j = k
    · rw [if_pos h, if_pos h]; rfl
    · rw [if_neg h, if_neg h]
      exact ih
theorem prom_drop : ∀ {l : List (Str × Int)} {k : Str}, dropE (promD l) k = promD (dropP l k)
  | [], _ => rfl
  | (j, e) :: r, k => by
    have ih := prom_drop (l := r) (k := k)
    unfold dropE promD dropP at ih ⊢
    rw [List.map_cons, List.filter_cons, List.filter_cons]
    by_cases h : decide (j ≠ k) = true
    · rw [if_pos h, if_pos h, List.map_cons, ih]
    · rw [if_neg h, if_neg h, ih]
theorem putP_len : ∀ {l : List (Str × Int)} {k : Str} {v : Int}, (putP l k v).length ≤ l.length + 1
  | [], _, _ => Nat.le_refl _
  | (j, e) :: r, k, v => by
    have ih := putP_len (l := r) (k := k) (v := v)
    unfold putP
    split
    · simp
    · simp only [List.length_cons]; omega
theorem nd_of {α : Type} {L : List α} (h : ∀ (i l : Nat) (x : α), L[i]? = some x → L[l]? = some x → i = l) : L.Nodup := by
  refine List.pairwise_iff_getElem.mpr fun i j hi hj hij e => ?_
  have h1 : L[i]? = some L[i] := List.getElem?_eq_getElem hi
  have h2 : L[j]? = some L[i] := by rw [List.getElem?_eq_getElem hj, e]
  exact absurd (h i j _ h1 h2) (Nat.ne_of_lt hij)
def era2 (H : Hp) (a b : Addr) : Hp := fun p => if p = a ∨ p = b then none else H p
theorem era2_some {H : Hp} {a b p : Addr} {o : HO} (h : era2 H a b p = some o) : H p = some o ∧ p ≠ a ∧ p ≠ b := by
  unfold era2 at h
  by_cases q : p = a ∨ p = b
  · rw [if_pos q] at h; cases h
  · rw [if_neg q] at h
    exact ⟨h, fun e => q (.inl e), fun e => q (.inr e)⟩
theorem era2_ne {H : Hp} {a b p : Addr} (h1 : p ≠ a) (h2 : p ≠ b) : era2 H a b p = H p := if_neg fun q => q.elim h1 h2
theorem era2_a {H : Hp} {a b : Addr} : era2 H a b a = none := if_pos (.inl rfl)
theorem era2_b {H : Hp} {a b : Addr} : era2 H a b b = none := if_pos (.inr rfl)
/-- what a method finds and leaves -/
structure GAt (K : PySem.W.Frag) (G dx a pd : Addr) (g : Gst) (B H : Hp) : Prop where
  ba : B a = none
  bp : B pd = none
  ne : a ≠ pd
  oa : OcR K B H a (.ins G dx (GF g pd))
  op : OcR K B H pd (.dic (promD g.prom))
def spG (K : PySem.W.Frag) (G : Addr) (R : List PyData → Gst → PyData → Gst → Prop) : Sp := fun vs H Q _ => ∃ B a dx pd us ds g d g', vs = .ref a :: us ∧ RpAll K B us ds ∧ Ex B H ∧ GAt K G dx a pd g B H ∧ R ds g d g' ∧
  ∀ v pd' B' H', Gr C0 B (era2 H a pd) B' H' → Rp K B' v d → (pd' = pd ∨ H pd' = none) → GAt K G dx a pd' g' B' H' → Q v H'
section
variable {K : PySem.W.Frag} {B0 H0 B H B' H' : Hp} {s : S} {σ : L2.St} {G dx a pd pd' : Addr} {g g' : Gst} {k j : Nat}
theorem sr_start {us : List V} {cs : List Cell} {N : List Str} (e : Ex B H) (x : GAt K G dx a pd g B H) (r : Paired (fun c v => CellR K B c (some (some v))) cs us) :
    SR C0 K B (era2 H a pd) (startC N.length cs, [(a, .ins G dx (GF g pd)), (pd, .dic (promD g.prom))]) (L2.start N us) B H := by
  refine ⟨⟨⟨fun p o h => ?_, trivial, trivial, fun _ h => h.elim⟩, Ex.refl B, on0 e, fun p o _ h1 h2 => ⟨h1, (era2_some h2).1⟩⟩, envR_start' r, fun c hc => ?_, ?_⟩
  · rw [era2_ne (fun z => by rw [z, x.ba] at h; cases h) (fun z => by rw [z, x.bp] at h; cases h)]
    exact e p o h
  · rcases List.mem_cons.mp hc with z | hc
    · subst z; exact ⟨era2_a, x.ba, x.oa⟩
    · rcases List.mem_cons.mp hc with z | hc
      · subst z; exact ⟨era2_b, x.bp, x.op⟩
      · cases hc
  · simp [x.ne]
theorem SR.gat (x : SR C0 K B0 H0 s σ B H) (hk : s.2[k]? = some (a, .ins G dx (GF g pd))) (hj : s.2[j]? = some (pd, .dic (promD g.prom))) : GAt K G dx a pd g B H := by
  obtain ⟨h1, h2, h3⟩ := x.own _ (List.mem_of_getElem? hk)
  obtain ⟨h4, h5, h6⟩ := x.own _ (List.mem_of_getElem? hj)
  refine ⟨h2, h5, fun e => ?_, h3, h6⟩
  obtain ⟨v1, q1, _⟩ := h3
  obtain ⟨v2, q2, _⟩ := h6
  have e' : a = pd := e
  rw [← e', q1] at q2
  cases q2
/-- behind a method -/
theorem SR.callG (x : SR C0 K B0 H0 s σ B H) (hk : s.2[k]? = some (a, .ins G dx (GF g pd))) (hj : s.2[j]? = some (pd, .dic (promD g.prom))) (gr : Gr C0 B (era2 H a pd) B' H') (hp : pd' = pd ∨ H pd' = none) (y : GAt K G dx a pd' g' B' H') :
    SR C0 K B0 H0 (s.1, (s.2.set k (a, .ins G dx (GF g' pd'))).set j (pd', .dic (promD g'.prom))) σ B' H' := by
  obtain ⟨a1, a2, a3⟩ := x.own _ (List.mem_of_getElem? hk)
  obtain ⟨b1, b2, b3⟩ := x.own _ (List.mem_of_getElem? hj)
  have ne := (x.gat hk hj).ne
  have kj : k ≠ j := fun e => by rw [e, hj] at hk; cases hk
  have hkl := (List.getElem?_eq_some_iff.mp hk).1
  have hjl := (List.getElem?_eq_some_iff.mp hj).1
  have h0p : H0 pd' = none := by
    rcases hp with e | e
    · rw [e]; exact b1
    · exact x.h0 e
  have eix : ∀ i, ((s.2.set k (a, Oc.ins G dx (GF g' pd'))).set j (pd', Oc.dic (promD g'.prom)))[i]? = if i = j then some (pd', Oc.dic (promD g'.prom)) else if i = k then some (a, Oc.ins G dx (GF g' pd')) else s.2[i]? := by
    intro i
    by_cases e1 : i = j
    · rw [if_pos e1, e1, List.getElem?_set_self (by rw [List.length_set]; exact hjl)]
    · rw [if_neg e1, List.getElem?_set_ne (fun z => e1 z.symm)]
      by_cases e2 : i = k
      · rw [if_pos e2, e2, List.getElem?_set_self hkl]
      · rw [if_neg e2, List.getElem?_set_ne (fun z => e2 z.symm)]
  have oth : ∀ (i : Nat) (c : Addr × Oc), i ≠ j → i ≠ k → s.2[i]? = some c → c.1 ≠ a ∧ c.1 ≠ pd := by
    intro i c e1 e2 hc
    constructor
    · intro z
      have q1 : (s.2.map (·.1))[i]? = some a := by rw [List.getElem?_map, hc]; exact congrArg some z
      have q2 : (s.2.map (·.1))[k]? = some a := by rw [List.getElem?_map, hk]; rfl
      exact e2 (nd_ix x.nd q1 q2)
    · intro z
      have q1 : (s.2.map (·.1))[i]? = some pd := by rw [List.getElem?_map, hc]; exact congrArg some z
      have q2 : (s.2.map (·.1))[j]? = some pd := by rw [List.getElem?_map, hj]; rfl
      exact e1 (nd_ix x.nd q1 q2)
  have keep : ∀ (i : Nat) (c : Addr × Oc), i ≠ j → i ≠ k → s.2[i]? = some c → H0 c.1 = none ∧ B' c.1 = none ∧ OcR K B' H' c.1 c.2 := by
    intro i c e1 e2 hc
    obtain ⟨n1, n2⟩ := oth i c e1 e2 hc
    obtain ⟨c1, c2, c3⟩ := x.own _ (List.mem_of_getElem? hc)
    obtain ⟨o, ho⟩ := c3.there
    have he : era2 H a pd c.1 = some o := by rw [era2_ne n1 n2]; exact ho
    refine ⟨c1, (gr.own _ _ (fun z => z) c2 he).1, c3.step gr.bb fun z hz => (gr.own _ _ (fun z => z) c2 (by rw [era2_ne n1 n2]; exact hz)).2⟩
  refine ⟨⟨x.g.on0, x.g.bb.trans gr.bb, gr.on, fun p o _ h1 h2 => ?_⟩, x.env.mono gr.bb, fun c hc => ?_, ?_⟩
  · obtain ⟨h3, h4⟩ := x.g.own p o (fun z => z) h1 h2
    have pa : p ≠ a := fun z => by rw [z, a1] at h2; cases h2
    have pp : p ≠ pd := fun z => by rw [z, b1] at h2; cases h2
    exact gr.own p o (fun z => z) h3 (by rw [era2_ne pa pp]; exact h4)
  · obtain ⟨i, hi, e⟩ := List.mem_iff_getElem.mp hc
    have e' : ((s.2.set k (a, Oc.ins G dx (GF g' pd'))).set j (pd', Oc.dic (promD g'.prom)))[i]? = some c := by rw [List.getElem?_eq_getElem hi, e]
    rw [eix] at e'
    by_cases e1 : i = j
    · rw [if_pos e1] at e'
      cases e'
      exact ⟨h0p, y.bp, y.op⟩
    · rw [if_neg e1] at e'
      by_cases e2 : i = k
      · rw [if_pos e2] at e'
        cases e'
        exact ⟨a1, y.ba, y.oa⟩
      · rw [if_neg e2] at e'
        exact keep i c e1 e2 e'
  · have far : ∀ (i : Nat) (c : Addr × Oc), i ≠ j → i ≠ k → s.2[i]? = some c → c.1 ≠ pd' := by
      intro i c e1 e2 hc z
      rcases hp with e | e
      · exact (oth i c e1 e2 hc).2 (z.trans e)
      · exact x.notin e c (List.mem_of_getElem? hc) z
    refine nd_of fun i l q hi hl => ?_
    rw [List.getElem?_map, eix] at hi hl
    by_cases e1 : i = j
    · rw [if_pos e1] at hi
      have q1 : q = pd' := (Option.some.inj hi).symm
      by_cases e2 : l = j
      · rw [e1, e2]
      · rw [if_neg e2] at hl
        by_cases e3 : l = k
        · rw [if_pos e3] at hl
          have q2 : q = a := (Option.some.inj hl).symm
          exact absurd (q2.symm.trans q1) y.ne
        · rw [if_neg e3] at hl
          obtain ⟨c, hc, ec⟩ := Option.map_eq_some_iff.mp hl
          exact absurd (ec.trans q1) (far l c e2 e3 hc)
    · rw [if_neg e1] at hi
      by_cases e2 : i = k
      · rw [if_pos e2] at hi
        have q1 : q = a := (Option.some.inj hi).symm
        by_cases e3 : l = j
        · rw [if_pos e3] at hl
          have q2 : q = pd' := (Option.some.inj hl).symm
          exact absurd (q1.symm.trans q2) y.ne
        · rw [if_neg e3] at hl
          by_cases e4 : l = k
          · rw [e2, e4]
          · rw [if_neg e4] at hl
            obtain ⟨c, hc, ec⟩ := Option.map_eq_some_iff.mp hl
            exact absurd (ec.trans q1) (oth l c e3 e4 hc).1
      · rw [if_neg e2] at hi
        obtain ⟨c, hc, ec⟩ := Option.map_eq_some_iff.mp hi
        by_cases e3 : l = j
        · rw [if_pos e3] at hl
          have q2 : q = pd' := (Option.some.inj hl).symm
          exact absurd (ec.trans q2) (far i c e1 e2 hc)
        · rw [if_neg e3] at hl
          by_cases e4 : l = k
          · rw [if_pos e4] at hl
            have q2 : q = a := (Option.some.inj hl).symm
            exact absurd (ec.trans q2) (oth i c e1 e2 hc).1
          · rw [if_neg e4] at hl
            obtain ⟨c2, hc2, ec2⟩ := Option.map_eq_some_iff.mp hl
            have q1 : (s.2.map (·.1))[i]? = some q := by rw [List.getElem?_map, hc]; exact congrArg some ec
            have q2 : (s.2.map (·.1))[l]? = some q := by rw [List.getElem?_map, hc2]; exact congrArg some ec2
            exact nd_ix x.nd q1 q2
end
section
variable {K : PySem.W.Frag} {s : S} {N : S → Prop} {R : PyData → Prop} {RK : Cell → S → Prop} {RG : List PyData → Gst → PyData → Gst → Prop} {G dx a pd : Addr} {g g' : Gst} {k j i m : Nat} {ta : TA} {tz : TS} {ds : List PyData} {d : PyData} {E : XK} {mt : Str}
theorem k_retG (hi : s.1[i]? = some (.ref a)) (hk : s.2[k]? = some (a, .ins G dx (GF g pd))) (hj : s.2[j]? = some (pd, .dic (promD g.prom))) (hm : (["stand", "has_come", "promised"] : List Str).contains mt = false) (h : EvAS C0 K s ta (Eq ds)) (hR : RG ds g d g')
    (kk : ∀ pd', RK (.val d) (s.1, (s.2.set k (a, .ins G dx (GF g' pd'))).set j (pd', .dic (promD g'.prom)))) : TrK C0 K s (tRet (tMeth G mt (spG K G RG) [] E (tVar i) ta)) N RK := fun B0 H0 D σ B H x n r => by
  obtain ⟨_, _, vs, h3, h4⟩ := x.own _ (List.mem_of_getElem? hk)
  refine ⟨.ref a, x.env.ref hi, a, dx, vs, rfl, h3, lookup_none (by rw [FsR.names h4]; exact hm), ?_⟩
  refine h B0 H0 σ B H x _ fun ds' us B1 H1 p1 g1 r1 => ?_
  subst p1
  have y := x.step g1
  show spG K G RG (.ref a :: (us ++ [])) H1 _ E
  rw [List.append_nil]
  refine ⟨B1, a, dx, pd, us, _, g, d, g', rfl, r1, g1.on.ex, y.gat hk hj, hR, fun v pd' B' H' gr rv hp ya => ?_⟩
  exact r _ v _ σ B' H' (kk pd') (g1.bb.trans gr.bb) (y.callG hk hj gr hp ya) ⟨v, rfl, rv⟩
theorem k_sretG (hi : s.1[i]? = some (.ref a)) (hk : s.2[k]? = some (a, .ins G dx (GF g pd))) (hj : s.2[j]? = some (pd, .dic (promD g.prom))) (hm : (["stand", "has_come", "promised"] : List Str).contains mt = false) (h : EvAS C0 K s ta (Eq ds)) (hR : RG ds g d g')
    (kk : ∀ pd', RK (.val d) (s.1, (s.2.set k (a, .ins G dx (GF g' pd'))).set j (pd', .dic (promD g'.prom)))) : TrK C0 K s (tSeq (tRet (tMeth G mt (spG K G RG) [] E (tVar i) ta)) tz) N RK := fun B0 H0 D σ B H x n r => k_retG (N := N) hi hk hj hm h hR kk B0 H0 D σ B H x n r
theorem q_methG (hi : s.1[i]? = some (.ref a)) (hk : s.2[k]? = some (a, .ins G dx (GF g pd))) (hj : s.2[j]? = some (pd, .dic (promD g.prom))) (hm : (["stand", "has_come", "promised"] : List Str).contains mt = false) (h : EvA C0 K ta s.1 (Eq ds)) (hR : RG ds g d g')
    (kk : ∀ pd', Tr C0 K tz (s.1.set m (.val d), (s.2.set k (a, .ins G dx (GF g' pd'))).set j (pd', .dic (promD g'.prom))) N R) : Tr C0 K (tSeq (tAsg (tMeth G mt (spG K G RG) [] E (tVar i) ta) (gName m)) tz) s N R := fun B0 H0 D σ B H x n r => by
  obtain ⟨_, _, vs, h3, h4⟩ := x.own _ (List.mem_of_getElem? hk)
  refine ⟨.ref a, x.env.ref hi, a, dx, vs, rfl, h3, lookup_none (by rw [FsR.names h4]; exact hm), ?_⟩
  refine h σ B H x.env x.g.on _ fun ds' us B1 H1 p1 g1 r1 => ?_
  subst p1
  have y := x.step g1
  show spG K G RG (.ref a :: (us ++ [])) H1 _ E
  rw [List.append_nil]
  refine ⟨B1, a, dx, pd, us, _, g, d, g', rfl, r1, g1.on.ex, y.gat hk hj, hR, fun v pd' B' H' gr rv hp ya => ?_⟩
  have z := y.callG hk hj gr hp ya
  exact kk pd' B0 H0 D _ B' H' (z.envOf (z.env.setV rv)) (fun s2 σ2 B3 H3 p3 e3 x3 => n s2 σ2 B3 H3 p3 ((g1.bb.trans gr.bb).trans e3) x3) r
end
/-- C(): a new instance that the run keeps -/
def spI (K : PySem.W.Frag) (G : Addr) : Sp := fun vs H Q _ => ∃ B a dx, vs = [.ref a] ∧ Ex B H ∧ B a = none ∧ H a = some (.ins G dx []) ∧
  ∀ pd B' H', Gr C0 B (era2 H a a) B' H' → H pd = none → GAt K G dx a pd Gst.new B' H' → Q .non H'
section
variable {K : PySem.W.Frag} {s : S} {N : S → Prop} {R : PyData → Prop} {G : Addr} {m : Nat} {tz : TS} {E : XK}
theorem q_makeG (kk : ∀ a dx pd, Tr C0 K tz (s.1.set m (.ref a), (a, .ins G dx (GF Gst.new pd)) :: (pd, .dic (promD Gst.new.prom)) :: s.2) N R) : Tr C0 K (tSeq (tAsg (tMake G (spI K G) [] E tNil) (gName m)) tz) s N R := fun B0 H0 D σ B H x n r => by
  intro a dx ha hdx hne
  have g1 := Gr.newO x.g.on (.own a) hdx
  have x1 := x.step g1
  have ha1 : upd H dx (.own a) a = none := by rw [upd_ne (fun z => hne z.symm)]; exact ha
  show spI K G (.ref a :: ([] ++ [])) _ _ E
  refine ⟨B, a, dx, rfl, ?_, x.g.on.ex.none ha, upd_same, fun pd B' H' gr hpd y => ⟨rfl, ?_⟩⟩
  · exact x1.g.on.ex.trans (Ex.new ha1)
  have n0 : pd ≠ a := fun e => by rw [e, upd_same] at hpd; cases hpd
  have hpd1 : upd H dx (.own a) pd = none := by rw [upd_ne n0] at hpd; exact hpd
  have er : ∀ p o, upd H dx (.own a) p = some o → era2 (upd (upd H dx (.own a)) a (.ins G dx [])) a a p = some o := by
    intro p o h
    have pa : p ≠ a := fun z => by rw [z, ha1] at h; cases h
    rw [era2_ne pa pa, upd_ne pa]
    exact h
  have g2 : Gr C0 B (upd H dx (.own a)) B' H' := ⟨on0 x1.g.on.ex, gr.bb, gr.on, fun p o _ h1 h2 => gr.own p o (fun z => z) h1 (er p o h2)⟩
  have x2 := x1.step g2
  have k1 := x2.keep (p := pd) (c := .dic (promD Gst.new.prom)) (x1.h0 hpd1) y.bp (x1.notin hpd1) y.op
  have k2 := k1.keep (p := a) (c := .ins G dx (GF Gst.new pd)) (x1.h0 ha1) y.ba (fun c' hc => by
    rcases List.mem_cons.mp hc with e | hc
    · rw [e]; exact n0
    · exact x1.notin ha1 c' hc) y.oa
  exact kk a dx pd B0 H0 D _ B' H' (k2.envOf k2.env.setR) (fun s2 σ2 B3 H3 p3 e3 x3 => n s2 σ2 B3 H3 p3 (gr.bb.trans e3) x3) r
end
section
variable {P : Program} {w : World} {K : PySem.W.Frag} {mg : Str → Option Value} {base : Heap} {x qual : Str} {params : Arguments} {body : List Stmt} {scope : Scope} {f : Addr} {fd : FuncData} {N ps : List Str} {k : Nat} {RG : List PyData → Gst → PyData → Gst → Prop} {G : Addr}
/-- a method on an instance that the caller keeps -/
theorem fn_meth (F : FunD K x qual params body scope [] [] f fd) (Sc : FnScope N ps scope) (len : ∀ ds g d g', RG ds g d g' → ds.length + 1 = ps.length)
    (hb : ∀ (cdv : Value) (A : Around) (outer : List Env) (s : Shared) (H : Hp) (E : XK), Room k (A.deeper (envOfC qual scope s.heap.objs.size f cdv)) →
      ∃ t, PSs (cxOf CX0 P w K mg base N qual scope f cdv A outer s H E).nox body t ∧ ∀ a dx pd ds g d g', RG ds g d g' → TrK C0 K (startC N.length (.ref a :: ds.map Cell.val), [(a, .ins G dx (GF g pd)), (pd, .dic (promD g.prom))]) t (fun _ => False)
        (fun c s' => c = .val d ∧ ∃ (k' j' : Nat) (pd' : Addr), s'.2[k']? = some (a, Oc.ins G dx (GF g' pd')) ∧ s'.2[j']? = some (pd', Oc.dic (promD g'.prom)))) : FnOk P w K mg base CX0 (k + 1) f fd ps (spG K G RG) := by
  refine F.ok Sc (fun vs H Q E ⟨B, a, dx, pd, us, ds, g, d, g', e, r, _, _, hR, _⟩ => by rw [e, List.length_cons, r.length]; exact len ds g d g' hR) fun cdv A outer s H vs Q E hr ⟨B, a, dx, pd, us, ds, g, d, g', e, r, ex, ga, hR, q⟩ => ?_
  subst e
  obtain ⟨t, h1, h2⟩ := hb cdv A outer s H E hr
  refine ⟨t, h1.nox, ?_⟩
  refine h2 a dx pd ds g d g' hR B _ _ _ B H (sr_start ex ga (.cons rfl (paired_vals r))) (fun s' σ' B' H' hn _ x' => hn.elim) fun c v s' σ' B' H' ⟨hc, k', j', pd', hk, hj⟩ _ x' r' => ?_
  subst hc
  obtain ⟨v', e1, rv⟩ := r'
  cases e1
  have gy := x'.gat hk hj
  have h0 := (x'.own _ (List.mem_of_getElem? hj)).1
  refine q v pd' B' H' x'.g rv ?_ gy
  by_cases e : pd' = pd
  · exact .inl e
  · right
    have h0' : era2 H a pd pd' = none := h0
    rwa [era2_ne (fun z => gy.ne z.symm) e] at h0'
theorem fn_init (F : FunD K x qual params body scope [] [] f fd) (Sc : FnScope N ["self"] scope)
    (hb : ∀ (cdv : Value) (A : Around) (outer : List Env) (s : Shared) (H : Hp) (E : XK), Room k (A.deeper (envOfC qual scope s.heap.objs.size f cdv)) →
      ∃ t, PSs (cxOf CX0 P w K mg base N qual scope f cdv A outer s H E).nox body t ∧ ∀ a dx, TrK C0 K (startC N.length [.ref a], [(a, .ins G dx [])]) t
        (fun s' => ∃ (k' j' : Nat) (pd' : Addr), s'.2[k']? = some (a, Oc.ins G dx (GF Gst.new pd')) ∧ s'.2[j']? = some (pd', Oc.dic (promD Gst.new.prom))) (fun _ _ => False)) : FnOk P w K mg base CX0 (k + 1) f fd ["self"] (spI K G) := by
  refine F.ok Sc (fun vs H Q E ⟨B, a, dx, e, _⟩ => by rw [e]; rfl) fun cdv A outer s H vs Q E hr ⟨B, a, dx, e, ex, ba, ha, q⟩ => ?_
  subst e
  obtain ⟨t, h1, h2⟩ := hb cdv A outer s H E hr
  refine ⟨t, h1.nox, ?_⟩
  have sr : SR C0 K B (era2 H a a) (startC N.length [.ref a], [(a, .ins G dx [])]) (L2.start N [.ref a]) B H := by
    refine ⟨⟨⟨fun p o h => ?_, trivial, trivial, fun _ h => h.elim⟩, Ex.refl B, on0 ex, fun p o _ h1 h2 => ⟨h1, (era2_some h2).1⟩⟩, envR_start' (.cons rfl .nil), fun c hc => ?_, by simp⟩
    · have pa : p ≠ a := fun z => by rw [z, ba] at h; cases h
      rw [era2_ne pa pa]
      exact ex p o h
    · rcases List.mem_cons.mp hc with z | hc
      · subst z; exact ⟨era2_a, ba, [], ha, .nil⟩
      · cases hc
  refine h2 a dx B _ _ _ B H sr (fun s' σ' B' H' ⟨k', j', pd', hk, hj⟩ _ x' => ?_) fun c v s' σ' B' H' hn _ _ _ => hn.elim
  have gy := x'.gat hk hj
  have h0 : era2 H a a pd' = none := (x'.own _ (List.mem_of_getElem? hj)).1
  rw [era2_ne (fun z => gy.ne z.symm) (fun z => gy.ne z.symm)] at h0
  exact q pd' B' H' x'.g h0 gy
end
end K92
end
section -- K92F8
set_option maxRecDepth 100000
set_option maxHeartbeats 1000000
namespace K92
open PySem PySem.Spec PyProof.Rows L2
local macro_rules | `(tactic| walk_at "dc") => `(tactic| first | decide +kernel | with_reducible rfl)
local macro_rules | `(tactic| walk_at "bb") => `(tactic| first | exact Eq.trans (b := true) (by decide +kernel) rfl | exact Eq.trans (b := false) (by decide +kernel) rfl)
local macro_rules | `(tactic| walk_at "go") => `(tactic| dsimp only [cxOf, Cx.nox, startC, List.map_cons, List.map_nil, List.length_cons, List.length_nil])
local macro_rules | `(tactic| walk_at "at") => `(tactic| first | with_reducible exact at_if | with_reducible exact at0 _ _ | with_reducible exact at1 _ _ _ | with_reducible exact at2 _ _ _ _ | rfl | exact at_word _ | exact at_name _ | exact at_day _)
local macro_rules | `(tactic| walk_at "op") => `(tactic| first
  | ((with_reducible apply o_ixT); walk_at "at")
  | ((with_reducible apply o_ixL); walk_at "at")
  | with_reducible exact o_eqS
  | with_reducible exact o_eqI
  | with_reducible exact o_neS
  | with_reducible exact o_neI
  | with_reducible exact o_le
  | with_reducible exact o_lt
  | with_reducible exact o_addI
  | with_reducible exact o_sub
  | ((with_reducible apply o_inT); first | assumption | rfl)
  | ((with_reducible apply o_inL); first | assumption | rfl)
  | with_reducible exact o_inS
  | with_reducible exact o_neNS
  | ((with_reducible apply o_neD); assumption; assumption)
  | ((with_reducible apply o_eqD); assumption; assumption))
local macro_rules | `(tactic| walk_at "tg") => `(tactic| first
  | ((with_reducible apply tg_name); decide)
  | ((with_reducible apply tg_tupW); (walk_at "tg"); rfl)
  | with_reducible exact tgs_nil
  | ((with_reducible apply tgs_cons); (walk_at "tg"); (walk_at "tg")))
local macro_rules | `(tactic| walk_at "lc") => `(tactic| ((apply lcI); (walk_at "tg"); (apply EvT.is); (walk_at "ev"); rfl; (intro _); (apply Ev.is); (walk_at "ev"); rfl))
local macro_rules | `(tactic| walk_at "ev") => `(tactic| first
  | ((with_reducible apply ev_var); rfl)
  | with_reducible exact ev_str
  | with_reducible exact ev_int
  | with_reducible exact ev_bl
  | with_reducible exact ev_non
  | with_reducible exact ev_c (by assumption)
  | with_reducible exact ea_nil
  | ((with_reducible apply ev_op); (walk_at "ev"); (walk_at "ev"); (walk_at "op"))
  | ((with_reducible apply ea_cons); (walk_at "ev"); (walk_at "ev"))
  | ((with_reducible apply ev_tupW); (walk_at "ev"); exact Nat.le_of_ble_eq_true rfl)
  | ((with_reducible apply ev_lstW); (walk_at "ev"); exact Nat.le_of_ble_eq_true rfl)
  | ((with_reducible apply et_testD); walk_at "ev")
  | ((with_reducible apply et_B); walk_at "ev")
  | ((with_reducible apply et_not); walk_at "ev")
  | ((with_reducible apply et_andF); (walk_at "ev"); (walk_at "dc"))
  | ((with_reducible apply et_andT); (walk_at "ev"); (walk_at "dc"); (walk_at "ev"))
  | ((with_reducible apply et_and); (walk_at "ev"); intro _; (walk_at "ev"))
  | ((with_reducible apply et_orT); (walk_at "ev"); (walk_at "dc"))
  | ((with_reducible apply et_orF); (walk_at "ev"); (walk_at "dc"); (walk_at "ev"))
  | ((with_reducible apply et_or); (walk_at "ev"); intro _; (walk_at "ev"))
  | ((with_reducible apply ev_andVF); (walk_at "ev"); (walk_at "dc"))
  | ((with_reducible apply ev_andVT); (walk_at "ev"); (walk_at "dc"); (walk_at "ev"))
  | ((with_reducible apply ev_orVT); (walk_at "ev"); (walk_at "dc"))
  | ((with_reducible apply ev_orVF); (walk_at "ev"); (walk_at "dc"); (walk_at "ev"))
  | ((with_reducible apply ev_andV); (walk_at "ev"); intro _; (walk_at "ev"))
  | ((with_reducible apply ev_orV); (walk_at "ev"); intro _; (walk_at "ev"))
  | ((with_reducible apply ev_notV); walk_at "ev")
  | ((with_reducible apply ev_neg); (walk_at "ev"))
  | ((with_reducible apply ev_isNE); (walk_at "ev"))
  | ((with_reducible apply ev_notN); (walk_at "ev"))
  | with_reducible exact lc_T
  | with_reducible exact eo_none
  | ((with_reducible apply eo_some); (walk_at "ev"))
  | ((with_reducible apply ev_slT); (walk_at "ev"); (walk_at "ev"); (walk_at "ev"); (exact fun h => Nat.ne_of_beq_eq_false rfl h.2); first | exact cut2 | exact cut3 | rfl)
  | ((with_reducible apply ev_slL); (walk_at "ev"); (walk_at "ev"); (walk_at "ev"); rfl)
  | ((with_reducible apply ev_kd); (walk_at "ev"); assumption; assumption)
  | ((with_reducible apply ev_call); (walk_at "ev"); assumption)
  | ((with_reducible apply ev_cb); (walk_at "ev"); (walk_at "cb"))
  | ((with_reducible apply ev_isi); (walk_at "ev"); (walk_at "dc"))
  | ((with_reducible apply ev_lcM); (walk_at "ev"); (exact Nat.le_of_ble_eq_true rfl); (walk_at "pd"))
  | ((with_reducible apply ei_list); (walk_at "ev"))
  | ((with_reducible apply ei_tup); (walk_at "ev"))
  | ((with_reducible apply ei_zip); (walk_at "ev"); assumption))
local macro_rules | `(tactic| walk_at "pd") => `(tactic| first | exact Paired.nil | ((apply Paired.cons); (walk_at "lc"); (walk_at "pd")))
local macro_rules | `(tactic| walk_at "cb") => `(tactic| first
  | with_reducible exact n_lenL
  | with_reducible exact n_lenT
  | ((with_reducible apply n_lenS); assumption)
  | with_reducible exact n_intB
  | with_reducible exact n_abs
  | with_reducible exact n_min
  | with_reducible exact n_tupL
  | with_reducible exact n_lisT
  | with_reducible exact n_lisL)
local macro_rules | `(tactic| walk_at "tr") => `(tactic| first
  | ((with_reducible apply q_retF); (walk_at "ev"); (walk_at "dc"))
  | ((with_reducible apply q_retT); (walk_at "ev"); (walk_at "dc"))
  | ((with_reducible apply q_retB); (walk_at "ev"))
  | ((with_reducible apply tr_retI); (walk_at "ev"))
  | ((with_reducible apply q_par); (walk_at "ev"))
  | ((with_reducible apply q_par3); (walk_at "ev"))
  | ((with_reducible apply q_newL); intro _)
  | ((with_reducible apply q_newD); intro _)
  | ((with_reducible apply q_asgA); (walk_at "ev"); (walk_at "tg")))
local macro_rules | `(tactic| walk_at "if") => `(tactic| first
  | ((with_reducible apply q_app (k := 0)); rfl; rfl; assumption; (walk_at "ev"))
  | with_reducible apply q_as
  | with_reducible apply q_nx
  | ((with_reducible apply q_par); (walk_at "ev"))
  | ((with_reducible apply q_par3); (walk_at "ev"))
  | ((with_reducible apply q_iF); (walk_at "ev"); (walk_at "dc"))
  | ((with_reducible apply q_iT); (walk_at "ev"); (walk_at "dc"))
  | ((with_reducible apply q_i); (walk_at "ev"))
  | ((with_reducible apply q_rt); (walk_at "ev"))
  | ((with_reducible apply q_asgA); (walk_at "ev"); (walk_at "tg")))


theorem three_lt : 3 < 1000 := by decide
theorem u1 {n : Nat} (h : n + 64 < cLine) : n + 1 < cLine := by omega
structure CalM (P : Program) (w : World) (K : PySem.W.Frag) (mg : Str → Option Value) (base : Heap) (m : Str) (ps : List Str) (k : Nat) (sp : Sp) : Prop where
  ex : ∃ fd, FnOk P w K mg base CX0 k (gM K m) fd ps sp ∧ Binds K fd ps []
section
variable {X : Cx} {m x : Str} {ps : List Str} {k : Nat} {sp : Sp} {p pos apos : Pos} {o e : Expr} {es : List Expr} {ta : TE} {t : TA}
theorem pe_calM {pl : Sem Bool} (c : CalM X.prog X.w X.K X.mg X.base m ps k sp) (cl : Cls X.K (gG X.K)) (hm : Meth X.K (gG X.K) m (gM X.K m)) (hr : Room k X.A) (he : PE X o ta) (ha : PA X (e :: es) t)
    (hst : starEach (e :: es) X.env = (false, eval e X.env) :: starEach es X.env := by rfl) (hpl : (backTo pos (starEach es X.env)).any (·.1) = false := by rfl)
    (ht : eval (.Call (.Attribute o m apos) (e :: es) [] pos) X.env = (do
      let ov ← eval o X.env
      standAt apos.atName
      let (f, first) ← holding [ov] (getMethod ov m pl)
      callWith pos f first (backTo pos (starEach (e :: es) X.env)) (backToKw pos (keywordEach [] X.env))) := by rfl) :
    PE X (.Call (.Attribute o m apos) (e :: es) [] pos) (tMeth (gG X.K) m sp [] E0 ta t) := by
  obtain ⟨fd, h1, h2⟩ := c.ex
  exact pe_meth he cl hm h1 hr h2 .nil pass0 ha hst hpl ht
theorem pe_calI (c : CalM X.prog X.w X.K X.mg X.base "__init__" ps k sp) (hr : Room (k + 1) X.A) (hg : Gl X x) (M : Mk X.K (gG X.K) (gM X.K "__init__")) (hm : X.mg x = some (.ref (gG X.K))) (hdb : (x == ("__debug__" : Str)) = false := by decide) :
    PE X (.Call (.Name x p) [] [] pos) (tMake (gG X.K) sp [] E0 tNil) := by
  obtain ⟨fd, h1, h2⟩ := c.ex
  exact pe_make0 M h1 hr hg hm h2 .nil pass0 hdb
end
section
variable {P : Program} {w : World} {K : PySem.W.Frag} {mg : Str → Option Value} {base : Heap}
abbrev N_Going___init__ : List Str := ["self"]
theorem sc_Going___init__ : FnScope N_Going___init__ ["self"] (defScope s_Going___init__) := ⟨rfl, rfl, rfl, by decide +kernel, rfl, by decide +kernel, by decide +kernel⟩
theorem ok_Going (T : Tx w K mg) : CalM P w K mg base "__init__" ["self"] 1 (spI K (gG K)) := by
  obtain ⟨fd, F⟩ := T.f___init__
  refine ⟨fd, ?_, F.bindsN fun _ _ _ _ _ _ us hl => match us, hl with | [_], _ => rfl⟩
  refine fn_init F sc_Going___init__ fun cdv A outer s H E hr => ⟨_,
    (pss_cons (ps_fld (pv 0) (pe_gr (by rfl) T.OUT) rfl)
  (pss_cons (ps_fld (pv 0) pe_bl rfl)
  (pss_one (ps_fld (pv 0) pe_dnewK rfl)))), fun a dx => ?_⟩
  walk_at "go"
  have ro := T.rOUT
  refine k_fld (k := 0) (p := a) rfl rfl T.clG T.n_stand (Nat.zero_lt_succ _) (d := Stand.d .out) (Ev.toS (by apply Ev.is; walk_at "ev"; rfl)) ?_
  refine k_fld (k := 0) (p := a) rfl rfl T.clG T.n_has_come (Nat.lt_of_lt_of_le (Nat.lt_succ_self 1) (by decide)) (d := .bool false) (Ev.toS (by walk_at "ev")) ?_
  apply k_one
  refine k_fldD (k := 0) (p := a) rfl rfl T.clG T.n_promised (Nat.lt_of_lt_of_le (Nat.lt_succ_self 2) (by decide)) fun q => ?_
  exact k_next ⟨1, 0, q, rfl, rfl⟩
def Gst.ok (n : Nat) (g : Gst) : Prop := g.stand.ok ∧ g.prom.length ≤ n
theorem arrived_ok {s : Stand} {d : Int} (h : s.ok) : (arrived s d).ok := by
  have k1 : (PyData.str "at").canLay0 = true := by decide +kernel
  have k2 : (PyData.str "trial").canLay0 = true := by decide +kernel
  cases s with
  | way a b dd =>
    show Stand.ok (if dd ≤ d then .at_ b else .way a b dd)
    split
    · simp only [Stand.ok, Stand.ds, PyData.canLay0, PyData.canLayAll0, Bool.and_eq_true] at h k1 ⊢
      simp [h, k1]
    · exact h
  | away a b dd o =>
    show Stand.ok (if dd ≤ d then (if b = o then .at_ o else .trial b o) else .away a b dd o)
    split
    · split
      · simp only [Stand.ok, Stand.ds, PyData.canLay0, PyData.canLayAll0, Bool.and_eq_true] at h k1 ⊢
        simp [h, k1]
      · simp only [Stand.ok, Stand.ds, PyData.canLay0, PyData.canLayAll0, Bool.and_eq_true] at h k2 ⊢
        simp [h, k2]
    · exact h
  | _ => exact h
theorem moved_ok {p : Page} {s s' : Stand} (hp : p.ok) (h : s.ok) (e : moved p s = some s') : s'.ok := by
  have k1 : (PyData.str "at").canLay0 = true := by decide +kernel
  have k2 : (PyData.str "away").canLay0 = true := by decide +kernel
  have k3 : (PyData.str "way").canLay0 = true := by decide +kernel
  have hh := Page.ok_houses hp
  cases p with
  | back n dd t a y =>
    cases s <;> simp only [moved, reduceCtorEq] at e
    split at e
    · cases e
      refine arrived_ok ?_
      have ha : okS a := hh a (by simp [Page.houses])
      simp only [okS, Stand.ok, Stand.ds, PyData.canLay0, PyData.canLayAll0, Bool.and_eq_true] at h ha k2 ⊢
      simp [h, ha, k2]
    · cases e
  | keep n dd t a m =>
    cases s <;> simp only [moved, reduceCtorEq] at e
    split at e
    · cases e
      have ha : okS a := hh a (by simp [Page.houses])
      simp only [okS, Stand.ok, Stand.ds, PyData.canLay0, PyData.canLayAll0, Bool.and_eq_true] at h ha k1 ⊢
      simp [ha, k1]
    · cases e
  | trial n dd t a b y =>
    simp only [moved] at e
    split at e
    · cases e
      refine arrived_ok ?_
      have ha : okS a := hh a (by simp [Page.houses])
      have hb : okS b := hh b (by simp [Page.houses])
      simp only [okS, Stand.ok, Stand.ds, PyData.canLay0, PyData.canLayAll0, Bool.and_eq_true] at ha hb k2 ⊢
      simp [ha, hb, k2]
    · cases e
  | give n dd t a b y m =>
    simp only [moved] at e
    split at e
    · cases e
      refine arrived_ok ?_
      have ha : okS a := hh a (by simp [Page.houses])
      have hb : okS b := hh b (by simp [Page.houses])
      simp only [okS, Stand.ok, Stand.ds, PyData.canLay0, PyData.canLayAll0, Bool.and_eq_true] at ha hb k3 ⊢
      simp [ha, hb, k3]
    · cases e
  | goes n dd t a =>
    simp only [moved] at e
    split at e
    · cases e
      unfold Stand.ok
      decide +kernel
    · cases e
  | double n dd t a =>
    simp only [moved] at e
    split at e
    · cases e
      exact h
    · cases e
  | _ => simp [moved] at e
theorem takes_ok {n : Nat} {g : Gst} {p : Page} (hp : p.ok) (h : g.ok n) : (takes g p).2.ok (n + 1) := by
  obtain ⟨h1, h2⟩ := h
  have k1 : (PyData.str "at").canLay0 = true := by decide +kernel
  have ha : (arrived g.stand p.day).ok := arrived_ok h1
  have hl : g.prom.length ≤ n + 1 := by omega
  have hd : ∀ q, (dropP g.prom q).length ≤ n + 1 := fun q => Nat.le_trans (List.length_filter_le _ _) hl
  cases p with
  | comes nm dd t k a =>
    have ho : okS a := Page.ok_houses hp a (by simp [Page.houses])
    unfold takes
    dsimp only
    split
    · exact ⟨ha, hl⟩
    · refine ⟨?_, hl⟩
      simp only [okS, Stand.ok, Stand.ds, PyData.canLay0, PyData.canLayAll0, Bool.and_eq_true] at ho k1 ⊢
      simp [ho, k1]
  | promise nm dd t a b u =>
    unfold takes
    dsimp only
    split
    · exact ⟨ha, Nat.le_trans putP_len (by omega)⟩
    · exact ⟨ha, hl⟩
  | loose nm dd q =>
    unfold takes
    dsimp only
    split
    · exact ⟨ha, hd _⟩
    · exact ⟨ha, hl⟩
  | want => exact ⟨ha, hl⟩
  | owe => exact ⟨ha, hl⟩
  | pay => exact ⟨ha, hl⟩
  | _ =>
    unfold takes
    dsimp only
    split
    · exact ⟨ha, hl⟩
    · rename_i e
      refine ⟨moved_ok hp ha e, ?_⟩
      first | exact hl | exact Nat.zero_le _
end
section
variable {P : Program} {w : World} {K : PySem.W.Frag} {mg : Str → Option Value} {base : Heap}
abbrev N_Going_comes : List Str := ["self", "page"]
theorem sc_Going_comes : FnScope N_Going_comes ["self", "page"] (defScope s_Going_comes) := ⟨rfl, rfl, rfl, by decide +kernel, rfl, by decide +kernel, by decide +kernel⟩
def R_comes (ds : List PyData) (g : Gst) (d : PyData) (g' : Gst) : Prop := ∃ n e t k h, ds = [(Page.comes n e t k h).d] ∧ d = .bool (!g.come) ∧ g' = if g.come then g else { g with stand := .at_ h, come := true }
theorem ok_comes (T : Tx w K mg) : CalM P w K mg base "comes" ["self", "page"] 1 (spG K (gG K) R_comes) := by
  obtain ⟨fd, F⟩ := T.f_comes
  refine ⟨fd, ?_, F.bindsN fun _ _ _ _ _ _ us hl => match us, hl with | [_, _], _ => rfl⟩
  refine fn_meth F sc_Going_comes (fun ds g d g' ⟨_, _, _, _, _, h, _⟩ => by rw [h]; rfl) fun cdv A outer s H E hr => ⟨_,
    (pss_cons (ps_if (pt_val (pe_fld (pv 0) rfl)) (pss_one (ps_ret pe_bl)) pss_nil)
  (pss_cons (ps_fld (pv 0) pe_bl rfl)
  (pss_cons (ps_fld (pv 0) (pe_tup (pa_cons pe_str (pa_cons (pe_ix (r := rIx K) ix_seq (pv 1) pe_int (fun _ _ => rfl)) pa_nil))) rfl)
  (pss_one (ps_ret pe_bl))))), fun a dx pd ds g d g' hR => ?_⟩
  obtain ⟨n, e, t, k, h, rfl, rfl, rfl⟩ := hR
  walk_at "go"
  obtain ⟨st, cm, pr⟩ := g
  refine k_if (b := cm) (ets_B (es_fld (k := 0) (p := a) rfl rfl T.clG T.n_has_come lk_come)) (fun q => ?_) fun q => ?_
  · subst q
    exact k_rt (d := .bool false) (Ev.toS (by walk_at "ev")) ⟨rfl, 0, 1, pd, rfl, rfl⟩
  · subst q
    apply k_nx
    refine k_fld (k := 0) (p := a) rfl rfl T.clG T.n_has_come three_lt (d := .bool true) (Ev.toS (by walk_at "ev")) ?_
    refine k_fld (k := 0) (p := a) rfl rfl T.clG T.n_stand three_lt (d := Stand.d (.at_ h)) (Ev.toS (by apply Ev.is; walk_at "ev"; rfl)) ?_
    exact k_ret (d := .bool true) (Ev.toS (by walk_at "ev")) ⟨rfl, 0, 1, pd, rfl, rfl⟩
abbrev N_Going_promises : List Str := ["self", "page"]
theorem sc_Going_promises : FnScope N_Going_promises ["self", "page"] (defScope s_Going_promises) := ⟨rfl, rfl, rfl, by decide +kernel, rfl, by decide +kernel, by decide +kernel⟩
def R_promises (ds : List PyData) (g : Gst) (d : PyData) (g' : Gst) : Prop := ∃ n e t a b u, g.prom.length < 1000 ∧ ds = [(Page.promise n e t a b u).d] ∧ d = .bool (decide (ownerOf g.stand = some a)) ∧ g' = if ownerOf g.stand = some a then { g with prom := putP g.prom n u } else g
theorem ok_promises (T : Tx w K mg) (c_owner_of : Cal P w K mg base "owner_of" ["stand"] 1 (spD K R_owner_of)) : CalM P w K mg base "promises" ["self", "page"] 2 (spG K (gG K) R_promises) := by
  obtain ⟨fd, F⟩ := T.f_promises
  refine ⟨fd, ?_, F.bindsN fun _ _ _ _ _ _ us hl => match us, hl with | [_, _], _ => rfl⟩
  refine fn_meth F sc_Going_promises (fun ds g d g' ⟨_, _, _, _, _, _, _, h, _⟩ => by rw [h]; rfl) fun cdv A outer s H E hr => ⟨_,
    (pss_cons (ps_if (pt_cmpR (r := rNE K) (op_NE hr.units) (pe_cal c_owner_of (hr.mono (by decide)) (by rfl) (pa_cons (pe_fld (pv 0) rfl) pa_nil)) (pe_ix (r := rIx K) ix_seq (pv 1) pe_int (fun _ _ => rfl)) (nomark _)) (pss_one (ps_ret pe_bl)) pss_nil)
  (pss_cons (ps_dput (u1 hr.units) (pe_fld (pv 0) rfl) (pe_ix (r := rIx K) ix_seq (pv 1) pe_int (fun _ _ => rfl)) (pe_ix (r := rIx K) ix_seq (pv 1) pe_int (fun _ _ => rfl)) rfl)
  (pss_one (ps_ret pe_bl)))), fun a dx pd ds g d g' hR => ?_⟩
  obtain ⟨n, e, t, o, b, u, hl, rfl, rfl, rfl⟩ := hR
  walk_at "go"
  obtain ⟨st, cm, pr⟩ := g
  have r1 : R_owner_of [Stand.d st] (ownD (ownerOf st)) := ⟨_, rfl, rfl⟩
  have e1 : EvS C0 K ([Cell.ref a, Cell.val (Page.promise n e t o b u).d], [(a, Oc.ins (gG K) dx (GF ⟨st, cm, pr⟩ pd)), (pd, Oc.dic (promD pr))]) (tFld K (tVar 0) "stand") (Eq (Stand.d st)) := es_fld (k := 0) (p := a) rfl rfl T.clG T.n_stand lk_stand
  have o1 : Op2 C0 K (rNE K) (ownD (ownerOf st)) (.str o) (Eq (.bool (!decide (ownerOf st = some o)))) := by
    cases ownerOf st with
    | none => rw [decide_eq_false (by intro z; cases z)]; exact o_neNS
    | some x =>
      have q : decide (some x = some o) = decide (x = o) := dec_congr ⟨fun z => Option.some.inj z, fun z => by rw [z]⟩
      rw [q]
      exact o_neS
  refine k_if (ets_test (es_op (es_call (eas_cons e1 eas_nil) r1) (Ev.toS (by walk_at "ev")) o1)) (fun q => ?_) fun q => ?_
  · have q' : ¬ ownerOf st = some o := by simpa using q
    rw [decide_eq_false q', if_neg q']
    exact k_rt (Ev.toS (by walk_at "ev")) ⟨rfl, 0, 1, pd, rfl, rfl⟩
  · have q' : ownerOf st = some o := by simpa using q
    rw [decide_eq_true q', if_pos q']
    apply k_nx
    refine k_fdput (k := 0) (j := 1) (p := a) (q := pd) (d := .int u) (key := n) rfl rfl T.clG T.n_promised lk_prom rfl (by unfold promD; rw [List.length_map]; exact Nat.lt_trans hl (by decide)) (Ev.toS (by walk_at "ev")) (Ev.toS (by walk_at "ev")) ?_
    rw [prom_put]
    exact k_ret (d := .bool true) (Ev.toS (by walk_at "ev")) ⟨rfl, 0, 1, pd, rfl, rfl⟩
abbrev N_Going_looses : List Str := ["self", "page", "due"]
theorem sc_Going_looses : FnScope N_Going_looses ["self", "page"] (defScope s_Going_looses) := ⟨rfl, rfl, rfl, by decide +kernel, rfl, by decide +kernel, by decide +kernel⟩
def R_looses (ds : List PyData) (g : Gst) (d : PyData) (g' : Gst) : Prop := ∃ n e q, ds = [(Page.loose n e q).d] ∧ d = .bool (match getP g.prom q with | some due => decide (e ≤ due) | none => false) ∧ g' = { g with prom := dropP g.prom q }
theorem ok_looses (T : Tx w K mg) : CalM P w K mg base "looses" ["self", "page"] 1 (spG K (gG K) R_looses) := by
  obtain ⟨fd, F⟩ := T.f_looses
  refine ⟨fd, ?_, F.bindsN fun _ _ _ _ _ _ us hl => match us, hl with | [_, _], _ => rfl⟩
  refine fn_meth F sc_Going_looses (fun ds g d g' ⟨_, _, _, h, _⟩ => by rw [h]; rfl) fun cdv A outer s H E hr => ⟨_,
    (pss_cons (ps_set (i := 2) sc_Going_looses.nd rfl (by first | exact .inl rfl | exact .inr rfl) (pe_dpop2 (pe_fld (pv 0) rfl) (pe_ix (r := rIx K) ix_seq (pv 1) pe_int (fun _ _ => rfl)) pe_non ⟨rfl, rfl, rfl, rfl⟩))
  (pss_one (ps_ret (pe_and (pe_cmp (pc_notN (pv 2))) (pe_one (pe_cmpR op_LE (pe_ix (r := rIx K) ix_seq (pv 1) pe_int (fun _ _ => rfl)) (pv 2) (nomark _))))))), fun a dx pd ds g d g' hR => ?_⟩
  obtain ⟨n, e, q, rfl, rfl, rfl⟩ := hR
  walk_at "go"
  obtain ⟨st, cm, pr⟩ := g
  refine k_fpop (k := 0) (j := 1) (p := a) (q := pd) (key := q) rfl rfl T.clG T.n_promised lk_prom rfl (Ev.toS (by walk_at "ev")) ?_
  rw [prom_drop, prom_get]
  show TrK C0 K _ _ _ (fun c s' => c = Cell.val (PyData.bool (match getP pr q with | some due => decide (e ≤ due) | none => false)) ∧ _)
  cases getP pr q with
  | none => exact k_ret (d := .bool false) (Ev.toS (by apply Ev.is; walk_at "ev"; rfl)) ⟨rfl, 0, 1, pd, rfl, rfl⟩
  | some due =>
    dsimp only [Option.map, Option.getD]
    exact k_ret (d := .bool (decide (e ≤ due))) (Ev.toS (by apply Ev.is; walk_at "ev"; rfl)) ⟨rfl, 0, 1, pd, rfl, rfl⟩
theorem mid_of {p : Page} (hp : p.ok) (h1 : Nat.ble (p.rank + 1) 7 = true) (h2 : Nat.beq p.rank 0 = false) : p.rank < 7 ∧ p.rank ≠ 0 ∧ p.ok := ⟨Nat.le_of_ble_eq_true h1, Nat.ne_of_beq_eq_false h2, hp⟩
def clears : Page → Bool
  | .keep .. => true
  | .give .. => true
  | .goes .. => true
  | _ => false
theorem takes_mv {g : Gst} {p : Page} (h1 : p.rank < 7) (h2 : p.rank ≠ 0) : takes g p = (match moved p (arrived g.stand p.day) with
    | none => (false, ⟨arrived g.stand p.day, g.come, g.prom⟩)
    | some s2 => (true, ⟨s2, g.come, if clears p = true then [] else g.prom⟩)) := by
  cases p <;> first
    | rfl
    | exact absurd rfl h2
    | (simp [Page.rank] at h1)
abbrev N_Going_takes : List Str := ["self", "page", "stand"]
theorem sc_Going_takes : FnScope N_Going_takes ["self", "page"] (defScope s_Going_takes) := ⟨rfl, rfl, rfl, by decide +kernel, rfl, by decide +kernel, by decide +kernel⟩
def R_takes (ds : List PyData) (g : Gst) (d : PyData) (g' : Gst) : Prop := ∃ p, Page.ok p ∧ p.rank < 9 ∧ g.ok 999 ∧ ds = [Page.d p] ∧ d = .bool (takes g p).1 ∧ g' = (takes g p).2
theorem ok_takes (T : Tx w K mg) (c_arrived : Cal P w K mg base "arrived" ["stand", "day"] 1 (spD K R_arrived)) (c_moved : Cal P w K mg base "moved" ["page", "stand"] 2 (spD K R_moved))
    (c_comes : CalM P w K mg base "comes" ["self", "page"] 1 (spG K (gG K) R_comes)) (c_promises : CalM P w K mg base "promises" ["self", "page"] 2 (spG K (gG K) R_promises)) (c_looses : CalM P w K mg base "looses" ["self", "page"] 1 (spG K (gG K) R_looses)) :
    CalM P w K mg base "takes" ["self", "page"] 3 (spG K (gG K) R_takes) := by
  obtain ⟨fd, F⟩ := T.f_takes
  refine ⟨fd, ?_, F.bindsN fun _ _ _ _ _ _ us hl => match us, hl with | [_, _], _ => rfl⟩
  refine fn_meth F sc_Going_takes (fun ds g d g' ⟨_, _, _, _, h, _⟩ => by rw [h]; rfl) fun cdv A outer s H E hr => ⟨_,
    (pss_cons (ps_fld (pv 0) (pe_cal c_arrived (hr.mono (by decide)) (by rfl) (pa_cons (pe_fld (pv 0) rfl) (pa_cons (pe_ix (r := rIx K) ix_seq (pv 1) pe_int (fun _ _ => rfl)) pa_nil))) rfl)
  (pss_cons (ps_if (pt_cmpR (r := rEQ K) (op_EQ hr.units) (pe_ix (r := rIx K) ix_seq (pv 1) pe_int (fun _ _ => rfl)) pe_str (nomark _)) (pss_one (ps_ret (pe_calM c_comes T.clG T.m_comes (hr.mono (by decide)) (pv 0) (pa_cons (pv 1) pa_nil)))) pss_nil)
  (pss_cons (ps_if (pt_cmpR (r := rEQ K) (op_EQ hr.units) (pe_ix (r := rIx K) ix_seq (pv 1) pe_int (fun _ _ => rfl)) pe_str (nomark _)) (pss_one (ps_ret (pe_calM c_promises T.clG T.m_promises (hr.mono (by decide)) (pv 0) (pa_cons (pv 1) pa_nil)))) pss_nil)
  (pss_cons (ps_if (pt_cmpR (r := rEQ K) (op_EQ hr.units) (pe_ix (r := rIx K) ix_seq (pv 1) pe_int (fun _ _ => rfl)) pe_str (nomark _)) (pss_one (ps_ret (pe_calM c_looses T.clG T.m_looses (hr.mono (by decide)) (pv 0) (pa_cons (pv 1) pa_nil)))) pss_nil)
  (pss_cons (ps_set (i := 2) sc_Going_takes.nd rfl (by first | exact .inl rfl | exact .inr rfl) (pe_cal c_moved (hr.mono (by decide)) (by rfl) (pa_cons (pv 1) (pa_cons (pe_fld (pv 0) rfl) pa_nil))))
  (pss_cons (ps_if (pt_cmp (pc_isN (pv 2))) (pss_one (ps_ret pe_bl)) pss_nil)
  (pss_cons (ps_fld (pv 0) (pv 2) rfl)
  (pss_cons (ps_if (pt_cmpR (r := rIN K false) op_IN (pe_ix (r := rIx K) ix_seq (pv 1) pe_int (fun _ _ => rfl)) (pe_tup (pa_cons pe_str (pa_cons pe_str (pa_cons pe_str pa_nil)))) rfl) (pss_one (ps_fld (pv 0) pe_dnewK rfl)) pss_nil)
  (pss_one (ps_ret pe_bl)))))))))), fun a dx pd ds g d g' hR => ?_⟩
  obtain ⟨p, hp, hrk, hg, rfl, rfl, rfl⟩ := hR
  walk_at "go"
  obtain ⟨st, cm, pr⟩ := g
  have r1 : R_arrived [Stand.d st, .int p.day] (arrived st p.day).d := ⟨_, _, rfl, rfl⟩
  have hl : pr.length < 1000 := Nat.lt_succ_of_le hg.2
  have ha : (arrived st p.day).ok := arrived_ok hg.1
  refine k_fld (k := 0) (p := a) rfl rfl T.clG T.n_stand three_lt (d := Stand.d (arrived st p.day)) (es_call (eas_cons (es_fld (k := 0) (p := a) rfl rfl T.clG T.n_stand lk_stand) (eas_cons (Ev.toS (by walk_at "ev")) eas_nil)) r1) ?_
  cases p
  case comes n e t k h =>
    have r2 : R_comes [(Page.comes n e t k h).d] ⟨arrived st e, cm, pr⟩ (.bool (!cm)) (if cm then ⟨arrived st e, cm, pr⟩ else ⟨.at_ h, true, pr⟩) := ⟨n, e, t, k, h, rfl, rfl, rfl⟩
    refine k_iT (EvT.toS (by walk_at "ev")) (by walk_at "dc") ?_
    refine k_sretG (k := 0) (j := 1) (a := a) (g := ⟨arrived st e, cm, pr⟩) rfl rfl rfl (by decide +kernel) (eas_cons (Ev.toS (by walk_at "ev")) eas_nil) r2 fun pd' => ?_
    cases cm
    · exact ⟨rfl, 0, 1, pd', rfl, rfl⟩
    · exact ⟨rfl, 0, 1, pd', rfl, rfl⟩
  case promise n e t o b u =>
    have r2 : R_promises [(Page.promise n e t o b u).d] ⟨arrived st e, cm, pr⟩ (.bool (decide (ownerOf (arrived st e) = some o))) (if ownerOf (arrived st e) = some o then ⟨arrived st e, cm, putP pr n u⟩ else ⟨arrived st e, cm, pr⟩) := ⟨n, e, t, o, b, u, hl, rfl, rfl, rfl⟩
    refine k_iF (EvT.toS (by walk_at "ev")) (by walk_at "dc") ?_
    apply k_nx
    refine k_iT (EvT.toS (by walk_at "ev")) (by walk_at "dc") ?_
    refine k_sretG (k := 0) (j := 1) (a := a) (g := ⟨arrived st e, cm, pr⟩) rfl rfl rfl (by decide +kernel) (eas_cons (Ev.toS (by walk_at "ev")) eas_nil) r2 fun pd' => ?_
    have et : takes ⟨st, cm, pr⟩ (Page.promise n e t o b u) = if ownerOf (arrived st e) = some o then (true, ⟨arrived st e, cm, putP pr n u⟩) else (false, ⟨arrived st e, cm, pr⟩) := rfl
    rw [et]
    by_cases q : ownerOf (arrived st e) = some o
    · rw [if_pos q, if_pos q, decide_eq_true q]
      exact ⟨rfl, 0, 1, pd', rfl, rfl⟩
    · rw [if_neg q, if_neg q, decide_eq_false q]
      exact ⟨rfl, 0, 1, pd', rfl, rfl⟩
  case loose n e q =>
    have r2 : R_looses [(Page.loose n e q).d] ⟨arrived st e, cm, pr⟩ (.bool (match getP pr q with | some due => decide (e ≤ due) | none => false)) ⟨arrived st e, cm, dropP pr q⟩ := ⟨n, e, q, rfl, rfl, rfl⟩
    refine k_iF (EvT.toS (by walk_at "ev")) (by walk_at "dc") ?_
    apply k_nx
    refine k_iF (EvT.toS (by walk_at "ev")) (by walk_at "dc") ?_
    apply k_nx
    refine k_iT (EvT.toS (by walk_at "ev")) (by walk_at "dc") ?_
    refine k_sretG (k := 0) (j := 1) (a := a) (g := ⟨arrived st e, cm, pr⟩) rfl rfl rfl (by decide +kernel) (eas_cons (Ev.toS (by walk_at "ev")) eas_nil) r2 fun pd' => ?_
    have et : takes ⟨st, cm, pr⟩ (Page.loose n e q) = (match getP pr q with
      | some due => (decide (e ≤ due), ⟨arrived st e, cm, dropP pr q⟩)
      | none => (false, ⟨arrived st e, cm, pr⟩)) := rfl
    rw [et]
    have dn : ∀ (l : List (Str × Int)), getP l q = none → dropP l q = l := by
      intro l
      induction l with
      | nil => intro _; rfl
      | cons y l ih =>
        intro h
        obtain ⟨j, v⟩ := y
        have h' : (if j = q then some v else getP l q) = none := h
        by_cases z : j = q
        · rw [if_pos z] at h'; cases h'
        · rw [if_neg z] at h'
          have ih' := ih h'
          unfold dropP at ih' ⊢
          rw [List.filter_cons, if_pos (by simpa using z), ih']
    cases z : getP pr q with
    | some due => exact ⟨rfl, 0, 1, pd', rfl, rfl⟩
    | none =>
      rw [dn pr z]
      exact ⟨rfl, 0, 1, pd', rfl, rfl⟩
  case want => exact absurd hrk (show ¬ 9 < 9 by decide)
  case owe => exact absurd hrk (show ¬ 10 < 9 by decide)
  case pay => exact absurd hrk (show ¬ 11 < 9 by decide)
  all_goals
    rename Page.ok _ => hpp
    have q1 := mid_of hpp rfl rfl
    have r2 : R_moved [Page.d _, Stand.d (arrived st _)] (mvD (moved _ (arrived st _))) := ⟨_, _, q1.1, q1.2.1, rfl, hpp, ha, rfl⟩
    rw [takes_mv q1.1 q1.2.1]
    refine k_iF (EvT.toS (by walk_at "ev")) (by walk_at "dc") ?_
    apply k_nx
    refine k_iF (EvT.toS (by walk_at "ev")) (by walk_at "dc") ?_
    apply k_nx
    refine k_iF (EvT.toS (by walk_at "ev")) (by walk_at "dc") ?_
    apply k_nx
    refine k_asg (es_call (eas_cons (Ev.toS (by walk_at "ev")) (eas_cons (es_fld (k := 0) (p := a) rfl rfl T.clG T.n_stand lk_stand) eas_nil)) r2) ?_
    generalize moved _ (arrived st _) = mv
    cases mv with
    | none =>
      refine k_iT (EvT.toS (by walk_at "ev")) (by walk_at "dc") ?_
      exact k_rt (d := .bool false) (Ev.toS (by walk_at "ev")) ⟨rfl, 0, 1, pd, rfl, rfl⟩
    | some s2 =>
      refine k_iF (b := false) (EvT.toS (by apply EvT.is; walk_at "ev"; rfl)) rfl ?_
      apply k_nx
      refine k_fld (k := 0) (p := a) rfl rfl T.clG T.n_stand three_lt (d := Stand.d s2) (Ev.toS (by walk_at "ev")) ?_
      first
        | (refine k_iF (EvT.toS (by walk_at "ev")) (by walk_at "dc") ?_
           apply k_nx
           exact k_ret (d := .bool true) (Ev.toS (by walk_at "ev")) ⟨rfl, 0, 1, pd, rfl, rfl⟩)
        | (refine k_iT (EvT.toS (by walk_at "ev")) (by walk_at "dc") ?_
           refine k_fldD (k := 0) (p := a) rfl rfl T.clG T.n_promised three_lt fun q => ?_
           exact k_ret (d := .bool true) (Ev.toS (by walk_at "ev")) ⟨rfl, 1, 0, q, rfl, rfl⟩)
end
end K92
end
section -- K92F9
set_option maxRecDepth 100000
set_option maxHeartbeats 1000000
namespace K92
open PySem PySem.Spec PyProof.Rows L2
local macro_rules | `(tactic| walk_at "dc") => `(tactic| first | decide +kernel | with_reducible rfl)
local macro_rules | `(tactic| walk_at "bb") => `(tactic| first | exact Eq.trans (b := true) (by decide +kernel) rfl | exact Eq.trans (b := false) (by decide +kernel) rfl)
local macro_rules | `(tactic| walk_at "go") => `(tactic| dsimp only [cxOf, Cx.nox, startC, List.map_cons, List.map_nil, List.length_cons, List.length_nil])
local macro_rules | `(tactic| walk_at "at") => `(tactic| first | with_reducible exact at_if | with_reducible exact at0 _ _ | with_reducible exact at1 _ _ _ | with_reducible exact at2 _ _ _ _ | rfl | exact at_word _ | exact at_name _ | exact at_day _)
local macro_rules | `(tactic| walk_at "op") => `(tactic| first
  | ((with_reducible apply o_ixT); walk_at "at")
  | ((with_reducible apply o_ixL); walk_at "at")
  | with_reducible exact o_eqS
  | with_reducible exact o_eqI
  | with_reducible exact o_neS
  | with_reducible exact o_neI
  | with_reducible exact o_le
  | with_reducible exact o_lt
  | with_reducible exact o_addI
  | with_reducible exact o_sub
  | ((with_reducible apply o_inT); first | assumption | rfl)
  | ((with_reducible apply o_inL); first | assumption | rfl)
  | with_reducible exact o_inS
  | with_reducible exact o_neNS
  | ((with_reducible apply o_neD); assumption; assumption)
  | ((with_reducible apply o_eqD); assumption; assumption))
local macro_rules | `(tactic| walk_at "tg") => `(tactic| first
  | ((with_reducible apply tg_name); decide)
  | ((with_reducible apply tg_tupW); (walk_at "tg"); rfl)
  | with_reducible exact tgs_nil
  | ((with_reducible apply tgs_cons); (walk_at "tg"); (walk_at "tg")))
local macro_rules | `(tactic| walk_at "lc") => `(tactic| ((apply lcI); (walk_at "tg"); (apply EvT.is); (walk_at "ev"); rfl; (intro _); (apply Ev.is); (walk_at "ev"); rfl))
local macro_rules | `(tactic| walk_at "ev") => `(tactic| first
  | ((with_reducible apply ev_var); rfl)
  | with_reducible exact ev_str
  | with_reducible exact ev_int
  | with_reducible exact ev_bl
  | with_reducible exact ev_non
  | with_reducible exact ev_c (by assumption)
  | with_reducible exact ea_nil
  | ((with_reducible apply ev_op); (walk_at "ev"); (walk_at "ev"); (walk_at "op"))
  | ((with_reducible apply ea_cons); (walk_at "ev"); (walk_at "ev"))
  | ((with_reducible apply ev_tupW); (walk_at "ev"); exact Nat.le_of_ble_eq_true rfl)
  | ((with_reducible apply ev_lstW); (walk_at "ev"); exact Nat.le_of_ble_eq_true rfl)
  | ((with_reducible apply et_testD); walk_at "ev")
  | ((with_reducible apply et_B); walk_at "ev")
  | ((with_reducible apply et_not); walk_at "ev")
  | ((with_reducible apply et_andF); (walk_at "ev"); (walk_at "dc"))
  | ((with_reducible apply et_andT); (walk_at "ev"); (walk_at "dc"); (walk_at "ev"))
  | ((with_reducible apply et_and); (walk_at "ev"); intro _; (walk_at "ev"))
  | ((with_reducible apply et_orT); (walk_at "ev"); (walk_at "dc"))
  | ((with_reducible apply et_orF); (walk_at "ev"); (walk_at "dc"); (walk_at "ev"))
  | ((with_reducible apply et_or); (walk_at "ev"); intro _; (walk_at "ev"))
  | ((with_reducible apply ev_andVF); (walk_at "ev"); (walk_at "dc"))
  | ((with_reducible apply ev_andVT); (walk_at "ev"); (walk_at "dc"); (walk_at "ev"))
  | ((with_reducible apply ev_orVT); (walk_at "ev"); (walk_at "dc"))
  | ((with_reducible apply ev_orVF); (walk_at "ev"); (walk_at "dc"); (walk_at "ev"))
  | ((with_reducible apply ev_andV); (walk_at "ev"); intro _; (walk_at "ev"))
  | ((with_reducible apply ev_orV); (walk_at "ev"); intro _; (walk_at "ev"))
  | ((with_reducible apply ev_notV); walk_at "ev")
  | ((with_reducible apply ev_neg); (walk_at "ev"))
  | ((with_reducible apply ev_isNE); (walk_at "ev"))
  | ((with_reducible apply ev_notN); (walk_at "ev"))
  | with_reducible exact lc_T
  | with_reducible exact eo_none
  | ((with_reducible apply eo_some); (walk_at "ev"))
  | ((with_reducible apply ev_slT); (walk_at "ev"); (walk_at "ev"); (walk_at "ev"); (exact fun h => Nat.ne_of_beq_eq_false rfl h.2); first | exact cut2 | exact cut3 | rfl)
  | ((with_reducible apply ev_slL); (walk_at "ev"); (walk_at "ev"); (walk_at "ev"); rfl)
  | ((with_reducible apply ev_kd); (walk_at "ev"); assumption; assumption)
  | ((with_reducible apply ev_call); (walk_at "ev"); assumption)
  | ((with_reducible apply ev_cb); (walk_at "ev"); (walk_at "cb"))
  | ((with_reducible apply ev_isi); (walk_at "ev"); (walk_at "dc"))
  | ((with_reducible apply ev_lcM); (walk_at "ev"); (exact Nat.le_of_ble_eq_true rfl); (walk_at "pd"))
  | ((with_reducible apply ei_list); (walk_at "ev"))
  | ((with_reducible apply ei_tup); (walk_at "ev"))
  | ((with_reducible apply ei_zip); (walk_at "ev"); assumption))
local macro_rules | `(tactic| walk_at "pd") => `(tactic| first | exact Paired.nil | ((apply Paired.cons); (walk_at "lc"); (walk_at "pd")))
local macro_rules | `(tactic| walk_at "cb") => `(tactic| first
  | with_reducible exact n_lenL
  | with_reducible exact n_lenT
  | ((with_reducible apply n_lenS); assumption)
  | with_reducible exact n_intB
  | with_reducible exact n_abs
  | with_reducible exact n_min
  | with_reducible exact n_tupL
  | with_reducible exact n_lisT
  | with_reducible exact n_lisL)
local macro_rules | `(tactic| walk_at "tr") => `(tactic| first
  | ((with_reducible apply q_retF); (walk_at "ev"); (walk_at "dc"))
  | ((with_reducible apply q_retT); (walk_at "ev"); (walk_at "dc"))
  | ((with_reducible apply q_retB); (walk_at "ev"))
  | ((with_reducible apply tr_retI); (walk_at "ev"))
  | ((with_reducible apply q_par); (walk_at "ev"))
  | ((with_reducible apply q_par3); (walk_at "ev"))
  | ((with_reducible apply q_newL); intro _)
  | ((with_reducible apply q_newD); intro _)
  | ((with_reducible apply q_asgA); (walk_at "ev"); (walk_at "tg")))
local macro_rules | `(tactic| walk_at "if") => `(tactic| first
  | ((with_reducible apply q_app (k := 0)); rfl; rfl; assumption; (walk_at "ev"))
  | with_reducible apply q_as
  | with_reducible apply q_nx
  | ((with_reducible apply q_par); (walk_at "ev"))
  | ((with_reducible apply q_par3); (walk_at "ev"))
  | ((with_reducible apply q_iF); (walk_at "ev"); (walk_at "dc"))
  | ((with_reducible apply q_iT); (walk_at "ev"); (walk_at "dc"))
  | ((with_reducible apply q_i); (walk_at "ev"))
  | ((with_reducible apply q_rt); (walk_at "ev"))
  | ((with_reducible apply q_asgA); (walk_at "ev"); (walk_at "tg")))


section
variable {P : Program} {w : World} {K : PySem.W.Frag} {mg : Str → Option Value} {base : Heap}
abbrev N_track_of : List Str := ["pages", "going", "found", "page", "fits_here"]
theorem sc_track_of : FnScope N_track_of ["pages"] (defScope s_track_of) := ⟨rfl, rfl, rfl, by decide +kernel, rfl, by decide +kernel, by decide +kernel⟩
def gAfter (g : Gst) (ps : List Page) : Gst := ps.foldl (fun g p => (takes g p).2) g
theorem gAfter_ok : ∀ (ps : List Page) (g : Gst) (n : Nat), g.ok n → (∀ p, p ∈ ps → Page.ok p) → (gAfter g ps).ok (n + ps.length)
  | [], g, n, h, _ => h
  | p :: ps, g, n, h, hp => by
    have h1 := takes_ok (hp p (List.mem_cons_self ..)) h
    have h2 := gAfter_ok ps _ _ h1 fun q hq => hp q (List.mem_cons_of_mem _ hq)
    rw [List.length_cons, show n + (ps.length + 1) = n + 1 + ps.length by omega]
    exact h2
theorem trackFrom_snoc : ∀ (ps : List Page) (g : Gst) (p : Page), trackFrom g (ps ++ [p]) = trackFrom g ps ++ [(p.name, (takes (gAfter g ps) p).1, (takes (gAfter g ps) p).2.stand)]
  | [], g, p => rfl
  | q :: ps, g, p => by
    rw [List.cons_append, trackFrom, trackFrom, List.cons_append, trackFrom_snoc ps]
    rfl
theorem ok_track_of (T : Tx w K mg) (c_Going : CalM P w K mg base "__init__" ["self"] 1 (spI K (gG K))) (c_takes : CalM P w K mg base "takes" ["self", "page"] 3 (spG K (gG K) R_takes)) : Cal P w K mg base "track_of" ["pages"] 5 (spD K R_track_of) := by
  refine cal_data T.d_track_of sc_track_of (fun _ _ _ _ _ _ us hl => match us, hl with | [_], _ => rfl) (fun ds d ⟨_, _, _, h1, h2⟩ => by subst h1; rfl) (fun f cdv A outer s H E hr => ⟨_,
    (pss_cons (ps_set (i := 1) sc_track_of.nd rfl (by first | exact .inl rfl | exact .inr rfl) (pe_calI c_Going (hr.mono (by decide)) (by rfl) T.mkG T.Going))
  (pss_cons (ps_set (i := 2) sc_track_of.nd rfl (by first | exact .inl rfl | exact .inr rfl) (pe_lst pa_nil))
  (pss_cons (ps_for PassesOwn.never rfl (pi_list (pv 0)) (pg_name (i := 3) sc_track_of.nd rfl (by first | exact .inl rfl | exact .inr rfl)) (pss_cons (ps_set (i := 4) sc_track_of.nd rfl (by first | exact .inl rfl | exact .inr rfl) (pe_calM c_takes T.clG T.m_takes (hr.mono (by decide)) (pv 1) (pa_cons (pv 3) pa_nil)))
  (pss_one (ps_expr (pe_bm PySem.F.plainAttrs_list PySem.F.slot_list_append PySem.F.type_list_append mt_append (pv 2) (pa_cons (pe_tup (pa_cons (pe_ix (r := rIx K) ix_seq (pv 3) pe_int (fun _ _ => rfl)) (pa_cons (pv 4) (pa_cons (pe_fld (pv 1) rfl) pa_nil)))) pa_nil))))))
  (pss_one (ps_ret (pv 2)))))), fun ds d hR => ?_⟩)
  obtain ⟨ps, hp, hl, rfl, rfl⟩ := hR
  walk_at "go"
  refine q_makeG fun a dx pd => ?_
  refine q_newL fun pf => ?_
  refine q_forX (is := anyS) Page.d ps (by walk_at "ev") (fun pre s' => ∃ c1 c2 pd, s' = ([.val (.list (ps.map Page.d)), .ref a, .ref pf, c1, c2], [(pf, .lst ((trackOf pre).map Row.d)), (a, .ins (gG K) dx (GF (gAfter Gst.new pre) pd)), (pd, .dic (promD (gAfter Gst.new pre).prom))])) ⟨_, _, _, rfl⟩ ?_ ?_
  · rintro pre x post _ ex ⟨c1, c2, pd, rfl⟩
    have hx := hp x (by rw [ex]; simp)
    have hpre : ∀ p, p ∈ pre → Page.ok p := fun p h => (hp p (by rw [ex]; simp [h])).1
    have hlen : pre.length < ps.length := by rw [ex]; simp
    have hg := gAfter_ok pre Gst.new 0 ⟨by unfold Stand.ok; decide +kernel, Nat.le_refl _⟩ hpre
    have et : trackOf (pre ++ [x]) = trackOf pre ++ [(x.name, (takes (gAfter Gst.new pre) x).1, (takes (gAfter Gst.new pre) x).2.stand)] := trackFrom_snoc _ _ _
    have eg : gAfter Gst.new (pre ++ [x]) = (takes (gAfter Gst.new pre) x).2 := by unfold gAfter; rw [List.foldl_append]; rfl
    have hl2 : ((trackOf pre).map Row.d).length < 100000 := by
      rw [List.length_map, ← track_len]
      omega
    rw [et, eg]
    have hg' : (gAfter Gst.new pre).ok 999 := ⟨hg.1, Nat.le_trans hg.2 (by omega)⟩
    generalize gAfter Gst.new pre = g at *
    have r1 : R_takes [Page.d x] g (.bool (takes g x).1) (takes g x).2 := ⟨x, hx.1, hx.2, hg', rfl, rfl, rfl⟩
    refine forI (by walk_at "tg") ?_
    refine q_methG (k := 1) (j := 2) (a := a) (g := g) rfl rfl rfl (by decide +kernel) (by walk_at "ev") r1 fun pd' => ?_
    refine tr_appS (k := 0) (p := pf) rfl rfl hl2 (es_tup (eas_cons (Ev.toS (by walk_at "ev")) (eas_cons (Ev.toS (by walk_at "ev")) (eas_cons (es_fld (k := 1) (p := a) rfl rfl T.clG T.n_stand lk_stand) eas_nil))) (by exact Nat.le_of_ble_eq_true rfl)) ⟨.val x.d, .val (.bool (takes g x).1), pd', ?_⟩
    rw [List.map_append]
    rfl
  · rintro _ ⟨c1, c2, pd, rfl⟩
    exact tr_retL (k := 0) rfl rfl rfl
end
end K92
end
section -- K92F10
set_option maxRecDepth 100000
set_option maxHeartbeats 1000000
namespace K92
open PySem PySem.Spec PyProof.Rows L2
local macro_rules | `(tactic| walk_at "dc") => `(tactic| first | decide +kernel | with_reducible rfl)
local macro_rules | `(tactic| walk_at "bb") => `(tactic| first | exact Eq.trans (b := true) (by decide +kernel) rfl | exact Eq.trans (b := false) (by decide +kernel) rfl)
local macro_rules | `(tactic| walk_at "go") => `(tactic| dsimp only [cxOf, Cx.nox, startC, List.map_cons, List.map_nil, List.length_cons, List.length_nil])
local macro_rules | `(tactic| walk_at "at") => `(tactic| first | with_reducible exact at_if | with_reducible exact at0 _ _ | with_reducible exact at1 _ _ _ | with_reducible exact at2 _ _ _ _ | rfl | exact at_word _ | exact at_name _ | exact at_day _)
local macro_rules | `(tactic| walk_at "op") => `(tactic| first
  | ((with_reducible apply o_ixT); walk_at "at")
  | ((with_reducible apply o_ixL); walk_at "at")
  | with_reducible exact o_eqS
  | with_reducible exact o_eqI
  | with_reducible exact o_neS
  | with_reducible exact o_neI
  | with_reducible exact o_le
  | with_reducible exact o_lt
  | with_reducible exact o_addI
  | with_reducible exact o_sub
  | ((with_reducible apply o_inT); first | assumption | rfl)
  | ((with_reducible apply o_inL); first | assumption | rfl)
  | with_reducible exact o_inS
  | with_reducible exact o_neNS
  | ((with_reducible apply o_neD); assumption; assumption)
  | ((with_reducible apply o_eqD); assumption; assumption))
local macro_rules | `(tactic| walk_at "tg") => `(tactic| first
  | ((with_reducible apply tg_name); decide)
  | ((with_reducible apply tg_tupW); (walk_at "tg"); rfl)
  | with_reducible exact tgs_nil
  | ((with_reducible apply tgs_cons); (walk_at "tg"); (walk_at "tg")))
local macro_rules | `(tactic| walk_at "lc") => `(tactic| ((apply lcI); (walk_at "tg"); (apply EvT.is); (walk_at "ev"); rfl; (intro _); (apply Ev.is); (walk_at "ev"); rfl))
local macro_rules | `(tactic| walk_at "ev") => `(tactic| first
  | ((with_reducible apply ev_var); rfl)
  | with_reducible exact ev_str
  | with_reducible exact ev_int
  | with_reducible exact ev_bl
  | with_reducible exact ev_non
  | with_reducible exact ev_c (by assumption)
  | with_reducible exact ea_nil
  | ((with_reducible apply ev_op); (walk_at "ev"); (walk_at "ev"); (walk_at "op"))
  | ((with_reducible apply ea_cons); (walk_at "ev"); (walk_at "ev"))
  | ((with_reducible apply ev_tupW); (walk_at "ev"); exact Nat.le_of_ble_eq_true rfl)
  | ((with_reducible apply ev_lstW); (walk_at "ev"); exact Nat.le_of_ble_eq_true rfl)
  | ((with_reducible apply et_testD); walk_at "ev")
  | ((with_reducible apply et_B); walk_at "ev")
  | ((with_reducible apply et_not); walk_at "ev")
  | ((with_reducible apply et_andF); (walk_at "ev"); (walk_at "dc"))
  | ((with_reducible apply et_andT); (walk_at "ev"); (walk_at "dc"); (walk_at "ev"))
  | ((with_reducible apply et_and); (walk_at "ev"); intro _; (walk_at "ev"))
  | ((with_reducible apply et_orT); (walk_at "ev"); (walk_at "dc"))
  | ((with_reducible apply et_orF); (walk_at "ev"); (walk_at "dc"); (walk_at "ev"))
  | ((with_reducible apply et_or); (walk_at "ev"); intro _; (walk_at "ev"))
  | ((with_reducible apply ev_andVF); (walk_at "ev"); (walk_at "dc"))
  | ((with_reducible apply ev_andVT); (walk_at "ev"); (walk_at "dc"); (walk_at "ev"))
  | ((with_reducible apply ev_orVT); (walk_at "ev"); (walk_at "dc"))
  | ((with_reducible apply ev_orVF); (walk_at "ev"); (walk_at "dc"); (walk_at "ev"))
  | ((with_reducible apply ev_andV); (walk_at "ev"); intro _; (walk_at "ev"))
  | ((with_reducible apply ev_orV); (walk_at "ev"); intro _; (walk_at "ev"))
  | ((with_reducible apply ev_notV); walk_at "ev")
  | ((with_reducible apply ev_neg); (walk_at "ev"))
  | ((with_reducible apply ev_isNE); (walk_at "ev"))
  | ((with_reducible apply ev_notN); (walk_at "ev"))
  | with_reducible exact lc_T
  | with_reducible exact eo_none
  | ((with_reducible apply eo_some); (walk_at "ev"))
  | ((with_reducible apply ev_slT); (walk_at "ev"); (walk_at "ev"); (walk_at "ev"); (exact fun h => Nat.ne_of_beq_eq_false rfl h.2); first | exact cut2 | exact cut3 | rfl)
  | ((with_reducible apply ev_slL); (walk_at "ev"); (walk_at "ev"); (walk_at "ev"); rfl)
  | ((with_reducible apply ev_kd); (walk_at "ev"); assumption; assumption)
  | ((with_reducible apply ev_call); (walk_at "ev"); assumption)
  | ((with_reducible apply ev_cb); (walk_at "ev"); (walk_at "cb"))
  | ((with_reducible apply ev_isi); (walk_at "ev"); (walk_at "dc"))
  | ((with_reducible apply ev_lcM); (walk_at "ev"); (exact Nat.le_of_ble_eq_true rfl); (walk_at "pd"))
  | ((with_reducible apply ei_list); (walk_at "ev"))
  | ((with_reducible apply ei_tup); (walk_at "ev"))
  | ((with_reducible apply ei_zip); (walk_at "ev"); assumption))
local macro_rules | `(tactic| walk_at "pd") => `(tactic| first | exact Paired.nil | ((apply Paired.cons); (walk_at "lc"); (walk_at "pd")))
local macro_rules | `(tactic| walk_at "cb") => `(tactic| first
  | with_reducible exact n_lenL
  | with_reducible exact n_lenT
  | ((with_reducible apply n_lenS); assumption)
  | with_reducible exact n_intB
  | with_reducible exact n_abs
  | with_reducible exact n_min
  | with_reducible exact n_tupL
  | with_reducible exact n_lisT
  | with_reducible exact n_lisL)
local macro_rules | `(tactic| walk_at "tr") => `(tactic| first
  | ((with_reducible apply q_retF); (walk_at "ev"); (walk_at "dc"))
  | ((with_reducible apply q_retT); (walk_at "ev"); (walk_at "dc"))
  | ((with_reducible apply q_retB); (walk_at "ev"))
  | ((with_reducible apply tr_retI); (walk_at "ev"))
  | ((with_reducible apply q_par); (walk_at "ev"))
  | ((with_reducible apply q_par3); (walk_at "ev"))
  | ((with_reducible apply q_newL); intro _)
  | ((with_reducible apply q_newD); intro _)
  | ((with_reducible apply q_asgA); (walk_at "ev"); (walk_at "tg")))
local macro_rules | `(tactic| walk_at "if") => `(tactic| first
  | ((with_reducible apply q_app (k := 0)); rfl; rfl; assumption; (walk_at "ev"))
  | with_reducible apply q_as
  | with_reducible apply q_nx
  | ((with_reducible apply q_par); (walk_at "ev"))
  | ((with_reducible apply q_par3); (walk_at "ev"))
  | ((with_reducible apply q_iF); (walk_at "ev"); (walk_at "dc"))
  | ((with_reducible apply q_iT); (walk_at "ev"); (walk_at "dc"))
  | ((with_reducible apply q_i); (walk_at "ev"))
  | ((with_reducible apply q_rt); (walk_at "ev"))
  | ((with_reducible apply q_asgA); (walk_at "ev"); (walk_at "tg")))


section
variable {P : Program} {w : World} {K : PySem.W.Frag} {mg : Str → Option Value} {base : Heap}
abbrev N_all_named : List Str := ["pages", "names_in", "found", "page", "name"]
theorem sc_all_named : FnScope N_all_named ["pages", "names_in"] (defScope s_all_named) := ⟨rfl, rfl, rfl, by decide +kernel, rfl, by decide +kernel, by decide +kernel⟩
def spN (K : PySem.W.Frag) (mg : Str → Option Value) (nm : Str) (fn : Page → List Str) (c : List PyData → PyData) : Sp := fun vs H Q _ => ∃ B v f ps, vs = [v, .ref f] ∧ mg nm = some (.ref f) ∧ Rp K B v (c (ps.map Page.d)) ∧ ps.length ≤ 30 ∧ Ex B H ∧
  ∀ v' B' H', Gr C0 B H B' H' → Rp K B' v' (.list ((namesBy fn ps).map .str)) → Q v' H'
theorem ev_callLoc {C : Ctx} {ρ : List Cell} {i : Nat} {f : Addr} {R : List PyData → PyData → Prop} {E : XK} {ta : TA} {ds : List PyData} {d : PyData} (hi : ρ[i]? = some (.ref f)) (h : EvA C K ta ρ (Eq ds)) (k : R ds d) : Ev C K (tCallL i f (spD K R) [] E ta) ρ (Eq d) := fun σ B H e o Q q =>
  ⟨e.ref hi, ev_call (E := E) h k σ B H e o Q q⟩
theorem ev_callN {C : Ctx} {ρ : List Cell} {te : TE} {f : Addr} {nm : Str} {fn : Page → List Str} {c : List PyData → PyData} {E : XK} {ps : List Page} (h : Ev C K te ρ (Eq (c (ps.map Page.d)))) (hm : mg nm = some (.ref f)) (hl : ps.length ≤ 30) :
    Ev C K (tCall (spN K mg nm fn c) [] E (tCons te (tCons (tC (.ref f)) tNil))) ρ (Eq (.list ((namesBy fn ps).map .str))) := fun σ B H e o Q q =>
  h σ B H e o _ fun d v B1 H1 p g r => by
    subst p
    show spN K mg nm fn c ([v, .ref f] ++ []) H1 Q E
    rw [List.append_nil]
    exact ⟨B1, v, f, ps, rfl, hm, r, hl, g.on.ex, fun v' B' H' g2 r2 => q _ v' B' H' rfl (g.trans (g2.up g.on)) r2⟩
theorem keys_len (l : List Str) : (keysOf l).length ≤ l.length := by have h := keysFrom_len (l := l) (ks := []); simpa [keysOf] using h
theorem flat_len {fn : Page → List Str} (hfn : ∀ p, (fn p).length ≤ 2) : ∀ l : List Page, (l.flatMap fn).length ≤ 2 * l.length
  | [] => Nat.le_refl _
  | x :: l => by
    rw [List.flatMap_cons, List.length_append, List.length_cons]
    have h1 := hfn x
    have h2 := flat_len hfn l
    omega
/-- return sorted(found) -/
theorem tr_retSD {s : S} {N : S → Prop} {R : PyData → Prop} {i k : Nat} {p : Addr} {ks : List Str} (hi : s.1[i]? = some (.ref p)) (hk : s.2[k]? = some (p, .dic (trueD ks))) (hl : ks.length < 64) (h : R (.list ((sortS ks).map .str))) : Tr C0 K (tRet (tCB rSortD (tCons (tVar i) tNil))) s N R := fun B0 H0 D σ B H x n r => by
  obtain ⟨h1, h2, kvs, h3, h4, h5⟩ := x.own _ (List.mem_of_getElem? hk)
  obtain ⟨ks', e1, e2⟩ := h4.keys
  have e3 : ks' = ks := by
    have q : (trueD ks).map (·.1) = ks.map PyData.str := by unfold trueD; rw [List.map_map]; rfl
    rw [q] at e2
    exact (List.map_inj_right (fun a b h => PyData.str.inj h)).mp e2.symm
  subst e3
  refine ⟨.ref p, x.env.ref hi, p, kvs, ks', rfl, .inl h3, e1, hl, fun ys q hp hs hq => ?_⟩
  have g := Gr.new x.g.on (.lst (ys.map V.str)) hq
  rw [sort_uniq hp hs] at g ⊢
  exact r _ _ _ _ h (x.g.trans g) (.lst upd_same rp_strs)
theorem ok_all_named_L (T : Tx w K mg) {nm : Str} {fn : Page → List Str} (hfn : ∀ p, (fn p).length ≤ 2) (c : Cal P w K mg base nm ["page"] 1 (spD K fun ds d => ∃ p, ds = [Page.d p] ∧ d = .list ((fn p).map .str))) : Cal P w K mg base "all_named" ["pages", "names_in"] 2 (spN K mg nm fn .list) := by
  obtain ⟨fN, fdN, gN, hF, hkeep, hbind⟩ := c.ex
  obtain ⟨f0, fd0, h1, F⟩ := T.d_all_named.ex
  refine ⟨f0, fd0, h1, ?_, F.kp, F.bindsN fun _ _ _ _ _ _ us hl => match us, hl with | [_, _], _ => rfl⟩
  refine F.ok sc_all_named (fun vs H Q E ⟨B, v, f, ps, e, _⟩ => by rw [e]; rfl) fun cdv A outer s H vs Q E hr ⟨B, v, f, ps, e, hm, hv, hfew, ex, q⟩ => ?_
  subst e
  rw [gN] at hm
  obtain rfl : fN = f := Value.ref.inj (Option.some.inj hm)
  have hd : ∃ t, PSs (cxOf CX0 P w K mg base N_all_named "all_named" (defScope s_all_named) f0 cdv A outer s H E).nox (defBody s_all_named) t ∧ Tr C0 K t (startC N_all_named.length [.val (.list (ps.map Page.d)), .ref fN], []) (fun _ => False) (Eq (.list ((namesBy fn ps).map .str))) := ⟨_,
    (pss_cons (ps_set (i := 2) sc_all_named.nd rfl (by first | exact .inl rfl | exact .inr rfl) pe_dnewK)
  (pss_cons (ps_for PassesOwn.never rfl (pi_list (pv 0)) (pg_name (i := 3) sc_all_named.nd rfl (by first | exact .inl rfl | exact .inr rfl)) (pss_one (ps_for PassesOwn.never rfl (pi_list (pe_callL (i := 1) hF (hr.mono (by decide)) rfl (by first | exact .inl rfl | exact .inr rfl) hkeep hbind .nil pass0 (pa_cons (pv 3) pa_nil))) (pg_name (i := 4) sc_all_named.nd rfl (by first | exact .inl rfl | exact .inr rfl)) (pss_one (ps_dput (u1 hr.units) (pv 2) (pv 4) pe_bl rfl)))))
  (pss_one (ps_ret (pe_callB (r := rSortD) (cr_SORTD rfl) (by rfl) T.sorted (by decide +kernel) (pa_cons (pv 2) pa_nil)))))), ?_⟩
  · obtain ⟨t, t1, t2⟩ := hd
    refine ⟨t, t1.nox, ?_⟩
    exact t2 B H _ _ B H ⟨Gr.refl (on0 ex), envR_start' (.cons ⟨v, rfl, hv⟩ (.cons rfl .nil)), fun c hc => (by cases hc), List.nodup_nil⟩ (fun _ _ _ _ hn _ _ => hn.elim) fun d v' B' H' hd g rv => q v' B' H' g (by rw [hd]; exact rv)
  walk_at "go"
  refine q_newD fun p => ?_
  refine q_forX (is := anyS) Page.d ps (by walk_at "ev") (fun pre s' => ∃ c3 c4, s' = ([.val (.list (ps.map Page.d)), .ref fN, .ref p, c3, c4], [(p, .dic (trueD (keysOf (pre.flatMap fn))))])) ⟨_, _, rfl⟩ ?_ ?_
  · rintro pre x post _ ex ⟨c3, c4, rfl⟩
    have hpre : pre.length + 1 ≤ 30 := by
      have h : (pre ++ x :: post).length ≤ 30 := by rw [← ex]; exact hfew
      simp at h
      omega
    refine forI (by walk_at "tg") ?_
    apply tr_one
    refine q_forX (is := anyS) PyData.str (fn x) (ei_list (ev_callLoc rfl (by walk_at "ev") ⟨x, rfl, rfl⟩)) (fun pre2 s' => ∃ c4, s' = ([.val (.list (ps.map Page.d)), .ref fN, .ref p, .val x.d, c4], [(p, .dic (trueD (keysFrom (keysOf (pre.flatMap fn)) pre2)))])) ⟨_, rfl⟩ ?_ ?_
    · rintro pre2 y post2 _ ex2 ⟨c4, rfl⟩
      refine forI (by walk_at "tg") ?_
      refine tr_dput' (j := 0) rfl rfl ?_ (by walk_at "ev") (by walk_at "ev") (P := Eq (.bool true)) fun d hd => ?_
      · have h1 := keysFrom_len (l := pre2) (ks := keysOf (pre.flatMap fn))
        have h3 := flat_len hfn pre
        have h4 := hfn x
        have h5 : (pre2 ++ y :: post2).length ≤ 2 := by rw [← ex2]; exact h4
        simp at h5
        unfold trueD
        rw [List.length_map]
        have h6 : (keysOf (pre.flatMap fn)).length ≤ (pre.flatMap fn).length := keys_len _
        omega
      · subst hd
        refine ⟨.val (.str y), ?_⟩
        rw [trueD_put]
        unfold keysFrom
        rw [List.foldl_append]
        rfl
    · rintro _ ⟨c4, rfl⟩
      refine tr_next ⟨.val x.d, c4, ?_⟩
      rw [show keysOf ((pre ++ [x]).flatMap fn) = keysFrom (keysOf (pre.flatMap fn)) (fn x) by unfold keysOf keysFrom; rw [List.flatMap_append, List.foldl_append]; simp]
  · rintro _ ⟨c3, c4, rfl⟩
    refine tr_retSD (k := 0) rfl rfl ?_ rfl
    have h3 := flat_len hfn ps
    have h6 : (keysOf (ps.flatMap fn)).length ≤ (ps.flatMap fn).length := keys_len _
    omega
theorem ok_all_named_T (T : Tx w K mg) {nm : Str} {fn : Page → List Str} (hfn : ∀ p, (fn p).length ≤ 2) (c : Cal P w K mg base nm ["page"] 1 (spD K fun ds d => ∃ p, ds = [Page.d p] ∧ d = .list ((fn p).map .str))) : Cal P w K mg base "all_named" ["pages", "names_in"] 2 (spN K mg nm fn .tuple) := by
  obtain ⟨fN, fdN, gN, hF, hkeep, hbind⟩ := c.ex
  obtain ⟨f0, fd0, h1, F⟩ := T.d_all_named.ex
  refine ⟨f0, fd0, h1, ?_, F.kp, F.bindsN fun _ _ _ _ _ _ us hl => match us, hl with | [_, _], _ => rfl⟩
  refine F.ok sc_all_named (fun vs H Q E ⟨B, v, f, ps, e, _⟩ => by rw [e]; rfl) fun cdv A outer s H vs Q E hr ⟨B, v, f, ps, e, hm, hv, hfew, ex, q⟩ => ?_
  subst e
  rw [gN] at hm
  obtain rfl : fN = f := Value.ref.inj (Option.some.inj hm)
  have hd : ∃ t, PSs (cxOf CX0 P w K mg base N_all_named "all_named" (defScope s_all_named) f0 cdv A outer s H E).nox (defBody s_all_named) t ∧ Tr C0 K t (startC N_all_named.length [.val (.tuple (ps.map Page.d)), .ref fN], []) (fun _ => False) (Eq (.list ((namesBy fn ps).map .str))) := ⟨_,
    (pss_cons (ps_set (i := 2) sc_all_named.nd rfl (by first | exact .inl rfl | exact .inr rfl) pe_dnewK)
  (pss_cons (ps_for PassesOwn.never rfl (pi_tup (pv 0)) (pg_name (i := 3) sc_all_named.nd rfl (by first | exact .inl rfl | exact .inr rfl)) (pss_one (ps_for PassesOwn.never rfl (pi_list (pe_callL (i := 1) hF (hr.mono (by decide)) rfl (by first | exact .inl rfl | exact .inr rfl) hkeep hbind .nil pass0 (pa_cons (pv 3) pa_nil))) (pg_name (i := 4) sc_all_named.nd rfl (by first | exact .inl rfl | exact .inr rfl)) (pss_one (ps_dput (u1 hr.units) (pv 2) (pv 4) pe_bl rfl)))))
  (pss_one (ps_ret (pe_callB (r := rSortD) (cr_SORTD rfl) (by rfl) T.sorted (by decide +kernel) (pa_cons (pv 2) pa_nil)))))), ?_⟩
  · obtain ⟨t, t1, t2⟩ := hd
    refine ⟨t, t1.nox, ?_⟩
    exact t2 B H _ _ B H ⟨Gr.refl (on0 ex), envR_start' (.cons ⟨v, rfl, hv⟩ (.cons rfl .nil)), fun c hc => (by cases hc), List.nodup_nil⟩ (fun _ _ _ _ hn _ _ => hn.elim) fun d v' B' H' hd g rv => q v' B' H' g (by rw [hd]; exact rv)
  walk_at "go"
  refine q_newD fun p => ?_
  refine q_forX (is := anyS) Page.d ps (by walk_at "ev") (fun pre s' => ∃ c3 c4, s' = ([.val (.tuple (ps.map Page.d)), .ref fN, .ref p, c3, c4], [(p, .dic (trueD (keysOf (pre.flatMap fn))))])) ⟨_, _, rfl⟩ ?_ ?_
  · rintro pre x post _ ex ⟨c3, c4, rfl⟩
    have hpre : pre.length + 1 ≤ 30 := by
      have h : (pre ++ x :: post).length ≤ 30 := by rw [← ex]; exact hfew
      simp at h
      omega
    refine forI (by walk_at "tg") ?_
    apply tr_one
    refine q_forX (is := anyS) PyData.str (fn x) (ei_list (ev_callLoc rfl (by walk_at "ev") ⟨x, rfl, rfl⟩)) (fun pre2 s' => ∃ c4, s' = ([.val (.tuple (ps.map Page.d)), .ref fN, .ref p, .val x.d, c4], [(p, .dic (trueD (keysFrom (keysOf (pre.flatMap fn)) pre2)))])) ⟨_, rfl⟩ ?_ ?_
    · rintro pre2 y post2 _ ex2 ⟨c4, rfl⟩
      refine forI (by walk_at "tg") ?_
      refine tr_dput' (j := 0) rfl rfl ?_ (by walk_at "ev") (by walk_at "ev") (P := Eq (.bool true)) fun d hd => ?_
      · have h1 := keysFrom_len (l := pre2) (ks := keysOf (pre.flatMap fn))
        have h3 := flat_len hfn pre
        have h4 := hfn x
        have h5 : (pre2 ++ y :: post2).length ≤ 2 := by rw [← ex2]; exact h4
        simp at h5
        unfold trueD
        rw [List.length_map]
        have h6 : (keysOf (pre.flatMap fn)).length ≤ (pre.flatMap fn).length := keys_len _
        omega
      · subst hd
        refine ⟨.val (.str y), ?_⟩
        rw [trueD_put]
        unfold keysFrom
        rw [List.foldl_append]
        rfl
    · rintro _ ⟨c4, rfl⟩
      refine tr_next ⟨.val x.d, c4, ?_⟩
      rw [show keysOf ((pre ++ [x]).flatMap fn) = keysFrom (keysOf (pre.flatMap fn)) (fn x) by unfold keysOf keysFrom; rw [List.flatMap_append, List.foldl_append]; simp]
  · rintro _ ⟨c3, c4, rfl⟩
    refine tr_retSD (k := 0) rfl rfl ?_ rfl
    have h3 := flat_len hfn ps
    have h6 : (keysOf (ps.flatMap fn)).length ≤ (ps.flatMap fn).length := keys_len _
    omega
end
end K92
end
section -- K92F5
set_option maxRecDepth 100000
set_option maxHeartbeats 1000000
namespace K92
open PySem PySem.Spec PyProof.Rows L2
local macro_rules | `(tactic| walk_at "dc") => `(tactic| first | decide +kernel | with_reducible rfl)
local macro_rules | `(tactic| walk_at "bb") => `(tactic| first | exact Eq.trans (b := true) (by decide +kernel) rfl | exact Eq.trans (b := false) (by decide +kernel) rfl)
local macro_rules | `(tactic| walk_at "go") => `(tactic| dsimp only [cxOf, Cx.nox, startC, List.map_cons, List.map_nil, List.length_cons, List.length_nil])
local macro_rules | `(tactic| walk_at "at") => `(tactic| first | with_reducible exact at_if | with_reducible exact at0 _ _ | with_reducible exact at1 _ _ _ | with_reducible exact at2 _ _ _ _ | rfl | exact at_word _ | exact at_name _ | exact at_day _)
local macro_rules | `(tactic| walk_at "op") => `(tactic| first
  | ((with_reducible apply o_ixT); walk_at "at")
  | ((with_reducible apply o_ixL); walk_at "at")
  | with_reducible exact o_eqS
  | with_reducible exact o_eqI
  | with_reducible exact o_neS
  | with_reducible exact o_neI
  | with_reducible exact o_le
  | with_reducible exact o_lt
  | with_reducible exact o_addI
  | with_reducible exact o_sub
  | ((with_reducible apply o_inT); first | assumption | rfl)
  | ((with_reducible apply o_inL); first | assumption | rfl)
  | with_reducible exact o_inS
  | with_reducible exact o_neNS
  | ((with_reducible apply o_neD); assumption; assumption)
  | ((with_reducible apply o_eqD); assumption; assumption))
local macro_rules | `(tactic| walk_at "tg") => `(tactic| first
  | ((with_reducible apply tg_name); decide)
  | ((with_reducible apply tg_tupW); (walk_at "tg"); rfl)
  | with_reducible exact tgs_nil
  | ((with_reducible apply tgs_cons); (walk_at "tg"); (walk_at "tg")))
local macro_rules | `(tactic| walk_at "lc") => `(tactic| ((apply lcI); (walk_at "tg"); (apply EvT.is); (walk_at "ev"); rfl; (intro _); (apply Ev.is); (walk_at "ev"); rfl))
local macro_rules | `(tactic| walk_at "ev") => `(tactic| first
  | ((with_reducible apply ev_var); rfl)
  | with_reducible exact ev_str
  | with_reducible exact ev_int
  | with_reducible exact ev_bl
  | with_reducible exact ev_non
  | with_reducible exact ev_c (by assumption)
  | with_reducible exact ea_nil
  | ((with_reducible apply ev_op); (walk_at "ev"); (walk_at "ev"); (walk_at "op"))
  | ((with_reducible apply ea_cons); (walk_at "ev"); (walk_at "ev"))
  | ((with_reducible apply ev_tupW); (walk_at "ev"); exact Nat.le_of_ble_eq_true rfl)
  | ((with_reducible apply ev_lstW); (walk_at "ev"); exact Nat.le_of_ble_eq_true rfl)
  | ((with_reducible apply et_testD); walk_at "ev")
  | ((with_reducible apply et_B); walk_at "ev")
  | ((with_reducible apply et_not); walk_at "ev")
  | ((with_reducible apply et_andF); (walk_at "ev"); (walk_at "dc"))
  | ((with_reducible apply et_andT); (walk_at "ev"); (walk_at "dc"); (walk_at "ev"))
  | ((with_reducible apply et_and); (walk_at "ev"); intro _; (walk_at "ev"))
  | ((with_reducible apply et_orT); (walk_at "ev"); (walk_at "dc"))
  | ((with_reducible apply et_orF); (walk_at "ev"); (walk_at "dc"); (walk_at "ev"))
  | ((with_reducible apply et_or); (walk_at "ev"); intro _; (walk_at "ev"))
  | ((with_reducible apply ev_andVF); (walk_at "ev"); (walk_at "dc"))
  | ((with_reducible apply ev_andVT); (walk_at "ev"); (walk_at "dc"); (walk_at "ev"))
  | ((with_reducible apply ev_orVT); (walk_at "ev"); (walk_at "dc"))
  | ((with_reducible apply ev_orVF); (walk_at "ev"); (walk_at "dc"); (walk_at "ev"))
  | ((with_reducible apply ev_andV); (walk_at "ev"); intro _; (walk_at "ev"))
  | ((with_reducible apply ev_orV); (walk_at "ev"); intro _; (walk_at "ev"))
  | ((with_reducible apply ev_notV); walk_at "ev")
  | ((with_reducible apply ev_neg); (walk_at "ev"))
  | ((with_reducible apply ev_isNE); (walk_at "ev"))
  | ((with_reducible apply ev_notN); (walk_at "ev"))
  | with_reducible exact lc_T
  | with_reducible exact eo_none
  | ((with_reducible apply eo_some); (walk_at "ev"))
  | ((with_reducible apply ev_slT); (walk_at "ev"); (walk_at "ev"); (walk_at "ev"); (exact fun h => Nat.ne_of_beq_eq_false rfl h.2); first | exact cut2 | exact cut3 | rfl)
  | ((with_reducible apply ev_slL); (walk_at "ev"); (walk_at "ev"); (walk_at "ev"); rfl)
  | ((with_reducible apply ev_kd); (walk_at "ev"); assumption; assumption)
  | ((with_reducible apply ev_call); (walk_at "ev"); assumption)
  | ((with_reducible apply ev_cb); (walk_at "ev"); (walk_at "cb"))
  | ((with_reducible apply ev_isi); (walk_at "ev"); (walk_at "dc"))
  | ((with_reducible apply ev_lcM); (walk_at "ev"); (exact Nat.le_of_ble_eq_true rfl); (walk_at "pd"))
  | ((with_reducible apply ei_list); (walk_at "ev"))
  | ((with_reducible apply ei_tup); (walk_at "ev"))
  | ((with_reducible apply ei_zip); (walk_at "ev"); assumption))
local macro_rules | `(tactic| walk_at "pd") => `(tactic| first | exact Paired.nil | ((apply Paired.cons); (walk_at "lc"); (walk_at "pd")))
local macro_rules | `(tactic| walk_at "cb") => `(tactic| first
  | with_reducible exact n_lenL
  | with_reducible exact n_lenT
  | ((with_reducible apply n_lenS); assumption)
  | with_reducible exact n_intB
  | with_reducible exact n_abs
  | with_reducible exact n_min
  | with_reducible exact n_tupL
  | with_reducible exact n_lisT
  | with_reducible exact n_lisL)
local macro_rules | `(tactic| walk_at "tr") => `(tactic| first
  | ((with_reducible apply q_retF); (walk_at "ev"); (walk_at "dc"))
  | ((with_reducible apply q_retT); (walk_at "ev"); (walk_at "dc"))
  | ((with_reducible apply q_retB); (walk_at "ev"))
  | ((with_reducible apply tr_retI); (walk_at "ev"))
  | ((with_reducible apply q_par); (walk_at "ev"))
  | ((with_reducible apply q_par3); (walk_at "ev"))
  | ((with_reducible apply q_newL); intro _)
  | ((with_reducible apply q_newD); intro _)
  | ((with_reducible apply q_asgA); (walk_at "ev"); (walk_at "tg")))
local macro_rules | `(tactic| walk_at "if") => `(tactic| first
  | ((with_reducible apply q_app (k := 0)); rfl; rfl; assumption; (walk_at "ev"))
  | with_reducible apply q_as
  | with_reducible apply q_nx
  | ((with_reducible apply q_par); (walk_at "ev"))
  | ((with_reducible apply q_par3); (walk_at "ev"))
  | ((with_reducible apply q_iF); (walk_at "ev"); (walk_at "dc"))
  | ((with_reducible apply q_iT); (walk_at "ev"); (walk_at "dc"))
  | ((with_reducible apply q_i); (walk_at "ev"))
  | ((with_reducible apply q_rt); (walk_at "ev"))
  | ((with_reducible apply q_asgA); (walk_at "ev"); (walk_at "tg")))


section
variable {P : Program} {w : World} {K : PySem.W.Frag} {mg : Str → Option Value} {base : Heap}
abbrev N_dues_of : List Str := ["pages", "rows", "found", "stand", "page", "row"]
theorem sc_dues_of : FnScope N_dues_of ["pages", "rows"] (defScope s_dues_of) := ⟨rfl, rfl, rfl, by decide +kernel, rfl, by decide +kernel, by decide +kernel⟩
def R_dues_of (ds : List PyData) (d : PyData) : Prop := ∃ ps, List.length ps ≤ 1000 ∧ ds = [.list (ps.map Page.d), .list ((trackOf ps).map Row.d)] ∧ d = .list ((duesOf ps (trackOf ps)).map Due.d)
theorem ok_dues_of (T : Tx w K mg) (c_arrived : Cal P w K mg base "arrived" ["stand", "day"] 1 (spD K R_arrived)) : Cal P w K mg base "dues_of" ["pages", "rows"] 2 (spD K R_dues_of) := by
  refine cal_data T.d_dues_of sc_dues_of (fun _ _ _ _ _ _ us hl => match us, hl with | [_, _], _ => rfl) (fun ds d ⟨_, _, h1, h2⟩ => by subst h1; rfl) (fun f cdv A outer s H E hr => ⟨_,
    (pss_cons (ps_set (i := 2) sc_dues_of.nd rfl (by first | exact .inl rfl | exact .inr rfl) (pe_lst pa_nil))
  (pss_cons (ps_set (i := 3) sc_dues_of.nd rfl (by first | exact .inl rfl | exact .inr rfl) (pe_gr (by rfl) T.OUT))
  (pss_cons (ps_for PassesOwn.never rfl (pi_zip (by rfl) T.zip (pa_cons (pv 0) (pa_cons (pv 1) pa_nil))) (pg_tup rfl (pgs_cons (pg_name (i := 4) sc_dues_of.nd rfl (by first | exact .inl rfl | exact .inr rfl)) (pgs_cons (pg_name (i := 5) sc_dues_of.nd rfl (by first | exact .inl rfl | exact .inr rfl)) pgs_nil))) (pss_cons (ps_if (PW.pt (pw_and (pt_cmpR (r := rEQ K) (op_EQ hr.units) (pe_ix (r := rIx K) ix_seq (pv 4) pe_int (fun _ _ => rfl)) pe_str (nomark _)) (pw_and1 (pt_val (pe_ix (r := rIx K) ix_seq (pv 5) pe_int (fun _ _ => rfl)))))) (pss_one (ps_expr (pe_bm PySem.F.plainAttrs_list PySem.F.slot_list_append PySem.F.type_list_append mt_append (pv 2) (pa_cons (pe_tup (pa_cons (pe_ix (r := rIx K) ix_seq (pv 4) pe_int (fun _ _ => rfl)) (pa_cons (pe_ix (r := rIx K) ix_seq (pv 4) pe_int (fun _ _ => rfl)) (pa_cons (pe_ix (r := rIx K) ix_seq (pv 4) pe_int (fun _ _ => rfl)) (pa_cons (pe_ix (r := rIx K) ix_seq (pv 4) pe_int (fun _ _ => rfl)) pa_nil))))) pa_nil)))) pss_nil)
  (pss_cons (ps_if (PW.pt (pw_and (pt_cmpR (r := rEQ K) (op_EQ hr.units) (pe_ix (r := rIx K) ix_seq (pv 4) pe_int (fun _ _ => rfl)) pe_str (nomark _)) (pw_and1 (pt_val (pe_ix (r := rIx K) ix_seq (pv 5) pe_int (fun _ _ => rfl)))))) (pss_one (ps_expr (pe_bm PySem.F.plainAttrs_list PySem.F.slot_list_append PySem.F.type_list_append mt_append (pv 2) (pa_cons (pe_tup (pa_cons (pe_ix (r := rIx K) ix_seq (pv 4) pe_int (fun _ _ => rfl)) (pa_cons (pe_ix (r := rIx K) ix_seq (pv 4) pe_int (fun _ _ => rfl)) (pa_cons (pe_ix (r := rIx K) ix_seq (pe_cal c_arrived (hr.mono (by decide)) (by rfl) (pa_cons (pv 3) (pa_cons (pe_ix (r := rIx K) ix_seq (pv 4) pe_int (fun _ _ => rfl)) pa_nil))) pe_int (fun _ _ => rfl)) (pa_cons (pe_ix (r := rIx K) ix_seq (pv 4) pe_int (fun _ _ => rfl)) pa_nil))))) pa_nil)))) pss_nil)
  (pss_one (ps_set (i := 3) sc_dues_of.nd rfl (by first | exact .inl rfl | exact .inr rfl) (pe_ix (r := rIx K) ix_seq (pv 5) pe_int (fun _ _ => rfl)))))))
  (pss_one (ps_ret (pv 2)))))), fun ds d hR => ?_⟩)
  obtain ⟨ps, hl, rfl, rfl⟩ := hR
  walk_at "go"
  have ro := T.rOUT
  walk_at "tr"
  rename_i p
  walk_at "tr"
  refine q_forX (is := anyS) encR (ps.zip (trackOf ps)) (ei_zipR (by walk_at "ev") (track_len ps)) (fun pre s' => ∃ c1 c2, s' = ([.val (.list (ps.map Page.d)), .val (.list ((trackOf ps).map Row.d)), .ref p, .val (Stand.d (lastStand .out pre)), c1, c2], [(p, .lst ((duesFrom .out pre).map Due.d))])) ⟨_, _, rfl⟩ ?_ ?_
  · rintro pre x post _ ex ⟨c1, c2, rfl⟩
    have gd := good_from ps Gst.new pre post x ex
    have hlen : ((duesFrom .out pre).map Due.d).length < 100000 := by
      have h1 := duesFrom_len pre .out
      have h2 : pre.length ≤ (ps.zip (trackOf ps)).length := by rw [ex]; simp
      rw [List.length_zip] at h2
      rw [List.length_map]
      omega
    obtain ⟨x, row⟩ := x
    obtain ⟨rn, rf, rs⟩ := row
    refine forI (by walk_at "tg") ?_
    have e0 : duesFrom .out (pre ++ [(x, rn, rf, rs)]) = duesFrom .out pre ++ dueOf (lastStand .out pre) x (rn, rf, rs) := duesFrom_snoc _ _ _
    have e1 : lastStand .out (pre ++ [(x, rn, rf, rs)]) = rs := by simp [lastStand, List.foldl_append]
    rw [e0, e1]
    apply tr_one
    apply q_as
    cases x
    case give n e t a b y m =>
      cases rf with
      | true =>
        repeat walk_at "if"
        rw [List.map_append]
        with_reducible refine tr_next ?_
        exact ⟨_, _, rfl⟩
      | false =>
        rw [show dueOf (lastStand .out pre) (Page.give n e t a b y m) (rn, false, rs) = [] from rfl, List.append_nil]
        repeat walk_at "if"
        with_reducible refine tr_next ?_
        exact ⟨_, _, rfl⟩
    case keep n e t h m =>
      cases rf with
      | true =>
        obtain ⟨h', o, gt⟩ := gd rfl
        have r1 : R_arrived [Stand.d (lastStand .out pre), .int e] (Stand.trial h' o).d := ⟨_, _, rfl, congrArg Stand.d gt.symm⟩
        have gt' : arrived (lastStand .out pre) e = .trial h' o := gt
        rw [show dueOf (lastStand .out pre) (Page.keep n e t h m) (rn, true, rs) = [⟨e, h, o, m⟩] by simp only [dueOf, gt', trialOwner]; rfl, List.map_append]
        repeat walk_at "if"
        with_reducible refine tr_next ?_
        exact ⟨_, _, rfl⟩
      | false =>
        rw [show dueOf (lastStand .out pre) (Page.keep n e t h m) (rn, false, rs) = [] from rfl, List.append_nil]
        repeat walk_at "if"
        with_reducible refine tr_next ?_
        exact ⟨_, _, rfl⟩
    all_goals
      rw [show dueOf (lastStand .out pre) _ (rn, rf, rs) = [] from rfl, List.append_nil]
      repeat walk_at "if"
      with_reducible refine tr_next ?_
      exact ⟨_, _, rfl⟩
  · rintro s' ⟨c1, c2, rfl⟩
    exact tr_retL (k := 0) rfl rfl rfl
abbrev N_plain_dues : List Str := ["book", "found", "page"]
theorem sc_plain_dues : FnScope N_plain_dues ["book"] (defScope s_plain_dues) := ⟨rfl, rfl, rfl, by decide +kernel, rfl, by decide +kernel, by decide +kernel⟩
def R_plain_dues (ds : List PyData) (es : List PyData) : Prop := ∃ b, b.ok ∧ ds = [Book.d b] ∧ es = (plainDues b.pages).map Due.d
theorem ok_plain_dues (T : Tx w K mg) : Cal P w K mg base "plain_dues" ["book"] 1 (spL K R_plain_dues) := by
  refine cal_list T.d_plain_dues sc_plain_dues (fun _ _ _ _ _ _ us hl => match us, hl with | [_], _ => rfl) (fun ds d ⟨_, _, h1, h2⟩ => by subst h1; rfl) (fun f cdv A outer s H E hr => ⟨_,
    (pss_cons (ps_set (i := 1) sc_plain_dues.nd rfl (by first | exact .inl rfl | exact .inr rfl) (pe_lst pa_nil))
  (pss_cons (ps_for PassesOwn.never rfl (pi_tup (pe_ix (r := rIx K) ix_seq (pv 0) pe_int (fun _ _ => rfl))) (pg_name (i := 2) sc_plain_dues.nd rfl (by first | exact .inl rfl | exact .inr rfl)) (pss_cons (ps_if (pt_cmpR (r := rEQ K) (op_EQ hr.units) (pe_ix (r := rIx K) ix_seq (pv 2) pe_int (fun _ _ => rfl)) pe_str (nomark _)) (pss_one (ps_expr (pe_bm PySem.F.plainAttrs_list PySem.F.slot_list_append PySem.F.type_list_append mt_append (pv 1) (pa_cons (pe_tup (pa_cons (pe_ix (r := rIx K) ix_seq (pv 2) pe_int (fun _ _ => rfl)) (pa_cons (pe_ix (r := rIx K) ix_seq (pv 2) pe_int (fun _ _ => rfl)) (pa_cons (pe_ix (r := rIx K) ix_seq (pv 2) pe_int (fun _ _ => rfl)) (pa_cons (pe_ix (r := rIx K) ix_seq (pv 2) pe_int (fun _ _ => rfl)) pa_nil))))) pa_nil)))) pss_nil)
  (pss_one (ps_if (pt_cmpR (r := rEQ K) (op_EQ hr.units) (pe_ix (r := rIx K) ix_seq (pv 2) pe_int (fun _ _ => rfl)) pe_str (nomark _)) (pss_one (ps_expr (pe_bm PySem.F.plainAttrs_list PySem.F.slot_list_append PySem.F.type_list_append mt_append (pv 1) (pa_cons (pe_tup (pa_cons (pe_ix (r := rIx K) ix_seq (pv 2) pe_int (fun _ _ => rfl)) (pa_cons (pe_ix (r := rIx K) ix_seq (pv 2) pe_int (fun _ _ => rfl)) (pa_cons (pe_ix (r := rIx K) ix_seq (pv 2) pe_int (fun _ _ => rfl)) (pa_cons (pe_ix (r := rIx K) ix_seq (pv 2) pe_int (fun _ _ => rfl)) pa_nil))))) pa_nil)))) pss_nil))))
  (pss_one (ps_ret (pv 1))))), fun ds d hR => ?_⟩)
  obtain ⟨b, hb, rfl, rfl⟩ := hR
  walk_at "go"
  refine k_seq (N1 := fun s' => ∃ p, s' = ([.val b.d, .ref p, .unk], [(p, .lst [])])) (tr_newL fun p => ⟨p, rfl⟩) ?_
  rintro _ ⟨p, rfl⟩
  refine k_seq (N1 := fun s' => ∃ c, s' = ([.val b.d, .ref p, c], [(p, .lst ((plainDues b.pages).map Due.d))])) ?_ ?_
  · apply tr_one
    refine q_forX (is := anyS) Page.d b.pages (by walk_at "ev") (fun pre s' => ∃ c, s' = ([.val b.d, .ref p, c], [(p, .lst ((plainDues pre).map Due.d))])) ⟨_, rfl⟩ ?_ ?_
    · rintro pre x post _ ex ⟨c, rfl⟩
      have hpl : ∀ l, (plainDues l).length ≤ l.length := by
        intro l
        induction l with
        | nil => exact Nat.le_refl _
        | cons y l ih =>
          have e : plainDues (y :: l) = plainDue y ++ plainDues l := by simp [plainDues]
          have h1 : (plainDue y).length ≤ 1 := by cases y <;> simp [plainDue]
          rw [e, List.length_append, List.length_cons]
          omega
      have hlen : ((plainDues pre).map Due.d).length < 100000 := by
        have h1 := hpl pre
        have h2 : pre.length ≤ b.pages.length := by rw [ex]; simp
        have h3 := hb.few
        rw [List.length_map]
        omega
      have e0 : plainDues (pre ++ [x]) = plainDues pre ++ plainDue x := by simp [plainDues]
      rw [e0]
      refine forI (by walk_at "tg") ?_
      apply tr_one
      apply q_as
      cases x
      case owe n e a b' m =>
        rw [show plainDue (Page.owe n e a b' m) = [⟨e, a, b', m⟩] from rfl, List.map_append]
        repeat walk_at "if"
        with_reducible refine tr_next ?_
        exact ⟨_, rfl⟩
      case pay n e a b' m =>
        rw [show plainDue (Page.pay n e a b' m) = [⟨e, b', a, m⟩] from rfl, List.map_append]
        repeat walk_at "if"
        with_reducible refine tr_next ?_
        exact ⟨_, rfl⟩
      all_goals
        rw [show plainDue _ = [] from rfl, List.append_nil]
        repeat walk_at "if"
        with_reducible refine tr_next ?_
        exact ⟨_, rfl⟩
    · rintro _ ⟨c, rfl⟩
      exact tr_next ⟨_, rfl⟩
  · rintro _ ⟨c, rfl⟩
    exact k_retR (p := p) rfl ⟨0, p, rfl, rfl⟩
abbrev N_owed_by : List Str := ["some", "one", "other", "day", "at", "who", "whom", "worth"]
theorem sc_owed_by : FnScope N_owed_by ["some", "one", "other", "day"] (defScope s_owed_by) := ⟨rfl, rfl, rfl, by decide +kernel, rfl, by decide +kernel, by decide +kernel⟩
def R_owed_by (ds : List PyData) (d : PyData) : Prop := ∃ some_ one other day, List.length some_ ≤ 100000 ∧ ds = [.list (some_.map Due.d), .str one, .str other, .int day] ∧ d = .int (owedBy some_ one other day)
theorem ok_owed_by (T : Tx w K mg) : Cal P w K mg base "owed_by" ["some", "one", "other", "day"] 1 (spD K R_owed_by) := by
  refine cal_data T.d_owed_by sc_owed_by (fun _ _ _ _ _ _ us hl => match us, hl with | [_, _, _, _], _ => rfl) (fun ds d ⟨_, _, _, _, _, h1, h2⟩ => by subst h1; rfl) (fun f cdv A outer s H E hr => ⟨_,
    (pss_one (ps_ret (pe_callB (r := rSum K) (cr_sum rfl) (by rfl) T.sum (by decide +kernel) (pa_cons (pe_lc (own := [("at", 4), ("who", 5), ("whom", 6), ("worth", 7)]) (g := gTup K 4 (gCons (gName 4) (gCons (gName 5) (gCons (gName 6) (gCons (gName 7) (gNil)))))) rfl sc_owed_by.nd (pi_list (pv 0)) (blkOk_by (own := [("at", 4), ("who", 5), ("whom", 6), ("worth", 7)]) (N := N_owed_by) (sc := defScope s_owed_by) (by decide +kernel)) (fun _ _ _ _ _ => (pg_tup rfl (pgs_cons (pg_name (i := 4) sc_owed_by.nd rfl (.inl rfl)) (pgs_cons (pg_name (i := 5) sc_owed_by.nd rfl (.inl rfl)) (pgs_cons (pg_name (i := 6) sc_owed_by.nd rfl (.inl rfl)) (pgs_cons (pg_name (i := 7) sc_owed_by.nd rfl (.inl rfl)) pgs_nil)))))) (fun _ _ _ _ _ => (pts_one (PW.pt (pw_and (pt_cmpR op_LE (pv 4) (pv 3) (nomark _)) (pw_and (pt_cmpR (r := rEQ K) (op_EQ hr.units) (pv 5) (pv 1) (nomark _)) (pw_and1 (pt_cmpR (r := rEQ K) (op_EQ hr.units) (pv 6) (pv 2) (nomark _)))))))) (fun _ _ _ _ _ => (pv 7))) pa_nil)))), fun ds d hR => ?_⟩)
  obtain ⟨so, one, other, day, hl, rfl, rfl⟩ := hR
  walk_at "go"
  refine tr_retI (ev_cb (ea_cons (Ev.is (ev_lcX Due.d so (by walk_at "ev") (fun x => decide (x.at_ ≤ day) && (decide (x.who = one) && decide (x.whom = other))) (fun x => .int x.worth) hl ?_) (show _ = PyData.list (((so.filter fun x => decide (x.at_ ≤ day) && (decide (x.who = one) && decide (x.whom = other))).map Due.worth).map .int) by rw [List.map_map]; rfl)) ea_nil) n_sum) rfl
  intro x hx
  walk_at "lc"
abbrev N_balance_by : List Str := ["some", "one", "other", "day"]
theorem sc_balance_by : FnScope N_balance_by ["some", "one", "other", "day"] (defScope s_balance_by) := ⟨rfl, rfl, rfl, by decide +kernel, rfl, by decide +kernel, by decide +kernel⟩
def R_balance_by (ds : List PyData) (d : PyData) : Prop := ∃ some_ one other day, List.length some_ ≤ 100000 ∧ ds = [.list (some_.map Due.d), .str one, .str other, .int day] ∧ d = .int (balanceBy some_ one other day)
theorem ok_balance_by (T : Tx w K mg) (c_owed_by : Cal P w K mg base "owed_by" ["some", "one", "other", "day"] 1 (spD K R_owed_by)) : Cal P w K mg base "balance_by" ["some", "one", "other", "day"] 2 (spD K R_balance_by) := by
  refine cal_data T.d_balance_by sc_balance_by (fun _ _ _ _ _ _ us hl => match us, hl with | [_, _, _, _], _ => rfl) (fun ds d ⟨_, _, _, _, _, h1, h2⟩ => by subst h1; rfl) (fun f cdv A outer s H E hr => ⟨_,
    (pss_one (ps_ret (pe_op op_SUB (pe_cal c_owed_by (hr.mono (by decide)) (by rfl) (pa_cons (pv 0) (pa_cons (pv 1) (pa_cons (pv 2) (pa_cons (pv 3) pa_nil))))) (pe_cal c_owed_by (hr.mono (by decide)) (by rfl) (pa_cons (pv 0) (pa_cons (pv 2) (pa_cons (pv 1) (pa_cons (pv 3) pa_nil)))))))), fun ds d hR => ?_⟩)
  obtain ⟨so, one, other, day, hl, rfl, rfl⟩ := hR
  walk_at "go"
  have r1 : R_owed_by [.list (so.map Due.d), .str one, .str other, .int day] (.int (owedBy so one other day)) := ⟨_, _, _, _, hl, rfl, rfl⟩
  have r2 : R_owed_by [.list (so.map Due.d), .str other, .str one, .int day] (.int (owedBy so other one day)) := ⟨_, _, _, _, hl, rfl, rfl⟩
  walk_at "tr"
  rfl
end
end K92
end
section -- K92F6
set_option maxRecDepth 100000
set_option maxHeartbeats 1000000
namespace K92
open PySem PySem.Spec PyProof.Rows L2
local macro_rules | `(tactic| walk_at "dc") => `(tactic| first | decide +kernel | with_reducible rfl)
local macro_rules | `(tactic| walk_at "bb") => `(tactic| first | exact Eq.trans (b := true) (by decide +kernel) rfl | exact Eq.trans (b := false) (by decide +kernel) rfl)
local macro_rules | `(tactic| walk_at "go") => `(tactic| dsimp only [cxOf, Cx.nox, startC, List.map_cons, List.map_nil, List.length_cons, List.length_nil])
local macro_rules | `(tactic| walk_at "at") => `(tactic| first | with_reducible exact at_if | with_reducible exact at0 _ _ | with_reducible exact at1 _ _ _ | with_reducible exact at2 _ _ _ _ | rfl | exact at_word _ | exact at_name _ | exact at_day _)
local macro_rules | `(tactic| walk_at "op") => `(tactic| first
  | ((with_reducible apply o_ixT); walk_at "at")
  | ((with_reducible apply o_ixL); walk_at "at")
  | with_reducible exact o_eqS
  | with_reducible exact o_eqI
  | with_reducible exact o_neS
  | with_reducible exact o_neI
  | with_reducible exact o_le
  | with_reducible exact o_lt
  | with_reducible exact o_addI
  | with_reducible exact o_sub
  | ((with_reducible apply o_inT); first | assumption | rfl)
  | ((with_reducible apply o_inL); first | assumption | rfl)
  | with_reducible exact o_inS
  | with_reducible exact o_neNS
  | ((with_reducible apply o_neD); assumption; assumption)
  | ((with_reducible apply o_eqD); assumption; assumption))
local macro_rules | `(tactic| walk_at "tg") => `(tactic| first
  | ((with_reducible apply tg_name); decide)
  | ((with_reducible apply tg_tupW); (walk_at "tg"); rfl)
  | with_reducible exact tgs_nil
  | ((with_reducible apply tgs_cons); (walk_at "tg"); (walk_at "tg")))
local macro_rules | `(tactic| walk_at "lc") => `(tactic| ((apply lcI); (walk_at "tg"); (apply EvT.is); (walk_at "ev"); rfl; (intro _); (apply Ev.is); (walk_at "ev"); rfl))
local macro_rules | `(tactic| walk_at "ev") => `(tactic| first
  | ((with_reducible apply ev_var); rfl)
  | with_reducible exact ev_str
  | with_reducible exact ev_int
  | with_reducible exact ev_bl
  | with_reducible exact ev_non
  | with_reducible exact ev_c (by assumption)
  | with_reducible exact ea_nil
  | ((with_reducible apply ev_op); (walk_at "ev"); (walk_at "ev"); (walk_at "op"))
  | ((with_reducible apply ea_cons); (walk_at "ev"); (walk_at "ev"))
  | ((with_reducible apply ev_tupW); (walk_at "ev"); exact Nat.le_of_ble_eq_true rfl)
  | ((with_reducible apply ev_lstW); (walk_at "ev"); exact Nat.le_of_ble_eq_true rfl)
  | ((with_reducible apply et_testD); walk_at "ev")
  | ((with_reducible apply et_B); walk_at "ev")
  | ((with_reducible apply et_not); walk_at "ev")
  | ((with_reducible apply et_andF); (walk_at "ev"); (walk_at "dc"))
  | ((with_reducible apply et_andT); (walk_at "ev"); (walk_at "dc"); (walk_at "ev"))
  | ((with_reducible apply et_and); (walk_at "ev"); intro _; (walk_at "ev"))
  | ((with_reducible apply et_orT); (walk_at "ev"); (walk_at "dc"))
  | ((with_reducible apply et_orF); (walk_at "ev"); (walk_at "dc"); (walk_at "ev"))
  | ((with_reducible apply et_or); (walk_at "ev"); intro _; (walk_at "ev"))
  | ((with_reducible apply ev_andVF); (walk_at "ev"); (walk_at "dc"))
  | ((with_reducible apply ev_andVT); (walk_at "ev"); (walk_at "dc"); (walk_at "ev"))
  | ((with_reducible apply ev_orVT); (walk_at "ev"); (walk_at "dc"))
  | ((with_reducible apply ev_orVF); (walk_at "ev"); (walk_at "dc"); (walk_at "ev"))
  | ((with_reducible apply ev_andV); (walk_at "ev"); intro _; (walk_at "ev"))
  | ((with_reducible apply ev_orV); (walk_at "ev"); intro _; (walk_at "ev"))
  | ((with_reducible apply ev_notV); walk_at "ev")
  | ((with_reducible apply ev_neg); (walk_at "ev"))
  | ((with_reducible apply ev_isNE); (walk_at "ev"))
  | ((with_reducible apply ev_notN); (walk_at "ev"))
  | with_reducible exact lc_T
  | with_reducible exact eo_none
  | ((with_reducible apply eo_some); (walk_at "ev"))
  | ((with_reducible apply ev_slT); (walk_at "ev"); (walk_at "ev"); (walk_at "ev"); (exact fun h => Nat.ne_of_beq_eq_false rfl h.2); first | exact cut2 | exact cut3 | rfl)
  | ((with_reducible apply ev_slL); (walk_at "ev"); (walk_at "ev"); (walk_at "ev"); rfl)
  | ((with_reducible apply ev_kd); (walk_at "ev"); assumption; assumption)
  | ((with_reducible apply ev_call); (walk_at "ev"); assumption)
  | ((with_reducible apply ev_cb); (walk_at "ev"); (walk_at "cb"))
  | ((with_reducible apply ev_isi); (walk_at "ev"); (walk_at "dc"))
  | ((with_reducible apply ev_lcM); (walk_at "ev"); (exact Nat.le_of_ble_eq_true rfl); (walk_at "pd"))
  | ((with_reducible apply ei_list); (walk_at "ev"))
  | ((with_reducible apply ei_tup); (walk_at "ev"))
  | ((with_reducible apply ei_zip); (walk_at "ev"); assumption))
local macro_rules | `(tactic| walk_at "pd") => `(tactic| first | exact Paired.nil | ((apply Paired.cons); (walk_at "lc"); (walk_at "pd")))
local macro_rules | `(tactic| walk_at "cb") => `(tactic| first
  | with_reducible exact n_lenL
  | with_reducible exact n_lenT
  | ((with_reducible apply n_lenS); assumption)
  | with_reducible exact n_intB
  | with_reducible exact n_abs
  | with_reducible exact n_min
  | with_reducible exact n_tupL
  | with_reducible exact n_lisT
  | with_reducible exact n_lisL)
local macro_rules | `(tactic| walk_at "tr") => `(tactic| first
  | ((with_reducible apply q_retF); (walk_at "ev"); (walk_at "dc"))
  | ((with_reducible apply q_retT); (walk_at "ev"); (walk_at "dc"))
  | ((with_reducible apply q_retB); (walk_at "ev"))
  | ((with_reducible apply tr_retI); (walk_at "ev"))
  | ((with_reducible apply q_par); (walk_at "ev"))
  | ((with_reducible apply q_par3); (walk_at "ev"))
  | ((with_reducible apply q_newL); intro _)
  | ((with_reducible apply q_newD); intro _)
  | ((with_reducible apply q_asgA); (walk_at "ev"); (walk_at "tg")))
local macro_rules | `(tactic| walk_at "if") => `(tactic| first
  | ((with_reducible apply q_app (k := 0)); rfl; rfl; assumption; (walk_at "ev"))
  | with_reducible apply q_as
  | with_reducible apply q_nx
  | ((with_reducible apply q_par); (walk_at "ev"))
  | ((with_reducible apply q_par3); (walk_at "ev"))
  | ((with_reducible apply q_iF); (walk_at "ev"); (walk_at "dc"))
  | ((with_reducible apply q_iT); (walk_at "ev"); (walk_at "dc"))
  | ((with_reducible apply q_i); (walk_at "ev"))
  | ((with_reducible apply q_rt); (walk_at "ev"))
  | ((with_reducible apply q_asgA); (walk_at "ev"); (walk_at "tg")))


section
variable {P : Program} {w : World} {K : PySem.W.Frag} {mg : Str → Option Value} {base : Heap}
abbrev N_ending : List Str := ["promise", "page", "word", "name"]
theorem sc_ending : FnScope N_ending ["promise", "page"] (defScope s_ending) := ⟨rfl, rfl, rfl, by decide +kernel, rfl, by decide +kernel, by decide +kernel⟩
def R_ending (ds : List PyData) (d : PyData) : Prop := ∃ (q : Prom) (p : Page), ds = [q.page.d, Page.d p] ∧ d = (ending q p).d
theorem ok_ending (T : Tx w K mg) : Cal P w K mg base "ending" ["promise", "page"] 1 (spD K R_ending) := by
  refine cal_data T.d_ending sc_ending (fun _ _ _ _ _ _ us hl => match us, hl with | [_, _], _ => rfl) (fun ds d ⟨_, _, h1, h2⟩ => by subst h1; rfl) (fun f cdv A outer s H E hr => ⟨_,
    (pss_cons (ps_asg (pe_slice (r := rSL K) sl_SL (pv 1) po_none (po_some pe_int)) (pg_tup rfl (pgs_cons (pg_name (i := 2) sc_ending.nd rfl (by first | exact .inl rfl | exact .inr rfl)) (pgs_cons (pg_name (i := 3) sc_ending.nd rfl (by first | exact .inl rfl | exact .inr rfl)) pgs_nil))))
  (pss_cons (ps_if (PW.pt (pw_and (pt_cmpR (r := rEQ K) (op_EQ hr.units) (pv 2) pe_str (nomark _)) (pw_and1 (pt_cmpR (r := rEQ K) (op_EQ hr.units) (pe_ix (r := rIx K) ix_seq (pv 1) pe_int (fun _ _ => rfl)) (pe_ix (r := rIx K) ix_seq (pv 0) pe_int (fun _ _ => rfl)) (nomark _))))) (pss_one (ps_ret (pe_tup (pa_cons pe_str (pa_cons (pv 3) pa_nil))))) pss_nil)
  (pss_cons (ps_if (pt_cmpR (r := rEQ K) (op_EQ hr.units) (pv 2) pe_str (nomark _)) (pss_one (ps_ret (pe_tup (pa_cons (pe_ix (r := rIx K) ix_seq (pe_lst (pa_cons pe_str (pa_cons pe_str pa_nil))) (pe_callTy cr_INT (by rfl) T.int (by decide +kernel) (pa_cons (pe_cmpR (r := rEQ K) (op_EQ hr.units) (pe_ix (r := rIx K) ix_seq (pv 1) pe_int (fun _ _ => rfl)) (pe_ix (r := rIx K) ix_seq (pv 0) pe_int (fun _ _ => rfl)) (nomark _)) pa_nil)) (fun _ _ => rfl)) (pa_cons (pv 3) pa_nil))))) pss_nil)
  (pss_cons (ps_if (pt_cmpR (r := rEQ K) (op_EQ hr.units) (pv 2) pe_str (nomark _)) (pss_one (ps_ret (pe_tup (pa_cons (pe_ix (r := rIx K) ix_seq (pe_lst (pa_cons pe_str (pa_cons pe_str pa_nil))) (pe_callTy cr_INT (by rfl) T.int (by decide +kernel) (pa_cons (pe_cmpR (r := rEQ K) (op_EQ hr.units) (pe_ix (r := rIx K) ix_seq (pv 1) pe_int (fun _ _ => rfl)) (pe_ix (r := rIx K) ix_seq (pv 0) pe_int (fun _ _ => rfl)) (nomark _)) pa_nil)) (fun _ _ => rfl)) (pa_cons (pv 3) pa_nil))))) pss_nil)
  (pss_cons (ps_if (pt_cmpR (r := rEQ K) (op_EQ hr.units) (pv 2) pe_str (nomark _)) (pss_one (ps_ret (pe_tup (pa_cons pe_str (pa_cons (pv 3) pa_nil))))) pss_nil)
  (pss_one (ps_ret (pe_gr (by rfl) T.OPEN)))))))), fun ds d hR => ?_⟩)
  obtain ⟨q, p, rfl, rfl⟩ := hR
  obtain ⟨qn, qd, qt, qa, qb, qe⟩ := q
  walk_at "go"
  have ro := T.rOPEN
  cases p
  case loose n e l =>
    walk_at "tr"
    walk_at "tr"
    · intro h
      have h' : l = qn := by simpa using h
      walk_at "tr"
      simp only [ending, if_pos h']
      rfl
    · intro h
      have h' : ¬ l = qn := by simpa using h
      walk_at "tr"
      walk_at "tr"
      walk_at "tr"
      walk_at "tr"
      simp only [ending, if_neg h']
      rfl
  case give n e t a b y m =>
    walk_at "tr"
    walk_at "tr"
    walk_at "tr"
    walk_at "tr"
    simp only [ending]
    by_cases h : b = qb
    · rw [if_pos h, if_pos (decide_eq_true h)]; rfl
    · rw [if_neg h, if_neg (fun z => h (of_decide_eq_true z))]; rfl
  case keep n e t a m =>
    walk_at "tr"
    walk_at "tr"
    walk_at "tr"
    walk_at "tr"
    walk_at "tr"
    simp only [ending]
    by_cases h : a = qb
    · rw [if_pos h, if_pos (decide_eq_true h)]; rfl
    · rw [if_neg h, if_neg (fun z => h (of_decide_eq_true z))]; rfl
  case goes n e t a =>
    walk_at "tr"
    walk_at "tr"
    walk_at "tr"
    walk_at "tr"
    walk_at "tr"
    walk_at "tr"
    rfl
  all_goals
    walk_at "tr"
    walk_at "tr"
    walk_at "tr"
    walk_at "tr"
    walk_at "tr"
    walk_at "tr"
    rfl
abbrev N_became_of : List Str := ["pages", "rows", "promise", "day", "found", "page", "row"]
theorem sc_became_of : FnScope N_became_of ["pages", "rows", "promise", "day"] (defScope s_became_of) := ⟨rfl, rfl, rfl, by decide +kernel, rfl, by decide +kernel, by decide +kernel⟩
theorem min_eq (a b : Int) : (if b < a then b else a) = min a b := by
  rw [Int.min_def]
  split <;> split <;> omega
def R_became_of (ds : List PyData) (d : PyData) : Prop := ∃ (ps : List Page) (rows : List Row) (q : Prom) (day : Int), List.length ps = List.length rows ∧ (∀ p, p ∈ ps → Page.ok p) ∧ q.page.ok ∧ ds = [.list (ps.map Page.d), .list (rows.map Row.d), q.page.d, .int day] ∧ d = (becameOf ps rows q day).d
theorem ok_became_of (T : Tx w K mg) (c_ending : Cal P w K mg base "ending" ["promise", "page"] 1 (spD K R_ending)) : Cal P w K mg base "became_of" ["pages", "rows", "promise", "day"] 2 (spD K R_became_of) := by
  refine cal_data T.d_became_of sc_became_of (fun _ _ _ _ _ _ us hl => match us, hl with | [_, _, _, _], _ => rfl) (fun ds d ⟨_, _, _, _, _, _, _, h1, h2⟩ => by subst h1; rfl) (fun f cdv A outer s H E hr => ⟨_,
    (pss_cons (ps_set (i := 4) sc_became_of.nd rfl (by first | exact .inl rfl | exact .inr rfl) (pe_gr (by rfl) T.NONE))
  (pss_cons (ps_for PassesOwn.never rfl (pi_zip (by rfl) T.zip (pa_cons (pv 0) (pa_cons (pv 1) pa_nil))) (pg_tup rfl (pgs_cons (pg_name (i := 5) sc_became_of.nd rfl (by first | exact .inl rfl | exact .inr rfl)) (pgs_cons (pg_name (i := 6) sc_became_of.nd rfl (by first | exact .inl rfl | exact .inr rfl)) pgs_nil))) (pss_one (ps_if (PW.pt (pw_and (pt_cmpR op_LE (pe_ix (r := rIx K) ix_seq (pv 5) pe_int (fun _ _ => rfl)) (pv 3) (nomark _)) (pw_and (pt_cmpR (r := rEQ K) (op_EQ hr.units) (pv 5) (pv 2) (nomark _)) (pw_and1 (pt_val (pe_ix (r := rIx K) ix_seq (pv 6) pe_int (fun _ _ => rfl))))))) (pss_one (ps_set (i := 4) sc_became_of.nd rfl (by first | exact .inl rfl | exact .inr rfl) (pe_gr (by rfl) T.OPEN))) (pss_one (ps_if (PW.pt (pw_and (pt_cmpR (r := rEQ K) (op_EQ hr.units) (pv 4) (pe_gr (by rfl) T.OPEN) (nomark _)) (pw_and (pt_cmpR op_LE (pe_ix (r := rIx K) ix_seq (pv 5) pe_int (fun _ _ => rfl)) (pe_callB (cr_MIN rfl) (by rfl) T.min (by decide +kernel) (pa_cons (pv 3) (pa_cons (pe_ix (r := rIx K) ix_seq (pv 2) pe_int (fun _ _ => rfl)) pa_nil))) (nomark _)) (pw_and1 (pt_val (pe_ix (r := rIx K) ix_seq (pv 6) pe_int (fun _ _ => rfl))))))) (pss_one (ps_set (i := 4) sc_became_of.nd rfl (by first | exact .inl rfl | exact .inr rfl) (pe_cal c_ending (hr.mono (by decide)) (by rfl) (pa_cons (pv 2) (pa_cons (pv 5) pa_nil))))) pss_nil)))))
  (pss_cons (ps_if (PW.pt (pw_and (pt_cmpR (r := rEQ K) (op_EQ hr.units) (pv 4) (pe_gr (by rfl) T.OPEN) (nomark _)) (pw_and1 (pt_cmpR op_LT (pe_ix (r := rIx K) ix_seq (pv 2) pe_int (fun _ _ => rfl)) (pv 3) (nomark _))))) (pss_one (ps_ret (pe_gr (by rfl) T.LAPSED))) pss_nil)
  (pss_one (ps_ret (pv 4)))))), fun ds d hR => ?_⟩)
  obtain ⟨ps, rows, q, day, hl, hp, hq, rfl, rfl⟩ := hR
  walk_at "go"
  have ro := T.rOPEN
  have rn := T.rNONE
  have rl := T.rLAPSED
  have so : SeqAt.shaped (.tuple [.str "open"]) = true := End.sh End.ok_open
  walk_at "tr"
  have hzip : ∀ x, x ∈ ps.zip rows → x.1.ok := fun x hx => hp _ (List.of_mem_zip (a := x.1) (b := x.2) hx).1
  refine q_forX (is := anyS) encR (ps.zip rows) (ei_zipR (by walk_at "ev") hl) (fun pre s' => ∃ c1 c2, s' = ([.val (.list (ps.map Page.d)), .val (.list (rows.map Row.d)), .val q.page.d, .val (.int day), .val (End.d (pre.foldl (becameStep q day) .none_)), c1, c2], [])) ⟨_, _, rfl⟩ ?_ ?_
  · rintro pre x post _ ex ⟨c1, c2, rfl⟩
    have hpre : (pre.foldl (becameStep q day) .none_).ok := became_fold_ok End.ok_none fun y hy => hzip y (by rw [ex]; simp [hy])
    have hx := hzip x (by rw [ex]; simp)
    have sx := Page.sh hx
    have sq := Page.sh hq
    have sf := End.sh hpre
    obtain ⟨p, row⟩ := x
    generalize hf : pre.foldl (becameStep q day) .none_ = fd at *
    have et : (pre ++ [(p, row)]).foldl (becameStep q day) .none_ = becameStep q day fd (p, row) := by rw [List.foldl_append, hf]; rfl
    rw [et]
    refine forI (by walk_at "tg") ?_
    have eo : fd = .open_ → PyData.eqv fd.d (.tuple [.str "open"]) = true := fun h => by rw [eqv_open, h]; rfl
    have r1 : R_ending [q.page.d, p.d] (ending q p).d := ⟨q, p, rfl, rfl⟩
    have ed : q.page.ds = [.str "promise", .str q.name, .int q.day, .str q.thing, .str q.one, .str q.other, .int q.due] := rfl
    refine tr_if (b := decide (p.day ≤ day) && (PyData.eqv p.d q.page.d && row.2.1)) (by walk_at "ev") ?_ ?_
    · intro h
      rw [eqv_page] at h
      simp only [Bool.and_eq_true, decide_eq_true_eq] at h
      refine tr_asgG (is := anyS) (by walk_at "ev") (by walk_at "tg") ⟨.val p.d, .val row.d, ?_⟩
      rw [becameStep, if_pos h]
      rfl
    · intro h
      rw [eqv_page] at h
      have h' : ¬ (p.day ≤ day ∧ p = q.page ∧ row.2.1 = true) := by
        rintro ⟨a, b, c⟩
        rw [decide_eq_true a, decide_eq_true b, c] at h
        cases h
      refine tr_if (b := PyData.eqv fd.d (.tuple [.str "open"]) && (decide (p.day ≤ (if q.due < day then q.due else day)) && row.2.1)) (by walk_at "ev") ?_ ?_
      · intro h2
        rw [eqv_open, min_eq] at h2
        simp only [Bool.and_eq_true, decide_eq_true_eq] at h2
        refine tr_asgG (is := anyS) (by walk_at "ev") (by walk_at "tg") ⟨.val p.d, .val row.d, ?_⟩
        rw [becameStep, if_neg h', if_pos h2]
        rfl
      · intro h2
        rw [eqv_open, min_eq] at h2
        have h2' : ¬ (fd = .open_ ∧ p.day ≤ min day q.due ∧ row.2.1 = true) := by
          rintro ⟨a, b, c⟩
          rw [decide_eq_true a, decide_eq_true b, c] at h2
          cases h2
        refine tr_next ⟨.val p.d, .val row.d, ?_⟩
        rw [becameStep, if_neg h', if_neg h2']
        rfl
  · rintro _ ⟨c1, c2, rfl⟩
    have hall : ((ps.zip rows).foldl (becameStep q day) .none_).ok := became_fold_ok End.ok_none hzip
    have sf := End.sh hall
    have eb : becameOf ps rows q day = if ((ps.zip rows).foldl (becameStep q day) .none_) = .open_ ∧ q.due < day then .lapsed else ((ps.zip rows).foldl (becameStep q day) .none_) := rfl
    rw [eb]
    generalize hf : (ps.zip rows).foldl (becameStep q day) .none_ = fd at *
    walk_at "tr"
    · intro h
      rw [eqv_open] at h
      simp only [Bool.and_eq_true, decide_eq_true_eq] at h
      walk_at "tr"
      rw [if_pos h]
      rfl
    · intro h
      rw [eqv_open] at h
      have h' : ¬ (fd = .open_ ∧ q.due < day) := by
        rintro ⟨a, b⟩
        have b' : decide (q.due < day) = true := decide_eq_true b
        rw [decide_eq_true a] at h
        have h2 : decide (q.due < day) = false := by simpa using h
        rw [b'] at h2
        cases h2
      walk_at "tr"
      rw [if_neg h']
abbrev N_open_of : List Str := ["pages", "rows", "day", "some", "page"]
theorem sc_open_of : FnScope N_open_of ["pages", "rows", "day"] (defScope s_open_of) := ⟨rfl, rfl, rfl, by decide +kernel, rfl, by decide +kernel, by decide +kernel⟩
def R_open_of (ds : List PyData) (d : PyData) : Prop := ∃ (ps : List Page) (rows : List Row) (day : Int), List.length ps = List.length rows ∧ (∀ p, p ∈ ps → Page.ok p) ∧ ps.length ≤ 1000 ∧ ds = [.list (ps.map Page.d), .list (rows.map Row.d), .int day] ∧ d = .list ((openOf ps rows day).map Page.d)
def Page.isProm (p : Page) : Bool := p.prom?.isSome
theorem ok_open_of (T : Tx w K mg) (c_became_of : Cal P w K mg base "became_of" ["pages", "rows", "promise", "day"] 2 (spD K R_became_of)) : Cal P w K mg base "open_of" ["pages", "rows", "day"] 3 (spD K R_open_of) := by
  refine cal_data T.d_open_of sc_open_of (fun _ _ _ _ _ _ us hl => match us, hl with | [_, _, _], _ => rfl) (fun ds d ⟨_, _, _, _, _, _, h1, h2⟩ => by subst h1; rfl) (fun f cdv A outer s H E hr => ⟨_,
    (pss_cons (ps_setLc (i := 3) (own := [("page", 4)]) (g := gName 4) rfl sc_open_of.nd rfl rfl (sw_true rfl rfl rfl (by decide +kernel)) (pi_list (pv 0)) (blkOk_by (own := [("page", 4)]) (N := N_open_of) (sc := defScope s_open_of) (by decide +kernel)) (fun _ _ _ _ _ => (pg_name (i := 4) sc_open_of.nd rfl (.inl rfl))) (fun _ _ _ _ _ => (pts_one (pt_cmpR (r := rEQ K) (op_EQ hr.units) (pe_ix (r := rIx K) ix_seq (pv 4) pe_int (fun _ _ => rfl)) pe_str (nomark _)))) (fun _ _ _ _ _ => (pv 4)))
  (pss_one (ps_ret (pe_lc (own := [("page", 4)]) (g := gName 4) rfl sc_open_of.nd (pi_list (pv 3)) (blkOk_by (own := [("page", 4)]) (N := N_open_of) (sc := defScope s_open_of) (by decide +kernel)) (fun _ _ _ _ _ => (pg_name (i := 4) sc_open_of.nd rfl (.inl rfl))) (fun _ _ _ _ _ => (pts_one (pt_cmpR (r := rEQ K) (op_EQ hr.units) (pe_cal c_became_of (hr.mono (by decide)) (by rfl) (pa_cons (pv 0) (pa_cons (pv 1) (pa_cons (pv 4) (pa_cons (pv 2) pa_nil))))) (pe_gr (by rfl) T.OPEN) (nomark _)))) (fun _ _ _ _ _ => (pv 4)))))), fun ds d hR => ?_⟩)
  obtain ⟨ps, rows, day, hl, hp, hfew, rfl, rfl⟩ := hR
  walk_at "go"
  have ro := T.rOPEN
  have so : SeqAt.shaped (.tuple [.str "open"]) = true := End.sh End.ok_open
  refine q_asgG (is := anyS) (ev_lcX Page.d ps (by walk_at "ev") Page.isProm Page.d (by omega) ?_) (by walk_at "tg") ?_
  · intro x hx
    apply lcI
    · walk_at "tg"
    · cases x <;> ((apply EvT.is); (walk_at "ev"); (walk_at "bb"))
    · intro _
      walk_at "ev"
  have hlen := List.length_filter_le Page.isProm ps
  refine tr_retI (ev_lcX Page.d (ps.filter Page.isProm) (by walk_at "ev") (fun p => match p.prom? with
    | some q => decide (becameOf ps rows q day = .open_)
    | none => false) Page.d (by omega) ?_) ?_
  · intro x hx
    obtain ⟨hx1, hx2⟩ := List.mem_filter.mp hx
    cases x
    case promise n e t a b u =>
      have r1 : R_became_of [.list (ps.map Page.d), .list (rows.map Row.d), (Page.promise n e t a b u).d, .int day] (becameOf ps rows ⟨n, e, t, a, b, u⟩ day).d := ⟨ps, rows, ⟨n, e, t, a, b, u⟩, day, hl, hp, hp _ hx1, rfl, rfl⟩
      have sb : SeqAt.shaped (becameOf ps rows ⟨n, e, t, a, b, u⟩ day).d = true := by
        refine End.sh ?_
        have eb : becameOf ps rows ⟨n, e, t, a, b, u⟩ day = if ((ps.zip rows).foldl (becameStep ⟨n, e, t, a, b, u⟩ day) .none_) = .open_ ∧ u < day then .lapsed else ((ps.zip rows).foldl (becameStep ⟨n, e, t, a, b, u⟩ day) .none_) := rfl
        rw [eb]
        have h1 : ((ps.zip rows).foldl (becameStep ⟨n, e, t, a, b, u⟩ day) .none_).ok := became_fold_ok End.ok_none fun x hx => hp _ (List.of_mem_zip (a := x.1) (b := x.2) hx).1
        split
        · unfold End.ok; decide +kernel
        · exact h1
      apply lcI
      · walk_at "tg"
      · apply EvT.is
        · walk_at "ev"
        · exact eqv_open _
      · intro _
        walk_at "ev"
    all_goals (simp [Page.isProm, Page.prom?] at hx2)
  · unfold openOf
    rw [List.filter_filter]
    congr 2
    apply List.filter_congr
    intro x _
    cases x <;> simp [Page.isProm, Page.prom?]
end
end K92
end
section -- K92F11
set_option maxRecDepth 100000
set_option maxHeartbeats 1000000
namespace K92
open PySem PySem.Spec PyProof.Rows L2
local macro_rules | `(tactic| walk_at "dc") => `(tactic| first | decide +kernel | with_reducible rfl)
local macro_rules | `(tactic| walk_at "bb") => `(tactic| first | exact Eq.trans (b := true) (by decide +kernel) rfl | exact Eq.trans (b := false) (by decide +kernel) rfl)
local macro_rules | `(tactic| walk_at "go") => `(tactic| dsimp only [cxOf, Cx.nox, startC, List.map_cons, List.map_nil, List.length_cons, List.length_nil])
local macro_rules | `(tactic| walk_at "at") => `(tactic| first | with_reducible exact at_if | with_reducible exact at0 _ _ | with_reducible exact at1 _ _ _ | with_reducible exact at2 _ _ _ _ | rfl | exact at_word _ | exact at_name _ | exact at_day _)
local macro_rules | `(tactic| walk_at "op") => `(tactic| first
  | ((with_reducible apply o_ixT); walk_at "at")
  | ((with_reducible apply o_ixL); walk_at "at")
  | with_reducible exact o_eqS
  | with_reducible exact o_eqI
  | with_reducible exact o_neS
  | with_reducible exact o_neI
  | with_reducible exact o_le
  | with_reducible exact o_lt
  | with_reducible exact o_addI
  | with_reducible exact o_sub
  | ((with_reducible apply o_inT); first | assumption | rfl)
  | ((with_reducible apply o_inL); first | assumption | rfl)
  | with_reducible exact o_inS
  | with_reducible exact o_neNS
  | ((with_reducible apply o_neD); assumption; assumption)
  | ((with_reducible apply o_eqD); assumption; assumption))
local macro_rules | `(tactic| walk_at "tg") => `(tactic| first
  | ((with_reducible apply tg_name); decide)
  | ((with_reducible apply tg_tupW); (walk_at "tg"); rfl)
  | with_reducible exact tgs_nil
  | ((with_reducible apply tgs_cons); (walk_at "tg"); (walk_at "tg")))
local macro_rules | `(tactic| walk_at "lc") => `(tactic| ((apply lcI); (walk_at "tg"); (apply EvT.is); (walk_at "ev"); rfl; (intro _); (apply Ev.is); (walk_at "ev"); rfl))
local macro_rules | `(tactic| walk_at "ev") => `(tactic| first
  | ((with_reducible apply ev_var); rfl)
  | with_reducible exact ev_str
  | with_reducible exact ev_int
  | with_reducible exact ev_bl
  | with_reducible exact ev_non
  | with_reducible exact ev_c (by assumption)
  | with_reducible exact ea_nil
  | ((with_reducible apply ev_op); (walk_at "ev"); (walk_at "ev"); (walk_at "op"))
  | ((with_reducible apply ea_cons); (walk_at "ev"); (walk_at "ev"))
  | ((with_reducible apply ev_tupW); (walk_at "ev"); exact Nat.le_of_ble_eq_true rfl)
  | ((with_reducible apply ev_lstW); (walk_at "ev"); exact Nat.le_of_ble_eq_true rfl)
  | ((with_reducible apply et_testD); walk_at "ev")
  | ((with_reducible apply et_B); walk_at "ev")
  | ((with_reducible apply et_not); walk_at "ev")
  | ((with_reducible apply et_andF); (walk_at "ev"); (walk_at "dc"))
  | ((with_reducible apply et_andT); (walk_at "ev"); (walk_at "dc"); (walk_at "ev"))
  | ((with_reducible apply et_and); (walk_at "ev"); intro _; (walk_at "ev"))
  | ((with_reducible apply et_orT); (walk_at "ev"); (walk_at "dc"))
  | ((with_reducible apply et_orF); (walk_at "ev"); (walk_at "dc"); (walk_at "ev"))
  | ((with_reducible apply et_or); (walk_at "ev"); intro _; (walk_at "ev"))
  | ((with_reducible apply ev_andVF); (walk_at "ev"); (walk_at "dc"))
  | ((with_reducible apply ev_andVT); (walk_at "ev"); (walk_at "dc"); (walk_at "ev"))
  | ((with_reducible apply ev_orVT); (walk_at "ev"); (walk_at "dc"))
  | ((with_reducible apply ev_orVF); (walk_at "ev"); (walk_at "dc"); (walk_at "ev"))
  | ((with_reducible apply ev_andV); (walk_at "ev"); intro _; (walk_at "ev"))
  | ((with_reducible apply ev_orV); (walk_at "ev"); intro _; (walk_at "ev"))
  | ((with_reducible apply ev_notV); walk_at "ev")
  | ((with_reducible apply ev_neg); (walk_at "ev"))
  | ((with_reducible apply ev_isNE); (walk_at "ev"))
  | ((with_reducible apply ev_notN); (walk_at "ev"))
  | with_reducible exact lc_T
  | with_reducible exact eo_none
  | ((with_reducible apply eo_some); (walk_at "ev"))
  | ((with_reducible apply ev_slT); (walk_at "ev"); (walk_at "ev"); (walk_at "ev"); (exact fun h => Nat.ne_of_beq_eq_false rfl h.2); first | exact cut2 | exact cut3 | rfl)
  | ((with_reducible apply ev_slL); (walk_at "ev"); (walk_at "ev"); (walk_at "ev"); rfl)
  | ((with_reducible apply ev_kd); (walk_at "ev"); assumption; assumption)
  | ((with_reducible apply ev_call); (walk_at "ev"); assumption)
  | ((with_reducible apply ev_cb); (walk_at "ev"); (walk_at "cb"))
  | ((with_reducible apply ev_isi); (walk_at "ev"); (walk_at "dc"))
  | ((with_reducible apply ev_lcM); (walk_at "ev"); (exact Nat.le_of_ble_eq_true rfl); (walk_at "pd"))
  | ((with_reducible apply ei_list); (walk_at "ev"))
  | ((with_reducible apply ei_tup); (walk_at "ev"))
  | ((with_reducible apply ei_zip); (walk_at "ev"); assumption))
local macro_rules | `(tactic| walk_at "pd") => `(tactic| first | exact Paired.nil | ((apply Paired.cons); (walk_at "lc"); (walk_at "pd")))
local macro_rules | `(tactic| walk_at "cb") => `(tactic| first
  | with_reducible exact n_lenL
  | with_reducible exact n_lenT
  | ((with_reducible apply n_lenS); assumption)
  | with_reducible exact n_intB
  | with_reducible exact n_abs
  | with_reducible exact n_min
  | with_reducible exact n_tupL
  | with_reducible exact n_lisT
  | with_reducible exact n_lisL)
local macro_rules | `(tactic| walk_at "tr") => `(tactic| first
  | ((with_reducible apply q_retF); (walk_at "ev"); (walk_at "dc"))
  | ((with_reducible apply q_retT); (walk_at "ev"); (walk_at "dc"))
  | ((with_reducible apply q_retB); (walk_at "ev"))
  | ((with_reducible apply tr_retI); (walk_at "ev"))
  | ((with_reducible apply q_par); (walk_at "ev"))
  | ((with_reducible apply q_par3); (walk_at "ev"))
  | ((with_reducible apply q_newL); intro _)
  | ((with_reducible apply q_newD); intro _)
  | ((with_reducible apply q_asgA); (walk_at "ev"); (walk_at "tg")))
local macro_rules | `(tactic| walk_at "if") => `(tactic| first
  | ((with_reducible apply q_app (k := 0)); rfl; rfl; assumption; (walk_at "ev"))
  | with_reducible apply q_as
  | with_reducible apply q_nx
  | ((with_reducible apply q_par); (walk_at "ev"))
  | ((with_reducible apply q_par3); (walk_at "ev"))
  | ((with_reducible apply q_iF); (walk_at "ev"); (walk_at "dc"))
  | ((with_reducible apply q_iT); (walk_at "ev"); (walk_at "dc"))
  | ((with_reducible apply q_i); (walk_at "ev"))
  | ((with_reducible apply q_rt); (walk_at "ev"))
  | ((with_reducible apply q_asgA); (walk_at "ev"); (walk_at "tg")))


section
variable {P : Program} {w : World} {K : PySem.W.Frag} {mg : Str → Option Value} {base : Heap}
theorem things_le (p : Page) : p.things.length ≤ 2 := by cases p <;> simp [Page.things]
theorem houses_le (p : Page) : p.houses.length ≤ 2 := by cases p <;> simp [Page.houses]
theorem kinds_le (p : Page) : p.kinds.length ≤ 2 := by cases p <;> simp [Page.kinds]
theorem thingsOf_ok {b : Book} (hb : b.ok) : ∀ t, t ∈ thingsOf b.pages → okS t := fun t ht => by
  obtain ⟨p, hp, hx⟩ := namesBy_mem.mp ht
  exact Page.ok_things (hb.pages p hp) t hx
theorem thingsOf_len {b : Book} (hb : b.ok) : (thingsOf b.pages).length ≤ 60 := by
  have h1 := keys_len (b.pages.flatMap Page.things)
  have h2 := flat_len things_le b.pages
  have h3 := hb.few
  have h4 : (thingsOf b.pages).length = (keysOf (b.pages.flatMap Page.things)).length := (sortS_perm _).length_eq
  omega
abbrev N_things_of : List Str := ["book"]
theorem sc_things_of : FnScope N_things_of ["book"] (defScope s_things_of) := ⟨rfl, rfl, rfl, by decide +kernel, rfl, by decide +kernel, by decide +kernel⟩
def R_things_of (ds : List PyData) (d : PyData) : Prop := ∃ b, b.ok ∧ ds = [Book.d b] ∧ d = .list ((thingsOf b.pages).map .str)
theorem ok_things_of (T : Tx w K mg) (c_things_in : Cal P w K mg base "things_in" ["page"] 1 (spD K R_things_in)) (c_all_named_things_in : Cal P w K mg base "all_named" ["pages", "names_in"] 2 (spN K mg "things_in" Page.things .tuple)) : Cal P w K mg base "things_of" ["book"] 3 (spD K R_things_of) := by
  obtain ⟨fT, fdT, g_things_in, _, _, _⟩ := c_things_in.ex
  refine cal_data T.d_things_of sc_things_of (fun _ _ _ _ _ _ us hl => match us, hl with | [_], _ => rfl) (fun ds d ⟨_, _, h1, h2⟩ => by subst h1; rfl) (fun f cdv A outer s H E hr => ⟨_,
    (pss_one (ps_ret (pe_cal c_all_named_things_in (hr.mono (by decide)) (by rfl) (pa_cons (pe_ix (r := rIx K) ix_seq (pv 0) pe_int (fun _ _ => rfl)) (pa_cons (pe_gr (by rfl) g_things_in) pa_nil))))), fun ds d hR => ?_⟩)
  obtain ⟨b, hb, rfl, rfl⟩ := hR
  walk_at "go"
  exact tr_retI (ev_callN (c := PyData.tuple) (ps := b.pages) (by walk_at "ev") g_things_in hb.few) rfl
abbrev N_fitting : List Str := ["book", "found", "thing", "name", "fits_here", "stand", "page"]
theorem sc_fitting : FnScope N_fitting ["book"] (defScope s_fitting) := ⟨rfl, rfl, rfl, by decide +kernel, rfl, by decide +kernel, by decide +kernel⟩
def R_fitting (ds : List PyData) (d : PyData) : Prop := ∃ b, b.ok ∧ ds = [Book.d b] ∧ d = .dict (asD .bool (fitting b))
theorem rowPut_len {l : List (Str × Bool)} {r : Row} : (rowPut l r).length ≤ l.length + 1 := putA_len
theorem tracks_len {b : Book} (hb : b.ok) : ∀ l : List Str, (l.flatMap (track b)).length ≤ 30 * l.length
  | [] => Nat.le_refl _
  | t :: l => by
    rw [List.flatMap_cons, List.length_append, List.length_cons]
    have h1 : (track b t).length ≤ 30 := by
      unfold track
      rw [← track_len]
      exact Nat.le_trans (List.length_filter_le _ _) hb.few
    have h2 := tracks_len hb l
    omega
theorem ok_fitting (T : Tx w K mg) (c_things_of : Cal P w K mg base "things_of" ["book"] 3 (spD K R_things_of)) (c_track : Cal P w K mg base "track" ["book", "thing"] 6 (spD K R_track)) : Cal P w K mg base "fitting" ["book"] 7 (spD K R_fitting) := by
  refine cal_data T.d_fitting sc_fitting (fun _ _ _ _ _ _ us hl => match us, hl with | [_], _ => rfl) (fun ds d ⟨_, _, h1, h2⟩ => by subst h1; rfl) (fun f cdv A outer s H E hr => ⟨_,
    (pss_cons (ps_set (i := 1) sc_fitting.nd rfl (by first | exact .inl rfl | exact .inr rfl) pe_dnewK)
  (pss_cons (ps_for PassesOwn.never rfl (pi_list (pe_cal c_things_of (hr.mono (by decide)) (by rfl) (pa_cons (pv 0) pa_nil))) (pg_name (i := 2) sc_fitting.nd rfl (by first | exact .inl rfl | exact .inr rfl)) (pss_one (ps_for PassesOwn.never rfl (pi_list (pe_cal c_track (hr.mono (by decide)) (by rfl) (pa_cons (pv 0) (pa_cons (pv 2) pa_nil)))) (pg_tup rfl (pgs_cons (pg_name (i := 3) sc_fitting.nd rfl (by first | exact .inl rfl | exact .inr rfl)) (pgs_cons (pg_name (i := 4) sc_fitting.nd rfl (by first | exact .inl rfl | exact .inr rfl)) (pgs_cons (pg_name (i := 5) sc_fitting.nd rfl (by first | exact .inl rfl | exact .inr rfl)) pgs_nil)))) (pss_one (ps_dput (u1 hr.units) (pv 1) (pv 3) (pv 4) rfl)))))
  (pss_cons (ps_for PassesOwn.never rfl (pi_tup (pe_ix (r := rIx K) ix_seq (pv 0) pe_int (fun _ _ => rfl))) (pg_name (i := 6) sc_fitting.nd rfl (by first | exact .inl rfl | exact .inr rfl)) (pss_one (ps_expr (pe_dsetd (pv 1) (pe_ix (r := rIx K) ix_seq (pv 6) pe_int (fun _ _ => rfl)) (pe_cmpR (r := rIN K false) op_IN (pe_ix (r := rIx K) ix_seq (pv 6) pe_int (fun _ _ => rfl)) (pe_gr (by rfl) T.ALWAYS) rfl) ⟨rfl, rfl, rfl, rfl⟩))))
  (pss_one (ps_ret (pv 1)))))), fun ds d hR => ?_⟩)
  obtain ⟨b, hb, rfl, rfl⟩ := hR
  walk_at "go"
  have ra := T.rALWAYS
  have r1 : R_things_of [Book.d b] (.list ((thingsOf b.pages).map .str)) := ⟨b, hb, rfl, rfl⟩
  have hall : (tracksFit b).length ≤ 1800 := by
    have h1 := foldlen (fun l x => rowPut_len (l := l) (r := x)) ((thingsOf b.pages).flatMap (track b)) []
    have h2 := tracks_len hb (thingsOf b.pages)
    have h3 := thingsOf_len hb
    have h4 : (tracksFit b).length ≤ ([] : List (Str × Bool)).length + ((thingsOf b.pages).flatMap (track b)).length := h1
    simp only [List.length_nil] at h4
    omega
  refine q_newD fun p => ?_
  refine q_forX (is := anyS) PyData.str (thingsOf b.pages) (by walk_at "ev") (fun pre s' => ∃ c2 c3 c4 c5 c6, s' = ([.val b.d, .ref p, c2, c3, c4, c5, c6], [(p, .dic (asD .bool ((pre.flatMap (track b)).foldl rowPut [])))])) ⟨_, _, _, _, _, rfl⟩ ?_ ?_
  · rintro pre x post _ ex ⟨c2, c3, c4, c5, c6, rfl⟩
    have hx : okS x := thingsOf_ok hb x (by rw [ex]; simp)
    have hpre : pre.length < 60 := by
      have h := thingsOf_len hb
      rw [ex] at h
      simp at h
      omega
    have r2 : R_track [Book.d b, .str x] (.list ((track b x).map Row.d)) := ⟨b, x, hb, hx, rfl, rfl⟩
    refine forI (by walk_at "tg") ?_
    apply tr_one
    refine q_forX (is := anyS) Row.d (track b x) (by walk_at "ev") (fun pre2 s' => ∃ c3 c4 c5, s' = ([.val b.d, .ref p, .val (.str x), c3, c4, c5, c6], [(p, .dic (asD .bool ((pre.flatMap (track b) ++ pre2).foldl rowPut [])))])) ⟨c3, c4, c5, by rw [List.append_nil]; rfl⟩ ?_ ?_
    · rintro pre2 y post2 _ ex2 ⟨c3, c4, c5, rfl⟩
      obtain ⟨rn, rf, rs⟩ := y
      refine forI (by walk_at "tg") ?_
      refine tr_dput' (j := 0) rfl rfl ?_ (by walk_at "ev") (by walk_at "ev") (P := Eq (.bool rf)) fun d hd => ?_
      · rw [asD_len]
        have h1 := foldlen (fun l x => rowPut_len (l := l) (r := x)) (pre.flatMap (track b) ++ pre2) []
        have h2 := tracks_len hb pre
        have h3 : pre2.length ≤ (track b x).length := by rw [ex2]; simp
        have h4 : (track b x).length ≤ 30 := by
          unfold track
          rw [← track_len]
          exact Nat.le_trans (List.length_filter_le _ _) hb.few
        rw [List.length_append] at h1
        simp only [List.length_nil] at h1
        omega
      · subst hd
        refine ⟨.val (.str rn), .val (.bool rf), .val rs.d, ?_⟩
        have e : (pre.flatMap (track b) ++ (pre2 ++ [(rn, rf, rs)])).foldl rowPut [] = rowPut ((pre.flatMap (track b) ++ pre2).foldl rowPut []) (rn, rf, rs) := by rw [← List.append_assoc, List.foldl_append]; rfl
        rw [asD_put, e]
        rfl
    · rintro _ ⟨c3, c4, c5, rfl⟩
      refine tr_next ⟨.val (.str x), c3, c4, c5, c6, ?_⟩
      rw [List.flatMap_append]
      simp
  · rintro _ ⟨c2, c3, c4, c5, c6, rfl⟩
    refine q_forX (is := anyS) Page.d b.pages (by walk_at "ev") (fun pre s' => ∃ c6, s' = ([.val b.d, .ref p, c2, c3, c4, c5, c6], [(p, .dic (asD .bool (pre.foldl setd (tracksFit b))))])) ⟨_, rfl⟩ ?_ ?_
    · rintro pre x post _ ex ⟨c6, rfl⟩
      refine forI (by walk_at "tg") ?_
      have ea : Ev C0 K (tOp (rIN K false) (tOp (rIx K) (tVar 6) (tC (.int 0))) (tC (.ref (He.ga K "ALWAYS")))) [Cell.val b.d, Cell.ref p, c2, c3, c4, c5, Cell.val x.d] (Eq (.bool x.always)) := by
        cases x <;> ((apply Ev.is); (walk_at "ev"); (exact congrArg PyData.bool (by walk_at "bb")))
      refine tr_dsetd (j := 0) (k := x.name) rfl rfl ?_ (by walk_at "ev") ea ⟨.val x.d, ?_⟩
      · rw [asD_len]
        have h1 := foldlen (fun l x => setd_len (l := l) (p := x)) pre (tracksFit b)
        have h2 : pre.length ≤ b.pages.length := by rw [ex]; simp
        have h3 := hb.few
        omega
      · have e : (pre ++ [x]).foldl setd (tracksFit b) = setd (pre.foldl setd (tracksFit b)) x := by rw [List.foldl_append]; rfl
        rw [e, ← setd_asD]
        rfl
    · rintro _ ⟨c6, rfl⟩
      exact tr_retK (k := 0) rfl rfl rfl
abbrev N_unfit : List Str := ["book", "known", "page"]
theorem sc_unfit : FnScope N_unfit ["book"] (defScope s_unfit) := ⟨rfl, rfl, rfl, by decide +kernel, rfl, by decide +kernel, by decide +kernel⟩
def R_unfit (ds : List PyData) (d : PyData) : Prop := ∃ b, b.ok ∧ ds = [Book.d b] ∧ d = .list ((unfit b).map .str)
theorem ok_unfit (T : Tx w K mg) (c_fitting : Cal P w K mg base "fitting" ["book"] 7 (spD K R_fitting)) : Cal P w K mg base "unfit" ["book"] 8 (spD K R_unfit) := by
  refine cal_data T.d_unfit sc_unfit (fun _ _ _ _ _ _ us hl => match us, hl with | [_], _ => rfl) (fun ds d ⟨_, _, h1, h2⟩ => by subst h1; rfl) (fun f cdv A outer s H E hr => ⟨_,
    (pss_cons (ps_set (i := 1) sc_unfit.nd rfl (by first | exact .inl rfl | exact .inr rfl) (pe_cal c_fitting (hr.mono (by decide)) (by rfl) (pa_cons (pv 0) pa_nil)))
  (pss_one (ps_ret (pe_lc (own := [("page", 2)]) (g := gName 2) rfl sc_unfit.nd (pi_tup (pe_ix (r := rIx K) ix_seq (pv 0) pe_int (fun _ _ => rfl))) (blkOk_by (own := [("page", 2)]) (N := N_unfit) (sc := defScope s_unfit) (by decide +kernel)) (fun _ _ _ _ _ => (pg_name (i := 2) sc_unfit.nd rfl (.inl rfl))) (fun _ _ _ _ _ => (pts_one (pt_not (pt_val (pe_dget (u1 hr.units) (pv 1) (pe_ix (r := rIx K) ix_seq (pv 2) pe_int (fun _ _ => rfl)) (fun _ _ => rfl)))))) (fun _ _ _ _ _ => (pe_ix (r := rIx K) ix_seq (pv 2) pe_int (fun _ _ => rfl))))))), fun ds d hR => ?_⟩)
  obtain ⟨b, hb, rfl, rfl⟩ := hR
  walk_at "go"
  have r1 : R_fitting [Book.d b] (.dict (asD .bool (fitting b))) := ⟨b, hb, rfl, rfl⟩
  walk_at "tr"
  refine tr_retI (Ev.is (ev_lcX Page.d b.pages (by walk_at "ev") (misfit b) (fun p => .str p.name) (by have := hb.few; omega) ?_) (show _ = PyData.list ((unfit b).map .str) by unfold unfit; rw [List.map_map]; rfl)) rfl
  intro x hx
  obtain ⟨v, hv⟩ := fitting_has hx
  apply lcI
  · walk_at "tg"
  · have hg : getE (asD .bool (fitting b)) x.name = some (.bool v) := by rw [asD_get, hv]; rfl
    refine EvT.is (et_not (et_B (ev_dget (es := asD .bool (fitting b)) (k := x.name) (by walk_at "ev") (by walk_at "ev") hg))) ?_
    unfold misfit
    rw [hv]
    rfl
  · intro _
    walk_at "ev"
abbrev N_all_dues : List Str := ["book", "found", "thing", "pages"]
theorem sc_all_dues : FnScope N_all_dues ["book"] (defScope s_all_dues) := ⟨rfl, rfl, rfl, by decide +kernel, rfl, by decide +kernel, by decide +kernel⟩
def R_all_dues (ds : List PyData) (d : PyData) : Prop := ∃ b, b.ok ∧ ds = [Book.d b] ∧ d = .list ((allDues b).map Due.d)
theorem dues_len (ps : List Page) : (duesOf ps (trackOf ps)).length ≤ ps.length := by
  have h := duesFrom_len (ps.zip (trackOf ps)) .out
  rw [List.length_zip] at h
  unfold duesOf
  omega
theorem plainDues_len : ∀ l : List Page, (plainDues l).length ≤ l.length
  | [] => Nat.le_refl _
  | y :: l => by
    have e : plainDues (y :: l) = plainDue y ++ plainDues l := by simp [plainDues]
    have h1 : (plainDue y).length ≤ 1 := by cases y <;> simp [plainDue]
    have h2 := plainDues_len l
    rw [e, List.length_append, List.length_cons]
    omega
theorem thing_dues_len {b : Book} (hb : b.ok) : ∀ l : List Str, (l.flatMap fun t => duesOf (pagesOf b.pages t) (track b t)).length ≤ 30 * l.length
  | [] => Nat.le_refl _
  | t :: l => by
    rw [List.flatMap_cons, List.length_append, List.length_cons]
    have h1 : (duesOf (pagesOf b.pages t) (track b t)).length ≤ 30 := Nat.le_trans (dues_len _) (Nat.le_trans (List.length_filter_le _ _) hb.few)
    have h2 := thing_dues_len hb l
    omega
theorem allDues_len {b : Book} (hb : b.ok) : (allDues b).length ≤ 2000 := by
  have h1 := plainDues_len b.pages
  have h2 := thing_dues_len hb (thingsOf b.pages)
  have h3 := thingsOf_len hb
  have h4 := hb.few
  unfold allDues
  rw [List.length_append]
  omega
theorem ok_all_dues (T : Tx w K mg) (c_plain_dues : Cal P w K mg base "plain_dues" ["book"] 1 (spL K R_plain_dues)) (c_things_of : Cal P w K mg base "things_of" ["book"] 3 (spD K R_things_of)) (c_pages_of : Cal P w K mg base "pages_of" ["book", "thing"] 2 (spD K R_pages_of))
    (c_track_of : Cal P w K mg base "track_of" ["pages"] 5 (spD K R_track_of)) (c_dues_of : Cal P w K mg base "dues_of" ["pages", "rows"] 2 (spD K R_dues_of)) : Cal P w K mg base "all_dues" ["book"] 6 (spD K R_all_dues) := by
  refine cal_data T.d_all_dues sc_all_dues (fun _ _ _ _ _ _ us hl => match us, hl with | [_], _ => rfl) (fun ds d ⟨_, _, h1, h2⟩ => by subst h1; rfl) (fun f cdv A outer s H E hr => ⟨_,
    (pss_cons (ps_set (i := 1) sc_all_dues.nd rfl (by first | exact .inl rfl | exact .inr rfl) (pe_cal c_plain_dues (hr.mono (by decide)) (by rfl) (pa_cons (pv 0) pa_nil)))
  (pss_cons (ps_for PassesOwn.never rfl (pi_list (pe_cal c_things_of (hr.mono (by decide)) (by rfl) (pa_cons (pv 0) pa_nil))) (pg_name (i := 2) sc_all_dues.nd rfl (by first | exact .inl rfl | exact .inr rfl)) (pss_cons (ps_set (i := 3) sc_all_dues.nd rfl (by first | exact .inl rfl | exact .inr rfl) (pe_cal c_pages_of (hr.mono (by decide)) (by rfl) (pa_cons (pv 0) (pa_cons (pv 2) pa_nil))))
  (pss_one (ps_expr (pe_bm (r := rExtend) PySem.F.plainAttrs_list PySem.F.slot_list_extend PySem.F.type_list_extend mt_extend (pv 1) (pa_cons (pe_cal c_dues_of (hr.mono (by decide)) (by rfl) (pa_cons (pv 3) (pa_cons (pe_cal c_track_of (hr.mono (by decide)) (by rfl) (pa_cons (pv 3) pa_nil)) pa_nil))) pa_nil))))))
  (pss_one (ps_ret (pv 1))))), fun ds d hR => ?_⟩)
  obtain ⟨b, hb, rfl, rfl⟩ := hR
  walk_at "go"
  have r0 : R_plain_dues [Book.d b] ((plainDues b.pages).map Due.d) := ⟨b, hb, rfl, rfl⟩
  have r1 : R_things_of [Book.d b] (.list ((thingsOf b.pages).map .str)) := ⟨b, hb, rfl, rfl⟩
  refine q_callL (by walk_at "ev") r0 fun p => ?_
  refine q_forX (is := anyS) PyData.str (thingsOf b.pages) (by walk_at "ev") (fun pre s' => ∃ c2 c3, s' = ([.val b.d, .ref p, c2, c3], [(p, .lst ((plainDues b.pages ++ pre.flatMap fun t => duesOf (pagesOf b.pages t) (track b t)).map Due.d))])) ⟨.unk, .unk, by rw [List.flatMap_nil, List.append_nil]; rfl⟩ ?_ ?_
  · rintro pre x post _ ex ⟨c2, c3, rfl⟩
    have hx : okS x := thingsOf_ok hb x (by rw [ex]; simp)
    have r2 : R_pages_of [Book.d b, .str x] (.list ((pagesOf b.pages x).map Page.d)) := ⟨b, x, hb, hx, rfl, rfl⟩
    have r3 : R_track_of [.list ((pagesOf b.pages x).map Page.d)] (.list ((trackOf (pagesOf b.pages x)).map Row.d)) := ⟨_, (pagesOf_ok hb).1, (pagesOf_ok hb).2, rfl, rfl⟩
    have r4 : R_dues_of [.list ((pagesOf b.pages x).map Page.d), .list ((trackOf (pagesOf b.pages x)).map Row.d)] (.list ((duesOf (pagesOf b.pages x) (trackOf (pagesOf b.pages x))).map Due.d)) := ⟨_, (pagesOf_ok hb).2, rfl, rfl⟩
    refine forI (by walk_at "tg") ?_
    walk_at "tr"
    refine tr_ext' (k := 0) (P := Eq (.list ((duesOf (pagesOf b.pages x) (trackOf (pagesOf b.pages x))).map Due.d))) rfl rfl (by walk_at "ev") fun d hd => ⟨_, hd.symm, ?_, .val (.str x), .val (.list ((pagesOf b.pages x).map Page.d)), ?_⟩
    · have h1 := plainDues_len b.pages
      have h2 := thing_dues_len hb pre
      have h3 : pre.length ≤ (thingsOf b.pages).length := by rw [ex]; simp
      have h4 := thingsOf_len hb
      have h5 := hb.few
      have h6 : (duesOf (pagesOf b.pages x) (trackOf (pagesOf b.pages x))).length ≤ 30 := Nat.le_trans (dues_len _) (Nat.le_trans (List.length_filter_le _ _) hb.few)
      rw [List.length_map, List.length_map, List.length_append]
      omega
    · rw [List.flatMap_append, ← List.append_assoc, List.map_append (l₂ := List.flatMap _ [x])]
      simp
      rfl
  · rintro _ ⟨c2, c3, rfl⟩
    exact tr_retL (k := 0) rfl rfl rfl
abbrev N_balance : List Str := ["book", "one", "other", "day"]
theorem sc_balance : FnScope N_balance ["book", "one", "other", "day"] (defScope s_balance) := ⟨rfl, rfl, rfl, by decide +kernel, rfl, by decide +kernel, by decide +kernel⟩
def R_balance (ds : List PyData) (d : PyData) : Prop := ∃ b one other day, b.ok ∧ ds = [Book.d b, .str one, .str other, .int day] ∧ d = .int (balance b one other day)
theorem ok_balance (T : Tx w K mg) (c_all_dues : Cal P w K mg base "all_dues" ["book"] 6 (spD K R_all_dues)) (c_balance_by : Cal P w K mg base "balance_by" ["some", "one", "other", "day"] 2 (spD K R_balance_by)) : Cal P w K mg base "balance" ["book", "one", "other", "day"] 7 (spD K R_balance) := by
  refine cal_data T.d_balance sc_balance (fun _ _ _ _ _ _ us hl => match us, hl with | [_, _, _, _], _ => rfl) (fun ds d ⟨_, _, _, _, _, h1, h2⟩ => by subst h1; rfl) (fun f cdv A outer s H E hr => ⟨_,
    (pss_one (ps_ret (pe_cal c_balance_by (hr.mono (by decide)) (by rfl) (pa_cons (pe_cal c_all_dues (hr.mono (by decide)) (by rfl) (pa_cons (pv 0) pa_nil)) (pa_cons (pv 1) (pa_cons (pv 2) (pa_cons (pv 3) pa_nil))))))), fun ds d hR => ?_⟩)
  obtain ⟨b, one, other, day, hb, rfl, rfl⟩ := hR
  walk_at "go"
  have r1 : R_all_dues [Book.d b] (.list ((allDues b).map Due.d)) := ⟨b, hb, rfl, rfl⟩
  have r2 : R_balance_by [.list ((allDues b).map Due.d), .str one, .str other, .int day] (.int (balance b one other day)) := ⟨_, _, _, _, Nat.le_trans (allDues_len hb) (by decide), rfl, rfl⟩
  walk_at "tr"
  rfl
abbrev N_open_promises : List Str := ["book", "thing", "day", "pages", "page"]
theorem sc_open_promises : FnScope N_open_promises ["book", "thing", "day"] (defScope s_open_promises) := ⟨rfl, rfl, rfl, by decide +kernel, rfl, by decide +kernel, by decide +kernel⟩
def R_open_promises (ds : List PyData) (d : PyData) : Prop := ∃ b t day, b.ok ∧ okS t ∧ ds = [Book.d b, .str t, .int day] ∧ d = .list ((openP b t day).map .str)
theorem ok_open_promises (T : Tx w K mg) (c_pages_of : Cal P w K mg base "pages_of" ["book", "thing"] 2 (spD K R_pages_of)) (c_track_of : Cal P w K mg base "track_of" ["pages"] 5 (spD K R_track_of))
    (c_open_of : Cal P w K mg base "open_of" ["pages", "rows", "day"] 3 (spD K R_open_of)) : Cal P w K mg base "open_promises" ["book", "thing", "day"] 6 (spD K R_open_promises) := by
  refine cal_data T.d_open_promises sc_open_promises (fun _ _ _ _ _ _ us hl => match us, hl with | [_, _, _], _ => rfl) (fun ds d ⟨_, _, _, _, _, h1, h2⟩ => by subst h1; rfl) (fun f cdv A outer s H E hr => ⟨_,
    (pss_cons (ps_set (i := 3) sc_open_promises.nd rfl (by first | exact .inl rfl | exact .inr rfl) (pe_cal c_pages_of (hr.mono (by decide)) (by rfl) (pa_cons (pv 0) (pa_cons (pv 1) pa_nil))))
  (pss_one (ps_ret (pe_callB (r := rSortedS K) cr_sortedS (by rfl) T.sorted (by decide +kernel) (pa_cons (pe_lc (own := [("page", 4)]) (g := gName 4) rfl sc_open_promises.nd (pi_list (pe_cal c_open_of (hr.mono (by decide)) (by rfl) (pa_cons (pv 3) (pa_cons (pe_cal c_track_of (hr.mono (by decide)) (by rfl) (pa_cons (pv 3) pa_nil)) (pa_cons (pv 2) pa_nil))))) (blkOk_by (own := [("page", 4)]) (N := N_open_promises) (sc := defScope s_open_promises) (by decide +kernel)) (fun _ _ _ _ _ => (pg_name (i := 4) sc_open_promises.nd rfl (.inl rfl))) (fun _ _ _ _ _ => pts_nil) (fun _ _ _ _ _ => (pe_ix (r := rIx K) ix_seq (pv 4) pe_int (fun _ _ => rfl)))) pa_nil))))), fun ds d hR => ?_⟩)
  obtain ⟨b, t, day, hb, ht, rfl, rfl⟩ := hR
  walk_at "go"
  have r2 : R_pages_of [Book.d b, .str t] (.list ((pagesOf b.pages t).map Page.d)) := ⟨b, t, hb, ht, rfl, rfl⟩
  have r3 : R_track_of [.list ((pagesOf b.pages t).map Page.d)] (.list ((trackOf (pagesOf b.pages t)).map Row.d)) := ⟨_, (pagesOf_ok hb).1, (pagesOf_ok hb).2, rfl, rfl⟩
  have r4 : R_open_of [.list ((pagesOf b.pages t).map Page.d), .list ((trackOf (pagesOf b.pages t)).map Row.d), .int day] (.list ((openOf (pagesOf b.pages t) (track b t) day).map Page.d)) := ⟨_, _, _, track_len _, fun p hp => ((pagesOf_ok hb).1 p hp).1, (pagesOf_ok hb).2, rfl, rfl⟩
  have hl : (openOf (pagesOf b.pages t) (track b t) day).length ≤ 30 := Nat.le_trans (List.length_filter_le _ _) (Nat.le_trans (List.length_filter_le _ _) hb.few)
  walk_at "tr"
  refine tr_ret (ev_cb (ea_cons (Ev.is (ev_lcY Page.d (openOf (pagesOf b.pages t) (track b t) day) (by walk_at "ev") (fun p => .str p.name) (by omega) ?_) (show _ = PyData.list (((openOf (pagesOf b.pages t) (track b t) day).map Page.name).map .str) by rw [List.map_map]; rfl)) ea_nil) (n_sortS' (by rw [List.length_map]; omega) fun ys h1 h2 => by rw [sort_uniq h1 h2]; rfl))
  intro x hx
  walk_at "lc"
end
end K92
end
section -- K92F12
set_option maxRecDepth 100000
set_option maxHeartbeats 1000000
namespace K92
open PySem PySem.Spec PyProof.Rows L2
local macro_rules | `(tactic| walk_at "dc") => `(tactic| first | decide +kernel | with_reducible rfl)
local macro_rules | `(tactic| walk_at "bb") => `(tactic| first | exact Eq.trans (b := true) (by decide +kernel) rfl | exact Eq.trans (b := false) (by decide +kernel) rfl)
local macro_rules | `(tactic| walk_at "go") => `(tactic| dsimp only [cxOf, Cx.nox, startC, List.map_cons, List.map_nil, List.length_cons, List.length_nil])
local macro_rules | `(tactic| walk_at "at") => `(tactic| first | with_reducible exact at_if | with_reducible exact at0 _ _ | with_reducible exact at1 _ _ _ | with_reducible exact at2 _ _ _ _ | rfl | exact at_word _ | exact at_name _ | exact at_day _)
local macro_rules | `(tactic| walk_at "op") => `(tactic| first
  | ((with_reducible apply o_ixT); walk_at "at")
  | ((with_reducible apply o_ixL); walk_at "at")
  | with_reducible exact o_eqS
  | with_reducible exact o_eqI
  | with_reducible exact o_neS
  | with_reducible exact o_neI
  | with_reducible exact o_le
  | with_reducible exact o_lt
  | with_reducible exact o_addI
  | with_reducible exact o_sub
  | ((with_reducible apply o_inT); first | assumption | rfl)
  | ((with_reducible apply o_inL); first | assumption | rfl)
  | with_reducible exact o_inS
  | with_reducible exact o_neNS
  | ((with_reducible apply o_neD); assumption; assumption)
  | ((with_reducible apply o_eqD); assumption; assumption))
local macro_rules | `(tactic| walk_at "tg") => `(tactic| first
  | ((with_reducible apply tg_name); decide)
  | ((with_reducible apply tg_tupW); (walk_at "tg"); rfl)
  | with_reducible exact tgs_nil
  | ((with_reducible apply tgs_cons); (walk_at "tg"); (walk_at "tg")))
local macro_rules | `(tactic| walk_at "lc") => `(tactic| ((apply lcI); (walk_at "tg"); (apply EvT.is); (walk_at "ev"); rfl; (intro _); (apply Ev.is); (walk_at "ev"); rfl))
local macro_rules | `(tactic| walk_at "ev") => `(tactic| first
  | ((with_reducible apply ev_var); rfl)
  | with_reducible exact ev_str
  | with_reducible exact ev_int
  | with_reducible exact ev_bl
  | with_reducible exact ev_non
  | with_reducible exact ev_c (by assumption)
  | with_reducible exact ea_nil
  | ((with_reducible apply ev_op); (walk_at "ev"); (walk_at "ev"); (walk_at "op"))
  | ((with_reducible apply ea_cons); (walk_at "ev"); (walk_at "ev"))
  | ((with_reducible apply ev_tupW); (walk_at "ev"); exact Nat.le_of_ble_eq_true rfl)
  | ((with_reducible apply ev_lstW); (walk_at "ev"); exact Nat.le_of_ble_eq_true rfl)
  | ((with_reducible apply et_testD); walk_at "ev")
  | ((with_reducible apply et_B); walk_at "ev")
  | ((with_reducible apply et_not); walk_at "ev")
  | ((with_reducible apply et_andF); (walk_at "ev"); (walk_at "dc"))
  | ((with_reducible apply et_andT); (walk_at "ev"); (walk_at "dc"); (walk_at "ev"))
  | ((with_reducible apply et_and); (walk_at "ev"); intro _; (walk_at "ev"))
  | ((with_reducible apply et_orT); (walk_at "ev"); (walk_at "dc"))
  | ((with_reducible apply et_orF); (walk_at "ev"); (walk_at "dc"); (walk_at "ev"))
  | ((with_reducible apply et_or); (walk_at "ev"); intro _; (walk_at "ev"))
  | ((with_reducible apply ev_andVF); (walk_at "ev"); (walk_at "dc"))
  | ((with_reducible apply ev_andVT); (walk_at "ev"); (walk_at "dc"); (walk_at "ev"))
  | ((with_reducible apply ev_orVT); (walk_at "ev"); (walk_at "dc"))
  | ((with_reducible apply ev_orVF); (walk_at "ev"); (walk_at "dc"); (walk_at "ev"))
  | ((with_reducible apply ev_andV); (walk_at "ev"); intro _; (walk_at "ev"))
  | ((with_reducible apply ev_orV); (walk_at "ev"); intro _; (walk_at "ev"))
  | ((with_reducible apply ev_notV); walk_at "ev")
  | ((with_reducible apply ev_neg); (walk_at "ev"))
  | ((with_reducible apply ev_isNE); (walk_at "ev"))
  | ((with_reducible apply ev_notN); (walk_at "ev"))
  | with_reducible exact lc_T
  | with_reducible exact eo_none
  | ((with_reducible apply eo_some); (walk_at "ev"))
  | ((with_reducible apply ev_slT); (walk_at "ev"); (walk_at "ev"); (walk_at "ev"); (exact fun h => Nat.ne_of_beq_eq_false rfl h.2); first | exact cut2 | exact cut3 | rfl)
  | ((with_reducible apply ev_slL); (walk_at "ev"); (walk_at "ev"); (walk_at "ev"); rfl)
  | ((with_reducible apply ev_kd); (walk_at "ev"); assumption; assumption)
  | ((with_reducible apply ev_call); (walk_at "ev"); assumption)
  | ((with_reducible apply ev_cb); (walk_at "ev"); (walk_at "cb"))
  | ((with_reducible apply ev_isi); (walk_at "ev"); (walk_at "dc"))
  | ((with_reducible apply ev_lcM); (walk_at "ev"); (exact Nat.le_of_ble_eq_true rfl); (walk_at "pd"))
  | ((with_reducible apply ei_list); (walk_at "ev"))
  | ((with_reducible apply ei_tup); (walk_at "ev"))
  | ((with_reducible apply ei_zip); (walk_at "ev"); assumption))
local macro_rules | `(tactic| walk_at "pd") => `(tactic| first | exact Paired.nil | ((apply Paired.cons); (walk_at "lc"); (walk_at "pd")))
local macro_rules | `(tactic| walk_at "cb") => `(tactic| first
  | with_reducible exact n_lenL
  | with_reducible exact n_lenT
  | ((with_reducible apply n_lenS); assumption)
  | with_reducible exact n_intB
  | with_reducible exact n_abs
  | with_reducible exact n_min
  | with_reducible exact n_tupL
  | with_reducible exact n_lisT
  | with_reducible exact n_lisL)
local macro_rules | `(tactic| walk_at "tr") => `(tactic| first
  | ((with_reducible apply q_retF); (walk_at "ev"); (walk_at "dc"))
  | ((with_reducible apply q_retT); (walk_at "ev"); (walk_at "dc"))
  | ((with_reducible apply q_retB); (walk_at "ev"))
  | ((with_reducible apply tr_retI); (walk_at "ev"))
  | ((with_reducible apply q_par); (walk_at "ev"))
  | ((with_reducible apply q_par3); (walk_at "ev"))
  | ((with_reducible apply q_newL); intro _)
  | ((with_reducible apply q_newD); intro _)
  | ((with_reducible apply q_asgA); (walk_at "ev"); (walk_at "tg")))
local macro_rules | `(tactic| walk_at "if") => `(tactic| first
  | ((with_reducible apply q_app (k := 0)); rfl; rfl; assumption; (walk_at "ev"))
  | with_reducible apply q_as
  | with_reducible apply q_nx
  | ((with_reducible apply q_par); (walk_at "ev"))
  | ((with_reducible apply q_par3); (walk_at "ev"))
  | ((with_reducible apply q_iF); (walk_at "ev"); (walk_at "dc"))
  | ((with_reducible apply q_iT); (walk_at "ev"); (walk_at "dc"))
  | ((with_reducible apply q_i); (walk_at "ev"))
  | ((with_reducible apply q_rt); (walk_at "ev"))
  | ((with_reducible apply q_asgA); (walk_at "ev"); (walk_at "tg")))


abbrev letters : Str := "abcdefghijklmnopqrstuvwxyz"
structure isWord (s : Str) : Prop where
  lo : 1 ≤ s.length
  hi : s.length ≤ 8
  all : ∀ c, c ∈ s.cps.toList → c ∈ letters.cps.toList
def inRange (i lo hi : Int) : Prop := lo ≤ i ∧ i ≤ hi
section
variable {P : Program} {w : World} {K : PySem.W.Frag} {mg : Str → Option Value} {base : Heap}
theorem n_all' {C : Ctx} {ds : List PyData} {n : Nat} (h : ds = List.replicate n (.bool true)) : OpN C K (rAll K) [.list ds] (Eq (.bool true)) := by
  subst h
  have q := n_all (C := C) (K := K) (bs := List.replicate n true)
  rw [List.map_replicate] at q
  have e : (List.replicate n true).all id = true := by simp
  rwa [e] at q
abbrev N_is_word : List Str := ["thing", "sign"]
theorem sc_is_word : FnScope N_is_word ["thing"] (defScope s_is_word) := ⟨rfl, rfl, rfl, by decide +kernel, rfl, by decide +kernel, by decide +kernel⟩
def R_is_word (ds : List PyData) (d : PyData) : Prop := ∃ s, isWord s ∧ ds = [.str s] ∧ d = .bool true
theorem ok_is_word (T : Tx w K mg) : Cal P w K mg base "is_word" ["thing"] 1 (spD K R_is_word) := by
  refine cal_data T.d_is_word sc_is_word (fun _ _ _ _ _ _ us hl => match us, hl with | [_], _ => rfl) (fun ds d ⟨_, _, h1, h2⟩ => by subst h1; rfl) (fun f cdv A outer s H E hr => ⟨_,
    (pss_cons (ps_if (PW.pt (pw_or (pt_not (pt_val (pe_callB (r := rISI K) cr_ISI (by rfl) T.isinstance (by decide +kernel) (pa_cons (pv 0) (pa_cons (pe_bltn (v := .ty "str") (u := .type "str") (by rfl) T.str (by decide +kernel) rfl) pa_nil))))) (pw_or1 (pt_not (pt_chain op_LE op_LE pe_int (pe_callB (r := rLEN K) cr_LEN (by rfl) T.len (by decide +kernel) (pa_cons (pv 0) pa_nil)) (pe_gi (by rfl) T.LONGEST_WORD)))))) (pss_one (ps_ret pe_bl)) pss_nil)
  (pss_one (ps_ret (pe_callB (r := rAll K) (cr_all rfl) (by rfl) T.all (by decide +kernel) (pa_cons (pe_lc (own := [("sign", 1)]) (g := gName 1) rfl sc_is_word.nd (pi_str (pv 0)) (blkOk_by (own := [("sign", 1)]) (N := N_is_word) (sc := defScope s_is_word) (by decide +kernel)) (fun _ _ _ _ _ => (pg_name (i := 1) sc_is_word.nd rfl (.inl rfl))) (fun _ _ _ _ _ => pts_nil) (fun _ _ _ _ _ => (pe_cmpR (r := rIN K false) op_IN (pv 1) (pe_gs (by rfl) T.LETTERS) rfl))) pa_nil))))), fun ds d hR => ?_⟩)
  obtain ⟨s, hs, rfl, rfl⟩ := hR
  walk_at "go"
  have hl : s.length ≤ 100000 := Nat.le_trans hs.hi (by decide)
  have h1 : decide ((1 : Int) ≤ s.length) = true := decide_eq_true (by have := hs.lo; omega)
  have h8 : decide ((s.length : Int) ≤ 8) = true := decide_eq_true (by have := hs.hi; omega)
  refine q_retF (b := false) ?_ rfl ?_
  · refine et_orF (a := false) (EvT.is (et_not (et_B (ev_isi (T := "str") (b := true) (by walk_at "ev") rfl))) rfl) rfl ?_
    refine EvT.is (et_not (et_testD (ev_chain (x := .int 1) (y := .int s.length) (w := .int 8) (a := true) (b := true) (by walk_at "ev") (ev_cb (by walk_at "ev") (n_lenS hl)) ?_ (fun _ => by walk_at "ev") fun _ => ?_))) rfl
    · rw [← h1]; exact o_le
    · rw [← h8]; exact o_le
  refine tr_retI (ev_cb (ea_cons (ev_lcY (fun c : Nat => PyData.str ⟨#[c]⟩) s.cps.toList (ei_str (by walk_at "ev")) (fun _ => .bool true) (by have := hl; simpa [Str.length] using hl) ?_) ea_nil) (n_all' (n := s.cps.toList.length) (List.map_const' ..))) rfl
  intro c hc
  apply lcI
  · walk_at "tg"
  · walk_at "ev"
  · intro _
    have e : decide (c ∈ letters.cps.toList) = true := decide_eq_true (hs.all c hc)
    exact Ev.is (ev_op (y := .str letters) (by walk_at "ev") (by walk_at "ev") o_inS) (by simp only [Bool.false_eq_true, if_false]; rw [e])
abbrev N_is_from_to : List Str := ["thing", "least", "most"]
theorem sc_is_from_to : FnScope N_is_from_to ["thing", "least", "most"] (defScope s_is_from_to) := ⟨rfl, rfl, rfl, by decide +kernel, rfl, by decide +kernel, by decide +kernel⟩
def R_is_from_to (ds : List PyData) (d : PyData) : Prop := ∃ i lo hi, inRange i lo hi ∧ ds = [.int i, .int lo, .int hi] ∧ d = .bool true
theorem ok_is_from_to (T : Tx w K mg) : Cal P w K mg base "is_from_to" ["thing", "least", "most"] 1 (spD K R_is_from_to) := by
  refine cal_data T.d_is_from_to sc_is_from_to (fun _ _ _ _ _ _ us hl => match us, hl with | [_, _, _], _ => rfl) (fun ds d ⟨_, _, _, _, h1, h2⟩ => by subst h1; rfl) (fun f cdv A outer s H E hr => ⟨_,
    (pss_one (ps_ret (pe_and (pe_callB (r := rISI K) cr_ISI (by rfl) T.isinstance (by decide +kernel) (pa_cons (pv 0) (pa_cons (pe_bltn (v := .ty "int") (u := .type "int") (by rfl) T.int (by decide +kernel) rfl) pa_nil))) (pe_and (pe_not (pe_callB (r := rISI K) cr_ISI (by rfl) T.isinstance (by decide +kernel) (pa_cons (pv 0) (pa_cons (pe_bltn (v := .ty "bool") (u := .type "bool") (by rfl) T.bool (by decide +kernel) rfl) pa_nil)))) (pe_one (pe_chain op_LE op_LE (pv 1) (pv 0) (pv 2))))))), fun ds d hR => ?_⟩)
  obtain ⟨i, lo, hi, hs, rfl, rfl⟩ := hR
  walk_at "go"
  have h1 : decide (lo ≤ i) = true := decide_eq_true hs.1
  have h8 : decide (i ≤ hi) = true := decide_eq_true hs.2
  refine tr_retI (d := .bool true) (Ev.is (ev_andVT (a := true) (ev_isi (T := "int") (b := true) (by walk_at "ev") rfl) rfl (ev_andVT (a := true) (Ev.is (ev_notV (ev_isi (T := "bool") (b := false) (by walk_at "ev") rfl)) rfl) rfl
    (ev_chain (x := .int lo) (y := .int i) (w := .int hi) (a := true) (b := true) (by walk_at "ev") (by walk_at "ev") ?_ (fun _ => by walk_at "ev") fun _ => ?_))) rfl) rfl
  · rw [← h1]; exact o_le
  · rw [← h8]; exact o_le
abbrev N_is_day : List Str := ["thing"]
theorem sc_is_day : FnScope N_is_day ["thing"] (defScope s_is_day) := ⟨rfl, rfl, rfl, by decide +kernel, rfl, by decide +kernel, by decide +kernel⟩
def R_is_day (ds : List PyData) (d : PyData) : Prop := ∃ i, inRange i 0 999 ∧ ds = [.int i] ∧ d = .bool true
theorem ok_is_day (T : Tx w K mg) (c_is_from_to : Cal P w K mg base "is_from_to" ["thing", "least", "most"] 1 (spD K R_is_from_to)) : Cal P w K mg base "is_day" ["thing"] 2 (spD K R_is_day) := by
  refine cal_data T.d_is_day sc_is_day (fun _ _ _ _ _ _ us hl => match us, hl with | [_], _ => rfl) (fun ds d ⟨_, _, h1, h2⟩ => by subst h1; rfl) (fun f cdv A outer s H E hr => ⟨_,
    (pss_one (ps_ret (pe_cal c_is_from_to (hr.mono (by decide)) (by rfl) (pa_cons (pv 0) (pa_cons pe_int (pa_cons (pe_gi (by rfl) T.LAST_DAY) pa_nil)))))), fun ds d hR => ?_⟩)
  obtain ⟨i, hs, rfl, rfl⟩ := hR
  walk_at "go"
  have r1 : R_is_from_to [.int i, .int 0, .int 999] (.bool true) := ⟨_, _, _, hs, rfl, rfl⟩
  walk_at "tr"
  rfl
abbrev N_is_part : List Str := ["kind", "thing"]
theorem sc_is_part : FnScope N_is_part ["kind", "thing"] (defScope s_is_part) := ⟨rfl, rfl, rfl, by decide +kernel, rfl, by decide +kernel, by decide +kernel⟩
inductive partOk : PyData → PyData → Prop
  | w {s : Str} : isWord s → partOk (.str "w") (.str s)
  | d {i : Int} : inRange i 0 999 → partOk (.str "d") (.int i)
  | t {i : Int} : inRange i 0 9 → partOk (.str "t") (.int i)
  | g {i : Int} : inRange i 0 9 → partOk (.str "g") (.int i)
  | m {i : Int} : inRange i 0 1000000000 → partOk (.str "m") (.int i)
  | p {i : Int} : inRange i 1 1000000000 → partOk (.str "p") (.int i)
def R_is_part (ds : List PyData) (d : PyData) : Prop := ∃ k x, partOk k x ∧ ds = [k, x] ∧ d = .bool true
theorem ok_is_part (T : Tx w K mg) (c_is_word : Cal P w K mg base "is_word" ["thing"] 1 (spD K R_is_word)) (c_is_day : Cal P w K mg base "is_day" ["thing"] 2 (spD K R_is_day))
    (c_is_from_to : Cal P w K mg base "is_from_to" ["thing", "least", "most"] 1 (spD K R_is_from_to)) : Cal P w K mg base "is_part" ["kind", "thing"] 3 (spD K R_is_part) := by
  refine cal_data T.d_is_part sc_is_part (fun _ _ _ _ _ _ us hl => match us, hl with | [_, _], _ => rfl) (fun ds d ⟨_, _, _, h1, h2⟩ => by subst h1; rfl) (fun f cdv A outer s H E hr => ⟨_,
    (pss_cons (ps_if (pt_cmpR (r := rEQ K) (op_EQ hr.units) (pv 0) pe_str (nomark _)) (pss_one (ps_ret (pe_cal c_is_word (hr.mono (by decide)) (by rfl) (pa_cons (pv 1) pa_nil)))) pss_nil)
  (pss_cons (ps_if (pt_cmpR (r := rEQ K) (op_EQ hr.units) (pv 0) pe_str (nomark _)) (pss_one (ps_ret (pe_cal c_is_day (hr.mono (by decide)) (by rfl) (pa_cons (pv 1) pa_nil)))) pss_nil)
  (pss_cons (ps_if (pt_cmpR (r := rEQ K) (op_EQ hr.units) (pv 0) pe_str (nomark _)) (pss_one (ps_ret (pe_cal c_is_from_to (hr.mono (by decide)) (by rfl) (pa_cons (pv 1) (pa_cons pe_int (pa_cons (pe_gi (by rfl) T.MOST_DAYS) pa_nil)))))) pss_nil)
  (pss_cons (ps_if (pt_cmpR (r := rEQ K) (op_EQ hr.units) (pv 0) pe_str (nomark _)) (pss_one (ps_ret (pe_cal c_is_from_to (hr.mono (by decide)) (by rfl) (pa_cons (pv 1) (pa_cons pe_int (pa_cons (pe_gi (by rfl) T.MOST_WEIGHT) pa_nil)))))) pss_nil)
  (pss_one (ps_ret (pe_cal c_is_from_to (hr.mono (by decide)) (by rfl) (pa_cons (pv 1) (pa_cons (pe_callTy cr_INT (by rfl) T.int (by decide +kernel) (pa_cons (pe_cmpR (r := rEQ K) (op_EQ hr.units) (pv 0) pe_str (nomark _)) pa_nil)) (pa_cons (pe_gi (by rfl) T.MOST_WORTH) pa_nil)))))))))), fun ds d hR => ?_⟩)
  obtain ⟨k, x, hk, rfl, rfl⟩ := hR
  walk_at "go"
  cases hk with
  | w h =>
    have r1 : R_is_word [.str _] (.bool true) := ⟨_, h, rfl, rfl⟩
    walk_at "tr"; walk_at "tr"; rfl
  | d h =>
    have r1 : R_is_day [.int _] (.bool true) := ⟨_, h, rfl, rfl⟩
    walk_at "tr"; walk_at "tr"; walk_at "tr"; rfl
  | t h =>
    have r1 : R_is_from_to [.int _, .int 0, .int 9] (.bool true) := ⟨_, _, _, h, rfl, rfl⟩
    walk_at "tr"; walk_at "tr"; walk_at "tr"; walk_at "tr"; rfl
  | g h =>
    have r1 : R_is_from_to [.int _, .int 0, .int 9] (.bool true) := ⟨_, _, _, h, rfl, rfl⟩
    walk_at "tr"; walk_at "tr"; walk_at "tr"; walk_at "tr"; walk_at "tr"; rfl
  | m h =>
    have e : decide (("m" : Str) = "p") = false := by decide +kernel
    have r1 : R_is_from_to [.int _, .int (if decide (("m" : Str) = "p") = true then 1 else 0), .int 1000000000] (.bool true) := ⟨_, _, _, h, by rw [e]; rfl, rfl⟩
    walk_at "tr"; walk_at "tr"; walk_at "tr"; walk_at "tr"; walk_at "tr"; rfl
  | p h =>
    have e : decide (("p" : Str) = "p") = true := by decide +kernel
    have r1 : R_is_from_to [.int _, .int (if decide (("p" : Str) = "p") = true then 1 else 0), .int 1000000000] (.bool true) := ⟨_, _, _, h, by rw [e]; rfl, rfl⟩
    walk_at "tr"; walk_at "tr"; walk_at "tr"; walk_at "tr"; walk_at "tr"; rfl
end
end K92
end
section -- K92F19
set_option maxRecDepth 100000
set_option maxHeartbeats 1000000
namespace K92
open PySem PySem.Spec PyProof.Rows L2
local macro_rules | `(tactic| walk_at "dc") => `(tactic| first | decide +kernel | with_reducible rfl)
local macro_rules | `(tactic| walk_at "bb") => `(tactic| first | exact Eq.trans (b := true) (by decide +kernel) rfl | exact Eq.trans (b := false) (by decide +kernel) rfl)
local macro_rules | `(tactic| walk_at "go") => `(tactic| dsimp only [cxOf, Cx.nox, startC, List.map_cons, List.map_nil, List.length_cons, List.length_nil])
local macro_rules | `(tactic| walk_at "at") => `(tactic| first | with_reducible exact at_if | with_reducible exact at0 _ _ | with_reducible exact at1 _ _ _ | with_reducible exact at2 _ _ _ _ | rfl | exact at_word _ | exact at_name _ | exact at_day _)
local macro_rules | `(tactic| walk_at "op") => `(tactic| first
  | ((with_reducible apply o_ixT); walk_at "at")
  | ((with_reducible apply o_ixL); walk_at "at")
  | with_reducible exact o_eqS
  | with_reducible exact o_eqI
  | with_reducible exact o_neS
  | with_reducible exact o_neI
  | with_reducible exact o_le
  | with_reducible exact o_lt
  | with_reducible exact o_addI
  | with_reducible exact o_sub
  | ((with_reducible apply o_inT); first | assumption | rfl)
  | ((with_reducible apply o_inL); first | assumption | rfl)
  | with_reducible exact o_inS
  | with_reducible exact o_neNS
  | ((with_reducible apply o_neD); assumption; assumption)
  | ((with_reducible apply o_eqD); assumption; assumption))
local macro_rules | `(tactic| walk_at "tg") => `(tactic| first
  | ((with_reducible apply tg_name); decide)
  | ((with_reducible apply tg_tupW); (walk_at "tg"); rfl)
  | with_reducible exact tgs_nil
  | ((with_reducible apply tgs_cons); (walk_at "tg"); (walk_at "tg")))
local macro_rules | `(tactic| walk_at "lc") => `(tactic| ((apply lcI); (walk_at "tg"); (apply EvT.is); (walk_at "ev"); rfl; (intro _); (apply Ev.is); (walk_at "ev"); rfl))
local macro_rules | `(tactic| walk_at "ev") => `(tactic| first
  | ((with_reducible apply ev_var); rfl)
  | with_reducible exact ev_str
  | with_reducible exact ev_int
  | with_reducible exact ev_bl
  | with_reducible exact ev_non
  | with_reducible exact ev_c (by assumption)
  | with_reducible exact ea_nil
  | ((with_reducible apply ev_op); (walk_at "ev"); (walk_at "ev"); (walk_at "op"))
  | ((with_reducible apply ea_cons); (walk_at "ev"); (walk_at "ev"))
  | ((with_reducible apply ev_tupW); (walk_at "ev"); exact Nat.le_of_ble_eq_true rfl)
  | ((with_reducible apply ev_lstW); (walk_at "ev"); exact Nat.le_of_ble_eq_true rfl)
  | ((with_reducible apply et_testD); walk_at "ev")
  | ((with_reducible apply et_B); walk_at "ev")
  | ((with_reducible apply et_not); walk_at "ev")
  | ((with_reducible apply et_andF); (walk_at "ev"); (walk_at "dc"))
  | ((with_reducible apply et_andT); (walk_at "ev"); (walk_at "dc"); (walk_at "ev"))
  | ((with_reducible apply et_and); (walk_at "ev"); intro _; (walk_at "ev"))
  | ((with_reducible apply et_orT); (walk_at "ev"); (walk_at "dc"))
  | ((with_reducible apply et_orF); (walk_at "ev"); (walk_at "dc"); (walk_at "ev"))
  | ((with_reducible apply et_or); (walk_at "ev"); intro _; (walk_at "ev"))
  | ((with_reducible apply ev_andVF); (walk_at "ev"); (walk_at "dc"))
  | ((with_reducible apply ev_andVT); (walk_at "ev"); (walk_at "dc"); (walk_at "ev"))
  | ((with_reducible apply ev_orVT); (walk_at "ev"); (walk_at "dc"))
  | ((with_reducible apply ev_orVF); (walk_at "ev"); (walk_at "dc"); (walk_at "ev"))
  | ((with_reducible apply ev_andV); (walk_at "ev"); intro _; (walk_at "ev"))
  | ((with_reducible apply ev_orV); (walk_at "ev"); intro _; (walk_at "ev"))
  | ((with_reducible apply ev_notV); walk_at "ev")
  | ((with_reducible apply ev_neg); (walk_at "ev"))
  | ((with_reducible apply ev_isNE); (walk_at "ev"))
  | ((with_reducible apply ev_notN); (walk_at "ev"))
  | with_reducible exact lc_T
  | with_reducible exact eo_none
  | ((with_reducible apply eo_some); (walk_at "ev"))
  | ((with_reducible apply ev_slT); (walk_at "ev"); (walk_at "ev"); (walk_at "ev"); (exact fun h => Nat.ne_of_beq_eq_false rfl h.2); first | exact cut2 | exact cut3 | rfl)
  | ((with_reducible apply ev_slL); (walk_at "ev"); (walk_at "ev"); (walk_at "ev"); rfl)
  | ((with_reducible apply ev_kd); (walk_at "ev"); assumption; assumption)
  | ((with_reducible apply ev_call); (walk_at "ev"); assumption)
  | ((with_reducible apply ev_cb); (walk_at "ev"); (walk_at "cb"))
  | ((with_reducible apply ev_isi); (walk_at "ev"); (walk_at "dc"))
  | ((with_reducible apply ev_lcM); (walk_at "ev"); (exact Nat.le_of_ble_eq_true rfl); (walk_at "pd"))
  | ((with_reducible apply ei_list); (walk_at "ev"))
  | ((with_reducible apply ei_tup); (walk_at "ev"))
  | ((with_reducible apply ei_zip); (walk_at "ev"); assumption))
local macro_rules | `(tactic| walk_at "pd") => `(tactic| first | exact Paired.nil | ((apply Paired.cons); (walk_at "lc"); (walk_at "pd")))
local macro_rules | `(tactic| walk_at "cb") => `(tactic| first
  | with_reducible exact n_lenL
  | with_reducible exact n_lenT
  | ((with_reducible apply n_lenS); assumption)
  | with_reducible exact n_intB
  | with_reducible exact n_abs
  | with_reducible exact n_min
  | with_reducible exact n_tupL
  | with_reducible exact n_lisT
  | with_reducible exact n_lisL)
local macro_rules | `(tactic| walk_at "tr") => `(tactic| first
  | ((with_reducible apply q_retF); (walk_at "ev"); (walk_at "dc"))
  | ((with_reducible apply q_retT); (walk_at "ev"); (walk_at "dc"))
  | ((with_reducible apply q_retB); (walk_at "ev"))
  | ((with_reducible apply tr_retI); (walk_at "ev"))
  | ((with_reducible apply q_par); (walk_at "ev"))
  | ((with_reducible apply q_par3); (walk_at "ev"))
  | ((with_reducible apply q_newL); intro _)
  | ((with_reducible apply q_newD); intro _)
  | ((with_reducible apply q_asgA); (walk_at "ev"); (walk_at "tg")))
local macro_rules | `(tactic| walk_at "if") => `(tactic| first
  | ((with_reducible apply q_app (k := 0)); rfl; rfl; assumption; (walk_at "ev"))
  | with_reducible apply q_as
  | with_reducible apply q_nx
  | ((with_reducible apply q_par); (walk_at "ev"))
  | ((with_reducible apply q_par3); (walk_at "ev"))
  | ((with_reducible apply q_iF); (walk_at "ev"); (walk_at "dc"))
  | ((with_reducible apply q_iT); (walk_at "ev"); (walk_at "dc"))
  | ((with_reducible apply q_i); (walk_at "ev"))
  | ((with_reducible apply q_rt); (walk_at "ev"))
  | ((with_reducible apply q_asgA); (walk_at "ev"); (walk_at "tg")))


section
variable {P : Program} {w : World} {K : PySem.W.Frag} {mg : Str → Option Value} {base : Heap} {pen scr : Addr} {is : List Int} {ρ : List Cell} {i : Nat} {te : TE}
theorem ev_draw {m : Int} {E : XK} (hi : ρ[i]? = some (.ref pen)) (h : Ev (CP K pen scr is) K te ρ (Eq (.int m))) (h0 : 0 < m) (h1 : m < 1073741824) :
    Ev (CP K pen scr is) K (tCall (spP K Pre_draw R_draw) [] E (tCons (tVar i) (tCons te tNil))) ρ (fun d => ∃ x : Int, (0 ≤ x ∧ x < m) ∧ d = .int x) :=
  ev_callP hi (ea_cons h ea_nil) fun ds e => by
    subst e
    refine ⟨⟨m, h0, h1, rfl⟩, fun d ⟨m', x, e, hx0, hx1, hd⟩ => ⟨x, ⟨hx0, ?_⟩, hd⟩⟩
    injection e with e _
    injection e with e
    omega
def rJoin (K : PySem.W.Frag) : V → List V → Hp → VK → Prop := fun x xs H Q => ∃ a p, ∃ ys : List Str, x = .str a ∧ xs = [.ref p] ∧ (SqL K H p (ys.map V.str) ∨ SqT K H p (ys.map V.str)) ∧
    (ys.map (·.length)).sum + ys.length * a.length ≤ 16777216 ∧ Q (.str (Txt.join a ys)) H
theorem glue_go : ∀ (l : List Nat) (acc : Array Nat), (l.map fun n => (⟨#[n]⟩ : Str)).foldl (fun acc p => acc ++ (("" : Str)).cps ++ p.cps) acc = acc ++ l.toArray
  | [], acc => by simp
  | c :: l, acc => by
    have e : (("" : Str)).cps = #[] := by decide +kernel
    rw [List.map_cons, List.foldl_cons, glue_go l, e, Array.append_empty, Array.append_assoc]
    congr 1
    simp
theorem glue_signs (l : List Nat) : Txt.join "" (l.map fun n => (⟨#[n]⟩ : Str)) = ⟨l.toArray⟩ := by
  show Builtin.Str.glued "" _ = _
  unfold Builtin.Str.glued
  cases l with
  | nil => rfl
  | cons c l =>
    rw [List.map_cons, List.drop_succ_cons, List.drop_zero, glue_go l]
    show (⟨#[c] ++ l.toArray⟩ : Str) = _
    congr 1
    simp
def chrD (c : Nat) : PyData := .str ⟨#[c]⟩
theorem ev_join {C : Ctx} {n : Nat} (hn : n ≤ 1000) {PC : List Nat → Prop} (h : Ev C K te ρ (fun d => ∃ cs : List Nat, cs.length ≤ n ∧ PC cs ∧ d = .list (cs.map chrD))) :
    Ev C K (tBM K "str" (rJoin K) (tC (.str "")) (tCons te tNil)) ρ (fun d => ∃ cs : List Nat, cs.length ≤ n ∧ PC cs ∧ d = .str ⟨cs.toArray⟩) := fun σ B H e o Q q =>
  ⟨rfl, h σ B H e o _ fun d v B1 H1 ⟨cs, hl, hc, hd⟩ g r => by
    subst hd
    cases r with
    | @lst p xs _ hs ha =>
      have hy : RpAll K B1 xs ((signs ⟨cs.toArray⟩).map PyData.str) := by
        have e2 : (signs ⟨cs.toArray⟩).map PyData.str = cs.map chrD := by
          unfold signs
          rw [List.map_map]
          rfl
        rw [e2]
        exact ha
      have hx := hy.strs
      subst hx
      refine ⟨"", p, signs ⟨cs.toArray⟩, rfl, rfl, .inl (SqL.of (g.on.ex _ _ hs)), ?_, ?_⟩
      · have e1 : ∀ l : List Nat, ((l.map fun n => (⟨#[n]⟩ : Str)).map (·.length)).sum = l.length := by
          intro l
          induction l with
          | nil => rfl
          | cons c l ih => rw [List.map_cons, List.map_cons, List.sum_cons, ih, List.length_cons]; show 1 + _ = _; omega
        have e2 : ((signs ⟨cs.toArray⟩).map (·.length)).sum = cs.length := e1 cs
        have e3 : ("" : Str).length = 0 := by decide +kernel
        rw [e2, e3]
        omega
      · have e4 : Txt.join "" (signs ⟨cs.toArray⟩) = (⟨cs.toArray⟩ : Str) := glue_signs cs
        rw [e4]
        exact q _ _ B1 H1 ⟨cs, hl, hc, rfl⟩ g (.str _)⟩
theorem cutS_to {cs : List Nat} {n : Nat} (h : n ≤ cs.length) : cutS ⟨cs.toArray⟩ none (some (n : Int)) = ⟨(cs.take n).toArray⟩ := by
  have hl : (⟨cs.toArray⟩ : Str).length = cs.length := by show cs.toArray.size = _; simp
  unfold cutS
  rw [hl, HT.sIx_none, HT.sIx_nat, Nat.min_eq_left h]
  simp
theorem cutS_from {cs : List Nat} {n : Nat} (h : n ≤ cs.length) : cutS ⟨cs.toArray⟩ (some (n : Int)) none = ⟨(cs.drop n).toArray⟩ := by
  have hl : (⟨cs.toArray⟩ : Str).length = cs.length := by show cs.toArray.size = _; simp
  unfold cutS
  rw [hl, HT.sIx_none, HT.sIx_nat, Nat.min_eq_left h]
  simp
  rw [List.take_of_length_le (by simp)]
theorem ev_slSd {C : Ctx} {th : TE} {z : Str} {PX : Int → Prop} (h : Ev C K te ρ (Eq (.str z))) (hh : Ev C K th ρ (fun d => ∃ x : Int, PX x ∧ d = .int x)) (hz : z.length ≤ 100000) :
    Ev C K (tSl (rSL K) te tNoPart (tPart th)) ρ (fun d => ∃ x : Int, PX x ∧ d = .str (cutS z none (some x))) := fun σ B H e o Q q =>
  h σ B H e o _ fun d v B1 H1 p g r => by
    subst p
    cases r
    refine hh σ B1 H1 (e.mono g.bb) g.on _ fun d2 u B2 H2 ⟨x, hx, e2⟩ g2 r2 => ?_
    subst e2
    cases r2
    exact ⟨x, rfl, .inr (.inr ⟨z, rfl, sz_ok hz, q _ _ B2 H2 ⟨x, hx, rfl⟩ (g.trans g2) (.str _)⟩)⟩
theorem letters_list : letters.cps.toList = (List.range 26).map (97 + ·) := by decide +kernel
theorem letters_at {x : Int} (h0 : 0 ≤ x) (h1 : x < 26) : atI letters.cps.toList x = some (97 + x.toNat) := by
  have e2 : atI letters.cps.toList ((x.toNat : Nat) : Int) = some (97 + x.toNat) := atI_nat (by
    rw [letters_list, List.getElem?_map, List.getElem?_range (by omega)]
    rfl)
  rwa [Int.toNat_of_nonneg h0] at e2
theorem letter_mem {n : Nat} (h : n < 26) : 97 + n ∈ letters.cps.toList := by
  rw [letters_list]
  exact List.mem_map.mpr ⟨n, List.mem_range.mpr h, rfl⟩

def wordAt (cs : List Nat) (sp j t : Nat) : Str := ⟨(cs.take sp ++ [97 + j] ++ (cs.drop sp).take t).toArray⟩
theorem wordAt_inj {cs : List Nat} {sp j1 j2 t1 t2 : Nat} (h : sp ≤ cs.length) (e : wordAt cs sp j1 t1 = wordAt cs sp j2 t2) : j1 = j2 := by
  have e2 : cs.take sp ++ [97 + j1] ++ (cs.drop sp).take t1 = cs.take sp ++ [97 + j2] ++ (cs.drop sp).take t2 := by
    have q := congrArg (fun s : Str => s.cps.toList) e
    simpa [wordAt] using q
  rw [List.append_assoc, List.append_assoc] at e2
  have e3 := List.append_cancel_left e2
  rw [List.singleton_append, List.singleton_append] at e3
  have e4 := (List.cons.inj e3).1
  omega
theorem wordAt_word {cs : List Nat} {sp j t : Nat} (hl : cs.length ≤ 7) (h : sp ≤ cs.length) (hc : ∀ c, c ∈ cs → c ∈ letters.cps.toList) (hj : j < 26) : isWord (wordAt cs sp j t) := by
  have el : (wordAt cs sp j t).length = (cs.take sp ++ [97 + j] ++ (cs.drop sp).take t).length := by show (List.toArray _).size = _; simp
  rw [List.length_append, List.length_append, List.length_take, List.length_take, List.length_drop, List.length_singleton] at el
  refine ⟨by omega, by omega, fun c hm => ?_⟩
  have hm' : c ∈ cs.take sp ++ [97 + j] ++ (cs.drop sp).take t := by simpa [wordAt] using hm
  rcases List.mem_append.mp hm' with q | q
  · rcases List.mem_append.mp q with q | q
    · exact hc c (List.mem_of_mem_take q)
    · rw [List.mem_singleton.mp q]; exact letter_mem hj
  · exact hc c (List.mem_of_mem_drop (List.mem_of_mem_take q))
end
section
variable {P : Program} {w : World} {K : PySem.W.Frag} {mg : Str → Option Value} {base : Heap}
abbrev N__law_words : List Str := ["_law_pen", "_law_many", "_law_letters", "_law_base", "_law_k", "_law_spot", "_law_first", "_law_leap", "_law_found", "_law_tail"]
theorem sc__law_words : FnScope N__law_words ["_law_pen", "_law_many"] (defScope s__law_words) := ⟨rfl, rfl, rfl, by decide +kernel, rfl, by decide +kernel, by decide +kernel⟩
def Pre_words (ds : List PyData) : Prop := ∃ m : Int, 0 ≤ m ∧ m ≤ 26 ∧ ds = [.int m]
def R_words (ds : List PyData) (d : PyData) : Prop := ∃ (m : Int) (ws : List Str), ds = [.int m] ∧ (ws.length : Int) = m ∧ (∀ x, x ∈ ws → isWord x) ∧ ws.Nodup ∧ d = .list (ws.map .str)
theorem ok__law_words (T : Tx w K mg) (c__law_draw : Cal P w K mg base "_law_draw" ["_law_pen", "_law_many"] 1 (spP K Pre_draw R_draw)) : Cal P w K mg base "_law_words" ["_law_pen", "_law_many"] 2 (spP K Pre_words R_words) := by
  refine cal_pen T.d__law_words sc__law_words (fun _ _ _ _ _ _ us hl => match us, hl with | [_, _], _ => rfl) (fun ds ⟨_, _, _, h1⟩ => by subst h1; rfl) (fun f cdv A outer s H E hr => ⟨_,
    (pss_cons (ps_set (i := 2) sc__law_words.nd rfl (by first | exact .inl rfl | exact .inr rfl) pe_str)
  (pss_cons (ps_set (i := 3) sc__law_words.nd rfl (by first | exact .inl rfl | exact .inr rfl) (pe_bm (T := "str") (r := rJoin K) PySem.F.plainAttrs_str PySem.F.slot_str_join PySem.F.type_str_join mt_join pe_str (pa_cons (pe_lc (own := [("_law_k", 4)]) (g := gName 4) rfl sc__law_words.nd (pi_range1 rfl T.range (pa_cons (pe_cal c__law_draw (hr.mono (by decide)) (by rfl) (pa_cons (pv 0) (pa_cons pe_int pa_nil))) pa_nil)) (blkOk_by (own := [("_law_k", 4)]) (N := N__law_words) (sc := defScope s__law_words) (by decide +kernel)) (fun _ _ _ _ _ => (pg_name (i := 4) sc__law_words.nd rfl (.inl rfl))) (fun _ _ _ _ _ => pts_nil) (fun _ _ _ _ _ => (pe_ix (r := rIx K) ix_seq (pv 2) (pe_cal c__law_draw (hr.mono (by decide)) (by rfl) (pa_cons (pv 0) (pa_cons pe_int pa_nil))) (fun _ _ => rfl)))) pa_nil)))
  (pss_cons (ps_set (i := 5) sc__law_words.nd rfl (by first | exact .inl rfl | exact .inr rfl) (pe_cal c__law_draw (hr.mono (by decide)) (by rfl) (pa_cons (pv 0) (pa_cons (pe_op op_ADD (pe_callB (r := rLEN K) cr_LEN (by rfl) T.len (by decide +kernel) (pa_cons (pv 3) pa_nil)) pe_int) pa_nil))))
  (pss_cons (ps_set (i := 6) sc__law_words.nd rfl (by first | exact .inl rfl | exact .inr rfl) (pe_cal c__law_draw (hr.mono (by decide)) (by rfl) (pa_cons (pv 0) (pa_cons pe_int pa_nil))))
  (pss_cons (ps_set (i := 7) sc__law_words.nd rfl (by first | exact .inl rfl | exact .inr rfl) (pe_ix (r := rIx K) ix_seq (pe_lst (pa_cons pe_int (pa_cons pe_int (pa_cons pe_int (pa_cons pe_int (pa_cons pe_int (pa_cons pe_int pa_nil))))))) (pe_cal c__law_draw (hr.mono (by decide)) (by rfl) (pa_cons (pv 0) (pa_cons pe_int pa_nil))) (fun _ _ => rfl)))
  (pss_cons (ps_set (i := 8) sc__law_words.nd rfl (by first | exact .inl rfl | exact .inr rfl) (pe_lst pa_nil))
  (pss_cons (ps_for PassesOwn.never rfl (pi_range1 rfl T.range (pa_cons (pv 1) pa_nil)) (pg_name (i := 4) sc__law_words.nd rfl (by first | exact .inl rfl | exact .inr rfl)) (pss_cons (ps_set (i := 9) sc__law_words.nd rfl (by first | exact .inl rfl | exact .inr rfl) (pe_slice (r := rSL K) sl_SL (pe_slice (r := rSL K) sl_SL (pv 3) (po_some (pv 5)) po_none) po_none (po_some (pe_cal c__law_draw (hr.mono (by decide)) (by rfl) (pa_cons (pv 0) (pa_cons (pe_op op_ADD (pe_op op_SUB (pe_callB (r := rLEN K) cr_LEN (by rfl) T.len (by decide +kernel) (pa_cons (pv 3) pa_nil)) (pv 5)) pe_int) pa_nil))))))
  (pss_one (ps_expr (pe_bm PySem.F.plainAttrs_list PySem.F.slot_list_append PySem.F.type_list_append mt_append (pv 8) (pa_cons (pe_op op_ADD (pe_op op_ADD (pe_slice (r := rSL K) sl_SL (pv 3) po_none (po_some (pv 5))) (pe_ix (r := rIx K) ix_seq (pv 2) (pe_op op_MOD (pe_op op_ADD (pv 6) (pe_op op_MUL (pv 7) (pv 4))) pe_int) (fun _ _ => rfl))) (pv 9)) pa_nil))))))
  (pss_one (ps_ret (pv 8)))))))))), fun pen scr is ds hR => ?_⟩)
  obtain ⟨m, h0, h1, rfl⟩ := hR
  walk_at "go"
  refine q_asg (d := .str letters) (by walk_at "ev") ?_
  refine q_asg' (P := fun d => ∃ cs : List Nat, cs.length ≤ 7 ∧ (∀ c, c ∈ cs → c ∈ letters.cps.toList) ∧ d = .str ⟨cs.toArray⟩) (ev_join (n := 7) (by decide) ?_) ?_
  · refine ev_lc' (PL := fun ds => ds.length ≤ 7) (ei_range' (PA := fun ds => ∃ x : Int, (0 ≤ x ∧ x < 8) ∧ ds = [.int x]) (ea_cons' (PA := Eq []) (ev_draw rfl (by walk_at "ev") (by decide) (by decide)) (fun _ _ => ea_nil) ?_) ?_) (fun _ j acc => ∃ cs : List Nat, cs.length = j ∧ (∀ c, c ∈ cs → c ∈ letters.cps.toList) ∧ acc = cs.map chrD) (fun ds h => by omega) (fun _ _ => ⟨[], rfl, fun c hc => (by cases hc), rfl⟩) ?_ ?_
    · rintro d ds ⟨x, hx, rfl⟩ rfl
      exact ⟨x, hx, rfl⟩
    · rintro ds ⟨x, hx, rfl⟩
      refine ⟨x, rfl, by omega, by omega, ?_⟩
      rw [List.length_map, List.length_range]
      omega
    · rintro ds j d acc hds hj ⟨cs, hl, hc, rfl⟩ _
      refine ⟨_, Eq true, fun d => ∃ c, c ∈ letters.cps.toList ∧ d = chrD c, by walk_at "tg", by walk_at "ev", fun _ => ?_, fun e => (by cases e), ?_⟩
      · refine ev_op' (P1 := Eq (.str letters)) (P2 := fun d => ∃ x : Int, (0 ≤ x ∧ x < 26) ∧ d = .int x) (by walk_at "ev") (fun _ _ => ev_draw rfl (by walk_at "ev") (by decide) (by decide)) ?_
        rintro _ _ rfl ⟨x, hx, rfl⟩
        refine op_imp (o_ixS (by decide +kernel) (letters_at hx.1 hx.2)) fun d e => ⟨97 + x.toNat, letter_mem (by omega), e.symm⟩
      · rintro _ _ ⟨c, h1, rfl⟩
        refine ⟨cs ++ [c], by rw [List.length_append, hl]; rfl, fun y hy => ?_, by rw [List.map_append]; rfl⟩
        rcases List.mem_append.mp hy with h | h
        · exact hc y h
        · rw [List.mem_singleton.mp h]; exact h1
    · rintro ds acc hds ⟨cs, hl, hc, rfl⟩
      exact ⟨cs, by omega, hc, rfl⟩
  rintro _ ⟨cs, hcl, hcs, rfl⟩
  have hz : (⟨cs.toArray⟩ : Str).length = cs.length := by show cs.toArray.size = _; simp
  have hz5 : (⟨cs.toArray⟩ : Str).length ≤ 100000 := by omega
  refine q_asg' (P := fun d => ∃ x : Int, (0 ≤ x ∧ x < (((⟨cs.toArray⟩ : Str).length : Nat) : Int) + 1) ∧ d = .int x) (ev_draw rfl (ev_op (ev_cb (by walk_at "ev") (n_lenS hz5)) (by walk_at "ev") o_addI) (by omega) (by omega)) ?_
  rintro _ ⟨spot, ⟨hs0, hs1⟩, rfl⟩
  refine q_asg' (ev_draw rfl (by walk_at "ev") (by decide) (by decide)) ?_
  rintro _ ⟨first, ⟨hf0, hf1⟩, rfl⟩
  refine q_asg' (P := fun d => ∃ x : Int, (x = 1 ∨ x = 3 ∨ x = 5 ∨ x = 7 ∨ x = 9 ∨ x = 11) ∧ d = .int x) (ev_op' (P1 := Eq (.list [.int 1, .int 3, .int 5, .int 7, .int 9, .int 11])) (P2 := fun d => ∃ x : Int, (0 ≤ x ∧ x < 6) ∧ d = .int x) (by walk_at "ev") (fun _ _ => ev_draw rfl (by walk_at "ev") (by decide) (by decide)) ?_) ?_
  · rintro _ _ rfl ⟨x, hx, rfl⟩
    have hx6 : x = 0 ∨ x = 1 ∨ x = 2 ∨ x = 3 ∨ x = 4 ∨ x = 5 := by omega
    rcases hx6 with e | e | e | e | e | e <;> subst e
    · exact op_imp (o_ixL (d := .int 1) rfl) fun d e => ⟨1, by simp, e.symm⟩
    · exact op_imp (o_ixL (d := .int 3) rfl) fun d e => ⟨3, by simp, e.symm⟩
    · exact op_imp (o_ixL (d := .int 5) rfl) fun d e => ⟨5, by simp, e.symm⟩
    · exact op_imp (o_ixL (d := .int 7) rfl) fun d e => ⟨7, by simp, e.symm⟩
    · exact op_imp (o_ixL (d := .int 9) rfl) fun d e => ⟨9, by simp, e.symm⟩
    · exact op_imp (o_ixL (d := .int 11) rfl) fun d e => ⟨11, by simp, e.symm⟩
  rintro _ ⟨leap, hleap, rfl⟩
  refine q_newL fun p => ?_
  have hsn : spot = (spot.toNat : Int) := by omega
  have hspl : spot.toNat ≤ cs.length := by omega
  refine q_forX (is := anyS) (fun i : Nat => PyData.int (0 + (i : Nat))) (List.range m.toNat) (ei_range' (PA := Eq [.int m]) (PL := Eq ((List.range m.toNat).map fun i => .int (0 + (i : Nat)))) (by walk_at "ev") fun ds e => ⟨m, e.symm, by omega, by omega, rfl⟩)
    (fun pre s' => ∃ (ws : List Str) (c4 c9 : Cell), s' = ([.ref pen, .val (.int m), .val (.str letters), .val (.str ⟨cs.toArray⟩), c4, .val (.int spot), .val (.int first), .val (.int leap), .ref p, c9], [(p, .lst (ws.map .str))]) ∧ ws.length = pre.length ∧ ∀ (k : Nat) (w : Str), ws[k]? = some w → ∃ t, w = wordAt cs spot.toNat ((first + leap * (k : Nat)) % 26).toNat t) ⟨[], _, _, rfl, rfl, fun k w h => by simp at h⟩ ?_ ?_
  · rintro pre x post _ ex ⟨ws, c4, c9, rfl, hwl, hws⟩
    have hxe : x = pre.length ∧ x < m.toNat := by
      have h1 : (List.range m.toNat)[pre.length]? = some x := by rw [ex]; simp
      obtain ⟨h2, h3⟩ := List.getElem?_eq_some_iff.mp h1
      rw [List.getElem_range] at h3
      rw [List.length_range] at h2
      omega
    have hx26 : x < 26 := by omega
    refine forI (by walk_at "tg") ?_
    have ez : Ev (CP K pen scr is) K (tSl (rSL K) (tVar 3) (tPart (tVar 5)) tNoPart) [Cell.ref pen, .val (.int m), .val (.str letters), .val (.str ⟨cs.toArray⟩), .val (.int (0 + (x : Nat))), .val (.int spot), .val (.int first), .val (.int leap), .ref p, c9] (Eq (.str ⟨(cs.drop spot.toNat).toArray⟩)) :=
      ev_slS (lo := some spot) (hi := none) (by walk_at "ev") (eo_some (by walk_at "ev")) eo_none hz5 (by rw [hsn]; exact cutS_from (by omega))
    have hzd : (⟨(cs.drop spot.toNat).toArray⟩ : Str).length ≤ 100000 := by show (cs.drop spot.toNat).toArray.size ≤ _; simp <;> omega
    refine q_asg' (P := fun d => ∃ t : Nat, d = .str ⟨((cs.drop spot.toNat).take t).toArray⟩) ((ev_slSd ez (ev_draw (m := (((⟨cs.toArray⟩ : Str).length : Nat) : Int) - spot + 1) rfl (ev_op (ev_op (ev_cb (by walk_at "ev") (n_lenS hz5)) (by walk_at "ev") o_sub) (by walk_at "ev") o_addI) (by omega) (by omega)) hzd).imp fun d ⟨t, ht, hd⟩ => ?_) ?_
    · obtain ⟨n, rfl⟩ : ∃ n : Nat, t = n := ⟨t.toNat, by omega⟩
      exact ⟨n, by rw [hd, cutS_to (by rw [List.length_drop]; omega)]⟩
    rintro _ ⟨t, rfl⟩
    have ecut : cutS ⟨cs.toArray⟩ none (some spot) = ⟨(cs.take spot.toNat).toArray⟩ := by
      have q := cutS_to (n := spot.toNat) hspl
      rwa [← hsn] at q
    have em : CMul leap (0 + (x : Nat)) := .inl ⟨by omega, by omega⟩
    have hi0 := Int.emod_nonneg (first + leap * (0 + (x : Nat))) (b := 26) (by decide)
    have hi1 := Int.emod_lt_of_pos (first + leap * (0 + (x : Nat))) (b := 26) (by decide)
    have l1 : (⟨(cs.take spot.toNat).toArray⟩ : Str).length ≤ 100 := Nat.le_trans (Nat.le_of_eq (by show (cs.take spot.toNat).toArray.size = (cs.take spot.toNat).length; simp)) (by rw [List.length_take]; omega)
    have l2 : (⟨((cs.drop spot.toNat).take t).toArray⟩ : Str).length ≤ 100 := Nat.le_trans (Nat.le_of_eq (by show ((cs.drop spot.toNat).take t).toArray.size = ((cs.drop spot.toNat).take t).length; simp)) (by rw [List.length_take, List.length_drop]; omega)
    refine tr_app' (k := 0) (P := fun d => d = .str (wordAt cs spot.toNat ((first + leap * (0 + (x : Nat))) % 26).toNat t)) rfl rfl (by rw [List.length_map]; omega) ?_ ?_
    · refine (ev_op (ev_op (ev_slS (lo := none) (hi := some spot) (by walk_at "ev") eo_none (eo_some (by walk_at "ev")) hz5 ecut) (ev_op (by walk_at "ev") (ev_op (ev_op (by walk_at "ev") (ev_op (by walk_at "ev") (by walk_at "ev") (o_mul em)) o_addI) (by walk_at "ev") (o_mod (by decide))) (o_ixS (by decide +kernel) (letters_at hi0 hi1))) (o_addS ?_)) (by walk_at "ev") (o_addS ?_)).imp fun d e => ?_
      · have e1 : (⟨#[97 + ((first + leap * (0 + (x : Nat))) % 26).toNat]⟩ : Str).length = 1 := rfl
        omega
      · have e1 : ((⟨(cs.take spot.toNat).toArray⟩ : Str) ++ ⟨#[97 + ((first + leap * (0 + (x : Nat))) % 26).toNat]⟩).length = (⟨(cs.take spot.toNat).toArray⟩ : Str).length + 1 := by
          show ((cs.take spot.toNat).toArray ++ #[97 + ((first + leap * (0 + (x : Nat))) % 26).toNat]).size = (cs.take spot.toNat).toArray.size + 1
          simp
        omega
      · rw [← e]
        congr 1
        unfold wordAt
        show (⟨(cs.take spot.toNat).toArray ++ #[97 + ((first + leap * (0 + (x : Nat))) % 26).toNat] ++ ((cs.drop spot.toNat).take t).toArray⟩ : Str) = _
        congr 1
        simp
    · rintro d rfl
      refine ⟨ws ++ [wordAt cs spot.toNat ((first + leap * (0 + (x : Nat))) % 26).toNat t], .val (.int (0 + (x : Nat))), .val (.str ⟨((cs.drop spot.toNat).take t).toArray⟩), by rw [List.map_append]; rfl, by rw [List.length_append, List.length_append, hwl]; rfl, fun k w hk => ?_⟩
      by_cases hlt : k < ws.length
      · rw [List.getElem?_append_left hlt] at hk
        exact hws k w hk
      · have ek : k = ws.length := by
          have q := (List.getElem?_eq_some_iff.mp hk).1
          rw [List.length_append, List.length_singleton] at q
          omega
        subst ek
        rw [List.getElem?_append_right (Nat.le_refl _), Nat.sub_self] at hk
        have hw := Option.some.inj hk
        have ex2 : ((ws.length : Nat) : Int) = 0 + (x : Nat) := by omega
        rw [ex2]
        exact ⟨t, hw.symm⟩
  · rintro _ ⟨ws, c4, c9, rfl, hwl, hws⟩
    rw [List.length_range] at hwl
    refine tr_retL (k := 0) rfl rfl ⟨m, ws, rfl, by omega, fun x hx => ?_, ?_, rfl⟩
    · obtain ⟨k, hk⟩ := List.mem_iff_getElem?.mp hx
      obtain ⟨t, rfl⟩ := hws k x hk
      exact wordAt_word hcl hspl hcs (by omega)
    · refine nd_of fun i l w hi hl => ?_
      obtain ⟨t1, e1⟩ := hws i w hi
      obtain ⟨t2, e2⟩ := hws l w hl
      have b1 := (List.getElem?_eq_some_iff.mp hi).1
      have b2 := (List.getElem?_eq_some_iff.mp hl).1
      have e := wordAt_inj hspl (e1.symm.trans e2)
      rcases hleap with h | h | h | h | h | h <;> subst h <;> omega
end
end K92
end
section -- K92Q
set_option maxRecDepth 100000
set_option maxHeartbeats 1000000
/-! The pen's defs with what they take named; choices by the pen; a kept dict read; equal data. -/
namespace K92
open PySem PySem.Spec PyProof.Rows L2
def spQ {α : Type} (K : PySem.W.Frag) (enc : α → List PyData) (Pre : α → Prop) (R : α → PyData → Prop) : Sp := fun vs H Q _ => ∃ B pen scr is us x, vs = .ref pen :: us ∧ RpAll K B us (enc x) ∧ (CP K pen scr is).On B H ∧ Pre x ∧
  ∀ v d B' H', R x d → Gr (CP K pen scr is) B H B' H' → Rp K B' v d → Q v H'
section
variable {α : Type} {pen scr : Addr} {is : List Int} {K : PySem.W.Frag} {ρ : List Cell} {i : Nat} {ta : TA} {enc : α → List PyData} {Pre : α → Prop} {R : α → PyData → Prop} {E : XK}
theorem ev_callQ {x : α} {ds : List PyData} (hi : ρ[i]? = some (.ref pen)) (h : EvA (CP K pen scr is) K ta ρ (Eq ds)) (he : ds = enc x) (hp : Pre x) : Ev (CP K pen scr is) K (tCall (spQ K enc Pre R) [] E (tCons (tVar i) ta)) ρ (R x) := fun σ B H e o Q q =>
  ⟨.ref pen, e.ref hi, h σ B H e o _ fun ds vs B1 H1 p g r => by
    subst p
    show spQ K enc Pre R ((.ref pen :: vs) ++ []) H1 Q E
    rw [List.append_nil]
    exact ⟨B1, pen, scr, is, vs, x, rfl, he ▸ r, g.on, hp, fun v d B' H' hd g2 r2 => q d v B' H' hd (g.trans g2) r2⟩⟩
end
section
variable {α : Type} {P : Program} {w : World} {K : PySem.W.Frag} {mg : Str → Option Value} {base : Heap} {x : Str} {st : Stmt} {N ps : List Str} {k : Nat} {enc : α → List PyData} {Pre : α → Prop} {R : α → PyData → Prop}
theorem cal_penQ (F : Def K mg x st) (Sc : FnScope N ps (defScope st))
    (hbi : ∀ (kV doc pm : Value) (an : Option Addr) (cdv ct : Value) (us : List Value), us.length = ps.length → bindArgs (PySem.W.fnOf x x (defArgs st) (defBody st) (defScope st) .none kV doc pm an cdv ct) ⟨us, []⟩ = pure (ps.zip us))
    (len : ∀ x, (enc x).length + 1 = ps.length)
    (hb : ∀ (f : Addr) (cdv : Value) (A : Around) (outer : List Env) (s : Shared) (H : Hp) (E : XK), Room k (A.deeper (envOfC x (defScope st) s.heap.objs.size f cdv)) →
      ∃ t, PSs (cxOf CX0 P w K mg base N x (defScope st) f cdv A outer s H E).nox (defBody st) t ∧ ∀ pen scr is x, Pre x → Tr (CP K pen scr is) K t (startC N.length (.ref pen :: (enc x).map Cell.val), []) (fun _ => False) (R x)) : Cal P w K mg base x ps (k + 1) (spQ K enc Pre R) := by
  obtain ⟨f, fd, h1, F⟩ := F.ex
  refine ⟨f, fd, h1, ?_, F.kp, F.bindsN hbi⟩
  refine F.ok Sc (fun vs H Q E ⟨B, pen, scr, is, us, x, e, r, _, hp, _⟩ => by rw [e, List.length_cons, r.length]; exact len x) fun cdv A outer s H vs Q E hr ⟨B, pen, scr, is, us, x, e, r, on, hp, q⟩ => ?_
  subst e
  obtain ⟨t, t1, t2⟩ := hb f cdv A outer s H E hr
  refine ⟨t, t1.nox, ?_⟩
  refine t2 pen scr is x hp B H _ _ B H ⟨Gr.refl on, envR_start' (.cons rfl (paired_vals r)), fun c hc => (by cases hc), List.nodup_nil⟩ (fun s' σ' B' H' hn _ x' => hn.elim) fun d v B' H' hd g rv => q _ _ _ _ hd g rv
end
section
variable {α : Type} {C : Ctx} {K : PySem.W.Frag} {ρ : List Cell} {s : S} {N : S → Prop} {R : PyData → Prop} {i j : Nat} {tl td te tk tv : TE} {tz : TS} {p : Addr} {d : PyData}
/-- one of a list's, by a place that is known to be there -/
theorem ev_pick {enc : α → PyData} {xs : List α} (hl : Ev C K tl ρ (Eq (.list (xs.map enc)))) (hd : Ev C K td ρ (fun d => ∃ x : Int, (0 ≤ x ∧ x < (xs.length : Int)) ∧ d = .int x)) : Ev C K (tOp (rIx K) tl td) ρ (fun d => ∃ x, x ∈ xs ∧ d = enc x) := by
  refine ev_op' hl (fun _ _ => hd) ?_
  rintro _ _ rfl ⟨n, hn, rfl⟩
  have hj : n.toNat < xs.length := by omega
  have e2 : atI (xs.map enc) ((n.toNat : Nat) : Int) = some (enc xs[n.toNat]) := atI_nat (by rw [List.getElem?_map, List.getElem?_eq_getElem hj]; rfl)
  rw [Int.toNat_of_nonneg hn.1] at e2
  exact op_imp (o_ixL e2) fun d e => ⟨_, List.getElem_mem hj, e.symm⟩
theorem q_asgS (h : EvS C K s te (Eq d)) (k : Tr C K tz (s.1.set i (.val d), s.2) N R) : Tr C K (tSeq (tAsg te (gName i)) tz) s N R := fun B0 H0 D σ B H x n r =>
  h B0 H0 σ B H x _ fun d' v B' H' p g r' => by
    subst p
    exact k B0 H0 D _ B' H' ((x.step g).envOf ((x.env.mono g.bb).setV r')) (fun s2 σ2 B2 H2 p2 e2 x2 => n s2 σ2 B2 H2 p2 (g.bb.trans e2) x2) r
/-- kept.get(key, default) -/
theorem es_dget2 {es : List (PyData × PyData)} {key : Str} (hi : s.1[i]? = some (.ref p)) (hj : s.2[j]? = some (p, .dic es)) (hx : EvS C K s tk (Eq (.str key))) (hv : EvS C K s tv (Eq d)) : EvS C K s (tDGet2 (tVar i) tk tv) (Eq ((getE es key).getD d)) := fun B0 H0 σ B H x Q q => by
  obtain ⟨_, _, kv0, c3, _⟩ := x.own _ (List.mem_of_getElem? hj)
  refine ⟨.ref p, x.env.ref hi, p, rfl, .inl ⟨kv0, .inl c3⟩, hx B0 H0 σ B H x _ fun d2 u B2 H2 p2 g2 r2 => hv B0 H0 σ B2 H2 (x.step g2) _ fun d3 z B3 H3 p3 g3 r3 => ?_⟩
  subst p2
  subst p3
  cases r2
  have y := (x.step g2).step g3
  obtain ⟨_, _, kvs, a3, a4, _⟩ := y.own _ (List.mem_of_getElem? hj)
  refine ⟨valV kvs (Sum.inr key), DGet.k (k := Sum.inr key) a3, ?_⟩
  cases e : getE es key with
  | none =>
    rw [a4.get0 e]
    rw [e] at q
    exact q _ _ B3 H3 rfl (g2.trans g3) r3
  | some d' =>
    obtain ⟨v, e4, e5⟩ := a4.get1 e
    rw [e4]
    rw [e] at q
    exact q _ _ B3 H3 rfl (g2.trans g3) e5
end
/-! data alike -/
mutual
theorem eqv_refl : ∀ d : PyData, d.canLay0 = true → PyData.eqv d d = true
  | .none, _ => rfl
  | .bool b, _ => by simp [PyData.eqv]
  | .int i, _ => by simp [PyData.eqv]
  | .str x, _ => by simp [PyData.eqv]
  | .list ds, h => by rw [PyData.eqv]; exact eqv_reflAll ds h
  | .tuple ds, h => by rw [PyData.eqv]; exact eqv_reflAll ds h
  | .dict _, h => by cases h
theorem eqv_reflAll : ∀ ds : List PyData, PyData.canLayAll0 ds = true → PyData.eqvAll ds ds = true
  | [], _ => by rw [PyData.eqvAll]
  | d :: ds, h => by
    obtain ⟨h1, h2⟩ := Bool.and_eq_true_iff.mp h
    rw [PyData.eqvAll, eqv_refl d h1, eqv_reflAll ds h2]
    rfl
end
theorem strs_inj : ∀ {xs ys : List Str}, xs.map PyData.str = ys.map PyData.str → xs = ys
  | [], [], _ => rfl
  | [], _ :: _, h => by cases h
  | _ :: _, [], h => by cases h
  | x :: xs, y :: ys, h => by
    rw [List.map_cons, List.map_cons] at h
    injection h with h1 h2
    injection h1 with h1
    rw [h1, strs_inj h2]
end K92
end
section -- K92J
set_option maxRecDepth 100000
set_option maxHeartbeats 1000000
/-! Expressions that change what is kept: a comprehension that pops. -/
namespace K92
open PySem PySem.Spec PyProof.Rows L2
section
variable {X : Cx} {o e : Expr} {es : List Expr} {to : TE} {t : TA} {name : Str} {apos cpos : Pos} {T id : String} {r : V → List V → Hp → VK → Prop} {K : PySem.W.Frag}
/-- a method within a comprehension -/
theorem pe_bmK (hK : X.K = K) (pa : PlainAttrs T) (slot : Slot T name id) (hty : typeOf (.builtin id) = pure (.type "method_descriptor")) (hm : MtR X id r) (ho : PE X o to) (ha : PA X (e :: es) t)
    (hbase : attributeBase o name X.env (eval o X.env) = eval o X.env := by rfl)
    (hfew : ((backTo cpos (starEach (e :: es) X.env)).all (fun x => !x.1) && (backToKw cpos (keywordEach [] X.env)).all (fun x => x.1.isSome)
      && decide ((e :: es).length + ([] : List Keyword).length + (if ([] : List Keyword).isEmpty then 0 else 1) < 30)) = true := by rfl)
    (hline : (apos.endLine == cpos.line) = true := by rfl) (hs : starEach (e :: es) X.env = (false, eval e X.env) :: starEach es X.env := by rfl) (hplain : (backTo cpos (starEach es X.env)).any (·.1) = false := by rfl) :
    PE X (.Call (.Attribute o name apos) (e :: es) [] cpos) (tBM K T r to t) := by
  subst hK
  exact pe_bm pa slot hty hm ho ha hbase hfew hline hs hplain
end
def EvX (C : Ctx) (K : PySem.W.Frag) (s : S) (te : TE) (P : PyData → List (Addr × Oc) → Prop) : Prop :=
  ∀ B0 H0 σ B H, SR C K B0 H0 s σ B H → ∀ Q : VK, (∀ d v o B' H', P d o → Ex B B' → SR C K B0 H0 (s.1, o) σ B' H' → Rp K B' v d → Q v H') → te σ H Q
section
variable {C : Ctx} {K : PySem.W.Frag} {s : S} {te : TE} {ta : TA} {wi : TI} {g : TG} {vs : List Nat} {ds : List PyData} {N : S → Prop} {R : PyData → Prop} {i k : Nat} {p : Addr} {tz : TS}
theorem tr_retLcK (h : EvI C K wi s.1 (Eq ds)) (hl : ds.length ≤ 100000) (I : Nat → List PyData → List (Addr × Oc) → Prop) (h0 : I 0 [] s.2)
    (hs : ∀ D j d acc o, ds[j]? = some d → I j acc o → acc.length = j → ∃ ρ', Tg K g vs (wipeC s.1 vs) d ρ' ∧ EvX C K (ρ', (D, .lst acc) :: o) te (fun e o2 => ∃ o', o2 = (D, .lst acc) :: o' ∧ I (j + 1) (acc ++ [e]) o'))
    (hd : ∀ acc o, I ds.length acc o → acc.length = ds.length → R (.list acc)) : Tr C K (tRet (tLc wi g tYes te vs)) s N R := fun B0 H0 D σ B H x n r =>
  h σ B H x.env x.g.on _ fun ds' J B1 H1 pl g1 w => fun L hL => by
    subst pl
    have x1 := x.step g1
    have xL := x1.new (c := .lst []) (o := .lst []) hL ⟨[], upd_same, .nil⟩
    refine lc_it w.walk (fun i H' => ∃ B' acc o, I i acc o ∧ acc.length = i ∧ Ex B1 B' ∧ SR C K B0 H0 (s.1, (L, .lst acc) :: o) σ B' H') ⟨B1, [], s.2, h0, rfl, Ex.refl _, xL⟩ (fun i H' _ ⟨B', _, _, _, _, e, x'⟩ => ⟨B', e, x'.g.on⟩) ?_ ?_
    · rintro i y H2 H3 hi ⟨B2, acc, o, hI, hlen, e2, x2⟩ hy
      obtain ⟨d, B3, hd', g3, r3⟩ := hy B2 e2 x2.g.on
      obtain ⟨ρ', ht, hE⟩ := hs L i d acc o hd' hI hlen
      have x3 := x2.step g3
      refine ht _ B3 H3 y (x3.env.wipe vs) g3.on.ex r3 _ fun σ4 e4 s4 => ⟨s4.wipe, ?_⟩
      refine hE B0 H0 σ4 B3 H3 (x3.envOf e4) _ fun e v o2 B5 H5 ⟨o', ho, hI'⟩ e5 x5 r5 => ?_
      subst ho
      obtain ⟨k1, k2, ws, k3, k4⟩ := x5.own _ (List.mem_cons_self ..)
      refine ⟨ws, k3, by rw [k4.length]; exact Evl.sz_lt (by omega), B5, acc ++ [e], o', hI', by rw [List.length_append, hlen]; rfl, (e2.trans g3.bb).trans e5, ?_⟩
      have x6 := x5.mut (k := 0) (c' := .lst (acc ++ [e])) rfl ⟨_, upd_same, k4.snoc r5⟩
      exact x6.envOf (x1.env.mono ((e2.trans g3.bb).trans e5))
    · rintro H' ⟨B', acc, o, hI, hlen, e', x'⟩
      obtain ⟨k1, k2, ws, k3, k4⟩ := x'.own _ (List.mem_cons_self ..)
      exact r _ _ _ _ (hd acc o hI hlen) (x'.g.fz k1 k3) (.lst upd_same (k4.mono (Ex.new k2)))
theorem es_lenK (hi : s.1[i]? = some (.ref p)) (hk : s.2[k]? = some (p, .lst ds)) : EvS C K s (tCB (rLEN K) (tCons (tVar i) tNil)) (Eq (.int ds.length)) := fun B0 H0 σ B H x Q q => by
  obtain ⟨h1, h2, vs, h3, h4⟩ := x.own _ (List.mem_of_getElem? hk)
  exact ⟨.ref p, x.env.ref hi, .ref p, vs.length, rfl, .inl ⟨vs, SqL.of h3, rfl⟩, by rw [h4.length]; exact q _ _ B H rfl (Gr.refl x.g.on) (.int _)⟩
theorem es_draw {pen scr : Addr} {is : List Int} {m : Int} {E : XK} (hi : s.1[i]? = some (.ref pen)) (h : EvS (CP K pen scr is) K s te (Eq (.int m))) (h0 : 0 < m) (h1 : m < 1073741824) :
    EvS (CP K pen scr is) K s (tCall (spP K Pre_draw R_draw) [] E (tCons (tVar i) (tCons te tNil))) (fun d => ∃ x : Int, (0 ≤ x ∧ x < m) ∧ d = .int x) := fun B0 H0 σ B H z Q q =>
  ⟨.ref pen, z.env.ref hi, h B0 H0 σ B H z _ fun d v B1 H1 p g r => by
    subst p
    show spP K Pre_draw R_draw ([.ref pen, v] ++ []) H1 Q E
    rw [List.append_nil]
    refine ⟨B1, pen, scr, is, [v], [.int m], rfl, .cons r .nil, g.on, ⟨m, h0, h1, rfl⟩, fun v' d' B' H' ⟨m', x, e, hx0, hx1, hd⟩ g2 r2 => q d' v' B' H' ⟨x, ⟨hx0, ?_⟩, hd⟩ (g.trans g2) r2⟩
    injection e with e _
    injection e with e
    omega⟩
theorem RpAll.erase {B : Hp} : ∀ {vs : List V} {ds : List PyData} (n : Nat), RpAll K B vs ds → RpAll K B (vs.eraseIdx n) (ds.eraseIdx n)
  | _, _, _, .nil => .nil
  | _, _, 0, .cons _ t => t
  | _, _, n + 1, .cons r t => .cons r (RpAll.erase n t)
theorem ex_pop (hi : s.1[i]? = some (.ref p)) (hk : s.2[k]? = some (p, .lst ds)) (hl : ds.length ≤ 1000) (h : EvS C K s te (fun d => ∃ x : Int, (0 ≤ x ∧ x < (ds.length : Nat)) ∧ d = .int x)) :
    EvX C K s (tBM K "list" rPopAt (tVar i) (tCons te tNil)) (fun d o => ∃ j, ∃ hj : j < ds.length, d = ds[j] ∧ o = s.2.set k (p, .lst (ds.eraseIdx j))) := fun B0 H0 σ B H x Q q => by
  obtain ⟨h1, h2, vs, h3, h4⟩ := x.own _ (List.mem_of_getElem? hk)
  refine ⟨.ref p, x.env.ref hi, Or.inl ⟨rfl, vs, SqL.of h3⟩, h B0 H0 σ B H x _ fun d v B' H' ⟨n, hn, e⟩ g r' => ?_⟩
  subst e
  cases r'
  have y := x.step g
  obtain ⟨g1, g2, ws, g3, g4⟩ := y.own _ (List.mem_of_getElem? hk)
  have hj : n.toNat < ds.length := by omega
  obtain ⟨w, hw, rw'⟩ := g4.get (List.getElem?_eq_getElem hj)
  have hwl := g4.length
  refine ⟨p, ws, n, n.toNat, w, rfl, rfl, g3, by omega, by omega, ?_, hw, ?_⟩
  · unfold seqIndex?
    rw [hwl]
    simp
    omega
  · exact q _ _ _ B' _ ⟨n.toNat, hj, rfl, rfl⟩ g.bb (y.mut hk ⟨_, upd_same, g4.erase _⟩) rw'
theorem q_lisKeep (h : Ev C K te s.1 (Eq (.list ds))) (kk : ∀ p, Tr C K tz (s.1.set i (.ref p), (p, .lst ds) :: s.2) N R) : Tr C K (tSeq (tAsg (tCB (rLIS K) (tCons te tNil)) (gName i)) tz) s N R := fun B0 H0 D σ B H x n r =>
  h σ B H x.env x.g.on _ fun d v B1 H1 p g r1 => by
    subst p
    cases r1 with
    | lst hs ha =>
      have y := x.step g
      exact ⟨_, _, rfl, .inl (SqL.of (g.on.ex _ _ hs)), fun l hl => kk l B0 H0 D _ B1 _ ((y.new (c := .lst ds) hl ⟨_, upd_same, ha⟩).envOf y.env.setR) (fun s2 σ2 B2 H2 p2 e2 x2 => n s2 σ2 B2 H2 p2 (g.bb.trans e2) x2) r⟩
theorem q_newLA (h : EvA C K ta s.1 (Eq ds)) (hl : ds.length ≤ 100000) (kk : ∀ p, Tr C K tz (s.1.set i (.ref p), (p, .lst ds) :: s.2) N R) : Tr C K (tSeq (tAsg (tLst ta) (gName i)) tz) s N R := fun B0 H0 D σ B H x n r =>
  h σ B H x.env x.g.on _ fun d v B1 H1 p g r1 => by
    subst p
    have y := x.step g
    exact ⟨by rw [r1.length]; exact sz_ok hl, fun l hp => kk l B0 H0 D _ B1 _ ((y.new (c := .lst ds) hp ⟨_, upd_same, r1⟩).envOf y.env.setR) (fun s2 σ2 B2 H2 p2 e2 x2 => n s2 σ2 B2 H2 p2 (g.bb.trans e2) x2) r⟩
end
end K92
end
section -- K92F13
set_option maxRecDepth 100000
set_option maxHeartbeats 1000000
namespace K92
open PySem PySem.Spec PyProof.Rows L2
local macro_rules | `(tactic| walk_at "dc") => `(tactic| first | decide +kernel | with_reducible rfl)
local macro_rules | `(tactic| walk_at "bb") => `(tactic| first | exact Eq.trans (b := true) (by decide +kernel) rfl | exact Eq.trans (b := false) (by decide +kernel) rfl)
local macro_rules | `(tactic| walk_at "go") => `(tactic| dsimp only [cxOf, Cx.nox, startC, List.map_cons, List.map_nil, List.length_cons, List.length_nil])
local macro_rules | `(tactic| walk_at "at") => `(tactic| first | with_reducible exact at_if | with_reducible exact at0 _ _ | with_reducible exact at1 _ _ _ | with_reducible exact at2 _ _ _ _ | rfl | exact at_word _ | exact at_name _ | exact at_day _)
local macro_rules | `(tactic| walk_at "op") => `(tactic| first
  | ((with_reducible apply o_ixT); walk_at "at")
  | ((with_reducible apply o_ixL); walk_at "at")
  | with_reducible exact o_eqS
  | with_reducible exact o_eqI
  | with_reducible exact o_neS
  | with_reducible exact o_neI
  | with_reducible exact o_le
  | with_reducible exact o_lt
  | with_reducible exact o_addI
  | with_reducible exact o_sub
  | ((with_reducible apply o_inT); first | assumption | rfl)
  | ((with_reducible apply o_inL); first | assumption | rfl)
  | with_reducible exact o_inS
  | with_reducible exact o_neNS
  | ((with_reducible apply o_neD); assumption; assumption)
  | ((with_reducible apply o_eqD); assumption; assumption))
local macro_rules | `(tactic| walk_at "tg") => `(tactic| first
  | ((with_reducible apply tg_name); decide)
  | ((with_reducible apply tg_tupW); (walk_at "tg"); rfl)
  | with_reducible exact tgs_nil
  | ((with_reducible apply tgs_cons); (walk_at "tg"); (walk_at "tg")))
local macro_rules | `(tactic| walk_at "lc") => `(tactic| ((apply lcI); (walk_at "tg"); (apply EvT.is); (walk_at "ev"); rfl; (intro _); (apply Ev.is); (walk_at "ev"); rfl))
local macro_rules | `(tactic| walk_at "ev") => `(tactic| first
  | ((with_reducible apply ev_var); rfl)
  | with_reducible exact ev_str
  | with_reducible exact ev_int
  | with_reducible exact ev_bl
  | with_reducible exact ev_non
  | with_reducible exact ev_c (by assumption)
  | with_reducible exact ea_nil
  | ((with_reducible apply ev_op); (walk_at "ev"); (walk_at "ev"); (walk_at "op"))
  | ((with_reducible apply ea_cons); (walk_at "ev"); (walk_at "ev"))
  | ((with_reducible apply ev_tupW); (walk_at "ev"); exact Nat.le_of_ble_eq_true rfl)
  | ((with_reducible apply ev_lstW); (walk_at "ev"); exact Nat.le_of_ble_eq_true rfl)
  | ((with_reducible apply et_testD); walk_at "ev")
  | ((with_reducible apply et_B); walk_at "ev")
  | ((with_reducible apply et_not); walk_at "ev")
  | ((with_reducible apply et_andF); (walk_at "ev"); (walk_at "dc"))
  | ((with_reducible apply et_andT); (walk_at "ev"); (walk_at "dc"); (walk_at "ev"))
  | ((with_reducible apply et_and); (walk_at "ev"); intro _; (walk_at "ev"))
  | ((with_reducible apply et_orT); (walk_at "ev"); (walk_at "dc"))
  | ((with_reducible apply et_orF); (walk_at "ev"); (walk_at "dc"); (walk_at "ev"))
  | ((with_reducible apply et_or); (walk_at "ev"); intro _; (walk_at "ev"))
  | ((with_reducible apply ev_andVF); (walk_at "ev"); (walk_at "dc"))
  | ((with_reducible apply ev_andVT); (walk_at "ev"); (walk_at "dc"); (walk_at "ev"))
  | ((with_reducible apply ev_orVT); (walk_at "ev"); (walk_at "dc"))
  | ((with_reducible apply ev_orVF); (walk_at "ev"); (walk_at "dc"); (walk_at "ev"))
  | ((with_reducible apply ev_andV); (walk_at "ev"); intro _; (walk_at "ev"))
  | ((with_reducible apply ev_orV); (walk_at "ev"); intro _; (walk_at "ev"))
  | ((with_reducible apply ev_notV); walk_at "ev")
  | ((with_reducible apply ev_neg); (walk_at "ev"))
  | ((with_reducible apply ev_isNE); (walk_at "ev"))
  | ((with_reducible apply ev_notN); (walk_at "ev"))
  | with_reducible exact lc_T
  | with_reducible exact eo_none
  | ((with_reducible apply eo_some); (walk_at "ev"))
  | ((with_reducible apply ev_slT); (walk_at "ev"); (walk_at "ev"); (walk_at "ev"); (exact fun h => Nat.ne_of_beq_eq_false rfl h.2); first | exact cut2 | exact cut3 | rfl)
  | ((with_reducible apply ev_slL); (walk_at "ev"); (walk_at "ev"); (walk_at "ev"); rfl)
  | ((with_reducible apply ev_kd); (walk_at "ev"); assumption; assumption)
  | ((with_reducible apply ev_call); (walk_at "ev"); assumption)
  | ((with_reducible apply ev_cb); (walk_at "ev"); (walk_at "cb"))
  | ((with_reducible apply ev_isi); (walk_at "ev"); (walk_at "dc"))
  | ((with_reducible apply ev_lcM); (walk_at "ev"); (exact Nat.le_of_ble_eq_true rfl); (walk_at "pd"))
  | ((with_reducible apply ei_list); (walk_at "ev"))
  | ((with_reducible apply ei_tup); (walk_at "ev"))
  | ((with_reducible apply ei_zip); (walk_at "ev"); assumption))
local macro_rules | `(tactic| walk_at "pd") => `(tactic| first | exact Paired.nil | ((apply Paired.cons); (walk_at "lc"); (walk_at "pd")))
local macro_rules | `(tactic| walk_at "cb") => `(tactic| first
  | with_reducible exact n_lenL
  | with_reducible exact n_lenT
  | ((with_reducible apply n_lenS); assumption)
  | with_reducible exact n_intB
  | with_reducible exact n_abs
  | with_reducible exact n_min
  | with_reducible exact n_tupL
  | with_reducible exact n_lisT
  | with_reducible exact n_lisL)
local macro_rules | `(tactic| walk_at "tr") => `(tactic| first
  | ((with_reducible apply q_retF); (walk_at "ev"); (walk_at "dc"))
  | ((with_reducible apply q_retT); (walk_at "ev"); (walk_at "dc"))
  | ((with_reducible apply q_retB); (walk_at "ev"))
  | ((with_reducible apply tr_retI); (walk_at "ev"))
  | ((with_reducible apply q_par); (walk_at "ev"))
  | ((with_reducible apply q_par3); (walk_at "ev"))
  | ((with_reducible apply q_newL); intro _)
  | ((with_reducible apply q_newD); intro _)
  | ((with_reducible apply q_asgA); (walk_at "ev"); (walk_at "tg")))
local macro_rules | `(tactic| walk_at "if") => `(tactic| first
  | ((with_reducible apply q_app (k := 0)); rfl; rfl; assumption; (walk_at "ev"))
  | with_reducible apply q_as
  | with_reducible apply q_nx
  | ((with_reducible apply q_par); (walk_at "ev"))
  | ((with_reducible apply q_par3); (walk_at "ev"))
  | ((with_reducible apply q_iF); (walk_at "ev"); (walk_at "dc"))
  | ((with_reducible apply q_iT); (walk_at "ev"); (walk_at "dc"))
  | ((with_reducible apply q_i); (walk_at "ev"))
  | ((with_reducible apply q_rt); (walk_at "ev"))
  | ((with_reducible apply q_asgA); (walk_at "ev"); (walk_at "tg")))


def Page.form : Page → Str
  | .comes .. => "wdwww" | .trial .. => "wdwwwt" | .back .. => "wdwwt" | .keep .. => "wdwwm" | .give .. => "wdwwwtm" | .goes .. => "wdww"
  | .double .. => "wdww" | .promise .. => "wdwwwd" | .loose .. => "wdw" | .want .. => "wdwwg" | .owe .. => "wdwwp" | .pay .. => "wdwwp"
def Page.tail (p : Page) : List PyData := p.ds.tail
/-- what is_page asks -/
structure Page.good (p : Page) : Prop where
  parts : ∀ q, q ∈ (p.form.cps.toList.map fun c => PyData.str ⟨#[c]⟩).zip p.tail → partOk q.1 q.2
  two : ∀ a b, p.houses = [a, b] → a ≠ b
  prom : ∀ n e t a b u, p = .promise n e t a b u → e ≤ u
theorem chr_w : (⟨#[119]⟩ : Str) = "w" := by decide +kernel
theorem chr_d : (⟨#[100]⟩ : Str) = "d" := by decide +kernel
theorem chr_t : (⟨#[116]⟩ : Str) = "t" := by decide +kernel
theorem chr_g : (⟨#[103]⟩ : Str) = "g" := by decide +kernel
theorem chr_m : (⟨#[109]⟩ : Str) = "m" := by decide +kernel
theorem chr_p : (⟨#[112]⟩ : Str) = "p" := by decide +kernel
theorem form_cps (p : Page) : p.form.cps.toList = (match p with
  | .comes .. => [119, 100, 119, 119, 119] | .trial .. => [119, 100, 119, 119, 119, 116] | .back .. => [119, 100, 119, 119, 116] | .keep .. => [119, 100, 119, 119, 109] | .give .. => [119, 100, 119, 119, 119, 116, 109] | .goes .. => [119, 100, 119, 119]
  | .double .. => [119, 100, 119, 119] | .promise .. => [119, 100, 119, 119, 119, 100] | .loose .. => [119, 100, 119] | .want .. => [119, 100, 119, 119, 103] | .owe .. => [119, 100, 119, 119, 112] | .pay .. => [119, 100, 119, 119, 112]) := by
  cases p
  · show (("wdwww" : Str)).cps.toList = [119, 100, 119, 119, 119]; decide +kernel
  · show (("wdwwwt" : Str)).cps.toList = [119, 100, 119, 119, 119, 116]; decide +kernel
  · show (("wdwwt" : Str)).cps.toList = [119, 100, 119, 119, 116]; decide +kernel
  · show (("wdwwm" : Str)).cps.toList = [119, 100, 119, 119, 109]; decide +kernel
  · show (("wdwwwtm" : Str)).cps.toList = [119, 100, 119, 119, 119, 116, 109]; decide +kernel
  · show (("wdww" : Str)).cps.toList = [119, 100, 119, 119]; decide +kernel
  · show (("wdww" : Str)).cps.toList = [119, 100, 119, 119]; decide +kernel
  · show (("wdwwwd" : Str)).cps.toList = [119, 100, 119, 119, 119, 100]; decide +kernel
  · show (("wdw" : Str)).cps.toList = [119, 100, 119]; decide +kernel
  · show (("wdwwg" : Str)).cps.toList = [119, 100, 119, 119, 103]; decide +kernel
  · show (("wdwwp" : Str)).cps.toList = [119, 100, 119, 119, 112]; decide +kernel
  · show (("wdwwp" : Str)).cps.toList = [119, 100, 119, 119, 112]; decide +kernel
theorem form_len (p : Page) : p.form.cps.size = p.tail.length := by
  rw [← Array.length_toList, form_cps]
  cases p <;> rfl
theorem word_ok {s : Str} (h : isWord s) : okS s := by
  show PyData.canLay0 (.str s) = true
  rw [PyData.canLay0]
  show s.cps.all (· < 0x110000) = true
  rw [← Array.all_toList, List.all_eq_true]
  intro c hc
  have h1 := h.all c hc
  have h2 : ∀ c, c ∈ letters.cps.toList → decide (c < 0x110000) = true := by decide +kernel
  exact h2 c h1
theorem cut1 {a : PyData} {l : List PyData} : cutD (a :: l) (some 1) none = l := by
  have e : HT.sIx (a :: l).length 0 (some 1) = 1 := by
    simp only [HT.sIx, List.length_cons]
    rw [if_neg (by decide)]
    show min 1 _ = 1
    omega
  unfold cutD
  rw [e, HT.sIx_none]
  show List.take _ l = l
  exact List.take_of_length_le (by simp)
section
variable {P : Program} {w : World} {K : PySem.W.Frag} {mg : Str → Option Value} {base : Heap}
theorem ev_notKd {C : Ctx} {ρ : List Cell} {te : TE} {a : Addr} {k : Str} {v : V} (h : Ev C K te ρ (Eq (.str k))) (hk : KDct K w a k v) : Ev C K (tOp (fun x y H Q => ∃ (z : Str) (r : Option Value), x = .str z ∧ y = .ref a ∧ PySem.W.nsIn K a z = some r ∧ Q (.bl (!r.isSome)) H) te (tC (.ref a))) ρ (Eq (.bool false)) := fun σ B H e o Q q =>
  h σ B H e o _ fun x' u B1 H1 p g r => by
    subst p
    cases r
    obtain ⟨es, n, u0, _, _, e1, _⟩ := hk
    exact ⟨k, some u0, rfl, rfl, e1, q (.bool false) (.bl false) B1 H1 rfl g (.bl false)⟩
abbrev N_is_page : List Str := ["thing", "form", "kind", "part", "houses"]
theorem sc_is_page : FnScope N_is_page ["thing"] (defScope s_is_page) := ⟨rfl, rfl, rfl, by decide +kernel, rfl, by decide +kernel, by decide +kernel⟩
def R_is_page (ds : List PyData) (d : PyData) : Prop := ∃ p, Page.good p ∧ ds = [Page.d p] ∧ d = .bool true
theorem ok_is_page (T : Tx w K mg) (c_is_part : Cal P w K mg base "is_part" ["kind", "thing"] 3 (spD K R_is_part)) (c_houses_in : Cal P w K mg base "houses_in" ["page"] 1 (spD K R_houses_in)) : Cal P w K mg base "is_page" ["thing"] 4 (spD K R_is_page) := by
  obtain ⟨esF, nF, hDF⟩ := T.DFORMS
  refine cal_data T.d_is_page sc_is_page (fun _ _ _ _ _ _ us hl => match us, hl with | [_], _ => rfl) (fun ds d ⟨_, _, h1, h2⟩ => by subst h1; rfl) (fun f cdv A outer s H E hr => ⟨_,
    (pss_cons (ps_if (PW.pt (pw_or (pt_not (pt_val (pe_callB (r := rISI K) cr_ISI (by rfl) T.isinstance (by decide +kernel) (pa_cons (pv 0) (pa_cons (pe_bltn (v := .ty "tuple") (u := .type "tuple") (by rfl) T.tuple (by decide +kernel) rfl) pa_nil))))) (pw_or (pt_cmpR (r := rEQ K) (op_EQ hr.units) (pe_callB (r := rLEN K) cr_LEN (by rfl) T.len (by decide +kernel) (pa_cons (pv 0) pa_nil)) pe_int (nomark _)) (pw_or (pt_not (pt_val (pe_callB (r := rISI K) cr_ISI (by rfl) T.isinstance (by decide +kernel) (pa_cons (pe_ix (r := rIx K) ix_seq (pv 0) pe_int (fun _ _ => rfl)) (pa_cons (pe_bltn (v := .ty "str") (u := .type "str") (by rfl) T.str (by decide +kernel) rfl) pa_nil))))) (pw_or1 (pt_cmpR (op_notIn_kd hDF) (pe_ix (r := rIx K) ix_seq (pv 0) pe_int (fun _ _ => rfl)) (pe_gr (by rfl) T.FORMS) rfl)))))) (pss_one (ps_ret pe_bl)) pss_nil)
  (pss_cons (ps_set (i := 1) sc_is_page.nd rfl (by first | exact .inl rfl | exact .inr rfl) (pe_ix (r := rIxD K w) ix_kdict (pe_gr (by rfl) T.FORMS) (pe_ix (r := rIx K) ix_seq (pv 0) pe_int (fun _ _ => rfl)) (fun _ _ => rfl)))
  (pss_cons (ps_if (PW.pt (pw_or (pt_cmpR (r := rNE K) (op_NE hr.units) (pe_callB (r := rLEN K) cr_LEN (by rfl) T.len (by decide +kernel) (pa_cons (pv 0) pa_nil)) (pe_op op_ADD pe_int (pe_callB (r := rLEN K) cr_LEN (by rfl) T.len (by decide +kernel) (pa_cons (pv 1) pa_nil))) (nomark _)) (pw_or1 (pt_not (pt_val (pe_callB (r := rAll K) (cr_all rfl) (by rfl) T.all (by decide +kernel) (pa_cons (pe_lc (own := [("kind", 2), ("part", 3)]) (g := gTup K 2 (gCons (gName 2) (gCons (gName 3) (gNil)))) rfl sc_is_page.nd (pi_zipST (by rfl) T.zip (pa_cons (pv 1) (pa_cons (pe_slice (r := rSL K) sl_SL (pv 0) (po_some pe_int) po_none) pa_nil))) (blkOk_by (own := [("kind", 2), ("part", 3)]) (N := N_is_page) (sc := defScope s_is_page) (by decide +kernel)) (fun _ _ _ _ _ => (pg_tup rfl (pgs_cons (pg_name (i := 2) sc_is_page.nd rfl (.inl rfl)) (pgs_cons (pg_name (i := 3) sc_is_page.nd rfl (.inl rfl)) pgs_nil)))) (fun _ _ _ _ _ => pts_nil) (fun _ _ _ _ _ => (pe_cal c_is_part (hr.mono (by decide)) (by rfl) (pa_cons (pv 2) (pa_cons (pv 3) pa_nil))))) pa_nil))))))) (pss_one (ps_ret pe_bl)) pss_nil)
  (pss_cons (ps_set (i := 4) sc_is_page.nd rfl (by first | exact .inl rfl | exact .inr rfl) (pe_cal c_houses_in (hr.mono (by decide)) (by rfl) (pa_cons (pv 0) pa_nil)))
  (pss_cons (ps_if (PW.pt (pw_and (pt_cmpR (r := rEQ K) (op_EQ hr.units) (pe_callB (r := rLEN K) cr_LEN (by rfl) T.len (by decide +kernel) (pa_cons (pv 4) pa_nil)) pe_int (nomark _)) (pw_and1 (pt_cmpR (r := rEQ K) (op_EQ hr.units) (pe_ix (r := rIx K) ix_seq (pv 4) pe_int (fun _ _ => rfl)) (pe_ix (r := rIx K) ix_seq (pv 4) pe_int (fun _ _ => rfl)) (nomark _))))) (pss_one (ps_ret pe_bl)) pss_nil)
  (pss_one (ps_ret (pe_or (pe_cmpR (r := rNE K) (op_NE hr.units) (pe_ix (r := rIx K) ix_seq (pv 0) pe_int (fun _ _ => rfl)) pe_str (nomark _)) (pe_one (pe_cmpR op_LE (pe_ix (r := rIx K) ix_seq (pv 0) pe_int (fun _ _ => rfl)) (pe_ix (r := rIx K) ix_seq (pv 0) pe_int (fun _ _ => rfl)) (nomark _))))))))))), fun ds d hR => ?_⟩)
  obtain ⟨p, hp, rfl, rfl⟩ := hR
  walk_at "go"
  have hkd : KDct K w (He.ga K "FORMS") p.word (.str p.form) := by
    cases p
    · exact T.FORMS_comes
    · exact T.FORMS_trial
    · exact T.FORMS_back
    · exact T.FORMS_keep
    · exact T.FORMS_give
    · exact T.FORMS_goes
    · exact T.FORMS_double
    · exact T.FORMS_promise
    · exact T.FORMS_loose
    · exact T.FORMS_want
    · exact T.FORMS_owe
    · exact T.FORMS_pay
  have hlen : p.ds.length = 1 + p.form.length := by
    have h := form_len p
    show _ = 1 + p.form.cps.size
    rw [h]
    cases p <;> rfl
  have hf7 : p.form.length ≤ 100000 := by
    show p.form.cps.size ≤ _
    rw [form_len]
    cases p <;> exact Nat.le_of_ble_eq_true rfl
  have etail : ∃ a, p.ds = a :: p.tail := by cases p <;> exact ⟨_, rfl⟩
  refine q_retF (b := false) ?_ rfl ?_
  · refine et_orF (a := false) (EvT.is (et_not (et_B (ev_isi (T := "tuple") (b := true) (by walk_at "ev") rfl))) rfl) rfl ?_
    refine et_orF (a := false) (EvT.is (et_testD (ev_op (ev_cb (by walk_at "ev") n_lenT) (by walk_at "ev") o_eqI)) ?_) rfl ?_
    · exact decide_eq_false (by rw [hlen]; omega)
    refine et_orF (a := false) (EvT.is (et_not (et_B (ev_isi (T := "str") (b := true) (ev_op (by walk_at "ev") (by walk_at "ev") (o_ixT (at_word p))) rfl))) rfl) rfl ?_
    exact et_testD (ev_notKd (ev_op (by walk_at "ev") (by walk_at "ev") (o_ixT (at_word p))) hkd)
  refine q_asgG (is := anyS) (ev_kd (ev_op (by walk_at "ev") (by walk_at "ev") (o_ixT (at_word p))) hkd fun B => .str _) (by walk_at "tg") ?_
  refine q_retF (b := false) ?_ rfl ?_
  · refine et_orF (a := false) (EvT.is (et_testD (ev_op (ev_cb (by walk_at "ev") n_lenT) (ev_op (by walk_at "ev") (ev_cb (by walk_at "ev") (n_lenS hf7)) o_addI) o_neI)) ?_) rfl ?_
    · rw [hlen]
      have e : decide (((1 + p.form.length : Nat) : Int) = 1 + (p.form.length : Int)) = true := decide_eq_true (by omega)
      rw [e]
      rfl
    refine EvT.is (et_not (et_B (ev_cb (ea_cons (ev_lcY (fun q : PyData × PyData => PyData.tuple [q.1, q.2]) ((p.form.cps.toList.map fun c => PyData.str ⟨#[c]⟩).zip p.tail) (ei_zipST (ea_cons (by walk_at "ev") (ea_cons (ev_slT (es := p.tail) (by walk_at "ev") (eo_some (by walk_at "ev")) eo_none ?_ ?_) ea_nil)) (form_len p)) (fun _ => .bool true) ?_ ?_) ea_nil) (n_all' (n := ((p.form.cps.toList.map fun c => PyData.str ⟨#[c]⟩).zip p.tail).length) (List.map_const' ..))))) rfl
    · obtain ⟨a, ea⟩ := etail
      intro h
      have h1 := h.1
      rw [ea] at h1
      simp only [HT.sIx, List.length_cons] at h1
      rw [if_neg (by decide)] at h1
      have h2 : min 1 (p.tail.length + 1) = 0 := h1
      omega
    · obtain ⟨a, ea⟩ := etail
      rw [ea]
      exact cut1
    · rw [List.length_zip]
      have : p.tail.length ≤ 100000 := by cases p <;> exact Nat.le_of_ble_eq_true rfl
      omega
    · intro q hq
      have r1 : R_is_part [q.1, q.2] (.bool true) := ⟨_, _, hp.parts q hq, rfl, rfl⟩
      apply lcI
      · walk_at "tg"
      · walk_at "ev"
      · intro _
        walk_at "ev"
  have r1 : R_houses_in [Page.d p] (.list (p.houses.map .str)) := ⟨p, rfl, rfl⟩
  walk_at "tr"
  have h2 := hp.two
  have h3 := hp.prom
  cases p
  case promise n e t a b u =>
    refine q_retF (b := false) (et_andT (a := true) (by apply EvT.is; walk_at "ev"; rfl) rfl (EvT.is (by walk_at "ev") (decide_eq_false (h2 a b rfl)))) rfl ?_
    exact tr_retI (d := .bool true) (Ev.is (ev_orVF (a := false) (by apply Ev.is; walk_at "ev"; exact congrArg PyData.bool (by walk_at "bb")) rfl (by walk_at "ev")) (congrArg PyData.bool (decide_eq_true (h3 n e t a b u rfl)))) rfl
  case trial n e t a b y =>
    refine q_retF (b := false) (et_andT (a := true) (by apply EvT.is; walk_at "ev"; rfl) rfl (EvT.is (by walk_at "ev") (decide_eq_false (h2 a b rfl)))) rfl ?_
    walk_at "tr"; rfl
  case give n e t a b y m =>
    refine q_retF (b := false) (et_andT (a := true) (by apply EvT.is; walk_at "ev"; rfl) rfl (EvT.is (by walk_at "ev") (decide_eq_false (h2 a b rfl)))) rfl ?_
    walk_at "tr"; rfl
  case owe n e a b m =>
    refine q_retF (b := false) (et_andT (a := true) (by apply EvT.is; walk_at "ev"; rfl) rfl (EvT.is (by walk_at "ev") (decide_eq_false (h2 a b rfl)))) rfl ?_
    walk_at "tr"; rfl
  case pay n e a b m =>
    refine q_retF (b := false) (et_andT (a := true) (by apply EvT.is; walk_at "ev"; rfl) rfl (EvT.is (by walk_at "ev") (decide_eq_false (h2 a b rfl)))) rfl ?_
    walk_at "tr"; rfl
  all_goals
    refine q_retF (b := false) (et_andF (b := false) (by apply EvT.is; walk_at "ev"; rfl) rfl) rfl ?_
    walk_at "tr"
    rfl
abbrev N_page_key : List Str := ["page"]
theorem sc_page_key : FnScope N_page_key ["page"] (defScope s_page_key) := ⟨rfl, rfl, rfl, by decide +kernel, rfl, by decide +kernel, by decide +kernel⟩
def rTIx (K : PySem.W.Frag) : V → List V → Hp → VK → Prop := fun x xs H Q => ∃ p, ∃ ys : List Str, ∃ z j, x = .ref p ∧ xs = [.str z] ∧ SqT K H p (ys.map V.str) ∧ ys[j]? = some z ∧ (∀ m, m < j → ys[m]? ≠ some z) ∧ Q (.int (j : Nat)) H
def ranks : List Str := ["comes", "trial", "back", "keep", "give", "goes", "double", "promise", "loose", "want", "owe", "pay"]
theorem rank_at (p : Page) : ranks[p.rank]? = some p.word ∧ ∀ m, m < p.rank → ranks[m]? ≠ some p.word := by
  have h : ∀ j, j < 12 → ∀ m, m < j → ranks[m]? ≠ ranks[j]? := by decide +kernel
  have e : ranks[p.rank]? = some p.word := by cases p <;> rfl
  refine ⟨e, fun m hm => ?_⟩
  rw [← e]
  exact h p.rank (by cases p <;> exact Nat.le_of_ble_eq_true rfl) m hm
def keyD (p : Page) : PyData := .tuple [.int p.day, .int p.rank, .str p.name]
theorem ok_page_key (T : Tx w K mg) : Cal P w K mg base "page_key" ["page"] 1 (spD K fun ds d => ∃ p : Page, ds = [Page.d p] ∧ d = keyD p) := by
  refine cal_data T.d_page_key sc_page_key (fun _ _ _ _ _ _ us hl => match us, hl with | [_], _ => rfl) (fun ds d ⟨_, h1, h2⟩ => by subst h1; rfl) (fun f cdv A outer s H E hr => ⟨_,
    (pss_one (ps_ret (pe_tup (pa_cons (pe_ix (r := rIx K) ix_seq (pv 0) pe_int (fun _ _ => rfl)) (pa_cons (pe_bm (T := "tuple") (r := rTIx K) PySem.F.plainAttrs_tuple PySem.F.slot_tuple_index PySem.F.type_tuple_index mt_tup_index (pe_gr (by rfl) T.RANKS) (pa_cons (pe_ix (r := rIx K) ix_seq (pv 0) pe_int (fun _ _ => rfl)) pa_nil)) (pa_cons (pe_ix (r := rIx K) ix_seq (pv 0) pe_int (fun _ _ => rfl)) pa_nil)))))), fun ds d hR => ?_⟩)
  obtain ⟨p, rfl, rfl⟩ := hR
  walk_at "go"
  have ei : Ev C0 K (tBM K "tuple" (rTIx K) (tC (.ref (He.ga K "RANKS"))) (tCons (tOp (rIx K) (tVar 0) (tC (.int 0))) tNil)) [Cell.val p.d] (Eq (.int p.rank)) := fun σ B H e o Q q => by
    refine ⟨.inr (.inl ⟨rfl, T.nRANKS⟩), ?_⟩
    refine (ea_cons (ev_op (ev_var (i := 0) (d := p.d) rfl) ev_int (o_ixT (at_word p))) ea_nil : EvA C0 K _ [Cell.val p.d] (Eq [.str p.word])) σ B H e o _ fun ds vs B1 H1 p1 g r => ?_
    subst p1
    cases r with
    | cons r1 r2 =>
      cases r2
      cases r1
      cases T.rRANKS B1 with
      | tup hs ha =>
        have ha' : RpAll K B1 _ (ranks.map PyData.str) := ha
        have hx := ha'.strs
        subst hx
        exact ⟨_, ranks, _, p.rank, rfl, rfl, Evl.ex_t g.on.ex hs, (rank_at p).1, (rank_at p).2, q _ _ B1 H1 rfl g (.int _)⟩
  exact tr_retI (ev_tup (ea_cons (by walk_at "ev") (ea_cons ei (ea_cons (by walk_at "ev") ea_nil)))) rfl
end
end K92
end
section -- K92F14
set_option maxRecDepth 100000
set_option maxHeartbeats 1000000
namespace K92
open PySem PySem.Spec PyProof.Rows L2
local macro_rules | `(tactic| walk_at "dc") => `(tactic| first | decide +kernel | with_reducible rfl)
local macro_rules | `(tactic| walk_at "bb") => `(tactic| first | exact Eq.trans (b := true) (by decide +kernel) rfl | exact Eq.trans (b := false) (by decide +kernel) rfl)
local macro_rules | `(tactic| walk_at "go") => `(tactic| dsimp only [cxOf, Cx.nox, startC, List.map_cons, List.map_nil, List.length_cons, List.length_nil])
local macro_rules | `(tactic| walk_at "at") => `(tactic| first | with_reducible exact at_if | with_reducible exact at0 _ _ | with_reducible exact at1 _ _ _ | with_reducible exact at2 _ _ _ _ | rfl | exact at_word _ | exact at_name _ | exact at_day _)
local macro_rules | `(tactic| walk_at "op") => `(tactic| first
  | ((with_reducible apply o_ixT); walk_at "at")
  | ((with_reducible apply o_ixL); walk_at "at")
  | with_reducible exact o_eqS
  | with_reducible exact o_eqI
  | with_reducible exact o_neS
  | with_reducible exact o_neI
  | with_reducible exact o_le
  | with_reducible exact o_lt
  | with_reducible exact o_addI
  | with_reducible exact o_sub
  | ((with_reducible apply o_inT); first | assumption | rfl)
  | ((with_reducible apply o_inL); first | assumption | rfl)
  | with_reducible exact o_inS
  | with_reducible exact o_neNS
  | ((with_reducible apply o_neD); assumption; assumption)
  | ((with_reducible apply o_eqD); assumption; assumption))
local macro_rules | `(tactic| walk_at "tg") => `(tactic| first
  | ((with_reducible apply tg_name); decide)
  | ((with_reducible apply tg_tupW); (walk_at "tg"); rfl)
  | with_reducible exact tgs_nil
  | ((with_reducible apply tgs_cons); (walk_at "tg"); (walk_at "tg")))
local macro_rules | `(tactic| walk_at "lc") => `(tactic| ((apply lcI); (walk_at "tg"); (apply EvT.is); (walk_at "ev"); rfl; (intro _); (apply Ev.is); (walk_at "ev"); rfl))
local macro_rules | `(tactic| walk_at "ev") => `(tactic| first
  | ((with_reducible apply ev_var); rfl)
  | with_reducible exact ev_str
  | with_reducible exact ev_int
  | with_reducible exact ev_bl
  | with_reducible exact ev_non
  | with_reducible exact ev_c (by assumption)
  | with_reducible exact ea_nil
  | ((with_reducible apply ev_op); (walk_at "ev"); (walk_at "ev"); (walk_at "op"))
  | ((with_reducible apply ea_cons); (walk_at "ev"); (walk_at "ev"))
  | ((with_reducible apply ev_tupW); (walk_at "ev"); exact Nat.le_of_ble_eq_true rfl)
  | ((with_reducible apply ev_lstW); (walk_at "ev"); exact Nat.le_of_ble_eq_true rfl)
  | ((with_reducible apply et_testD); walk_at "ev")
  | ((with_reducible apply et_B); walk_at "ev")
  | ((with_reducible apply et_not); walk_at "ev")
  | ((with_reducible apply et_andF); (walk_at "ev"); (walk_at "dc"))
  | ((with_reducible apply et_andT); (walk_at "ev"); (walk_at "dc"); (walk_at "ev"))
  | ((with_reducible apply et_and); (walk_at "ev"); intro _; (walk_at "ev"))
  | ((with_reducible apply et_orT); (walk_at "ev"); (walk_at "dc"))
  | ((with_reducible apply et_orF); (walk_at "ev"); (walk_at "dc"); (walk_at "ev"))
  | ((with_reducible apply et_or); (walk_at "ev"); intro _; (walk_at "ev"))
  | ((with_reducible apply ev_andVF); (walk_at "ev"); (walk_at "dc"))
  | ((with_reducible apply ev_andVT); (walk_at "ev"); (walk_at "dc"); (walk_at "ev"))
  | ((with_reducible apply ev_orVT); (walk_at "ev"); (walk_at "dc"))
  | ((with_reducible apply ev_orVF); (walk_at "ev"); (walk_at "dc"); (walk_at "ev"))
  | ((with_reducible apply ev_andV); (walk_at "ev"); intro _; (walk_at "ev"))
  | ((with_reducible apply ev_orV); (walk_at "ev"); intro _; (walk_at "ev"))
  | ((with_reducible apply ev_notV); walk_at "ev")
  | ((with_reducible apply ev_neg); (walk_at "ev"))
  | ((with_reducible apply ev_isNE); (walk_at "ev"))
  | ((with_reducible apply ev_notN); (walk_at "ev"))
  | with_reducible exact lc_T
  | with_reducible exact eo_none
  | ((with_reducible apply eo_some); (walk_at "ev"))
  | ((with_reducible apply ev_slT); (walk_at "ev"); (walk_at "ev"); (walk_at "ev"); (exact fun h => Nat.ne_of_beq_eq_false rfl h.2); first | exact cut2 | exact cut3 | rfl)
  | ((with_reducible apply ev_slL); (walk_at "ev"); (walk_at "ev"); (walk_at "ev"); rfl)
  | ((with_reducible apply ev_kd); (walk_at "ev"); assumption; assumption)
  | ((with_reducible apply ev_call); (walk_at "ev"); assumption)
  | ((with_reducible apply ev_cb); (walk_at "ev"); (walk_at "cb"))
  | ((with_reducible apply ev_isi); (walk_at "ev"); (walk_at "dc"))
  | ((with_reducible apply ev_lcM); (walk_at "ev"); (exact Nat.le_of_ble_eq_true rfl); (walk_at "pd"))
  | ((with_reducible apply ei_list); (walk_at "ev"))
  | ((with_reducible apply ei_tup); (walk_at "ev"))
  | ((with_reducible apply ei_zip); (walk_at "ev"); assumption))
local macro_rules | `(tactic| walk_at "pd") => `(tactic| first | exact Paired.nil | ((apply Paired.cons); (walk_at "lc"); (walk_at "pd")))
local macro_rules | `(tactic| walk_at "cb") => `(tactic| first
  | with_reducible exact n_lenL
  | with_reducible exact n_lenT
  | ((with_reducible apply n_lenS); assumption)
  | with_reducible exact n_intB
  | with_reducible exact n_abs
  | with_reducible exact n_min
  | with_reducible exact n_tupL
  | with_reducible exact n_lisT
  | with_reducible exact n_lisL)
local macro_rules | `(tactic| walk_at "tr") => `(tactic| first
  | ((with_reducible apply q_retF); (walk_at "ev"); (walk_at "dc"))
  | ((with_reducible apply q_retT); (walk_at "ev"); (walk_at "dc"))
  | ((with_reducible apply q_retB); (walk_at "ev"))
  | ((with_reducible apply tr_retI); (walk_at "ev"))
  | ((with_reducible apply q_par); (walk_at "ev"))
  | ((with_reducible apply q_par3); (walk_at "ev"))
  | ((with_reducible apply q_newL); intro _)
  | ((with_reducible apply q_newD); intro _)
  | ((with_reducible apply q_asgA); (walk_at "ev"); (walk_at "tg")))
local macro_rules | `(tactic| walk_at "if") => `(tactic| first
  | ((with_reducible apply q_app (k := 0)); rfl; rfl; assumption; (walk_at "ev"))
  | with_reducible apply q_as
  | with_reducible apply q_nx
  | ((with_reducible apply q_par); (walk_at "ev"))
  | ((with_reducible apply q_par3); (walk_at "ev"))
  | ((with_reducible apply q_iF); (walk_at "ev"); (walk_at "dc"))
  | ((with_reducible apply q_iT); (walk_at "ev"); (walk_at "dc"))
  | ((with_reducible apply q_i); (walk_at "ev"))
  | ((with_reducible apply q_rt); (walk_at "ev"))
  | ((with_reducible apply q_asgA); (walk_at "ev"); (walk_at "tg")))


section
variable {P : Program} {w : World} {K : PySem.W.Frag} {mg : Str → Option Value} {base : Heap}
/-- isinstance(x, (list, tuple)) -/
theorem ev_isiT {C : Ctx} {ρ : List Cell} {te : TE} {d : PyData} {T1 T2 : String} (h : Ev C K te ρ (Eq d)) (hk : PySem.W.kitAny K (.type (tyD d)) [.type T1, .type T2] = some true) :
    Ev C K (tCB (rISI K) (tCons te (tCons (tTup (tCons (tC (.ty T1)) (tCons (tC (.ty T2)) tNil))) tNil))) ρ (Eq (.bool true)) := fun σ B H e o Q q =>
  h σ B H e o _ fun d' v B1 H1 p g r => by
    subst p
    refine ⟨by show 2 ≤ sizeLine; decide, fun pt hp => .inr ?_⟩
    have g2 := Gr.newO g.on (.tup [.ty T1, .ty T2]) hp
    exact ⟨v, pt, [.ty T1, .ty T2], .type (tyD _), [.type T1, .type T2], true, rfl, upd_same, .cons (.ty T1) (.cons (.ty T2) .nil), rp_ty g2.on.ex r, hk, q _ _ B1 _ rfl (g.trans g2) (.bl true)⟩
theorem kit_l {d : PyData} (h : tyD d = "list") : PySem.W.kitAny K (.type (tyD d)) [.type "list", .type "tuple"] = some true := by
  rw [h]
  exact kitAny_cons (b := true) (kit_ty (by rfl)) (fun e => nomatch e) fun _ => rfl
theorem kit_t {d : PyData} (h : tyD d = "tuple") : PySem.W.kitAny K (.type (tyD d)) [.type "list", .type "tuple"] = some true := by
  rw [h]
  exact kitAny_cons (b := false) (kit_ty (by rfl)) (fun _ => kitAny_cons (b := true) (kit_ty (by rfl)) (fun e => nomatch e) fun _ => rfl) fun e => nomatch e
abbrev N_in_order : List Str := ["pages"]
theorem sc_in_order : FnScope N_in_order ["pages"] (defScope s_in_order) := ⟨rfl, rfl, rfl, by decide +kernel, rfl, by decide +kernel, by decide +kernel⟩
def sortP (ps : List Page) : List Page := ps.mergeSort (PySem.W.dataLe false keyD)
def R_in_order (ds : List PyData) (d : PyData) : Prop := ∃ ps, (∀ p, p ∈ ps → Page.ok p) ∧ ds = [.list (ps.map Page.d)] ∧ d = .list ((sortP ps).map Page.d)
theorem ok_in_order (T : Tx w K mg) (c : Cal P w K mg base "page_key" ["page"] 1 (spD K fun ds d => ∃ p : Page, ds = [Page.d p] ∧ d = keyD p)) : Cal P w K mg base "in_order" ["pages"] 4 (spD K R_in_order) := by
  obtain ⟨fK, fdK, gK, hF, hkeep, hbind⟩ := c.ex
  refine cal_data T.d_in_order sc_in_order (fun _ _ _ _ _ _ us hl => match us, hl with | [_], _ => rfl) (fun ds d ⟨_, _, h1, h2⟩ => by subst h1; rfl) (fun f cdv A outer s H E hr => ⟨_,
    (pss_one (ps_ret (pe_callBK (r := rSortK Page K fK Page.d keyD) (cr_sortK hF (hr.mono (by decide)) hbind) (by rfl) T.sorted (by decide +kernel) (pa_cons (pv 0) pa_nil) (pk_cons (pe_gr (by rfl) gK) pk_nil)))), fun ds d hR => ?_⟩)
  obtain ⟨ps, hp, rfl, rfl⟩ := hR
  walk_at "go"
  refine tr_retI (ev_sortK (bs := ps) (by walk_at "ev") ?_ ?_ ?_) rfl
  · intro d hd d' hd'
    obtain ⟨p, _, rfl⟩ := List.mem_map.mp hd
    obtain ⟨q, _, rfl⟩ := List.mem_map.mp hd'
    simp [keyD, PySem.W.alike, PySem.W.alikeAll]
  · refine .inl fun d hd => ?_
    obtain ⟨p, _, rfl⟩ := List.mem_map.mp hd
    exact ⟨_, _, rfl⟩
  · intro p h
    have hn := Page.ok_name (hp p h)
    unfold okS at hn
    refine ⟨?_, ?_⟩
    · simp only [keyD, PyData.canLay0, PyData.canLayAll0] at hn ⊢
      rw [hn]; rfl
    · simp only [keyD, PyData.depth, PyData.depthAll]; decide
abbrev N_ask_book : List Str := ["is_right"]
theorem sc_ask_book : FnScope N_ask_book ["is_right"] (defScope s_ask_book) := ⟨rfl, rfl, rfl, by decide +kernel, rfl, by decide +kernel, by decide +kernel⟩
def R_ask_book (ds : List PyData) (d : PyData) : Prop := ds = [.bool true] ∧ d = .none
theorem ok_ask_book (T : Tx w K mg) : Cal P w K mg base "ask_book" ["is_right"] 1 (spD K R_ask_book) := by
  refine cal_data T.d_ask_book sc_ask_book (fun _ _ _ _ _ _ us hl => match us, hl with | [_], _ => rfl) (fun ds d ⟨h1, h2⟩ => by subst h1; rfl) (fun f cdv A outer s H E hr => ⟨_,
    (pss_one (ps_if (pt_not (pt_val (pv 0))) (pss_one ps_never) pss_nil)), fun ds d hR => ?_⟩)
  obtain ⟨rfl, rfl⟩ := hR
  walk_at "go"
  refine tr_if (b := false) (by apply EvT.is; walk_at "ev"; rfl) (fun e => nomatch e) fun _ => tr_next rfl
def sortU (xs : List Str) : List Str := sortS (keysOf xs)
theorem sortU_uniq {xs ys : List Str} (h1 : ys.Nodup) (h2 : sortedS ys = true) (h3 : ∀ k, k ∈ ys ↔ k ∈ xs) : ys = sortU xs := by
  refine sort_uniq ((List.perm_ext_iff_of_nodup h1 (keysFrom_nd List.nodup_nil)).mpr fun a => ?_) h2
  rw [h3 a]
  show _ ↔ a ∈ keysFrom [] xs
  rw [keysFrom_mem]
  simp
abbrev N_houses_of : List Str := ["houses", "house", "found"]
theorem sc_houses_of : FnScope N_houses_of ["houses"] (defScope s_houses_of) := ⟨rfl, rfl, rfl, by decide +kernel, rfl, by decide +kernel, by decide +kernel⟩
def R_houses_of (c : List PyData → PyData) (ds : List PyData) (d : PyData) : Prop := ∃ xs : List Str, (∀ x, x ∈ xs → isWord x) ∧ xs.length < 64 ∧ 2 ≤ (sortU xs).length ∧ (sortU xs).length ≤ 6 ∧ ds = [c (xs.map .str)] ∧ d = .tuple ((sortU xs).map .str)
theorem ok_houses_of_L (T : Tx w K mg) (c_ask_book : Cal P w K mg base "ask_book" ["is_right"] 1 (spD K R_ask_book)) (c_is_word : Cal P w K mg base "is_word" ["thing"] 1 (spD K R_is_word)) : Cal P w K mg base "houses_of" ["houses"] 2 (spD K (R_houses_of .list)) := by
  refine cal_data T.d_houses_of sc_houses_of (fun _ _ _ _ _ _ us hl => match us, hl with | [_], _ => rfl) (fun ds d ⟨_, _, _, _, _, h1, h2⟩ => by subst h1; rfl) (fun f cdv A outer s H E hr => ⟨_,
    (pss_cons (ps_expr (pe_cal c_ask_book (hr.mono (by decide)) (by rfl) (pa_cons (pe_and (pe_callB (r := rISI K) cr_ISI (by rfl) T.isinstance (by decide +kernel) (pa_cons (pv 0) (pa_cons (pe_tup (pa_cons (pe_bltn (v := .ty "list") (u := .type "list") (by rfl) T.list (by decide +kernel) rfl) (pa_cons (pe_bltn (v := .ty "tuple") (u := .type "tuple") (by rfl) T.tuple (by decide +kernel) rfl) pa_nil))) pa_nil))) (pe_one (pe_callB (r := rAll K) (cr_all rfl) (by rfl) T.all (by decide +kernel) (pa_cons (pe_lc (own := [("house", 1)]) (g := gName 1) rfl sc_houses_of.nd (pi_list (pv 0)) (blkOk_by (own := [("house", 1)]) (N := N_houses_of) (sc := defScope s_houses_of) (by decide +kernel)) (fun _ _ _ _ _ => (pg_name (i := 1) sc_houses_of.nd rfl (.inl rfl))) (fun _ _ _ _ _ => pts_nil) (fun _ _ _ _ _ => (pe_cal c_is_word (hr.mono (by decide)) (by rfl) (pa_cons (pv 1) pa_nil)))) pa_nil)))) pa_nil)))
  (pss_cons (ps_set (i := 2) sc_houses_of.nd rfl (by first | exact .inl rfl | exact .inr rfl) (pe_sortSet rfl (by rfl) T.sorted (by rfl) T.set (pv 0)))
  (pss_cons (ps_expr (pe_cal c_ask_book (hr.mono (by decide)) (by rfl) (pa_cons (pe_chain op_LE op_LE (pe_gi (by rfl) T.LEAST_HOUSES) (pe_callB (r := rLEN K) cr_LEN (by rfl) T.len (by decide +kernel) (pa_cons (pv 2) pa_nil)) (pe_gi (by rfl) T.MOST_HOUSES)) pa_nil)))
  (pss_one (ps_ret (pe_callTy (r := rTUP K) cr_TUP (by rfl) T.tuple (by decide +kernel) (pa_cons (pv 2) pa_nil))))))), fun ds d hR => ?_⟩)
  obtain ⟨xs, hw, hl, h2, h6, rfl, rfl⟩ := hR
  walk_at "go"
  have ra : R_ask_book [.bool true] .none := ⟨rfl, rfl⟩
  refine q_drop (P := Eq .none) (ev_call (ea_cons (Ev.is (ev_andVT (a := true) (ev_isiT (d := .list (xs.map .str)) (by walk_at "ev") (kit_l rfl)) rfl (ev_cb (ea_cons (ev_lcY PyData.str xs (ei_list (by walk_at "ev")) (fun _ => .bool true) (by omega) ?_) ea_nil) (n_all' (n := xs.length) (List.map_const' ..)))) rfl) ea_nil) ra) ?_
  · intro x hx
    have r1 : R_is_word [.str x] (.bool true) := ⟨_, hw x hx, rfl, rfl⟩
    apply lcI
    · walk_at "tg"
    · walk_at "ev"
    · intro _
      walk_at "ev"
  refine q_asg' (P := Eq (.list ((sortU xs).map .str))) (ev_sortSet (xs := xs) ((by walk_at "ev" : Ev C0 K (tVar 0) _ (Eq (.list (xs.map .str)))).imp fun _ e => by rw [← e]; simp) hl fun ys h1 h3 h4 => ?_) fun d hd => ?_
  · rw [sortU_uniq h1 h3 h4]
  subst hd
  have e2 : decide ((2 : Int) ≤ (((sortU xs).map PyData.str).length : Nat)) = true := decide_eq_true (by rw [List.length_map]; omega)
  have e6 : decide (((((sortU xs).map PyData.str).length : Nat) : Int) ≤ 6) = true := decide_eq_true (by rw [List.length_map]; omega)
  refine q_drop (P := Eq .none) (ev_call (ea_cons (Ev.is (ev_chain (x := .int 2) (y := .int (((sortU xs).map PyData.str).length : Nat)) (w := .int 6) (a := true) (b := true) (by walk_at "ev") (ev_cb (by walk_at "ev") n_lenL) (by rw [← e2]; exact o_le) (fun _ => by walk_at "ev") fun _ => by rw [← e6]; exact o_le) rfl) ea_nil) ra) ?_
  walk_at "tr"
  rfl
theorem ok_houses_of_T (T : Tx w K mg) (c_ask_book : Cal P w K mg base "ask_book" ["is_right"] 1 (spD K R_ask_book)) (c_is_word : Cal P w K mg base "is_word" ["thing"] 1 (spD K R_is_word)) : Cal P w K mg base "houses_of" ["houses"] 2 (spD K (R_houses_of .tuple)) := by
  refine cal_data T.d_houses_of sc_houses_of (fun _ _ _ _ _ _ us hl => match us, hl with | [_], _ => rfl) (fun ds d ⟨_, _, _, _, _, h1, h2⟩ => by subst h1; rfl) (fun f cdv A outer s H E hr => ⟨_,
    (pss_cons (ps_expr (pe_cal c_ask_book (hr.mono (by decide)) (by rfl) (pa_cons (pe_and (pe_callB (r := rISI K) cr_ISI (by rfl) T.isinstance (by decide +kernel) (pa_cons (pv 0) (pa_cons (pe_tup (pa_cons (pe_bltn (v := .ty "list") (u := .type "list") (by rfl) T.list (by decide +kernel) rfl) (pa_cons (pe_bltn (v := .ty "tuple") (u := .type "tuple") (by rfl) T.tuple (by decide +kernel) rfl) pa_nil))) pa_nil))) (pe_one (pe_callB (r := rAll K) (cr_all rfl) (by rfl) T.all (by decide +kernel) (pa_cons (pe_lc (own := [("house", 1)]) (g := gName 1) rfl sc_houses_of.nd (pi_tup (pv 0)) (blkOk_by (own := [("house", 1)]) (N := N_houses_of) (sc := defScope s_houses_of) (by decide +kernel)) (fun _ _ _ _ _ => (pg_name (i := 1) sc_houses_of.nd rfl (.inl rfl))) (fun _ _ _ _ _ => pts_nil) (fun _ _ _ _ _ => (pe_cal c_is_word (hr.mono (by decide)) (by rfl) (pa_cons (pv 1) pa_nil)))) pa_nil)))) pa_nil)))
  (pss_cons (ps_set (i := 2) sc_houses_of.nd rfl (by first | exact .inl rfl | exact .inr rfl) (pe_sortSet rfl (by rfl) T.sorted (by rfl) T.set (pv 0)))
  (pss_cons (ps_expr (pe_cal c_ask_book (hr.mono (by decide)) (by rfl) (pa_cons (pe_chain op_LE op_LE (pe_gi (by rfl) T.LEAST_HOUSES) (pe_callB (r := rLEN K) cr_LEN (by rfl) T.len (by decide +kernel) (pa_cons (pv 2) pa_nil)) (pe_gi (by rfl) T.MOST_HOUSES)) pa_nil)))
  (pss_one (ps_ret (pe_callTy (r := rTUP K) cr_TUP (by rfl) T.tuple (by decide +kernel) (pa_cons (pv 2) pa_nil))))))), fun ds d hR => ?_⟩)
  obtain ⟨xs, hw, hl, h2, h6, rfl, rfl⟩ := hR
  walk_at "go"
  have ra : R_ask_book [.bool true] .none := ⟨rfl, rfl⟩
  refine q_drop (P := Eq .none) (ev_call (ea_cons (Ev.is (ev_andVT (a := true) (ev_isiT (d := .tuple (xs.map .str)) (by walk_at "ev") (kit_t rfl)) rfl (ev_cb (ea_cons (ev_lcY PyData.str xs (ei_tup (by walk_at "ev")) (fun _ => .bool true) (by omega) ?_) ea_nil) (n_all' (n := xs.length) (List.map_const' ..)))) rfl) ea_nil) ra) ?_
  · intro x hx
    have r1 : R_is_word [.str x] (.bool true) := ⟨_, hw x hx, rfl, rfl⟩
    apply lcI
    · walk_at "tg"
    · walk_at "ev"
    · intro _
      walk_at "ev"
  refine q_asg' (P := Eq (.list ((sortU xs).map .str))) (ev_sortSet (xs := xs) ((by walk_at "ev" : Ev C0 K (tVar 0) _ (Eq (.tuple (xs.map .str)))).imp fun _ e => by rw [← e]; simp) hl fun ys h1 h3 h4 => ?_) fun d hd => ?_
  · rw [sortU_uniq h1 h3 h4]
  subst hd
  have e2 : decide ((2 : Int) ≤ (((sortU xs).map PyData.str).length : Nat)) = true := decide_eq_true (by rw [List.length_map]; omega)
  have e6 : decide (((((sortU xs).map PyData.str).length : Nat) : Int) ≤ 6) = true := decide_eq_true (by rw [List.length_map]; omega)
  refine q_drop (P := Eq .none) (ev_call (ea_cons (Ev.is (ev_chain (x := .int 2) (y := .int (((sortU xs).map PyData.str).length : Nat)) (w := .int 6) (a := true) (b := true) (by walk_at "ev") (ev_cb (by walk_at "ev") n_lenL) (by rw [← e2]; exact o_le) (fun _ => by walk_at "ev") fun _ => by rw [← e6]; exact o_le) rfl) ea_nil) ra) ?_
  walk_at "tr"
  rfl
end
end K92
end
section -- K92F15
set_option maxRecDepth 100000
set_option maxHeartbeats 1000000
namespace K92
open PySem PySem.Spec PyProof.Rows L2
local macro_rules | `(tactic| walk_at "dc") => `(tactic| first | decide +kernel | with_reducible rfl)
local macro_rules | `(tactic| walk_at "bb") => `(tactic| first | exact Eq.trans (b := true) (by decide +kernel) rfl | exact Eq.trans (b := false) (by decide +kernel) rfl)
local macro_rules | `(tactic| walk_at "go") => `(tactic| dsimp only [cxOf, Cx.nox, startC, List.map_cons, List.map_nil, List.length_cons, List.length_nil])
local macro_rules | `(tactic| walk_at "at") => `(tactic| first | with_reducible exact at_if | with_reducible exact at0 _ _ | with_reducible exact at1 _ _ _ | with_reducible exact at2 _ _ _ _ | rfl | exact at_word _ | exact at_name _ | exact at_day _)
local macro_rules | `(tactic| walk_at "op") => `(tactic| first
  | ((with_reducible apply o_ixT); walk_at "at")
  | ((with_reducible apply o_ixL); walk_at "at")
  | with_reducible exact o_eqS
  | with_reducible exact o_eqI
  | with_reducible exact o_neS
  | with_reducible exact o_neI
  | with_reducible exact o_le
  | with_reducible exact o_lt
  | with_reducible exact o_addI
  | with_reducible exact o_sub
  | ((with_reducible apply o_inT); first | assumption | rfl)
  | ((with_reducible apply o_inL); first | assumption | rfl)
  | with_reducible exact o_inS
  | with_reducible exact o_neNS
  | ((with_reducible apply o_neD); assumption; assumption)
  | ((with_reducible apply o_eqD); assumption; assumption))
local macro_rules | `(tactic| walk_at "tg") => `(tactic| first
  | ((with_reducible apply tg_name); decide)
  | ((with_reducible apply tg_tupW); (walk_at "tg"); rfl)
  | with_reducible exact tgs_nil
  | ((with_reducible apply tgs_cons); (walk_at "tg"); (walk_at "tg")))
local macro_rules | `(tactic| walk_at "lc") => `(tactic| ((apply lcI); (walk_at "tg"); (apply EvT.is); (walk_at "ev"); rfl; (intro _); (apply Ev.is); (walk_at "ev"); rfl))
local macro_rules | `(tactic| walk_at "ev") => `(tactic| first
  | ((with_reducible apply ev_var); rfl)
  | with_reducible exact ev_str
  | with_reducible exact ev_int
  | with_reducible exact ev_bl
  | with_reducible exact ev_non
  | with_reducible exact ev_c (by assumption)
  | with_reducible exact ea_nil
  | ((with_reducible apply ev_op); (walk_at "ev"); (walk_at "ev"); (walk_at "op"))
  | ((with_reducible apply ea_cons); (walk_at "ev"); (walk_at "ev"))
  | ((with_reducible apply ev_tupW); (walk_at "ev"); exact Nat.le_of_ble_eq_true rfl)
  | ((with_reducible apply ev_lstW); (walk_at "ev"); exact Nat.le_of_ble_eq_true rfl)
  | ((with_reducible apply et_testD); walk_at "ev")
  | ((with_reducible apply et_B); walk_at "ev")
  | ((with_reducible apply et_not); walk_at "ev")
  | ((with_reducible apply et_andF); (walk_at "ev"); (walk_at "dc"))
  | ((with_reducible apply et_andT); (walk_at "ev"); (walk_at "dc"); (walk_at "ev"))
  | ((with_reducible apply et_and); (walk_at "ev"); intro _; (walk_at "ev"))
  | ((with_reducible apply et_orT); (walk_at "ev"); (walk_at "dc"))
  | ((with_reducible apply et_orF); (walk_at "ev"); (walk_at "dc"); (walk_at "ev"))
  | ((with_reducible apply et_or); (walk_at "ev"); intro _; (walk_at "ev"))
  | ((with_reducible apply ev_andVF); (walk_at "ev"); (walk_at "dc"))
  | ((with_reducible apply ev_andVT); (walk_at "ev"); (walk_at "dc"); (walk_at "ev"))
  | ((with_reducible apply ev_orVT); (walk_at "ev"); (walk_at "dc"))
  | ((with_reducible apply ev_orVF); (walk_at "ev"); (walk_at "dc"); (walk_at "ev"))
  | ((with_reducible apply ev_andV); (walk_at "ev"); intro _; (walk_at "ev"))
  | ((with_reducible apply ev_orV); (walk_at "ev"); intro _; (walk_at "ev"))
  | ((with_reducible apply ev_notV); walk_at "ev")
  | ((with_reducible apply ev_neg); (walk_at "ev"))
  | ((with_reducible apply ev_isNE); (walk_at "ev"))
  | ((with_reducible apply ev_notN); (walk_at "ev"))
  | with_reducible exact lc_T
  | with_reducible exact eo_none
  | ((with_reducible apply eo_some); (walk_at "ev"))
  | ((with_reducible apply ev_slT); (walk_at "ev"); (walk_at "ev"); (walk_at "ev"); (exact fun h => Nat.ne_of_beq_eq_false rfl h.2); first | exact cut2 | exact cut3 | rfl)
  | ((with_reducible apply ev_slL); (walk_at "ev"); (walk_at "ev"); (walk_at "ev"); rfl)
  | ((with_reducible apply ev_kd); (walk_at "ev"); assumption; assumption)
  | ((with_reducible apply ev_call); (walk_at "ev"); assumption)
  | ((with_reducible apply ev_cb); (walk_at "ev"); (walk_at "cb"))
  | ((with_reducible apply ev_isi); (walk_at "ev"); (walk_at "dc"))
  | ((with_reducible apply ev_lcM); (walk_at "ev"); (exact Nat.le_of_ble_eq_true rfl); (walk_at "pd"))
  | ((with_reducible apply ei_list); (walk_at "ev"))
  | ((with_reducible apply ei_tup); (walk_at "ev"))
  | ((with_reducible apply ei_zip); (walk_at "ev"); assumption))
local macro_rules | `(tactic| walk_at "pd") => `(tactic| first | exact Paired.nil | ((apply Paired.cons); (walk_at "lc"); (walk_at "pd")))
local macro_rules | `(tactic| walk_at "cb") => `(tactic| first
  | with_reducible exact n_lenL
  | with_reducible exact n_lenT
  | ((with_reducible apply n_lenS); assumption)
  | with_reducible exact n_intB
  | with_reducible exact n_abs
  | with_reducible exact n_min
  | with_reducible exact n_tupL
  | with_reducible exact n_lisT
  | with_reducible exact n_lisL)
local macro_rules | `(tactic| walk_at "tr") => `(tactic| first
  | ((with_reducible apply q_retF); (walk_at "ev"); (walk_at "dc"))
  | ((with_reducible apply q_retT); (walk_at "ev"); (walk_at "dc"))
  | ((with_reducible apply q_retB); (walk_at "ev"))
  | ((with_reducible apply tr_retI); (walk_at "ev"))
  | ((with_reducible apply q_par); (walk_at "ev"))
  | ((with_reducible apply q_par3); (walk_at "ev"))
  | ((with_reducible apply q_newL); intro _)
  | ((with_reducible apply q_newD); intro _)
  | ((with_reducible apply q_asgA); (walk_at "ev"); (walk_at "tg")))
local macro_rules | `(tactic| walk_at "if") => `(tactic| first
  | ((with_reducible apply q_app (k := 0)); rfl; rfl; assumption; (walk_at "ev"))
  | with_reducible apply q_as
  | with_reducible apply q_nx
  | ((with_reducible apply q_par); (walk_at "ev"))
  | ((with_reducible apply q_par3); (walk_at "ev"))
  | ((with_reducible apply q_iF); (walk_at "ev"); (walk_at "dc"))
  | ((with_reducible apply q_iT); (walk_at "ev"); (walk_at "dc"))
  | ((with_reducible apply q_i); (walk_at "ev"))
  | ((with_reducible apply q_rt); (walk_at "ev"))
  | ((with_reducible apply q_asgA); (walk_at "ev"); (walk_at "tg")))


theorem layAll : ∀ {ds : List PyData}, (∀ d, d ∈ ds → d.canLay0 = true) → PyData.canLayAll0 ds = true
  | [], _ => rfl
  | d :: ds, h => by
    rw [PyData.canLayAll0, h d (List.mem_cons_self ..), layAll fun x hx => h x (List.mem_cons_of_mem _ hx)]
    rfl
theorem partOk.lay {k x : PyData} (h : partOk k x) : x.canLay0 = true := by
  cases h with
  | w hs => exact word_ok hs
  | _ => rfl
theorem zip_right {α β : Type} : ∀ {as : List α} {bs : List β}, as.length = bs.length → ∀ b, b ∈ bs → ∃ a, (a, b) ∈ as.zip bs
  | [], [], _, b, h => by cases h
  | a :: as, c :: bs, hl, b, h => by
    rcases List.mem_cons.mp h with e | h
    · exact ⟨a, by rw [e]; exact List.mem_cons_self ..⟩
    · obtain ⟨a', h'⟩ := zip_right (by simpa using hl) b h
      exact ⟨a', List.mem_cons_of_mem _ h'⟩
theorem Page.good.ok {p : Page} (h : p.good) : p.ok := by
  have hw : (PyData.str p.word).canLay0 = true := by
    cases p
    · show (PyData.str "comes").canLay0 = true; decide +kernel
    · show (PyData.str "trial").canLay0 = true; decide +kernel
    · show (PyData.str "back").canLay0 = true; decide +kernel
    · show (PyData.str "keep").canLay0 = true; decide +kernel
    · show (PyData.str "give").canLay0 = true; decide +kernel
    · show (PyData.str "goes").canLay0 = true; decide +kernel
    · show (PyData.str "double").canLay0 = true; decide +kernel
    · show (PyData.str "promise").canLay0 = true; decide +kernel
    · show (PyData.str "loose").canLay0 = true; decide +kernel
    · show (PyData.str "want").canLay0 = true; decide +kernel
    · show (PyData.str "owe").canLay0 = true; decide +kernel
    · show (PyData.str "pay").canLay0 = true; decide +kernel
  have ht : PyData.canLayAll0 p.tail = true := layAll fun d hd => by
    obtain ⟨a, ha⟩ := zip_right (as := p.form.cps.toList.map fun c => PyData.str ⟨#[c]⟩) (by rw [List.length_map, Array.length_toList]; exact form_len p) d hd
    exact (h.parts _ ha).lay
  have e : p.ds = .str p.word :: p.tail := by cases p <;> rfl
  show PyData.canLay0 (.tuple p.ds) = true
  rw [PyData.canLay0, e, PyData.canLayAll0, hw, ht]
  rfl
/-- pages that make a book over these houses -/
structure bookable (hs : List Str) (ps : List Page) : Prop where
  good : ∀ p, p ∈ ps → Page.good p
  names : (ps.map Page.name).Nodup
  few : ps.length ≤ 30
  houses : ∀ p, p ∈ ps → ∀ h, h ∈ p.houses → h ∈ hs
  things : (namesBy Page.things ps).length ≤ 16
  kinds : (namesBy Page.kinds ps).length ≤ 6
section
variable {P : Program} {w : World} {K : PySem.W.Frag} {mg : Str → Option Value} {base : Heap}
abbrev N_pages_in_order : List Str := ["houses", "pages", "page", "house"]
theorem sc_pages_in_order : FnScope N_pages_in_order ["houses", "pages"] (defScope s_pages_in_order) := ⟨rfl, rfl, rfl, by decide +kernel, rfl, by decide +kernel, by decide +kernel⟩
def R_pages_in_order (ds : List PyData) (d : PyData) : Prop := ∃ hs ps, bookable hs ps ∧ ds = [.tuple (hs.map .str), .list (ps.map Page.d)] ∧ d = .tuple ((sortP ps).map Page.d)
theorem ok_pages_in_order (T : Tx w K mg) (c_ask_book : Cal P w K mg base "ask_book" ["is_right"] 1 (spD K R_ask_book)) (c_is_page : Cal P w K mg base "is_page" ["thing"] 4 (spD K R_is_page))
    (c_houses_in : Cal P w K mg base "houses_in" ["page"] 1 (spD K R_houses_in)) (c_things_in : Cal P w K mg base "things_in" ["page"] 1 (spD K R_things_in)) (c_kinds_in : Cal P w K mg base "kinds_in" ["page"] 1 (spD K R_kinds_in))
    (c_all_named_houses_in : Cal P w K mg base "all_named" ["pages", "names_in"] 2 (spN K mg "houses_in" Page.houses .list)) (c_all_named_things_in : Cal P w K mg base "all_named" ["pages", "names_in"] 2 (spN K mg "things_in" Page.things .list))
    (c_all_named_kinds_in : Cal P w K mg base "all_named" ["pages", "names_in"] 2 (spN K mg "kinds_in" Page.kinds .list)) (c_in_order : Cal P w K mg base "in_order" ["pages"] 4 (spD K R_in_order)) : Cal P w K mg base "pages_in_order" ["houses", "pages"] 5 (spD K R_pages_in_order) := by
  obtain ⟨f1, fd1, g_houses_in, _, _, _⟩ := c_houses_in.ex
  obtain ⟨f2, fd2, g_things_in, _, _, _⟩ := c_things_in.ex
  obtain ⟨f3, fd3, g_kinds_in, _, _, _⟩ := c_kinds_in.ex
  refine cal_data T.d_pages_in_order sc_pages_in_order (fun _ _ _ _ _ _ us hl => match us, hl with | [_, _], _ => rfl) (fun ds d ⟨_, _, _, h1, h2⟩ => by subst h1; rfl) (fun f cdv A outer s H E hr => ⟨_,
    (pss_cons (ps_expr (pe_cal c_ask_book (hr.mono (by decide)) (by rfl) (pa_cons (pe_and (pe_callB (r := rISI K) cr_ISI (by rfl) T.isinstance (by decide +kernel) (pa_cons (pv 1) (pa_cons (pe_tup (pa_cons (pe_bltn (v := .ty "list") (u := .type "list") (by rfl) T.list (by decide +kernel) rfl) (pa_cons (pe_bltn (v := .ty "tuple") (u := .type "tuple") (by rfl) T.tuple (by decide +kernel) rfl) pa_nil))) pa_nil))) (pe_one (pe_cmpR op_LE (pe_callB (r := rLEN K) cr_LEN (by rfl) T.len (by decide +kernel) (pa_cons (pv 1) pa_nil)) (pe_gi (by rfl) T.MOST_PAGES) (nomark _)))) pa_nil)))
  (pss_cons (ps_expr (pe_cal c_ask_book (hr.mono (by decide)) (by rfl) (pa_cons (pe_callB (r := rAll K) (cr_all rfl) (by rfl) T.all (by decide +kernel) (pa_cons (pe_lc (own := [("page", 2)]) (g := gName 2) rfl sc_pages_in_order.nd (pi_list (pv 1)) (blkOk_by (own := [("page", 2)]) (N := N_pages_in_order) (sc := defScope s_pages_in_order) (by decide +kernel)) (fun _ _ _ _ _ => (pg_name (i := 2) sc_pages_in_order.nd rfl (.inl rfl))) (fun _ _ _ _ _ => pts_nil) (fun _ _ _ _ _ => (pe_cal c_is_page (hr.mono (by decide)) (by rfl) (pa_cons (pv 2) pa_nil)))) pa_nil)) pa_nil)))
  (pss_cons (ps_expr (pe_cal c_ask_book (hr.mono (by decide)) (by rfl) (pa_cons (pe_cmpR (r := rEQ K) (op_EQ hr.units) (pe_lenSetU rfl (by rfl) T.len (by rfl) T.set (pe_lc (own := [("page", 2)]) (g := gName 2) rfl sc_pages_in_order.nd (pi_list (pv 1)) (blkOk_by (own := [("page", 2)]) (N := N_pages_in_order) (sc := defScope s_pages_in_order) (by decide +kernel)) (fun _ _ _ _ _ => (pg_name (i := 2) sc_pages_in_order.nd rfl (.inl rfl))) (fun _ _ _ _ _ => pts_nil) (fun _ _ _ _ _ => (pe_ix (r := rIx K) ix_seq (pv 2) pe_int (fun _ _ => rfl))))) (pe_callB (r := rLEN K) cr_LEN (by rfl) T.len (by decide +kernel) (pa_cons (pv 1) pa_nil)) (nomark _)) pa_nil)))
  (pss_cons (ps_expr (pe_cal c_ask_book (hr.mono (by decide)) (by rfl) (pa_cons (pe_callB (r := rAll K) (cr_all rfl) (by rfl) T.all (by decide +kernel) (pa_cons (pe_lc (own := [("house", 3)]) (g := gName 3) rfl sc_pages_in_order.nd (pi_list (pe_cal c_all_named_houses_in (hr.mono (by decide)) (by rfl) (pa_cons (pv 1) (pa_cons (pe_gr (by rfl) g_houses_in) pa_nil)))) (blkOk_by (own := [("house", 3)]) (N := N_pages_in_order) (sc := defScope s_pages_in_order) (by decide +kernel)) (fun _ _ _ _ _ => (pg_name (i := 3) sc_pages_in_order.nd rfl (.inl rfl))) (fun _ _ _ _ _ => pts_nil) (fun _ _ _ _ _ => (pe_cmpR (r := rIN K false) op_IN (pv 3) (pv 0) rfl))) pa_nil)) pa_nil)))
  (pss_cons (ps_expr (pe_cal c_ask_book (hr.mono (by decide)) (by rfl) (pa_cons (pe_and (pe_cmpR op_LE (pe_callB (r := rLEN K) cr_LEN (by rfl) T.len (by decide +kernel) (pa_cons (pe_cal c_all_named_things_in (hr.mono (by decide)) (by rfl) (pa_cons (pv 1) (pa_cons (pe_gr (by rfl) g_things_in) pa_nil))) pa_nil)) (pe_gi (by rfl) T.MOST_THINGS) (nomark _)) (pe_one (pe_cmpR op_LE (pe_callB (r := rLEN K) cr_LEN (by rfl) T.len (by decide +kernel) (pa_cons (pe_cal c_all_named_kinds_in (hr.mono (by decide)) (by rfl) (pa_cons (pv 1) (pa_cons (pe_gr (by rfl) g_kinds_in) pa_nil))) pa_nil)) (pe_gi (by rfl) T.MOST_KINDS) (nomark _)))) pa_nil)))
  (pss_one (ps_ret (pe_callTy (r := rTUP K) cr_TUP (by rfl) T.tuple (by decide +kernel) (pa_cons (pe_cal c_in_order (hr.mono (by decide)) (by rfl) (pa_cons (pv 1) pa_nil)) pa_nil))))))))), fun ds d hR => ?_⟩)
  obtain ⟨hs, ps, hb, rfl, rfl⟩ := hR
  walk_at "go"
  have ra : R_ask_book [.bool true] .none := ⟨rfl, rfl⟩
  have hfew := hb.few
  have e200 : decide ((((ps.map Page.d).length : Nat) : Int) ≤ 200) = true := decide_eq_true (by rw [List.length_map]; omega)
  refine q_drop (P := Eq .none) (ev_call (ea_cons (Ev.is (ev_andVT (a := true) (ev_isiT (d := .list (ps.map Page.d)) (by walk_at "ev") (kit_l rfl)) rfl (ev_op (ev_cb (by walk_at "ev") n_lenL) (by walk_at "ev") o_le)) (by rw [e200])) ea_nil) ra) ?_
  refine q_drop (P := Eq .none) (ev_call (ea_cons (ev_cb (ea_cons (ev_lcY Page.d ps (by walk_at "ev") (fun _ => .bool true) (by omega) ?_) ea_nil) (n_all' (n := ps.length) (List.map_const' ..))) ea_nil) ra) ?_
  · intro x hx
    have r1 : R_is_page [Page.d x] (.bool true) := ⟨_, hb.good x hx, rfl, rfl⟩
    apply lcI
    · walk_at "tg"
    · walk_at "ev"
    · intro _
      walk_at "ev"
  have en : decide ((((ps.map Page.name).length : Nat) : Int) = (((ps.map Page.d).length : Nat) : Int)) = true := decide_eq_true (by rw [List.length_map, List.length_map])
  refine q_drop (P := Eq .none) (ev_call (ea_cons (Ev.is (ev_op (ev_lenSet (xs := ps.map Page.name) (Ev.is (ev_lcY Page.d ps (by walk_at "ev") (fun p => .str p.name) (by omega) ?_) (by rw [List.map_map]; rfl)) (by rw [List.length_map]; omega) hb.names) (ev_cb (by walk_at "ev") n_lenL) o_eqI) (by rw [en])) ea_nil) ra) ?_
  · intro x hx
    walk_at "lc"
  have hlN : ∀ (fn : Page → List Str), (∀ p, (fn p).length ≤ 2) → (namesBy fn ps).length ≤ 60 := fun fn hfn => by
    have h1 := keys_len (ps.flatMap fn)
    have h2 := flat_len hfn ps
    have h4 : (namesBy fn ps).length = (keysOf (ps.flatMap fn)).length := (sortS_perm _).length_eq
    omega
  refine q_drop (P := Eq .none) (ev_call (ea_cons (ev_cb (ea_cons (ev_lcY PyData.str (namesBy Page.houses ps) (ei_list (ev_callN (c := PyData.list) (ps := ps) (by walk_at "ev") g_houses_in hfew)) (fun _ => .bool true) (by have := hlN _ houses_le; omega) ?_) ea_nil) (n_all' (n := (namesBy Page.houses ps).length) (List.map_const' ..))) ea_nil) ra) ?_
  · intro x hx
    obtain ⟨p, hp, hx'⟩ := namesBy_mem.mp hx
    have hin := hb.houses p hp x hx'
    have al := all_isStr (xs := hs)
    apply lcI
    · walk_at "tg"
    · walk_at "ev"
    · intro _
      refine Ev.is (ev_op (by walk_at "ev") (by walk_at "ev") (o_inT al)) ?_
      have e : inD x (hs.map PyData.str) = true := by
        rw [inD_strs]
        exact List.any_eq_true.mpr ⟨x, hin, decide_eq_true rfl⟩
      rw [e]
      rfl
  have h16 : decide (((((namesBy Page.things ps).map PyData.str).length : Nat) : Int) ≤ 16) = true := decide_eq_true (by have := hb.things; rw [List.length_map]; omega)
  have h6 : decide (((((namesBy Page.kinds ps).map PyData.str).length : Nat) : Int) ≤ 6) = true := decide_eq_true (by have := hb.kinds; rw [List.length_map]; omega)
  refine q_drop (P := Eq .none) (ev_call (ea_cons (Ev.is (ev_andVT (a := true) (Ev.is (ev_op (ev_cb (ea_cons (ev_callN (c := PyData.list) (ps := ps) (by walk_at "ev") g_things_in hfew) ea_nil) n_lenL) (by walk_at "ev") o_le) (by rw [h16])) rfl
    (ev_op (ev_cb (ea_cons (ev_callN (c := PyData.list) (ps := ps) (by walk_at "ev") g_kinds_in hfew) ea_nil) n_lenL) (by walk_at "ev") o_le)) (by rw [h6])) ea_nil) ra) ?_
  have r2 : R_in_order [.list (ps.map Page.d)] (.list ((sortP ps).map Page.d)) := ⟨ps, fun p hp => (hb.good p hp).ok, rfl, rfl⟩
  walk_at "tr"
  rfl
abbrev N_book_of : List Str := ["houses", "pages", "there"]
theorem sc_book_of : FnScope N_book_of ["houses", "pages"] (defScope s_book_of) := ⟨rfl, rfl, rfl, by decide +kernel, rfl, by decide +kernel, by decide +kernel⟩
def R_book_of (c : List PyData → PyData) (ds : List PyData) (d : PyData) : Prop := ∃ (xs : List Str) (ps : List Page), (∀ x, x ∈ xs → isWord x) ∧ xs.length < 64 ∧ 2 ≤ (sortU xs).length ∧ (sortU xs).length ≤ 6 ∧ bookable (sortU xs) ps ∧ ds = [c (xs.map .str), .list (ps.map Page.d)] ∧ d = Book.d ⟨sortU xs, sortP ps⟩
theorem ok_book_of (T : Tx w K mg) (c : List PyData → PyData) (c_houses_of : Cal P w K mg base "houses_of" ["houses"] 2 (spD K (R_houses_of c))) (c_pages_in_order : Cal P w K mg base "pages_in_order" ["houses", "pages"] 5 (spD K R_pages_in_order)) : Cal P w K mg base "book_of" ["houses", "pages"] 6 (spD K (R_book_of c)) := by
  refine cal_data T.d_book_of sc_book_of (fun _ _ _ _ _ _ us hl => match us, hl with | [_, _], _ => rfl) (fun ds d ⟨_, _, _, _, _, _, _, h1, h2⟩ => by subst h1; rfl) (fun f cdv A outer s H E hr => ⟨_,
    (pss_cons (ps_set (i := 2) sc_book_of.nd rfl (by first | exact .inl rfl | exact .inr rfl) (pe_cal c_houses_of (hr.mono (by decide)) (by rfl) (pa_cons (pv 0) pa_nil)))
  (pss_one (ps_ret (pe_tup (pa_cons (pv 2) (pa_cons (pe_cal c_pages_in_order (hr.mono (by decide)) (by rfl) (pa_cons (pv 2) (pa_cons (pv 1) pa_nil))) pa_nil)))))), fun ds d hR => ?_⟩)
  obtain ⟨xs, ps, hw, hl, h2, h6, hb, rfl, rfl⟩ := hR
  walk_at "go"
  have r1 : R_houses_of c [c (xs.map .str)] (.tuple ((sortU xs).map .str)) := ⟨xs, hw, hl, h2, h6, rfl, rfl⟩
  have r2 : R_pages_in_order [.tuple ((sortU xs).map .str), .list (ps.map Page.d)] (.tuple ((sortP ps).map Page.d)) := ⟨_, _, hb, rfl, rfl⟩
  walk_at "tr"
  walk_at "tr"
  rfl
end
end K92
end
section -- K92F16
set_option maxRecDepth 100000
set_option maxHeartbeats 1000000
namespace K92
open PySem PySem.Spec PyProof.Rows L2
local macro_rules | `(tactic| walk_at "dc") => `(tactic| first | decide +kernel | with_reducible rfl)
local macro_rules | `(tactic| walk_at "bb") => `(tactic| first | exact Eq.trans (b := true) (by decide +kernel) rfl | exact Eq.trans (b := false) (by decide +kernel) rfl)
local macro_rules | `(tactic| walk_at "go") => `(tactic| dsimp only [cxOf, Cx.nox, startC, List.map_cons, List.map_nil, List.length_cons, List.length_nil])
local macro_rules | `(tactic| walk_at "at") => `(tactic| first | with_reducible exact at_if | with_reducible exact at0 _ _ | with_reducible exact at1 _ _ _ | with_reducible exact at2 _ _ _ _ | rfl | exact at_word _ | exact at_name _ | exact at_day _)
local macro_rules | `(tactic| walk_at "op") => `(tactic| first
  | ((with_reducible apply o_ixT); walk_at "at")
  | ((with_reducible apply o_ixL); walk_at "at")
  | with_reducible exact o_eqS
  | with_reducible exact o_eqI
  | with_reducible exact o_neS
  | with_reducible exact o_neI
  | with_reducible exact o_le
  | with_reducible exact o_lt
  | with_reducible exact o_addI
  | with_reducible exact o_sub
  | ((with_reducible apply o_inT); first | assumption | rfl)
  | ((with_reducible apply o_inL); first | assumption | rfl)
  | with_reducible exact o_inS
  | with_reducible exact o_neNS
  | ((with_reducible apply o_neD); assumption; assumption)
  | ((with_reducible apply o_eqD); assumption; assumption))
local macro_rules | `(tactic| walk_at "tg") => `(tactic| first
  | ((with_reducible apply tg_name); decide)
  | ((with_reducible apply tg_tupW); (walk_at "tg"); rfl)
  | with_reducible exact tgs_nil
  | ((with_reducible apply tgs_cons); (walk_at "tg"); (walk_at "tg")))
local macro_rules | `(tactic| walk_at "lc") => `(tactic| ((apply lcI); (walk_at "tg"); (apply EvT.is); (walk_at "ev"); rfl; (intro _); (apply Ev.is); (walk_at "ev"); rfl))
local macro_rules | `(tactic| walk_at "ev") => `(tactic| first
  | ((with_reducible apply ev_var); rfl)
  | with_reducible exact ev_str
  | with_reducible exact ev_int
  | with_reducible exact ev_bl
  | with_reducible exact ev_non
  | with_reducible exact ev_c (by assumption)
  | with_reducible exact ea_nil
  | ((with_reducible apply ev_op); (walk_at "ev"); (walk_at "ev"); (walk_at "op"))
  | ((with_reducible apply ea_cons); (walk_at "ev"); (walk_at "ev"))
  | ((with_reducible apply ev_tupW); (walk_at "ev"); exact Nat.le_of_ble_eq_true rfl)
  | ((with_reducible apply ev_lstW); (walk_at "ev"); exact Nat.le_of_ble_eq_true rfl)
  | ((with_reducible apply et_testD); walk_at "ev")
  | ((with_reducible apply et_B); walk_at "ev")
  | ((with_reducible apply et_not); walk_at "ev")
  | ((with_reducible apply et_andF); (walk_at "ev"); (walk_at "dc"))
  | ((with_reducible apply et_andT); (walk_at "ev"); (walk_at "dc"); (walk_at "ev"))
  | ((with_reducible apply et_and); (walk_at "ev"); intro _; (walk_at "ev"))
  | ((with_reducible apply et_orT); (walk_at "ev"); (walk_at "dc"))
  | ((with_reducible apply et_orF); (walk_at "ev"); (walk_at "dc"); (walk_at "ev"))
  | ((with_reducible apply et_or); (walk_at "ev"); intro _; (walk_at "ev"))
  | ((with_reducible apply ev_andVF); (walk_at "ev"); (walk_at "dc"))
  | ((with_reducible apply ev_andVT); (walk_at "ev"); (walk_at "dc"); (walk_at "ev"))
  | ((with_reducible apply ev_orVT); (walk_at "ev"); (walk_at "dc"))
  | ((with_reducible apply ev_orVF); (walk_at "ev"); (walk_at "dc"); (walk_at "ev"))
  | ((with_reducible apply ev_andV); (walk_at "ev"); intro _; (walk_at "ev"))
  | ((with_reducible apply ev_orV); (walk_at "ev"); intro _; (walk_at "ev"))
  | ((with_reducible apply ev_notV); walk_at "ev")
  | ((with_reducible apply ev_neg); (walk_at "ev"))
  | ((with_reducible apply ev_isNE); (walk_at "ev"))
  | ((with_reducible apply ev_notN); (walk_at "ev"))
  | with_reducible exact lc_T
  | with_reducible exact eo_none
  | ((with_reducible apply eo_some); (walk_at "ev"))
  | ((with_reducible apply ev_slT); (walk_at "ev"); (walk_at "ev"); (walk_at "ev"); (exact fun h => Nat.ne_of_beq_eq_false rfl h.2); first | exact cut2 | exact cut3 | rfl)
  | ((with_reducible apply ev_slL); (walk_at "ev"); (walk_at "ev"); (walk_at "ev"); rfl)
  | ((with_reducible apply ev_kd); (walk_at "ev"); assumption; assumption)
  | ((with_reducible apply ev_call); (walk_at "ev"); assumption)
  | ((with_reducible apply ev_cb); (walk_at "ev"); (walk_at "cb"))
  | ((with_reducible apply ev_isi); (walk_at "ev"); (walk_at "dc"))
  | ((with_reducible apply ev_lcM); (walk_at "ev"); (exact Nat.le_of_ble_eq_true rfl); (walk_at "pd"))
  | ((with_reducible apply ei_list); (walk_at "ev"))
  | ((with_reducible apply ei_tup); (walk_at "ev"))
  | ((with_reducible apply ei_zip); (walk_at "ev"); assumption))
local macro_rules | `(tactic| walk_at "pd") => `(tactic| first | exact Paired.nil | ((apply Paired.cons); (walk_at "lc"); (walk_at "pd")))
local macro_rules | `(tactic| walk_at "cb") => `(tactic| first
  | with_reducible exact n_lenL
  | with_reducible exact n_lenT
  | ((with_reducible apply n_lenS); assumption)
  | with_reducible exact n_intB
  | with_reducible exact n_abs
  | with_reducible exact n_min
  | with_reducible exact n_tupL
  | with_reducible exact n_lisT
  | with_reducible exact n_lisL)
local macro_rules | `(tactic| walk_at "tr") => `(tactic| first
  | ((with_reducible apply q_retF); (walk_at "ev"); (walk_at "dc"))
  | ((with_reducible apply q_retT); (walk_at "ev"); (walk_at "dc"))
  | ((with_reducible apply q_retB); (walk_at "ev"))
  | ((with_reducible apply tr_retI); (walk_at "ev"))
  | ((with_reducible apply q_par); (walk_at "ev"))
  | ((with_reducible apply q_par3); (walk_at "ev"))
  | ((with_reducible apply q_newL); intro _)
  | ((with_reducible apply q_newD); intro _)
  | ((with_reducible apply q_asgA); (walk_at "ev"); (walk_at "tg")))
local macro_rules | `(tactic| walk_at "if") => `(tactic| first
  | ((with_reducible apply q_app (k := 0)); rfl; rfl; assumption; (walk_at "ev"))
  | with_reducible apply q_as
  | with_reducible apply q_nx
  | ((with_reducible apply q_par); (walk_at "ev"))
  | ((with_reducible apply q_par3); (walk_at "ev"))
  | ((with_reducible apply q_iF); (walk_at "ev"); (walk_at "dc"))
  | ((with_reducible apply q_iT); (walk_at "ev"); (walk_at "dc"))
  | ((with_reducible apply q_i); (walk_at "ev"))
  | ((with_reducible apply q_rt); (walk_at "ev"))
  | ((with_reducible apply q_asgA); (walk_at "ev"); (walk_at "tg")))


theorem depthAll_le : ∀ {ds : List PyData} {n : Nat}, (∀ d, d ∈ ds → d.depth ≤ n) → PyData.depthAll ds ≤ n
  | [], _, _ => Nat.zero_le _
  | d :: ds, n, h => by
    rw [PyData.depthAll]
    exact Nat.max_le.mpr ⟨h d (List.mem_cons_self ..), depthAll_le fun x hx => h x (List.mem_cons_of_mem _ hx)⟩
theorem page_depth (p : Page) : (Page.d p).depth ≤ 1 := by cases p <;> (simp only [Page.ds, PyData.depth, PyData.depthAll]; decide)
theorem pagesT_sh {ps : List Page} (h : ∀ p, p ∈ ps → Page.ok p) : SeqAt.shaped (.tuple (ps.map Page.d)) = true := by
  refine Bool.and_eq_true_iff.mpr ⟨?_, decide_eq_true ?_⟩
  · rw [PyData.canLay0]
    exact layAll fun d hd => by
      obtain ⟨p, hp, rfl⟩ := List.mem_map.mp hd
      exact h p hp
  · rw [PyData.depth]
    have := depthAll_le (ds := ps.map Page.d) (n := 1) fun d hd => by
      obtain ⟨p, hp, rfl⟩ := List.mem_map.mp hd
      exact page_depth p
    omega
theorem any_page (ps : List Page) (p : Page) : ((ps.map Page.d).any fun z => PyData.eqv z p.d) = decide (p ∈ ps) := by
  induction ps with
  | nil => simp
  | cons q ps ih =>
    rw [List.map_cons, List.any_cons, ih, eqv_page]
    by_cases h1 : q = p
    · subst h1; simp
    · have h1' : ¬ p = q := fun e => h1 e.symm
      by_cases h2 : p ∈ ps <;> simp [h1, h1', h2]
theorem u65 {k : Nat} {A : Around} (hr : Room k A) : A.units + 65 < cLine := by have := hr.un; omega
section
variable {P : Program} {w : World} {K : PySem.W.Frag} {mg : Str → Option Value} {base : Heap}
structure Book.can (b : Book) (ps : List Page) : Prop where
  words : ∀ x, x ∈ b.houses → isWord x
  len : b.houses.length < 64
  lo : 2 ≤ (sortU b.houses).length
  hi : (sortU b.houses).length ≤ 6
  pages : bookable (sortU b.houses) ps
abbrev N_only : List Str := ["book", "thing"]
theorem sc_only : FnScope N_only ["book", "thing"] (defScope s_only) := ⟨rfl, rfl, rfl, by decide +kernel, rfl, by decide +kernel, by decide +kernel⟩
def onlyB (b : Book) (t : Str) : Book := ⟨sortU b.houses, sortP (pagesOf b.pages t)⟩
def R_only (ds : List PyData) (d : PyData) : Prop := ∃ b t, Book.ok b ∧ okS t ∧ b.can (pagesOf b.pages t) ∧ ds = [Book.d b, .str t] ∧ d = (onlyB b t).d
theorem ok_only (T : Tx w K mg) (c_pages_of : Cal P w K mg base "pages_of" ["book", "thing"] 2 (spD K R_pages_of)) (c_book_of : Cal P w K mg base "book_of" ["houses", "pages"] 6 (spD K (R_book_of .tuple))) : Cal P w K mg base "only" ["book", "thing"] 7 (spD K R_only) := by
  refine cal_data T.d_only sc_only (fun _ _ _ _ _ _ us hl => match us, hl with | [_, _], _ => rfl) (fun ds d ⟨_, _, _, _, _, h1, h2⟩ => by subst h1; rfl) (fun f cdv A outer s H E hr => ⟨_,
    (pss_one (ps_ret (pe_cal c_book_of (hr.mono (by decide)) (by rfl) (pa_cons (pe_ix (r := rIx K) ix_seq (pv 0) pe_int (fun _ _ => rfl)) (pa_cons (pe_cal c_pages_of (hr.mono (by decide)) (by rfl) (pa_cons (pv 0) (pa_cons (pv 1) pa_nil))) pa_nil))))), fun ds d hR => ?_⟩)
  obtain ⟨b, t, hb, ht, hc, rfl, rfl⟩ := hR
  walk_at "go"
  have r1 : R_pages_of [Book.d b, .str t] (.list ((pagesOf b.pages t).map Page.d)) := ⟨b, t, hb, ht, rfl, rfl⟩
  have r2 : R_book_of .tuple [.tuple (b.houses.map .str), .list ((pagesOf b.pages t).map Page.d)] (onlyB b t).d := ⟨b.houses, _, hc.words, hc.len, hc.lo, hc.hi, hc.pages, rfl, rfl⟩
  walk_at "tr"
  rfl
abbrev N_together : List Str := ["book", "other", "more", "page"]
theorem sc_together : FnScope N_together ["book", "other"] (defScope s_together) := ⟨rfl, rfl, rfl, by decide +kernel, rfl, by decide +kernel, by decide +kernel⟩
def moreB (b o : Book) : List Page := o.pages.filter fun p => !decide (p ∈ b.pages)
def bothB (b o : Book) : Book := ⟨sortU b.houses, sortP (b.pages ++ moreB b o)⟩
def R_together (ds : List PyData) (d : PyData) : Prop := ∃ b o, Book.ok b ∧ Book.ok o ∧ o.houses = b.houses ∧ b.can (b.pages ++ moreB b o) ∧ ds = [Book.d b, Book.d o] ∧ d = (bothB b o).d
theorem ok_together (T : Tx w K mg) (c_ask_book : Cal P w K mg base "ask_book" ["is_right"] 1 (spD K R_ask_book)) (c_book_of : Cal P w K mg base "book_of" ["houses", "pages"] 6 (spD K (R_book_of .tuple))) : Cal P w K mg base "together" ["book", "other"] 7 (spD K R_together) := by
  refine cal_data T.d_together sc_together (fun _ _ _ _ _ _ us hl => match us, hl with | [_, _], _ => rfl) (fun ds d ⟨_, _, _, _, _, _, h1, h2⟩ => by subst h1; rfl) (fun f cdv A outer s H E hr => ⟨_,
    (pss_cons (ps_expr (pe_cal c_ask_book (hr.mono (by decide)) (by rfl) (pa_cons (pe_cmpR (r := rEQ K) (op_EQ hr.units) (pe_ix (r := rIx K) ix_seq (pv 0) pe_int (fun _ _ => rfl)) (pe_ix (r := rIx K) ix_seq (pv 1) pe_int (fun _ _ => rfl)) (nomark _)) pa_nil)))
  (pss_cons (ps_setLc (i := 2) (own := [("page", 3)]) (g := gName 3) rfl sc_together.nd rfl rfl (sw_true rfl rfl rfl (by decide +kernel)) (pi_tup (pe_ix (r := rIx K) ix_seq (pv 1) pe_int (fun _ _ => rfl))) (blkOk_by (own := [("page", 3)]) (N := N_together) (sc := defScope s_together) (by decide +kernel)) (fun _ _ _ _ _ => (pg_name (i := 3) sc_together.nd rfl (.inl rfl))) (fun _ _ _ _ _ => (pts_one (pt_cmpR (r := rNotInT K) (op_notInT (u65 hr)) (pv 3) (pe_ix (r := rIx K) ix_seq (pv 0) pe_int (fun _ _ => rfl)) rfl))) (fun _ _ _ _ _ => (pv 3)))
  (pss_one (ps_ret (pe_cal c_book_of (hr.mono (by decide)) (by rfl) (pa_cons (pe_ix (r := rIx K) ix_seq (pv 0) pe_int (fun _ _ => rfl)) (pa_cons (pe_op op_ADD (pe_callTy (r := rLIS K) cr_LIS (by rfl) T.list (by decide +kernel) (pa_cons (pe_ix (r := rIx K) ix_seq (pv 0) pe_int (fun _ _ => rfl)) pa_nil)) (pv 2)) pa_nil))))))), fun ds d hR => ?_⟩)
  obtain ⟨b, o, hb, ho, hh, hc, rfl, rfl⟩ := hR
  walk_at "go"
  have ra : R_ask_book [.bool true] .none := ⟨rfl, rfl⟩
  have sh := strT_sh hb.houses
  have sh2 := strT_sh ho.houses
  have ee : PyData.eqv (.tuple (b.houses.map .str)) (.tuple (o.houses.map .str)) = true := by
    rw [hh]
    exact (eqv_strs b.houses b.houses).trans (decide_eq_true rfl)
  refine q_drop (P := Eq .none) (ev_call (ea_cons (Ev.is (ev_op (by walk_at "ev") (by walk_at "ev") (o_eqD sh sh2)) (by rw [ee])) ea_nil) ra) ?_
  have shp := pagesT_sh hb.pages
  have hfo := ho.few
  refine q_asgG (is := anyS) (ev_lcX Page.d o.pages (by walk_at "ev") (fun p => !decide (p ∈ b.pages)) Page.d (by omega) ?_) (by walk_at "tg") ?_
  · intro x hx
    apply lcI
    · walk_at "tg"
    · exact EvT.is (et_testD (ev_op (by walk_at "ev") (by walk_at "ev") (o_notInT (Page.sh (ho.pages x hx)) shp))) (by rw [any_page])
    · intro _
      walk_at "ev"
  have r2 : R_book_of .tuple [.tuple (b.houses.map .str), .list ((b.pages ++ moreB b o).map Page.d)] (bothB b o).d := ⟨b.houses, _, hc.words, hc.len, hc.lo, hc.hi, hc.pages, rfl, rfl⟩
  have hl : (b.pages.map Page.d).length + ((o.pages.filter fun p => !decide (p ∈ b.pages)).map Page.d).length ≤ 100000 := by
    have h1 := List.length_filter_le (fun p => !decide (p ∈ b.pages)) o.pages
    have h2 := hb.few
    rw [List.length_map, List.length_map]
    omega
  refine tr_retI (ev_call (ea_cons (by walk_at "ev") (ea_cons (Ev.is (ev_op (ev_cb (by walk_at "ev") n_lisT) (by walk_at "ev") (o_addL hl)) (by rw [← List.map_append]; rfl)) ea_nil)) r2) rfl
end
end K92
end
section -- K92X
set_option maxRecDepth 100000
set_option maxHeartbeats 1000000
/-! The plain law: each thing's pages by themselves. -/
namespace K92
open PySem PySem.Spec PyProof.Rows L2
/-! ### the pages of one thing -/
theorem prom_things {t : Str} {p : Page} (h : isPromOf t p = true) : p.things = [t] := by
  cases p <;> simp [isPromOf] at h
  subst h
  rfl
theorem prom_of {t : Str} {names : List Str} {p : Page} (h : isPromOf t p = true) : ofThing names t p = true := by
  unfold ofThing
  rw [decide_eq_true (prom_things h)]
  rfl
theorem promNames_of (ps : List Page) (t : Str) : promNames (pagesOf ps t) t = promNames ps t := by
  unfold promNames pagesOf
  rw [List.filter_filter]
  congr 1
  refine List.filter_congr fun p _ => ?_
  cases h : isPromOf t p with
  | false => rfl
  | true => rw [prom_of h]; rfl
theorem pagesOf_idem (ps : List Page) (t : Str) : pagesOf (pagesOf ps t) t = pagesOf ps t := by
  show (pagesOf ps t).filter (ofThing (promNames (pagesOf ps t) t) t) = _
  rw [promNames_of]
  unfold pagesOf
  rw [List.filter_filter]
  refine List.filter_congr fun p _ => ?_
  cases ofThing (promNames ps t) t p <;> rfl
theorem ofThing_perm {ns ms : List Str} (h : ns.Perm ms) (t : Str) (p : Page) : ofThing ns t p = ofThing ms t p := by
  unfold ofThing
  congr 1
  cases p <;> try rfl
  exact Bool.eq_iff_iff.mpr (by
    show (ns.any _ = true) ↔ (ms.any _ = true)
    rw [List.any_eq_true, List.any_eq_true]
    exact ⟨fun ⟨x, hx, e⟩ => ⟨x, h.mem_iff.mp hx, e⟩, fun ⟨x, hx, e⟩ => ⟨x, h.mem_iff.mpr hx, e⟩⟩)
/-! ### sorted pages -/
theorem sortP_perm (ps : List Page) : (sortP ps).Perm ps := List.mergeSort_perm ps _
theorem leP_total : PySem.W.TotalLe (PySem.W.dataLe false keyD) := PySem.W.sortLe_total _ _ _
theorem sortP_pw (ps : List Page) : (sortP ps).Pairwise (fun a b => PySem.W.dataLe false keyD a b = true) := PySem.W.sort_pairwise leP_total ps
theorem sortP_id {ps : List Page} (h : ps.Pairwise (fun a b => PySem.W.dataLe false keyD a b = true)) : sortP ps = ps := List.mergeSort_of_pairwise h
theorem sortP_filter (q : Page → Bool) (ps : List Page) : (sortP ps).filter q = sortP (ps.filter q) := by
  refine PySem.W.sort_unique leP_total ((sortP_pw ps).sublist List.filter_sublist) fun c => ?_
  have e := PySem.W.sort_stable leP_total ps c
  rw [List.filter_filter, List.filter_filter]
  have e2 := congrArg (List.filter q) e
  rw [List.filter_filter, List.filter_filter] at e2
  rw [List.filter_congr (q := fun a => q a && PySem.W.sameRank (PySem.W.dataLe false keyD) c a) fun a _ => Bool.and_comm .., List.filter_congr (l := ps) (q := fun a => q a && PySem.W.sameRank (PySem.W.dataLe false keyD) c a) fun a _ => Bool.and_comm ..]
  exact e2
theorem pagesOf_sort (ps : List Page) (t : Str) : pagesOf (sortP ps) t = sortP (pagesOf ps t) := by
  show (sortP ps).filter _ = _
  rw [sortP_filter]
  congr 1
  refine List.filter_congr fun p _ => ofThing_perm ?_ t p
  exact ((sortP_perm ps).filter _).map _
/-- a sorted book's pages of a thing are sorted -/
theorem pagesOf_sorted (ps : List Page) (t : Str) : sortP (pagesOf (sortP ps) t) = pagesOf (sortP ps) t := sortP_id ((sortP_pw ps).sublist List.filter_sublist)
/-- a book as book_of makes it -/
structure Made (b : Book) : Prop where
  sorted : sortP b.pages = b.pages
  names : (b.pages.map Page.name).Nodup
section
variable {b : Book} {t : Str}
theorem made_sub (m : Made b) (q : Page → Bool) : sortP (b.pages.filter q) = b.pages.filter q := by
  rw [← sortP_filter, m.sorted]
theorem only_pages (m : Made b) : (onlyB b t).pages = pagesOf b.pages t := made_sub m _
theorem only_of (m : Made b) : pagesOf (onlyB b t).pages t = pagesOf b.pages t := by rw [only_pages m, pagesOf_idem]
theorem only_track (m : Made b) : track (onlyB b t) t = track b t := by unfold track; rw [only_of m]
theorem name_inj {ps : List Page} (h : (ps.map Page.name).Nodup) {p q : Page} (hp : p ∈ ps) (hq : q ∈ ps) (e : p.name = q.name) : p = q := by
  induction ps with
  | nil => cases hp
  | cons a ps ih =>
    rw [List.map_cons, List.nodup_cons] at h
    rcases List.mem_cons.mp hp with e1 | h1
    · rcases List.mem_cons.mp hq with e2 | h2
      · rw [e1, e2]
      · exact absurd (List.mem_map.mpr ⟨q, h2, by rw [← e, e1]⟩) h.1
    · rcases List.mem_cons.mp hq with e2 | h2
      · exact absurd (List.mem_map.mpr ⟨p, h1, by rw [e, e2]⟩) h.1
      · exact ih h.2 h1 h2
theorem mem_promNames {ps : List Page} {n : Str} : n ∈ promNames ps t ↔ ∃ p, p ∈ ps ∧ isPromOf t p = true ∧ p.name = n := by
  unfold promNames
  rw [List.mem_map]
  exact ⟨fun ⟨p, h, e⟩ => ⟨p, (List.mem_filter.mp h).1, (List.mem_filter.mp h).2, e⟩, fun ⟨p, h1, h2, e⟩ => ⟨p, List.mem_filter.mpr ⟨h1, h2⟩, e⟩⟩
theorem mem_pagesOf {ps : List Page} {p : Page} : p ∈ pagesOf ps t ↔ p ∈ ps ∧ (p.things = [t] ∨ ∃ n e q, p = .loose n e q ∧ q ∈ promNames ps t) := by
  unfold pagesOf
  rw [List.mem_filter]
  refine and_congr_right fun _ => ?_
  unfold ofThing
  rw [Bool.or_eq_true, decide_eq_true_eq]
  refine or_congr_right ?_
  cases p <;> first | (simp [looseIn]; done) | skip
  rename_i n e q _
  constructor
  · intro h
    exact ⟨n, e, q, rfl, by simpa [looseIn] using h⟩
  · rintro ⟨_, _, _, z, h⟩
    cases z
    simpa [looseIn] using h
/-- a page is of one thing at most -/
theorem one_thing {ps : List Page} (hn : (ps.map Page.name).Nodup) {p : Page} {t u : Str} (h1 : p ∈ pagesOf ps t) (h2 : p ∈ pagesOf ps u) : t = u := by
  obtain ⟨_, k1⟩ := mem_pagesOf.mp h1
  obtain ⟨_, k2⟩ := mem_pagesOf.mp h2
  rcases k1 with k1 | ⟨n, e, q, e0, k1⟩
  · rcases k2 with k2 | ⟨n, e, q, e0, k2⟩
    · rw [k1] at k2; exact (List.cons.inj k2).1
    · rw [e0] at k1; cases k1
  · rcases k2 with k2 | ⟨n', e', q', z, k2⟩
    · rw [e0] at k2; cases k2
    · rw [e0] at z
      cases z
      obtain ⟨p1, m1, j1, e1⟩ := mem_promNames.mp k1
      obtain ⟨p2, m2, j2, e2⟩ := mem_promNames.mp k2
      have e := name_inj hn m1 m2 (e1.trans e2.symm)
      subst e
      have t1 := prom_things j1
      rw [prom_things j2] at t1
      exact (List.cons.inj t1).1.symm
theorem mem_thingsOf {ps : List Page} {t : Str} : t ∈ thingsOf ps ↔ ∃ p, p ∈ ps ∧ t ∈ p.things := namesBy_mem
theorem things_one {p : Page} {t : Str} (h : t ∈ p.things) : p.things = [t] := by
  cases p <;> simp [Page.things] at h ⊢ <;> exact h.symm
theorem thingsOf_of {ps : List Page} {t : Str} (h : t ∈ thingsOf ps) : thingsOf (pagesOf ps t) = [t] := by
  have hs : sortS [t] = [t] := List.mergeSort_singleton t
  rw [← hs]
  refine sortS_ext (keysFrom_nd List.nodup_nil) (by simp) fun a => ?_
  unfold keysOf
  rw [keysFrom_mem, List.mem_flatMap]
  obtain ⟨p, hp, ht⟩ := mem_thingsOf.mp h
  constructor
  · rintro (h | ⟨q, hq, ha⟩)
    · cases h
    · obtain ⟨_, h2⟩ := mem_pagesOf.mp hq
      rcases h2 with h2 | ⟨n, e, r, rfl, _⟩
      · rw [h2] at ha; exact ha
      · cases ha
  · intro ha
    rw [List.mem_singleton] at ha
    subst ha
    exact .inr ⟨p, mem_pagesOf.mpr ⟨hp, .inl (things_one ht)⟩, ht⟩
/-! ### what doesn't fit -/
theorem getA_setd {l : List (Str × Bool)} {p : Page} {k : Str} : getA (setd l p) k = (getA l k).or (if p.name = k then some p.always else none) := by
  unfold setd
  cases e : getA l p.name with
  | some v =>
    show getA l k = _
    by_cases z : p.name = k
    · subst z; rw [e]; rfl
    · rw [if_neg z]; cases getA l k <;> rfl
  | none =>
    show getA (putA l p.name p.always) k = _
    rw [getA_put]
    by_cases z : p.name = k
    · subst z; rw [e, if_pos rfl]; rfl
    · rw [if_neg z, if_neg z]; cases getA l k <;> rfl
theorem getA_setds : ∀ {ps : List Page} {l : List (Str × Bool)} {p : Page}, (ps.map Page.name).Nodup → p ∈ ps → getA (ps.foldl setd l) p.name = (getA l p.name).or (some p.always)
  | [], _, _, _, h => by cases h
  | q :: ps, l, p, nd, h => by
    rw [List.foldl_cons]
    rw [List.map_cons, List.nodup_cons] at nd
    rcases List.mem_cons.mp h with e | h
    · subst e
      have k : ∀ (rs : List Page) (m : List (Str × Bool)) (v : Bool), getA m p.name = some v → getA (rs.foldl setd m) p.name = some v := by
        intro rs
        induction rs with
        | nil => intro m v h; exact h
        | cons r rs ih => intro m v h; exact ih _ v (by rw [getA_setd, h]; rfl)
      have e1 : getA (setd l p) p.name = (getA l p.name).or (some p.always) := by rw [getA_setd, if_pos rfl]
      cases e2 : getA l p.name with
      | some v => rw [e2] at e1; rw [k ps _ v e1]; rfl
      | none => rw [e2] at e1; rw [k ps _ _ e1]; rfl
    · have ne : q.name ≠ p.name := fun e => nd.1 (List.mem_map.mpr ⟨p, h, e.symm⟩)
      rw [getA_setds nd.2 h, getA_setd, if_neg ne]
      cases getA l p.name <;> rfl
theorem getA_rows1 : ∀ {rs : List Row} {l : List (Str × Bool)} {k : Str} {v : Bool}, (∀ r, r ∈ rs → r.1 = k → r.2.1 = v) → ((∃ r, r ∈ rs ∧ r.1 = k) ∨ getA l k = some v) → getA (rs.foldl rowPut l) k = some v
  | [], l, k, v, _, h => by
    rcases h with ⟨r, h, _⟩ | h
    · cases h
    · exact h
  | r :: rs, l, k, v, hv, h => by
    rw [List.foldl_cons]
    refine getA_rows1 (fun r' h' => hv r' (List.mem_cons_of_mem _ h')) ?_
    by_cases z : r.1 = k
    · right
      unfold rowPut
      rw [getA_put, if_pos z, hv r (List.mem_cons_self ..) z]
    · rcases h with ⟨r', h', e⟩ | h
      · rcases List.mem_cons.mp h' with e2 | h'
        · rw [e2] at e; exact absurd e z
        · exact .inl ⟨r', h', e⟩
      · right
        unfold rowPut
        rw [getA_put, if_neg z, h]
theorem getA_rows0 : ∀ {rs : List Row} {l : List (Str × Bool)} {k : Str}, (∀ r, r ∈ rs → r.1 ≠ k) → getA (rs.foldl rowPut l) k = getA l k
  | [], l, k, _ => rfl
  | r :: rs, l, k, h => by
    rw [List.foldl_cons, getA_rows0 fun r' h' => h r' (List.mem_cons_of_mem _ h')]
    unfold rowPut
    rw [getA_put, if_neg (h r (List.mem_cons_self ..))]
theorem track_names (g : Gst) : ∀ ps : List Page, (trackFrom g ps).map (·.1) = ps.map Page.name
  | [] => rfl
  | p :: ps => by rw [trackFrom, List.map_cons, List.map_cons, track_names _ ps]
theorem track_row {ps : List Page} {p : Page} (h : p ∈ ps) : ∃ r, r ∈ trackOf ps ∧ r.1 = p.name := by
  have hm : p.name ∈ (trackOf ps).map (·.1) := by
    show _ ∈ (trackFrom _ ps).map (·.1)
    rw [track_names]
    exact List.mem_map_of_mem h
  obtain ⟨r, h1, h2⟩ := List.mem_map.mp hm
  exact ⟨r, h1, h2⟩
theorem track_page {ps : List Page} {r : Row} (h : r ∈ trackOf ps) : ∃ p, p ∈ ps ∧ p.name = r.1 := by
  have hm : r.1 ∈ (trackOf ps).map (·.1) := List.mem_map_of_mem h
  have hm' : r.1 ∈ ps.map Page.name := by
    have e : (trackOf ps).map (·.1) = ps.map Page.name := track_names _ ps
    rwa [e] at hm
  obtain ⟨p, h1, h2⟩ := List.mem_map.mp hm'
  exact ⟨p, h1, h2⟩
theorem row_one {ps : List Page} (hn : (ps.map Page.name).Nodup) {r s : Row} (h1 : r ∈ trackOf ps) (h2 : s ∈ trackOf ps) (e : r.1 = s.1) : r = s := by
  have hn' : ((trackOf ps).map (·.1)).Nodup := by
    have e : (trackOf ps).map (·.1) = ps.map Page.name := track_names _ ps
    rwa [e]
  obtain ⟨i, hi, rfl⟩ := List.mem_iff_getElem.mp h1
  obtain ⟨j, hj, rfl⟩ := List.mem_iff_getElem.mp h2
  have a1 : ((trackOf ps).map (·.1))[i]? = some ((trackOf ps)[i]).1 := by rw [List.getElem?_map, List.getElem?_eq_getElem hi]; rfl
  have a2 : ((trackOf ps).map (·.1))[j]? = some ((trackOf ps)[i]).1 := by rw [List.getElem?_map, List.getElem?_eq_getElem hj, e]; rfl
  have ij := nd_ix hn' a1 a2
  subst ij
  rfl
/-- a page of a thing of the book: its row tells -/
theorem fit_row {b : Book} (hn : (b.pages.map Page.name).Nodup) {t : Str} (ht : t ∈ thingsOf b.pages) {p : Page} (hp : p ∈ pagesOf b.pages t) {r : Row} (hr : r ∈ track b t) (e : r.1 = p.name) : misfit b p = !r.2.1 := by
  have hpb := (mem_pagesOf.mp hp).1
  have hnt : ((pagesOf b.pages t).map Page.name).Nodup := hn.sublist (List.filter_sublist.map _)
  have hf : getA (tracksFit b) p.name = some r.2.1 := by
    refine getA_rows1 (fun r' h' e' => ?_) (.inl ⟨r, List.mem_flatMap.mpr ⟨t, ht, hr⟩, e⟩)
    obtain ⟨u, hu, hr'⟩ := List.mem_flatMap.mp h'
    obtain ⟨p', hp', e2⟩ := track_page hr'
    have ep : p' = p := name_inj hn (mem_pagesOf.mp hp').1 hpb (e2.trans e')
    subst ep
    have et := one_thing hn hp hp'
    subst et
    rw [row_one hnt hr' hr (e'.trans e.symm)]
  unfold misfit fitting
  rw [getA_setds hn hpb, hf]
  rfl
theorem fit_none {b : Book} (hn : (b.pages.map Page.name).Nodup) {p : Page} (hp : p ∈ b.pages) (h : ∀ t, t ∈ thingsOf b.pages → p ∉ pagesOf b.pages t) : misfit b p = !p.always := by
  have hf : getA (tracksFit b) p.name = none := by
    refine getA_rows0 fun r hr e => ?_
    obtain ⟨u, hu, hr'⟩ := List.mem_flatMap.mp hr
    obtain ⟨p', hp', e2⟩ := track_page hr'
    have ep : p' = p := name_inj hn (mem_pagesOf.mp hp').1 hp (e2.trans e)
    subst ep
    exact h u hu hp'
  unfold misfit fitting
  rw [getA_setds hn hp, hf]
  rfl
theorem fit_only (m : Made b) (ht : t ∈ thingsOf b.pages) {p : Page} (hp : p ∈ pagesOf b.pages t) : misfit (onlyB b t) p = misfit b p := by
  obtain ⟨r, hr, e⟩ := track_row hp
  rw [fit_row m.names ht hp hr e]
  have hn : ((onlyB b t).pages.map Page.name).Nodup := by
    rw [only_pages m]
    exact m.names.sublist (List.filter_sublist.map _)
  refine fit_row (t := t) hn ?_ ?_ ?_ e
  · rw [only_pages m, thingsOf_of ht]; exact List.mem_singleton.mpr rfl
  · rw [only_of m]; exact hp
  · rw [only_track m]; exact hr
/-- the looses of no promise of the book -/
def isProm (p : Page) : Bool := match p with
  | .promise .. => true
  | _ => false
def allProms (ps : List Page) : List Str := (ps.filter isProm).map Page.name
def strange (ps : List Page) (p : Page) : Bool := match p with
  | .loose _ _ q => !decide (q ∈ allProms ps)
  | _ => false
theorem mem_allProms {ps : List Page} {q : Str} : q ∈ allProms ps ↔ ∃ p t, p ∈ ps ∧ isPromOf t p = true ∧ p.name = q := by
  unfold allProms
  rw [List.mem_map]
  constructor
  · rintro ⟨p, h, e⟩
    obtain ⟨h1, h2⟩ := List.mem_filter.mp h
    cases p <;> first | (simp [isProm] at h2; done) | skip
    exact ⟨_, _, h1, by simp [isPromOf]; rfl, e⟩
  · rintro ⟨p, t, h1, h2, e⟩
    refine ⟨p, List.mem_filter.mpr ⟨h1, ?_⟩, e⟩
    cases p <;> first | (simp [isPromOf] at h2; done) | rfl
theorem isPromOf_thing {t : Str} {p : Page} (h : isPromOf t p = true) : t ∈ p.things := by rw [prom_things h]; exact List.mem_singleton.mpr rfl
theorem flat_congr {α β : Type} {f g : α → List β} : ∀ {xs : List α}, (∀ x, x ∈ xs → f x = g x) → xs.flatMap f = xs.flatMap g
  | [], _ => rfl
  | x :: xs, h => by rw [List.flatMap_cons, List.flatMap_cons, h x (List.mem_cons_self ..), flat_congr fun y hy => h y (List.mem_cons_of_mem _ hy)]
theorem unfit_parts (m : Made b) : (unfit b).Perm ((b.pages.filter (strange b.pages)).map Page.name ++ (thingsOf b.pages).flatMap fun t => unfit (onlyB b t)) := by
  have hnd : b.pages.Nodup := List.Pairwise.of_map Page.name (fun a b ne e => ne (by rw [e])) m.names
  have e1 : ∀ t, t ∈ thingsOf b.pages → unfit (onlyB b t) = ((pagesOf b.pages t).filter (misfit b)).map Page.name := fun t ht => by
    unfold unfit
    rw [only_pages m]
    congr 1
    exact List.filter_congr fun p hp => fit_only m ht hp
  have e2 : ((thingsOf b.pages).flatMap fun t => unfit (onlyB b t)) = ((thingsOf b.pages).flatMap fun t => (pagesOf b.pages t).filter (misfit b)).map Page.name := by
    rw [List.map_flatMap]
    exact flat_congr e1
  rw [e2, ← List.map_append]
  refine List.Perm.map _ ?_
  have hst : ∀ p, p ∈ b.pages → strange b.pages p = true → ∀ t, p ∉ pagesOf b.pages t := fun p hp hs t h => by
    obtain ⟨_, h2⟩ := mem_pagesOf.mp h
    rcases h2 with h2 | ⟨n, e, q, rfl, h2⟩
    · cases p <;> first | (cases h2; done) | (simp [strange] at hs; done)
    · obtain ⟨p', m1, k1, e1⟩ := mem_promNames.mp h2
      have : q ∈ allProms b.pages := mem_allProms.mpr ⟨p', t, m1, k1, e1⟩
      simp [strange, this] at hs
  refine (List.perm_ext_iff_of_nodup (hnd.filter _) ?_).mpr fun p => ?_
  · refine List.nodup_append.mpr ⟨hnd.filter _, ?_, ?_⟩
    · refine List.pairwise_flatMap.mpr ⟨fun t _ => (hnd.filter _).filter _, ?_⟩
      have htn : (thingsOf b.pages).Nodup := namesBy_nd
      refine htn.imp fun {t u} ne p hp q hq e => ne ?_
      subst e
      exact one_thing m.names (List.mem_filter.mp hp).1 (List.mem_filter.mp hq).1
    · intro p hp q hq e
      subst e
      obtain ⟨h1, h2⟩ := List.mem_filter.mp hp
      obtain ⟨t, _, h3⟩ := List.mem_flatMap.mp hq
      exact hst p h1 h2 t (List.mem_filter.mp h3).1
  · rw [List.mem_filter, List.mem_append, List.mem_filter, List.mem_flatMap]
    constructor
    · rintro ⟨hp, hm⟩
      by_cases h : ∃ t, t ∈ thingsOf b.pages ∧ p ∈ pagesOf b.pages t
      · obtain ⟨t, ht, h⟩ := h
        exact .inr ⟨t, ht, List.mem_filter.mpr ⟨h, hm⟩⟩
      · left
        refine ⟨hp, ?_⟩
        have h' : ∀ t, t ∈ thingsOf b.pages → p ∉ pagesOf b.pages t := fun t ht hpt => h ⟨t, ht, hpt⟩
        have hno : p.things = [] := by
          cases e : p.things with
          | nil => rfl
          | cons t r =>
            have ht : t ∈ p.things := by rw [e]; exact List.mem_cons_self ..
            exact absurd (mem_pagesOf.mpr ⟨hp, .inl (things_one ht)⟩) (h' t (mem_thingsOf.mpr ⟨p, hp, ht⟩))
        rw [fit_none m.names hp h'] at hm
        cases p <;> first | (cases hno; done) | (simp [Page.always, Page.rank] at hm; done) | skip
        rename_i n e q
        show (!decide (q ∈ allProms b.pages)) = true
        rw [decide_eq_false]
        · rfl
        · intro hq
          obtain ⟨p', t, m1, k1, e1⟩ := mem_allProms.mp hq
          exact h' t (mem_thingsOf.mpr ⟨p', m1, isPromOf_thing k1⟩) (mem_pagesOf.mpr ⟨hp, .inr ⟨n, e, q, rfl, mem_promNames.mpr ⟨p', m1, k1, e1⟩⟩⟩)
    · rintro (⟨hp, hs⟩ | ⟨t, ht, h⟩)
      · refine ⟨hp, ?_⟩
        rw [fit_none m.names hp fun t _ => hst p hp hs t]
        cases p <;> first | (simp [strange] at hs; done) | rfl
      · obtain ⟨h1, h2⟩ := List.mem_filter.mp h
        exact ⟨(mem_pagesOf.mp h1).1, h2⟩
/-! ### balances -/
theorem owedBy_append (xs ys : List Due) (one other : Str) (day : Int) : owedBy (xs ++ ys) one other day = owedBy xs one other day + owedBy ys one other day := by
  unfold owedBy
  rw [List.filter_append, List.map_append, List.sum_append]
theorem balanceBy_append (xs ys : List Due) (one other : Str) (day : Int) : balanceBy (xs ++ ys) one other day = balanceBy xs one other day + balanceBy ys one other day := by
  unfold balanceBy
  rw [owedBy_append, owedBy_append]
  omega
theorem balanceBy_nil (one other : Str) (day : Int) : balanceBy [] one other day = 0 := rfl
theorem balanceBy_flat {α : Type} (f : α → List Due) (one other : Str) (day : Int) : ∀ xs : List α, balanceBy (xs.flatMap f) one other day = (xs.map fun x => balanceBy (f x) one other day).sum
  | [] => rfl
  | x :: xs => by rw [List.flatMap_cons, balanceBy_append, balanceBy_flat f one other day xs, List.map_cons, List.sum_cons]
theorem balance_anti (b : Book) (one other : Str) (day : Int) : balance b other one day = 0 - balance b one other day := by
  unfold balance balanceBy
  omega
theorem plain_of (ps : List Page) (t : Str) : plainDues (pagesOf ps t) = [] := by
  unfold plainDues
  rw [List.flatMap_eq_nil_iff]
  intro p hp
  obtain ⟨_, h⟩ := mem_pagesOf.mp hp
  rcases h with h | ⟨n, e, q, rfl, _⟩
  · cases p <;> first | rfl | (cases h; done)
  · rfl
def isRest (p : Page) : Bool := decide (9 ≤ p.rank)
theorem plain_rest (ps : List Page) : plainDues (ps.filter isRest) = plainDues ps := by
  unfold plainDues
  induction ps with
  | nil => rfl
  | cons p ps ih =>
    rw [List.filter_cons]
    cases p <;> simp only [isRest, Page.rank] <;> simp [plainDue, ih]
theorem things_rest (ps : List Page) : thingsOf (ps.filter isRest) = [] := by
  rw [List.eq_nil_iff_forall_not_mem]
  intro t h
  obtain ⟨p, hp, ht⟩ := mem_thingsOf.mp h
  have h2 := (List.mem_filter.mp hp).2
  cases p <;> first | (simp [isRest, Page.rank] at h2; done) | (cases ht; done)
def restB (b : Book) : Book := ⟨sortU b.houses, sortP (b.pages.filter isRest)⟩
theorem rest_pages (m : Made b) : (restB b).pages = b.pages.filter isRest := made_sub m _
theorem dues_rest (m : Made b) : allDues (restB b) = plainDues b.pages := by
  unfold allDues
  rw [rest_pages m, plain_rest, things_rest, List.flatMap_nil, List.append_nil]
theorem dues_only (m : Made b) (ht : t ∈ thingsOf b.pages) : allDues (onlyB b t) = duesOf (pagesOf b.pages t) (track b t) := by
  unfold allDues
  rw [only_pages m, plain_of, thingsOf_of ht, List.nil_append, List.flatMap_singleton, pagesOf_idem, only_track m]
theorem balance_parts (m : Made b) (one other : Str) (day : Int) : balance b one other day = ((((thingsOf b.pages).map (onlyB b)) ++ [restB b]).map fun x => balance x one other day).sum := by
  rw [List.map_append, List.sum_append, List.map_map]
  show balanceBy (allDues b) one other day = _
  have e1 : allDues b = plainDues b.pages ++ (thingsOf b.pages).flatMap fun t => duesOf (pagesOf b.pages t) (track b t) := rfl
  rw [e1, balanceBy_append, balanceBy_flat]
  have e2 : ((thingsOf b.pages).map fun t => balanceBy (duesOf (pagesOf b.pages t) (track b t)) one other day) = (thingsOf b.pages).map ((fun x => balance x one other day) ∘ onlyB b) := by
    refine List.map_congr_left fun t ht => ?_
    show _ = balanceBy (allDues (onlyB b t)) one other day
    rw [dues_only m ht]
  rw [e2]
  have e3 : ([restB b].map fun x => balance x one other day).sum = balanceBy (plainDues b.pages) one other day := by
    rw [List.map_singleton, List.sum_singleton]
    show balanceBy (allDues (restB b)) one other day = _
    rw [dues_rest m]
  rw [e3]
  omega
/-! ### another thing's pages put in -/
theorem both_of {b o : Book} (m : Made b) (h : ∀ p, p ∈ o.pages → t ∉ p.things ∧ ∀ n e q, p = .loose n e q → q ∉ b.pages.map Page.name) : pagesOf (bothB b o).pages t = pagesOf b.pages t := by
  have hm : ∀ p, p ∈ moreB b o → t ∉ p.things ∧ ∀ n e q, p = .loose n e q → q ∉ b.pages.map Page.name := fun p hp => h p (List.mem_filter.mp hp).1
  show pagesOf (sortP (b.pages ++ moreB b o)) t = _
  rw [pagesOf_sort]
  have ep : promNames (b.pages ++ moreB b o) t = promNames b.pages t := by
    unfold promNames
    rw [List.filter_append, List.map_append]
    have e0 : (moreB b o).filter (isPromOf t) = [] := List.filter_eq_nil_iff.mpr fun p hp hq => (hm p hp).1 (isPromOf_thing hq)
    rw [e0]
    simp
  have e1 : pagesOf (b.pages ++ moreB b o) t = pagesOf b.pages t := by
    show (b.pages ++ moreB b o).filter (ofThing (promNames (b.pages ++ moreB b o) t) t) = _
    rw [ep, List.filter_append]
    have e0 : (moreB b o).filter (ofThing (promNames b.pages t) t) = [] := List.filter_eq_nil_iff.mpr fun p hp hq => by
      obtain ⟨h1, h2⟩ := hm p hp
      unfold ofThing at hq
      rw [Bool.or_eq_true, decide_eq_true_eq] at hq
      rcases hq with hq | hq
      · exact h1 (by rw [hq]; exact List.mem_singleton.mpr rfl)
      · cases p <;> first | (simp [looseIn] at hq; done) | skip
        rename_i n e q
        have hq' : q ∈ promNames b.pages t := by simpa [looseIn] using hq
        obtain ⟨p', m1, _, e1⟩ := mem_promNames.mp hq'
        exact h2 n e q rfl (List.mem_map.mpr ⟨p', m1, e1⟩)
    rw [e0, List.append_nil]
    rfl
  rw [e1]
  exact made_sub m _
end
end K92
end
section -- K92F24
set_option maxRecDepth 100000
set_option maxHeartbeats 10000000
namespace K92
open PySem PySem.Spec PyProof.Rows L2
local macro_rules | `(tactic| walk_at "dc") => `(tactic| first | decide +kernel | with_reducible rfl)
local macro_rules | `(tactic| walk_at "bb") => `(tactic| first | exact Eq.trans (b := true) (by decide +kernel) rfl | exact Eq.trans (b := false) (by decide +kernel) rfl)
local macro_rules | `(tactic| walk_at "go") => `(tactic| dsimp only [cxOf, Cx.nox, startC, List.map_cons, List.map_nil, List.length_cons, List.length_nil])
local macro_rules | `(tactic| walk_at "at") => `(tactic| first | with_reducible exact at_if | with_reducible exact at0 _ _ | with_reducible exact at1 _ _ _ | with_reducible exact at2 _ _ _ _ | rfl | exact at_word _ | exact at_name _ | exact at_day _)
local macro_rules | `(tactic| walk_at "op") => `(tactic| first
  | ((with_reducible apply o_ixT); walk_at "at")
  | ((with_reducible apply o_ixL); walk_at "at")
  | with_reducible exact o_eqS
  | with_reducible exact o_eqI
  | with_reducible exact o_neS
  | with_reducible exact o_neI
  | with_reducible exact o_le
  | with_reducible exact o_lt
  | with_reducible exact o_addI
  | with_reducible exact o_sub
  | ((with_reducible apply o_inT); first | assumption | rfl)
  | ((with_reducible apply o_inL); first | assumption | rfl)
  | with_reducible exact o_inS
  | with_reducible exact o_neNS
  | ((with_reducible apply o_neD); assumption; assumption)
  | ((with_reducible apply o_eqD); assumption; assumption))
local macro_rules | `(tactic| walk_at "tg") => `(tactic| first
  | ((with_reducible apply tg_name); decide)
  | ((with_reducible apply tg_tupW); (walk_at "tg"); rfl)
  | with_reducible exact tgs_nil
  | ((with_reducible apply tgs_cons); (walk_at "tg"); (walk_at "tg")))
local macro_rules | `(tactic| walk_at "lc") => `(tactic| ((apply lcI); (walk_at "tg"); (apply EvT.is); (walk_at "ev"); rfl; (intro _); (apply Ev.is); (walk_at "ev"); rfl))
local macro_rules | `(tactic| walk_at "ev") => `(tactic| first
  | ((with_reducible apply ev_var); rfl)
  | with_reducible exact ev_str
  | with_reducible exact ev_int
  | with_reducible exact ev_bl
  | with_reducible exact ev_non
  | with_reducible exact ev_c (by assumption)
  | with_reducible exact ea_nil
  | ((with_reducible apply ev_op); (walk_at "ev"); (walk_at "ev"); (walk_at "op"))
  | ((with_reducible apply ea_cons); (walk_at "ev"); (walk_at "ev"))
  | ((with_reducible apply ev_tupW); (walk_at "ev"); exact Nat.le_of_ble_eq_true rfl)
  | ((with_reducible apply ev_lstW); (walk_at "ev"); exact Nat.le_of_ble_eq_true rfl)
  | ((with_reducible apply et_testD); walk_at "ev")
  | ((with_reducible apply et_B); walk_at "ev")
  | ((with_reducible apply et_not); walk_at "ev")
  | ((with_reducible apply et_andF); (walk_at "ev"); (walk_at "dc"))
  | ((with_reducible apply et_andT); (walk_at "ev"); (walk_at "dc"); (walk_at "ev"))
  | ((with_reducible apply et_and); (walk_at "ev"); intro _; (walk_at "ev"))
  | ((with_reducible apply et_orT); (walk_at "ev"); (walk_at "dc"))
  | ((with_reducible apply et_orF); (walk_at "ev"); (walk_at "dc"); (walk_at "ev"))
  | ((with_reducible apply et_or); (walk_at "ev"); intro _; (walk_at "ev"))
  | ((with_reducible apply ev_andVF); (walk_at "ev"); (walk_at "dc"))
  | ((with_reducible apply ev_andVT); (walk_at "ev"); (walk_at "dc"); (walk_at "ev"))
  | ((with_reducible apply ev_orVT); (walk_at "ev"); (walk_at "dc"))
  | ((with_reducible apply ev_orVF); (walk_at "ev"); (walk_at "dc"); (walk_at "ev"))
  | ((with_reducible apply ev_andV); (walk_at "ev"); intro _; (walk_at "ev"))
  | ((with_reducible apply ev_orV); (walk_at "ev"); intro _; (walk_at "ev"))
  | ((with_reducible apply ev_notV); walk_at "ev")
  | ((with_reducible apply ev_neg); (walk_at "ev"))
  | ((with_reducible apply ev_isNE); (walk_at "ev"))
  | ((with_reducible apply ev_notN); (walk_at "ev"))
  | with_reducible exact lc_T
  | with_reducible exact eo_none
  | ((with_reducible apply eo_some); (walk_at "ev"))
  | ((with_reducible apply ev_slT); (walk_at "ev"); (walk_at "ev"); (walk_at "ev"); (exact fun h => Nat.ne_of_beq_eq_false rfl h.2); first | exact cut2 | exact cut3 | rfl)
  | ((with_reducible apply ev_slL); (walk_at "ev"); (walk_at "ev"); (walk_at "ev"); rfl)
  | ((with_reducible apply ev_kd); (walk_at "ev"); assumption; assumption)
  | ((with_reducible apply ev_call); (walk_at "ev"); assumption)
  | ((with_reducible apply ev_cb); (walk_at "ev"); (walk_at "cb"))
  | ((with_reducible apply ev_isi); (walk_at "ev"); (walk_at "dc"))
  | ((with_reducible apply ev_lcM); (walk_at "ev"); (exact Nat.le_of_ble_eq_true rfl); (walk_at "pd"))
  | ((with_reducible apply ei_list); (walk_at "ev"))
  | ((with_reducible apply ei_tup); (walk_at "ev"))
  | ((with_reducible apply ei_zip); (walk_at "ev"); assumption))
local macro_rules | `(tactic| walk_at "pd") => `(tactic| first | exact Paired.nil | ((apply Paired.cons); (walk_at "lc"); (walk_at "pd")))
local macro_rules | `(tactic| walk_at "cb") => `(tactic| first
  | with_reducible exact n_lenL
  | with_reducible exact n_lenT
  | ((with_reducible apply n_lenS); assumption)
  | with_reducible exact n_intB
  | with_reducible exact n_abs
  | with_reducible exact n_min
  | with_reducible exact n_tupL
  | with_reducible exact n_lisT
  | with_reducible exact n_lisL)
local macro_rules | `(tactic| walk_at "tr") => `(tactic| first
  | ((with_reducible apply q_retF); (walk_at "ev"); (walk_at "dc"))
  | ((with_reducible apply q_retT); (walk_at "ev"); (walk_at "dc"))
  | ((with_reducible apply q_retB); (walk_at "ev"))
  | ((with_reducible apply tr_retI); (walk_at "ev"))
  | ((with_reducible apply q_par); (walk_at "ev"))
  | ((with_reducible apply q_par3); (walk_at "ev"))
  | ((with_reducible apply q_newL); intro _)
  | ((with_reducible apply q_newD); intro _)
  | ((with_reducible apply q_asgA); (walk_at "ev"); (walk_at "tg")))
local macro_rules | `(tactic| walk_at "if") => `(tactic| first
  | ((with_reducible apply q_app (k := 0)); rfl; rfl; assumption; (walk_at "ev"))
  | with_reducible apply q_as
  | with_reducible apply q_nx
  | ((with_reducible apply q_par); (walk_at "ev"))
  | ((with_reducible apply q_par3); (walk_at "ev"))
  | ((with_reducible apply q_iF); (walk_at "ev"); (walk_at "dc"))
  | ((with_reducible apply q_iT); (walk_at "ev"); (walk_at "dc"))
  | ((with_reducible apply q_i); (walk_at "ev"))
  | ((with_reducible apply q_rt); (walk_at "ev"))
  | ((with_reducible apply q_asgA); (walk_at "ev"); (walk_at "tg")))


section
variable {P : Program} {w : World} {K : PySem.W.Frag} {mg : Str → Option Value} {base : Heap}
theorem erase_perm {α : Type} : ∀ (l : List α) (j : Nat) (h : j < l.length), (l[j] :: l.eraseIdx j).Perm l
  | a :: l, 0, _ => List.Perm.refl _
  | a :: l, j + 1, h => by
    have ih := erase_perm l j (by simpa using h)
    rw [List.getElem_cons_succ, List.eraseIdx_cons_succ]
    exact (List.Perm.swap a _ _).trans (List.Perm.cons a ih)
abbrev N__law_turned : List Str := ["_law_pen", "_law_some", "_law_left", "_law_one"]
theorem sc__law_turned : FnScope N__law_turned ["_law_pen", "_law_some"] (defScope s__law_turned) := ⟨rfl, rfl, rfl, by decide +kernel, rfl, by decide +kernel, by decide +kernel⟩
def R_turned (ds : List PyData) (d : PyData) : Prop := ∃ es : List PyData, es.Perm ds ∧ d = .list es
theorem ok__law_turned (T : Tx w K mg) (c__law_draw : Cal P w K mg base "_law_draw" ["_law_pen", "_law_many"] 1 (spP K Pre_draw R_draw)) :
    Cal P w K mg base "_law_turned" ["_law_pen", "_law_some"] 2 (spQ K (fun ds : List PyData => [.list ds]) (fun ds => ds.length ≤ 100) R_turned) := by
  refine cal_penQ T.d__law_turned sc__law_turned (fun _ _ _ _ _ _ us hl => match us, hl with | [_, _], _ => rfl) (fun x => rfl) (fun f cdv A outer s H E hr => ⟨_,
    (pss_cons (ps_set (i := 2) sc__law_turned.nd rfl (by first | exact .inl rfl | exact .inr rfl) (pe_callTy (r := rLIS K) cr_LIS (by rfl) T.list (by decide +kernel) (pa_cons (pv 1) pa_nil)))
  (pss_one (ps_ret (pe_lc (own := [("_law_one", 3)]) (g := gName 3) rfl sc__law_turned.nd (pi_list (pv 1)) (blkOk_by (own := [("_law_one", 3)]) (N := N__law_turned) (sc := defScope s__law_turned) (by decide +kernel)) (fun _ _ _ _ _ => (pg_name (i := 3) sc__law_turned.nd rfl (.inl rfl))) (fun _ _ _ _ _ => pts_nil) (fun _ _ _ _ _ => (pe_bmK (K := K) (r := rPopAt) rfl PySem.F.plainAttrs_list PySem.F.slot_list_pop PySem.F.type_list_pop mt_popAt (pv 2) (pa_cons (pe_cal c__law_draw (hr.mono (by decide)) (by rfl) (pa_cons (pv 0) (pa_cons (pe_callB (r := rLEN K) cr_LEN (by rfl) T.len (by decide +kernel) (pa_cons (pv 2) pa_nil)) pa_nil))) pa_nil))))))), fun pen scr is ds hR => ?_⟩)
  have hR : ds.length ≤ 100 := hR
  walk_at "go"
  refine q_lisKeep (ds := ds) (by walk_at "ev") fun p => ?_
  refine tr_retLcK (ds := ds) (ei_list (by walk_at "ev")) (by omega) (fun j acc o => ∃ left, o = [(p, .lst left)] ∧ (acc ++ left).Perm ds) ⟨ds, rfl, List.Perm.refl _⟩ ?_ ?_
  · rintro D j d acc _ hj ⟨left, rfl, hp⟩ hlen
    have hjl := (List.getElem?_eq_some_iff.mp hj).1
    have hll := hp.length_eq
    rw [List.length_append] at hll
    apply forI
    · walk_at "tg"
    · have q : EvX (CP K pen scr is) K ([.ref pen, .val (.list ds), .ref p, .val d], [(D, .lst acc), (p, .lst left)]) _ _ := ex_pop (i := 2) (k := 1) (p := p) (ds := left) rfl rfl (by omega) (es_draw (E := E0) (i := 0) (m := (left.length : Nat)) rfl (es_lenK (i := 2) (k := 1) (p := p) (ds := left) rfl rfl) (by omega) (by omega))
      intro B0 H0 σ B H x Q qq
      refine q B0 H0 σ B H x Q fun d v o B' H' ⟨j', hj', e1, e2⟩ e x' r => qq d v o B' H' ⟨[(p, .lst (left.eraseIdx j'))], e2, left.eraseIdx j', rfl, ?_⟩ e x' r
      subst e1
      refine List.Perm.trans ?_ hp
      rw [List.append_assoc]
      refine List.Perm.append_left _ ?_
      exact erase_perm left j' hj'
  · rintro acc _ ⟨left, rfl, hp⟩ hlen
    have hll := hp.length_eq
    rw [List.length_append] at hll
    have hn : left = [] := List.eq_nil_of_length_eq_zero (by omega)
    rw [hn, List.append_nil] at hp
    exact ⟨acc, hp, rfl⟩
abbrev N__law_told : List Str := ["_law_book", "_law_thing", "_law_days", "_law_found", "_law_day"]
theorem sc__law_told : FnScope N__law_told ["_law_book", "_law_thing", "_law_days"] (defScope s__law_told) := ⟨rfl, rfl, rfl, by decide +kernel, rfl, by decide +kernel, by decide +kernel⟩
def dayT (b : Book) (t : Str) (day : Int) : PyData := .tuple [(standOf (pagesOf b.pages t) (track b t) day).d, .bool (doubleOf (pagesOf b.pages t) (track b t) day), .list ((openP b t day).map .str)]
def tell (b : Book) (t : Str) (days : List Int) : List PyData := [.list ((track b t).map Row.d), ownD (kindOf (pagesOf b.pages t))] ++ days.map (dayT b t)
def R_told (ds : List PyData) (d : PyData) : Prop := ∃ b t days, Book.ok b ∧ okS t ∧ List.length days ≤ 1000 ∧ ds = [Book.d b, .str t, .list (days.map .int)] ∧ d = .list (tell b t days)
theorem ok__law_told (T : Tx w K mg) (c_track : Cal P w K mg base "track" ["book", "thing"] 6 (spD K R_track)) (c_kind_of : Cal P w K mg base "kind_of" ["book", "thing"] 3 (spD K R_kind_of)) (c_where : Cal P w K mg base "where" ["book", "thing", "day"] 6 (spD K R_where))
    (c_is_double : Cal P w K mg base "is_double" ["book", "thing", "day"] 6 (spD K R_is_double)) (c_open_promises : Cal P w K mg base "open_promises" ["book", "thing", "day"] 6 (spD K R_open_promises)) :
    Cal P w K mg base "_law_told" ["_law_book", "_law_thing", "_law_days"] 7 (spD K R_told) := by
  refine cal_data T.d__law_told sc__law_told (fun _ _ _ _ _ _ us hl => match us, hl with | [_, _, _], _ => rfl) (fun ds d ⟨_, _, _, _, _, _, h1, h2⟩ => by subst h1; rfl) (fun f cdv A outer s H E hr => ⟨_,
    (pss_cons (ps_set (i := 3) sc__law_told.nd rfl (by first | exact .inl rfl | exact .inr rfl) (pe_lst (pa_cons (pe_cal c_track (hr.mono (by decide)) (by rfl) (pa_cons (pv 0) (pa_cons (pv 1) pa_nil))) (pa_cons (pe_cal c_kind_of (hr.mono (by decide)) (by rfl) (pa_cons (pv 0) (pa_cons (pv 1) pa_nil))) pa_nil))))
  (pss_cons (ps_for PassesOwn.never rfl (pi_list (pv 2)) (pg_name (i := 4) sc__law_told.nd rfl (by first | exact .inl rfl | exact .inr rfl)) (pss_one (ps_expr (pe_bm PySem.F.plainAttrs_list PySem.F.slot_list_append PySem.F.type_list_append mt_append (pv 3) (pa_cons (pe_tup (pa_cons (pe_cal c_where (hr.mono (by decide)) (by rfl) (pa_cons (pv 0) (pa_cons (pv 1) (pa_cons (pv 4) pa_nil)))) (pa_cons (pe_cal c_is_double (hr.mono (by decide)) (by rfl) (pa_cons (pv 0) (pa_cons (pv 1) (pa_cons (pv 4) pa_nil)))) (pa_cons (pe_cal c_open_promises (hr.mono (by decide)) (by rfl) (pa_cons (pv 0) (pa_cons (pv 1) (pa_cons (pv 4) pa_nil)))) pa_nil)))) pa_nil)))))
  (pss_one (ps_ret (pv 3))))), fun ds d hR => ?_⟩)
  obtain ⟨b, t, days, hb, ht, hl, rfl, rfl⟩ := hR
  walk_at "go"
  have r1 : R_track [Book.d b, .str t] (.list ((track b t).map Row.d)) := ⟨b, t, hb, ht, rfl, rfl⟩
  have r2 : R_kind_of [Book.d b, .str t] (ownD (kindOf (pagesOf b.pages t))) := ⟨b, t, hb, ht, rfl, rfl⟩
  refine q_newLA (ds := [.list ((track b t).map Row.d), ownD (kindOf (pagesOf b.pages t))]) (by walk_at "ev") (Nat.le_of_ble_eq_true rfl) fun p => ?_
  refine q_forX (is := anyS) PyData.int days (ei_list (by walk_at "ev")) (fun pre s' => ∃ c4 : Cell, s' = ([.val (Book.d b), .val (.str t), .val (.list (days.map .int)), .ref p, c4], [(p, .lst (tell b t pre))])) ⟨_, rfl⟩ ?_ ?_
  · rintro pre day post _ e ⟨c4, rfl⟩
    refine forI (by walk_at "tg") ?_
    have r3 : R_where [Book.d b, .str t, .int day] (standOf (pagesOf b.pages t) (track b t) day).d := ⟨b, t, day, hb, ht, rfl, rfl⟩
    have r4 : R_is_double [Book.d b, .str t, .int day] (.bool (doubleOf (pagesOf b.pages t) (track b t) day)) := ⟨b, t, day, hb, ht, rfl, rfl⟩
    have r5 : R_open_promises [Book.d b, .str t, .int day] (.list ((openP b t day).map .str)) := ⟨b, t, day, hb, ht, rfl, rfl⟩
    have hpl : pre.length ≤ 1000 := by rw [e, List.length_append] at hl; omega
    refine tr_app (k := 0) (d := dayT b t day) rfl rfl ?_ (by apply Ev.is; walk_at "ev"; rfl) ⟨.val (.int day), ?_⟩
    · show (tell b t pre).length < _
      unfold tell
      rw [List.length_append, List.length_map]
      show 2 + _ < _
      omega
    · unfold tell
      rw [List.map_append, ← List.append_assoc]
      rfl
  · rintro _ ⟨c4, rfl⟩
    exact tr_retL (k := 0) rfl rfl rfl
abbrev N__law_strange_looses : List Str := ["_law_book", "_law_names", "_law_page"]
theorem sc__law_strange_looses : FnScope N__law_strange_looses ["_law_book"] (defScope s__law_strange_looses) := ⟨rfl, rfl, rfl, by decide +kernel, rfl, by decide +kernel, by decide +kernel⟩
def R_strange (ds : List PyData) (d : PyData) : Prop := ∃ b, Book.ok b ∧ ds = [Book.d b] ∧ d = .list (((b.pages.filter (strange b.pages)).map Page.name).map .str)
theorem in_dec {a : Str} {xs : List Str} : inD a (xs.map .str) = decide (a ∈ xs) := by
  rw [inD_strs]
  by_cases h : a ∈ xs
  · rw [decide_eq_true h]
    exact List.any_eq_true.mpr ⟨a, h, decide_eq_true rfl⟩
  · rw [decide_eq_false h]
    exact List.any_eq_false.mpr fun x hx e => h (by rw [← of_decide_eq_true e]; exact hx)
theorem ok__law_strange_looses (T : Tx w K mg) : Cal P w K mg base "_law_strange_looses" ["_law_book"] 1 (spD K R_strange) := by
  refine cal_data T.d__law_strange_looses sc__law_strange_looses (fun _ _ _ _ _ _ us hl => match us, hl with | [_], _ => rfl) (fun ds d ⟨_, _, h1, h2⟩ => by subst h1; rfl) (fun f cdv A outer s H E hr => ⟨_,
    (pss_cons (ps_set (i := 1) sc__law_strange_looses.nd rfl (by first | exact .inl rfl | exact .inr rfl) (pe_lc (own := [("_law_page", 2)]) (g := gName 2) rfl sc__law_strange_looses.nd (pi_tup (pe_ix (r := rIx K) ix_seq (pv 0) pe_int (fun _ _ => rfl))) (blkOk_by (own := [("_law_page", 2)]) (N := N__law_strange_looses) (sc := defScope s__law_strange_looses) (by decide +kernel)) (fun _ _ _ _ _ => (pg_name (i := 2) sc__law_strange_looses.nd rfl (.inl rfl))) (fun _ _ _ _ _ => (pts_one (pt_cmpR (r := rEQ K) (op_EQ hr.units) (pe_ix (r := rIx K) ix_seq (pv 2) pe_int (fun _ _ => rfl)) pe_str (nomark _)))) (fun _ _ _ _ _ => (pe_ix (r := rIx K) ix_seq (pv 2) pe_int (fun _ _ => rfl)))))
  (pss_one (ps_ret (pe_lc (own := [("_law_page", 2)]) (g := gName 2) rfl sc__law_strange_looses.nd (pi_tup (pe_ix (r := rIx K) ix_seq (pv 0) pe_int (fun _ _ => rfl))) (blkOk_by (own := [("_law_page", 2)]) (N := N__law_strange_looses) (sc := defScope s__law_strange_looses) (by decide +kernel)) (fun _ _ _ _ _ => (pg_name (i := 2) sc__law_strange_looses.nd rfl (.inl rfl))) (fun _ _ _ _ _ => (pts_one (PW.pt (pw_and (pt_cmpR (r := rEQ K) (op_EQ hr.units) (pe_ix (r := rIx K) ix_seq (pv 2) pe_int (fun _ _ => rfl)) pe_str (nomark _)) (pw_and1 (pt_cmpR (r := rIN K true) op_NIN (pe_ix (r := rIx K) ix_seq (pv 2) pe_int (fun _ _ => rfl)) (pv 1) rfl)))))) (fun _ _ _ _ _ => (pe_ix (r := rIx K) ix_seq (pv 2) pe_int (fun _ _ => rfl))))))), fun ds d hR => ?_⟩)
  obtain ⟨b, hb, rfl, rfl⟩ := hR
  walk_at "go"
  have hfew := hb.few
  refine q_asg' (P := Eq (.list ((allProms b.pages).map .str))) (Ev.is (ev_lcX Page.d b.pages (by walk_at "ev") isProm (fun p => .str p.name) (by omega) ?_) (by unfold allProms; rw [List.map_map]; rfl)) fun d hd => ?_
  · intro p hp
    cases p <;> walk_at "lc"
  subst hd
  have al := all_isStr (xs := allProms b.pages)
  refine tr_retI (Ev.is (ev_lcX Page.d b.pages (by walk_at "ev") (strange b.pages) (fun p => .str p.name) (by omega) ?_) rfl) (by rw [List.map_map]; rfl)
  intro p hp
  cases p
  case loose n e q =>
    apply lcI
    · walk_at "tg"
    · refine EvT.is (et_andT (a := true) (by apply EvT.is; walk_at "ev"; rfl) rfl (et_testD (ev_op (by walk_at "ev") (by walk_at "ev") (o_inL al)))) ?_
      rw [in_dec]
      rfl
    · intro _
      walk_at "ev"
  all_goals walk_at "lc"
abbrev N__law_balance_right : List Str := ["_law_book", "_law_parts", "_law_rest", "_law_day", "_law_one", "_law_other", "_law_due", "_law_part"]
theorem sc__law_balance_right : FnScope N__law_balance_right ["_law_book", "_law_parts", "_law_rest", "_law_day"] (defScope s__law_balance_right) := ⟨rfl, rfl, rfl, by decide +kernel, rfl, by decide +kernel, by decide +kernel⟩
def R_bal (ds : List PyData) (d : PyData) : Prop := ∃ b parts rest day, Book.ok b ∧ (∀ x, x ∈ parts → Book.ok x) ∧ Book.ok rest ∧ List.length parts ≤ 100 ∧
  (∀ one other, one ∈ b.houses → other ∈ b.houses → one ≠ other → balance b one other day = ((parts ++ [rest]).map fun x => balance x one other day).sum) ∧ ds = [Book.d b, .list (parts.map Book.d), Book.d rest, .int day] ∧ d = .bool true
theorem ok__law_balance_right (T : Tx w K mg) (c_balance : Cal P w K mg base "balance" ["book", "one", "other", "day"] 7 (spD K R_balance)) :
    Cal P w K mg base "_law_balance_right" ["_law_book", "_law_parts", "_law_rest", "_law_day"] 8 (spD K R_bal) := by
  refine cal_data T.d__law_balance_right sc__law_balance_right (fun _ _ _ _ _ _ us hl => match us, hl with | [_, _, _, _], _ => rfl) (fun ds d ⟨_, _, _, _, _, _, _, _, _, h1, h2⟩ => by subst h1; rfl) (fun f cdv A outer s H E hr => ⟨_,
    (pss_cons (ps_for PassesOwn.never rfl (pi_tup (pe_ix (r := rIx K) ix_seq (pv 0) pe_int (fun _ _ => rfl))) (pg_name (i := 4) sc__law_balance_right.nd rfl (by first | exact .inl rfl | exact .inr rfl)) (pss_one (ps_for PassesOwn.never rfl (pi_tup (pe_ix (r := rIx K) ix_seq (pv 0) pe_int (fun _ _ => rfl))) (pg_name (i := 5) sc__law_balance_right.nd rfl (by first | exact .inl rfl | exact .inr rfl)) (pss_one (ps_if (pt_cmpR (r := rNE K) (op_NE hr.units) (pv 4) (pv 5) (nomark _)) (pss_cons (ps_set (i := 6) sc__law_balance_right.nd rfl (by first | exact .inl rfl | exact .inr rfl) (pe_callB (r := rSum K) (cr_sum rfl) (by rfl) T.sum (by decide +kernel) (pa_cons (pe_lc (own := [("_law_part", 7)]) (g := gName 7) rfl sc__law_balance_right.nd (pi_list (pe_op op_ADD (pv 1) (pe_lst (pa_cons (pv 2) pa_nil)))) (blkOk_by (own := [("_law_part", 7)]) (N := N__law_balance_right) (sc := defScope s__law_balance_right) (by decide +kernel)) (fun _ _ _ _ _ => (pg_name (i := 7) sc__law_balance_right.nd rfl (.inl rfl))) (fun _ _ _ _ _ => pts_nil) (fun _ _ _ _ _ => (pe_cal c_balance (hr.mono (by decide)) (by rfl) (pa_cons (pv 7) (pa_cons (pv 4) (pa_cons (pv 5) (pa_cons (pv 3) pa_nil))))))) pa_nil)))
  (pss_one (ps_if (PW.pt (pw_or (pt_cmpR (r := rNE K) (op_NE hr.units) (pe_cal c_balance (hr.mono (by decide)) (by rfl) (pa_cons (pv 0) (pa_cons (pv 4) (pa_cons (pv 5) (pa_cons (pv 3) pa_nil))))) (pv 6) (nomark _)) (pw_or1 (pt_cmpR (r := rNE K) (op_NE hr.units) (pe_cal c_balance (hr.mono (by decide)) (by rfl) (pa_cons (pv 0) (pa_cons (pv 5) (pa_cons (pv 4) (pa_cons (pv 3) pa_nil))))) (pe_op op_SUB pe_int (pv 6)) (nomark _))))) (pss_one (ps_ret pe_bl)) pss_nil))) pss_nil)))))
  (pss_one (ps_ret pe_bl))), fun ds d hR => ?_⟩)
  obtain ⟨b, parts, rest, day, hb, hps, hrest, hpl, hsum, rfl, rfl⟩ := hR
  walk_at "go"
  refine q_forX (is := anyS) PyData.str b.houses (ei_tup (by walk_at "ev")) (fun _ s' => ∃ c4 c5 c6 c7 : Cell, s' = ([.val (Book.d b), .val (.list (parts.map Book.d)), .val (Book.d rest), .val (.int day), c4, c5, c6, c7], [])) ⟨_, _, _, _, rfl⟩ ?_ ?_
  · rintro pre one post _ e1 ⟨c4, c5, c6, c7, rfl⟩
    have hone : one ∈ b.houses := by rw [e1]; simp
    refine forI (by walk_at "tg") ?_
    apply tr_one
    refine q_forX (is := anyS) PyData.str b.houses (ei_tup (by walk_at "ev")) (fun _ s' => ∃ c5 c6 c7 : Cell, s' = ([.val (Book.d b), .val (.list (parts.map Book.d)), .val (Book.d rest), .val (.int day), .val (.str one), c5, c6, c7], [])) ⟨_, _, _, rfl⟩ ?_ ?_
    · rintro pre2 other post2 _ e2 ⟨c5, c6, c7, rfl⟩
      have hother : other ∈ b.houses := by rw [e2]; simp
      refine forI (by walk_at "tg") ?_
      refine tr_if (b := !decide (one = other)) (by walk_at "ev") (fun hne => ?_) fun _ => tr_next ⟨_, _, _, rfl⟩
      have hne : one ≠ other := by simpa using hne
      have hS := hsum one other hone hother hne
      generalize hdue : ((parts ++ [rest]).map fun x => balance x one other day).sum = due at hS
      have hl2 : (parts.map Book.d).length + [Book.d rest].length ≤ 100000 := by rw [List.length_map]; show _ + 1 ≤ _; omega
      refine q_asg (d := .int due) (Ev.is (ev_cb (ea_cons (Ev.is (ev_lcY Book.d (parts ++ [rest]) (ei_list (Ev.is (ev_op (by walk_at "ev") (by walk_at "ev") (o_addL hl2)) (by rw [List.map_append]; rfl))) (fun x => .int (balance x one other day)) (by rw [List.length_append]; show _ + 1 ≤ _; omega) ?_) ?_) ea_nil) (n_sum (is := (parts ++ [rest]).map fun x => balance x one other day))) (by rw [hdue])) ?_
      · intro x hx
        have hxo : Book.ok x := by
          rcases List.mem_append.mp hx with h | h
          · exact hps x h
          · rw [List.mem_singleton.mp h]; exact hrest
        have rb : R_balance [Book.d x, .str one, .str other, .int day] (.int (balance x one other day)) := ⟨x, one, other, day, hxo, rfl, rfl⟩
        apply lcI
        · walk_at "tg"
        · walk_at "ev"
        · intro _
          walk_at "ev"
      · rw [List.map_map]
        rfl
      have r1 : R_balance [Book.d b, .str one, .str other, .int day] (.int due) := ⟨b, one, other, day, hb, rfl, by rw [hS]⟩
      have r2 : R_balance [Book.d b, .str other, .str one, .int day] (.int (0 - due)) := ⟨b, other, one, day, hb, rfl, by rw [balance_anti, hS]⟩
      have f1 : (!decide (due = due)) = false := by simp
      have f2 : (!decide (0 - due = 0 - due)) = false := by simp
      refine tr_if (b := false) (et_orF (a := false) (by rw [← f1]; walk_at "ev") rfl (by rw [← f2]; walk_at "ev")) (fun z => nomatch z) fun _ => tr_next ⟨_, _, _, rfl⟩
    · rintro _ ⟨c5, c6, c7, rfl⟩
      exact tr_next ⟨_, _, _, _, rfl⟩
  · rintro _ ⟨c4, c5, c6, c7, rfl⟩
    exact tr_retI (by walk_at "ev") rfl
end
end K92
end
section -- K92F20
set_option maxRecDepth 100000
set_option maxHeartbeats 1000000
namespace K92
open PySem PySem.Spec PyProof.Rows L2
local macro_rules | `(tactic| walk_at "dc") => `(tactic| first | decide +kernel | with_reducible rfl)
local macro_rules | `(tactic| walk_at "bb") => `(tactic| first | exact Eq.trans (b := true) (by decide +kernel) rfl | exact Eq.trans (b := false) (by decide +kernel) rfl)
local macro_rules | `(tactic| walk_at "go") => `(tactic| dsimp only [cxOf, Cx.nox, startC, List.map_cons, List.map_nil, List.length_cons, List.length_nil])
local macro_rules | `(tactic| walk_at "at") => `(tactic| first | with_reducible exact at_if | with_reducible exact at0 _ _ | with_reducible exact at1 _ _ _ | with_reducible exact at2 _ _ _ _ | rfl | exact at_word _ | exact at_name _ | exact at_day _)
local macro_rules | `(tactic| walk_at "op") => `(tactic| first
  | ((with_reducible apply o_ixT); walk_at "at")
  | ((with_reducible apply o_ixL); walk_at "at")
  | with_reducible exact o_eqS
  | with_reducible exact o_eqI
  | with_reducible exact o_neS
  | with_reducible exact o_neI
  | with_reducible exact o_le
  | with_reducible exact o_lt
  | with_reducible exact o_addI
  | with_reducible exact o_sub
  | ((with_reducible apply o_inT); first | assumption | rfl)
  | ((with_reducible apply o_inL); first | assumption | rfl)
  | with_reducible exact o_inS
  | with_reducible exact o_neNS
  | ((with_reducible apply o_neD); assumption; assumption)
  | ((with_reducible apply o_eqD); assumption; assumption))
local macro_rules | `(tactic| walk_at "tg") => `(tactic| first
  | ((with_reducible apply tg_name); decide)
  | ((with_reducible apply tg_tupW); (walk_at "tg"); rfl)
  | with_reducible exact tgs_nil
  | ((with_reducible apply tgs_cons); (walk_at "tg"); (walk_at "tg")))
local macro_rules | `(tactic| walk_at "lc") => `(tactic| ((apply lcI); (walk_at "tg"); (apply EvT.is); (walk_at "ev"); rfl; (intro _); (apply Ev.is); (walk_at "ev"); rfl))
local macro_rules | `(tactic| walk_at "ev") => `(tactic| first
  | ((with_reducible apply ev_var); rfl)
  | with_reducible exact ev_str
  | with_reducible exact ev_int
  | with_reducible exact ev_bl
  | with_reducible exact ev_non
  | with_reducible exact ev_c (by assumption)
  | with_reducible exact ea_nil
  | ((with_reducible apply ev_op); (walk_at "ev"); (walk_at "ev"); (walk_at "op"))
  | ((with_reducible apply ea_cons); (walk_at "ev"); (walk_at "ev"))
  | ((with_reducible apply ev_tupW); (walk_at "ev"); exact Nat.le_of_ble_eq_true rfl)
  | ((with_reducible apply ev_lstW); (walk_at "ev"); exact Nat.le_of_ble_eq_true rfl)
  | ((with_reducible apply et_testD); walk_at "ev")
  | ((with_reducible apply et_B); walk_at "ev")
  | ((with_reducible apply et_not); walk_at "ev")
  | ((with_reducible apply et_andF); (walk_at "ev"); (walk_at "dc"))
  | ((with_reducible apply et_andT); (walk_at "ev"); (walk_at "dc"); (walk_at "ev"))
  | ((with_reducible apply et_and); (walk_at "ev"); intro _; (walk_at "ev"))
  | ((with_reducible apply et_orT); (walk_at "ev"); (walk_at "dc"))
  | ((with_reducible apply et_orF); (walk_at "ev"); (walk_at "dc"); (walk_at "ev"))
  | ((with_reducible apply et_or); (walk_at "ev"); intro _; (walk_at "ev"))
  | ((with_reducible apply ev_andVF); (walk_at "ev"); (walk_at "dc"))
  | ((with_reducible apply ev_andVT); (walk_at "ev"); (walk_at "dc"); (walk_at "ev"))
  | ((with_reducible apply ev_orVT); (walk_at "ev"); (walk_at "dc"))
  | ((with_reducible apply ev_orVF); (walk_at "ev"); (walk_at "dc"); (walk_at "ev"))
  | ((with_reducible apply ev_andV); (walk_at "ev"); intro _; (walk_at "ev"))
  | ((with_reducible apply ev_orV); (walk_at "ev"); intro _; (walk_at "ev"))
  | ((with_reducible apply ev_notV); walk_at "ev")
  | ((with_reducible apply ev_neg); (walk_at "ev"))
  | ((with_reducible apply ev_isNE); (walk_at "ev"))
  | ((with_reducible apply ev_notN); (walk_at "ev"))
  | with_reducible exact lc_T
  | with_reducible exact eo_none
  | ((with_reducible apply eo_some); (walk_at "ev"))
  | ((with_reducible apply ev_slT); (walk_at "ev"); (walk_at "ev"); (walk_at "ev"); (exact fun h => Nat.ne_of_beq_eq_false rfl h.2); first | exact cut2 | exact cut3 | rfl)
  | ((with_reducible apply ev_slL); (walk_at "ev"); (walk_at "ev"); (walk_at "ev"); rfl)
  | ((with_reducible apply ev_kd); (walk_at "ev"); assumption; assumption)
  | ((with_reducible apply ev_call); (walk_at "ev"); assumption)
  | ((with_reducible apply ev_cb); (walk_at "ev"); (walk_at "cb"))
  | ((with_reducible apply ev_isi); (walk_at "ev"); (walk_at "dc"))
  | ((with_reducible apply ev_lcM); (walk_at "ev"); (exact Nat.le_of_ble_eq_true rfl); (walk_at "pd"))
  | ((with_reducible apply ei_list); (walk_at "ev"))
  | ((with_reducible apply ei_tup); (walk_at "ev"))
  | ((with_reducible apply ei_zip); (walk_at "ev"); assumption))
local macro_rules | `(tactic| walk_at "pd") => `(tactic| first | exact Paired.nil | ((apply Paired.cons); (walk_at "lc"); (walk_at "pd")))
local macro_rules | `(tactic| walk_at "cb") => `(tactic| first
  | with_reducible exact n_lenL
  | with_reducible exact n_lenT
  | ((with_reducible apply n_lenS); assumption)
  | with_reducible exact n_intB
  | with_reducible exact n_abs
  | with_reducible exact n_min
  | with_reducible exact n_tupL
  | with_reducible exact n_lisT
  | with_reducible exact n_lisL)
local macro_rules | `(tactic| walk_at "tr") => `(tactic| first
  | ((with_reducible apply q_retF); (walk_at "ev"); (walk_at "dc"))
  | ((with_reducible apply q_retT); (walk_at "ev"); (walk_at "dc"))
  | ((with_reducible apply q_retB); (walk_at "ev"))
  | ((with_reducible apply tr_retI); (walk_at "ev"))
  | ((with_reducible apply q_par); (walk_at "ev"))
  | ((with_reducible apply q_par3); (walk_at "ev"))
  | ((with_reducible apply q_newL); intro _)
  | ((with_reducible apply q_newD); intro _)
  | ((with_reducible apply q_asgA); (walk_at "ev"); (walk_at "tg")))
local macro_rules | `(tactic| walk_at "if") => `(tactic| first
  | ((with_reducible apply q_app (k := 0)); rfl; rfl; assumption; (walk_at "ev"))
  | with_reducible apply q_as
  | with_reducible apply q_nx
  | ((with_reducible apply q_par); (walk_at "ev"))
  | ((with_reducible apply q_par3); (walk_at "ev"))
  | ((with_reducible apply q_iF); (walk_at "ev"); (walk_at "dc"))
  | ((with_reducible apply q_iT); (walk_at "ev"); (walk_at "dc"))
  | ((with_reducible apply q_i); (walk_at "ev"))
  | ((with_reducible apply q_rt); (walk_at "ev"))
  | ((with_reducible apply q_asgA); (walk_at "ev"); (walk_at "tg")))


theorem cutD_to {ds : List PyData} {n : Nat} : cutD ds none (some (n : Int)) = ds.take n := by
  unfold cutD
  rw [HT.sIx_none, HT.sIx_nat, List.drop_zero, Nat.sub_zero]
  rcases Nat.le_total n ds.length with h | h
  · rw [Nat.min_eq_left h]
  · rw [Nat.min_eq_right h, List.take_of_length_le (Nat.le_refl _), List.take_of_length_le h]
theorem cutD_mid {ds : List PyData} {a b : Nat} (hb : b ≤ ds.length) (hab : a ≤ b) : cutD ds (some (a : Int)) (some (b : Int)) = (ds.drop a).take (b - a) := by
  unfold cutD
  rw [HT.sIx_nat, HT.sIx_nat, Nat.min_eq_left hb, Nat.min_eq_left (Nat.le_trans hab hb)]
section
variable {P : Program} {w : World} {K : PySem.W.Frag} {mg : Str → Option Value} {base : Heap}
theorem ev_slLd {C : Ctx} {ρ : List Cell} {te th : TE} {ds : List PyData} {PX : Int → Prop} (h : Ev C K te ρ (Eq (.list ds))) (hh : Ev C K th ρ (fun d => ∃ x : Int, PX x ∧ d = .int x)) :
    Ev C K (tSl (rSL K) te tNoPart (tPart th)) ρ (fun d => ∃ x : Int, PX x ∧ d = .list (cutD ds none (some x))) := fun σ B H e o Q q =>
  h σ B H e o _ fun d v B1 H1 p g r => by
    subst p
    refine hh σ B1 H1 (e.mono g.bb) g.on _ fun d2 u B2 H2 ⟨x, hx, e2⟩ g2 r2 => ?_
    subst e2
    cases r2
    cases r with
    | lst hs ha =>
      refine ⟨x, rfl, .inl ⟨_, _, rfl, SqL.of (g2.on.ex _ _ (g2.bb _ _ hs)), fun p hp => ?_⟩⟩
      exact q _ _ _ _ ⟨x, hx, rfl⟩ ((g.trans g2).trans (Gr.new g2.on (.lst (cutV _ none (some x))) hp)) (.lst upd_same ((rp_cut ha).mono (g2.bb.trans (Gr.new g2.on (.lst (cutV _ none (some x))) hp).bb)))
/-- some distinct words -/
structure Wds (lo hi : Nat) (ws : List Str) : Prop where
  lo : lo ≤ ws.length
  hi : ws.length ≤ hi
  words : ∀ x, x ∈ ws → isWord x
  nd : ws.Nodup
theorem ev_words {pen scr : Addr} {is : List Int} {ρ : List Cell} {te : TE} {lo hi : Int} {n1 n2 i : Nat} {E : XK} (hi' : ρ[i]? = some (.ref pen)) (h0 : 0 ≤ lo) (h1 : hi ≤ 26) (e1 : (n1 : Int) = lo) (e2 : (n2 : Int) = hi) (ht : Ev (CP K pen scr is) K te ρ (fun d => ∃ x : Int, (lo ≤ x ∧ x ≤ hi) ∧ d = .int x)) :
    Ev (CP K pen scr is) K (tCall (spP K Pre_words R_words) [] E (tCons (tVar i) (tCons te tNil))) ρ (fun d => ∃ ws, Wds n1 n2 ws ∧ d = .list (ws.map .str)) :=
  ev_callP hi' (PA := fun ds => ∃ x : Int, (lo ≤ x ∧ x ≤ hi) ∧ ds = [.int x]) (ea_cons' (PA := Eq []) ht (fun _ _ => ea_nil) fun d ds ⟨x, hx, e⟩ e' => by subst e; subst e'; exact ⟨x, hx, rfl⟩) fun ds ⟨x, hx, e⟩ => by
    subst e
    refine ⟨⟨x, by omega, by omega, rfl⟩, fun d ⟨m, ws, e3, e4, h5, h6, h7⟩ => ?_⟩
    injection e3 with e3 _
    injection e3 with e3
    exact ⟨ws, ⟨by omega, by omega, h5, h6⟩, h7⟩
abbrev N__law_sorts : List Str := ["_law_pen", "_law_some", "_law_houses"]
theorem sc__law_sorts : FnScope N__law_sorts ["_law_pen"] (defScope s__law_sorts) := ⟨rfl, rfl, rfl, by decide +kernel, rfl, by decide +kernel, by decide +kernel⟩
def R_sorts (ds : List PyData) (d : PyData) : Prop := ∃ hs ts ks : List Str, Wds 2 4 hs ∧ Wds 1 4 ts ∧ Wds 1 3 ks ∧ d = .tuple [.list (hs.map .str), .list (ts.map .str), .list (ks.map .str)]
theorem ok__law_sorts (T : Tx w K mg) (c__law_draw : Cal P w K mg base "_law_draw" ["_law_pen", "_law_many"] 1 (spP K Pre_draw R_draw)) (c__law_words : Cal P w K mg base "_law_words" ["_law_pen", "_law_many"] 2 (spP K Pre_words R_words)) :
    Cal P w K mg base "_law_sorts" ["_law_pen"] 3 (spP K (fun ds => ds = []) R_sorts) := by
  refine cal_pen T.d__law_sorts sc__law_sorts (fun _ _ _ _ _ _ us hl => match us, hl with | [_], _ => rfl) (fun ds h1 => by subst h1; rfl) (fun f cdv A outer s H E hr => ⟨_,
    (pss_cons (ps_set (i := 1) sc__law_sorts.nd rfl (by first | exact .inl rfl | exact .inr rfl) (pe_cal c__law_words (hr.mono (by decide)) (by rfl) (pa_cons (pv 0) (pa_cons pe_int pa_nil))))
  (pss_cons (ps_set (i := 2) sc__law_sorts.nd rfl (by first | exact .inl rfl | exact .inr rfl) (pe_slice (r := rSL K) sl_SL (pv 1) po_none (po_some (pe_op op_ADD pe_int (pe_cal c__law_draw (hr.mono (by decide)) (by rfl) (pa_cons (pv 0) (pa_cons pe_int pa_nil)))))))
  (pss_cons (ps_if (pt_cmpR (r := rEQ K) (op_EQ hr.units) (pe_cal c__law_draw (hr.mono (by decide)) (by rfl) (pa_cons (pv 0) (pa_cons pe_int pa_nil))) pe_int (nomark _)) (pss_one (ps_ret (pe_tup (pa_cons (pv 2) (pa_cons (pe_slice (r := rSL K) sl_SL (pv 1) po_none (po_some pe_int)) (pa_cons (pe_slice (r := rSL K) sl_SL (pv 1) (po_some pe_int) (po_some pe_int)) pa_nil)))))) pss_nil)
  (pss_one (ps_ret (pe_tup (pa_cons (pv 2) (pa_cons (pe_cal c__law_words (hr.mono (by decide)) (by rfl) (pa_cons (pv 0) (pa_cons (pe_op op_ADD pe_int (pe_cal c__law_draw (hr.mono (by decide)) (by rfl) (pa_cons (pv 0) (pa_cons pe_int pa_nil)))) pa_nil))) (pa_cons (pe_cal c__law_words (hr.mono (by decide)) (by rfl) (pa_cons (pv 0) (pa_cons (pe_op op_ADD pe_int (pe_cal c__law_draw (hr.mono (by decide)) (by rfl) (pa_cons (pv 0) (pa_cons pe_int pa_nil)))) pa_nil))) pa_nil))))))))), fun pen scr is ds hR => ?_⟩)
  subst hR
  walk_at "go"
  have hsub : ∀ {ws us : List Str} {a b : Nat}, us.Sublist ws → Wds 6 6 ws → a ≤ us.length → us.length ≤ b → Wds a b us := fun hs hw h1 h2 => ⟨h1, h2, fun x hx => hw.words x (hs.subset hx), hs.nodup hw.nd⟩
  refine q_asg' (ev_words (lo := 6) (hi := 6) (n1 := 6) (n2 := 6) rfl (by decide) (by decide) rfl rfl (ev_int.imp fun d e => ⟨6, ⟨by decide, by decide⟩, e.symm⟩)) ?_
  rintro _ ⟨ws, hw, rfl⟩
  have hl6 : ws.length = 6 := Nat.le_antisymm hw.hi hw.lo
  refine q_asg' (P := fun d => ∃ hs, Wds 2 4 hs ∧ d = .list (hs.map .str)) ((ev_slLd (PX := fun x => 2 ≤ x ∧ x ≤ 4) (by walk_at "ev") (ev_op' (P1 := Eq (.int 2)) (by walk_at "ev") (fun _ _ => ev_draw rfl (by walk_at "ev") (by decide) (by decide)) ?_)).imp ?_) ?_
  · rintro _ _ rfl ⟨x, hx, rfl⟩
    exact op_imp o_addI fun d e => ⟨2 + x, ⟨by omega, by omega⟩, e.symm⟩
  · rintro _ ⟨x, hx, rfl⟩
    obtain ⟨n, rfl⟩ : ∃ n : Nat, x = n := ⟨x.toNat, by omega⟩
    refine ⟨ws.take n, hsub (List.take_sublist ..) hw (by rw [List.length_take]; omega) (by rw [List.length_take]; omega), ?_⟩
    rw [cutD_to, List.map_take]
  rintro _ ⟨hs, hhs, rfl⟩
  refine q_ret' (PB := fun _ => True) (et_any (ev_op' (P2 := Eq (.int 0)) (ev_draw rfl (by walk_at "ev") (by decide) (by decide)) (fun _ _ => by walk_at "ev") ?_)) (fun _ => ?_) fun _ => ?_
  · rintro _ _ ⟨x, hx, rfl⟩ rfl
    exact op_imp o_eqI fun d e => ⟨_, e.symm⟩
  · have e1 : cutD (ws.map PyData.str) none (some 4) = (ws.take 4).map .str := by
      rw [List.map_take]
      exact cutD_to (n := 4)
    have e2 : cutD (ws.map PyData.str) (some 2) (some 5) = ((ws.drop 2).take 3).map .str := by
      rw [List.map_take, List.map_drop]
      exact cutD_mid (a := 2) (b := 5) (by rw [List.length_map]; omega) (by decide)
    refine tr_retI (ev_tup (ea_cons (by walk_at "ev") (ea_cons (ev_slL (by walk_at "ev") eo_none (eo_some (by walk_at "ev")) e1) (ea_cons (ev_slL (by walk_at "ev") (eo_some (by walk_at "ev")) (eo_some (by walk_at "ev")) e2) ea_nil)))) ⟨hs, ws.take 4, (ws.drop 2).take 3, hhs, ?_, ?_, rfl⟩
    · exact hsub (List.take_sublist ..) hw (by rw [List.length_take]; omega) (by rw [List.length_take]; omega)
    · exact hsub ((List.take_sublist ..).trans (List.drop_sublist ..)) hw (by rw [List.length_take, List.length_drop]; omega) (by rw [List.length_take, List.length_drop]; omega)
  · refine tr_ret ((ev_tup' (PA := fun ds => ∃ ts ks : List Str, Wds 1 4 ts ∧ Wds 1 3 ks ∧ ds = [.list (hs.map .str), .list (ts.map .str), .list (ks.map .str)]) (P := fun d => ∃ ts ks : List Str, Wds 1 4 ts ∧ Wds 1 3 ks ∧ d = .tuple [.list (hs.map .str), .list (ts.map .str), .list (ks.map .str)])
      (ea_cons' (P := Eq (.list (hs.map .str))) (PA := fun ds => ∃ ts ks : List Str, Wds 1 4 ts ∧ Wds 1 3 ks ∧ ds = [.list (ts.map .str), .list (ks.map .str)]) (by walk_at "ev") (fun _ _ =>
        ea_cons' (P := fun d => ∃ ts, Wds 1 4 ts ∧ d = .list (ts.map .str)) (PA := fun ds => ∃ ks, Wds 1 3 ks ∧ ds = [.list (ks.map .str)]) (ev_words (lo := 1) (hi := 4) rfl (by decide) (by decide) rfl rfl (ev_op' (P1 := Eq (.int 1)) (by walk_at "ev") (fun _ _ => ev_draw rfl (by walk_at "ev") (by decide) (by decide)) ?_)) (fun _ _ =>
          ea_cons' (P := fun d => ∃ ks, Wds 1 3 ks ∧ d = .list (ks.map .str)) (PA := Eq []) (ev_words (lo := 1) (hi := 3) rfl (by decide) (by decide) rfl rfl (ev_op' (P1 := Eq (.int 1)) (by walk_at "ev") (fun _ _ => ev_draw rfl (by walk_at "ev") (by decide) (by decide)) ?_)) (fun _ _ => ea_nil) ?_) ?_) ?_) ?_ ?_).imp ?_)
    · rintro _ _ rfl ⟨x, hx, rfl⟩
      exact op_imp o_addI fun d e => ⟨1 + x, ⟨by omega, by omega⟩, e.symm⟩
    · rintro _ _ rfl ⟨x, hx, rfl⟩
      exact op_imp o_addI fun d e => ⟨1 + x, ⟨by omega, by omega⟩, e.symm⟩
    · rintro _ _ ⟨ks, hk, rfl⟩ rfl
      exact ⟨ks, hk, rfl⟩
    · rintro _ _ ⟨ts, ht, rfl⟩ ⟨ks, hk, rfl⟩
      exact ⟨ts, ks, ht, hk, rfl⟩
    · rintro _ _ rfl ⟨ts, ks, ht, hk, rfl⟩
      exact ⟨ts, ks, ht, hk, rfl⟩
    · rintro _ ⟨ts, ks, ht, hk, rfl⟩
      exact Nat.le_of_ble_eq_true rfl
    · rintro _ ⟨ts, ks, ht, hk, rfl⟩
      exact ⟨ts, ks, ht, hk, rfl⟩
    · rintro _ ⟨ts, ks, ht, hk, rfl⟩
      exact ⟨hs, ts, ks, hhs, ht, hk, rfl⟩
end
end K92
end
section -- K92F21
set_option maxRecDepth 100000
set_option maxHeartbeats 10000000
namespace K92
open PySem PySem.Spec PyProof.Rows L2
local macro_rules | `(tactic| walk_at "dc") => `(tactic| first | decide +kernel | with_reducible rfl)
local macro_rules | `(tactic| walk_at "bb") => `(tactic| first | exact Eq.trans (b := true) (by decide +kernel) rfl | exact Eq.trans (b := false) (by decide +kernel) rfl)
local macro_rules | `(tactic| walk_at "go") => `(tactic| dsimp only [cxOf, Cx.nox, startC, List.map_cons, List.map_nil, List.length_cons, List.length_nil])
local macro_rules | `(tactic| walk_at "at") => `(tactic| first | with_reducible exact at_if | with_reducible exact at0 _ _ | with_reducible exact at1 _ _ _ | with_reducible exact at2 _ _ _ _ | rfl | exact at_word _ | exact at_name _ | exact at_day _)
local macro_rules | `(tactic| walk_at "op") => `(tactic| first
  | ((with_reducible apply o_ixT); walk_at "at")
  | ((with_reducible apply o_ixL); walk_at "at")
  | with_reducible exact o_eqS
  | with_reducible exact o_eqI
  | with_reducible exact o_neS
  | with_reducible exact o_neI
  | with_reducible exact o_le
  | with_reducible exact o_lt
  | with_reducible exact o_addI
  | with_reducible exact o_sub
  | ((with_reducible apply o_inT); first | assumption | rfl)
  | ((with_reducible apply o_inL); first | assumption | rfl)
  | with_reducible exact o_inS
  | with_reducible exact o_neNS
  | ((with_reducible apply o_neD); assumption; assumption)
  | ((with_reducible apply o_eqD); assumption; assumption))
local macro_rules | `(tactic| walk_at "tg") => `(tactic| first
  | ((with_reducible apply tg_name); decide)
  | ((with_reducible apply tg_tupW); (walk_at "tg"); rfl)
  | with_reducible exact tgs_nil
  | ((with_reducible apply tgs_cons); (walk_at "tg"); (walk_at "tg")))
local macro_rules | `(tactic| walk_at "lc") => `(tactic| ((apply lcI); (walk_at "tg"); (apply EvT.is); (walk_at "ev"); rfl; (intro _); (apply Ev.is); (walk_at "ev"); rfl))
local macro_rules | `(tactic| walk_at "ev") => `(tactic| first
  | ((with_reducible apply ev_var); rfl)
  | with_reducible exact ev_str
  | with_reducible exact ev_int
  | with_reducible exact ev_bl
  | with_reducible exact ev_non
  | with_reducible exact ev_c (by assumption)
  | with_reducible exact ea_nil
  | ((with_reducible apply ev_op); (walk_at "ev"); (walk_at "ev"); (walk_at "op"))
  | ((with_reducible apply ea_cons); (walk_at "ev"); (walk_at "ev"))
  | ((with_reducible apply ev_tupW); (walk_at "ev"); exact Nat.le_of_ble_eq_true rfl)
  | ((with_reducible apply ev_lstW); (walk_at "ev"); exact Nat.le_of_ble_eq_true rfl)
  | ((with_reducible apply et_testD); walk_at "ev")
  | ((with_reducible apply et_B); walk_at "ev")
  | ((with_reducible apply et_not); walk_at "ev")
  | ((with_reducible apply et_andF); (walk_at "ev"); (walk_at "dc"))
  | ((with_reducible apply et_andT); (walk_at "ev"); (walk_at "dc"); (walk_at "ev"))
  | ((with_reducible apply et_and); (walk_at "ev"); intro _; (walk_at "ev"))
  | ((with_reducible apply et_orT); (walk_at "ev"); (walk_at "dc"))
  | ((with_reducible apply et_orF); (walk_at "ev"); (walk_at "dc"); (walk_at "ev"))
  | ((with_reducible apply et_or); (walk_at "ev"); intro _; (walk_at "ev"))
  | ((with_reducible apply ev_andVF); (walk_at "ev"); (walk_at "dc"))
  | ((with_reducible apply ev_andVT); (walk_at "ev"); (walk_at "dc"); (walk_at "ev"))
  | ((with_reducible apply ev_orVT); (walk_at "ev"); (walk_at "dc"))
  | ((with_reducible apply ev_orVF); (walk_at "ev"); (walk_at "dc"); (walk_at "ev"))
  | ((with_reducible apply ev_andV); (walk_at "ev"); intro _; (walk_at "ev"))
  | ((with_reducible apply ev_orV); (walk_at "ev"); intro _; (walk_at "ev"))
  | ((with_reducible apply ev_notV); walk_at "ev")
  | ((with_reducible apply ev_neg); (walk_at "ev"))
  | ((with_reducible apply ev_isNE); (walk_at "ev"))
  | ((with_reducible apply ev_notN); (walk_at "ev"))
  | with_reducible exact lc_T
  | with_reducible exact eo_none
  | ((with_reducible apply eo_some); (walk_at "ev"))
  | ((with_reducible apply ev_slT); (walk_at "ev"); (walk_at "ev"); (walk_at "ev"); (exact fun h => Nat.ne_of_beq_eq_false rfl h.2); first | exact cut2 | exact cut3 | rfl)
  | ((with_reducible apply ev_slL); (walk_at "ev"); (walk_at "ev"); (walk_at "ev"); rfl)
  | ((with_reducible apply ev_kd); (walk_at "ev"); assumption; assumption)
  | ((with_reducible apply ev_call); (walk_at "ev"); assumption)
  | ((with_reducible apply ev_cb); (walk_at "ev"); (walk_at "cb"))
  | ((with_reducible apply ev_isi); (walk_at "ev"); (walk_at "dc"))
  | ((with_reducible apply ev_lcM); (walk_at "ev"); (exact Nat.le_of_ble_eq_true rfl); (walk_at "pd"))
  | ((with_reducible apply ei_list); (walk_at "ev"))
  | ((with_reducible apply ei_tup); (walk_at "ev"))
  | ((with_reducible apply ei_zip); (walk_at "ev"); assumption))
local macro_rules | `(tactic| walk_at "pd") => `(tactic| first | exact Paired.nil | ((apply Paired.cons); (walk_at "lc"); (walk_at "pd")))
local macro_rules | `(tactic| walk_at "cb") => `(tactic| first
  | with_reducible exact n_lenL
  | with_reducible exact n_lenT
  | ((with_reducible apply n_lenS); assumption)
  | with_reducible exact n_intB
  | with_reducible exact n_abs
  | with_reducible exact n_min
  | with_reducible exact n_tupL
  | with_reducible exact n_lisT
  | with_reducible exact n_lisL)
local macro_rules | `(tactic| walk_at "tr") => `(tactic| first
  | ((with_reducible apply q_retF); (walk_at "ev"); (walk_at "dc"))
  | ((with_reducible apply q_retT); (walk_at "ev"); (walk_at "dc"))
  | ((with_reducible apply q_retB); (walk_at "ev"))
  | ((with_reducible apply tr_retI); (walk_at "ev"))
  | ((with_reducible apply q_par); (walk_at "ev"))
  | ((with_reducible apply q_par3); (walk_at "ev"))
  | ((with_reducible apply q_newL); intro _)
  | ((with_reducible apply q_newD); intro _)
  | ((with_reducible apply q_asgA); (walk_at "ev"); (walk_at "tg")))
local macro_rules | `(tactic| walk_at "if") => `(tactic| first
  | ((with_reducible apply q_app (k := 0)); rfl; rfl; assumption; (walk_at "ev"))
  | with_reducible apply q_as
  | with_reducible apply q_nx
  | ((with_reducible apply q_par); (walk_at "ev"))
  | ((with_reducible apply q_par3); (walk_at "ev"))
  | ((with_reducible apply q_iF); (walk_at "ev"); (walk_at "dc"))
  | ((with_reducible apply q_iT); (walk_at "ev"); (walk_at "dc"))
  | ((with_reducible apply q_i); (walk_at "ev"))
  | ((with_reducible apply q_rt); (walk_at "ev"))
  | ((with_reducible apply q_asgA); (walk_at "ev"); (walk_at "tg")))


/-! ### good pages -/
theorem fz_nil {α β : Type} {Q : α × β → Prop} : ∀ q, q ∈ ([] : List α).zip ([] : List β) → Q q := fun q h => by cases h
theorem fz_cons {α β : Type} {Q : α × β → Prop} {a : α} {b : β} {as : List α} {bs : List β} (h : Q (a, b)) (t : ∀ q, q ∈ as.zip bs → Q q) : ∀ q, q ∈ (a :: as).zip (b :: bs) → Q q := fun q m => by
  rw [List.zip_cons_cons] at m
  rcases List.mem_cons.mp m with e | m
  · rw [e]; exact h
  · exact t q m
theorem pw' {s : Str} (h : isWord s) : partOk (.str ⟨#[119]⟩) (.str s) := by rw [chr_w]; exact .w h
theorem pd' {i : Int} (h0 : 0 ≤ i) (h1 : i ≤ 999) : partOk (.str ⟨#[100]⟩) (.int i) := by rw [chr_d]; exact .d ⟨h0, h1⟩
theorem pt' {i : Int} (h0 : 0 ≤ i) (h1 : i ≤ 9) : partOk (.str ⟨#[116]⟩) (.int i) := by rw [chr_t]; exact .t ⟨h0, h1⟩
theorem pg' {i : Int} (h0 : 0 ≤ i) (h1 : i ≤ 9) : partOk (.str ⟨#[103]⟩) (.int i) := by rw [chr_g]; exact .g ⟨h0, h1⟩
theorem pm' {i : Int} (h0 : 0 ≤ i) (h1 : i ≤ 1000000000) : partOk (.str ⟨#[109]⟩) (.int i) := by rw [chr_m]; exact .m ⟨h0, h1⟩
theorem pp' {i : Int} (h0 : 1 ≤ i) (h1 : i ≤ 1000000000) : partOk (.str ⟨#[112]⟩) (.int i) := by rw [chr_p]; exact .p ⟨h0, h1⟩
section
variable {n t k h a b q : Str} {e y m u g : Int}
theorem good_of {p : Page} (h1 : ∀ q, q ∈ (p.form.cps.toList.map fun c => PyData.str ⟨#[c]⟩).zip p.tail → partOk q.1 q.2) (h2 : ∀ a b, p.houses = [a, b] → a ≠ b) (h3 : ∀ n e t a b u, p = .promise n e t a b u → e ≤ u) : Page.good p := ⟨h1, h2, h3⟩
theorem no2 {x : Str} : ∀ a b : Str, [x] = [a, b] → a ≠ b := fun _ _ h => by cases h
theorem no0 : ∀ a b : Str, ([] : List Str) = [a, b] → a ≠ b := fun _ _ h => by cases h
theorem is2 {x y : Str} (h : x ≠ y) : ∀ a b : Str, [x, y] = [a, b] → a ≠ b := fun _ _ e => by cases e; exact h
theorem g_comes (hn : isWord n) (h0 : 0 ≤ e) (h1 : e ≤ 990) (ht : isWord t) (hk : isWord k) (hh : isWord h) : Page.good (.comes n e t k h) := by
  refine good_of ?_ no2 (fun _ _ _ _ _ _ z => by cases z)
  rw [form_cps]
  exact fz_cons (pw' hn) (fz_cons (pd' h0 (by omega)) (fz_cons (pw' ht) (fz_cons (pw' hk) (fz_cons (pw' hh) fz_nil))))
theorem g_trial (hn : isWord n) (h0 : 0 ≤ e) (h1 : e ≤ 990) (ht : isWord t) (ha : isWord a) (hb : isWord b) (hab : a ≠ b) (y0 : 0 ≤ y) (y1 : y ≤ 9) : Page.good (.trial n e t a b y) := by
  refine good_of ?_ (is2 hab) (fun _ _ _ _ _ _ z => by cases z)
  rw [form_cps]
  exact fz_cons (pw' hn) (fz_cons (pd' h0 (by omega)) (fz_cons (pw' ht) (fz_cons (pw' ha) (fz_cons (pw' hb) (fz_cons (pt' y0 y1) fz_nil)))))
theorem g_back (hn : isWord n) (h0 : 0 ≤ e) (h1 : e ≤ 990) (ht : isWord t) (ha : isWord a) (y0 : 0 ≤ y) (y1 : y ≤ 9) : Page.good (.back n e t a y) := by
  refine good_of ?_ no2 (fun _ _ _ _ _ _ z => by cases z)
  rw [form_cps]
  exact fz_cons (pw' hn) (fz_cons (pd' h0 (by omega)) (fz_cons (pw' ht) (fz_cons (pw' ha) (fz_cons (pt' y0 y1) fz_nil))))
theorem g_keep (hn : isWord n) (h0 : 0 ≤ e) (h1 : e ≤ 990) (ht : isWord t) (ha : isWord a) (y0 : 0 ≤ m) (y1 : m ≤ 1000000000) : Page.good (.keep n e t a m) := by
  refine good_of ?_ no2 (fun _ _ _ _ _ _ z => by cases z)
  rw [form_cps]
  exact fz_cons (pw' hn) (fz_cons (pd' h0 (by omega)) (fz_cons (pw' ht) (fz_cons (pw' ha) (fz_cons (pm' y0 y1) fz_nil))))
theorem g_give (hn : isWord n) (h0 : 0 ≤ e) (h1 : e ≤ 990) (ht : isWord t) (ha : isWord a) (hb : isWord b) (hab : a ≠ b) (y0 : 0 ≤ y) (y1 : y ≤ 9) (m0 : 0 ≤ m) (m1 : m ≤ 1000000000) : Page.good (.give n e t a b y m) := by
  refine good_of ?_ (is2 hab) (fun _ _ _ _ _ _ z => by cases z)
  rw [form_cps]
  exact fz_cons (pw' hn) (fz_cons (pd' h0 (by omega)) (fz_cons (pw' ht) (fz_cons (pw' ha) (fz_cons (pw' hb) (fz_cons (pt' y0 y1) (fz_cons (pm' m0 m1) fz_nil))))))
theorem g_goes (hn : isWord n) (h0 : 0 ≤ e) (h1 : e ≤ 990) (ht : isWord t) (ha : isWord a) : Page.good (.goes n e t a) := by
  refine good_of ?_ no2 (fun _ _ _ _ _ _ z => by cases z)
  rw [form_cps]
  exact fz_cons (pw' hn) (fz_cons (pd' h0 (by omega)) (fz_cons (pw' ht) (fz_cons (pw' ha) fz_nil)))
theorem g_double (hn : isWord n) (h0 : 0 ≤ e) (h1 : e ≤ 990) (ht : isWord t) (ha : isWord a) : Page.good (.double n e t a) := by
  refine good_of ?_ no2 (fun _ _ _ _ _ _ z => by cases z)
  rw [form_cps]
  exact fz_cons (pw' hn) (fz_cons (pd' h0 (by omega)) (fz_cons (pw' ht) (fz_cons (pw' ha) fz_nil)))
theorem g_promise (hn : isWord n) (h0 : 0 ≤ e) (h1 : e ≤ 990) (ht : isWord t) (ha : isWord a) (hb : isWord b) (hab : a ≠ b) (u0 : e ≤ u) (u1 : u ≤ e + 9) : Page.good (.promise n e t a b u) := by
  refine good_of ?_ (is2 hab) (fun _ _ _ _ _ _ z => by cases z; exact u0)
  rw [form_cps]
  exact fz_cons (pw' hn) (fz_cons (pd' h0 (by omega)) (fz_cons (pw' ht) (fz_cons (pw' ha) (fz_cons (pw' hb) (fz_cons (pd' (by omega) (by omega)) fz_nil)))))
theorem g_loose (hn : isWord n) (h0 : 0 ≤ e) (h1 : e ≤ 990) (hq : isWord q) : Page.good (.loose n e q) := by
  refine good_of ?_ no0 (fun _ _ _ _ _ _ z => by cases z)
  rw [form_cps]
  exact fz_cons (pw' hn) (fz_cons (pd' h0 (by omega)) (fz_cons (pw' hq) fz_nil))
theorem g_want (hn : isWord n) (h0 : 0 ≤ e) (h1 : e ≤ 990) (hh : isWord h) (hk : isWord k) (g0 : 0 ≤ g) (g1 : g ≤ 9) : Page.good (.want n e h k g) := by
  refine good_of ?_ no2 (fun _ _ _ _ _ _ z => by cases z)
  rw [form_cps]
  exact fz_cons (pw' hn) (fz_cons (pd' h0 (by omega)) (fz_cons (pw' hh) (fz_cons (pw' hk) (fz_cons (pg' g0 g1) fz_nil))))
theorem g_owe (hn : isWord n) (h0 : 0 ≤ e) (h1 : e ≤ 990) (ha : isWord a) (hb : isWord b) (hab : a ≠ b) (m0 : 1 ≤ m) (m1 : m ≤ 1000000000) : Page.good (.owe n e a b m) := by
  refine good_of ?_ (is2 hab) (fun _ _ _ _ _ _ z => by cases z)
  rw [form_cps]
  exact fz_cons (pw' hn) (fz_cons (pd' h0 (by omega)) (fz_cons (pw' ha) (fz_cons (pw' hb) (fz_cons (pp' m0 m1) fz_nil))))
theorem g_pay (hn : isWord n) (h0 : 0 ≤ e) (h1 : e ≤ 990) (ha : isWord a) (hb : isWord b) (hab : a ≠ b) (m0 : 1 ≤ m) (m1 : m ≤ 1000000000) : Page.good (.pay n e a b m) := by
  refine good_of ?_ (is2 hab) (fun _ _ _ _ _ _ z => by cases z)
  rw [form_cps]
  exact fz_cons (pw' hn) (fz_cons (pd' h0 (by omega)) (fz_cons (pw' ha) (fz_cons (pw' hb) (fz_cons (pp' m0 m1) fz_nil))))
end
/-- where the law's own run thinks a thing is, over these houses -/
def LS.inv (hs : List Str) : LS → Prop
  | .st .out => True
  | .st (.at_ h) => h ∈ hs
  | .st (.trial h o) => h ∈ hs ∧ o ∈ hs ∧ h ≠ o
  | .st (.way a b _) => a ∈ hs ∧ b ∈ hs
  | .st (.away a b _ o) => a ∈ hs ∧ b ∈ hs ∧ o ∈ hs
  | .gone => True
theorem lhere_inv {hs : List Str} {s : LS} {e : Int} (h : s.inv hs) : (lhere s e).inv hs := by
  cases s with
  | gone => exact h
  | st s =>
    cases s with
    | way a b d =>
      simp only [lhere, arrived]
      split
      · exact h.2
      · exact h
    | away a b d o =>
      simp only [lhere, arrived]
      split
      · split
        · exact h.2.2
        · rename_i z
          exact ⟨h.2.1, h.2.2, z⟩
      · exact h
    | _ => exact h
/-- a page of a thing, as the law's run draws it -/
structure goodT (t n : Str) (e : Int) (hs ks : List Str) (p : Page) : Prop where
  good : Page.good p
  name : p.name = n
  day : p.day = e
  rank : p.rank < 8
  things : p.things = [t]
  houses : ∀ h, h ∈ p.houses → h ∈ hs
  kinds : ∀ k, k ∈ p.kinds → k ∈ ks
theorem lbehind_inv {hs ks : List Str} {s : LS} {p : Page} {t n : Str} {e : Int} (h : s.inv hs) (g : goodT t n e hs ks p) : (lbehind s p).inv hs := by
  have hh := g.houses
  cases p with
  | comes n e t k h' => exact hh h' (by simp [Page.houses])
  | trial n e t a b y => exact ⟨hh a (by simp [Page.houses]), hh b (by simp [Page.houses]), hh a (by simp [Page.houses])⟩
  | back n e t h' y =>
    cases s with
    | gone => exact h
    | st s =>
      cases s with
      | trial a o => exact ⟨hh h' (by simp [Page.houses]), h.2.1, h.2.1⟩
      | _ => exact h
  | keep n e t h' m => exact hh h' (by simp [Page.houses])
  | give n e t a b y m => exact ⟨hh a (by simp [Page.houses]), hh b (by simp [Page.houses])⟩
  | goes n e t h' => trivial
  | _ => exact h
theorem LS.ok {hs : List Str} {s : LS} (hw : ∀ x, x ∈ hs → isWord x) (h : s.inv hs) : SeqAt.shaped s.d = true := by
  have hg : (PyData.tuple [.str "gone"]).canLay0 = true := by decide +kernel
  cases s with
  | gone => exact Bool.and_eq_true_iff.mpr ⟨hg, by decide⟩
  | st s =>
    refine Stand.sh (s := s) ?_
    have k0 : (PyData.str "out").canLay0 = true := by decide +kernel
    have k1 : (PyData.str "at").canLay0 = true := by decide +kernel
    have k2 : (PyData.str "trial").canLay0 = true := by decide +kernel
    have k3 : (PyData.str "way").canLay0 = true := by decide +kernel
    have k4 : (PyData.str "away").canLay0 = true := by decide +kernel
    have hk : ∀ x, x ∈ hs → (PyData.str x).canLay0 = true := fun x hx => word_ok (hw x hx)
    cases s with
    | out => simp only [Stand.ok, Stand.ds, PyData.canLay0, PyData.canLayAll0] at k0 ⊢; rw [k0]; rfl
    | at_ a => have e1 := hk a h; simp only [Stand.ok, Stand.ds, PyData.canLay0, PyData.canLayAll0] at k1 e1 ⊢; rw [k1, e1]; rfl
    | trial a o => have e1 := hk a h.1; have e2 := hk o h.2.1; simp only [Stand.ok, Stand.ds, PyData.canLay0, PyData.canLayAll0] at k2 e1 e2 ⊢; rw [k2, e1, e2]; rfl
    | way a b d => have e1 := hk a h.1; have e2 := hk b h.2; simp only [Stand.ok, Stand.ds, PyData.canLay0, PyData.canLayAll0] at k3 e1 e2 ⊢; rw [k3, e1, e2]; rfl
    | away a b d o => have e1 := hk a h.1; have e2 := hk b h.2.1; have e3 := hk o h.2.2; simp only [Stand.ok, Stand.ds, PyData.canLay0, PyData.canLayAll0] at k4 e1 e2 e3 ⊢; rw [k4, e1, e2, e3]; rfl
theorem out_sh : SeqAt.shaped (.tuple [.str "out"]) = true := Stand.sh (s := .out) (by unfold Stand.ok; decide +kernel)
theorem eqv_outL (s : LS) : PyData.eqv s.d (.tuple [.str "out"]) = (match s with | .st .out => true | _ => false) := by
  have e1 : (("gone" : Str) == "out") = false := by decide
  have e2 : (("trial" : Str) == "out") = false := by decide
  have e3 : (("way" : Str) == "out") = false := by decide
  have e4 : (("away" : Str) == "out") = false := by decide
  have e5 : (("at" : Str) == "out") = false := by decide
  have e6 : (("out" : Str) == "out") = true := by decide
  cases s with
  | gone => simp [LS.ds, PyData.eqv, PyData.eqvAll, e1]
  | st s => cases s <;> simp [LS.ds, Stand.ds, PyData.eqv, PyData.eqvAll, e2, e3, e4, e5, e6]
section
variable {P : Program} {w : World} {K : PySem.W.Frag} {mg : Str → Option Value} {base : Heap}
theorem ea_consQ {C : Ctx} {ρ : List Cell} {te : TE} {tr : TA} {x : PyData} {PA : List PyData → Prop} (ha : Ev C K te ρ (Eq x)) (hr : EvA C K tr ρ PA) : EvA C K (tCons te tr) ρ (fun l => ∃ ds, PA ds ∧ l = x :: ds) :=
  ea_cons' ha (fun _ _ => hr) fun _ ds e p => by subst e; exact ⟨ds, p, rfl⟩
theorem ea_consR {C : Ctx} {ρ : List Cell} {te : TE} {tr : TA} {ds : List PyData} {P : PyData → Prop} (ha : Ev C K te ρ P) (hr : EvA C K tr ρ (Eq ds)) : EvA C K (tCons te tr) ρ (fun l => ∃ x, P x ∧ l = x :: ds) :=
  ea_cons' ha (fun _ _ => hr) fun x _ p e => by subst e; exact ⟨x, p, rfl⟩
theorem other_one {hs : List Str} (nd : hs.Nodup) (h2 : 2 ≤ hs.length) (one : Str) : ∃ z, z ∈ hs ∧ z ≠ one := by
  match hs, nd, h2 with
  | a :: b :: r, nd, _ =>
    by_cases z : a = one
    · refine ⟨b, by simp, fun e => ?_⟩
      rw [List.nodup_cons] at nd
      exact nd.1 (by rw [z, ← e]; exact List.mem_cons_self ..)
    · exact ⟨a, by simp, z⟩
structure OT where
  s : LS
  t : Str
  n : Str
  e : Int
  hs : List Str
  ks : List Str
def OT.enc (x : OT) : List PyData := [x.s.d, .str x.t, .str x.n, .int x.e, .list (x.hs.map .str), .list (x.ks.map .str)]
structure OT.pre (x : OT) : Prop where
  s : x.s.inv x.hs
  t : isWord x.t
  n : isWord x.n
  e0 : 0 ≤ x.e
  e1 : x.e ≤ 990
  hs : Wds 2 4 x.hs
  ks : Wds 1 3 x.ks
def R_of_thing (x : OT) (d : PyData) : Prop := ∃ p, goodT x.t x.n x.e x.hs x.ks p ∧ d = p.d
theorem page_any {C : Ctx} {ρ : List Cell} {te : TE} {x : OT} {ps : List Page} (h : Ev C K te ρ (fun d => ∃ p, p ∈ ps ∧ d = Page.d p)) (hg : ∀ p, p ∈ ps → goodT x.t x.n x.e x.hs x.ks p) : Ev C K te ρ (R_of_thing x) := h.imp fun d ⟨p, hp, e⟩ => ⟨p, hg p hp, e⟩
abbrev N__law_of_thing : List Str := ["_law_pen", "_law_stand", "_law_thing", "_law_name", "_law_day", "_law_houses", "_law_kinds", "_law_one", "_law_others", "_law_house", "_law_other", "_law_days", "_law_worth", "_law_comes", "_law_trial", "_law_give", "_law_double", "_law_promise", "_law_back", "_law_keep", "_law_goes"]
theorem sc__law_of_thing : FnScope N__law_of_thing ["_law_pen", "_law_stand", "_law_thing", "_law_name", "_law_day", "_law_houses", "_law_kinds"] (defScope s__law_of_thing) := ⟨rfl, rfl, rfl, by decide +kernel, rfl, by decide +kernel, by decide +kernel⟩
theorem ok__law_of_thing (T : Tx w K mg) (c__law_draw : Cal P w K mg base "_law_draw" ["_law_pen", "_law_many"] 1 (spP K Pre_draw R_draw)) :
    Cal P w K mg base "_law_of_thing" ["_law_pen", "_law_stand", "_law_thing", "_law_name", "_law_day", "_law_houses", "_law_kinds"] 2 (spQ K OT.enc OT.pre R_of_thing) := by
  refine cal_penQ T.d__law_of_thing sc__law_of_thing (fun _ _ _ _ _ _ us hl => match us, hl with | [_, _, _, _, _, _, _], _ => rfl) (fun x => rfl) (fun f cdv A outer s H E hr => ⟨_,
    (pss_cons (ps_set (i := 7) sc__law_of_thing.nd rfl (by first | exact .inl rfl | exact .inr rfl) (pe_ix (r := rIx K) ix_seq (pv 5) (pe_cal c__law_draw (hr.mono (by decide)) (by rfl) (pa_cons (pv 0) (pa_cons (pe_callB (r := rLEN K) cr_LEN (by rfl) T.len (by decide +kernel) (pa_cons (pv 5) pa_nil)) pa_nil))) (fun _ _ => rfl)))
  (pss_cons (ps_if (PW.pt (pw_and (pt_cmpR (r := rIN K false) op_IN (pe_ix (r := rIx K) ix_seq (pv 1) pe_int (fun _ _ => rfl)) (pe_tup (pa_cons pe_str (pa_cons pe_str pa_nil))) rfl) (pw_and1 (pt_cmpR op_GT (pe_cal c__law_draw (hr.mono (by decide)) (by rfl) (pa_cons (pv 0) (pa_cons pe_int pa_nil))) pe_int (nomark _))))) (pss_one (ps_set (i := 7) sc__law_of_thing.nd rfl (by first | exact .inl rfl | exact .inr rfl) (pe_ix (r := rIx K) ix_seq (pv 1) pe_int (fun _ _ => rfl)))) pss_nil)
  (pss_cons (ps_setLc (i := 8) (own := [("_law_house", 9)]) (g := gName 9) rfl sc__law_of_thing.nd rfl rfl (sw_true rfl rfl rfl (by decide +kernel)) (pi_list (pv 5)) (blkOk_by (own := [("_law_house", 9)]) (N := N__law_of_thing) (sc := defScope s__law_of_thing) (by decide +kernel)) (fun _ _ _ _ _ => (pg_name (i := 9) sc__law_of_thing.nd rfl (.inl rfl))) (fun _ _ _ _ _ => (pts_one (pt_cmpR (r := rNE K) (op_NE hr.units) (pv 9) (pv 7) (nomark _)))) (fun _ _ _ _ _ => (pv 9)))
  (pss_cons (ps_set (i := 10) sc__law_of_thing.nd rfl (by first | exact .inl rfl | exact .inr rfl) (pe_ix (r := rIx K) ix_seq (pv 8) (pe_cal c__law_draw (hr.mono (by decide)) (by rfl) (pa_cons (pv 0) (pa_cons (pe_callB (r := rLEN K) cr_LEN (by rfl) T.len (by decide +kernel) (pa_cons (pv 8) pa_nil)) pa_nil))) (fun _ _ => rfl)))
  (pss_cons (ps_set (i := 11) sc__law_of_thing.nd rfl (by first | exact .inl rfl | exact .inr rfl) (pe_ix (r := rIx K) ix_seq (pe_lst (pa_cons pe_int (pa_cons pe_int (pa_cons pe_int (pa_cons pe_int (pa_cons pe_int pa_nil)))))) (pe_cal c__law_draw (hr.mono (by decide)) (by rfl) (pa_cons (pv 0) (pa_cons pe_int pa_nil))) (fun _ _ => rfl)))
  (pss_cons (ps_set (i := 12) sc__law_of_thing.nd rfl (by first | exact .inl rfl | exact .inr rfl) (pe_cal c__law_draw (hr.mono (by decide)) (by rfl) (pa_cons (pv 0) (pa_cons pe_int pa_nil))))
  (pss_cons (ps_set (i := 13) sc__law_of_thing.nd rfl (by first | exact .inl rfl | exact .inr rfl) (pe_tup (pa_cons pe_str (pa_cons (pv 3) (pa_cons (pv 4) (pa_cons (pv 2) (pa_cons (pe_ix (r := rIx K) ix_seq (pv 6) (pe_cal c__law_draw (hr.mono (by decide)) (by rfl) (pa_cons (pv 0) (pa_cons (pe_callB (r := rLEN K) cr_LEN (by rfl) T.len (by decide +kernel) (pa_cons (pv 6) pa_nil)) pa_nil))) (fun _ _ => rfl)) (pa_cons (pv 7) pa_nil))))))))
  (pss_cons (ps_set (i := 14) sc__law_of_thing.nd rfl (by first | exact .inl rfl | exact .inr rfl) (pe_tup (pa_cons pe_str (pa_cons (pv 3) (pa_cons (pv 4) (pa_cons (pv 2) (pa_cons (pv 7) (pa_cons (pv 10) (pa_cons (pv 11) pa_nil)))))))))
  (pss_cons (ps_set (i := 15) sc__law_of_thing.nd rfl (by first | exact .inl rfl | exact .inr rfl) (pe_tup (pa_cons pe_str (pa_cons (pv 3) (pa_cons (pv 4) (pa_cons (pv 2) (pa_cons (pv 7) (pa_cons (pv 10) (pa_cons (pv 11) (pa_cons (pv 12) pa_nil))))))))))
  (pss_cons (ps_set (i := 16) sc__law_of_thing.nd rfl (by first | exact .inl rfl | exact .inr rfl) (pe_tup (pa_cons pe_str (pa_cons (pv 3) (pa_cons (pv 4) (pa_cons (pv 2) (pa_cons (pv 7) pa_nil)))))))
  (pss_cons (ps_set (i := 17) sc__law_of_thing.nd rfl (by first | exact .inl rfl | exact .inr rfl) (pe_tup (pa_cons pe_str (pa_cons (pv 3) (pa_cons (pv 4) (pa_cons (pv 2) (pa_cons (pv 7) (pa_cons (pv 10) (pa_cons (pe_op op_ADD (pv 4) (pe_cal c__law_draw (hr.mono (by decide)) (by rfl) (pa_cons (pv 0) (pa_cons pe_int pa_nil)))) pa_nil)))))))))
  (pss_cons (ps_set (i := 18) sc__law_of_thing.nd rfl (by first | exact .inl rfl | exact .inr rfl) (pe_tup (pa_cons pe_str (pa_cons (pv 3) (pa_cons (pv 4) (pa_cons (pv 2) (pa_cons (pv 7) (pa_cons (pv 11) pa_nil))))))))
  (pss_cons (ps_set (i := 19) sc__law_of_thing.nd rfl (by first | exact .inl rfl | exact .inr rfl) (pe_tup (pa_cons pe_str (pa_cons (pv 3) (pa_cons (pv 4) (pa_cons (pv 2) (pa_cons (pv 7) (pa_cons (pv 12) pa_nil))))))))
  (pss_cons (ps_set (i := 20) sc__law_of_thing.nd rfl (by first | exact .inl rfl | exact .inr rfl) (pe_tup (pa_cons pe_str (pa_cons (pv 3) (pa_cons (pv 4) (pa_cons (pv 2) (pa_cons (pv 7) pa_nil)))))))
  (pss_cons (ps_if (pt_cmpR (r := rEQ K) (op_EQ hr.units) (pv 1) (pe_tup (pa_cons pe_str pa_nil)) (nomark _)) (pss_one (ps_ret (pe_ix (r := rIx K) ix_seq (pe_lst (pa_cons (pv 13) (pa_cons (pv 13) (pa_cons (pv 13) (pa_cons (pv 16) pa_nil))))) (pe_cal c__law_draw (hr.mono (by decide)) (by rfl) (pa_cons (pv 0) (pa_cons pe_int pa_nil))) (fun _ _ => rfl)))) pss_nil)
  (pss_cons (ps_if (pt_cmpR (r := rEQ K) (op_EQ hr.units) (pe_ix (r := rIx K) ix_seq (pv 1) pe_int (fun _ _ => rfl)) pe_str (nomark _)) (pss_one (ps_ret (pe_ix (r := rIx K) ix_seq (pe_lst (pa_cons (pv 14) (pa_cons (pv 14) (pa_cons (pv 15) (pa_cons (pv 15) (pa_cons (pv 16) (pa_cons (pv 16) (pa_cons (pv 17) (pa_cons (pv 17) (pa_cons (pv 20) (pa_cons (pv 18) pa_nil))))))))))) (pe_cal c__law_draw (hr.mono (by decide)) (by rfl) (pa_cons (pv 0) (pa_cons pe_int pa_nil))) (fun _ _ => rfl)))) pss_nil)
  (pss_cons (ps_if (pt_cmpR (r := rEQ K) (op_EQ hr.units) (pe_ix (r := rIx K) ix_seq (pv 1) pe_int (fun _ _ => rfl)) pe_str (nomark _)) (pss_cons (ps_set (i := 17) sc__law_of_thing.nd rfl (by first | exact .inl rfl | exact .inr rfl) (pe_tup (pa_cons pe_str (pa_cons (pv 3) (pa_cons (pv 4) (pa_cons (pv 2) (pa_cons (pe_ix (r := rIx K) ix_seq (pv 1) pe_int (fun _ _ => rfl)) (pa_cons (pe_ix (r := rIx K) ix_seq (pv 1) pe_int (fun _ _ => rfl)) (pa_cons (pe_op op_ADD (pv 4) pe_int) pa_nil)))))))))
  (pss_one (ps_ret (pe_ix (r := rIx K) ix_seq (pe_lst (pa_cons (pv 18) (pa_cons (pv 18) (pa_cons (pv 19) (pa_cons (pv 19) (pa_cons (pv 15) (pa_cons (pv 17) pa_nil))))))) (pe_cal c__law_draw (hr.mono (by decide)) (by rfl) (pa_cons (pv 0) (pa_cons pe_int pa_nil))) (fun _ _ => rfl))))) pss_nil)
  (pss_one (ps_ret (pe_ix (r := rIx K) ix_seq (pe_lst (pa_cons (pv 17) (pa_cons (pv 15) (pa_cons (pv 16) (pa_cons (pv 13) (pa_cons (pv 18) (pa_cons (pv 19) pa_nil))))))) (pe_cal c__law_draw (hr.mono (by decide)) (by rfl) (pa_cons (pv 0) (pa_cons pe_int pa_nil))) (fun _ _ => rfl))))))))))))))))))))), fun pen scr is x hR => ?_⟩)
  obtain ⟨s, t, n, e, hs, ks⟩ := x
  obtain ⟨hsi, ht, hn, he0, he1, hhs, hks⟩ := hR
  dsimp only at hsi ht hn he0 he1 hhs hks
  have hlh := hhs.lo
  have hlh2 := hhs.hi
  have hlk := hks.lo
  have hlk2 := hks.hi
  have hlhs : (hs.map PyData.str).length = hs.length := List.length_map ..
  have hlks : (ks.map PyData.str).length = ks.length := List.length_map ..
  have shs := LS.ok hhs.words hsi
  dsimp only [OT.enc]
  walk_at "go"
  refine q_asg' (P := fun d => ∃ h, h ∈ hs ∧ d = PyData.str h) (ev_pick (xs := hs) (by walk_at "ev") (ev_draw rfl (Ev.is (ev_cb (by walk_at "ev") n_lenL) (by rw [hlhs])) (by omega) (by omega))) ?_
  rintro _ ⟨one0, ho0, rfl⟩
  refine tr_seq (N1 := fun s' => ∃ h, h ∈ hs ∧ s' = ([Cell.ref pen, .val s.d, .val (.str t), .val (.str n), .val (.int e), .val (.list (hs.map .str)), .val (.list (ks.map .str)), .val (.str h), .unk, .unk, .unk, .unk, .unk, .unk, .unk, .unk, .unk, .unk, .unk, .unk, .unk], [])) ?_ ?_
  · have hd8 : ∀ ρ : List Cell, ρ[0]? = some (.ref pen) → EvT (CP K pen scr is) K (tTest (tOp rGt (tCall (spP K Pre_draw R_draw) [] E0 (tCons (tVar 0) (tCons (tC (.int 8)) tNil))) (tC (.int 0)))) ρ (fun _ => True) := fun ρ hρ =>
      et_any (ev_opE (PX := fun x => 0 ≤ x ∧ x < 8) (ev_draw hρ (by walk_at "ev") (by decide) (by decide)) ev_int fun a ha => op_imp o_gt fun d e => ⟨_, e.symm⟩)
    cases s with
    | gone => exact tr_if (b := false) (by walk_at "ev") (fun z => nomatch z) fun _ => tr_next ⟨one0, ho0, rfl⟩
    | st s =>
      cases s with
      | out => exact tr_if (b := false) (by walk_at "ev") (fun z => nomatch z) fun _ => tr_next ⟨one0, ho0, rfl⟩
      | way a b d => exact tr_if (b := false) (by walk_at "ev") (fun z => nomatch z) fun _ => tr_next ⟨one0, ho0, rfl⟩
      | away a b d o => exact tr_if (b := false) (by walk_at "ev") (fun z => nomatch z) fun _ => tr_next ⟨one0, ho0, rfl⟩
      | at_ h =>
        refine tr_if' (PB := fun _ => True) (et_andP (PA := Eq true) (PB := fun _ => True) (by apply EvT.is; walk_at "ev"; walk_at "dc") (fun _ => hd8 _ rfl) (fun _ => trivial) fun _ _ _ => trivial) (fun _ => ?_) fun _ => tr_next ⟨one0, ho0, rfl⟩
        exact tr_asg' (P := Eq (.str h)) (by walk_at "ev") fun d z => ⟨h, hsi, by rw [← z]; rfl⟩
      | trial h o =>
        refine tr_if' (PB := fun _ => True) (et_andP (PA := Eq true) (PB := fun _ => True) (by apply EvT.is; walk_at "ev"; walk_at "dc") (fun _ => hd8 _ rfl) (fun _ => trivial) fun _ _ _ => trivial) (fun _ => ?_) fun _ => tr_next ⟨one0, ho0, rfl⟩
        exact tr_asg' (P := Eq (.str h)) (by walk_at "ev") fun d z => ⟨h, hsi.1, by rw [← z]; rfl⟩
  rintro _ ⟨one, hone, rfl⟩
  refine q_asgG (is := anyS) (ev_lcX PyData.str hs (ei_list (by walk_at "ev")) (fun x => !decide (x = one)) PyData.str (by omega) ?_) (by walk_at "tg") ?_
  · intro x hx
    walk_at "lc"
  have hoth : 0 < (hs.filter fun x => !decide (x = one)).length := by
    obtain ⟨z, hz, hne⟩ := other_one hhs.nd hlh one
    exact List.length_pos_of_mem (List.mem_filter.mpr ⟨hz, by simp [hne]⟩)
  have hoth2 : (hs.filter fun x => !decide (x = one)).length ≤ 4 := Nat.le_trans (List.length_filter_le ..) hlh2
  refine q_asg' (P := fun d => ∃ h, h ∈ hs.filter (fun x => !decide (x = one)) ∧ d = PyData.str h) (ev_pick (xs := hs.filter fun x => !decide (x = one)) (by walk_at "ev") (ev_draw rfl (Ev.is (ev_cb (by walk_at "ev") n_lenL) (by rw [List.length_map])) (by omega) (by omega))) ?_
  rintro _ ⟨other, hother, rfl⟩
  obtain ⟨hother, hne⟩ := List.mem_filter.mp hother
  have hne : one ≠ other := fun z => by simp [z] at hne
  refine q_asg' (P := fun d => ∃ y, y ∈ ([0, 0, 1, 2, 9] : List Int) ∧ d = PyData.int y) (ev_pick (xs := ([0, 0, 1, 2, 9] : List Int)) (by apply Ev.is; walk_at "ev"; rfl) (ev_draw (m := 5) rfl (by walk_at "ev") (by decide) (by decide))) ?_
  rintro _ ⟨y, hy, rfl⟩
  have hy09 : 0 ≤ y ∧ y ≤ 9 := by
    simp only [List.mem_cons, List.not_mem_nil, or_false] at hy
    omega
  refine q_asg' (ev_draw (m := 40) rfl (by walk_at "ev") (by decide) (by decide)) ?_
  rintro _ ⟨m, ⟨hm0, hm1⟩, rfl⟩
  refine q_asg' (P := fun d => ∃ k, k ∈ ks ∧ d = Page.d (.comes n e t k one)) (ev_tup' (ea_consQ (by walk_at "ev") (ea_consQ (by walk_at "ev") (ea_consQ (by walk_at "ev") (ea_consQ (by walk_at "ev") (ea_consR (ev_pick (xs := ks) (by walk_at "ev") (ev_draw rfl (Ev.is (ev_cb (by walk_at "ev") n_lenL) (by rw [List.length_map])) (by omega) (by omega))) (by walk_at "ev")))))) ?_ ?_) ?_
  · rintro _ ⟨_, ⟨_, ⟨_, ⟨_, ⟨_, ⟨k, hk, rfl⟩, rfl⟩, rfl⟩, rfl⟩, rfl⟩, rfl⟩
    exact Nat.le_of_ble_eq_true rfl
  · rintro _ ⟨_, ⟨_, ⟨_, ⟨_, ⟨_, ⟨k, hk, rfl⟩, rfl⟩, rfl⟩, rfl⟩, rfl⟩, rfl⟩
    exact ⟨k, hk, rfl⟩
  rintro _ ⟨k, hk, rfl⟩
  refine q_asg (d := Page.d (.trial n e t one other y)) (by apply Ev.is; walk_at "ev"; rfl) ?_
  refine q_asg (d := Page.d (.give n e t one other y m)) (by apply Ev.is; walk_at "ev"; rfl) ?_
  refine q_asg (d := Page.d (.double n e t one)) (by apply Ev.is; walk_at "ev"; rfl) ?_
  refine q_asg' (P := fun d => ∃ u, (e ≤ u ∧ u ≤ e + 9) ∧ d = Page.d (.promise n e t one other u)) (ev_tup' (ea_consQ (by walk_at "ev") (ea_consQ (by walk_at "ev") (ea_consQ (by walk_at "ev") (ea_consQ (by walk_at "ev") (ea_consQ (by walk_at "ev") (ea_consQ (by walk_at "ev") (ea_consR (P := fun d => ∃ u, (e ≤ u ∧ u ≤ e + 9) ∧ d = PyData.int u) (ev_op' (P1 := Eq (.int e)) (by walk_at "ev") (fun _ _ => ev_draw (m := 6) rfl (by walk_at "ev") (by decide) (by decide)) ?_) (by walk_at "ev")))))))) ?_ ?_) ?_
  · rintro _ _ rfl ⟨x, hx, rfl⟩
    exact op_imp o_addI fun d z => ⟨e + x, ⟨by omega, by omega⟩, z.symm⟩
  · rintro _ ⟨_, ⟨_, ⟨_, ⟨_, ⟨_, ⟨_, ⟨_, ⟨u, hu, rfl⟩, rfl⟩, rfl⟩, rfl⟩, rfl⟩, rfl⟩, rfl⟩, rfl⟩
    exact Nat.le_of_ble_eq_true rfl
  · rintro _ ⟨_, ⟨_, ⟨_, ⟨_, ⟨_, ⟨_, ⟨_, ⟨u, hu, rfl⟩, rfl⟩, rfl⟩, rfl⟩, rfl⟩, rfl⟩, rfl⟩, rfl⟩
    exact ⟨u, hu, rfl⟩
  rintro _ ⟨u, ⟨hu0, hu1⟩, rfl⟩
  refine q_asg (d := Page.d (.back n e t one y)) (by apply Ev.is; walk_at "ev"; rfl) ?_
  refine q_asg (d := Page.d (.keep n e t one m)) (by apply Ev.is; walk_at "ev"; rfl) ?_
  refine q_asg (d := Page.d (.goes n e t one)) (by apply Ev.is; walk_at "ev"; rfl) ?_
  have wone := hhs.words _ hone
  have wother := hhs.words _ hother
  have wk := hks.words _ hk
  have i1 : ∀ h, h ∈ [one] → h ∈ hs := fun h z => by rw [List.mem_singleton.mp z]; exact hone
  have i2 : ∀ h, h ∈ [one, other] → h ∈ hs := fun h z => by
    rcases List.mem_cons.mp z with z | z
    · rw [z]; exact hone
    · rw [List.mem_singleton.mp z]; exact hother
  have i0 : ∀ k, k ∈ ([] : List Str) → k ∈ ks := fun h z => by cases z
  have G1 : goodT t n e hs ks (.comes n e t k one) := ⟨g_comes hn he0 he1 ht wk wone, rfl, rfl, Nat.le_of_ble_eq_true rfl, rfl, i1, fun h z => by rw [List.mem_singleton.mp z]; exact hk⟩
  have G2 : goodT t n e hs ks (.trial n e t one other y) := ⟨g_trial hn he0 he1 ht wone wother hne hy09.1 hy09.2, rfl, rfl, Nat.le_of_ble_eq_true rfl, rfl, i2, i0⟩
  have G3 : goodT t n e hs ks (.give n e t one other y m) := ⟨g_give hn he0 he1 ht wone wother hne hy09.1 hy09.2 hm0 (by omega), rfl, rfl, Nat.le_of_ble_eq_true rfl, rfl, i2, i0⟩
  have G4 : goodT t n e hs ks (.double n e t one) := ⟨g_double hn he0 he1 ht wone, rfl, rfl, Nat.le_of_ble_eq_true rfl, rfl, i1, i0⟩
  have G5 : goodT t n e hs ks (.promise n e t one other u) := ⟨g_promise hn he0 he1 ht wone wother hne hu0 hu1, rfl, rfl, Nat.le_of_ble_eq_true rfl, rfl, i2, i0⟩
  have G6 : goodT t n e hs ks (.back n e t one y) := ⟨g_back hn he0 he1 ht wone hy09.1 hy09.2, rfl, rfl, Nat.le_of_ble_eq_true rfl, rfl, i1, i0⟩
  have G7 : goodT t n e hs ks (.keep n e t one m) := ⟨g_keep hn he0 he1 ht wone hm0 (by omega), rfl, rfl, Nat.le_of_ble_eq_true rfl, rfl, i1, i0⟩
  have G8 : goodT t n e hs ks (.goes n e t one) := ⟨g_goes hn he0 he1 ht wone, rfl, rfl, Nat.le_of_ble_eq_true rfl, rfl, i1, i0⟩
  have hout := eqv_outL s
  have last : ∀ s' : S, s' = ([Cell.ref pen, .val s.d, .val (.str t), .val (.str n), .val (.int e), .val (.list (hs.map .str)), .val (.list (ks.map .str)), .val (.str one), .val (.list ((hs.filter fun x => !decide (x = one)).map .str)), .unk, .val (.str other), .val (.int y), .val (.int m), .val (Page.d (.comes n e t k one)), .val (Page.d (.trial n e t one other y)), .val (Page.d (.give n e t one other y m)), .val (Page.d (.double n e t one)), .val (Page.d (.promise n e t one other u)), .val (Page.d (.back n e t one y)), .val (Page.d (.keep n e t one m)), .val (Page.d (.goes n e t one))], []) →
      Ev (CP K pen scr is) K (tOp (rIx K) (tLst (tCons (tVar 17) (tCons (tVar 15) (tCons (tVar 16) (tCons (tVar 13) (tCons (tVar 18) (tCons (tVar 19) tNil))))))) (tCall (spP K Pre_draw R_draw) [] E0 (tCons (tVar 0) (tCons (tC (.int 6)) tNil)))) s'.1 (R_of_thing ⟨s, t, n, e, hs, ks⟩) := by
    rintro _ rfl
    exact page_any (ps := [.promise n e t one other u, .give n e t one other y m, .double n e t one, .comes n e t k one, .back n e t one y, .keep n e t one m]) (ev_pick (by apply Ev.is; walk_at "ev"; rfl) (ev_draw (m := 6) rfl (by walk_at "ev") (by decide) (by decide))) (fa_cons G5 (fa_cons G3 (fa_cons G4 (fa_cons G1 (fa_cons G6 (fa_cons G7 fa_nil))))))
  cases s with
  | gone =>
    refine q_retF (et_testD (ev_op (by walk_at "ev") (by walk_at "ev") (o_eqD shs out_sh))) hout ?_
    walk_at "tr"
    walk_at "tr"
    exact tr_ret (last _ rfl)
  | st s =>
    cases s with
    | out =>
      refine q_retT (et_testD (ev_op (by walk_at "ev") (by walk_at "ev") (o_eqD shs out_sh))) hout ?_
      exact tr_ret (page_any (ps := [.comes n e t k one, .comes n e t k one, .comes n e t k one, .double n e t one]) (ev_pick (by apply Ev.is; walk_at "ev"; rfl) (ev_draw (m := 4) rfl (by walk_at "ev") (by decide) (by decide))) (fa_cons G1 (fa_cons G1 (fa_cons G1 (fa_cons G4 fa_nil)))))
    | at_ h =>
      refine q_retF (et_testD (ev_op (by walk_at "ev") (by walk_at "ev") (o_eqD shs out_sh))) hout ?_
      walk_at "tr"
      exact tr_ret (page_any (ps := [.trial n e t one other y, .trial n e t one other y, .give n e t one other y m, .give n e t one other y m, .double n e t one, .double n e t one, .promise n e t one other u, .promise n e t one other u, .goes n e t one, .back n e t one y])
        (ev_pick (by apply Ev.is; walk_at "ev"; rfl) (ev_draw (m := 10) rfl (by walk_at "ev") (by decide) (by decide))) (fa_cons G2 (fa_cons G2 (fa_cons G3 (fa_cons G3 (fa_cons G4 (fa_cons G4 (fa_cons G5 (fa_cons G5 (fa_cons G8 (fa_cons G6 fa_nil)))))))))))
    | trial h o =>
      refine q_retF (et_testD (ev_op (by walk_at "ev") (by walk_at "ev") (o_eqD shs out_sh))) hout ?_
      walk_at "tr"
      have wh := hhs.words _ hsi.1
      have wo := hhs.words _ hsi.2.1
      have i3 : ∀ x, x ∈ [o, h] → x ∈ hs := fun x z => by
        rcases List.mem_cons.mp z with z | z
        · rw [z]; exact hsi.2.1
        · rw [List.mem_singleton.mp z]; exact hsi.1
      have G9 : goodT t n e hs ks (.promise n e t o h (e + 3)) := ⟨g_promise hn he0 he1 ht wo wh (fun z => hsi.2.2 z.symm) (by omega) (by omega), rfl, rfl, Nat.le_of_ble_eq_true rfl, rfl, i3, i0⟩
      refine q_retT (by walk_at "ev") (by walk_at "dc") ?_
      refine q_asg (d := Page.d (.promise n e t o h (e + 3))) (by apply Ev.is; walk_at "ev"; rfl) ?_
      exact tr_ret (page_any (ps := [.back n e t one y, .back n e t one y, .keep n e t one m, .keep n e t one m, .give n e t one other y m, .promise n e t o h (e + 3)])
        (ev_pick (by apply Ev.is; walk_at "ev"; rfl) (ev_draw (m := 6) rfl (by walk_at "ev") (by decide) (by decide))) (fa_cons G6 (fa_cons G6 (fa_cons G7 (fa_cons G7 (fa_cons G3 (fa_cons G9 fa_nil)))))))
    | way a b d =>
      refine q_retF (et_testD (ev_op (by walk_at "ev") (by walk_at "ev") (o_eqD shs out_sh))) hout ?_
      walk_at "tr"
      walk_at "tr"
      exact tr_ret (last _ rfl)
    | away a b d o =>
      refine q_retF (et_testD (ev_op (by walk_at "ev") (by walk_at "ev") (o_eqD shs out_sh))) hout ?_
      walk_at "tr"
      walk_at "tr"
      exact tr_ret (last _ rfl)
end
end K92
end
section -- K92F22
set_option maxRecDepth 100000
set_option maxHeartbeats 10000000
namespace K92
open PySem PySem.Spec PyProof.Rows L2
local macro_rules | `(tactic| walk_at "dc") => `(tactic| first | decide +kernel | with_reducible rfl)
local macro_rules | `(tactic| walk_at "bb") => `(tactic| first | exact Eq.trans (b := true) (by decide +kernel) rfl | exact Eq.trans (b := false) (by decide +kernel) rfl)
local macro_rules | `(tactic| walk_at "go") => `(tactic| dsimp only [cxOf, Cx.nox, startC, List.map_cons, List.map_nil, List.length_cons, List.length_nil])
local macro_rules | `(tactic| walk_at "at") => `(tactic| first | with_reducible exact at_if | with_reducible exact at0 _ _ | with_reducible exact at1 _ _ _ | with_reducible exact at2 _ _ _ _ | rfl | exact at_word _ | exact at_name _ | exact at_day _)
local macro_rules | `(tactic| walk_at "op") => `(tactic| first
  | ((with_reducible apply o_ixT); walk_at "at")
  | ((with_reducible apply o_ixL); walk_at "at")
  | with_reducible exact o_eqS
  | with_reducible exact o_eqI
  | with_reducible exact o_neS
  | with_reducible exact o_neI
  | with_reducible exact o_le
  | with_reducible exact o_lt
  | with_reducible exact o_addI
  | with_reducible exact o_sub
  | ((with_reducible apply o_inT); first | assumption | rfl)
  | ((with_reducible apply o_inL); first | assumption | rfl)
  | with_reducible exact o_inS
  | with_reducible exact o_neNS
  | ((with_reducible apply o_neD); assumption; assumption)
  | ((with_reducible apply o_eqD); assumption; assumption))
local macro_rules | `(tactic| walk_at "tg") => `(tactic| first
  | ((with_reducible apply tg_name); decide)
  | ((with_reducible apply tg_tupW); (walk_at "tg"); rfl)
  | with_reducible exact tgs_nil
  | ((with_reducible apply tgs_cons); (walk_at "tg"); (walk_at "tg")))
local macro_rules | `(tactic| walk_at "lc") => `(tactic| ((apply lcI); (walk_at "tg"); (apply EvT.is); (walk_at "ev"); rfl; (intro _); (apply Ev.is); (walk_at "ev"); rfl))
local macro_rules | `(tactic| walk_at "ev") => `(tactic| first
  | ((with_reducible apply ev_var); rfl)
  | with_reducible exact ev_str
  | with_reducible exact ev_int
  | with_reducible exact ev_bl
  | with_reducible exact ev_non
  | with_reducible exact ev_c (by assumption)
  | with_reducible exact ea_nil
  | ((with_reducible apply ev_op); (walk_at "ev"); (walk_at "ev"); (walk_at "op"))
  | ((with_reducible apply ea_cons); (walk_at "ev"); (walk_at "ev"))
  | ((with_reducible apply ev_tupW); (walk_at "ev"); exact Nat.le_of_ble_eq_true rfl)
  | ((with_reducible apply ev_lstW); (walk_at "ev"); exact Nat.le_of_ble_eq_true rfl)
  | ((with_reducible apply et_testD); walk_at "ev")
  | ((with_reducible apply et_B); walk_at "ev")
  | ((with_reducible apply et_not); walk_at "ev")
  | ((with_reducible apply et_andF); (walk_at "ev"); (walk_at "dc"))
  | ((with_reducible apply et_andT); (walk_at "ev"); (walk_at "dc"); (walk_at "ev"))
  | ((with_reducible apply et_and); (walk_at "ev"); intro _; (walk_at "ev"))
  | ((with_reducible apply et_orT); (walk_at "ev"); (walk_at "dc"))
  | ((with_reducible apply et_orF); (walk_at "ev"); (walk_at "dc"); (walk_at "ev"))
  | ((with_reducible apply et_or); (walk_at "ev"); intro _; (walk_at "ev"))
  | ((with_reducible apply ev_andVF); (walk_at "ev"); (walk_at "dc"))
  | ((with_reducible apply ev_andVT); (walk_at "ev"); (walk_at "dc"); (walk_at "ev"))
  | ((with_reducible apply ev_orVT); (walk_at "ev"); (walk_at "dc"))
  | ((with_reducible apply ev_orVF); (walk_at "ev"); (walk_at "dc"); (walk_at "ev"))
  | ((with_reducible apply ev_andV); (walk_at "ev"); intro _; (walk_at "ev"))
  | ((with_reducible apply ev_orV); (walk_at "ev"); intro _; (walk_at "ev"))
  | ((with_reducible apply ev_notV); walk_at "ev")
  | ((with_reducible apply ev_neg); (walk_at "ev"))
  | ((with_reducible apply ev_isNE); (walk_at "ev"))
  | ((with_reducible apply ev_notN); (walk_at "ev"))
  | with_reducible exact lc_T
  | with_reducible exact eo_none
  | ((with_reducible apply eo_some); (walk_at "ev"))
  | ((with_reducible apply ev_slT); (walk_at "ev"); (walk_at "ev"); (walk_at "ev"); (exact fun h => Nat.ne_of_beq_eq_false rfl h.2); first | exact cut2 | exact cut3 | rfl)
  | ((with_reducible apply ev_slL); (walk_at "ev"); (walk_at "ev"); (walk_at "ev"); rfl)
  | ((with_reducible apply ev_kd); (walk_at "ev"); assumption; assumption)
  | ((with_reducible apply ev_call); (walk_at "ev"); assumption)
  | ((with_reducible apply ev_cb); (walk_at "ev"); (walk_at "cb"))
  | ((with_reducible apply ev_isi); (walk_at "ev"); (walk_at "dc"))
  | ((with_reducible apply ev_lcM); (walk_at "ev"); (exact Nat.le_of_ble_eq_true rfl); (walk_at "pd"))
  | ((with_reducible apply ei_list); (walk_at "ev"))
  | ((with_reducible apply ei_tup); (walk_at "ev"))
  | ((with_reducible apply ei_zip); (walk_at "ev"); assumption))
local macro_rules | `(tactic| walk_at "pd") => `(tactic| first | exact Paired.nil | ((apply Paired.cons); (walk_at "lc"); (walk_at "pd")))
local macro_rules | `(tactic| walk_at "cb") => `(tactic| first
  | with_reducible exact n_lenL
  | with_reducible exact n_lenT
  | ((with_reducible apply n_lenS); assumption)
  | with_reducible exact n_intB
  | with_reducible exact n_abs
  | with_reducible exact n_min
  | with_reducible exact n_tupL
  | with_reducible exact n_lisT
  | with_reducible exact n_lisL)
local macro_rules | `(tactic| walk_at "tr") => `(tactic| first
  | ((with_reducible apply q_retF); (walk_at "ev"); (walk_at "dc"))
  | ((with_reducible apply q_retT); (walk_at "ev"); (walk_at "dc"))
  | ((with_reducible apply q_retB); (walk_at "ev"))
  | ((with_reducible apply tr_retI); (walk_at "ev"))
  | ((with_reducible apply q_par); (walk_at "ev"))
  | ((with_reducible apply q_par3); (walk_at "ev"))
  | ((with_reducible apply q_newL); intro _)
  | ((with_reducible apply q_newD); intro _)
  | ((with_reducible apply q_asgA); (walk_at "ev"); (walk_at "tg")))
local macro_rules | `(tactic| walk_at "if") => `(tactic| first
  | ((with_reducible apply q_app (k := 0)); rfl; rfl; assumption; (walk_at "ev"))
  | with_reducible apply q_as
  | with_reducible apply q_nx
  | ((with_reducible apply q_par); (walk_at "ev"))
  | ((with_reducible apply q_par3); (walk_at "ev"))
  | ((with_reducible apply q_iF); (walk_at "ev"); (walk_at "dc"))
  | ((with_reducible apply q_iT); (walk_at "ev"); (walk_at "dc"))
  | ((with_reducible apply q_i); (walk_at "ev"))
  | ((with_reducible apply q_rt); (walk_at "ev"))
  | ((with_reducible apply q_asgA); (walk_at "ev"); (walk_at "tg")))


theorem ixN_pos {n : Nat} {i : Int} (h0 : 0 ≤ i) (h1 : i < n) : ixN n i = some i.toNat := by
  unfold ixN
  rw [if_pos h0, if_pos h1]
theorem ixN_neg {n : Nat} {i : Int} (h0 : i < 0) (h1 : -(n : Int) ≤ i) : ixN n i = some (i + n).toNat := by
  unfold ixN
  rw [if_neg (by omega), if_pos h1]
theorem at_pair {hs : List Str} (nd : hs.Nodup) (h2 : 2 ≤ hs.length) {a : Int} (h0 : 0 ≤ a) (h1 : a < hs.length) :
    ∃ x y, x ∈ hs ∧ y ∈ hs ∧ x ≠ y ∧ atI (hs.map PyData.str) a = some (.str x) ∧ atI (hs.map PyData.str) (a - 1) = some (.str y) := by
  have hi : a.toNat < hs.length := by omega
  have e1 : atI (hs.map PyData.str) a = some (.str hs[a.toNat]) := by
    unfold atI
    rw [List.length_map, ixN_pos h0 h1]
    show (hs.map PyData.str)[a.toNat]? = _
    rw [List.getElem?_map, List.getElem?_eq_getElem hi]
    rfl
  by_cases z : a = 0
  · have hj : hs.length - 1 < hs.length := by omega
    refine ⟨hs[a.toNat], hs[hs.length - 1], List.getElem_mem _, List.getElem_mem _, fun e => ?_, e1, ?_⟩
    · have := (List.getElem_inj nd).mp e
      omega
    · unfold atI
      rw [List.length_map, ixN_neg (by omega) (by omega)]
      show (hs.map PyData.str)[(a - 1 + (hs.length : Nat)).toNat]? = _
      have e : (a - 1 + (hs.length : Nat)).toNat = hs.length - 1 := by omega
      rw [e, List.getElem?_map, List.getElem?_eq_getElem hj]
      rfl
  · have hj : a.toNat - 1 < hs.length := by omega
    refine ⟨hs[a.toNat], hs[a.toNat - 1], List.getElem_mem _, List.getElem_mem _, fun e => ?_, e1, ?_⟩
    · have := (List.getElem_inj nd).mp e
      omega
    · unfold atI
      rw [List.length_map, ixN_pos (by omega) (by omega)]
      show (hs.map PyData.str)[(a - 1).toNat]? = _
      have e : (a - 1).toNat = a.toNat - 1 := by omega
      rw [e, List.getElem?_map, List.getElem?_eq_getElem hj]
      rfl
section
variable {α : Type} {C : Ctx} {K : PySem.W.Frag} {ρ : List Cell} {te tl td : TE} {tr : TA}
theorem ea_consP {P : PyData → Prop} {PA : List PyData → Prop} (ha : Ev C K te ρ P) (hr : EvA C K tr ρ PA) : EvA C K (tCons te tr) ρ (fun l => ∃ x ds, P x ∧ PA ds ∧ l = x :: ds) :=
  ea_cons' ha (fun _ _ => hr) fun x ds p q => ⟨x, ds, p, q, rfl⟩
theorem ev_pickE {enc : α → PyData} {PL : List α → Prop} {n : Int} (hl : Ev C K tl ρ (fun d => ∃ xs : List α, PL xs ∧ d = .list (xs.map enc))) (hn : ∀ xs, PL xs → (xs.length : Int) = n) (hd : Ev C K td ρ (fun d => ∃ x : Int, (0 ≤ x ∧ x < n) ∧ d = .int x)) :
    Ev C K (tOp (rIx K) tl td) ρ (fun d => ∃ xs, PL xs ∧ ∃ x, x ∈ xs ∧ d = enc x) := by
  refine ev_op' hl (fun _ _ => hd) ?_
  rintro _ _ ⟨xs, hx, rfl⟩ ⟨i, hi, rfl⟩
  have hn' := hn xs hx
  have hj : i.toNat < xs.length := by omega
  have e2 : atI (xs.map enc) ((i.toNat : Nat) : Int) = some (enc xs[i.toNat]) := atI_nat (by rw [List.getElem?_map, List.getElem?_eq_getElem hj]; rfl)
  rw [Int.toNat_of_nonneg hi.1] at e2
  exact op_imp (o_ixL e2) fun d e => ⟨xs, hx, _, List.getElem_mem hj, e.symm⟩
end
/-- a page of no thing, or a loose, as the law's run draws it -/
structure goodH (ns : List Str) (n : Str) (e : Int) (hs ks : List Str) (p : Page) : Prop where
  good : Page.good p
  name : p.name = n
  day : p.day = e
  rank : 8 ≤ p.rank
  houses : ∀ h, h ∈ p.houses → h ∈ hs
  kinds : ∀ k, k ∈ p.kinds → k ∈ ks
  loose : ∀ n e q, p = .loose n e q → q ∈ ns
structure OH where
  ns : List Str
  n : Str
  e : Int
  hs : List Str
  ks : List Str
def OH.enc (x : OH) : List PyData := [.list (x.ns.map .str), .str x.n, .int x.e, .list (x.hs.map .str), .list (x.ks.map .str)]
structure OH.pre (x : OH) : Prop where
  ns : Wds 1 26 x.ns
  n : isWord x.n
  e0 : 0 ≤ x.e
  e1 : x.e ≤ 990
  hs : Wds 2 4 x.hs
  ks : Wds 1 3 x.ks
def R_of_houses (x : OH) (d : PyData) : Prop := ∃ p, goodH x.ns x.n x.e x.hs x.ks p ∧ d = p.d
section
variable {P : Program} {w : World} {K : PySem.W.Frag} {mg : Str → Option Value} {base : Heap}
abbrev N__law_of_houses : List Str := ["_law_pen", "_law_names", "_law_name", "_law_day", "_law_houses", "_law_kinds", "_law_at", "_law_one", "_law_other", "_law_some"]
theorem sc__law_of_houses : FnScope N__law_of_houses ["_law_pen", "_law_names", "_law_name", "_law_day", "_law_houses", "_law_kinds"] (defScope s__law_of_houses) := ⟨rfl, rfl, rfl, by decide +kernel, rfl, by decide +kernel, by decide +kernel⟩
theorem ok__law_of_houses (T : Tx w K mg) (c__law_draw : Cal P w K mg base "_law_draw" ["_law_pen", "_law_many"] 1 (spP K Pre_draw R_draw)) :
    Cal P w K mg base "_law_of_houses" ["_law_pen", "_law_names", "_law_name", "_law_day", "_law_houses", "_law_kinds"] 2 (spQ K OH.enc OH.pre R_of_houses) := by
  refine cal_penQ T.d__law_of_houses sc__law_of_houses (fun _ _ _ _ _ _ us hl => match us, hl with | [_, _, _, _, _, _], _ => rfl) (fun x => rfl) (fun f cdv A outer s H E hr => ⟨_,
    (pss_cons (ps_set (i := 6) sc__law_of_houses.nd rfl (by first | exact .inl rfl | exact .inr rfl) (pe_cal c__law_draw (hr.mono (by decide)) (by rfl) (pa_cons (pv 0) (pa_cons (pe_callB (r := rLEN K) cr_LEN (by rfl) T.len (by decide +kernel) (pa_cons (pv 4) pa_nil)) pa_nil))))
  (pss_cons (ps_par (i := 7) (j := 8) rfl sc__law_of_houses.nd rfl rfl (by decide) (by rfl) (by rfl) (pa_cons (pe_ix (r := rIx K) ix_seq (pv 4) (pv 6) (fun _ _ => rfl)) (pa_cons (pe_ix (r := rIx K) ix_seq (pv 4) (pe_op op_SUB (pv 6) pe_int) (fun _ _ => rfl)) pa_nil)) (by rfl))
  (pss_cons (ps_set (i := 9) sc__law_of_houses.nd rfl (by first | exact .inl rfl | exact .inr rfl) (pe_lst (pa_cons (pe_tup (pa_cons pe_str (pa_cons (pv 2) (pa_cons (pv 3) (pa_cons (pv 7) (pa_cons (pe_ix (r := rIx K) ix_seq (pv 5) (pe_cal c__law_draw (hr.mono (by decide)) (by rfl) (pa_cons (pv 0) (pa_cons (pe_callB (r := rLEN K) cr_LEN (by rfl) T.len (by decide +kernel) (pa_cons (pv 5) pa_nil)) pa_nil))) (fun _ _ => rfl)) (pa_cons (pe_cal c__law_draw (hr.mono (by decide)) (by rfl) (pa_cons (pv 0) (pa_cons pe_int pa_nil))) pa_nil))))))) pa_nil)))
  (pss_cons (ps_set (i := 9) sc__law_of_houses.nd rfl (by first | exact .inl rfl | exact .inr rfl) (pe_op op_ADD (pv 9) (pe_lst (pa_cons (pe_tup (pa_cons pe_str (pa_cons (pv 2) (pa_cons (pv 3) (pa_cons (pv 7) (pa_cons (pv 8) (pa_cons (pe_op op_ADD pe_int (pe_cal c__law_draw (hr.mono (by decide)) (by rfl) (pa_cons (pv 0) (pa_cons pe_int pa_nil)))) pa_nil))))))) (pa_cons (pe_tup (pa_cons pe_str (pa_cons (pv 2) (pa_cons (pv 3) (pa_cons (pv 7) (pa_cons (pv 8) (pa_cons pe_int pa_nil))))))) pa_nil)))))
  (pss_one (ps_ret (pe_ix (r := rIx K) ix_seq (pe_op op_ADD (pv 9) (pe_lst (pa_cons (pe_tup (pa_cons pe_str (pa_cons (pv 2) (pa_cons (pv 3) (pa_cons (pe_ix (r := rIx K) ix_seq (pv 1) (pe_cal c__law_draw (hr.mono (by decide)) (by rfl) (pa_cons (pv 0) (pa_cons (pe_callB (r := rLEN K) cr_LEN (by rfl) T.len (by decide +kernel) (pa_cons (pv 1) pa_nil)) pa_nil))) (fun _ _ => rfl)) pa_nil))))) pa_nil))) (pe_cal c__law_draw (hr.mono (by decide)) (by rfl) (pa_cons (pv 0) (pa_cons pe_int pa_nil))) (fun _ _ => rfl)))))))), fun pen scr is x hR => ?_⟩)
  obtain ⟨ns, n, e, hs, ks⟩ := x
  obtain ⟨hns, hn, he0, he1, hhs, hks⟩ := hR
  dsimp only at hns hn he0 he1 hhs hks
  have hlh := hhs.lo
  have hlh2 := hhs.hi
  have hlk := hks.lo
  have hlk2 := hks.hi
  have hln := hns.lo
  have hln2 := hns.hi
  have hlhs : (hs.map PyData.str).length = hs.length := List.length_map ..
  dsimp only [OH.enc]
  walk_at "go"
  refine q_asg' (ev_draw (m := hs.length) rfl (Ev.is (ev_cb (by walk_at "ev") n_lenL) (by rw [hlhs])) (by omega) (by omega)) ?_
  rintro _ ⟨a, ⟨ha0, ha1⟩, rfl⟩
  obtain ⟨one, other, hone, hother, hne, at1', at2'⟩ := at_pair hhs.nd hlh ha0 ha1
  refine q_par (x := .str one) (y := .str other) (ea_cons (ev_op (by walk_at "ev") (by walk_at "ev") (o_ixL at1')) (ea_cons (ev_op (by walk_at "ev") (ev_op (by walk_at "ev") (by walk_at "ev") o_sub) (o_ixL at2')) ea_nil)) ?_
  have wone := hhs.words _ hone
  have wother := hhs.words _ hother
  refine q_asg' (P := fun d => ∃ k g, (k ∈ ks ∧ 0 ≤ g ∧ g < 10) ∧ d = .list [Page.d (.want n e one k g)]) (ev_lst' (PA := fun ds => ∃ k g, (k ∈ ks ∧ 0 ≤ g ∧ g < 10) ∧ ds = [Page.d (.want n e one k g)]) (ea_cons' (P := fun d => ∃ k g, (k ∈ ks ∧ 0 ≤ g ∧ g < 10) ∧ d = Page.d (.want n e one k g)) (PA := Eq [])
      (ev_tup' (ea_consQ (by walk_at "ev") (ea_consQ (by walk_at "ev") (ea_consQ (by walk_at "ev") (ea_consQ (by walk_at "ev") (ea_consP (ev_pick (xs := ks) (by walk_at "ev") (ev_draw rfl (Ev.is (ev_cb (by walk_at "ev") n_lenL) (by rw [List.length_map])) (by omega) (by omega))) (ea_consR (ev_draw (m := 10) rfl (by walk_at "ev") (by decide) (by decide)) ea_nil)))))) ?_ ?_) (fun _ _ => ea_nil) ?_) ?_ ?_) ?_
  · rintro _ ⟨_, ⟨_, ⟨_, ⟨_, ⟨_, _, ⟨k, hk, rfl⟩, ⟨_, ⟨g, hg, rfl⟩, rfl⟩, rfl⟩, rfl⟩, rfl⟩, rfl⟩, rfl⟩
    exact Nat.le_of_ble_eq_true rfl
  · rintro _ ⟨_, ⟨_, ⟨_, ⟨_, ⟨_, _, ⟨k, hk, rfl⟩, ⟨_, ⟨g, hg, rfl⟩, rfl⟩, rfl⟩, rfl⟩, rfl⟩, rfl⟩, rfl⟩
    exact ⟨k, g, ⟨hk, hg.1, hg.2⟩, rfl⟩
  · rintro _ _ ⟨k, g, h, rfl⟩ rfl
    exact ⟨k, g, h, rfl⟩
  · rintro _ ⟨k, g, h, rfl⟩
    exact Nat.le_of_ble_eq_true rfl
  · rintro _ ⟨k, g, h, rfl⟩
    exact ⟨k, g, h, rfl⟩
  rintro _ ⟨k, g, ⟨hk, hg0, hg1⟩, rfl⟩
  refine q_asg' (P := fun d => ∃ m, (1 ≤ m ∧ m ≤ 60) ∧ d = .list ([Page.want n e one k g, Page.owe n e one other m, Page.pay n e one other 7].map Page.d)) (ev_op' (P1 := Eq (.list [Page.d (.want n e one k g)])) (P2 := fun d => ∃ m, (1 ≤ m ∧ m ≤ 60) ∧ d = .list [Page.d (.owe n e one other m), Page.d (.pay n e one other 7)]) (by walk_at "ev") (fun _ _ =>
      ev_lst' (PA := fun ds => ∃ m, (1 ≤ m ∧ m ≤ 60) ∧ ds = [Page.d (.owe n e one other m), Page.d (.pay n e one other 7)]) (ea_cons' (P := fun d => ∃ m, (1 ≤ m ∧ m ≤ 60) ∧ d = Page.d (.owe n e one other m)) (PA := Eq [Page.d (.pay n e one other 7)])
        (ev_tup' (ea_consQ (by walk_at "ev") (ea_consQ (by walk_at "ev") (ea_consQ (by walk_at "ev") (ea_consQ (by walk_at "ev") (ea_consQ (by walk_at "ev") (ea_consR (P := fun d => ∃ m, (1 ≤ m ∧ m ≤ 60) ∧ d = PyData.int m) (ev_op' (P1 := Eq (.int 1)) (by walk_at "ev") (fun _ _ => ev_draw (m := 60) rfl (by walk_at "ev") (by decide) (by decide)) ?_) ea_nil)))))) ?_ ?_) (fun _ _ => ea_cons (by apply Ev.is; walk_at "ev"; rfl) ea_nil) ?_) ?_ ?_) ?_) ?_
  · rintro _ _ rfl ⟨x, hx, rfl⟩
    exact op_imp o_addI fun d z => ⟨1 + x, ⟨by omega, by omega⟩, z.symm⟩
  · rintro _ ⟨_, ⟨_, ⟨_, ⟨_, ⟨_, ⟨_, ⟨m, hm, rfl⟩, rfl⟩, rfl⟩, rfl⟩, rfl⟩, rfl⟩, rfl⟩
    exact Nat.le_of_ble_eq_true rfl
  · rintro _ ⟨_, ⟨_, ⟨_, ⟨_, ⟨_, ⟨_, ⟨m, hm, rfl⟩, rfl⟩, rfl⟩, rfl⟩, rfl⟩, rfl⟩, rfl⟩
    exact ⟨m, hm, rfl⟩
  · rintro _ _ ⟨m, h, rfl⟩ rfl
    exact ⟨m, h, rfl⟩
  · rintro _ ⟨m, h, rfl⟩
    exact Nat.le_of_ble_eq_true rfl
  · rintro _ ⟨m, h, rfl⟩
    exact ⟨m, h, rfl⟩
  · rintro _ _ rfl ⟨m, h, rfl⟩
    exact op_imp (o_addL (Nat.le_of_ble_eq_true rfl)) fun d z => ⟨m, h, z.symm⟩
  rintro _ ⟨m, ⟨hm0, hm1⟩, rfl⟩
  refine tr_ret ((ev_pickE (n := 4) (enc := Page.d) (PL := fun xs => ∃ q, q ∈ ns ∧ xs = [Page.want n e one k g, Page.owe n e one other m, Page.pay n e one other 7, Page.loose n e q])
    (ev_op' (P1 := Eq (.list ([Page.want n e one k g, Page.owe n e one other m, Page.pay n e one other 7].map Page.d))) (P2 := fun d => ∃ q, q ∈ ns ∧ d = .list [Page.d (.loose n e q)]) (by walk_at "ev") (fun _ _ =>
      ev_lst' (PA := fun ds => ∃ q, q ∈ ns ∧ ds = [Page.d (.loose n e q)]) (ea_cons' (P := fun d => ∃ q, q ∈ ns ∧ d = Page.d (.loose n e q)) (PA := Eq [])
        (ev_tup' (ea_consQ (by walk_at "ev") (ea_consQ (by walk_at "ev") (ea_consQ (by walk_at "ev") (ea_consR (ev_pick (xs := ns) (by walk_at "ev") (ev_draw rfl (Ev.is (ev_cb (by walk_at "ev") n_lenL) (by rw [List.length_map])) (by omega) (by omega))) ea_nil)))) ?_ ?_) (fun _ _ => ea_nil) ?_) ?_ ?_) ?_) ?_ (ev_draw (m := 4) rfl (by walk_at "ev") (by decide) (by decide))).imp ?_)
  · rintro _ ⟨_, ⟨_, ⟨_, ⟨_, ⟨q, hq, rfl⟩, rfl⟩, rfl⟩, rfl⟩, rfl⟩
    exact Nat.le_of_ble_eq_true rfl
  · rintro _ ⟨_, ⟨_, ⟨_, ⟨_, ⟨q, hq, rfl⟩, rfl⟩, rfl⟩, rfl⟩, rfl⟩
    exact ⟨q, hq, rfl⟩
  · rintro _ _ ⟨q, h, rfl⟩ rfl
    exact ⟨q, h, rfl⟩
  · rintro _ ⟨q, h, rfl⟩
    exact Nat.le_of_ble_eq_true rfl
  · rintro _ ⟨q, h, rfl⟩
    exact ⟨q, h, rfl⟩
  · rintro _ _ rfl ⟨q, h, rfl⟩
    exact op_imp (o_addL (Nat.le_of_ble_eq_true rfl)) fun d z => ⟨_, ⟨q, h, rfl⟩, z.symm⟩
  · rintro _ ⟨q, h, rfl⟩
    rfl
  · rintro d ⟨xs, ⟨q, hq, rfl⟩, p, hp, rfl⟩
    have wk := hks.words _ hk
    have i1 : ∀ h, h ∈ [one] → h ∈ hs := fun h z => by rw [List.mem_singleton.mp z]; exact hone
    have i2 : ∀ h, h ∈ [one, other] → h ∈ hs := fun h z => by
      rcases List.mem_cons.mp z with z | z
      · rw [z]; exact hone
      · rw [List.mem_singleton.mp z]; exact hother
    have i0 : ∀ k, k ∈ ([] : List Str) → k ∈ ks := fun h z => by cases z
    have i00 : ∀ k, k ∈ ([] : List Str) → k ∈ hs := fun h z => by cases z
    refine ⟨p, ?_, rfl⟩
    have G1 : goodH ns n e hs ks (.want n e one k g) := ⟨g_want hn he0 he1 wone wk hg0 (by omega), rfl, rfl, Nat.le_of_ble_eq_true rfl, i1, fun h z => by rw [List.mem_singleton.mp z]; exact hk, fun _ _ _ z => by cases z⟩
    have G2 : goodH ns n e hs ks (.owe n e one other m) := ⟨g_owe hn he0 he1 wone wother hne hm0 (by omega), rfl, rfl, Nat.le_of_ble_eq_true rfl, i2, i0, fun _ _ _ z => by cases z⟩
    have G3 : goodH ns n e hs ks (.pay n e one other 7) := ⟨g_pay hn he0 he1 wone wother hne (by decide) (by decide), rfl, rfl, Nat.le_of_ble_eq_true rfl, i2, i0, fun _ _ _ z => by cases z⟩
    have G4 : goodH ns n e hs ks (.loose n e q) := ⟨g_loose hn he0 he1 (hns.words _ hq), rfl, rfl, Nat.le_of_ble_eq_true rfl, i00, i0, fun _ _ _ z => by cases z; exact hq⟩
    exact fa_cons (Q := fun p => goodH ns n e hs ks p) G1 (fa_cons G2 (fa_cons G3 (fa_cons G4 fa_nil))) p hp
end
end K92
end
section -- K92F23
set_option maxRecDepth 100000
set_option maxHeartbeats 10000000
namespace K92
open PySem PySem.Spec PyProof.Rows L2
local macro_rules | `(tactic| walk_at "dc") => `(tactic| first | decide +kernel | with_reducible rfl)
local macro_rules | `(tactic| walk_at "bb") => `(tactic| first | exact Eq.trans (b := true) (by decide +kernel) rfl | exact Eq.trans (b := false) (by decide +kernel) rfl)
local macro_rules | `(tactic| walk_at "go") => `(tactic| dsimp only [cxOf, Cx.nox, startC, List.map_cons, List.map_nil, List.length_cons, List.length_nil])
local macro_rules | `(tactic| walk_at "at") => `(tactic| first | with_reducible exact at_if | with_reducible exact at0 _ _ | with_reducible exact at1 _ _ _ | with_reducible exact at2 _ _ _ _ | rfl | exact at_word _ | exact at_name _ | exact at_day _)
local macro_rules | `(tactic| walk_at "op") => `(tactic| first
  | ((with_reducible apply o_ixT); walk_at "at")
  | ((with_reducible apply o_ixL); walk_at "at")
  | with_reducible exact o_eqS
  | with_reducible exact o_eqI
  | with_reducible exact o_neS
  | with_reducible exact o_neI
  | with_reducible exact o_le
  | with_reducible exact o_lt
  | with_reducible exact o_addI
  | with_reducible exact o_sub
  | ((with_reducible apply o_inT); first | assumption | rfl)
  | ((with_reducible apply o_inL); first | assumption | rfl)
  | with_reducible exact o_inS
  | with_reducible exact o_neNS
  | ((with_reducible apply o_neD); assumption; assumption)
  | ((with_reducible apply o_eqD); assumption; assumption))
local macro_rules | `(tactic| walk_at "tg") => `(tactic| first
  | ((with_reducible apply tg_name); decide)
  | ((with_reducible apply tg_tupW); (walk_at "tg"); rfl)
  | with_reducible exact tgs_nil
  | ((with_reducible apply tgs_cons); (walk_at "tg"); (walk_at "tg")))
local macro_rules | `(tactic| walk_at "lc") => `(tactic| ((apply lcI); (walk_at "tg"); (apply EvT.is); (walk_at "ev"); rfl; (intro _); (apply Ev.is); (walk_at "ev"); rfl))
local macro_rules | `(tactic| walk_at "ev") => `(tactic| first
  | ((with_reducible apply ev_var); rfl)
  | with_reducible exact ev_str
  | with_reducible exact ev_int
  | with_reducible exact ev_bl
  | with_reducible exact ev_non
  | with_reducible exact ev_c (by assumption)
  | with_reducible exact ea_nil
  | ((with_reducible apply ev_op); (walk_at "ev"); (walk_at "ev"); (walk_at "op"))
  | ((with_reducible apply ea_cons); (walk_at "ev"); (walk_at "ev"))
  | ((with_reducible apply ev_tupW); (walk_at "ev"); exact Nat.le_of_ble_eq_true rfl)
  | ((with_reducible apply ev_lstW); (walk_at "ev"); exact Nat.le_of_ble_eq_true rfl)
  | ((with_reducible apply et_testD); walk_at "ev")
  | ((with_reducible apply et_B); walk_at "ev")
  | ((with_reducible apply et_not); walk_at "ev")
  | ((with_reducible apply et_andF); (walk_at "ev"); (walk_at "dc"))
  | ((with_reducible apply et_andT); (walk_at "ev"); (walk_at "dc"); (walk_at "ev"))
  | ((with_reducible apply et_and); (walk_at "ev"); intro _; (walk_at "ev"))
  | ((with_reducible apply et_orT); (walk_at "ev"); (walk_at "dc"))
  | ((with_reducible apply et_orF); (walk_at "ev"); (walk_at "dc"); (walk_at "ev"))
  | ((with_reducible apply et_or); (walk_at "ev"); intro _; (walk_at "ev"))
  | ((with_reducible apply ev_andVF); (walk_at "ev"); (walk_at "dc"))
  | ((with_reducible apply ev_andVT); (walk_at "ev"); (walk_at "dc"); (walk_at "ev"))
  | ((with_reducible apply ev_orVT); (walk_at "ev"); (walk_at "dc"))
  | ((with_reducible apply ev_orVF); (walk_at "ev"); (walk_at "dc"); (walk_at "ev"))
  | ((with_reducible apply ev_andV); (walk_at "ev"); intro _; (walk_at "ev"))
  | ((with_reducible apply ev_orV); (walk_at "ev"); intro _; (walk_at "ev"))
  | ((with_reducible apply ev_notV); walk_at "ev")
  | ((with_reducible apply ev_neg); (walk_at "ev"))
  | ((with_reducible apply ev_isNE); (walk_at "ev"))
  | ((with_reducible apply ev_notN); (walk_at "ev"))
  | with_reducible exact lc_T
  | with_reducible exact eo_none
  | ((with_reducible apply eo_some); (walk_at "ev"))
  | ((with_reducible apply ev_slT); (walk_at "ev"); (walk_at "ev"); (walk_at "ev"); (exact fun h => Nat.ne_of_beq_eq_false rfl h.2); first | exact cut2 | exact cut3 | rfl)
  | ((with_reducible apply ev_slL); (walk_at "ev"); (walk_at "ev"); (walk_at "ev"); rfl)
  | ((with_reducible apply ev_kd); (walk_at "ev"); assumption; assumption)
  | ((with_reducible apply ev_call); (walk_at "ev"); assumption)
  | ((with_reducible apply ev_cb); (walk_at "ev"); (walk_at "cb"))
  | ((with_reducible apply ev_isi); (walk_at "ev"); (walk_at "dc"))
  | ((with_reducible apply ev_lcM); (walk_at "ev"); (exact Nat.le_of_ble_eq_true rfl); (walk_at "pd"))
  | ((with_reducible apply ei_list); (walk_at "ev"))
  | ((with_reducible apply ei_tup); (walk_at "ev"))
  | ((with_reducible apply ei_zip); (walk_at "ev"); assumption))
local macro_rules | `(tactic| walk_at "pd") => `(tactic| first | exact Paired.nil | ((apply Paired.cons); (walk_at "lc"); (walk_at "pd")))
local macro_rules | `(tactic| walk_at "cb") => `(tactic| first
  | with_reducible exact n_lenL
  | with_reducible exact n_lenT
  | ((with_reducible apply n_lenS); assumption)
  | with_reducible exact n_intB
  | with_reducible exact n_abs
  | with_reducible exact n_min
  | with_reducible exact n_tupL
  | with_reducible exact n_lisT
  | with_reducible exact n_lisL)
local macro_rules | `(tactic| walk_at "tr") => `(tactic| first
  | ((with_reducible apply q_retF); (walk_at "ev"); (walk_at "dc"))
  | ((with_reducible apply q_retT); (walk_at "ev"); (walk_at "dc"))
  | ((with_reducible apply q_retB); (walk_at "ev"))
  | ((with_reducible apply tr_retI); (walk_at "ev"))
  | ((with_reducible apply q_par); (walk_at "ev"))
  | ((with_reducible apply q_par3); (walk_at "ev"))
  | ((with_reducible apply q_newL); intro _)
  | ((with_reducible apply q_newD); intro _)
  | ((with_reducible apply q_asgA); (walk_at "ev"); (walk_at "tg")))
local macro_rules | `(tactic| walk_at "if") => `(tactic| first
  | ((with_reducible apply q_app (k := 0)); rfl; rfl; assumption; (walk_at "ev"))
  | with_reducible apply q_as
  | with_reducible apply q_nx
  | ((with_reducible apply q_par); (walk_at "ev"))
  | ((with_reducible apply q_par3); (walk_at "ev"))
  | ((with_reducible apply q_iF); (walk_at "ev"); (walk_at "dc"))
  | ((with_reducible apply q_iT); (walk_at "ev"); (walk_at "dc"))
  | ((with_reducible apply q_i); (walk_at "ev"))
  | ((with_reducible apply q_rt); (walk_at "ev"))
  | ((with_reducible apply q_asgA); (walk_at "ev"); (walk_at "tg")))


/-! ### cuts of shaped rows -/
theorem layAll_mem : ∀ {ds : List PyData}, PyData.canLayAll0 ds = true → ∀ d, d ∈ ds → d.canLay0 = true
  | [], _, _, h => by cases h
  | x :: ds, h, d, hd => by
    obtain ⟨h1, h2⟩ := Bool.and_eq_true_iff.mp h
    rcases List.mem_cons.mp hd with e | hd
    · rw [e]; exact h1
    · exact layAll_mem h2 d hd
theorem depth_mem : ∀ {ds : List PyData}, ∀ d, d ∈ ds → d.depth ≤ PyData.depthAll ds
  | [], _, h => by cases h
  | x :: ds, d, hd => by
    rw [PyData.depthAll]
    rcases List.mem_cons.mp hd with e | hd
    · rw [e]; exact Nat.le_max_left ..
    · exact Nat.le_trans (depth_mem d hd) (Nat.le_max_right ..)
theorem cut_mem {ds : List PyData} {lo hi : Option Int} {d : PyData} (h : d ∈ cutD ds lo hi) : d ∈ ds := List.mem_of_mem_drop (List.mem_of_mem_take h)
theorem cut_sh {ds : List PyData} {lo hi : Option Int} (h : SeqAt.shaped (.tuple ds) = true) : SeqAt.shaped (.tuple (cutD ds lo hi)) = true := by
  obtain ⟨h1, h2⟩ := Bool.and_eq_true_iff.mp h
  have h2 := of_decide_eq_true h2
  refine Bool.and_eq_true_iff.mpr ⟨?_, decide_eq_true ?_⟩
  · rw [PyData.canLay0] at h1 ⊢
    exact layAll fun d hd => layAll_mem h1 d (cut_mem hd)
  · rw [PyData.depth] at h2 ⊢
    have := depthAll_le (ds := cutD ds lo hi) (n := PyData.depthAll ds) fun d hd => depth_mem d (cut_mem hd)
    omega
theorem notwhole {ds : List PyData} {a b : Nat} (h : 0 < ds.length) (ha : 0 < a) : ¬ (HT.sIx ds.length 0 (some (a : Int)) = 0 ∧ HT.sIx ds.length ds.length (some (b : Int)) = ds.length) := fun ⟨z, _⟩ => by
  rw [HT.sIx_nat] at z
  omega
theorem page_pos (p : Page) : 0 < p.ds.length := by
  obtain ⟨r, e⟩ := p.ds_head
  rw [e]
  exact Nat.succ_pos _
theorem LS.pos (s : LS) : 0 < s.ds.length := by
  obtain ⟨x, r, e⟩ := s.ds_head
  rw [e]
  exact Nat.succ_pos _
theorem getLS {l : List (Str × LS)} {k : Str} : (getE (asD LS.d l) k).getD (.tuple [.str "out"]) = LS.d ((getA l k).getD (.st .out)) := by
  rw [asD_get]
  cases getA l k <;> rfl
theorem getA_mem {α : Type} : ∀ {l : List (Str × α)} {k : Str} {v : α}, getA l k = some v → ∃ q, q ∈ l ∧ q.2 = v
  | [], _, _, h => by cases h
  | (j, e) :: r, k, v, h => by
    have h' : (if j = k then some e else getA r k) = some v := h
    by_cases z : j = k
    · rw [if_pos z] at h'
      cases h'
      exact ⟨_, List.mem_cons_self .., rfl⟩
    · rw [if_neg z] at h'
      obtain ⟨q, h1, h2⟩ := getA_mem h'
      exact ⟨q, List.mem_cons_of_mem _ h1, h2⟩
theorem putA_mem {α : Type} : ∀ {l : List (Str × α)} {k : Str} {v : α} {q : Str × α}, q ∈ putA l k v → q ∈ l ∨ q.2 = v
  | [], k, v, q, h => by
    have h' : q ∈ [(k, v)] := h
    rw [List.mem_singleton.mp h']
    exact .inr rfl
  | (j, e) :: r, k, v, q, h => by
    have h' : q ∈ (if j = k then (j, v) :: r else (j, e) :: putA r k v) := h
    by_cases z : j = k
    · rw [if_pos z] at h'
      rcases List.mem_cons.mp h' with e | h'
      · rw [e]; exact .inr rfl
      · exact .inl (List.mem_cons_of_mem _ h')
    · rw [if_neg z] at h'
      rcases List.mem_cons.mp h' with e | h'
      · rw [e]; exact .inl (List.mem_cons_self ..)
      · rcases putA_mem h' with h | h
        · exact .inl (List.mem_cons_of_mem _ h)
        · exact .inr h
/-- a page of the law's run -/
structure goodR (ns hs ts ks : List Str) (p : Page) : Prop where
  good : Page.good p
  houses : ∀ h, h ∈ p.houses → h ∈ hs
  things : ∀ h, h ∈ p.things → h ∈ ts
  kinds : ∀ k, k ∈ p.kinds → k ∈ ks
  loose : ∀ n e q, p = .loose n e q → q ∈ ns
theorem goodT.r {t n : Str} {e : Int} {ns hs ts ks : List Str} {p : Page} (g : goodT t n e hs ks p) (ht : t ∈ ts) : goodR ns hs ts ks p :=
  ⟨g.good, g.houses, fun h hh => by rw [g.things, List.mem_singleton] at hh; rw [hh]; exact ht, g.kinds, fun n e q z => by
    have := g.rank
    rw [z] at this
    exact absurd this (show ¬ 8 < 8 by decide)⟩
theorem goodH.r {n : Str} {e : Int} {ns hs ts ks : List Str} {p : Page} (g : goodH ns n e hs ks p) : goodR ns hs ts ks p :=
  ⟨g.good, g.houses, fun h hh => by
    have := g.rank
    cases p <;> first | (cases hh; done) | (simp [Page.rank] at this; done), g.kinds, g.loose⟩
structure ORun where
  ns : List Str
  hs : List Str
  ts : List Str
  ks : List Str
def ORun.enc (x : ORun) : List PyData := [.list (x.ns.map .str), .tuple [.list (x.hs.map .str), .list (x.ts.map .str), .list (x.ks.map .str)]]
structure ORun.pre (x : ORun) : Prop where
  ns : Wds 0 22 x.ns
  hs : Wds 2 4 x.hs
  ts : Wds 1 4 x.ts
  ks : Wds 1 3 x.ks
def R_run (x : ORun) (d : PyData) : Prop := ∃ ps : List Page, ps.map Page.name = x.ns ∧ (∀ p, p ∈ ps → goodR x.ns x.hs x.ts x.ks p) ∧ d = .list (ps.map Page.d)
section
variable {P : Program} {w : World} {K : PySem.W.Frag} {mg : Str → Option Value} {base : Heap}
abbrev N__law_run : List Str := ["_law_pen", "_law_names", "_law_sorts_here", "_law_houses", "_law_things", "_law_kinds", "_law_stands", "_law_found", "_law_day", "_law_name", "_law_thing", "_law_stand", "_law_page"]
theorem sc__law_run : FnScope N__law_run ["_law_pen", "_law_names", "_law_sorts_here"] (defScope s__law_run) := ⟨rfl, rfl, rfl, by decide +kernel, rfl, by decide +kernel, by decide +kernel⟩
theorem ok__law_run (T : Tx w K mg) (c__law_draw : Cal P w K mg base "_law_draw" ["_law_pen", "_law_many"] 1 (spP K Pre_draw R_draw))
    (c__law_here : Cal P w K mg base "_law_here" ["_law_stand", "_law_day"] 1 (spD K R_here)) (c__law_behind : Cal P w K mg base "_law_behind" ["_law_stand", "_law_page"] 1 (spD K R_behind))
    (c__law_of_thing : Cal P w K mg base "_law_of_thing" ["_law_pen", "_law_stand", "_law_thing", "_law_name", "_law_day", "_law_houses", "_law_kinds"] 2 (spQ K OT.enc OT.pre R_of_thing))
    (c__law_of_houses : Cal P w K mg base "_law_of_houses" ["_law_pen", "_law_names", "_law_name", "_law_day", "_law_houses", "_law_kinds"] 2 (spQ K OH.enc OH.pre R_of_houses)) :
    Cal P w K mg base "_law_run" ["_law_pen", "_law_names", "_law_sorts_here"] 3 (spQ K ORun.enc ORun.pre R_run) := by
  refine cal_penQ T.d__law_run sc__law_run (fun _ _ _ _ _ _ us hl => match us, hl with | [_, _, _], _ => rfl) (fun x => rfl) (fun f cdv A outer s H E hr => ⟨_,
    (pss_cons (ps_asg (pv 2) (pg_tup rfl (pgs_cons (pg_name (i := 3) sc__law_run.nd rfl (by first | exact .inl rfl | exact .inr rfl)) (pgs_cons (pg_name (i := 4) sc__law_run.nd rfl (by first | exact .inl rfl | exact .inr rfl)) (pgs_cons (pg_name (i := 5) sc__law_run.nd rfl (by first | exact .inl rfl | exact .inr rfl)) pgs_nil)))))
  (pss_cons (ps_set (i := 6) sc__law_run.nd rfl (by first | exact .inl rfl | exact .inr rfl) pe_dnewK)
  (pss_cons (ps_set (i := 7) sc__law_run.nd rfl (by first | exact .inl rfl | exact .inr rfl) (pe_lst pa_nil))
  (pss_cons (ps_set (i := 8) sc__law_run.nd rfl (by first | exact .inl rfl | exact .inr rfl) (pe_cal c__law_draw (hr.mono (by decide)) (by rfl) (pa_cons (pv 0) (pa_cons pe_int pa_nil))))
  (pss_cons (ps_for PassesOwn.never rfl (pi_list (pv 1)) (pg_name (i := 9) sc__law_run.nd rfl (by first | exact .inl rfl | exact .inr rfl)) (pss_cons (ps_set (i := 8) sc__law_run.nd rfl (by first | exact .inl rfl | exact .inr rfl) (pe_op op_ADD (pv 8) (pe_cal c__law_draw (hr.mono (by decide)) (by rfl) (pa_cons (pv 0) (pa_cons pe_int pa_nil)))))
  (pss_cons (ps_set (i := 10) sc__law_run.nd rfl (by first | exact .inl rfl | exact .inr rfl) (pe_ix (r := rIx K) ix_seq (pv 4) (pe_cal c__law_draw (hr.mono (by decide)) (by rfl) (pa_cons (pv 0) (pa_cons (pe_callB (r := rLEN K) cr_LEN (by rfl) T.len (by decide +kernel) (pa_cons (pv 4) pa_nil)) pa_nil))) (fun _ _ => rfl)))
  (pss_cons (ps_set (i := 11) sc__law_run.nd rfl (by first | exact .inl rfl | exact .inr rfl) (pe_cal c__law_here (hr.mono (by decide)) (by rfl) (pa_cons (pe_dget2 (u1 hr.units) (pv 6) (pv 10) (pe_tup (pa_cons pe_str pa_nil)) ⟨rfl, rfl, rfl, rfl⟩) (pa_cons (pv 8) pa_nil))))
  (pss_cons (ps_set (i := 12) sc__law_run.nd rfl (by first | exact .inl rfl | exact .inr rfl) (pe_cal c__law_of_thing (hr.mono (by decide)) (by rfl) (pa_cons (pv 0) (pa_cons (pv 11) (pa_cons (pv 10) (pa_cons (pv 9) (pa_cons (pv 8) (pa_cons (pv 3) (pa_cons (pv 5) pa_nil)))))))))
  (pss_cons (ps_if (pt_cmpR (r := rEQ K) (op_EQ hr.units) (pe_cal c__law_draw (hr.mono (by decide)) (by rfl) (pa_cons (pv 0) (pa_cons pe_int pa_nil))) pe_int (nomark _)) (pss_one (ps_set (i := 12) sc__law_run.nd rfl (by first | exact .inl rfl | exact .inr rfl) (pe_cal c__law_of_houses (hr.mono (by decide)) (by rfl) (pa_cons (pv 0) (pa_cons (pv 1) (pa_cons (pv 9) (pa_cons (pv 8) (pa_cons (pv 3) (pa_cons (pv 5) pa_nil))))))))) (pss_one (ps_if (PW.pt (pw_or (pt_cmpR (r := rIN K false) op_IN (pe_ix (r := rIx K) ix_seq (pv 12) pe_int (fun _ _ => rfl)) (pe_tup (pa_cons pe_str (pa_cons pe_str pa_nil))) rfl) (pw_or (pt_cmpR (r := rEQ K) (op_EQ hr.units) (pe_slice (r := rSL K) sl_SL (pv 12) (po_some pe_int) (po_some pe_int)) (pe_slice (r := rSL K) sl_SL (pv 11) (po_some pe_int) (po_some pe_int)) (nomark _)) (pw_or1 (pt_cmpR (r := rEQ K) (op_EQ hr.units) (pv 11) (pe_tup (pa_cons pe_str pa_nil)) (nomark _)))))) (pss_one (ps_dput (u1 hr.units) (pv 6) (pv 10) (pe_cal c__law_behind (hr.mono (by decide)) (by rfl) (pa_cons (pv 11) (pa_cons (pv 12) pa_nil))) rfl)) pss_nil)))
  (pss_one (ps_expr (pe_bm PySem.F.plainAttrs_list PySem.F.slot_list_append PySem.F.type_list_append mt_append (pv 7) (pa_cons (pv 12) pa_nil))))))))))
  (pss_one (ps_ret (pv 7)))))))), fun pen scr is x hR => ?_⟩)
  obtain ⟨ns, hs, ts, ks⟩ := x
  obtain ⟨hns, hhs, hts, hks⟩ := hR
  dsimp only at hns hhs hts hks
  have hlt := hts.lo
  have hlt2 := hts.hi
  have hln2 := hns.hi
  dsimp only [ORun.enc]
  walk_at "go"
  refine q_asgA (d := .tuple [.list (hs.map .str), .list (ts.map .str), .list (ks.map .str)]) (by walk_at "ev") (by walk_at "tg") ?_
  refine q_newD fun pd => ?_
  refine q_newL fun pf => ?_
  refine q_asg' (ev_draw (m := 900) rfl (by walk_at "ev") (by decide) (by decide)) ?_
  rintro _ ⟨day0, ⟨hd0, hd1⟩, rfl⟩
  refine q_forX (is := anyS) PyData.str ns (ei_list (by walk_at "ev")) (fun pre s' => ∃ (l : List (Str × LS)) (ps : List Page) (day : Int) (c9 c10 c11 c12 : Cell),
      s' = ([.ref pen, .val (.list (ns.map .str)), .val (.tuple [.list (hs.map .str), .list (ts.map .str), .list (ks.map .str)]), .val (.list (hs.map .str)), .val (.list (ts.map .str)), .val (.list (ks.map .str)), .ref pd, .ref pf, .val (.int day), c9, c10, c11, c12], [(pf, .lst (ps.map Page.d)), (pd, .dic (asD LS.d l))]) ∧
      (0 ≤ day ∧ day ≤ 899 + 2 * (pre.length : Nat)) ∧ l.length ≤ pre.length ∧ (∀ q, q ∈ l → q.2.inv hs) ∧ ps.map Page.name = pre ∧ ∀ p, p ∈ ps → goodR ns hs ts ks p)
    ⟨[], [], day0, _, _, _, _, rfl, ⟨hd0, by show day0 ≤ 899 + 2 * 0; omega⟩, Nat.le_refl _, fun q h => (by cases h), rfl, fun p h => (by cases h)⟩ ?_ ?_
  · rintro pre n post _ ens ⟨l, ps, day, c9, c10, c11, c12, rfl, ⟨hda0, hda1⟩, hll, hinv, hnames, hgood⟩
    have hnm : n ∈ ns := by rw [ens]; simp
    have hpl : pre.length < ns.length := by rw [ens, List.length_append, List.length_cons]; omega
    have wn := hns.words _ hnm
    have hpsl : ps.length = pre.length := by rw [← hnames, List.length_map]
    refine forI (by walk_at "tg") ?_
    refine q_asg' (P := fun d => ∃ e, (0 ≤ e ∧ e ≤ 899 + 2 * ((pre.length + 1 : Nat) : Int)) ∧ d = PyData.int e) (ev_op' (P1 := Eq (.int day)) (by walk_at "ev") (fun _ _ => ev_draw (m := 3) rfl (by walk_at "ev") (by decide) (by decide)) ?_) ?_
    · rintro _ _ rfl ⟨x, hx, rfl⟩
      exact op_imp o_addI fun d z => ⟨day + x, ⟨by omega, by omega⟩, z.symm⟩
    rintro _ ⟨e, ⟨he0, he1⟩, rfl⟩
    refine q_asg' (P := fun d => ∃ t, t ∈ ts ∧ d = PyData.str t) (ev_pick (xs := ts) (by walk_at "ev") (ev_draw rfl (Ev.is (ev_cb (by walk_at "ev") n_lenL) (by rw [List.length_map])) (by omega) (by omega))) ?_
    rintro _ ⟨t, ht, rfl⟩
    have wt := hts.words _ ht
    have hsi0 : ((getA l t).getD (.st .out)).inv hs := by
      cases z : getA l t with
      | none => exact trivial
      | some s =>
        obtain ⟨q, h1, h2⟩ := getA_mem z
        have h3 := hinv q h1
        rw [h2] at h3
        exact h3
    generalize hs0 : (getA l t).getD (.st .out) = s0 at hsi0
    have hsi : (lhere s0 e).inv hs := lhere_inv hsi0
    have rh : R_here [(getE (asD LS.d l) t).getD (.tuple [.str "out"]), .int e] (lhere s0 e).d := ⟨s0, e, by rw [getLS, hs0], rfl⟩
    refine q_asgS (d := (lhere s0 e).d) (es_call (eas_cons (es_dget2 (j := 1) (p := pd) rfl rfl (Ev.toS (by walk_at "ev")) (Ev.toS (by walk_at "ev"))) (eas_cons (Ev.toS (by walk_at "ev")) eas_nil)) rh) ?_
    generalize lhere s0 e = s at hsi
    have shs := LS.ok hhs.words hsi
    have pre1 : OT.pre ⟨s, t, n, e, hs, ks⟩ := ⟨hsi, wt, wn, he0, by show e ≤ 990; omega, hhs, hks⟩
    refine q_asg' (ev_callQ (x := (⟨s, t, n, e, hs, ks⟩ : OT)) (ds := OT.enc ⟨s, t, n, e, hs, ks⟩) rfl (by dsimp only [OT.enc]; walk_at "ev") rfl pre1) ?_
    rintro _ ⟨p, hgp, rfl⟩
    dsimp only at hgp
    have shp := Page.sh (Page.good.ok hgp.good)
    refine tr_seq (N1 := fun s' => ∃ (l' : List (Str × LS)) (p' : Page),
      s' = ([.ref pen, .val (.list (ns.map .str)), .val (.tuple [.list (hs.map .str), .list (ts.map .str), .list (ks.map .str)]), .val (.list (hs.map .str)), .val (.list (ts.map .str)), .val (.list (ks.map .str)), .ref pd, .ref pf, .val (.int e), .val (.str n), .val (.str t), .val s.d, .val p'.d], [(pf, .lst (ps.map Page.d)), (pd, .dic (asD LS.d l'))]) ∧
      l'.length ≤ pre.length + 1 ∧ (∀ q, q ∈ l' → q.2.inv hs) ∧ p'.name = n ∧ goodR ns hs ts ks p') ?_ ?_
    · refine tr_if' (PB := fun _ => True) (et_any (ev_opE (PX := fun x => 0 ≤ x ∧ x < 4) (ev_draw rfl (by walk_at "ev") (by decide) (by decide)) ev_int fun a ha => op_imp o_eqI fun d z => ⟨_, z.symm⟩)) (fun _ => ?_) fun _ => ?_
      · have pre2 : OH.pre ⟨ns, n, e, hs, ks⟩ := ⟨⟨by show 1 ≤ ns.length; omega, by show ns.length ≤ 26; omega, hns.words, hns.nd⟩, wn, he0, by show e ≤ 990; omega, hhs, hks⟩
        refine tr_asg' (ev_callQ (x := (⟨ns, n, e, hs, ks⟩ : OH)) (ds := OH.enc ⟨ns, n, e, hs, ks⟩) rfl (by dsimp only [OH.enc]; walk_at "ev") rfl pre2) ?_
        rintro _ ⟨p', hgp', rfl⟩
        exact ⟨l, p', rfl, Nat.le_succ_of_le hll, hinv, hgp'.name, hgp'.r⟩
      · refine tr_if' (PB := fun _ => True) ?_ (fun _ => ?_) fun _ => tr_next ⟨l, p, rfl, Nat.le_succ_of_le hll, hinv, hgp.name, hgp.r ht⟩
        · refine et_orP (PA := fun _ => True) (PB := fun _ => True) ((by apply EvT.is; walk_at "ev"; rfl : EvT _ _ _ _ (Eq _)).imp fun _ _ => trivial) (fun _ => ?_) (fun _ => trivial) fun _ _ _ => trivial
          refine et_orP (PA := fun _ => True) (PB := fun _ => True) ((et_testD (ev_op (ev_slT (lo := some 4) (hi := some 5) (ds := p.ds) (by walk_at "ev") (eo_some (by walk_at "ev")) (eo_some (by walk_at "ev")) (notwhole (a := 4) (b := 5) (page_pos p) (by decide)) rfl)
            (ev_slT (lo := some 1) (hi := some 2) (ds := s.ds) (by walk_at "ev") (eo_some (by walk_at "ev")) (eo_some (by walk_at "ev")) (notwhole (a := 1) (b := 2) (LS.pos s) (by decide)) rfl) (o_eqD (cut_sh shp) (cut_sh shs)))).imp fun _ _ => trivial) (fun _ => ?_) (fun _ => trivial) fun _ _ _ => trivial
          exact (et_testD (ev_op (by walk_at "ev") (by walk_at "ev") (o_eqD shs out_sh))).imp fun _ _ => trivial
        · have rb : R_behind [s.d, p.d] (lbehind s p).d := ⟨s, p, hgp.rank, rfl, rfl⟩
          refine tr_dput' (j := 1) (P := Eq (lbehind s p).d) (k := t) rfl rfl (by rw [asD_len]; omega) (by walk_at "ev") (by walk_at "ev") ?_
          rintro _ rfl
          refine ⟨putA l t (lbehind s p), p, ?_, Nat.le_trans putA_len (by omega), fun q hq => ?_, hgp.name, hgp.r ht⟩
          · rw [← asD_put]
            rfl
          · rcases putA_mem hq with h | h
            · exact hinv q h
            · rw [h]; exact lbehind_inv hsi hgp
    · rintro _ ⟨l', p', rfl, hll', hinv', hname', hgood'⟩
      refine tr_app (k := 0) (d := p'.d) rfl rfl (by rw [List.length_map]; omega) (by walk_at "ev") ?_
      refine ⟨l', ps ++ [p'], e, _, _, _, _, by rw [List.map_append]; rfl, ⟨he0, by rw [List.length_append, List.length_singleton]; exact he1⟩, by rw [List.length_append, List.length_singleton]; exact hll', hinv', by rw [List.map_append, hnames, List.map_singleton, hname'], fun q hq => ?_⟩
      rcases List.mem_append.mp hq with h | h
      · exact hgood q h
      · rw [List.mem_singleton.mp h]; exact hgood'
  · rintro _ ⟨l, ps, day, c9, c10, c11, c12, rfl, _, _, _, hnames, hgood⟩
    exact tr_retL (k := 0) rfl rfl ⟨ps, hnames, hgood, rfl⟩
end
end K92
end
section -- K92H
set_option maxRecDepth 100000
set_option maxHeartbeats 1000000
/-! The books of the law: what is asked of them; what is told is layable. -/
namespace K92
open PySem PySem.Spec PyProof.Rows L2
theorem len_of_sub : ∀ {l m : List Str}, l.Nodup → (∀ x, x ∈ l → x ∈ m) → l.length ≤ m.length
  | [], _, _, _ => Nat.zero_le _
  | a :: l, m, nd, h => by
    rw [List.nodup_cons] at nd
    have ha := h a (List.mem_cons_self ..)
    have ih := len_of_sub (l := l) (m := m.erase a) nd.2 fun x hx => (List.mem_erase_of_ne (fun e => nd.1 (by rw [← e]; exact hx))).mpr (h x (List.mem_cons_of_mem _ hx))
    rw [List.length_erase_of_mem ha] at ih
    have := List.length_pos_of_mem ha
    rw [List.length_cons]
    omega
theorem perm_map_inv {α β : Type} (f : α → β) {as bs : List β} (h : as.Perm bs) : ∀ ps : List α, bs = ps.map f → ∃ tp : List α, as = tp.map f ∧ tp.Perm ps := by
  induction h with
  | nil => intro ps e; exact ⟨[], rfl, by cases ps with | nil => exact List.Perm.refl _ | cons _ _ => cases e⟩
  | cons a _ ih =>
    intro ps e
    cases ps with
    | nil => cases e
    | cons p ps =>
      rw [List.map_cons] at e
      injection e with e1 e2
      obtain ⟨tp, h1, h2⟩ := ih ps e2
      exact ⟨p :: tp, by rw [e1, h1, List.map_cons], List.Perm.cons p h2⟩
  | swap a b l =>
    intro ps e
    cases ps with
    | nil => cases e
    | cons p ps =>
      cases ps with
      | nil => cases e
      | cons q ps =>
        rw [List.map_cons, List.map_cons] at e
        injection e with e1 e2
        injection e2 with e2 e3
        exact ⟨q :: p :: ps, by rw [e1, e2, e3, List.map_cons, List.map_cons], List.Perm.swap ..⟩
  | trans _ _ ih1 ih2 =>
    intro ps e
    obtain ⟨tp, h1, h2⟩ := ih2 ps e
    obtain ⟨tp2, h3, h4⟩ := ih1 tp h1
    exact ⟨tp2, h3, h4.trans h2⟩
theorem sortU_mem {x : Str} {xs : List Str} : x ∈ sortU xs ↔ x ∈ xs := by
  unfold sortU
  rw [(sortS_perm _).mem_iff]
  unfold keysOf
  rw [keysFrom_mem]
  simp
theorem sortU_nd (xs : List Str) : (sortU xs).Nodup := (sortS_perm _).nodup_iff.mpr (keysFrom_nd List.nodup_nil)
theorem sortU_ext {xs ys : List Str} (h : ∀ x, x ∈ xs ↔ x ∈ ys) : sortU xs = sortU ys := sortS_ext (keysFrom_nd List.nodup_nil) (keysFrom_nd List.nodup_nil) fun a => by
  unfold keysOf
  rw [keysFrom_mem, keysFrom_mem, h a]
theorem sortU_sortU (xs : List Str) : sortU (sortU xs) = sortU xs := sortU_ext fun _ => sortU_mem
theorem sortU_len {xs : List Str} (nd : xs.Nodup) : (sortU xs).length = xs.length := ((List.perm_ext_iff_of_nodup (sortU_nd xs) nd).mpr fun _ => sortU_mem).length_eq
theorem names_few {fn : Page → List Str} {qs : List Page} {ts : List Str} (h : ∀ p, p ∈ qs → ∀ t, t ∈ fn p → t ∈ ts) : (namesBy fn qs).length ≤ ts.length :=
  len_of_sub namesBy_nd fun x hx => by
    obtain ⟨p, hp, h2⟩ := namesBy_mem.mp hx
    exact h p hp x h2
/-- a book that is right for the law: over the houses hs, with things of ts, kinds of ks -/
structure Rt (hs ts ks : List Str) (b : Book) : Prop where
  houses : b.houses = sortU hs
  hw : Wds 2 4 hs
  tl : ts.length ≤ 16
  kl : ks.length ≤ 6
  good : ∀ p, p ∈ b.pages → Page.good p
  inH : ∀ p, p ∈ b.pages → ∀ h, h ∈ p.houses → h ∈ hs
  inT : ∀ p, p ∈ b.pages → ∀ t, t ∈ p.things → t ∈ ts
  inK : ∀ p, p ∈ b.pages → ∀ k, k ∈ p.kinds → k ∈ ks
  names : (b.pages.map Page.name).Nodup
  few : b.pages.length ≤ 30
section
variable {hs ts ks : List Str} {b : Book}
theorem Rt.ok (r : Rt hs ts ks b) : Book.ok b :=
  ⟨fun p hp => (r.good p hp).ok, r.few, fun h hh => word_ok (r.hw.words h (sortU_mem.mp (by rw [← r.houses]; exact hh))), by rw [r.houses, sortU_len r.hw.nd]; have := r.hw.hi; omega⟩
theorem Rt.made (r : Rt hs ts ks b) (h : sortP b.pages = b.pages) : Made b := ⟨h, r.names⟩
/-- the pages of a right book make a book again -/
theorem Rt.can (r : Rt hs ts ks b) {o : Book} (ho : o.houses = sortU hs) : o.can b.pages := by
  have e : sortU o.houses = sortU hs := by rw [ho, sortU_sortU]
  have hl := sortU_len r.hw.nd
  have h1 := r.hw.lo
  have h2 := r.hw.hi
  refine ⟨fun x hx => r.hw.words x (sortU_mem.mp (by rw [← ho]; exact hx)), by rw [ho]; omega, by rw [e]; omega, by rw [e]; omega, ?_⟩
  rw [e]
  exact ⟨r.good, r.names, r.few, fun p hp h hh => sortU_mem.mpr (r.inH p hp h hh), Nat.le_trans (names_few r.inT) r.tl, Nat.le_trans (names_few r.inK) r.kl⟩
/-- some of its pages, sorted -/
theorem Rt.sub (r : Rt hs ts ks b) {qs : List Page} (h : qs.Sublist b.pages) : Rt hs ts ks ⟨b.houses, qs⟩ :=
  ⟨r.houses, r.hw, r.tl, r.kl, fun p hp => r.good p (h.subset hp), fun p hp => r.inH p (h.subset hp), fun p hp => r.inT p (h.subset hp), fun p hp => r.inK p (h.subset hp), r.names.sublist (h.map _), Nat.le_trans h.length_le r.few⟩
theorem Rt.perm (r : Rt hs ts ks b) {qs : List Page} (h : qs.Perm b.pages) : Rt hs ts ks ⟨sortU b.houses, qs⟩ :=
  ⟨by rw [r.houses, sortU_sortU], r.hw, r.tl, r.kl, fun p hp => r.good p (h.mem_iff.mp hp), fun p hp => r.inH p (h.mem_iff.mp hp), fun p hp => r.inT p (h.mem_iff.mp hp), fun p hp => r.inK p (h.mem_iff.mp hp), (h.map _).nodup_iff.mpr r.names, by rw [h.length_eq]; exact r.few⟩
theorem Rt.sort (r : Rt hs ts ks b) : Rt hs ts ks ⟨sortU b.houses, sortP b.pages⟩ := r.perm (sortP_perm _)
theorem Rt.only (r : Rt hs ts ks b) (t : Str) : Rt hs ts ks (onlyB b t) := (r.sub (qs := pagesOf b.pages t) List.filter_sublist).sort
theorem Rt.rest (r : Rt hs ts ks b) : Rt hs ts ks (restB b) := (r.sub (qs := b.pages.filter isRest) List.filter_sublist).sort
theorem Rt.onlyCan (r : Rt hs ts ks b) (t : Str) : b.can (pagesOf b.pages t) := (r.sub (qs := pagesOf b.pages t) List.filter_sublist).can (o := b) r.houses
theorem Rt.restCan (r : Rt hs ts ks b) : b.can (b.pages.filter isRest) := (r.sub (qs := b.pages.filter isRest) List.filter_sublist).can (o := b) r.houses
theorem Rt.things (r : Rt hs ts ks b) {t : Str} (h : t ∈ thingsOf b.pages) : t ∈ ts := by
  obtain ⟨p, hp, ht⟩ := mem_thingsOf.mp h
  exact r.inT p hp t ht
theorem Rt.thingsLen (r : Rt hs ts ks b) : (thingsOf b.pages).length ≤ 16 := Nat.le_trans (names_few r.inT) r.tl
end
/-! ### layable -/
structure OkD (d : PyData) (n : Nat) : Prop where
  lay : d.canLay0 = true
  depth : d.depth ≤ n
theorem OkD.sh {d : PyData} {n : Nat} (h : OkD d n) (hn : n ≤ 64) : SeqAt.shaped d = true := Bool.and_eq_true_iff.mpr ⟨h.lay, decide_eq_true (Nat.le_trans h.depth hn)⟩
theorem OkD.list {ds : List PyData} {n : Nat} (h : ∀ d, d ∈ ds → OkD d n) : OkD (.list ds) (n + 1) := by
  refine ⟨?_, ?_⟩
  · rw [PyData.canLay0]
    exact layAll fun d hd => (h d hd).lay
  · rw [PyData.depth]
    have := depthAll_le (ds := ds) (n := n) fun d hd => (h d hd).depth
    omega
theorem OkD.tuple {ds : List PyData} {n : Nat} (h : ∀ d, d ∈ ds → OkD d n) : OkD (.tuple ds) (n + 1) := by
  refine ⟨?_, ?_⟩
  · rw [PyData.canLay0]
    exact layAll fun d hd => (h d hd).lay
  · rw [PyData.depth]
    have := depthAll_le (ds := ds) (n := n) fun d hd => (h d hd).depth
    omega
theorem OkD.str {x : Str} {n : Nat} (h : okS x) : OkD (.str x) n := ⟨h, by rw [PyData.depth]; exact Nat.zero_le _⟩
theorem OkD.bool {b : Bool} {n : Nat} : OkD (.bool b) n := ⟨rfl, by rw [PyData.depth]; exact Nat.zero_le _⟩
theorem OkD.none {n : Nat} : OkD .none n := ⟨rfl, by rw [PyData.depth]; exact Nat.zero_le _⟩
theorem OkD.stand {s : Stand} {n : Nat} (h : s.ok) : OkD s.d (n + 1) := ⟨h, by cases s <;> (simp only [Stand.ds, PyData.depth, PyData.depthAll]; omega)⟩
theorem OkD.mono {d : PyData} {m n : Nat} (h : OkD d m) (e : m ≤ n) : OkD d n := ⟨h.lay, Nat.le_trans h.depth e⟩
theorem trackFrom_ok : ∀ (ps : List Page) (g : Gst) (n : Nat), g.ok n → (∀ p, p ∈ ps → Page.ok p) → ∀ r, r ∈ trackFrom g ps → okS r.1 ∧ r.2.2.ok
  | [], _, _, _, _, r, h => by cases h
  | p :: ps, g, n, hg, hp, r, h => by
    have h1 := takes_ok (hp p (List.mem_cons_self ..)) hg
    rw [trackFrom] at h
    rcases List.mem_cons.mp h with e | h
    · rw [e]
      exact ⟨Page.ok_name (hp p (List.mem_cons_self ..)), h1.1⟩
    · exact trackFrom_ok ps _ _ h1 (fun q hq => hp q (List.mem_cons_of_mem _ hq)) r h
theorem out_ok : Stand.ok .out := by unfold Stand.ok; decide +kernel
theorem new_ok : Gst.ok 0 Gst.new := ⟨out_ok, Nat.le_refl _⟩
section
variable {b : Book} {t : Str}
theorem track_ok (hb : Book.ok b) : ∀ r, r ∈ track b t → okS r.1 ∧ r.2.2.ok := trackFrom_ok _ _ 0 new_ok fun p hp => ((pagesOf_ok hb).1 p hp).1
theorem fold_stand_ok {day : Int} : ∀ (l : List (Page × Row)) (s : Stand), s.ok → (∀ q, q ∈ l → q.2.2.2.ok) → (l.foldl (fun s q => if q.1.day ≤ day then q.2.2.2 else s) s).ok
  | [], _, h, _ => h
  | q :: l, s, h, hq => by
    rw [List.foldl_cons]
    refine fold_stand_ok l _ ?_ fun r hr => hq r (List.mem_cons_of_mem _ hr)
    split
    · exact hq q (List.mem_cons_self ..)
    · exact h
theorem standOf_ok (hb : Book.ok b) (day : Int) : (standOf (pagesOf b.pages t) (track b t) day).ok := by
  unfold standOf
  exact arrived_ok (fold_stand_ok _ _ out_ok fun q hq => (track_ok hb q.2 (List.of_mem_zip hq).2).2)
theorem kindOf_ok : ∀ {ps : List Page}, (∀ p, p ∈ ps → Page.ok p) → ∀ k, kindOf ps = some k → okS k
  | [], _, k, h => by cases h
  | p :: ps, hp, k, h => by
    have h1 := Page.ok_kinds (hp p (List.mem_cons_self ..))
    have ih := kindOf_ok (ps := ps) fun q hq => hp q (List.mem_cons_of_mem _ hq)
    cases p <;> first | exact ih k h | skip
    simp only [kindOf, Option.some.injEq] at h
    subst h
    exact h1 _ (by simp [Page.kinds])
theorem told_ok (hb : Book.ok b) (days : List Int) : OkD (.list (tell b t days)) 4 := by
  refine OkD.list fun d hd => ?_
  rcases List.mem_append.mp hd with h | h
  · rcases List.mem_cons.mp h with e | h
    · rw [e]
      refine OkD.list fun d hd => ?_
      obtain ⟨r, hr, rfl⟩ := List.mem_map.mp hd
      have k := track_ok hb r hr
      refine OkD.tuple fun d hd => ?_
      rcases List.mem_cons.mp hd with e | hd
      · rw [e]; exact .str k.1
      · rcases List.mem_cons.mp hd with e | hd
        · rw [e]; exact .bool
        · rw [List.mem_singleton.mp hd]; exact .stand k.2
    · rw [List.mem_singleton.mp h]
      cases e : kindOf (pagesOf b.pages t) with
      | none => exact OkD.none
      | some k => exact OkD.str (kindOf_ok (fun p hp => ((pagesOf_ok hb).1 p hp).1) k e)
  · obtain ⟨day, _, rfl⟩ := List.mem_map.mp h
    refine OkD.tuple fun d hd => ?_
    rcases List.mem_cons.mp hd with e | hd
    · rw [e]; exact .stand (standOf_ok hb day)
    · rcases List.mem_cons.mp hd with e | hd
      · rw [e]; exact .bool
      · rw [List.mem_singleton.mp hd]
        refine OkD.mono (OkD.list (n := 0) fun d hd => ?_) (by decide)
        obtain ⟨x, hx, rfl⟩ := List.mem_map.mp hd
        have hx' := (sortS_perm _).mem_iff.mp hx
        obtain ⟨p, hp, rfl⟩ := List.mem_map.mp hx'
        exact .str (Page.ok_name ((pagesOf_ok hb).1 p (List.mem_filter.mp hp).1).1)
theorem unfit_len (b : Book) : (unfit b).length ≤ b.pages.length := by
  unfold unfit
  rw [List.length_map]
  exact List.length_filter_le ..
/-- what is told hangs on the thing's pages alone -/
theorem tell_congr {o : Book} (h : pagesOf o.pages t = pagesOf b.pages t) (days : List Int) : tell o t days = tell b t days := by
  have e : track o t = track b t := by unfold track; rw [h]
  unfold tell
  rw [e, h]
  congr 1
  refine List.map_congr_left fun day _ => ?_
  unfold dayT openP
  rw [e, h]
end
end K92
end
section -- K92Y
set_option maxRecDepth 100000
set_option maxHeartbeats 1000000
/-! sum(lists, []): the lists one behind the other. -/
namespace PySem
open Sem (wp)
theorem k92_args_sum2 (a b : Value) : argsOk "sum" ⟨[a, b], []⟩ := by unfold argsOk; kernel_rfl
end PySem
namespace K92
open PySem PySem.Spec PyProof.Rows L2
theorem sl_str' : isSubtype (.type "list") (.type "str") = pure false := by rw [isSubtype_type]; kernel_rfl
theorem sl_bytes' : isSubtype (.type "list") (.type "bytes") = pure false := by rw [isSubtype_type]; kernel_rfl
theorem sl_barr' : isSubtype (.type "list") (.type "bytearray") = pure false := by rw [isSubtype_type]; kernel_rfl
section
variable {prog : Program} {w : World} {A : Around} {R : Result → Shared → Prop} {I l : Nat} {items : Array Value}
/-- the loop: T holds what is there of the sum -/
theorem sum_lists_loop (hh : A.in1.handled = none) (hne : l ≠ I) (S : Nat) (hIS : I < S) (hlS : l < S) (n0 : Nat) (hn0 : n0 ≤ S) (hnI : n0 ≤ I) (G : Nat → Option Obj) (hG : ∀ b o, G b = some o → b < n0) (xss : List (List Value)) (hx : xss.length = items.size)
    (hit : ∀ (i : Nat) (v : Value) (xs : List Value), items[i]? = some v → xss[i]? = some xs → ∃ (a : Nat) (c : Nat), v = .ref a ∧ G a = some { cls := .type "list", dict := none, data := .seq xs.toArray c, slots := #[] }) (hlen : xss.flatten.length ≤ sizeLine) (T0 : Nat) :
    ∀ (k i : Nat) (s : Shared) (T : Nat) (c e : Nat), items.size - i = k → i ≤ items.size → (s.heap.IsListIter I l i ∧ s.heap.IsList l items) → s.heap.get? S = some { cls := .type "list", dict := none, data := .seq #[.ref T] c, slots := #[] } →
    s.heap.get? T = some { cls := .type "list", dict := none, data := .seq (xss.take i).flatten.toArray e, slots := #[] } → ((i = 0 ∧ T = T0 ∧ T < n0) ∨ (0 < i ∧ S < T)) → (∀ b o, G b = some o → s.heap.get? b = some o) →
    (∀ h' tk (T : Nat) e, (∀ b o, G b = some o → h'.get? b = some o) → h'.get? T = some { cls := .type "list", dict := none, data := .seq xss.flatten.toArray e, slots := #[] } → ((items.size = 0 ∧ T = T0) ∨ (0 < items.size ∧ S < T)) → R (.ok (.ret (.ref T))) { s with heap := h', toks := tk }) →
    codeAny (model prog w) A (.builtin "sum.loop" ⟨[.ref I, .ref S, rawInt 2, rawInt 0], []⟩) R s := by
  have W := Walks.list (prog := prog) (w := w) hh I l hne items
  have hSw : S ∉ [I] := fun h => by rw [List.mem_singleton] at h; omega
  intro k
  induction k with
  | zero =>
    intro i s T c e hk hi hst hS hT hTT hGs hR
    have hin : i = items.size := by omega
    subst hin
    refine codeAny_builtin F.entry_sum_loop ?_
    rw [Around.under_plainId F.plain_sum_loop _]
    show wpAny _ A.in1 (seqItems? (.ref S) >>= _) _ _ s
    refine wpAny_bind (wpAny_seqItems hS rfl ?_)
    show wpAny _ A.in1 (tryCatch (pyNext (.ref I)) _ >>= _) _ _ s
    refine wpAny_bind (wpAny_tryCatch (W.done s _ _ hst fun h' tk hk' => ?_))
    have hTI : T ∉ [I] := fun h => by
      rw [List.mem_singleton] at h
      rcases hTT with ⟨_, _, z⟩ | ⟨_, z⟩ <;> omega
    refine wpAny_pure (hR h' tk T e (fun b o g => hk' b o (fun z => ?_) (hGs b o g)) (hk' T _ hTI (by rw [hT, List.take_of_length_le (by omega)])) ?_)
    · rw [List.mem_singleton] at z
      have := hG b o g
      rw [z] at this
      omega
    · rcases hTT with ⟨z, z2, _⟩ | z
      · exact .inl ⟨z, z2⟩
      · exact .inr z
  | succ k ih =>
    intro i s T c e hk hi hst hS hT hTT hGs hR
    have hlt : i < items.size := by omega
    refine codeAny_builtin F.entry_sum_loop ?_
    rw [Around.under_plainId F.plain_sum_loop _]
    show wpAny _ A.in1 (seqItems? (.ref S) >>= _) _ _ s
    refine wpAny_bind (wpAny_seqItems hS rfl ?_)
    show wpAny _ A.in1 (tryCatch (pyNext (.ref I)) _ >>= _) _ _ s
    refine wpAny_bind (wpAny_tryCatch (W.item i s _ _ hlt hst fun v h' tk hP hst' hk' => ?_))
    have hxi : xss[i]? = some (xss[i]'(by omega)) := List.getElem?_eq_getElem (by omega)
    obtain ⟨a, ca, rfl, hGa⟩ := hit i v _ hP hxi
    have hTI : T ∉ [I] := fun h => by
      rw [List.mem_singleton] at h
      rcases hTT with ⟨_, _, z⟩ | ⟨_, z⟩ <;> omega
    have hTS : T ≠ S := fun z => by rcases hTT with ⟨_, _, z⟩ | ⟨_, z⟩ <;> omega
    have hS' := hk' S _ hSw hS
    have hT' := hk' T _ hTI hT
    have hGs' : ∀ b o, G b = some o → h'.get? b = some o := fun b o g => hk' b o (fun z => by rw [List.mem_singleton] at z; have := hG b o g; rw [z] at this; omega) (hGs b o g)
    have ha := hGs' a _ hGa
    have hsz : (xss.take i).flatten.length + (xss[i]'(by omega)).length ≤ sizeLine := by
      have e1 : (xss.take (i + 1)).flatten.length = (xss.take i).flatten.length + (xss[i]'(by omega)).length := by
        rw [List.take_add_one, hxi, List.flatten_append, List.length_append]
        simp
      have e2 : (xss.take (i + 1)).flatten.length ≤ xss.flatten.length := by
        conv => rhs; rw [← List.take_append_drop (i + 1) xss, List.flatten_append, List.length_append]
        omega
      omega
    show wpAny _ A.in1 ((holding [Value.ref a] (binaryOp .Add (.ref T) (.ref a))).attempt >>= _) _ _ _
    refine wpAny_bind (wpAny_attempt (wpAny_holding (PySem.P.add_list hT' ha ?_ (by rw [List.size_toArray, List.size_toArray]; exact hsz))))
    have hSlt : S < h'.objs.size := Heap.lt_size hS'
    have hS2 : (h'.push { cls := .type "list", data := .seq ((xss.take i).flatten.toArray ++ (xss[i]'(by omega)).toArray) }).get? S = _ := Heap.get?_push_of_some _ hS'
    show wpAny _ A.in1 (updateSeq S (fun _ => #[.ref h'.objs.size]) >>= _) _ _ _
    refine wpAny_bind ?_
    refine wpAny_updateSeq hS2 rfl ?_
    have hS3 := Heap.get?_update_self (Obj.mapSeq fun _ => #[Value.ref h'.objs.size]) hS2 rfl
    refine wpAny_bind (wpAny_letGo ?_)
    refine wpAny_bind ?_
    refine wpAny_updateSeq hS3 rfl (wpAny_pure ⟨plainId_quiet F.plain_sum_loop _, ih (i + 1) _ h'.objs.size _ 0 (by omega) hlt ?_ (Heap.get?_update_self _ hS3 rfl) ?_ (.inr ⟨Nat.succ_pos _, hSlt⟩) (fun b o g => ?_) fun h'' tk'' T'' e'' k1 k2 k3 => ?_⟩)
    · refine W.frame _ _ _ hst' fun b hb o e => ?_
      have hbS : b ≠ S := fun z => by
        rcases List.mem_cons.mp hb with h | h
        · exact absurd (z.symm.trans h) (Nat.ne_of_gt hIS)
        · rw [List.mem_singleton] at h; exact absurd (z.symm.trans h) (Nat.ne_of_gt hlS)
      exact (Heap.get?_update_other _ _ (Ne.symm hbS)).trans ((Heap.get?_update_other _ _ (Ne.symm hbS)).trans (Heap.get?_push_of_some _ e))
    · have hne2 : S ≠ h'.objs.size := Nat.ne_of_lt hSlt
      refine (Heap.get?_update_other _ _ hne2).trans ((Heap.get?_update_other _ _ hne2).trans ((Heap.get?_push_size _ rfl).trans ?_))
      congr 2
      rw [List.take_add_one, hxi, List.flatten_append]
      simp
    · have hbS : b ≠ S := fun z => by have := hG b o g; rw [z] at this; omega
      exact (Heap.get?_update_other _ _ (Ne.symm hbS)).trans ((Heap.get?_update_other _ _ (Ne.symm hbS)).trans (Heap.get?_push_of_some _ (hGs' b o g)))
    · exact hR h'' tk'' T'' e'' k1 k2 k3
end
section
variable {prog : Program} {w : World} {A : Around} {E : Value → Shared → Prop} {s : Shared}
theorem call_sum_lists (hh : A.handled = none) {l e0 : Nat} {items : Array Value} {ce : Nat} {Q : Value → Shared → Prop} (hl : s.heap.IsList l items) (he : s.heap.get? e0 = some { cls := .type "list", dict := none, data := .seq #[] ce, slots := #[] }) (xss : List (List Value)) (hx : xss.length = items.size)
    (hit : ∀ (i : Nat) (v : Value) (xs : List Value), items[i]? = some v → xss[i]? = some xs → ∃ (a : Nat) (c : Nat), v = .ref a ∧ s.heap.get? a = some { cls := .type "list", dict := none, data := .seq xs.toArray c, slots := #[] }) (hlen : xss.flatten.length ≤ sizeLine)
    (h : ∀ h' tk (T : Nat) e, (∀ b o, s.heap.get? b = some o → h'.get? b = some o) → h'.get? T = some { cls := .type "list", dict := none, data := .seq xss.flatten.toArray e, slots := #[] } → ((items.size = 0 ∧ T = e0) ∨ (0 < items.size ∧ s.heap.objs.size ≤ T)) → Q (.ref T) { s with heap := h', toks := tk }) :
    wpAny (model prog w) A (call (.builtin "sum") [.ref l, .ref e0]) Q E s := by
  have hlt : l < s.heap.objs.size := by obtain ⟨_, e, _⟩ := hl; exact Heap.lt_size e
  have hle : e0 < s.heap.objs.size := Heap.lt_size he
  refine call_function_tree F.kind_sum F.plain_sum F.entry_sum (PySem.k92_args_sum2 _ _) ?_
  unfold Builtin.«sum»
  simp only [List.length_cons, List.length_nil]
  rw [if_neg (by decide)]
  refine wpAny_bind (wpAny_of_eq (show Builtin.Builtins.bindParams "sum" ["start"] 0 ⟨[.ref e0], []⟩ = pure [some (.ref e0)] from rfl) ?_)
  refine wpAny_bind (wpAny_pyIter_list hl ?_)
  refine wpAny_bind (wpAny_pure ?_)
  have he2 : (s.heap.push { cls := .type "list_iterator", data := .fields #[.ref l, .int 0 0] }).get? e0 = _ := Heap.get?_push_of_some _ he
  have ht : ({ s with heap := s.heap.push { cls := .type "list_iterator", data := .fields #[.ref l, .int 0 0] } } : Shared).TypeIs (.ref e0) "list" := ⟨_, he2, rfl⟩
  simp only [List.forIn_cons, List.forIn_nil]
  refine wpAny_bind (wpAny_bind (wpAny_bind (wpAny_isInstance (T := "list") (b := false) ht sl_str' ?_)))
  simp only [Bool.false_eq_true, if_false]
  refine wpAny_pure (wpAny_bind (wpAny_bind (wpAny_isInstance (T := "list") (b := false) ht sl_bytes' ?_)))
  simp only [Bool.false_eq_true, if_false]
  refine wpAny_pure (wpAny_bind (wpAny_bind (wpAny_isInstance (T := "list") (b := false) ht sl_barr' ?_)))
  simp only [Bool.false_eq_true, if_false]
  refine wpAny_pure (wpAny_pure ?_)
  refine wpAny_bind (wpAny_newObj_type ?_)
  have hsz : (s.heap.push { cls := .type "list_iterator", data := .fields #[.ref l, .int 0 0] }).objs.size = s.heap.objs.size + 1 := Heap.size_push _ _
  have hS0 : ∀ o2 : Obj, ((s.heap.push { cls := .type "list_iterator", data := .fields #[.ref l, .int 0 0] }).push o2).get? s.heap.objs.size = some { cls := .type "list_iterator", data := .fields #[.ref l, .int 0 0] } := fun o2 => Heap.get?_push_of_some _ (Heap.get?_push_size _ rfl)
  have hkk : ∀ (o1 o2 : Obj) b o, s.heap.get? b = some o → ((s.heap.push o1).push o2).get? b = some o := fun o1 o2 b o e => Heap.get?_push_of_some _ (Heap.get?_push_of_some _ e)
  refine wpAny_pure ⟨plainId_quiet F.plain_sum_loop _, sum_lists_loop (l := l) (items := items) hh (Nat.ne_of_lt hlt) (s.heap.push { cls := .type "list_iterator", data := .fields #[.ref l, .int 0 0] }).objs.size (by rw [hsz]; exact Nat.lt_succ_self _) (by rw [hsz]; omega) s.heap.objs.size (by rw [hsz]; omega) (Nat.le_refl _) s.heap.get? (fun b o g => Heap.lt_size g) xss hx hit hlen e0
    items.size 0 _ e0 0 ce rfl (Nat.zero_le _) ⟨⟨_, hS0 _, rfl, rfl⟩, ?_⟩ (Heap.get?_push_size _ rfl) (hkk _ _ _ _ he) (.inl ⟨rfl, rfl, hle⟩) (fun b o g => hkk _ _ b o g) fun h' tk T e k1 k2 k3 => ?_⟩
  · exact (hl.push _).push _
  · refine h h' tk T e k1 k2 ?_
    rcases k3 with k3 | ⟨k3, k4⟩
    · exact .inl k3
    · exact .inr ⟨k3, by rw [hsz] at k4; omega⟩
end
theorem vals_refs : ∀ {as : List Addr} {us : List Value}, Vals (as.map V.ref) us → us = as.map Value.ref
  | [], us, h => by cases h; rfl
  | a :: as, us, h => by
    rw [List.map_cons] at h
    cases h with
    | cons r t =>
      cases r
      rw [vals_refs t, List.map_cons]
theorem vals_app : ∀ {xs ys : List V} {us ws : List Value}, Vals xs us → Vals ys ws → Vals (xs ++ ys) (us ++ ws)
  | _, _, _, _, .nil, h => h
  | _, _, _, _, .cons r t, h => .cons r (vals_app t h)
theorem vals_flat : ∀ {xss : List (List V)} {yss : List (List Value)}, Paired Vals xss yss → Vals xss.flatten yss.flatten
  | _, _, .nil => .nil
  | _, _, .cons r t => by rw [List.flatten_cons, List.flatten_cons]; exact vals_app r (vals_flat t)
def rSumL (K : PySem.W.Frag) : List V → Hp → VK → Prop := fun vs H Q => ∃ (a e0 : Addr) (as : List Addr) (xss : List (List V)), vs = [.ref a, .ref e0] ∧ SqL K H a (as.map V.ref) ∧ H e0 = some (.lst []) ∧ Paired (fun p xs => H p = some (.lst xs)) as xss ∧ xss.flatten.length ≤ sizeLine ∧
  (as = [] → Q (.ref e0) H) ∧ ∀ p, H p = none → Q (.ref p) (upd H p (.lst xss.flatten))
section
variable {X : Cx}
theorem sum_objs {pins : List (Addr × Obj)} {s : Shared} {σ : L2.St} {H : Hp} (I : Inv X pins σ H s) : ∀ {as : List Addr} {xss : List (List V)}, Paired (fun p xs => H p = some (.lst xs)) as xss → ∃ yss : List (List Value), Paired Vals xss yss ∧ Paired (fun p ys => ∃ n, s.heap.get? p = some { cls := .type "list", dict := none, data := .seq (List.toArray ys) n, slots := #[] }) as yss
  | _, _, .nil => ⟨[], .nil, .nil⟩
  | _, _, .cons h t => by
    obtain ⟨yss, h1, h2⟩ := sum_objs I t
    obtain ⟨z, its, n, r, hl, e⟩ := I.lstM h
    exact ⟨its :: yss, .cons r h1, .cons ⟨n, e⟩ h2⟩
theorem cr_SUML (hc : X.calm = true) : CallR X (.builtin "sum") (rSumL X.K) := by
  intro pins s σ H vs us Q I r h
  obtain ⟨a, e0, as, xss, rfl, hs, he, hp, hlen, q0, q1⟩ := h
  obtain ⟨its, rv, hl, _⟩ := I.list hs
  have hits := vals_refs rv
  subst hits
  have hus : us = [.ref a, .ref e0] := by
    cases r with
    | cons r1 t =>
      cases t with
      | cons r2 t =>
        cases t
        cases r1
        cases r2
        rfl
  subst hus
  obtain ⟨yss, hy1, hy2⟩ := sum_objs I hp
  obtain ⟨z0, its0, n0, r0, hl0, e0'⟩ := I.lstM he
  have h00 : its0 = [] := by cases r0; rfl
  subst h00
  have hfl := vals_flat hy1
  have hl1 : yss.flatten.length = xss.flatten.length := (Paired.length hfl).symm
  refine call_sum_lists (I.ok.hd hc) hl.isList e0' yss (by rw [List.size_toArray, List.length_map]; exact (Paired.length hy2).symm) (fun i v xs hi hx => ?_) (by omega) fun h' tk T e k1 k2 k3 => ?_
  · rw [List.getElem?_toArray, List.getElem?_map] at hi
    cases ha : as[i]? with
    | none => rw [ha] at hi; cases hi
    | some p =>
      rw [ha] at hi
      cases hi
      obtain ⟨ys, e1, n, e2⟩ := pairedGet hy2 ha
      rw [hx] at e1
      cases e1
      exact ⟨p, n, rfl, e2⟩
  · rcases k3 with ⟨k3, k4⟩ | ⟨k3, k4⟩
    · have ha : as = [] := by
        rw [List.size_toArray, List.length_map] at k3
        exact List.eq_nil_of_length_eq_zero k3
      subst k4
      exact ⟨.ref T, H, I.kept k1, rfl, q0 ha⟩
    · exact ⟨.ref T, upd H T (.lst xss.flatten), I.laid (t' := tk) k1 k4 ⟨hlen, yss.flatten, e, hfl, k2⟩, rfl, q1 T (I.hok.fresh k4)⟩
end
section
variable {C : Ctx} {K : PySem.W.Frag}
theorem rp_lists {B : Hp} : ∀ {vs : List V} {xss : List (List PyData)}, RpAll K B vs (xss.map PyData.list) → ∃ as : List Addr, vs = as.map V.ref ∧ ∃ yss : List (List V), Paired (fun p xs => B p = some (.lst xs)) as yss ∧ RpAll K B yss.flatten xss.flatten
  | _, [], h => by
    cases h
    exact ⟨[], rfl, [], .nil, .nil⟩
  | _, xs :: xss, h => by
    rw [List.map_cons] at h
    cases h with
    | cons h1 h2 =>
      obtain ⟨as, e, yss, h3, h4⟩ := rp_lists h2
      subst e
      cases h1 with
      | lst hs ha => exact ⟨_ :: as, rfl, _ :: yss, .cons hs h3, by rw [List.flatten_cons, List.flatten_cons]; exact ha.append h4⟩
theorem n_sumL {xss : List (List PyData)} (hl : xss.flatten.length ≤ 100000) : OpN C K (rSumL K) [.list (xss.map PyData.list), .list []] (Eq (.list xss.flatten)) := fun B H vs r o Q q => by
  cases r with
  | cons r1 r2 =>
    cases r2 with
    | cons r2 r3 =>
      cases r3
      cases r1 with
      | lst hs ha =>
        have h2 := r2
        cases r2 with
        | lst hs2 ha2 =>
          cases ha2
          obtain ⟨as, e, yss, h3, h4⟩ := rp_lists ha
          subst e
          refine ⟨_, _, as, yss, rfl, SqL.of (o.ex _ _ hs), o.ex _ _ hs2, Paired.mono (fun _ _ h => o.ex _ _ h) h3, by rw [h4.length]; exact sz_ok hl, fun ea => ?_, fun p hp => ?_⟩
          · subst ea
            cases h3
            have ex : xss.flatten = [] := List.eq_nil_of_length_eq_zero h4.length.symm
            rw [ex] at q
            exact q _ _ B H rfl (Gr.refl o) h2
          · have g := Gr.new o (.lst yss.flatten) hp
            exact q _ _ _ _ rfl g (.lst upd_same (h4.mono g.bb))
end
end K92
end
section -- K92F25
set_option maxRecDepth 100000
set_option maxHeartbeats 20000000
namespace K92
open PySem PySem.Spec PyProof.Rows L2
local macro_rules | `(tactic| walk_at "dc") => `(tactic| first | decide +kernel | with_reducible rfl)
local macro_rules | `(tactic| walk_at "bb") => `(tactic| first | exact Eq.trans (b := true) (by decide +kernel) rfl | exact Eq.trans (b := false) (by decide +kernel) rfl)
local macro_rules | `(tactic| walk_at "go") => `(tactic| dsimp only [cxOf, Cx.nox, startC, List.map_cons, List.map_nil, List.length_cons, List.length_nil])
local macro_rules | `(tactic| walk_at "at") => `(tactic| first | with_reducible exact at_if | with_reducible exact at0 _ _ | with_reducible exact at1 _ _ _ | with_reducible exact at2 _ _ _ _ | rfl | exact at_word _ | exact at_name _ | exact at_day _)
local macro_rules | `(tactic| walk_at "op") => `(tactic| first
  | ((with_reducible apply o_ixT); walk_at "at")
  | ((with_reducible apply o_ixL); walk_at "at")
  | with_reducible exact o_eqS
  | with_reducible exact o_eqI
  | with_reducible exact o_neS
  | with_reducible exact o_neI
  | with_reducible exact o_le
  | with_reducible exact o_lt
  | with_reducible exact o_addI
  | with_reducible exact o_sub
  | ((with_reducible apply o_inT); first | assumption | rfl)
  | ((with_reducible apply o_inL); first | assumption | rfl)
  | with_reducible exact o_inS
  | with_reducible exact o_neNS
  | ((with_reducible apply o_neD); assumption; assumption)
  | ((with_reducible apply o_eqD); assumption; assumption))
local macro_rules | `(tactic| walk_at "tg") => `(tactic| first
  | ((with_reducible apply tg_name); decide)
  | ((with_reducible apply tg_tupW); (walk_at "tg"); rfl)
  | with_reducible exact tgs_nil
  | ((with_reducible apply tgs_cons); (walk_at "tg"); (walk_at "tg")))
local macro_rules | `(tactic| walk_at "lc") => `(tactic| ((apply lcI); (walk_at "tg"); (apply EvT.is); (walk_at "ev"); rfl; (intro _); (apply Ev.is); (walk_at "ev"); rfl))
local macro_rules | `(tactic| walk_at "ev") => `(tactic| first
  | ((with_reducible apply ev_var); rfl)
  | with_reducible exact ev_str
  | with_reducible exact ev_int
  | with_reducible exact ev_bl
  | with_reducible exact ev_non
  | with_reducible exact ev_c (by assumption)
  | with_reducible exact ea_nil
  | ((with_reducible apply ev_op); (walk_at "ev"); (walk_at "ev"); (walk_at "op"))
  | ((with_reducible apply ea_cons); (walk_at "ev"); (walk_at "ev"))
  | ((with_reducible apply ev_tupW); (walk_at "ev"); exact Nat.le_of_ble_eq_true rfl)
  | ((with_reducible apply ev_lstW); (walk_at "ev"); exact Nat.le_of_ble_eq_true rfl)
  | ((with_reducible apply et_testD); walk_at "ev")
  | ((with_reducible apply et_B); walk_at "ev")
  | ((with_reducible apply et_not); walk_at "ev")
  | ((with_reducible apply et_andF); (walk_at "ev"); (walk_at "dc"))
  | ((with_reducible apply et_andT); (walk_at "ev"); (walk_at "dc"); (walk_at "ev"))
  | ((with_reducible apply et_and); (walk_at "ev"); intro _; (walk_at "ev"))
  | ((with_reducible apply et_orT); (walk_at "ev"); (walk_at "dc"))
  | ((with_reducible apply et_orF); (walk_at "ev"); (walk_at "dc"); (walk_at "ev"))
  | ((with_reducible apply et_or); (walk_at "ev"); intro _; (walk_at "ev"))
  | ((with_reducible apply ev_andVF); (walk_at "ev"); (walk_at "dc"))
  | ((with_reducible apply ev_andVT); (walk_at "ev"); (walk_at "dc"); (walk_at "ev"))
  | ((with_reducible apply ev_orVT); (walk_at "ev"); (walk_at "dc"))
  | ((with_reducible apply ev_orVF); (walk_at "ev"); (walk_at "dc"); (walk_at "ev"))
  | ((with_reducible apply ev_andV); (walk_at "ev"); intro _; (walk_at "ev"))
  | ((with_reducible apply ev_orV); (walk_at "ev"); intro _; (walk_at "ev"))
  | ((with_reducible apply ev_notV); walk_at "ev")
  | ((with_reducible apply ev_neg); (walk_at "ev"))
  | ((with_reducible apply ev_isNE); (walk_at "ev"))
  | ((with_reducible apply ev_notN); (walk_at "ev"))
  | with_reducible exact lc_T
  | with_reducible exact eo_none
  | ((with_reducible apply eo_some); (walk_at "ev"))
  | ((with_reducible apply ev_slT); (walk_at "ev"); (walk_at "ev"); (walk_at "ev"); (exact fun h => Nat.ne_of_beq_eq_false rfl h.2); first | exact cut2 | exact cut3 | rfl)
  | ((with_reducible apply ev_slL); (walk_at "ev"); (walk_at "ev"); (walk_at "ev"); rfl)
  | ((with_reducible apply ev_kd); (walk_at "ev"); assumption; assumption)
  | ((with_reducible apply ev_call); (walk_at "ev"); assumption)
  | ((with_reducible apply ev_cb); (walk_at "ev"); (walk_at "cb"))
  | ((with_reducible apply ev_isi); (walk_at "ev"); (walk_at "dc"))
  | ((with_reducible apply ev_lcM); (walk_at "ev"); (exact Nat.le_of_ble_eq_true rfl); (walk_at "pd"))
  | ((with_reducible apply ei_list); (walk_at "ev"))
  | ((with_reducible apply ei_tup); (walk_at "ev"))
  | ((with_reducible apply ei_zip); (walk_at "ev"); assumption))
local macro_rules | `(tactic| walk_at "pd") => `(tactic| first | exact Paired.nil | ((apply Paired.cons); (walk_at "lc"); (walk_at "pd")))
local macro_rules | `(tactic| walk_at "cb") => `(tactic| first
  | with_reducible exact n_lenL
  | with_reducible exact n_lenT
  | ((with_reducible apply n_lenS); assumption)
  | with_reducible exact n_intB
  | with_reducible exact n_abs
  | with_reducible exact n_min
  | with_reducible exact n_tupL
  | with_reducible exact n_lisT
  | with_reducible exact n_lisL)
local macro_rules | `(tactic| walk_at "tr") => `(tactic| first
  | ((with_reducible apply q_retF); (walk_at "ev"); (walk_at "dc"))
  | ((with_reducible apply q_retT); (walk_at "ev"); (walk_at "dc"))
  | ((with_reducible apply q_retB); (walk_at "ev"))
  | ((with_reducible apply tr_retI); (walk_at "ev"))
  | ((with_reducible apply q_par); (walk_at "ev"))
  | ((with_reducible apply q_par3); (walk_at "ev"))
  | ((with_reducible apply q_newL); intro _)
  | ((with_reducible apply q_newD); intro _)
  | ((with_reducible apply q_asgA); (walk_at "ev"); (walk_at "tg")))
local macro_rules | `(tactic| walk_at "if") => `(tactic| first
  | ((with_reducible apply q_app (k := 0)); rfl; rfl; assumption; (walk_at "ev"))
  | with_reducible apply q_as
  | with_reducible apply q_nx
  | ((with_reducible apply q_par); (walk_at "ev"))
  | ((with_reducible apply q_par3); (walk_at "ev"))
  | ((with_reducible apply q_iF); (walk_at "ev"); (walk_at "dc"))
  | ((with_reducible apply q_iT); (walk_at "ev"); (walk_at "dc"))
  | ((with_reducible apply q_i); (walk_at "ev"))
  | ((with_reducible apply q_rt); (walk_at "ev"))
  | ((with_reducible apply q_asgA); (walk_at "ev"); (walk_at "tg")))


/-! ### cuts, ends -/
theorem cutD_map {α : Type} {f : α → PyData} {xs : List α} {lo hi : Option Int} : ∃ ys : List α, ys.Sublist xs ∧ cutD (xs.map f) lo hi = ys.map f :=
  ⟨(xs.drop (HT.sIx xs.length 0 lo)).take (HT.sIx xs.length xs.length hi - HT.sIx xs.length 0 lo), (List.take_sublist ..).trans (List.drop_sublist ..), by unfold cutD; rw [List.length_map, List.map_take, List.map_drop]⟩
theorem cutD_from {ds : List PyData} {n : Nat} (h : n ≤ ds.length) : cutD ds (some (n : Int)) none = ds.drop n := by
  unfold cutD
  rw [HT.sIx_none, HT.sIx_nat, Nat.min_eq_left h]
  exact List.take_of_length_le (by rw [List.length_drop]; omega)
theorem at_last {ps : List Page} (h : 0 < ps.length) : ∃ p, p ∈ ps ∧ atI (ps.map Page.d) (-1) = some p.d := by
  have hj : ps.length - 1 < ps.length := by omega
  refine ⟨ps[ps.length - 1], List.getElem_mem _, ?_⟩
  unfold atI
  rw [List.length_map, ixN_neg (by decide) (by omega)]
  show (ps.map Page.d)[(-1 + (ps.length : Nat) : Int).toNat]? = _
  have e : (-1 + (ps.length : Nat) : Int).toNat = ps.length - 1 := by omega
  rw [e, List.getElem?_map, List.getElem?_eq_getElem hj]
  rfl
theorem at_first {ps : List Page} (h : 0 < ps.length) : ∃ p, p ∈ ps ∧ atI (ps.map Page.d) 0 = some p.d := by
  match ps, h with
  | p :: r, _ => exact ⟨p, List.mem_cons_self .., at0 _ _⟩
theorem zip_self' {α : Type} : ∀ xs : List α, xs.zip xs = xs.map fun x => (x, x)
  | [] => rfl
  | x :: xs => by rw [List.zip_cons_cons, zip_self' xs, List.map_cons]
theorem take_drop_no {ns : List Str} (nd : ns.Nodup) {n : Nat} (hn : n ≤ 17) {x : Str} (h1 : x ∈ ns.take n) (h2 : x ∈ ns.drop 17) : False := by
  obtain ⟨i, hi, e1⟩ := List.mem_iff_getElem.mp h1
  obtain ⟨j, hj, e2⟩ := List.mem_iff_getElem.mp h2
  rw [List.length_take] at hi
  rw [List.length_drop] at hj
  rw [List.getElem_take] at e1
  rw [List.getElem_drop] at e2
  have := (List.getElem_inj nd).mp (e1.trans e2.symm)
  omega
/-! ### the books -/
section
variable {hs ts ks ns os : List Str} {n : Nat} {ps tp : List Page}
theorem base_rt (hhs : Wds 2 4 hs) (htl : ts.length ≤ 16) (hks : Wds 1 3 ks) (hnd : os.Nodup) (hl : os.length ≤ 30) (hp : ps.map Page.name = os) (hg : ∀ p, p ∈ ps → goodR os hs ts ks p) : Rt hs ts ks ⟨sortU hs, ps⟩ :=
  ⟨rfl, hhs, htl, by have := hks.hi; omega, fun p h => (hg p h).good, fun p h => (hg p h).houses, fun p h => (hg p h).things, fun p h => (hg p h).kinds, by show (ps.map Page.name).Nodup; rw [hp]; exact hnd, by show ps.length ≤ 30; rw [← hp, List.length_map] at hl; exact hl⟩
theorem turn_rt (r : Rt hs ts ks ⟨sortU hs, ps⟩) (h : tp.Perm ps) : Rt hs ts ks ⟨sortU hs, tp⟩ := by
  have q := r.perm h
  dsimp only at q
  rw [sortU_sortU] at q
  exact q
theorem book_args (r : Rt hs ts ks ⟨sortU hs, tp⟩) : (∀ x, x ∈ hs → isWord x) ∧ hs.length < 64 ∧ 2 ≤ (sortU hs).length ∧ (sortU hs).length ≤ 6 ∧ bookable (sortU hs) tp := by
  have c := r.can (o := ⟨sortU hs, tp⟩) rfl
  have hl := sortU_len r.hw.nd
  have h1 := r.hw.lo
  have h2 := r.hw.hi
  refine ⟨r.hw.words, by omega, by omega, by omega, ?_⟩
  have q := c.pages
  dsimp only at q
  rw [sortU_sortU] at q
  exact q
theorem Book.can.args {b : Book} {qs : List Page} (c : b.can qs) : R_book_of .tuple [.tuple (b.houses.map .str), .list (qs.map Page.d)] (Book.d ⟨sortU b.houses, sortP qs⟩) := ⟨b.houses, qs, c.words, c.len, c.lo, c.hi, c.pages, rfl, rfl⟩
/-- with another thing's pages -/
theorem more_rt {b : Book} {fresh : Str} (r : Rt hs ts ks b) (htl : ts.length ≤ 15) (hbn : ∀ p, p ∈ b.pages → p.name ∈ ns.take n) (hn : n ≤ 16) (hnd : ns.Nodup) (hbl : b.pages.length ≤ 20) (hos : ∀ x, x ∈ os → x ∈ ns.drop 17) (hosn : os.Nodup) (hosl : os.length ≤ 10) (hks : Wds 1 3 ks) (hfr : fresh ∉ ts)
    (hp : ps.map Page.name = os) (hg : ∀ p, p ∈ ps → goodR os hs [fresh] ks p) :
    Rt hs [fresh] ks ⟨sortU b.houses, sortP ps⟩ ∧ b.can (b.pages ++ moreB b ⟨sortU b.houses, sortP ps⟩) ∧ Book.ok (bothB b ⟨sortU b.houses, sortP ps⟩) ∧ ∀ t, t ∈ thingsOf b.pages → sortP b.pages = b.pages → pagesOf (bothB b ⟨sortU b.houses, sortP ps⟩).pages t = pagesOf b.pages t := by
  have e1 : sortU b.houses = sortU hs := by rw [r.houses, sortU_sortU]
  have r0 : Rt hs [fresh] ks ⟨sortU hs, ps⟩ := base_rt r.hw (Nat.le_of_ble_eq_true rfl) hks hosn (by omega) hp hg
  have r1 : Rt hs [fresh] ks ⟨sortU hs, sortP ps⟩ := turn_rt r0 (sortP_perm ps)
  rw [e1]
  have hom : ∀ p, p ∈ sortP ps → p.name ∈ os := fun p h => by
    rw [← hp]
    exact List.mem_map_of_mem ((sortP_perm ps).mem_iff.mp h)
  have hsub : (moreB b ⟨sortU hs, sortP ps⟩).Sublist (sortP ps) := List.filter_sublist
  have rm : Rt hs (fresh :: ts) ks ⟨b.houses, b.pages ++ moreB b ⟨sortU hs, sortP ps⟩⟩ := by
    refine ⟨r.houses, r.hw, by rw [List.length_cons]; omega, r.kl, ?_, ?_, ?_, ?_, ?_, ?_⟩
    · intro p h
      rcases List.mem_append.mp h with h | h
      · exact r.good p h
      · exact r1.good p (hsub.subset h)
    · intro p h
      rcases List.mem_append.mp h with h | h
      · exact r.inH p h
      · exact r1.inH p (hsub.subset h)
    · intro p h t ht
      rcases List.mem_append.mp h with h | h
      · exact List.mem_cons_of_mem _ (r.inT p h t ht)
      · have := r1.inT p (hsub.subset h) t ht
        rw [List.mem_singleton] at this
        rw [this]; exact List.mem_cons_self ..
    · intro p h
      rcases List.mem_append.mp h with h | h
      · exact r.inK p h
      · exact r1.inK p (hsub.subset h)
    · show ((b.pages ++ moreB b _).map Page.name).Nodup
      rw [List.map_append]
      refine List.nodup_append.mpr ⟨r.names, r1.names.sublist (hsub.map _), ?_⟩
      intro x hx y hy e
      subst e
      obtain ⟨p, h1, rfl⟩ := List.mem_map.mp hx
      obtain ⟨q, h2, e2⟩ := List.mem_map.mp hy
      exact take_drop_no hnd (by omega) (hbn p h1) (e2 ▸ hos _ (hom q (hsub.subset h2)))
    · show (b.pages ++ moreB b _).length ≤ 30
      have h1 := hsub.length_le
      have h2 := (sortP_perm ps).length_eq
      have h3 : ps.length = os.length := by rw [← hp, List.length_map]
      rw [List.length_append]
      omega
  refine ⟨r1, rm.can (o := b) r.houses, (rm.sort).ok, fun t ht hb => ?_⟩
  refine both_of (r.made hb) fun p hp' => ⟨fun h => ?_, fun n' e q z hq => ?_⟩
  · have := r1.inT p hp' t h
    rw [List.mem_singleton] at this
    exact hfr (this ▸ r.things ht)
  · have h1 := (hg p ((sortP_perm ps).mem_iff.mp hp')).loose n' e q z
    obtain ⟨p2, h2, rfl⟩ := List.mem_map.mp hq
    exact take_drop_no hnd (by omega) (hbn p2 h2) (hos _ h1)
end
theorem flat_strs {α : Type} {f : α → List Str} : ∀ {xs : List α}, (xs.map fun t => (f t).map PyData.str).flatten = (xs.flatMap f).map .str
  | [] => rfl
  | x :: xs => by rw [List.map_cons, List.flatten_cons, flat_strs, List.flatMap_cons, List.map_append]
def looseName : Page → Str
  | .loose _ _ q => q
  | _ => ""
def isLooseB : Page → Bool
  | .loose .. => true
  | _ => false
theorem letters_nd : (letters.cps.toList.map fun c => (⟨#[c]⟩ : Str)).Nodup := by decide +kernel
theorem letters_len : letters.cps.toList.length = 26 := by decide +kernel
theorem fresh_there {ts : List Str} (h : ts.length ≤ 4) : ∃ c r, letters.cps.toList.filter (fun c => !decide ((⟨#[c]⟩ : Str) ∈ ts)) = c :: r := by
  cases e : letters.cps.toList.filter (fun c => !decide ((⟨#[c]⟩ : Str) ∈ ts)) with
  | cons c r => exact ⟨c, r, rfl⟩
  | nil =>
    have h1 := len_of_sub letters_nd (m := ts) fun x hx => by
      obtain ⟨c, hc, rfl⟩ := List.mem_map.mp hx
      have := List.filter_eq_nil_iff.mp e c hc
      simpa using this
    rw [List.length_map, letters_len] at h1
    omega
theorem fresh_word {c : Nat} (h : c ∈ letters.cps.toList) : isWord ⟨#[c]⟩ := ⟨Nat.le_refl 1, by show 1 ≤ 8; decide, fun x hx => by
  have hx' : x = c := by simpa using hx
  rw [hx']; exact h⟩
section
variable {α : Type} {pen scr : Addr} {is : List Int} {C : Ctx} {K : PySem.W.Frag} {ρ : List Cell} {i : Nat} {ta : TA} {enc : α → List PyData} {Pre : α → Prop} {R : α → PyData → Prop} {E : XK} {te tl : TE} {ds : List PyData} {d : PyData}
theorem ev_callQE {PX : α → Prop} (hi : ρ[i]? = some (.ref pen)) (h : EvA (CP K pen scr is) K ta ρ (fun ds => ∃ x, PX x ∧ ds = enc x)) (hp : ∀ x, PX x → Pre x) : Ev (CP K pen scr is) K (tCall (spQ K enc Pre R) [] E (tCons (tVar i) ta)) ρ (fun d => ∃ x, PX x ∧ R x d) := fun σ B H e o Q q =>
  ⟨.ref pen, e.ref hi, h σ B H e o _ fun ds vs B1 H1 ⟨x, hx, p⟩ g r => by
    subst p
    show spQ K enc Pre R ((.ref pen :: vs) ++ []) H1 Q E
    rw [List.append_nil]
    exact ⟨B1, pen, scr, is, vs, x, rfl, r, g.on, hp x hx, fun v d B' H' hd g2 r2 => q d v B' H' ⟨x, hx, hd⟩ (g.trans g2) r2⟩⟩
theorem n_sortS1 {xs : List Str} (h : xs.length < 64) : OpN C K (rSortedS K) [.list (xs.map .str)] (Eq (.list ((sortS xs).map .str))) := n_sortS' h fun ys h1 h2 => by rw [sort_uniq h1 h2]
theorem ei_zipS {β : Type} {f g : β → PyData} {xs : List β} (h : EvA C K ta ρ (Eq [.list (xs.map f), .list (xs.map g)])) : EvI C K (iZip K ta) ρ (Eq (xs.map fun x => .tuple [f x, g x])) := by
  have q := ei_zip h (by rw [List.length_map, List.length_map])
  rwa [zip_enc, zip_self', List.map_map] at q
theorem ea_one (ha : Ev C K te ρ (Eq d)) : EvA C K (tCons te tNil) ρ (Eq [d]) := ea_cons ha ea_nil
end
end K92
end
section -- K92F26
set_option maxRecDepth 100000
set_option maxHeartbeats 50000000
namespace K92
open PySem PySem.Spec PyProof.Rows L2
local macro_rules | `(tactic| walk_at "dc") => `(tactic| first | decide +kernel | with_reducible rfl)
local macro_rules | `(tactic| walk_at "bb") => `(tactic| first | exact Eq.trans (b := true) (by decide +kernel) rfl | exact Eq.trans (b := false) (by decide +kernel) rfl)
local macro_rules | `(tactic| walk_at "go") => `(tactic| dsimp only [cxOf, Cx.nox, startC, List.map_cons, List.map_nil, List.length_cons, List.length_nil])
local macro_rules | `(tactic| walk_at "at") => `(tactic| first | with_reducible exact at_if | with_reducible exact at0 _ _ | with_reducible exact at1 _ _ _ | with_reducible exact at2 _ _ _ _ | rfl | exact at_word _ | exact at_name _ | exact at_day _)
local macro_rules | `(tactic| walk_at "op") => `(tactic| first
  | ((with_reducible apply o_ixT); walk_at "at")
  | ((with_reducible apply o_ixL); walk_at "at")
  | with_reducible exact o_eqS
  | with_reducible exact o_eqI
  | with_reducible exact o_neS
  | with_reducible exact o_neI
  | with_reducible exact o_le
  | with_reducible exact o_lt
  | with_reducible exact o_addI
  | with_reducible exact o_sub
  | ((with_reducible apply o_inT); first | assumption | rfl)
  | ((with_reducible apply o_inL); first | assumption | rfl)
  | with_reducible exact o_inS
  | with_reducible exact o_neNS
  | ((with_reducible apply o_neD); assumption; assumption)
  | ((with_reducible apply o_eqD); assumption; assumption))
local macro_rules | `(tactic| walk_at "tg") => `(tactic| first
  | ((with_reducible apply tg_name); decide)
  | ((with_reducible apply tg_tupW); (walk_at "tg"); rfl)
  | with_reducible exact tgs_nil
  | ((with_reducible apply tgs_cons); (walk_at "tg"); (walk_at "tg")))
local macro_rules | `(tactic| walk_at "lc") => `(tactic| ((apply lcI); (walk_at "tg"); (apply EvT.is); (walk_at "ev"); rfl; (intro _); (apply Ev.is); (walk_at "ev"); rfl))
local macro_rules | `(tactic| walk_at "ev") => `(tactic| first
  | ((with_reducible apply ev_var); rfl)
  | with_reducible exact ev_str
  | with_reducible exact ev_int
  | with_reducible exact ev_bl
  | with_reducible exact ev_non
  | with_reducible exact ev_c (by assumption)
  | with_reducible exact ea_nil
  | ((with_reducible apply ev_op); (walk_at "ev"); (walk_at "ev"); (walk_at "op"))
  | ((with_reducible apply ea_cons); (walk_at "ev"); (walk_at "ev"))
  | ((with_reducible apply ev_tupW); (walk_at "ev"); exact Nat.le_of_ble_eq_true rfl)
  | ((with_reducible apply ev_lstW); (walk_at "ev"); exact Nat.le_of_ble_eq_true rfl)
  | ((with_reducible apply et_testD); walk_at "ev")
  | ((with_reducible apply et_B); walk_at "ev")
  | ((with_reducible apply et_not); walk_at "ev")
  | ((with_reducible apply et_andF); (walk_at "ev"); (walk_at "dc"))
  | ((with_reducible apply et_andT); (walk_at "ev"); (walk_at "dc"); (walk_at "ev"))
  | ((with_reducible apply et_and); (walk_at "ev"); intro _; (walk_at "ev"))
  | ((with_reducible apply et_orT); (walk_at "ev"); (walk_at "dc"))
  | ((with_reducible apply et_orF); (walk_at "ev"); (walk_at "dc"); (walk_at "ev"))
  | ((with_reducible apply et_or); (walk_at "ev"); intro _; (walk_at "ev"))
  | ((with_reducible apply ev_andVF); (walk_at "ev"); (walk_at "dc"))
  | ((with_reducible apply ev_andVT); (walk_at "ev"); (walk_at "dc"); (walk_at "ev"))
  | ((with_reducible apply ev_orVT); (walk_at "ev"); (walk_at "dc"))
  | ((with_reducible apply ev_orVF); (walk_at "ev"); (walk_at "dc"); (walk_at "ev"))
  | ((with_reducible apply ev_andV); (walk_at "ev"); intro _; (walk_at "ev"))
  | ((with_reducible apply ev_orV); (walk_at "ev"); intro _; (walk_at "ev"))
  | ((with_reducible apply ev_notV); walk_at "ev")
  | ((with_reducible apply ev_neg); (walk_at "ev"))
  | ((with_reducible apply ev_isNE); (walk_at "ev"))
  | ((with_reducible apply ev_notN); (walk_at "ev"))
  | with_reducible exact lc_T
  | with_reducible exact eo_none
  | ((with_reducible apply eo_some); (walk_at "ev"))
  | ((with_reducible apply ev_slT); (walk_at "ev"); (walk_at "ev"); (walk_at "ev"); (exact fun h => Nat.ne_of_beq_eq_false rfl h.2); first | exact cut2 | exact cut3 | rfl)
  | ((with_reducible apply ev_slL); (walk_at "ev"); (walk_at "ev"); (walk_at "ev"); rfl)
  | ((with_reducible apply ev_kd); (walk_at "ev"); assumption; assumption)
  | ((with_reducible apply ev_call); (walk_at "ev"); assumption)
  | ((with_reducible apply ev_cb); (walk_at "ev"); (walk_at "cb"))
  | ((with_reducible apply ev_isi); (walk_at "ev"); (walk_at "dc"))
  | ((with_reducible apply ev_lcM); (walk_at "ev"); (exact Nat.le_of_ble_eq_true rfl); (walk_at "pd"))
  | ((with_reducible apply ei_list); (walk_at "ev"))
  | ((with_reducible apply ei_tup); (walk_at "ev"))
  | ((with_reducible apply ei_zip); (walk_at "ev"); assumption))
local macro_rules | `(tactic| walk_at "pd") => `(tactic| first | exact Paired.nil | ((apply Paired.cons); (walk_at "lc"); (walk_at "pd")))
local macro_rules | `(tactic| walk_at "cb") => `(tactic| first
  | with_reducible exact n_lenL
  | with_reducible exact n_lenT
  | ((with_reducible apply n_lenS); assumption)
  | with_reducible exact n_intB
  | with_reducible exact n_abs
  | with_reducible exact n_min
  | with_reducible exact n_tupL
  | with_reducible exact n_lisT
  | with_reducible exact n_lisL)
local macro_rules | `(tactic| walk_at "tr") => `(tactic| first
  | ((with_reducible apply q_retF); (walk_at "ev"); (walk_at "dc"))
  | ((with_reducible apply q_retT); (walk_at "ev"); (walk_at "dc"))
  | ((with_reducible apply q_retB); (walk_at "ev"))
  | ((with_reducible apply tr_retI); (walk_at "ev"))
  | ((with_reducible apply q_par); (walk_at "ev"))
  | ((with_reducible apply q_par3); (walk_at "ev"))
  | ((with_reducible apply q_newL); intro _)
  | ((with_reducible apply q_newD); intro _)
  | ((with_reducible apply q_asgA); (walk_at "ev"); (walk_at "tg")))
local macro_rules | `(tactic| walk_at "if") => `(tactic| first
  | ((with_reducible apply q_app (k := 0)); rfl; rfl; assumption; (walk_at "ev"))
  | with_reducible apply q_as
  | with_reducible apply q_nx
  | ((with_reducible apply q_par); (walk_at "ev"))
  | ((with_reducible apply q_par3); (walk_at "ev"))
  | ((with_reducible apply q_iF); (walk_at "ev"); (walk_at "dc"))
  | ((with_reducible apply q_iT); (walk_at "ev"); (walk_at "dc"))
  | ((with_reducible apply q_i); (walk_at "ev"))
  | ((with_reducible apply q_rt); (walk_at "ev"))
  | ((with_reducible apply q_asgA); (walk_at "ev"); (walk_at "tg")))


section
variable {P : Program} {w : World} {K : PySem.W.Frag} {mg : Str → Option Value} {base : Heap}
abbrev N_law : List Str := ["_law_script", "_law_pen", "_law_sorts_here", "_law_names", "_law_pages", "_law_book", "_law_days", "_law_page", "_law_parts", "_law_thing", "_law_kept", "_law_part", "_law_due", "_law_rest", "_law_day", "_law_letters", "_law_fresh", "_law_sign", "_law_looses", "_law_others", "_law_name", "_law_more"]
theorem sc_law : FnScope N_law ["_law_script"] (defScope s_law) := ⟨rfl, rfl, rfl, by decide +kernel, rfl, by decide +kernel, by decide +kernel⟩
theorem ok_law {f : Addr} {fd : FuncData} (F : FunD K "law" "law" (defArgs s_law) (defBody s_law) (defScope s_law) [] [] f fd) (T : Tx w K mg) (c__law_draw : Cal P w K mg base "_law_draw" ["_law_pen", "_law_many"] 1 (spP K Pre_draw R_draw)) (c__law_words : Cal P w K mg base "_law_words" ["_law_pen", "_law_many"] 2 (spP K Pre_words R_words))
    (c__law_sorts : Cal P w K mg base "_law_sorts" ["_law_pen"] 3 (spP K (fun ds => ds = []) R_sorts))
    (c__law_run : Cal P w K mg base "_law_run" ["_law_pen", "_law_names", "_law_sorts_here"] 3 (spQ K ORun.enc ORun.pre R_run))
    (c__law_turned : Cal P w K mg base "_law_turned" ["_law_pen", "_law_some"] 2 (spQ K (fun ds : List PyData => [.list ds]) (fun ds => ds.length ≤ 100) R_turned))
    (c_book_of_L : Cal P w K mg base "book_of" ["houses", "pages"] 6 (spD K (R_book_of .list))) (c_book_of : Cal P w K mg base "book_of" ["houses", "pages"] 6 (spD K (R_book_of .tuple)))
    (c_things_of : Cal P w K mg base "things_of" ["book"] 3 (spD K R_things_of)) (c_only : Cal P w K mg base "only" ["book", "thing"] 7 (spD K R_only))
    (c__law_told : Cal P w K mg base "_law_told" ["_law_book", "_law_thing", "_law_days"] 7 (spD K R_told)) (c__law_strange_looses : Cal P w K mg base "_law_strange_looses" ["_law_book"] 1 (spD K R_strange))
    (c_unfit : Cal P w K mg base "unfit" ["book"] 8 (spD K R_unfit)) (c__law_balance_right : Cal P w K mg base "_law_balance_right" ["_law_book", "_law_parts", "_law_rest", "_law_day"] 8 (spD K R_bal))
    (c_together : Cal P w K mg base "together" ["book", "other"] 7 (spD K R_together)) : FnOk P w K mg base CX0 9 f fd ["_law_script"] (spLaw K) := by
  refine fn_law F sc_law (fun cdv A outer s H E hr => ⟨_,
    (pss_cons (ps_set (i := 1) sc_law.nd rfl (by first | exact .inl rfl | exact .inr rfl) (pe_lst (pa_cons (pv 0) (pa_cons pe_int (pa_cons pe_int pa_nil)))))
  (pss_cons (ps_set (i := 2) sc_law.nd rfl (by first | exact .inl rfl | exact .inr rfl) (pe_cal c__law_sorts (hr.mono (by decide)) (by rfl) (pa_cons (pv 1) pa_nil)))
  (pss_cons (ps_set (i := 3) sc_law.nd rfl (by first | exact .inl rfl | exact .inr rfl) (pe_cal c__law_words (hr.mono (by decide)) (by rfl) (pa_cons (pv 1) (pa_cons pe_int pa_nil))))
  (pss_cons (ps_set (i := 4) sc_law.nd rfl (by first | exact .inl rfl | exact .inr rfl) (pe_cal c__law_run (hr.mono (by decide)) (by rfl) (pa_cons (pv 1) (pa_cons (pe_slice (r := rSL K) sl_SL (pv 3) po_none (po_some (pe_op op_ADD pe_int (pe_cal c__law_draw (hr.mono (by decide)) (by rfl) (pa_cons (pv 1) (pa_cons pe_int pa_nil)))))) (pa_cons (pv 2) pa_nil)))))
  (pss_cons (ps_set (i := 5) sc_law.nd rfl (by first | exact .inl rfl | exact .inr rfl) (pe_cal c_book_of_L (hr.mono (by decide)) (by rfl) (pa_cons (pe_ix (r := rIx K) ix_seq (pv 2) pe_int (fun _ _ => rfl)) (pa_cons (pe_cal c__law_turned (hr.mono (by decide)) (by rfl) (pa_cons (pv 1) (pa_cons (pv 4) pa_nil))) pa_nil))))
  (pss_cons (ps_set (i := 6) sc_law.nd rfl (by first | exact .inl rfl | exact .inr rfl) (pe_op op_ADD (pe_lst (pa_cons (pe_ix (r := rIx K) ix_seq (pe_ix (r := rIx K) ix_seq (pv 4) pe_int (fun _ _ => rfl)) pe_int (fun _ _ => rfl)) (pa_cons (pe_op op_ADD (pe_ix (r := rIx K) ix_seq (pe_ix (r := rIx K) ix_seq (pv 4) (pe_un un_NEG pe_int) (fun _ _ => rfl)) pe_int (fun _ _ => rfl)) pe_int) pa_nil))) (pe_lc (own := [("_law_page", 7)]) (g := gName 7) rfl sc_law.nd (pi_list (pe_slice (r := rSL K) sl_SL (pv 4) po_none (po_some pe_int))) (blkOk_by (own := [("_law_page", 7)]) (N := N_law) (sc := defScope s_law) (by decide +kernel)) (fun _ _ _ _ _ => (pg_name (i := 7) sc_law.nd rfl (.inl rfl))) (fun _ _ _ _ _ => pts_nil) (fun _ _ _ _ _ => (pe_op op_ADD (pe_ix (r := rIx K) ix_seq (pv 7) pe_int (fun _ _ => rfl)) (pe_cal c__law_draw (hr.mono (by decide)) (by rfl) (pa_cons (pv 1) (pa_cons pe_int pa_nil))))))))
  (pss_cons (ps_setLc (i := 8) (own := [("_law_thing", 9)]) (g := gName 9) rfl sc_law.nd rfl rfl (sw_true rfl rfl rfl (by decide +kernel)) (pi_list (pe_cal c_things_of (hr.mono (by decide)) (by rfl) (pa_cons (pv 5) pa_nil))) (blkOk_by (own := [("_law_thing", 9)]) (N := N_law) (sc := defScope s_law) (by decide +kernel)) (fun _ _ _ _ _ => (pg_name (i := 9) sc_law.nd rfl (.inl rfl))) (fun _ _ _ _ _ => pts_nil) (fun _ _ _ _ _ => (pe_cal c_only (hr.mono (by decide)) (by rfl) (pa_cons (pv 5) (pa_cons (pv 9) pa_nil)))))
  (pss_cons (ps_setLc (i := 10) (own := [("_law_thing", 9)]) (g := gName 9) rfl sc_law.nd rfl rfl (sw_true rfl rfl rfl (by decide +kernel)) (pi_list (pe_cal c_things_of (hr.mono (by decide)) (by rfl) (pa_cons (pv 5) pa_nil))) (blkOk_by (own := [("_law_thing", 9)]) (N := N_law) (sc := defScope s_law) (by decide +kernel)) (fun _ _ _ _ _ => (pg_name (i := 9) sc_law.nd rfl (.inl rfl))) (fun _ _ _ _ _ => pts_nil) (fun _ _ _ _ _ => (pe_cal c__law_told (hr.mono (by decide)) (by rfl) (pa_cons (pv 5) (pa_cons (pv 9) (pa_cons (pv 6) pa_nil))))))
  (pss_cons (ps_if (pt_cmpR (r := rNE K) (op_NE hr.units) (pv 10) (pe_lc (own := [("_law_part", 11), ("_law_thing", 9)]) (g := gTup K 2 (gCons (gName 11) (gCons (gName 9) (gNil)))) rfl sc_law.nd (pi_zip (by rfl) T.zip (pa_cons (pv 8) (pa_cons (pe_cal c_things_of (hr.mono (by decide)) (by rfl) (pa_cons (pv 5) pa_nil)) pa_nil))) (blkOk_by (own := [("_law_part", 11), ("_law_thing", 9)]) (N := N_law) (sc := defScope s_law) (by decide +kernel)) (fun _ _ _ _ _ => (pg_tup rfl (pgs_cons (pg_name (i := 11) sc_law.nd rfl (.inl rfl)) (pgs_cons (pg_name (i := 9) sc_law.nd rfl (.inl rfl)) pgs_nil)))) (fun _ _ _ _ _ => pts_nil) (fun _ _ _ _ _ => (pe_cal c__law_told (hr.mono (by decide)) (by rfl) (pa_cons (pv 11) (pa_cons (pv 9) (pa_cons (pv 6) pa_nil)))))) (nomark _)) (pss_one (ps_ret pe_bl)) pss_nil)
  (pss_cons (ps_set (i := 12) sc_law.nd rfl (by first | exact .inl rfl | exact .inr rfl) (pe_op op_ADD (pe_cal c__law_strange_looses (hr.mono (by decide)) (by rfl) (pa_cons (pv 5) pa_nil)) (pe_callB (r := rSumL K) (cr_SUML rfl) (by rfl) T.sum (by decide +kernel) (pa_cons (pe_lc (own := [("_law_part", 11)]) (g := gName 11) rfl sc_law.nd (pi_list (pv 8)) (blkOk_by (own := [("_law_part", 11)]) (N := N_law) (sc := defScope s_law) (by decide +kernel)) (fun _ _ _ _ _ => (pg_name (i := 11) sc_law.nd rfl (.inl rfl))) (fun _ _ _ _ _ => pts_nil) (fun _ _ _ _ _ => (pe_cal c_unfit (hr.mono (by decide)) (by rfl) (pa_cons (pv 11) pa_nil)))) (pa_cons (pe_lst pa_nil) pa_nil)))))
  (pss_cons (ps_if (pt_cmpR (r := rNE K) (op_NE hr.units) (pe_callB (r := rSortedS K) cr_sortedS (by rfl) T.sorted (by decide +kernel) (pa_cons (pe_cal c_unfit (hr.mono (by decide)) (by rfl) (pa_cons (pv 5) pa_nil)) pa_nil)) (pe_callB (r := rSortedS K) cr_sortedS (by rfl) T.sorted (by decide +kernel) (pa_cons (pv 12) pa_nil)) (nomark _)) (pss_one (ps_ret pe_bl)) pss_nil)
  (pss_cons (ps_set (i := 13) sc_law.nd rfl (by first | exact .inl rfl | exact .inr rfl) (pe_cal c_book_of (hr.mono (by decide)) (by rfl) (pa_cons (pe_ix (r := rIx K) ix_seq (pv 5) pe_int (fun _ _ => rfl)) (pa_cons (pe_lc (own := [("_law_page", 7)]) (g := gName 7) rfl sc_law.nd (pi_tup (pe_ix (r := rIx K) ix_seq (pv 5) pe_int (fun _ _ => rfl))) (blkOk_by (own := [("_law_page", 7)]) (N := N_law) (sc := defScope s_law) (by decide +kernel)) (fun _ _ _ _ _ => (pg_name (i := 7) sc_law.nd rfl (.inl rfl))) (fun _ _ _ _ _ => (pts_one (pt_cmpR (r := rIN K false) op_IN (pe_ix (r := rIx K) ix_seq (pv 7) pe_int (fun _ _ => rfl)) (pe_tup (pa_cons pe_str (pa_cons pe_str (pa_cons pe_str pa_nil)))) rfl))) (fun _ _ _ _ _ => (pv 7))) pa_nil))))
  (pss_cons (ps_for PassesOwn.never rfl (pi_list (pe_slice (r := rSL K) sl_SL (pv 6) (po_some pe_int) (po_some pe_int))) (pg_name (i := 14) sc_law.nd rfl (by first | exact .inl rfl | exact .inr rfl)) (pss_one (ps_if (pt_not (pt_val (pe_cal c__law_balance_right (hr.mono (by decide)) (by rfl) (pa_cons (pv 5) (pa_cons (pv 8) (pa_cons (pv 13) (pa_cons (pv 14) pa_nil))))))) (pss_one (ps_ret pe_bl)) pss_nil)))
  (pss_cons (ps_set (i := 15) sc_law.nd rfl (by first | exact .inl rfl | exact .inr rfl) pe_str)
  (pss_cons (ps_set (i := 16) sc_law.nd rfl (by first | exact .inl rfl | exact .inr rfl) (pe_ix (r := rIx K) ix_seq (pe_lc (own := [("_law_sign", 17)]) (g := gName 17) rfl sc_law.nd (pi_str (pv 15)) (blkOk_by (own := [("_law_sign", 17)]) (N := N_law) (sc := defScope s_law) (by decide +kernel)) (fun _ _ _ _ _ => (pg_name (i := 17) sc_law.nd rfl (.inl rfl))) (fun _ _ _ _ _ => (pts_one (pt_cmpR (r := rIN K true) op_NIN (pv 17) (pe_ix (r := rIx K) ix_seq (pv 2) pe_int (fun _ _ => rfl)) rfl))) (fun _ _ _ _ _ => (pv 17))) pe_int (fun _ _ => rfl)))
  (pss_cons (ps_set (i := 18) sc_law.nd rfl (by first | exact .inl rfl | exact .inr rfl) (pe_lc (own := [("_law_page", 7)]) (g := gName 7) rfl sc_law.nd (pi_list (pv 4)) (blkOk_by (own := [("_law_page", 7)]) (N := N_law) (sc := defScope s_law) (by decide +kernel)) (fun _ _ _ _ _ => (pg_name (i := 7) sc_law.nd rfl (.inl rfl))) (fun _ _ _ _ _ => (pts_one (pt_cmpR (r := rEQ K) (op_EQ hr.units) (pe_ix (r := rIx K) ix_seq (pv 7) pe_int (fun _ _ => rfl)) pe_str (nomark _)))) (fun _ _ _ _ _ => (pe_ix (r := rIx K) ix_seq (pv 7) pe_int (fun _ _ => rfl)))))
  (pss_cons (ps_setLc (i := 19) (own := [("_law_name", 20)]) (g := gName 20) rfl sc_law.nd rfl rfl (sw_true rfl rfl rfl (by decide +kernel)) (pi_list (pe_slice (r := rSL K) sl_SL (pv 3) (po_some pe_int) po_none)) (blkOk_by (own := [("_law_name", 20)]) (N := N_law) (sc := defScope s_law) (by decide +kernel)) (fun _ _ _ _ _ => (pg_name (i := 20) sc_law.nd rfl (.inl rfl))) (fun _ _ _ _ _ => (pts_one (pt_cmpR (r := rIN K true) op_NIN (pv 20) (pv 18) rfl))) (fun _ _ _ _ _ => (pv 20)))
  (pss_cons (ps_set (i := 21) sc_law.nd rfl (by first | exact .inl rfl | exact .inr rfl) (pe_cal c_together (hr.mono (by decide)) (by rfl) (pa_cons (pv 5) (pa_cons (pe_cal c_book_of (hr.mono (by decide)) (by rfl) (pa_cons (pe_ix (r := rIx K) ix_seq (pv 5) pe_int (fun _ _ => rfl)) (pa_cons (pe_cal c__law_run (hr.mono (by decide)) (by rfl) (pa_cons (pv 1) (pa_cons (pv 19) (pa_cons (pe_tup (pa_cons (pe_ix (r := rIx K) ix_seq (pv 2) pe_int (fun _ _ => rfl)) (pa_cons (pe_lst (pa_cons (pv 16) pa_nil)) (pa_cons (pe_ix (r := rIx K) ix_seq (pv 2) pe_int (fun _ _ => rfl)) pa_nil)))) pa_nil)))) pa_nil))) pa_nil))))
  (pss_one (ps_ret (pe_cmpR (r := rEQ K) (op_EQ hr.units) (pv 10) (pe_lc (own := [("_law_thing", 9)]) (g := gName 9) rfl sc_law.nd (pi_list (pe_cal c_things_of (hr.mono (by decide)) (by rfl) (pa_cons (pv 5) pa_nil))) (blkOk_by (own := [("_law_thing", 9)]) (N := N_law) (sc := defScope s_law) (by decide +kernel)) (fun _ _ _ _ _ => (pg_name (i := 9) sc_law.nd rfl (.inl rfl))) (fun _ _ _ _ _ => pts_nil) (fun _ _ _ _ _ => (pe_cal c__law_told (hr.mono (by decide)) (by rfl) (pa_cons (pv 21) (pa_cons (pv 9) (pa_cons (pv 6) pa_nil)))))) (nomark _)))))))))))))))))))))), fun scr is => ?_⟩)
  walk_at "go"
  refine q_pen (j := 0) (is := is) rfl rfl fun pen => ?_
  refine q_asg' (P := fun d => ∃ hs ts ks : List Str, Wds 2 4 hs ∧ Wds 1 4 ts ∧ Wds 1 3 ks ∧ d = .tuple [.list (hs.map .str), .list (ts.map .str), .list (ks.map .str)]) (ev_callP (PA := Eq []) rfl (by walk_at "ev") fun ds e => ⟨e.symm, fun d h => h⟩) ?_
  rintro _ ⟨hs, ts, ks, hhs, hts, hks, rfl⟩
  refine q_asg' (ev_words (lo := 22) (hi := 22) (n1 := 22) (n2 := 22) rfl (by decide) (by decide) rfl rfl (ev_int.imp fun d e => ⟨22, ⟨by decide, by decide⟩, e.symm⟩)) ?_
  rintro _ ⟨ns, hns, rfl⟩
  have hnl : ns.length = 22 := Nat.le_antisymm hns.hi hns.lo
  -- the pages
  refine q_asg' (P := fun d => ∃ (n : Nat) (ps : List Page), (4 ≤ n ∧ n ≤ 16) ∧ ps.map Page.name = ns.take n ∧ (∀ p, p ∈ ps → goodR (ns.take n) hs ts ks p) ∧ d = .list (ps.map Page.d))
    ((ev_callQE (PX := fun x : ORun => ∃ n : Nat, (4 ≤ n ∧ n ≤ 16) ∧ x = ⟨ns.take n, hs, ts, ks⟩) rfl (ea_cons' (P := fun d => ∃ n : Nat, (4 ≤ n ∧ n ≤ 16) ∧ d = .list ((ns.take n).map .str)) (PA := Eq [.tuple [.list (hs.map .str), .list (ts.map .str), .list (ks.map .str)]])
      ((ev_slLd (PX := fun x => 4 ≤ x ∧ x ≤ 16) (by walk_at "ev") (ev_op' (P1 := Eq (.int 4)) (by walk_at "ev") (fun _ _ => ev_draw (m := 13) rfl (by walk_at "ev") (by decide) (by decide)) ?_)).imp ?_) (fun _ _ => by walk_at "ev") ?_) ?_).imp ?_) ?_
  · rintro _ _ rfl ⟨x, hx, rfl⟩
    exact op_imp o_addI fun d e => ⟨4 + x, ⟨by omega, by omega⟩, e.symm⟩
  · rintro _ ⟨x, hx, rfl⟩
    obtain ⟨n, rfl⟩ : ∃ n : Nat, x = n := ⟨x.toNat, by omega⟩
    exact ⟨n, ⟨by omega, by omega⟩, by rw [cutD_to, List.map_take]⟩
  · rintro _ _ ⟨n, hn, rfl⟩ rfl
    exact ⟨_, ⟨n, hn, rfl⟩, rfl⟩
  · rintro _ ⟨n, hn, rfl⟩
    exact ⟨⟨Nat.zero_le _, by show (ns.take n).length ≤ 22; rw [List.length_take]; omega, fun x hx => hns.words x (List.mem_of_mem_take hx), hns.nd.sublist (List.take_sublist ..)⟩, hhs, hts, hks⟩
  · rintro _ ⟨_, ⟨n, hn, rfl⟩, ps, h1, h2, rfl⟩
    exact ⟨n, ps, hn, h1, h2, rfl⟩
  rintro _ ⟨n, ps, ⟨hn4, hn16⟩, hpn, hpg, rfl⟩
  have hpl : ps.length = n := by
    have := congrArg List.length hpn
    rw [List.length_map, List.length_take] at this
    omega
  have hplm : (ps.map Page.d).length = n := by rw [List.length_map, hpl]
  have hndn : (ns.take n).Nodup := hns.nd.sublist (List.take_sublist ..)
  have r0 : Rt hs ts ks ⟨sortU hs, ps⟩ := base_rt hhs (by have := hts.hi; omega) hks hndn (by rw [List.length_take]; omega) hpn hpg
  -- the book
  refine q_asg' (P := fun d => ∃ b, Rt hs ts ks b ∧ sortP b.pages = b.pages ∧ (∀ p, p ∈ b.pages → p.name ∈ ns.take n) ∧ b.pages.length = n ∧ d = Book.d b) (ev_call' (PA := fun ds => ∃ tp : List Page, tp.Perm ps ∧ ds = [.list (hs.map .str), .list (tp.map Page.d)])
    (ea_cons' (P := Eq (.list (hs.map .str))) (PA := fun ds => ∃ tp : List Page, tp.Perm ps ∧ ds = [.list (tp.map Page.d)]) (by walk_at "ev") (fun _ _ => ea_cons' (P := R_turned (ps.map Page.d)) (PA := Eq []) (ev_callQ (x := ps.map Page.d) (ds := [.list (ps.map Page.d)]) rfl (by walk_at "ev") rfl (by show (ps.map Page.d).length ≤ 100; omega)) (fun _ _ => ea_nil) ?_) ?_) ?_) ?_
  · rintro _ _ ⟨es, hp, rfl⟩ rfl
    obtain ⟨tp, e1, e2⟩ := perm_map_inv Page.d hp ps rfl
    exact ⟨tp, e2, by rw [e1]⟩
  · rintro _ _ rfl ⟨tp, h, rfl⟩
    exact ⟨tp, h, rfl⟩
  · rintro _ ⟨tp, h, rfl⟩
    have rt := turn_rt r0 h
    obtain ⟨a1, a2, a3, a4, a5⟩ := book_args rt
    refine ⟨_, ⟨hs, tp, a1, a2, a3, a4, a5, rfl, rfl⟩, ⟨sortU hs, sortP tp⟩, turn_rt rt (sortP_perm tp), sortP_id (sortP_pw tp), fun p hp => ?_, ?_, rfl⟩
    · rw [← hpn]
      exact List.mem_map_of_mem (h.mem_iff.mp ((sortP_perm tp).mem_iff.mp hp))
    · show (sortP tp).length = n
      rw [(sortP_perm tp).length_eq, h.length_eq, hpl]
  rintro _ ⟨b, r, hbs, hbn, hbl, rfl⟩
  have m := r.made hbs
  have hb := r.ok
  have hbh : b.houses = sortU hs := r.houses
  -- the days
  obtain ⟨p0, hp0, at0'⟩ := at_first (ps := ps) (by omega)
  obtain ⟨p1, hp1, at1'⟩ := at_last (ps := ps) (by omega)
  refine q_asg' (P := fun d => ∃ days : List Int, days.length ≤ 100 ∧ d = .list (days.map .int)) (ev_op' (P1 := Eq (.list [.int p0.day, .int (p1.day + 2)])) (P2 := fun d => ∃ l : List Int, l.length ≤ 20 ∧ d = .list (l.map .int))
    (ev_lst (ea_cons (ev_op (ev_op (by walk_at "ev") (by walk_at "ev") (o_ixL at0')) (by walk_at "ev") (o_ixT (at_day p0))) (ea_cons (ev_op (ev_op (ev_op (by walk_at "ev") (by walk_at "ev") (o_ixL at1')) (by walk_at "ev") (o_ixT (at_day p1))) (by walk_at "ev") o_addI) ea_nil)) (Nat.le_of_ble_eq_true rfl)) (fun _ _ => ?_) ?_) ?_
  · obtain ⟨qs, hqs, ecut⟩ := cutD_map (f := Page.d) (xs := ps) (lo := none) (hi := some 3)
    have hql : qs.length ≤ 16 := Nat.le_trans hqs.length_le (by omega)
    refine ev_lc' (PL := Eq (qs.map Page.d)) (ei_list (ev_slL (by walk_at "ev") eo_none (eo_some (by walk_at "ev")) ecut)) (fun _ j acc => ∃ l : List Int, l.length = j ∧ acc = l.map .int) (fun ds h => by rw [← h, List.length_map]; omega) (fun _ _ => ⟨[], rfl, rfl⟩) ?_ ?_
    · rintro _ j d acc rfl hj ⟨l, hl, rfl⟩ _
      rw [List.getElem?_map] at hj
      cases hq : qs[j]? with
      | none => rw [hq] at hj; cases hj
      | some q =>
        rw [hq] at hj
        cases hj
        refine ⟨_, Eq true, fun d => ∃ x : Int, d = .int x, by walk_at "tg", by walk_at "ev", fun _ => ?_, fun e => (by cases e), ?_⟩
        · refine ev_op' (P1 := Eq (.int q.day)) (P2 := fun d => ∃ x : Int, (0 ≤ x ∧ x < 4) ∧ d = .int x) (ev_op (by walk_at "ev") (by walk_at "ev") (o_ixT (at_day q))) (fun _ _ => ev_draw (m := 4) rfl (by walk_at "ev") (by decide) (by decide)) ?_
          rintro _ _ rfl ⟨x, hx, rfl⟩
          exact op_imp o_addI fun d e => ⟨_, e.symm⟩
        · rintro _ _ ⟨x, rfl⟩
          exact ⟨l ++ [x], by rw [List.length_append, hl]; rfl, by rw [List.map_append]; rfl⟩
    · rintro _ acc rfl ⟨l, hl, rfl⟩
      rw [List.length_map] at hl
      exact ⟨l, by omega, rfl⟩
  · rintro _ _ rfl ⟨l, hl, rfl⟩
    exact op_imp (o_addL (by rw [List.length_map]; show 2 + _ ≤ _; omega)) fun d e => ⟨[p0.day, p1.day + 2] ++ l, by rw [List.length_append]; show 2 + _ ≤ _; omega, by rw [← e, List.map_append]; rfl⟩
  rintro _ ⟨days, hdl, rfl⟩
  -- each thing by itself
  have rth : R_things_of [Book.d b] (.list ((thingsOf b.pages).map .str)) := ⟨b, hb, rfl, rfl⟩
  have hthl := r.thingsLen
  have htok : ∀ t, t ∈ thingsOf b.pages → okS t := fun t ht => word_ok (hts.words t (r.things ht))
  refine q_asgG (is := anyS) (ev_lcY PyData.str (thingsOf b.pages) (ei_list (by walk_at "ev")) (fun t => (onlyB b t).d) (by omega) ?_) (by walk_at "tg") ?_
  · intro t ht
    have ro : R_only [Book.d b, .str t] (onlyB b t).d := ⟨b, t, hb, htok t ht, r.onlyCan t, rfl, rfl⟩
    apply lcI
    · walk_at "tg"
    · walk_at "ev"
    · intro _
      walk_at "ev"
  refine q_asg' (P := Eq (.list ((thingsOf b.pages).map fun t => .list (tell b t days)))) (ev_lcY PyData.str (thingsOf b.pages) (ei_list (by walk_at "ev")) (fun t => .list (tell b t days)) (by omega) ?_) fun d hd => ?_
  · intro t ht
    have ro : R_told [Book.d b, .str t, .list (days.map .int)] (.list (tell b t days)) := ⟨b, t, days, hb, htok t ht, by omega, rfl, rfl⟩
    apply lcI
    · walk_at "tg"
    · walk_at "ev"
    · intro _
      walk_at "ev"
  subst hd
  have hkept : OkD (.list ((thingsOf b.pages).map fun t => .list (tell b t days))) 5 := OkD.list fun d hd => by
    obtain ⟨t, ht, rfl⟩ := List.mem_map.mp hd
    exact told_ok hb days
  have skept := hkept.sh (by decide)
  have ekept := eqv_refl _ hkept.lay
  refine q_retF (b := !PyData.eqv (.list ((thingsOf b.pages).map fun t => .list (tell b t days))) (.list ((thingsOf b.pages).map fun t => .list (tell b t days)))) (et_testD (ev_op (by walk_at "ev") (Ev.is (ev_lcY (fun t => PyData.tuple [(onlyB b t).d, .str t]) (thingsOf b.pages) (ei_zipS (f := fun t => (onlyB b t).d) (g := PyData.str) (xs := thingsOf b.pages) (by walk_at "ev")) (fun t => .list (tell (onlyB b t) t days)) (by omega) ?_) ?_) (o_neD skept skept))) (by rw [ekept]; rfl) ?_
  · intro t ht
    have ro : R_told [Book.d (onlyB b t), .str t, .list (days.map .int)] (.list (tell (onlyB b t) t days)) := ⟨onlyB b t, t, days, (r.only t).ok, htok t ht, by omega, rfl, rfl⟩
    apply lcI
    · walk_at "tg"
    · walk_at "ev"
    · intro _
      walk_at "ev"
  · congr 1
    exact List.map_congr_left fun t _ => by rw [tell_congr (only_of m)]
  -- what doesn't fit
  have rst : R_strange [Book.d b] (.list (((b.pages.filter (strange b.pages)).map Page.name).map .str)) := ⟨b, hb, rfl, rfl⟩
  have run' : R_unfit [Book.d b] (.list ((unfit b).map .str)) := ⟨b, hb, rfl, rfl⟩
  have pun := unfit_parts m
  have hul := unfit_len b
  have hdl2 := pun.length_eq
  rw [List.length_append] at hdl2
  refine q_asg (d := .list ((((b.pages.filter (strange b.pages)).map Page.name) ++ (thingsOf b.pages).flatMap fun t => unfit (onlyB b t)).map .str)) (Ev.is (ev_op (by walk_at "ev") (ev_cb (ea_cons (Ev.is (ev_lcY (fun t => (onlyB b t).d) (thingsOf b.pages) (ei_list (by walk_at "ev")) (fun t => .list ((unfit (onlyB b t)).map .str)) (by omega) ?_) ?_) (ea_cons (ev_lst ea_nil (Nat.zero_le _)) ea_nil)) (n_sumL (xss := (thingsOf b.pages).map fun t => (unfit (onlyB b t)).map .str) ?_)) (o_addL ?_)) ?_) ?_
  · intro t ht
    have ro : R_unfit [Book.d (onlyB b t)] (.list ((unfit (onlyB b t)).map .str)) := ⟨onlyB b t, (r.only t).ok, rfl, rfl⟩
    apply lcI
    · walk_at "tg"
    · walk_at "ev"
    · intro _
      walk_at "ev"
  · rw [List.map_map]
    rfl
  · rw [flat_strs, List.length_map]
    omega
  · rw [flat_strs]
    simp only [List.length_map] at hdl2 ⊢
    omega
  · rw [flat_strs, List.map_append]
  rw [← List.length_append] at hdl2
  generalize ((b.pages.filter (strange b.pages)).map Page.name) ++ ((thingsOf b.pages).flatMap fun t => unfit (onlyB b t)) = due at pun hdl2 ⊢
  have es : sortS due = sortS (unfit b) := (sortS_congr pun).symm
  have ush : SeqAt.shaped (.list ((sortS (unfit b)).map .str)) = true := strs_sh fun x hx => by
    have hx' := (sortS_perm _).mem_iff.mp hx
    obtain ⟨p, hp, rfl⟩ := List.mem_map.mp hx'
    exact Page.ok_name (hb.pages p (List.mem_filter.mp hp).1)
  refine q_retF (b := !PyData.eqv (.list ((sortS (unfit b)).map .str)) (.list ((sortS (unfit b)).map .str))) (et_testD (ev_op (ev_cb (ea_one (by walk_at "ev")) (n_sortS1 (by omega))) (Ev.is (ev_cb (ea_one (by walk_at "ev")) (n_sortS1 (by omega))) (by rw [es])) (o_neD ush ush))) (by rw [eqv_refl _ (SeqAt.canLay_of_shaped ush)]; rfl) ?_
  -- the rest, the balances
  have rre := r.restCan.args
  refine q_asg (d := (restB b).d) (ev_call (ea_cons (by walk_at "ev") (ea_one (ev_lcX Page.d b.pages (by walk_at "ev") isRest Page.d (by omega) ?_))) rre) ?_
  · intro p hp
    cases p <;> walk_at "lc"
  obtain ⟨dys, _, ecut⟩ := cutD_map (f := PyData.int) (xs := days) (lo := some 1) (hi := some 4)
  refine q_forX (is := anyS) PyData.int dys (ei_list (ev_slL (by walk_at "ev") (eo_some (by walk_at "ev")) (eo_some (by walk_at "ev")) ecut)) (fun _ s' => ∃ c14 : Cell, s' = ([.ref scr, .ref pen, .val (.tuple [.list (hs.map .str), .list (ts.map .str), .list (ks.map .str)]), .val (.list (ns.map .str)), .val (.list (ps.map Page.d)), .val (Book.d b), .val (.list (days.map .int)), .unk, .val (.list ((thingsOf b.pages).map fun t => (onlyB b t).d)), .unk,
      .val (.list ((thingsOf b.pages).map fun t => .list (tell b t days))), .unk, .val (.list (due.map .str)), .val (restB b).d, c14, .unk, .unk, .unk, .unk, .unk, .unk, .unk], [])) ⟨_, rfl⟩ ?_ ?_
  · rintro pre day post _ e ⟨c14, rfl⟩
    refine forI (by walk_at "tg") ?_
    have rb : R_bal [Book.d b, .list ((thingsOf b.pages).map fun t => (onlyB b t).d), (restB b).d, .int day] (.bool true) := ⟨b, (thingsOf b.pages).map (onlyB b), restB b, day, hb, fun x hx => by
      obtain ⟨t, _, rfl⟩ := List.mem_map.mp hx
      exact (r.only t).ok, r.rest.ok, by rw [List.length_map]; omega, fun one other _ _ _ => balance_parts m one other day, by rw [List.map_map]; rfl, rfl⟩
    exact tr_if (b := false) (by apply EvT.is; walk_at "ev"; rfl) (fun z => nomatch z) fun _ => tr_next ⟨.val (.int day), rfl⟩
  rintro _ ⟨c14, rfl⟩
  -- another thing
  have hts4 := hts.hi
  obtain ⟨c, rr, hfc⟩ := fresh_there hts4
  have hcm : c ∈ letters.cps.toList.filter (fun c => !decide ((⟨#[c]⟩ : Str) ∈ ts)) := by rw [hfc]; exact List.mem_cons_self ..
  obtain ⟨hcl, hct⟩ := List.mem_filter.mp hcm
  have hct : (⟨#[c]⟩ : Str) ∉ ts := by simpa using hct
  have wfr := fresh_word hcl
  refine q_asg (d := .str letters) (by walk_at "ev") ?_
  have alt := all_isStr (xs := ts)
  refine q_asg (d := .str ⟨#[c]⟩) (ev_op (Ev.is (ev_lcX (fun c : Nat => PyData.str ⟨#[c]⟩) letters.cps.toList (ei_str (by walk_at "ev")) (fun c => !decide ((⟨#[c]⟩ : Str) ∈ ts)) (fun c => .str ⟨#[c]⟩) (by rw [letters_len]; decide) ?_) (by rw [hfc, List.map_cons])) (by walk_at "ev") (o_ixL (at0 _ _))) ?_
  · intro c hc
    apply lcI
    · walk_at "tg"
    · refine EvT.is (et_testD (ev_op (by walk_at "ev") (by walk_at "ev") (o_inL alt))) ?_
      rw [in_dec]
      rfl
    · intro _
      walk_at "ev"
  refine q_asg' (P := Eq (.list (((ps.filter isLooseB).map looseName).map .str))) (Ev.is (ev_lcX Page.d ps (by walk_at "ev") isLooseB (fun p => .str (looseName p)) (by omega) ?_) (by rw [List.map_map]; rfl)) fun d hd => ?_
  · intro p hp
    cases p
    case loose => walk_at "lc"
    all_goals (apply lcI; (walk_at "tg"); ((apply EvT.is); (walk_at "ev"); rfl); (intro z; cases z))
  subst hd
  generalize (ps.filter isLooseB).map looseName = ls
  have all' := all_isStr (xs := ls)
  refine q_asgG (is := anyS) (ev_lcX PyData.str (ns.drop 17) (ei_list (ev_slL (lo := some 17) (hi := none) (by walk_at "ev") (eo_some (by walk_at "ev")) eo_none ((cutD_from (n := 17) (by rw [List.length_map]; omega)).trans List.map_drop.symm))) (fun x => !decide (x ∈ ls)) PyData.str (by rw [List.length_drop]; omega) ?_) (by walk_at "tg") ?_
  · intro x hx
    apply lcI
    · walk_at "tg"
    · refine EvT.is (et_testD (ev_op (by walk_at "ev") (by walk_at "ev") (o_inL all'))) ?_
      rw [in_dec]
      rfl
    · intro _
      walk_at "ev"
  have hos : ∀ x, x ∈ (ns.drop 17).filter (fun x => !decide (x ∈ ls)) → x ∈ ns.drop 17 := fun x hx => (List.mem_filter.mp hx).1
  have hosn : ((ns.drop 17).filter fun x => !decide (x ∈ ls)).Nodup := (hns.nd.sublist (List.drop_sublist ..)).sublist List.filter_sublist
  have hosl : ((ns.drop 17).filter fun x => !decide (x ∈ ls)).length ≤ 5 := Nat.le_trans (List.length_filter_le ..) (by rw [List.length_drop]; omega)
  generalize (ns.drop 17).filter (fun x => !decide (x ∈ ls)) = os at hos hosn hosl ⊢
  have prun : ORun.pre ⟨os, hs, [⟨#[c]⟩], ks⟩ := ⟨⟨Nat.zero_le _, by show os.length ≤ 22; omega, fun x hx => hns.words x (List.mem_of_mem_drop (hos x hx)), hosn⟩, hhs, ⟨Nat.le_refl 1, by show 1 ≤ 4; decide, fun x hx => by rw [List.mem_singleton.mp hx]; exact wfr, by simp⟩, hks⟩
  refine q_asg' (P := fun d => ∃ mo : Book, Book.ok mo ∧ (∀ t, t ∈ thingsOf b.pages → pagesOf mo.pages t = pagesOf b.pages t) ∧ d = Book.d mo) (ev_call' (PA := fun ds => ∃ qs : List Page, qs.map Page.name = os ∧ (∀ p, p ∈ qs → goodR os hs [⟨#[c]⟩] ks p) ∧ ds = [Book.d b, Book.d ⟨sortU b.houses, sortP qs⟩])
    (ea_cons' (P := Eq (Book.d b)) (PA := fun ds => ∃ qs : List Page, qs.map Page.name = os ∧ (∀ p, p ∈ qs → goodR os hs [⟨#[c]⟩] ks p) ∧ ds = [Book.d ⟨sortU b.houses, sortP qs⟩]) (by walk_at "ev") (fun _ _ => ea_cons' (P := fun d => ∃ qs : List Page, qs.map Page.name = os ∧ (∀ p, p ∈ qs → goodR os hs [⟨#[c]⟩] ks p) ∧ d = Book.d ⟨sortU b.houses, sortP qs⟩) (PA := Eq [])
      (ev_call' (PA := fun ds => ∃ qs : List Page, qs.map Page.name = os ∧ (∀ p, p ∈ qs → goodR os hs [⟨#[c]⟩] ks p) ∧ ds = [.tuple (b.houses.map .str), .list (qs.map Page.d)]) (ea_cons' (P := Eq (.tuple (b.houses.map .str))) (PA := fun ds => ∃ qs : List Page, qs.map Page.name = os ∧ (∀ p, p ∈ qs → goodR os hs [⟨#[c]⟩] ks p) ∧ ds = [.list (qs.map Page.d)]) (by walk_at "ev")
        (fun _ _ => ea_cons' (P := R_run ⟨os, hs, [⟨#[c]⟩], ks⟩) (PA := Eq []) (ev_callQ (x := (⟨os, hs, [⟨#[c]⟩], ks⟩ : ORun)) (ds := [.list (os.map .str), .tuple [.list (hs.map .str), .list [.str ⟨#[c]⟩], .list (ks.map .str)]]) rfl (by walk_at "ev") rfl prun) (fun _ _ => ea_nil) ?_) ?_) ?_) (fun _ _ => ea_nil) ?_) ?_) ?_) ?_
  · rintro _ _ ⟨qs, h1, h2, rfl⟩ rfl
    exact ⟨qs, h1, h2, rfl⟩
  · rintro _ _ rfl ⟨qs, h1, h2, rfl⟩
    exact ⟨qs, h1, h2, rfl⟩
  · rintro _ ⟨qs, h1, h2, rfl⟩
    have q0 : Rt hs [⟨#[c]⟩] ks ⟨sortU hs, qs⟩ := base_rt hhs (Nat.le_of_ble_eq_true rfl) hks hosn (by omega) h1 h2
    have q1 : b.can qs := q0.can (o := b) hbh
    exact ⟨_, q1.args, qs, h1, h2, rfl⟩
  · rintro _ _ ⟨qs, h1, h2, rfl⟩ rfl
    exact ⟨qs, h1, h2, rfl⟩
  · rintro _ _ rfl ⟨qs, h1, h2, rfl⟩
    exact ⟨qs, h1, h2, rfl⟩
  · rintro _ ⟨qs, h1, h2, rfl⟩
    obtain ⟨k1, k2, k3, k4⟩ := more_rt (n := n) r (by omega) hbn hn16 hns.nd (by omega) hos hosn (by omega) hks hct h1 h2
    exact ⟨_, ⟨b, ⟨sortU b.houses, sortP qs⟩, hb, k1.ok, by rw [hbh, sortU_sortU], k2, rfl, rfl⟩, bothB b ⟨sortU b.houses, sortP qs⟩, k3, fun t ht => k4 t ht hbs, rfl⟩
  rintro _ ⟨mo, hmo, hmt, rfl⟩
  refine tr_retI (Ev.is (ev_op (by walk_at "ev") (Ev.is (ev_lcY PyData.str (thingsOf b.pages) (ei_list (by walk_at "ev")) (fun t => .list (tell mo t days)) (by omega) ?_) ?_) (o_eqD skept skept)) (by rw [ekept])) rfl
  · intro t ht
    have ro : R_told [Book.d mo, .str t, .list (days.map .int)] (.list (tell mo t days)) := ⟨mo, t, days, hmo, htok t ht, by omega, rfl, rfl⟩
    apply lcI
    · walk_at "tg"
    · walk_at "ev"
    · intro _
      walk_at "ev"
  · congr 1
    exact List.map_congr_left fun t ht => by rw [tell_congr (hmt t ht)]
end
end K92
end
section -- K92I
set_option maxRecDepth 100000
set_option maxHeartbeats 10000000
/-! All defs together; the law. -/
namespace K92
open PySem PySem.Spec PyProof.Rows L2
section
variable {P : Program} {w : World} {K : PySem.W.Frag} {mg : Str → Option Value} {base : Heap} {f : Addr} {fd : FuncData}
theorem law_ok (T : Tx w K mg) (F : FunD K "law" "law" (defArgs s_law) (defBody s_law) (defScope s_law) [] [] f fd) : FnOk P w K mg base CX0 9 f fd ["_law_script"] (spLaw K) := by
  have c_arrived := ok_arrived (P := P) (base := base) T
  have c_owner_of := ok_owner_of (P := P) (base := base) T
  have c_moved := ok_moved T c_arrived
  have c_Going := ok_Going (P := P) (base := base) T
  have c_comes := ok_comes (P := P) (base := base) T
  have c_promises := ok_promises T c_owner_of
  have c_looses := ok_looses (P := P) (base := base) T
  have c_takes := ok_takes T c_arrived c_moved c_comes c_promises c_looses
  have c_track_of := ok_track_of T c_Going c_takes
  have c_houses_in := ok_houses_in (P := P) (base := base) T
  have c_things_in := ok_things_in (P := P) (base := base) T
  have c_kinds_in := ok_kinds_in (P := P) (base := base) T
  have c_pages_of := ok_pages_of T c_things_in
  have c_stand_of := ok_stand_of T c_arrived
  have c_double_of := ok_double_of (P := P) (base := base) T
  have c_track := ok_track T c_pages_of c_track_of
  have c_where := ok_where T c_pages_of c_track_of c_stand_of
  have c_is_double := ok_is_double T c_pages_of c_track_of c_double_of
  have c_kind_of := ok_kind_of T c_pages_of
  have c_dues_of := ok_dues_of T c_arrived
  have c_plain_dues := ok_plain_dues (P := P) (base := base) T
  have c_owed_by := ok_owed_by (P := P) (base := base) T
  have c_balance_by := ok_balance_by T c_owed_by
  have c_ending := ok_ending (P := P) (base := base) T
  have c_became_of := ok_became_of T c_ending
  have c_open_of := ok_open_of T c_became_of
  have c_all_T := ok_all_named_T T things_le c_things_in
  have c_all_H := ok_all_named_L T houses_le c_houses_in
  have c_all_L := ok_all_named_L T things_le c_things_in
  have c_all_K := ok_all_named_L T kinds_le c_kinds_in
  have c_things_of := ok_things_of T c_things_in c_all_T
  have c_fitting := ok_fitting T c_things_of c_track
  have c_unfit := ok_unfit T c_fitting
  have c_all_dues := ok_all_dues T c_plain_dues c_things_of c_pages_of c_track_of c_dues_of
  have c_balance := ok_balance T c_all_dues c_balance_by
  have c_open_promises := ok_open_promises T c_pages_of c_track_of c_open_of
  have c_is_word := ok_is_word (P := P) (base := base) T
  have c_is_from_to := ok_is_from_to (P := P) (base := base) T
  have c_is_day := ok_is_day T c_is_from_to
  have c_is_part := ok_is_part T c_is_word c_is_day c_is_from_to
  have c_is_page := ok_is_page T c_is_part c_houses_in
  have c_page_key := ok_page_key (P := P) (base := base) T
  have c_in_order := ok_in_order T c_page_key
  have c_ask_book := ok_ask_book (P := P) (base := base) T
  have c_houses_L := ok_houses_of_L T c_ask_book c_is_word
  have c_houses_T := ok_houses_of_T T c_ask_book c_is_word
  have c_pages_in_order := ok_pages_in_order T c_ask_book c_is_page c_houses_in c_things_in c_kinds_in c_all_H c_all_L c_all_K c_in_order
  have c_book_of_L := ok_book_of T .list c_houses_L c_pages_in_order
  have c_book_of := ok_book_of T .tuple c_houses_T c_pages_in_order
  have c_only := ok_only T c_pages_of c_book_of
  have c_together := ok_together T c_ask_book c_book_of
  have c_draw := ok__law_draw (P := P) (base := base) T
  have c_words := ok__law_words T c_draw
  have c_here := ok__law_here (P := P) (base := base) T
  have c_behind := ok__law_behind (P := P) (base := base) T
  have c_sorts := ok__law_sorts T c_draw c_words
  have c_of_thing := ok__law_of_thing T c_draw
  have c_of_houses := ok__law_of_houses T c_draw
  have c_run := ok__law_run T c_draw c_here c_behind c_of_thing c_of_houses
  have c_turned := ok__law_turned T c_draw
  have c_told := ok__law_told T c_track c_kind_of c_where c_is_double c_open_promises
  have c_strange := ok__law_strange_looses (P := P) (base := base) T
  have c_bal := ok__law_balance_right T c_balance
  exact ok_law F T c_draw c_words c_sorts c_run c_turned c_book_of_L c_book_of c_things_of c_only c_told c_strange c_unfit c_bal c_together
theorem facts {h : Heap} (X : K.In h) (T : Tx w K mg) (hfa : mg ("law" : Str) = some (.ref f)) :
    ∃ fd : FuncData, (∀ (s : Shared) (v : Value), BindsTo s fd ⟨[v], []⟩ [("_law_script", v)]) ∧ ∀ base : Heap, K.In base → base.Ns mainGlobals mg → FnOk P w K mg base CX0 9 f fd ["_law_script"] (spLaw K) := by
  obtain ⟨f', fd, e', F⟩ := T.d_law.ex
  have e := hfa.symm.trans e'
  cases e
  have b := FunD.bindsA (ps := ["_law_script"]) F fun _ _ _ _ _ _ us hl => match us, hl with | [_], _ => rfl
  exact ⟨fd, fun s v => b s [v] rfl, fun base _ _ => law_ok T F⟩
end
end K92
open PySem PySem.W PySem.Calls PyProof.Rows
theorem PySem.Challenge.cw_doublerings_k92_whole_each_thing_by_itse_holds : PySem.Challenge.rw_doublerings_k92_whole_each_thing_by_itse.Holds := by
  w_on; o_law
  refine HandSHeadRun.head_any (r := OpenLaw.row PySem.Challenge.rw_doublerings_k92_whole_each_thing_by_itse) (q := view (OpenLaw.row PySem.Challenge.rw_doublerings_k92_whole_each_thing_by_itse).prog [87]) (H := K92.hk) (ob := K92.ob) (M := 20000) (loose := K92.names) (d := HandSHeadRun.topDef (OpenLaw.row PySem.Challenge.rw_doublerings_k92_whole_each_thing_by_itse).prog 87) (kwd := []) K92.ob_eq
    (by kernel_rfl) (fun s => by kernel_rfl) K92.run (by kernel_rfl) (by kernel_rfl) (by kernel_rfl) (by rfl) (by first | assumption | decide +kernel) (by decide +kernel) ⟨rfl, rfl, rfl, rfl, rfl, by decide +kernel⟩ ?hw ?hc
  case hw => w_witness2
  case hc =>
    refine L2.walk_ofE (l := PySem.Challenge.rw_doublerings_k92_whole_each_thing_by_itse) (n := 63) (k := 9) (x := "_law_script") (CX := L2.CX0) rfl (by decide) (by kernel_rfl) ⟨rfl, by decide, by decide⟩ ?F (fun _ _ _ _ z => z)
    intro w mg fa h Y G hmg0
    obtain ⟨K, KX, c⟩ := Y
    have hmg : mg ("law" : PySem.Str) = some (.ref fa) := by
      have e : (HandSHeadRun.topDef (OpenLaw.row PySem.Challenge.rw_doublerings_k92_whole_each_thing_by_itse).prog 87).name = ("law" : PySem.Str) := by kernel_rfl
      rw [← e]
      exact hmg0
    obtain ⟨fd, hb, hF⟩ := K92.facts (P := (PySem.Challenge.rw_doublerings_k92_whole_each_thing_by_itse).prog) KX (K92.tx_mk c KX G) hmg
    exact ⟨K, fd, K92.spLaw K, KX, hb, fun H a ns hl _ hS => ⟨a, ns, rfl, hS, fun _ => rfl⟩, hF⟩
end
