import PyProof.Rows.All
import Wide.All
import OpenK.AllK
import Wide.FinOn
import HandS.ForMost
import HandS.HeadWalk
import HandS.HeadHook4
import HandS.Head0
import HandS.Head1
import HandS.Head2
import HandS.IsInst
import HandS.SetKeys
import HandS.StrMore
import HandS.Wide
import HandS.More
import HandS.Evl
import HandS.Lambda
import HandS.Defaults
import KE.SortKeyHeap
import HandS.SortKw
import KE.KSortKey
import HandS.NoneIn
import PySem.Challenge.RW_knotpurse_k20_whole_breaches
set_option Elab.async false
set_option linter.all false
set_option maxRecDepth 100000
set_option maxHeartbeats 4000000
namespace Kp
open PySem PySem.Spec PyProof.Rows L2
def top (i : Nat) : Stmt := PySem.Challenge.pw_knotpurse_k20_whole_breaches.main.body.getD i (.Pass ⟨0, 0, 0, 0⟩)
abbrev s_is_whole : Stmt := top 11
abbrev s_within : Stmt := top 12
abbrev s_is_name : Stmt := top 13
abbrev s_check : Stmt := top 17
abbrev s_check_coins : Stmt := top 18
abbrev s_Entry_named : Stmt := inClass (top 19) 1
abbrev s_Entry_lasts : Stmt := inClass (top 19) 2
abbrev s_Entry_fits : Stmt := inClass (top 19) 3
abbrev s_Give_init : Stmt := inClass (top 20) 0
abbrev s_Give_told : Stmt := inClass (top 20) 1
abbrev s_Give_named : Stmt := inClass (top 20) 2
abbrev s_Hold_init : Stmt := inClass (top 21) 0
abbrev s_Hold_told : Stmt := inClass (top 21) 1
abbrev s_Hold_named : Stmt := inClass (top 21) 2
abbrev s_Hold_lasts : Stmt := inClass (top 21) 3
abbrev s_Move_init : Stmt := inClass (top 22) 0
abbrev s_Move_told : Stmt := inClass (top 22) 1
abbrev s_Move_named : Stmt := inClass (top 22) 2
abbrev s_Spend_init : Stmt := inClass (top 23) 0
abbrev s_Spend_told : Stmt := inClass (top 23) 1
abbrev s_Spend_named : Stmt := inClass (top 23) 2
abbrev s_Promise_init : Stmt := inClass (top 24) 0
abbrev s_Promise_told : Stmt := inClass (top 24) 1
abbrev s_Promise_named : Stmt := inClass (top 24) 2
abbrev s_Lessen_init : Stmt := inClass (top 25) 0
abbrev s_Lessen_told : Stmt := inClass (top 25) 1
abbrev s_Out_init : Stmt := inClass (top 26) 0
abbrev s_Out_told : Stmt := inClass (top 26) 1
abbrev s_is_day : Stmt := top 30
abbrev s_is_row : Stmt := top 31
abbrev s_turn_of : Stmt := top 32
abbrev s_gone_through : Stmt := top 33
abbrev s_Count_init : Stmt := inClass (top 34) 0
abbrev s_Count_begin : Stmt := inClass (top 34) 1
abbrev s_Count_hold : Stmt := inClass (top 34) 2
abbrev s_Count_load : Stmt := inClass (top 34) 3
abbrev s_Count_is_fault : Stmt := inClass (top 34) 4
abbrev s_Count_put_promise : Stmt := inClass (top 34) 5
abbrev s_Count_put_other : Stmt := inClass (top 34) 6
abbrev s_Count_put : Stmt := inClass (top 34) 7
abbrev s_Count_left : Stmt := inClass (top 34) 8
abbrev s_Count_passed : Stmt := inClass (top 34) 9
abbrev s_Count_stand : Stmt := inClass (top 34) 10
abbrev s_Dated_init : Stmt := inClass (top 35) 0
abbrev s_Dated_settle : Stmt := inClass (top 35) 1
abbrev s_Dated_breach : Stmt := inClass (top 35) 2
abbrev s_are_tuples : Stmt := top 43
abbrev s_are_heads : Stmt := top 44
abbrev s_are_limits : Stmt := top 45
abbrev s_are_rules : Stmt := top 46
abbrev s_Year_init : Stmt := inClass (top 47) 0
abbrev s_Year_names : Stmt := inClass (top 47) 1
abbrev s_Year_above : Stmt := inClass (top 47) 2
abbrev s_Year_knots : Stmt := inClass (top 47) 3
abbrev s_Year_under : Stmt := inClass (top 47) 4
abbrev s_l_cell_at : Stmt := top 49
abbrev s_l_mixed : Stmt := top 50
abbrev s_l_well : Stmt := top 51
abbrev s_l_draw : Stmt := top 52
abbrev s_l_names : Stmt := top 53
abbrev s_l_limits : Stmt := top 54
abbrev s_l_rules : Stmt := top 55
abbrev s_l_year : Stmt := top 56
abbrev s_l_row : Stmt := top 57
abbrev s_l_entry : Stmt := top 58
abbrev s_l_made : Stmt := top 59
abbrev s_l_rows : Stmt := top 60
abbrev s_l_walked : Stmt := top 61
abbrev s_l_sums : Stmt := top 62
abbrev s_l_under : Stmt := top 63
abbrev s_l_taken : Stmt := top 64
abbrev s_l_breach : Stmt := top 65
abbrev s_law : Stmt := top 66
def d_is_whole : He.DefD := ⟨("is_whole", none), "is_whole", "is_whole", defArgs s_is_whole, defBody s_is_whole, defScope s_is_whole, [], []⟩
def d_within : He.DefD := ⟨("within", none), "within", "within", defArgs s_within, defBody s_within, defScope s_within, [], []⟩
def d_is_name : He.DefD := ⟨("is_name", none), "is_name", "is_name", defArgs s_is_name, defBody s_is_name, defScope s_is_name, [], []⟩
def d_check : He.DefD := ⟨("check", none), "check", "check", defArgs s_check, defBody s_check, defScope s_check, [], []⟩
def d_check_coins : He.DefD := ⟨("check_coins", none), "check_coins", "check_coins", defArgs s_check_coins, defBody s_check_coins, defScope s_check_coins, [], []⟩
def d_Entry_named : He.DefD := ⟨("Entry", some "named"), "named", "Entry.named", defArgs s_Entry_named, defBody s_Entry_named, defScope s_Entry_named, [], []⟩
def d_Entry_lasts : He.DefD := ⟨("Entry", some "lasts"), "lasts", "Entry.lasts", defArgs s_Entry_lasts, defBody s_Entry_lasts, defScope s_Entry_lasts, [], []⟩
def d_Entry_fits : He.DefD := ⟨("Entry", some "fits"), "fits", "Entry.fits", defArgs s_Entry_fits, defBody s_Entry_fits, defScope s_Entry_fits, [], []⟩
def d_Give_init : He.DefD := ⟨("Give", some "__init__"), "__init__", "Give.__init__", defArgs s_Give_init, defBody s_Give_init, defScope s_Give_init, [], []⟩
def d_Give_told : He.DefD := ⟨("Give", some "told"), "told", "Give.told", defArgs s_Give_told, defBody s_Give_told, defScope s_Give_told, [], []⟩
def d_Give_named : He.DefD := ⟨("Give", some "named"), "named", "Give.named", defArgs s_Give_named, defBody s_Give_named, defScope s_Give_named, [], []⟩
def d_Hold_init : He.DefD := ⟨("Hold", some "__init__"), "__init__", "Hold.__init__", defArgs s_Hold_init, defBody s_Hold_init, defScope s_Hold_init, [], []⟩
def d_Hold_told : He.DefD := ⟨("Hold", some "told"), "told", "Hold.told", defArgs s_Hold_told, defBody s_Hold_told, defScope s_Hold_told, [], []⟩
def d_Hold_named : He.DefD := ⟨("Hold", some "named"), "named", "Hold.named", defArgs s_Hold_named, defBody s_Hold_named, defScope s_Hold_named, [], []⟩
def d_Hold_lasts : He.DefD := ⟨("Hold", some "lasts"), "lasts", "Hold.lasts", defArgs s_Hold_lasts, defBody s_Hold_lasts, defScope s_Hold_lasts, [], []⟩
def d_Move_init : He.DefD := ⟨("Move", some "__init__"), "__init__", "Move.__init__", defArgs s_Move_init, defBody s_Move_init, defScope s_Move_init, [], []⟩
def d_Move_told : He.DefD := ⟨("Move", some "told"), "told", "Move.told", defArgs s_Move_told, defBody s_Move_told, defScope s_Move_told, [], []⟩
def d_Move_named : He.DefD := ⟨("Move", some "named"), "named", "Move.named", defArgs s_Move_named, defBody s_Move_named, defScope s_Move_named, [], []⟩
def d_Spend_init : He.DefD := ⟨("Spend", some "__init__"), "__init__", "Spend.__init__", defArgs s_Spend_init, defBody s_Spend_init, defScope s_Spend_init, [], []⟩
def d_Spend_told : He.DefD := ⟨("Spend", some "told"), "told", "Spend.told", defArgs s_Spend_told, defBody s_Spend_told, defScope s_Spend_told, [], []⟩
def d_Spend_named : He.DefD := ⟨("Spend", some "named"), "named", "Spend.named", defArgs s_Spend_named, defBody s_Spend_named, defScope s_Spend_named, [], []⟩
def d_Promise_init : He.DefD := ⟨("Promise", some "__init__"), "__init__", "Promise.__init__", defArgs s_Promise_init, defBody s_Promise_init, defScope s_Promise_init, [], []⟩
def d_Promise_told : He.DefD := ⟨("Promise", some "told"), "told", "Promise.told", defArgs s_Promise_told, defBody s_Promise_told, defScope s_Promise_told, [], []⟩
def d_Promise_named : He.DefD := ⟨("Promise", some "named"), "named", "Promise.named", defArgs s_Promise_named, defBody s_Promise_named, defScope s_Promise_named, [], []⟩
def d_Lessen_init : He.DefD := ⟨("Lessen", some "__init__"), "__init__", "Lessen.__init__", defArgs s_Lessen_init, defBody s_Lessen_init, defScope s_Lessen_init, [], []⟩
def d_Lessen_told : He.DefD := ⟨("Lessen", some "told"), "told", "Lessen.told", defArgs s_Lessen_told, defBody s_Lessen_told, defScope s_Lessen_told, [], []⟩
def d_Out_init : He.DefD := ⟨("Out", some "__init__"), "__init__", "Out.__init__", defArgs s_Out_init, defBody s_Out_init, defScope s_Out_init, [], []⟩
def d_Out_told : He.DefD := ⟨("Out", some "told"), "told", "Out.told", defArgs s_Out_told, defBody s_Out_told, defScope s_Out_told, [], []⟩
def d_is_day : He.DefD := ⟨("is_day", none), "is_day", "is_day", defArgs s_is_day, defBody s_is_day, defScope s_is_day, [], []⟩
def d_is_row : He.DefD := ⟨("is_row", none), "is_row", "is_row", defArgs s_is_row, defBody s_is_row, defScope s_is_row, [], []⟩
def d_turn_of : He.DefD := ⟨("turn_of", none), "turn_of", "turn_of", defArgs s_turn_of, defBody s_turn_of, defScope s_turn_of, [], []⟩
def d_gone_through : He.DefD := ⟨("gone_through", none), "gone_through", "gone_through", defArgs s_gone_through, defBody s_gone_through, defScope s_gone_through, [], []⟩
def d_Count_init : He.DefD := ⟨("Count", some "__init__"), "__init__", "Count.__init__", defArgs s_Count_init, defBody s_Count_init, defScope s_Count_init, [], []⟩
def d_Count_begin : He.DefD := ⟨("Count", some "begin"), "begin", "Count.begin", defArgs s_Count_begin, defBody s_Count_begin, defScope s_Count_begin, [], []⟩
def d_Count_hold : He.DefD := ⟨("Count", some "hold"), "hold", "Count.hold", defArgs s_Count_hold, defBody s_Count_hold, defScope s_Count_hold, [], []⟩
def d_Count_load : He.DefD := ⟨("Count", some "load"), "load", "Count.load", defArgs s_Count_load, defBody s_Count_load, defScope s_Count_load, [], []⟩
def d_Count_is_fault : He.DefD := ⟨("Count", some "is_fault"), "is_fault", "Count.is_fault", defArgs s_Count_is_fault, defBody s_Count_is_fault, defScope s_Count_is_fault, [], []⟩
def d_Count_put_promise : He.DefD := ⟨("Count", some "put_promise"), "put_promise", "Count.put_promise", defArgs s_Count_put_promise, defBody s_Count_put_promise, defScope s_Count_put_promise, [], []⟩
def d_Count_put_other : He.DefD := ⟨("Count", some "put_other"), "put_other", "Count.put_other", defArgs s_Count_put_other, defBody s_Count_put_other, defScope s_Count_put_other, [], []⟩
def d_Count_put : He.DefD := ⟨("Count", some "put"), "put", "Count.put", defArgs s_Count_put, defBody s_Count_put, defScope s_Count_put, [], []⟩
def d_Count_left : He.DefD := ⟨("Count", some "left"), "left", "Count.left", defArgs s_Count_left, defBody s_Count_left, defScope s_Count_left, [], []⟩
def d_Count_passed : He.DefD := ⟨("Count", some "passed"), "passed", "Count.passed", defArgs s_Count_passed, defBody s_Count_passed, defScope s_Count_passed, [], []⟩
def d_Count_stand : He.DefD := ⟨("Count", some "stand"), "stand", "Count.stand", defArgs s_Count_stand, defBody s_Count_stand, defScope s_Count_stand, [], []⟩
def d_Dated_init : He.DefD := ⟨("Dated", some "__init__"), "__init__", "Dated.__init__", defArgs s_Dated_init, defBody s_Dated_init, defScope s_Dated_init, [], []⟩
def d_Dated_settle : He.DefD := ⟨("Dated", some "settle"), "settle", "Dated.settle", defArgs s_Dated_settle, defBody s_Dated_settle, defScope s_Dated_settle, [], []⟩
def d_Dated_breach : He.DefD := ⟨("Dated", some "breach"), "breach", "Dated.breach", defArgs s_Dated_breach, defBody s_Dated_breach, defScope s_Dated_breach, [], []⟩
def d_are_tuples : He.DefD := ⟨("are_tuples", none), "are_tuples", "are_tuples", defArgs s_are_tuples, defBody s_are_tuples, defScope s_are_tuples, [], []⟩
def d_are_heads : He.DefD := ⟨("are_heads", none), "are_heads", "are_heads", defArgs s_are_heads, defBody s_are_heads, defScope s_are_heads, [], []⟩
def d_are_limits : He.DefD := ⟨("are_limits", none), "are_limits", "are_limits", defArgs s_are_limits, defBody s_are_limits, defScope s_are_limits, [], []⟩
def d_are_rules : He.DefD := ⟨("are_rules", none), "are_rules", "are_rules", defArgs s_are_rules, defBody s_are_rules, defScope s_are_rules, [], []⟩
def d_Year_init : He.DefD := ⟨("Year", some "__init__"), "__init__", "Year.__init__", defArgs s_Year_init, defBody s_Year_init, defScope s_Year_init, [], []⟩
def d_Year_names : He.DefD := ⟨("Year", some "names"), "names", "Year.names", defArgs s_Year_names, defBody s_Year_names, defScope s_Year_names, [], []⟩
def d_Year_above : He.DefD := ⟨("Year", some "above"), "above", "Year.above", defArgs s_Year_above, defBody s_Year_above, defScope s_Year_above, [], []⟩
def d_Year_knots : He.DefD := ⟨("Year", some "knots"), "knots", "Year.knots", defArgs s_Year_knots, defBody s_Year_knots, defScope s_Year_knots, [], []⟩
def d_Year_under : He.DefD := ⟨("Year", some "under"), "under", "Year.under", defArgs s_Year_under, defBody s_Year_under, defScope s_Year_under, [], []⟩
def d_l_cell_at : He.DefD := ⟨("_law_cell_at", none), "_law_cell_at", "_law_cell_at", defArgs s_l_cell_at, defBody s_l_cell_at, defScope s_l_cell_at, [], []⟩
def d_l_mixed : He.DefD := ⟨("_law_mixed", none), "_law_mixed", "_law_mixed", defArgs s_l_mixed, defBody s_l_mixed, defScope s_l_mixed, [], []⟩
def d_l_well : He.DefD := ⟨("_law_well", none), "_law_well", "_law_well", defArgs s_l_well, defBody s_l_well, defScope s_l_well, [], []⟩
def d_l_draw : He.DefD := ⟨("_law_draw", none), "_law_draw", "_law_draw", defArgs s_l_draw, defBody s_l_draw, defScope s_l_draw, [], []⟩
def d_l_names : He.DefD := ⟨("_law_names", none), "_law_names", "_law_names", defArgs s_l_names, defBody s_l_names, defScope s_l_names, [], []⟩
def d_l_limits : He.DefD := ⟨("_law_limits", none), "_law_limits", "_law_limits", defArgs s_l_limits, defBody s_l_limits, defScope s_l_limits, [], []⟩
def d_l_rules : He.DefD := ⟨("_law_rules", none), "_law_rules", "_law_rules", defArgs s_l_rules, defBody s_l_rules, defScope s_l_rules, [], []⟩
def d_l_year : He.DefD := ⟨("_law_year", none), "_law_year", "_law_year", defArgs s_l_year, defBody s_l_year, defScope s_l_year, [], []⟩
def d_l_row : He.DefD := ⟨("_law_row", none), "_law_row", "_law_row", defArgs s_l_row, defBody s_l_row, defScope s_l_row, [], []⟩
def d_l_entry : He.DefD := ⟨("_law_entry", none), "_law_entry", "_law_entry", defArgs s_l_entry, defBody s_l_entry, defScope s_l_entry, [], []⟩
def d_l_made : He.DefD := ⟨("_law_made", none), "_law_made", "_law_made", defArgs s_l_made, defBody s_l_made, defScope s_l_made, [], []⟩
def d_l_rows : He.DefD := ⟨("_law_rows", none), "_law_rows", "_law_rows", defArgs s_l_rows, defBody s_l_rows, defScope s_l_rows, [], []⟩
def d_l_walked : He.DefD := ⟨("_law_walked", none), "_law_walked", "_law_walked", defArgs s_l_walked, defBody s_l_walked, defScope s_l_walked, [], []⟩
def d_l_sums : He.DefD := ⟨("_law_sums", none), "_law_sums", "_law_sums", defArgs s_l_sums, defBody s_l_sums, defScope s_l_sums, [], []⟩
def d_l_under : He.DefD := ⟨("_law_under", none), "_law_under", "_law_under", defArgs s_l_under, defBody s_l_under, defScope s_l_under, [], []⟩
def d_l_taken : He.DefD := ⟨("_law_taken", none), "_law_taken", "_law_taken", defArgs s_l_taken, defBody s_l_taken, defScope s_l_taken, [], []⟩
def d_l_breach : He.DefD := ⟨("_law_breach", none), "_law_breach", "_law_breach", defArgs s_l_breach, defBody s_l_breach, defScope s_l_breach, [], []⟩
def d_law : He.DefD := ⟨("law", none), "law", "law", defArgs s_law, defBody s_law, defScope s_law, [], []⟩
def faGlo : List He.Fa := [.glo "is_whole", .glo "within", .glo "is_name", .glo "check", .glo "check_coins", .glo "is_day",
  .glo "is_row", .glo "turn_of", .glo "gone_through", .glo "are_tuples", .glo "are_heads", .glo "are_limits",
  .glo "are_rules", .glo "_law_cell_at", .glo "_law_mixed", .glo "_law_well", .glo "_law_draw", .glo "_law_names",
  .glo "_law_limits", .glo "_law_rules", .glo "_law_year", .glo "_law_row", .glo "_law_entry", .glo "_law_made",
  .glo "_law_rows", .glo "_law_walked", .glo "_law_sums", .glo "_law_under", .glo "_law_taken", .glo "_law_breach",
  .glo "law", .glo "Give", .glo "Hold", .glo "Move", .glo "Spend", .glo "Promise",
  .glo "Lessen", .glo "Out", .glo "Count", .glo "Dated", .glo "Year", .glo "Entry",
  .glo "SUMS"]
def faFree : List He.Fa := [.free "isinstance", .free "int", .free "bool", .free "str", .free "list", .free "tuple",
  .free "dict", .free "len", .free "all", .free "range", .free "sorted", .free "min"]
def faCon : List He.Fa := [.str "LETTERS" "abcdefghijklmnopqrstuvwxyz", .int "MOST_SIGNS" 8, .int "MOST_COINS" 1000000000000, .int "LAST_UNTIL" 31, .int "MOST_ROWS" 40, .int "MOST_DAYS" 30,
  .int "MOST_HEADS" 8, .int "MOST_LIMITS" 6, .int "MOST_RULES" 4, .int "MOST_WHOLE" 1000, .int "GREATEST" 1000000000000000]
def faCls : List He.Fa := [.cls "Give", .cls "Hold", .cls "Move", .cls "Spend", .cls "Promise", .cls "Lessen",
  .cls "Out", .cls "Count", .cls "Dated", .cls "Year"]
def faNoat : List He.Fa := [.noat "Give" "head", .noat "Give" "coins", .noat "Give" "note", .noat "Hold" "head", .noat "Hold" "coins", .noat "Hold" "until",
  .noat "Hold" "note", .noat "Move" "head", .noat "Move" "other", .noat "Move" "coins", .noat "Move" "note", .noat "Spend" "head",
  .noat "Spend" "coins", .noat "Spend" "note", .noat "Promise" "word", .noat "Promise" "head", .noat "Promise" "coins", .noat "Promise" "note",
  .noat "Lessen" "word", .noat "Lessen" "coins", .noat "Lessen" "note", .noat "Out" "word", .noat "Out" "coins", .noat "Out" "note",
  .noat "Count" "year", .noat "Count" "money", .noat "Count" "words", .noat "Count" "loads", .noat "Count" "beneath", .noat "Count" "ends",
  .noat "Dated" "year", .noat "Dated" "stands", .noat "Dated" "first", .noat "Year" "days", .noat "Year" "heads", .noat "Year" "limits",
  .noat "Year" "rules"]
def faMeth : List He.Fa := [.meth "Give" "told", .meth "Give" "named", .meth "Give" "fits", .meth "Give" "lasts", .meth "Hold" "told", .meth "Hold" "named",
  .meth "Hold" "lasts", .meth "Hold" "fits", .meth "Move" "told", .meth "Move" "named", .meth "Move" "fits", .meth "Move" "lasts",
  .meth "Spend" "told", .meth "Spend" "named", .meth "Spend" "fits", .meth "Spend" "lasts", .meth "Promise" "told", .meth "Promise" "named",
  .meth "Promise" "fits", .meth "Promise" "lasts", .meth "Lessen" "told", .meth "Lessen" "fits", .meth "Lessen" "lasts", .meth "Lessen" "named",
  .meth "Out" "told", .meth "Out" "fits", .meth "Out" "lasts", .meth "Out" "named", .meth "Count" "begin", .meth "Count" "hold",
  .meth "Count" "load", .meth "Count" "is_fault", .meth "Count" "put_promise", .meth "Count" "put_other", .meth "Count" "put", .meth "Count" "left",
  .meth "Count" "passed", .meth "Count" "stand", .meth "Dated" "settle", .meth "Dated" "breach", .meth "Year" "names", .meth "Year" "above",
  .meth "Year" "knots", .meth "Year" "under"]
def faMkr : List He.Fa := [.mkr "Give", .mkr "Hold", .mkr "Move", .mkr "Spend", .mkr "Promise", .mkr "Lessen",
  .mkr "Out", .mkr "Count", .mkr "Dated", .mkr "Year"]
def fa : List He.Fa := faGlo ++ (faFree ++ (faCon ++ (faCls ++ (faNoat ++ (faMeth ++ (faMkr))))))
def fn0 : List He.DefD := [d_is_whole, d_within, d_is_name, d_check, d_check_coins, d_Entry_named,
  d_Entry_lasts, d_Entry_fits, d_Give_init, d_Give_told, d_Give_named, d_Hold_init]
def fn1 : List He.DefD := [d_Hold_told, d_Hold_named, d_Hold_lasts, d_Move_init, d_Move_told, d_Move_named,
  d_Spend_init, d_Spend_told, d_Spend_named, d_Promise_init, d_Promise_told, d_Promise_named]
def fn2 : List He.DefD := [d_Lessen_init, d_Lessen_told, d_Out_init, d_Out_told, d_is_day, d_is_row,
  d_turn_of, d_gone_through, d_Count_init, d_Count_begin, d_Count_hold, d_Count_load]
def fn3 : List He.DefD := [d_Count_is_fault, d_Count_put_promise, d_Count_put_other, d_Count_put, d_Count_left, d_Count_passed,
  d_Count_stand, d_Dated_init, d_Dated_settle, d_Dated_breach, d_are_tuples, d_are_heads]
def fn4 : List He.DefD := [d_are_limits, d_are_rules, d_Year_init, d_Year_names, d_Year_above, d_Year_knots,
  d_Year_under, d_l_cell_at, d_l_mixed, d_l_well, d_l_draw, d_l_names]
def fn5 : List He.DefD := [d_l_limits, d_l_rules, d_l_year, d_l_row, d_l_entry, d_l_made,
  d_l_rows, d_l_walked, d_l_sums, d_l_under, d_l_taken, d_l_breach]
def fn6 : List He.DefD := [d_law]
def fn : List He.DefD := fn0 ++ (fn1 ++ (fn2 ++ (fn3 ++ (fn4 ++ (fn5 ++ (fn6))))))
def nm0 : List PySem.Str := ["_wall", "__name__", "PurseError", "NoYear", "NoHead", "NoEntry",
  "NoDay", "Passed", "LETTERS", "MOST_SIGNS", "is_whole", "within",
  "is_name", "MOST_COINS", "LAST_UNTIL", "check", "check_coins", "Entry",
  "Give", "Hold", "Move", "Spend", "Promise", "Lessen",
  "Out", "MOST_ROWS", "SUMS", "is_day", "is_row", "turn_of"]
def nm1 : List PySem.Str := ["gone_through", "Count", "Dated", "MOST_DAYS", "MOST_HEADS", "MOST_LIMITS",
  "MOST_RULES", "MOST_WHOLE", "GREATEST", "are_tuples", "are_heads", "are_limits",
  "are_rules", "Year", "_law_cell_at", "_law_mixed", "_law_well", "_law_draw",
  "_law_names", "_law_limits", "_law_rules", "_law_year", "_law_row", "_law_entry",
  "_law_made", "_law_rows", "_law_walked", "_law_sums", "_law_under", "_law_taken"]
def nm2 : List PySem.Str := ["_law_breach"]
def names : List PySem.Str := nm0 ++ nm1 ++ nm2
def kindsL : List Str := ["Give", "Hold", "Move", "Spend", "Promise", "Lessen", "Out"]
def clsX (K : PySem.W.Frag) (x : Str) : Bool := He.eqO (PySem.W.findIn K (.ref (He.ga K x)) "__class__") (some (some (.builtin "object.__class__"))) &&
  (He.eqO (PySem.W.specialIn K (.builtin "object.__class__") "__get__") (some (some (.builtin "getset_descriptor.__get__"))) &&
  (decide (PySem.W.takesIn K (.builtin "object.__class__") = some true) && decide (PySem.W.mroIn K (He.ga K x) (.type "object") = some true)))
def kitX (K : PySem.W.Frag) (x y : Str) (b : Bool) : Bool := decide (PySem.W.kitOne K (.ref (He.ga K x)) (.ref (He.ga K y)) = some b)
def kitsX (K : PySem.W.Frag) (x : Str) : Bool := kitX K x "Entry" true && kindsL.all fun y => kitX K x y (decide (x = y))
def inhX (K : PySem.W.Frag) (x m : Str) : Bool := decide (He.ma K (He.ga K x) m = He.ma K (He.ga K "Entry") m)
def ex (K : PySem.W.Frag) : Bool := He.tupB K "SUMS" [.str "given", .str "moved", .str "spent", .str "promised", .str "held"] &&
  ((kindsL.all fun x => clsX K x && (kitsX K x && inhX K x "fits")) && ((["Give", "Move", "Spend", "Promise", "Lessen", "Out"] : List Str).all (fun x => inhX K x "lasts") && (["Lessen", "Out"] : List Str).all (fun x => inhX K x "named")))
def tf : List He.Defn := [("gone_through", none)]
abbrev R : PySem.W.OpenRow := PySem.W.OpenLaw.row PySem.Challenge.rw_knotpurse_k20_whole_breaches
def refsK (o : Obj) : List Addr := match o.data with
  | .dict es _ => es.toList.flatMap fun e => He.refV e.val
  | _ => []
def nsK (o : Obj) : List Addr := match o.data with
  | .cls cd => [cd.ns]
  | _ => []
def codeK (o : Obj) : List Addr := match o.data with
  | .func fd => He.refV fd.code
  | _ => []
def viaK (g : Addr → Option Obj) (f : Obj → List Addr) (as : List Addr) : List Addr := as.flatMap fun a => match g a with
  | some o => f o
  | none => []
def asK (g : Addr → Option Obj) : List Addr :=
  (fun l1 => (fun l2 => (fun l3 => mainGlobals :: (l1 ++ (l2 ++ (l3 ++ viaK g codeK (l1 ++ l3))))) (viaK g refsK l2)) (viaK g nsK l1)) (viaK g refsK [mainGlobals])
def obsK (g : Addr → Option Obj) : He.AlX := (fun K => (He.obsT fa fn [] K, ex K && He.tabsB g tf K)) (He.frT g (asK g))
theorem says_of {w : World} {h : Heap} (e : obsK h.get? = He.valX fn [] w) : He.SaysX fa fn [] tf ex w h (He.frT h.get? (asK h.get?)) := by
  have e1 : He.obsT fa fn [] (He.frT h.get? (asK h.get?)) = He.valT fn [] w := congrArg (fun z : He.AlX => z.1) e
  have e2 : (ex (He.frT h.get? (asK h.get?)) && He.tabsB h.get? tf (He.frT h.get? (asK h.get?))) = true := congrArg (fun z : He.AlX => z.2) e
  obtain ⟨h1, h2⟩ := He.ba e2
  have key : ∀ p ∈ tf, PySem.W.codeHdIn (He.frT h.get? (asK h.get?)) (He.cT (He.frT h.get? (asK h.get?)) p).1 (He.cT (He.frT h.get? (asK h.get?)) p).2 = true ∧ ∃ o, h.get? (He.cT (He.frT h.get? (asK h.get?)) p).2 = some o ∧ He.emptyTab o = true := fun p hp => by
    obtain ⟨h3, h4⟩ := He.ba (List.all_eq_true.mp h2 p hp)
    refine ⟨h3, ?_⟩
    cases q : h.get? (He.cT (He.frT h.get? (asK h.get?)) p).2 with
    | none =>
      rw [q] at h4
      cases h4
    | some o =>
      rw [q] at h4
      exact ⟨o, rfl, h4⟩
  refine ⟨e1, h1, fun p hp => (key p hp).1, fun p hp => ?_, fun p hp => ?_⟩
  · obtain ⟨_, o, q, z⟩ := key p hp
    exact He.frT_none q z
  · obtain ⟨_, o, q, z⟩ := key p hp
    rw [q, He.emptyTab_eq z]
def hk : PySem.W.Hook where
  α := He.AlX
  obs := fun s => obsK s.heap.get?
  val := fun w => He.valX fn [] w
  says := fun w h => ∃ K : PySem.W.Frag, K.In h ∧ He.SaysX fa fn [] tf ex w h K
  of := fun _ _ e => ⟨_, He.frT_in, says_of e⟩
  keeps := fun _ _ _ ⟨K, hK, c⟩ k => ⟨K, PySem.W.Frag.In.keeps hK k, ⟨c.t, c.more, c.hd, c.out, fun p hp => k _ _ (c.empty p hp)⟩⟩
def ob (s : PySem.W.SharedT) : He.AlX := obsK (HandSHeadRun.getT s)
theorem ob_eq (s : PySem.W.SharedT) : ob s = hk.obs s.abs := by
  have e : HandSHeadRun.getT s = s.abs.heap.get? := funext (HandSHeadRun.getT_eq s)
  unfold ob
  rw [e]
  rfl
end Kp

set_option maxHeartbeats 0
namespace Kp
open PySem PySem.Spec PyProof.Rows L2
theorem run (w : World) : HandSHeadRun.RunEq R (PySem.W.view R.prog [66]) hk ob 20000 names w := by
  intro os
  kernel_rfl
end Kp

set_option maxHeartbeats 0
namespace Kp
open PySem PySem.W PySem.Calls PyProof.Rows
/-- what is left of the statement behind the head: the law's own call -/
theorem head_of (call : WalkO (view (OpenLaw.row PySem.Challenge.rw_knotpurse_k20_whole_breaches).prog [66]) Kp.names (XL (view (OpenLaw.row PySem.Challenge.rw_knotpurse_k20_whole_breaches).prog [66]) []) Kp.hk.says (OpenLaw.row PySem.Challenge.rw_knotpurse_k20_whole_breaches).toRowW (HandSHeadRun.topDef (OpenLaw.row PySem.Challenge.rw_knotpurse_k20_whole_breaches).prog 66) [] (fun f vs => PySem.call f vs)) : PySem.Challenge.rw_knotpurse_k20_whole_breaches.Holds := by
  w_on; o_law
  refine HandSHeadRun.head_any (r := OpenLaw.row PySem.Challenge.rw_knotpurse_k20_whole_breaches) (q := view (OpenLaw.row PySem.Challenge.rw_knotpurse_k20_whole_breaches).prog [66]) (H := Kp.hk) (ob := Kp.ob) (M := 20000) (loose := Kp.names) (d := HandSHeadRun.topDef (OpenLaw.row PySem.Challenge.rw_knotpurse_k20_whole_breaches).prog 66) (kwd := []) Kp.ob_eq
    (by kernel_rfl) (fun s => by kernel_rfl) Kp.run (by kernel_rfl) (by kernel_rfl) (by kernel_rfl) (by rfl) (by first | assumption | decide +kernel) (by decide +kernel) ⟨rfl, rfl, rfl, rfl, rfl, by decide +kernel⟩ ?hw ?hc
  case hw => w_witness2
  case hc => exact call
theorem top_name : (HandSHeadRun.topDef (OpenLaw.row PySem.Challenge.rw_knotpurse_k20_whole_breaches).prog 66).name = ("law" : PySem.Str) := by kernel_rfl
theorem top_dflt : (HandSHeadRun.topDef (OpenLaw.row PySem.Challenge.rw_knotpurse_k20_whole_breaches).prog 66).params.defaults = [] := by kernel_rfl
end Kp

set_option maxHeartbeats 4000000
namespace Kp
open PySem PySem.Spec PyProof.Rows L2

/-- data: by value where it never changes, by its address where it may -/
inductive D where
  | non | bl (b : Bool) | int (i : Int) | str (s : Str) | ty (n : String)
  | tup (ds : List D) | lst (ds : List D) | rot (ds : List D) | rol (ds : List D)
  | ins (C : Addr) (fs : List (Str × D)) | ref (a : Addr)

section
variable (K : PySem.W.Frag)
mutual
inductive Is (I : Hp) : V → D → Prop
  | non : Is I .non .non
  | bl (b : Bool) : Is I (.bl b) (.bl b)
  | int (i : Int) : Is I (.int i) (.int i)
  | str (s : Str) : Is I (.str s) (.str s)
  | ty (n : String) : Is I (.ty n) (.ty n)
  | ref (a : Addr) : Is I (.ref a) (.ref a)
  | tup {a : Addr} {vs : List V} {ds : List D} : I a = some (.tup vs) → Iss I vs ds → Is I (.ref a) (.tup ds)
  | lst {a : Addr} {vs : List V} {ds : List D} : I a = some (.lst vs) → Iss I vs ds → Is I (.ref a) (.lst ds)
  | rot {a : Addr} {vs : List V} {ds : List D} : SqT K I a vs → Iss I vs ds → Is I (.ref a) (.rot ds)
  | rol {a : Addr} {vs : List V} {ds : List D} : SqL K I a vs → Iss I vs ds → Is I (.ref a) (.rol ds)
  | ins {a dx C : Addr} {fv : List (Str × V)} {fd : List (Str × D)} : I a = some (.ins C dx fv) → Fss I fv fd → Is I (.ref a) (.ins C fd)
inductive Iss (I : Hp) : List V → List D → Prop
  | nil : Iss I [] []
  | cons {v : V} {d : D} {vs : List V} {ds : List D} : Is I v d → Iss I vs ds → Iss I (v :: vs) (d :: ds)
inductive Fss (I : Hp) : List (Str × V) → List (Str × D) → Prop
  | nil : Fss I [] []
  | cons {f : Str} {v : V} {d : D} {vs : List (Str × V)} {ds : List (Str × D)} : Is I v d → Fss I vs ds → Fss I ((f, v) :: vs) ((f, d) :: ds)
end
end

section
variable {K : PySem.W.Frag} {I I' I1 I2 F F' H H' : Hp} {a p : Addr} {v u : V} {d : D} {vs us : List V} {ds es : List D} {fv : List (Str × V)} {fd : List (Str × D)}
theorem sameL (e : Same I I') (h : SqL K I a vs) : SqL K I' a vs := e.seq h
theorem sameT (e : Same I I') (h : SqT K I a vs) : SqT K I' a vs := by
  rcases h with (h | ⟨o, h⟩) | h
  · exact .inl (.inl (e _ _ h))
  · exact .inl (.inr ⟨o, e _ _ h⟩)
  · exact .inr h
mutual
theorem Is.mono (e : Same I I') : ∀ {v : V} {d : D}, Is K I v d → Is K I' v d
  | _, _, .non => .non
  | _, _, .bl b => .bl b
  | _, _, .int i => .int i
  | _, _, .str s => .str s
  | _, _, .ty n => .ty n
  | _, _, .ref a => .ref a
  | _, _, .tup h k => .tup (e _ _ h) (Iss.mono e k)
  | _, _, .lst h k => .lst (e _ _ h) (Iss.mono e k)
  | _, _, .rot h k => .rot (sameT e h) (Iss.mono e k)
  | _, _, .rol h k => .rol (sameL e h) (Iss.mono e k)
  | _, _, .ins h k => .ins (e _ _ h) (Fss.mono e k)
theorem Iss.mono (e : Same I I') : ∀ {vs : List V} {ds : List D}, Iss K I vs ds → Iss K I' vs ds
  | _, _, .nil => .nil
  | _, _, .cons h k => .cons (Is.mono e h) (Iss.mono e k)
theorem Fss.mono (e : Same I I') : ∀ {vs : List (Str × V)} {ds : List (Str × D)}, Fss K I vs ds → Fss K I' vs ds
  | _, _, .nil => .nil
  | _, _, .cons h k => .cons (Is.mono e h) (Fss.mono e k)
end
theorem Iss.length : ∀ {vs : List V} {ds : List D}, Iss K I vs ds → vs.length = ds.length
  | _, _, .nil => rfl
  | _, _, .cons _ k => congrArg (· + 1) (Iss.length k)
theorem Iss.get : ∀ {vs : List V} {ds : List D} {i : Nat} {d : D}, Iss K I vs ds → ds[i]? = some d → ∃ v, vs[i]? = some v ∧ Is K I v d
  | _, _, _, _, .nil, e => by simp at e
  | _, _, 0, _, .cons h _, e => by
    cases (show some _ = some _ from e)
    exact ⟨_, rfl, h⟩
  | _, _, i + 1, d, .cons _ k, e => Iss.get (i := i) k e
theorem Iss.append : ∀ {vs us : List V} {ds es : List D}, Iss K I vs ds → Iss K I us es → Iss K I (vs ++ us) (ds ++ es)
  | _, _, _, _, .nil, s => s
  | _, _, _, _, .cons h k, s => .cons h (Iss.append k s)
theorem Iss.take : ∀ {vs : List V} {ds : List D} (n : Nat), Iss K I vs ds → Iss K I (vs.take n) (ds.take n)
  | _, _, 0, _ => .nil
  | _, _, _ + 1, .nil => .nil
  | _, _, n + 1, .cons h k => .cons h (Iss.take n k)
theorem Iss.drop : ∀ {vs : List V} {ds : List D} (n : Nat), Iss K I vs ds → Iss K I (vs.drop n) (ds.drop n)
  | _, _, 0, r => r
  | _, _, _ + 1, .nil => .nil
  | _, _, n + 1, .cons _ k => Iss.drop n k
theorem Iss.set : ∀ {vs : List V} {ds : List D} (n : Nat) {v : V} {d : D}, Is K I v d → Iss K I vs ds → Iss K I (vs.set n v) (ds.set n d)
  | _, _, _, _, _, _, .nil => .nil
  | _, _, 0, _, _, r, .cons _ k => .cons r k
  | _, _, n + 1, _, _, r, .cons h k => .cons h (Iss.set n r k)
theorem Iss.erase : ∀ {vs : List V} {ds : List D} (n : Nat), Iss K I vs ds → Iss K I (vs.eraseIdx n) (ds.eraseIdx n)
  | _, _, _, .nil => .nil
  | _, _, 0, .cons _ k => k
  | _, _, n + 1, .cons h k => .cons h (Iss.erase n k)
theorem Iss.rep (n : Nat) (h : Iss K I vs ds) : Iss K I (List.replicate n vs).flatten (List.replicate n ds).flatten := by
  induction n with
  | zero => exact .nil
  | succ n ih =>
    rw [List.replicate_succ, List.replicate_succ, List.flatten_cons, List.flatten_cons]
    exact h.append ih
theorem Iss.ints : ∀ {ns : List Int} {vs : List V}, Iss K I vs (ns.map D.int) → vs = ns.map V.int
  | [], _, .nil => rfl
  | n :: r, _, .cons h k => by
    cases h
    rw [Iss.ints (ns := r) k]
    rfl
theorem Iss.strs : ∀ {ns : List Str} {vs : List V}, Iss K I vs (ns.map D.str) → vs = ns.map V.str
  | [], _, .nil => rfl
  | n :: r, _, .cons h k => by
    cases h
    rw [Iss.strs (ns := r) k]
    rfl
theorem Iss.bls : ∀ {ns : List Bool} {vs : List V}, Iss K I vs (ns.map D.bl) → vs = ns.map V.bl
  | [], _, .nil => rfl
  | n :: r, _, .cons h k => by
    cases h
    rw [Iss.bls (ns := r) k]
    rfl
theorem Fss.lookup : ∀ {fv : List (Str × V)} {fd : List (Str × D)} {f : Str} {d : D}, Fss K I fv fd → fd.lookup f = some d → ∃ v, fv.lookup f = some v ∧ Is K I v d
  | _, _, _, _, .nil, e => by cases e
  | _, _, f, d, .cons (f := g) h k, e => by
    rw [List.lookup_cons] at e ⊢
    cases q : (f == g) with
    | true =>
      rw [q] at e
      cases e
      exact ⟨_, rfl, h⟩
    | false =>
      rw [q] at e
      exact Fss.lookup k e
theorem Fss.lack : ∀ {fv : List (Str × V)} {fd : List (Str × D)} {f : Str}, Fss K I fv fd → fd.lookup f = none → fv.lookup f = none
  | _, _, _, .nil, _ => rfl
  | _, _, f, .cons (f := g) h k, e => by
    rw [List.lookup_cons] at e ⊢
    cases q : (f == g) with
    | true =>
      rw [q] at e
      cases e
    | false =>
      rw [q] at e
      exact Fss.lack k e
theorem Fss.length : ∀ {fv : List (Str × V)} {fd : List (Str × D)}, Fss K I fv fd → fv.length = fd.length
  | _, _, .nil => rfl
  | _, _, .cons _ k => congrArg (· + 1) (Fss.length k)
/-- a field stored -/
def putD (f : Str) (d : D) : List (Str × D) → List (Str × D)
  | [] => [(f, d)]
  | (g, e) :: r => if g = f then (g, d) :: r else (g, e) :: putD f d r
theorem Fss.put {f : Str} (h : Is K I v d) : ∀ {fv : List (Str × V)} {fd : List (Str × D)}, Fss K I fv fd → Fss K I (putF f v fv) (putD f d fd)
  | _, _, .nil => .cons h .nil
  | _, _, .cons (f := g) h1 k => by
    unfold putF putD
    by_cases q : g = f
    · rw [if_pos q, if_pos q]
      exact .cons h k
    · rw [if_neg q, if_neg q]
      exact .cons h1 (Fss.put h k)
def getD (kd : List (Key × D)) (k : Key) : Option D := (kd.find? fun kv => decide (kv.1 = k)).map (·.2)
def setD (kd : List (Key × D)) (k : Key) (d : D) : List (Key × D) :=
  if (kd.any fun kv => decide (kv.1 = k)) = true then kd.map (fun kv => if kv.1 = k then (kv.1, d) else kv) else kd ++ [(k, d)]
def dropD (kd : List (Key × D)) (k : Key) : List (Key × D) := kd.filter fun kv => decide (kv.1 ≠ k)
inductive Kss (K : PySem.W.Frag) (I : Hp) : List (Key × V) → List (Key × D) → Prop
  | nil : Kss K I [] []
  | cons {k : Key} {v : V} {d : D} {vs : List (Key × V)} {ds : List (Key × D)} : Is K I v d → Kss K I vs ds → Kss K I ((k, v) :: vs) ((k, d) :: ds)
theorem Kss.mono (e : Same I I') {kv : List (Key × V)} {kd : List (Key × D)} (h : Kss K I kv kd) : Kss K I' kv kd := by
  induction h with
  | nil => exact .nil
  | cons h _ ih => exact .cons (h.mono e) ih
theorem Kss.length {kv : List (Key × V)} {kd : List (Key × D)} (h : Kss K I kv kd) : kv.length = kd.length := by
  induction h with
  | nil => rfl
  | cons _ _ ih => exact congrArg (· + 1) ih
theorem Kss.any {kv : List (Key × V)} {kd : List (Key × D)} (h : Kss K I kv kd) (k : Key) : (kv.any fun q => decide (q.1 = k)) = (kd.any fun q => decide (q.1 = k)) := by
  induction h with
  | nil => rfl
  | cons _ _ ih => rw [List.any_cons, List.any_cons, ih]
theorem Kss.append {kv kv' : List (Key × V)} {kd kd' : List (Key × D)} (h : Kss K I kv kd) (h' : Kss K I kv' kd') : Kss K I (kv ++ kv') (kd ++ kd') := by
  induction h with
  | nil => exact h'
  | cons h _ ih => exact .cons h ih
theorem Kss.get {kv : List (Key × V)} {kd : List (Key × D)} (h : Kss K I kv kd) {k : Key} {d : D} (e : getD kd k = some d) : ∃ v, valV kv k = some v ∧ Is K I v d := by
  induction h with
  | nil => cases e
  | @cons k' v d' kv kd h1 _ ih =>
    unfold getD at e
    unfold valV
    rw [List.find?_cons] at e ⊢
    by_cases q : k' = k
    · rw [decide_eq_true q] at e
      rw [decide_eq_true q]
      cases e
      exact ⟨v, rfl, h1⟩
    · rw [decide_eq_false q] at e
      rw [decide_eq_false q]
      exact ih e
theorem Kss.lack {kv : List (Key × V)} {kd : List (Key × D)} (h : Kss K I kv kd) {k : Key} (e : getD kd k = none) : valV kv k = none := by
  induction h with
  | nil => rfl
  | @cons k' v d' kv kd h1 _ ih =>
    unfold getD at e
    unfold valV
    rw [List.find?_cons] at e ⊢
    by_cases q : k' = k
    · rw [decide_eq_true q] at e
      cases e
    · rw [decide_eq_false q] at e
      rw [decide_eq_false q]
      exact ih e
theorem Kss.map {kv : List (Key × V)} {kd : List (Key × D)} (h : Kss K I kv kd) (k : Key) (hv : Is K I v d) : Kss K I (kv.map fun kv => if kv.1 = k then (kv.1, v) else kv) (kd.map fun kv => if kv.1 = k then (kv.1, d) else kv) := by
  induction h with
  | nil => exact .nil
  | @cons k' v' d' kv kd h1 _ ih =>
    rw [List.map_cons, List.map_cons]
    by_cases q : k' = k
    · simp only [if_pos q]
      exact .cons hv ih
    · simp only [if_neg q]
      exact .cons h1 ih
theorem Kss.set {kv : List (Key × V)} {kd : List (Key × D)} (h : Kss K I kv kd) (k : Key) (hv : Is K I v d) : Kss K I (putK kv k v) (setD kd k d) := by
  unfold putK setD
  rw [h.any k]
  split
  · exact h.map k hv
  · exact h.append (.cons hv .nil)
theorem Kss.drop {kv : List (Key × V)} {kd : List (Key × D)} (h : Kss K I kv kd) (k : Key) : Kss K I (dropK kv k) (dropD kd k) := by
  unfold dropK dropD
  induction h with
  | nil => exact .nil
  | @cons k' v' d' kv kd h1 _ ih =>
    rw [List.filter_cons, List.filter_cons]
    split
    · exact .cons h1 ih
    · exact ih
theorem getD_nil {k : Key} : getD [] k = none := rfl
theorem getD_map (k j : Key) (y : D) : ∀ kvs : List (Key × D), getD (kvs.map fun kv => if kv.1 = k then (kv.1, y) else kv) j = (getD kvs j).map fun x => if j = k then y else x
  | [] => rfl
  | p :: r => by
    have ih := getD_map k j y r
    unfold getD at ih ⊢
    rw [List.map_cons, List.find?_cons, List.find?_cons]
    by_cases q : p.1 = k
    · simp only [if_pos q]
      by_cases q2 : p.1 = j
      · simp only [decide_eq_true q2]
        simp [← q2, q]
      · simp only [decide_eq_false q2]
        exact ih
    · simp only [if_neg q]
      by_cases q2 : p.1 = j
      · simp only [decide_eq_true q2]
        have : ¬ j = k := fun z => q (q2.trans z)
        simp [this]
      · simp only [decide_eq_false q2]
        exact ih
theorem getD_snoc (k j : Key) (y : D) : ∀ kvs : List (Key × D), getD kvs k = none → getD (kvs ++ [(k, y)]) j = if j = k then some y else getD kvs j
  | [], _ => by
    show getD [(k, y)] j = _
    unfold getD
    rw [List.find?_cons]
    by_cases q : k = j
    · simp [q]
    · have : ¬ j = k := fun z => q z.symm
      simp [q, this]
  | p :: r, h => by
    have hp : ¬ p.1 = k := fun q => by
      unfold getD at h
      rw [List.find?_cons, decide_eq_true q] at h
      cases h
    have hr : getD r k = none := by
      unfold getD at h
      rw [List.find?_cons, decide_eq_false hp] at h
      exact h
    have ih := getD_snoc k j y r hr
    unfold getD at ih ⊢
    rw [List.cons_append, List.find?_cons, List.find?_cons]
    by_cases q : p.1 = j
    · simp only [decide_eq_true q]
      have : ¬ j = k := fun z => hp (q.trans z)
      rw [if_neg this]
    · simp only [decide_eq_false q]
      exact ih
theorem any_getD (k : Key) : ∀ kvs : List (Key × D), (kvs.any fun kv => decide (kv.1 = k)) = (getD kvs k).isSome
  | [] => rfl
  | p :: r => by
    have ih := any_getD k r
    unfold getD at ih ⊢
    rw [List.any_cons, List.find?_cons]
    by_cases q : p.1 = k
    · simp [decide_eq_true q]
    · simp only [decide_eq_false q, Bool.false_or]
      exact ih
theorem getD_set (kvs : List (Key × D)) (k j : Key) (y : D) : getD (setD kvs k y) j = if j = k then some y else getD kvs j := by
  unfold setD
  rw [any_getD]
  cases e : getD kvs k with
  | none =>
    rw [if_neg (by simp)]
    exact getD_snoc k j y kvs e
  | some x =>
    rw [if_pos (by simp), getD_map]
    by_cases q : j = k
    · subst q
      rw [e]
      simp
    · simp [q]
theorem setD_length (kvs : List (Key × D)) (k : Key) (y : D) : (setD kvs k y).length ≤ kvs.length + 1 := by
  unfold setD
  split
  · rw [List.length_map]
    omega
  · simp
theorem getD_drop (k j : Key) : ∀ kvs : List (Key × D), getD (dropD kvs k) j = if j = k then none else getD kvs j
  | [] => by
    show getD [] j = _
    rw [getD_nil]
    split <;> rfl
  | p :: r => by
    have ih := getD_drop k j r
    unfold dropD at ih ⊢
    rw [List.filter_cons]
    by_cases q : p.1 = k
    · rw [if_neg (by simp [q]), ih]
      by_cases q2 : j = k
      · rw [if_pos q2, if_pos q2]
      · rw [if_neg q2, if_neg q2]
        unfold getD
        rw [List.find?_cons, decide_eq_false (fun z => q2 (z.symm.trans q))]
    · rw [if_pos (by simp [q])]
      unfold getD at ih ⊢
      rw [List.find?_cons, List.find?_cons]
      by_cases q2 : p.1 = j
      · simp only [decide_eq_true q2]
        rw [if_neg (fun z => q (q2.trans z))]
      · simp only [decide_eq_false q2]
        exact ih
theorem dropD_length (kvs : List (Key × D)) (k : Key) : (dropD kvs k).length ≤ kvs.length := List.length_filter_le _ _
def kD : Key → D
  | .inl i => .int i
  | .inr s => .str s
theorem Is.key {k : Key} {v : V} (h : Is K I v (kD k)) : v = kV k := by
  cases k with
  | inl i => cases h; rfl
  | inr s => cases h; rfl
end

inductive Cell where
  | lst (ds : List D) | dic (kd : List (Key × D)) | ins (C : Addr) (fs : List (Str × D))
abbrev Mem := Addr → Option Cell
def mset (M : Mem) (a : Addr) (c : Cell) : Mem := fun b => if b = a then some c else M b
def mdel (M : Mem) (a : Addr) : Mem := fun b => if b = a then none else M b
def madd (m r : Mem) : Mem := fun b => match m b with
  | some c => some c
  | none => r b
def mdis (m r : Mem) : Prop := ∀ b c, m b = some c → r b = none
section
variable {M m r : Mem} {a b : Addr} {c c' : Cell}
theorem mset_same : mset M a c a = some c := if_pos rfl
theorem mset_ne (h : b ≠ a) : mset M a c b = M b := if_neg h
theorem mset_mset : mset (mset M a c) a c' = mset M a c' := by
  funext b; unfold mset; split <;> rfl
theorem mdel_mset (h : M a = none) : mdel (mset M a c) a = M := by
  funext b
  unfold mdel mset
  by_cases e : b = a
  · subst e; rw [if_pos rfl, h]
  · rw [if_neg e, if_neg e]
theorem mset_self (h : M a = some c) : mset M a c = M := by
  funext b
  unfold mset
  by_cases e : b = a
  · subst e; rw [if_pos rfl, h]
  · rw [if_neg e]
theorem mset_comm (h : a ≠ b) : mset (mset M a c) b c' = mset (mset M b c') a c := by
  funext x
  unfold mset
  by_cases e : x = b
  · subst e
    rw [if_pos rfl, if_neg (fun z => h z.symm), if_pos rfl]
  · by_cases e2 : x = a
    · subst e2
      rw [if_neg e, if_pos rfl, if_pos rfl]
    · rw [if_neg e, if_neg e2, if_neg e2, if_neg e]
theorem mdel_ne (h : b ≠ a) : mdel M a b = M b := if_neg h
theorem mdel_same : mdel M a a = none := if_pos rfl
theorem mdel_comm (h : a ≠ b) : mdel (mset M a c) b = mset (mdel M b) a c := by
  funext x
  unfold mset mdel
  by_cases e : x = b
  · subst e
    rw [if_pos rfl, if_neg (fun z => h z.symm), if_pos rfl]
  · rw [if_neg e, if_neg e]
theorem mne (h : M a = some c) (h' : M b = none) : a ≠ b := fun e => by
  rw [e, h'] at h
  cases h
theorem madd_l (h : m a = some c) : madd m r a = some c := by unfold madd; rw [h]
theorem madd_r (h : m a = none) : madd m r a = r a := by unfold madd; rw [h]
theorem madd_none (h : madd m r a = none) : m a = none ∧ r a = none := by
  unfold madd at h
  cases e : m a with
  | none => rw [e] at h; exact ⟨rfl, h⟩
  | some c => rw [e] at h; cases h
theorem mset_madd_l : mset (madd m r) a c = madd (mset m a c) r := by
  funext x
  by_cases e : x = a
  · subst e
    rw [mset_same, madd_l mset_same]
  · rw [mset_ne e]
    unfold madd
    rw [mset_ne e]
theorem mset_madd_r (h : m a = none) : mset (madd m r) a c = madd m (mset r a c) := by
  funext x
  by_cases e : x = a
  · subst e
    rw [mset_same, madd_r h, mset_same]
  · rw [mset_ne e]
    unfold madd
    rw [mset_ne e]
theorem mdel_madd_r (h : m a = none) : mdel (madd m r) a = madd m (mdel r a) := by
  funext x
  by_cases e : x = a
  · subst e
    rw [mdel_same, madd_r h, mdel_same]
  · rw [mdel_ne e]
    unfold madd
    rw [mdel_ne e]
end

section
variable (K : PySem.W.Frag)
def CellOk (I H : Hp) (a : Addr) : Cell → Prop
  | .lst ds => ∃ vs, H a = some (.lst vs) ∧ Iss K I vs ds
  | .dic kd => ∃ kv, H a = some (.dK kv) ∧ Kss K I kv kd
  | .ins C fd => ∃ dx fv, H a = some (.ins C dx fv) ∧ Fss K I fv fd
/-- the table of the code objects that the one lambda's maker keeps -/
def tabP (K : PySem.W.Frag) : Addr := (He.cT K ("gone_through", none)).2
def tabQ : Str := Str.ofString "gone_through" ++ Str.ofString ".<locals>." ++ Str.ofString "<lambda>"
def TabI (K : PySem.W.Frag) (I H : Hp) : Prop := ∃ ps : Array Value, H (tabP K) = some (.tbl ps) ∧ TriplesOk ps.toList ∧ ∀ (pos : Pos) (cv : Value), codeAmong pos ps.toList = some cv → ∃ c, cv = .ref c ∧ I c = some (LamX.CodeO c tabQ)
def NoT (I : Hp) : Prop := ∀ a ps, I a ≠ some (.tbl ps)
/-- neither a table nor told by what is true of it -/
def okF (o : HO) : Prop := (∀ ps, o ≠ .tbl ps) ∧ ∀ φ, o ≠ .ext φ
def NoX (F : Hp) : Prop := ∀ a o, F a = some o → okF o
/-- I: what stands still; F: what is another's, kept as it is; M: the cells -/
structure Sta (I F H : Hp) (M : Mem) : Prop where
  sub : Same I H
  frm : Same F H
  dis : ∀ a o, F a = some o → I a = none
  cell : ∀ a c, M a = some c → I a = none ∧ F a = none ∧ CellOk K I H a c
  tab : TabI K I H
  ntI : NoT I
  ntF : NoX F
abbrev DEnv := List (Option D)
def EnvOk (I : Hp) (σ : L2.St) (δ : DEnv) : Prop := σ.length = δ.length ∧ ∀ (i : Nat) (d : D), δ[i]? = some (some d) → ∃ v, σ[i]? = some (some v) ∧ Is K I v d
end
section
variable {K : PySem.W.Frag} {I I' I1 I2 F F' H H' : Hp} {M M' m r : Mem} {a p : Addr} {v u : V} {d : D} {c : Cell} {vs us : List V} {ds es : List D} {σ : L2.St} {δ : DEnv} {o : HO}
theorem CellOk.at (e : H' a = H a) (h : CellOk K I H a c) : CellOk K I H' a c := by
  cases c with
  | lst ds => obtain ⟨vs, h, k⟩ := h; exact ⟨vs, e.trans h, k⟩
  | dic kd => obtain ⟨vs, h, k⟩ := h; exact ⟨vs, e.trans h, k⟩
  | ins C fd => obtain ⟨dx, vs, h, k⟩ := h; exact ⟨dx, vs, e.trans h, k⟩
theorem CellOk.mono (e : Same I I') (h : CellOk K I H a c) : CellOk K I' H a c := by
  cases c with
  | lst ds => obtain ⟨vs, h, k⟩ := h; exact ⟨vs, h, k.mono e⟩
  | dic kd => obtain ⟨vs, h, k⟩ := h; exact ⟨vs, h, k.mono e⟩
  | ins C fd => obtain ⟨dx, vs, h, k⟩ := h; exact ⟨dx, vs, h, k.mono e⟩
theorem CellOk.there2 (h : CellOk K I H a c) : ∃ o, H a = some o ∧ okF o := by
  cases c with
  | lst ds => obtain ⟨vs, h, _⟩ := h; exact ⟨_, h, (fun _ z => by cases z), fun _ z => by cases z⟩
  | dic kd => obtain ⟨vs, h, _⟩ := h; exact ⟨_, h, (fun _ z => by cases z), fun _ z => by cases z⟩
  | ins C fd => obtain ⟨dx, vs, h, _⟩ := h; exact ⟨_, h, (fun _ z => by cases z), fun _ z => by cases z⟩
theorem CellOk.there (h : CellOk K I H a c) : ∃ o, H a = some o := let ⟨o, q, _⟩ := h.there2; ⟨o, q⟩
/-- the table's place is no other thing's -/
theorem TabI.ne (t : TabI K I H) (h : H a = some o) (n : ∀ ps, o ≠ .tbl ps) : a ≠ tabP K := fun e => by
  obtain ⟨ps, hp, _⟩ := t
  rw [e, hp] at h
  exact n ps (Option.some.inj h).symm
theorem TabI.neN (t : TabI K I H) (h : H a = none) : a ≠ tabP K := fun e => by
  obtain ⟨ps, hp, _⟩ := t
  rw [e, hp] at h
  cases h
theorem TabI.up (t : TabI K I H) (e : Same I I') (h : H' (tabP K) = H (tabP K)) : TabI K I' H' := by
  obtain ⟨ps, hp, z, l⟩ := t
  exact ⟨ps, h.trans hp, z, fun pos cv w => by obtain ⟨c, w1, w2⟩ := l pos cv w; exact ⟨c, w1, e _ _ w2⟩⟩
theorem NoX.upd (t : NoX F) (n : okF o) : NoX (upd F a o) := fun b u e => by
  by_cases q : b = a
  · rw [q, upd_same] at e
    rw [← Option.some.inj e]
    exact n
  · rw [upd_ne q] at e
    exact t b u e
theorem okF_lst {vs : List V} : okF (.lst vs) := ⟨(fun _ z => by cases z), fun _ z => by cases z⟩
theorem okF_frz {ob : Obj} {u : HO} : okF (.frz ob u) := ⟨(fun _ z => by cases z), fun _ z => by cases z⟩
theorem NoT.upd (t : NoT I) (n : ∀ ps, o ≠ .tbl ps) : NoT (upd I a o) := fun b ps e => by
  by_cases q : b = a
  · rw [q, upd_same] at e
    exact n ps (Option.some.inj e)
  · rw [upd_ne q] at e
    exact t b ps e
theorem EnvOk.mono (e : Same I I') (h : EnvOk K I σ δ) : EnvOk K I' σ δ := ⟨h.1, fun i d q => by
  obtain ⟨v, a, b⟩ := h.2 i d q
  exact ⟨v, a, b.mono e⟩⟩
theorem EnvOk.set {i : Nat} (h : EnvOk K I σ δ) (hv : Is K I v d) : EnvOk K I (σ.set i (some v)) (δ.set i (some d)) := ⟨by rw [List.length_set, List.length_set, h.1], fun j e q => by
  by_cases hj : i = j
  · subst hj
    have hi : i < δ.length := by
      have := (List.getElem?_eq_some_iff.mp q).1
      rwa [List.length_set] at this
    rw [List.getElem?_set_self hi] at q
    cases q
    exact ⟨v, by rw [List.getElem?_set_self (by rw [h.1]; exact hi)], hv⟩
  · rw [List.getElem?_set_ne hj] at q
    obtain ⟨w, a, b⟩ := h.2 j e q
    exact ⟨w, by rw [List.getElem?_set_ne hj]; exact a, b⟩⟩
def wipeD (δ : DEnv) : List Nat → DEnv
  | [] => δ
  | v :: vs => (wipeD δ vs).set v none
theorem EnvOk.wipe (h : EnvOk K I σ δ) : ∀ vs : List Nat, EnvOk K I (wipe σ vs) (wipeD δ vs)
  | [] => h
  | v :: vs => by
    have ih := EnvOk.wipe h vs
    unfold L2.wipe wipeD
    refine ⟨by rw [List.length_set, List.length_set, ih.1], fun j e q => ?_⟩
    by_cases hj : v = j
    · subst hj
      have hi : v < (wipeD δ vs).length := by
        have := (List.getElem?_eq_some_iff.mp q).1
        rwa [List.length_set] at this
      rw [List.getElem?_set_self hi] at q
      cases q
    · rw [List.getElem?_set_ne hj] at q
      obtain ⟨w, a, b⟩ := ih.2 j e q
      exact ⟨w, by rw [List.getElem?_set_ne hj]; exact a, b⟩
theorem Sta.free (s : Sta K I F H M) (h : H p = none) : I p = none ∧ F p = none ∧ M p = none := by
  refine ⟨?_, ?_, ?_⟩
  · cases e : I p with
    | none => rfl
    | some o => rw [s.sub _ _ e] at h; cases h
  · cases e : F p with
    | none => rfl
    | some o => rw [s.frm _ _ e] at h; cases h
  · cases e : M p with
    | none => rfl
    | some c =>
      obtain ⟨o, q⟩ := (s.cell _ _ e).2.2.there
      rw [q] at h; cases h
theorem same_new (h : I p = none) : Same I (upd I p o) := fun b u e => by
  rw [upd_ne (ne_of_none e h)]
  exact e
theorem same_upd (h : Same I H) (n : I p = none) : Same I (upd H p o) := fun b u e => by
  rw [upd_ne (ne_of_none e n)]
  exact h _ _ e
/-- a new thing that stands still -/
theorem Sta.still (s : Sta K I F H M) (h : H p = none) (n : ∀ ps, o ≠ .tbl ps := by intro _ z; cases z) : Same I (upd I p o) ∧ Sta K (upd I p o) F (upd H p o) M := by
  obtain ⟨h1, h2, h3⟩ := s.free h
  refine ⟨same_new h1, fun b u e => ?_, same_upd s.frm h2, fun b u e => ?_, fun b c e => ?_, s.tab.up (same_new h1) (upd_ne (s.tab.neN h).symm), s.ntI.upd n, s.ntF⟩
  · by_cases q : b = p
    · rw [q, upd_same] at e ⊢
      exact e
    · rw [upd_ne q] at e ⊢
      exact s.sub _ _ e
  · rw [upd_ne (ne_of_none e h2)]
    exact s.dis _ _ e
  · have q : b ≠ p := fun z => by rw [z, h3] at e; cases e
    obtain ⟨a1, a2, a3⟩ := s.cell b c e
    exact ⟨by rw [upd_ne q]; exact a1, a2, (a3.at (upd_ne q)).mono (same_new h1)⟩
/-- a new cell -/
theorem Sta.cellN (s : Sta K I F H M) (h : H p = none) (hc : CellOk K I (upd H p o) p c) : Sta K I F (upd H p o) (mset M p c) := by
  obtain ⟨h1, h2, h3⟩ := s.free h
  refine ⟨same_upd s.sub h1, same_upd s.frm h2, s.dis, fun b c' e => ?_, s.tab.up (Same.refl I) (upd_ne (s.tab.neN h).symm), s.ntI, s.ntF⟩
  by_cases q : b = p
  · subst q
    rw [mset_same] at e
    cases e
    exact ⟨h1, h2, hc⟩
  · rw [mset_ne q] at e
    obtain ⟨a1, a2, a3⟩ := s.cell b c' e
    exact ⟨a1, a2, a3.at (upd_ne q)⟩
/-- a cell written -/
theorem Sta.write {c0 : Cell} (s : Sta K I F H M) (h : M p = some c0) (hc : CellOk K I (upd H p o) p c) : Sta K I F (upd H p o) (mset M p c) := by
  obtain ⟨h1, h2, h3⟩ := s.cell p c0 h
  obtain ⟨_, ho, no⟩ := h3.there2
  refine ⟨same_upd s.sub h1, same_upd s.frm h2, s.dis, fun b c' e => ?_, s.tab.up (Same.refl I) (upd_ne (s.tab.ne ho no.1).symm), s.ntI, s.ntF⟩
  by_cases q : b = p
  · subst q
    rw [mset_same] at e
    cases e
    exact ⟨h1, h2, hc⟩
  · rw [mset_ne q] at e
    obtain ⟨a1, a2, a3⟩ := s.cell b c' e
    exact ⟨a1, a2, a3.at (upd_ne q)⟩
/-- a cell that changes no more -/
theorem Sta.freeze (s : Sta K I F H M) (h : M p = some c) (ho : H p = some o) : Same I (upd I p o) ∧ Sta K (upd I p o) F H (mdel M p) := by
  obtain ⟨h1, h2, h3⟩ := s.cell p c h
  obtain ⟨o', ho', no⟩ := h3.there2
  have eo : o = o' := Option.some.inj (ho.symm.trans ho')
  refine ⟨same_new h1, fun b u e => ?_, s.frm, fun b u e => ?_, fun b c' e => ?_, s.tab.up (same_new h1) rfl, s.ntI.upd (by rw [eo]; exact no.1), s.ntF⟩
  · by_cases q : b = p
    · rw [q, upd_same] at e
      rw [q, ho]
      exact e
    · rw [upd_ne q] at e
      exact s.sub _ _ e
  · rw [upd_ne (ne_of_none e h2)]
    exact s.dis _ _ e
  · by_cases q : b = p
    · rw [q, mdel_same] at e; cases e
    · rw [mdel_ne q] at e
      obtain ⟨a1, a2, a3⟩ := s.cell b c' e
      exact ⟨by rw [upd_ne q]; exact a1, a2, a3.mono (same_new h1)⟩
/-- cells forgotten -/
theorem Sta.less (s : Sta K I F H M) (h : ∀ a c, M' a = some c → M a = some c) : Sta K I F H M' := ⟨s.sub, s.frm, s.dis, fun a c e => s.cell a c (h a c e), s.tab, s.ntI, s.ntF⟩
/-- another's part set apart -/
theorem Sta.apart (s : Sta K I F H (madd m r)) (d : mdis m r) : ∃ F', Sta K I F' H m ∧ ∀ I' H' m', Same I I' → Sta K I' F' H' m' → Sta K I' F H' (madd m' r) ∧ mdis m' r := by
  have rn : ∀ b, r b ≠ none → m b = none := fun b hb => by
    cases e : m b with
    | none => rfl
    | some c => exact absurd (d b c e) hb
  have rc : ∀ b c, r b = some c → I b = none ∧ F b = none ∧ CellOk K I H b c := fun b c e => s.cell b c (by rw [madd_r (rn b (by rw [e]; simp))]; exact e)
  refine ⟨fun b => if (r b).isSome = true then H b else F b, ⟨s.sub, fun b o e => ?_, fun b o e => ?_, fun b c e => ?_, s.tab, s.ntI, fun b o e => ?_⟩, fun I' H' m' e t => ⟨⟨t.sub, fun b o q => ?_, fun b o q => ?_, fun b c q => ?_, t.tab, t.ntI, s.ntF⟩, fun b c q => ?_⟩⟩
  · by_cases q : (r b).isSome = true
    · rw [if_pos q] at e; exact e
    · rw [if_neg q] at e; exact s.frm _ _ e
  · by_cases q : (r b).isSome = true
    · obtain ⟨c, hc⟩ := Option.isSome_iff_exists.mp q
      exact (rc b c hc).1
    · rw [if_neg q] at e; exact s.dis _ _ e
  · obtain ⟨a1, a2, a3⟩ := s.cell b c (madd_l e)
    have n := d b c e
    exact ⟨a1, by rw [n]; exact a2, a3⟩
  · by_cases q : (r b).isSome = true
    · obtain ⟨c, hc⟩ := Option.isSome_iff_exists.mp q
      obtain ⟨o', ho, no⟩ := (rc b c hc).2.2.there2
      rw [if_pos q, ho] at e
      rw [← Option.some.inj e]
      exact no
    · rw [if_neg q] at e
      exact s.ntF b o e
  · have n : r b = none := by
      cases z : r b with
      | none => rfl
      | some c => rw [(rc b c z).2.1] at q; cases q
    exact t.frm b o (by rw [n]; exact q)
  · have n : r b = none := by
      cases z : r b with
      | none => rfl
      | some c => rw [(rc b c z).2.1] at q; cases q
    exact t.dis b o (by rw [n]; exact q)
  · cases z : m' b with
    | some c' =>
      rw [madd_l z] at q
      cases q
      obtain ⟨a1, a2, a3⟩ := t.cell b c z
      have n : r b = none := by
        cases w : r b with
        | none => rfl
        | some c2 =>
          obtain ⟨o, ho⟩ := (rc b c2 w).2.2.there
          rw [w] at a2
          simp only [Option.isSome_some, if_true] at a2
          rw [ho] at a2
          cases a2
      rw [n] at a2
      exact ⟨a1, a2, a3⟩
    | none =>
      rw [madd_r z] at q
      obtain ⟨b1, b2, b3⟩ := rc b c q
      obtain ⟨o, ho⟩ := b3.there
      have hf : (if (r b).isSome = true then H b else F b) = some o := by
        rw [q]
        simpa using ho
      exact ⟨t.dis b o hf, b2, (b3.at (by rw [t.frm b o hf, ho])).mono e⟩
  · cases w : r b with
    | none => rfl
    | some c2 =>
      obtain ⟨_, a2, _⟩ := t.cell b c q
      obtain ⟨o, ho⟩ := (rc b c2 w).2.2.there
      rw [w] at a2
      simp only [Option.isSome_some, if_true] at a2
      rw [ho] at a2
      cases a2
end
end Kp

set_option maxHeartbeats 4000000
namespace Kp
open PySem PySem.Spec PyProof.Rows L2

section
variable (K : PySem.W.Frag)
def LiftE (I F : Hp) (P : D → Mem → Prop) : VK := fun v H' => ∃ d I' M', Same I I' ∧ Sta K I' F H' M' ∧ Is K I' v d ∧ P d M'
def LiftA (I F : Hp) (P : List D → Mem → Prop) : List V → Hp → Prop := fun vs H' => ∃ ds I' M', Same I I' ∧ Sta K I' F H' M' ∧ Iss K I' vs ds ∧ P ds M'
def LiftT (I F : Hp) (P : Bool → Mem → Prop) : Bool → Hp → Prop := fun b H' => ∃ I' M', Same I I' ∧ Sta K I' F H' M' ∧ P b M'
def LiftO (I F : Hp) (P : Option Int → Mem → Prop) : Option Int → Hp → Prop := fun b H' => ∃ I' M', Same I I' ∧ Sta K I' F H' M' ∧ P b M'
def LiftN (I F : Hp) (P : DEnv → Mem → Prop) : L2.St → Hp → Prop := fun σ' H' => ∃ δ' I' M', Same I I' ∧ Sta K I' F H' M' ∧ EnvOk K I' σ' δ' ∧ P δ' M'
def RE (t : TE) (δ : DEnv) (M : Mem) (P : D → Mem → Prop) : Prop :=
  ∀ (σ : L2.St) (I F H : Hp), EnvOk K I σ δ → Sta K I F H M → ∀ Q : VK, (∀ v H', LiftE K I F P v H' → Q v H') → t σ H Q
def RA (t : TA) (δ : DEnv) (M : Mem) (P : List D → Mem → Prop) : Prop :=
  ∀ (σ : L2.St) (I F H : Hp), EnvOk K I σ δ → Sta K I F H M → ∀ Q : List V → Hp → Prop, (∀ v H', LiftA K I F P v H' → Q v H') → t σ H Q
def RT (t : TT) (δ : DEnv) (M : Mem) (P : Bool → Mem → Prop) : Prop :=
  ∀ (σ : L2.St) (I F H : Hp), EnvOk K I σ δ → Sta K I F H M → ∀ Q : Bool → Hp → Prop, (∀ v H', LiftT K I F P v H' → Q v H') → t σ H Q
def RO (t : TO) (δ : DEnv) (M : Mem) (P : Option Int → Mem → Prop) : Prop :=
  ∀ (σ : L2.St) (I F H : Hp), EnvOk K I σ δ → Sta K I F H M → ∀ Q : Option Int → Hp → Prop, (∀ v H', LiftO K I F P v H' → Q v H') → t σ H Q
def RR (r : R2) (x y : D) (M : Mem) (P : D → Mem → Prop) : Prop :=
  ∀ (v u : V) (I F H : Hp), Is K I v x → Is K I u y → Sta K I F H M → ∀ Q : VK, (∀ v H', LiftE K I F P v H' → Q v H') → r v u H Q
def RC (r : List V → Hp → VK → Prop) (ds : List D) (M : Mem) (P : D → Mem → Prop) : Prop :=
  ∀ (vs : List V) (I F H : Hp), Iss K I vs ds → Sta K I F H M → ∀ Q : VK, (∀ v H', LiftE K I F P v H' → Q v H') → r vs H Q
def RM (r : V → List V → Hp → VK → Prop) (x : D) (ds : List D) (M : Mem) (P : D → Mem → Prop) : Prop :=
  ∀ (v : V) (vs : List V) (I F H : Hp), Is K I v x → Iss K I vs ds → Sta K I F H M → ∀ Q : VK, (∀ v H', LiftE K I F P v H' → Q v H') → r v vs H Q
def RG (g : TG) (d : D) (δ : DEnv) (M : Mem) (P : DEnv → Mem → Prop) : Prop :=
  ∀ (v : V) (σ : L2.St) (I F H : Hp), Is K I v d → EnvOk K I σ δ → Sta K I F H M → ∀ Q : L2.St → Hp → Prop, (∀ v H', LiftN K I F P v H' → Q v H') → g v σ H Q
def RGs (g : TGs) (ds : List D) (δ : DEnv) (M : Mem) (P : DEnv → Mem → Prop) : Prop :=
  ∀ (vs : List V) (σ : L2.St) (I F H : Hp), Iss K I vs ds → EnvOk K I σ δ → Sta K I F H M → ∀ Q : L2.St → Hp → Prop, (∀ v H', LiftN K I F P v H' → Q v H') → g vs σ H Q
structure DE where
  nx : DEnv → Mem → Prop
  rt : D → Mem → Prop
  bk : DEnv → Mem → Prop := fun _ _ => False
  ct : DEnv → Mem → Prop := fun _ _ => False
structure Lie (I F : Hp) (E : DE) (Dn : Ends) : Prop where
  nx : ∀ σ' H', LiftN K I F E.nx σ' H' → Dn.nx σ' H'
  rt : ∀ v H', LiftE K I F E.rt v H' → Dn.rt v H'
  bk : ∀ σ' H', LiftN K I F E.bk σ' H' → Dn.bk σ' H'
  ct : ∀ σ' H', LiftN K I F E.ct σ' H' → Dn.ct σ' H'
def RS (t : TS) (δ : DEnv) (M : Mem) (E : DE) : Prop :=
  ∀ (σ : L2.St) (I F H : Hp), EnvOk K I σ δ → Sta K I F H M → ∀ Dn : Ends, Lie K I F E Dn → t Dn σ H
end

section
variable {K : PySem.W.Frag} {I I' I1 I2 F F' H H' : Hp} {M M' m r : Mem} {a p : Addr} {v u : V} {d x y : D} {c : Cell} {vs us : List V} {ds es : List D} {σ : L2.St} {δ : DEnv}
  {P : D → Mem → Prop} {PA' : List D → Mem → Prop} {PT' : Bool → Mem → Prop} {PO' : Option Int → Mem → Prop} {PN' : DEnv → Mem → Prop} {te ta tb tc : TE} {tA : TA} {t tu : TT} {ts tt1 tt2 : TS} {E : DE} {Dn : Ends} {i j : Int} {b : Bool}
theorem LiftE.of {v : V} (s : Sta K I F H M) (h : Is K I v d) (p : P d M) : LiftE K I F P v H := ⟨d, I, M, Same.refl I, s, h, p⟩
theorem LiftE.up {v : V} (e : Same I I') (h : LiftE K I' F P v H) : LiftE K I F P v H := by
  obtain ⟨d, I2, M2, e2, q⟩ := h
  exact ⟨d, I2, M2, e.trans e2, q⟩
theorem LiftA.up {vs : List V} (e : Same I I') (h : LiftA K I' F PA' vs H) : LiftA K I F PA' vs H := by
  obtain ⟨d, I2, M2, e2, q⟩ := h
  exact ⟨d, I2, M2, e.trans e2, q⟩
theorem LiftT.up {v : Bool} (e : Same I I') (h : LiftT K I' F PT' v H) : LiftT K I F PT' v H := by
  obtain ⟨I2, M2, e2, q⟩ := h
  exact ⟨I2, M2, e.trans e2, q⟩
theorem LiftO.up {v : Option Int} (e : Same I I') (h : LiftO K I' F PO' v H) : LiftO K I F PO' v H := by
  obtain ⟨I2, M2, e2, q⟩ := h
  exact ⟨I2, M2, e.trans e2, q⟩
theorem LiftN.up (e : Same I I') (h : LiftN K I' F PN' σ H) : LiftN K I F PN' σ H := by
  obtain ⟨d, I2, M2, e2, q⟩ := h
  exact ⟨d, I2, M2, e.trans e2, q⟩
theorem Lie.up (e : Same I I') (h : Lie K I F E Dn) : Lie K I' F E Dn := ⟨fun _ _ z => h.nx _ _ (z.up e), fun _ _ z => h.rt _ _ (z.up e), fun _ _ z => h.bk _ _ (z.up e), fun _ _ z => h.ct _ _ (z.up e)⟩
theorem RE.use {Q : VK} (h : RE K te δ M P) (he : EnvOk K I σ δ) (hs : Sta K I F H M) (k : ∀ v d I' M' H', Same I I' → Sta K I' F H' M' → Is K I' v d → P d M' → Q v H') : te σ H Q :=
  h σ I F H he hs Q fun v H' ⟨d, I', M', e, s, q, z⟩ => k v d I' M' H' e s q z
theorem RA.use {Q : List V → Hp → Prop} (h : RA K tA δ M PA') (he : EnvOk K I σ δ) (hs : Sta K I F H M) (k : ∀ v d I' M' H', Same I I' → Sta K I' F H' M' → Iss K I' v d → PA' d M' → Q v H') : tA σ H Q :=
  h σ I F H he hs Q fun v H' ⟨d, I', M', e, s, q, z⟩ => k v d I' M' H' e s q z
theorem RT.use {Q : Bool → Hp → Prop} (h : RT K t δ M PT') (he : EnvOk K I σ δ) (hs : Sta K I F H M) (k : ∀ v I' M' H', Same I I' → Sta K I' F H' M' → PT' v M' → Q v H') : t σ H Q :=
  h σ I F H he hs Q fun v H' ⟨I', M', e, s, z⟩ => k v I' M' H' e s z
theorem RO.use {to : TO} {Q : Option Int → Hp → Prop} (h : RO K to δ M PO') (he : EnvOk K I σ δ) (hs : Sta K I F H M) (k : ∀ v I' M' H', Same I I' → Sta K I' F H' M' → PO' v M' → Q v H') : to σ H Q :=
  h σ I F H he hs Q fun v H' ⟨I', M', e, s, z⟩ => k v I' M' H' e s z
/-- what is wanted, weaker -/
theorem RE.imp {P' : D → Mem → Prop} (h : RE K te δ M P') (k : ∀ d M, P' d M → P d M) : RE K te δ M P := fun σ I F H he hs Q q => h.use he hs fun v d I' M' H' e s r z => q v H' ⟨d, I', M', e, s, r, k d M' z⟩
/-- a cell turns into what stands still -/
def Frz (M : Mem) (d : D) (M' : Mem) (d' : D) : Prop := ∃ p, d = .ref p ∧ M' = mdel M p ∧ ((∃ ds, M p = some (.lst ds) ∧ d' = .lst ds) ∨ ∃ C fs, M p = some (.ins C fs) ∧ d' = .ins C fs)
theorem Frz.lst {p : Addr} {ds : List D} (h : M p = some (.lst ds)) : Frz M (.ref p) (mdel M p) (.lst ds) := ⟨p, rfl, rfl, .inl ⟨ds, h, rfl⟩⟩
theorem Frz.ins {p C : Addr} {fs : List (Str × D)} (h : M p = some (.ins C fs)) : Frz M (.ref p) (mdel M p) (.ins C fs) := ⟨p, rfl, rfl, .inr ⟨C, fs, h, rfl⟩⟩
theorem Frz.to {d' : D} (z : Frz M d M' d') (hs : Sta K I F H M) (h : Is K I v d) : ∃ I', Same I I' ∧ Sta K I' F H M' ∧ Is K I' v d' := by
  obtain ⟨p, rfl, rfl, z⟩ := z
  cases h
  rcases z with ⟨ds, hp, rfl⟩ | ⟨C, fs, hp, rfl⟩
  · obtain ⟨_, _, vs, ho, hv⟩ := hs.cell p _ hp
    obtain ⟨e, s⟩ := hs.freeze hp ho
    exact ⟨_, e, s, .lst upd_same (hv.mono e)⟩
  · obtain ⟨_, _, dx, fv, ho, hv⟩ := hs.cell p _ hp
    obtain ⟨e, s⟩ := hs.freeze hp ho
    exact ⟨_, e, s, .ins upd_same (hv.mono e)⟩
theorem re_frz (h : RE K te δ M fun d M1 => ∃ M2 d', Frz M1 d M2 d' ∧ P d' M2) : RE K te δ M P := fun σ I F H he hs Q q => h.use he hs fun v d I1 M1 H1 e1 s1 r1 ⟨M2, d', z, p⟩ => by
  obtain ⟨I2, e2, s2, r2⟩ := z.to s1 r1
  exact q v H1 ⟨d', I2, M2, e1.trans e2, s2, r2, p⟩
/-- cells forgotten -/
theorem re_less (h : RE K te δ M fun d M1 => ∃ M2, (∀ a c, M2 a = some c → M1 a = some c) ∧ P d M2) : RE K te δ M P := fun σ I F H he hs Q q => h.use he hs fun v d I1 M1 H1 e1 s1 r1 ⟨M2, z, p⟩ =>
  q v H1 ⟨d, I1, M2, e1, s1.less z, r1, p⟩
theorem rs_less (h : ∃ M2, (∀ a c, M2 a = some c → M a = some c) ∧ RS K ts δ M2 E) : RS K ts δ M E := fun σ I F H he hs Dn l => by
  obtain ⟨M2, z, p⟩ := h
  exact p σ I F H he (hs.less z) Dn l
theorem mdel_less : ∀ a c, mdel M p a = some c → M a = some c := fun a c e => by
  by_cases q : a = p
  · rw [q, mdel_same] at e; cases e
  · rw [mdel_ne q] at e; exact e

theorem re_var {i : Nat} (h : δ[i]? = some (some d)) (p : P d M) : RE K (tVar i) δ M P := fun σ I F H he hs Q q => by
  obtain ⟨v, a, b⟩ := he.2 i d h
  exact ⟨v, a, q v H (.of hs b p)⟩
def cD : V → D
  | .non => .non
  | .bl b => .bl b
  | .int i => .int i
  | .str s => .str s
  | .ty n => .ty n
  | .ref a => .ref a
  | .byt _ => .non
  | .flt _ => .non
def isC : V → Bool
  | .byt _ => false
  | .flt _ => false
  | _ => true
theorem is_cD {v : V} (h : isC v = true) : Is K I v (cD v) := by
  cases v with
  | byt b => cases h
  | flt b => cases h
  | non => exact .non
  | bl b => exact .bl b
  | int i => exact .int i
  | str s => exact .str s
  | ty n => exact .ty n
  | ref a => exact .ref a
theorem re_int (p : P (.int i) M) : RE K (tC (.int i)) δ M P := fun σ I F H he hs Q q => q _ H (.of hs (.int i) p)
theorem re_bl (p : P (.bl b) M) : RE K (tC (.bl b)) δ M P := fun σ I F H he hs Q q => q _ H (.of hs (.bl b) p)
theorem re_non (p : P .non M) : RE K (tC .non) δ M P := fun σ I F H he hs Q q => q _ H (.of hs .non p)
theorem re_str {s : Str} (p : P (.str s) M) : RE K (tC (.str s)) δ M P := fun σ I F H he hs Q q => q _ H (.of hs (.str s) p)
theorem re_ref {a : Addr} (p : P (.ref a) M) : RE K (tC (.ref a)) δ M P := fun σ I F H he hs Q q => q _ H (.of hs (.ref a) p)
theorem re_ty {n : String} (p : P (.ty n) M) : RE K (tC (.ty n)) δ M P := fun σ I F H he hs Q q => q _ H (.of hs (.ty n) p)
/-- a tuple of the module's own -/
theorem re_rot {a : Addr} {vs : List V} {ds : List D} (h : ∀ H, SqT K H a vs) (k : ∀ I, Iss K I vs ds) (p : P (.rot ds) M) : RE K (tC (.ref a)) δ M P := fun σ I F H he hs Q q => q _ H (.of hs (.rot (h I) (k I)) p)

theorem re_op {r : R2} (h : RE K ta δ M fun x M1 => RE K tb δ M1 fun y M2 => RR K r x y M2 P) : RE K (tOp r ta tb) δ M P := fun σ I F H he hs Q q =>
  h.use he hs fun v x I1 M1 H1 e1 s1 r1 p1 => p1.use (he.mono e1) s1 fun u y I2 M2 H2 e2 s2 r2 p2 => p2 v u I2 F H2 (r1.mono e2) r2 s2 Q fun w H' z => q w H' (z.up (e1.trans e2))
theorem rr_I0 {g : Int → Int → V} (hc : isC (g i j) = true) (p : P (cD (g i j)) M) : RR K (rI0 g) (.int i) (.int j) M P := fun v u I F H hx hy hs Q q => by
  cases hx; cases hy
  exact ⟨i, j, rfl, rfl, q _ H (.of hs (is_cD hc) p)⟩
theorem rr_I {C : Int → Int → Prop} {g : Int → Int → V} (hC : C i j) (hc : isC (g i j) = true) (p : P (cD (g i j)) M) : RR K (rI C g) (.int i) (.int j) M P := fun v u I F H hx hy hs Q q => by
  cases hx; cases hy
  exact ⟨i, j, rfl, rfl, hC, q _ H (.of hs (is_cD hc) p)⟩
def scD : D → D → Option Bool
  | .non, .non => some true | .non, .int _ => some false | .int _, .non => some false | .non, .str _ => some false | .str _, .non => some false
  | .int i, .int j => some (decide (i = j)) | .bl a, .bl b => some (decide (a = b)) | .str x, .str y => some (decide (x = y))
  | _, _ => none
theorem scD_ok {v u : V} {k : Bool} (h : scD x y = some k) (hx : Is K I v x) (hy : Is K I u y) : scal v u = true ∧ decide (v = u) = k := by
  cases hx <;> cases hy <;> first | (cases h; done) | (cases h; refine ⟨rfl, ?_⟩; first | rfl | (simp))
theorem rr_eq {k : Bool} (h : scD x y = some k) (p : P (.bl k) M) : RR K rEq x y M P := fun v u I F H hx hy hs Q q => by
  obtain ⟨h1, h2⟩ := scD_ok h hx hy
  refine ⟨h1, ?_⟩
  rw [h2]
  exact q _ H (.of hs (.bl k) p)
theorem rr_ne {k : Bool} (h : scD x y = some k) (p : P (.bl (!k)) M) : RR K rNe x y M P := fun v u I F H hx hy hs Q q => by
  obtain ⟨h1, h2⟩ := scD_ok h hx hy
  refine ⟨h1, ?_⟩
  rw [h2]
  exact q _ H (.of hs (.bl (!k)) p)
/-- x is None -/
def isN : D → Bool
  | .non => true
  | _ => false
theorem rr_isN (p : P (.bl (isN x)) M) : RR K (fun x y H Q => y = .non ∧ Q (.bl (decide (x = .non))) H) x .non M P := fun v u I F H hx hy hs Q q => by
  cases hy
  refine ⟨rfl, ?_⟩
  have e : decide (v = V.non) = isN x := by cases hx <;> rfl
  rw [e]
  exact q _ H (.of hs (.bl _) p)
theorem rr_notN (p : P (.bl (!isN x)) M) : RR K (fun x y H Q => y = .non ∧ Q (.bl (!decide (x = .non))) H) x .non M P := fun v u I F H hx hy hs Q q => by
  cases hy
  refine ⟨rfl, ?_⟩
  have e : decide (v = V.non) = isN x := by cases hx <;> rfl
  rw [e]
  exact q _ H (.of hs (.bl _) p)
theorem re_un {r : V → Hp → VK → Prop} {g : Int → V} (h : RE K ta δ M fun x M1 => ∃ i, x = .int i ∧ isC (g i) = true ∧ P (cD (g i)) M1) : RE K (tUn (rU g) ta) δ M P := fun σ I F H he hs Q q =>
  h.use he hs fun v x I1 M1 H1 e1 s1 r1 ⟨i, ex, hc, p1⟩ => by
    subst ex
    cases r1
    exact ⟨i, rfl, q _ H1 ⟨_, I1, M1, e1, s1, is_cD hc, p1⟩⟩
theorem re_chain {r r' : R2} (h : RE K ta δ M fun x M1 => RE K tb δ M1 fun y M2 => RR K r x y M2 fun z M3 => ∃ k, z = .bl k ∧ (k = true → RE K tc δ M3 fun w M4 => RR K r' y w M4 P) ∧ (k = false → P (.bl false) M3)) : RE K (tChain r r' ta tb tc) δ M P := fun σ I F H he hs Q q =>
  h.use he hs fun v x I1 M1 H1 e1 s1 r1 p1 => p1.use (he.mono e1) s1 fun u y I2 M2 H2 e2 s2 r2 p2 => p2 v u I2 F H2 (r1.mono e2) r2 s2 _ fun z H3 ⟨d3, I3, M3, e3, s3, r3, k, ek, k1, k0⟩ => by
    subst ek
    cases r3
    refine ⟨k, rfl, ?_⟩
    cases k with
    | true =>
      rw [if_pos rfl]
      exact (k1 rfl).use (he.mono ((e1.trans e2).trans e3)) s3 fun w d4 I4 M4 H4 e4 s4 r4 p4 => p4 u w I4 F H4 ((r2.mono e3).mono e4) r4 s4 Q fun w H' z => q w H' (z.up (((e1.trans e2).trans e3).trans e4))
    | false =>
      rw [if_neg Bool.false_ne_true]
      exact q _ H3 ⟨.bl false, I3, M3, (e1.trans e2).trans e3, s3, .bl false, k0 rfl⟩

theorem rt_B (h : RE K te δ M fun d M1 => ∃ k, d = .bl k ∧ PT' k M1) : RT K (tB te) δ M PT' := fun σ I F H he hs Q q => h.use he hs fun v d I1 M1 H1 e1 s1 r1 ⟨k, ek, p⟩ => by
  subst ek
  cases r1
  exact ⟨k, rfl, q k H1 ⟨I1, M1, e1, s1, p⟩⟩
theorem rt_test (h : RE K te δ M fun d M1 => ∃ k, d = .bl k ∧ PT' k M1) : RT K (tTest te) δ M PT' := fun σ I F H he hs Q q => h.use he hs fun v d I1 M1 H1 e1 s1 r1 ⟨k, ek, p⟩ => by
  subst ek
  cases r1
  exact ⟨k, rfl, q k H1 ⟨I1, M1, e1, s1, p⟩⟩
theorem rt_and (h : RT K t δ M fun c M1 => (c = true → RT K tu δ M1 PT') ∧ (c = false → PT' false M1)) : RT K (tAnd t tu) δ M PT' := fun σ I F H he hs Q q => h.use he hs fun c I1 M1 H1 e1 s1 ⟨h1, h0⟩ => by
  cases c with
  | true =>
    rw [if_pos rfl]
    exact (h1 rfl) σ I1 F H1 (he.mono e1) s1 Q fun v H' z => q v H' (z.up e1)
  | false =>
    rw [if_neg Bool.false_ne_true]
    exact q false H1 ⟨I1, M1, e1, s1, h0 rfl⟩
theorem rt_or (h : RT K t δ M fun c M1 => (c = true → PT' true M1) ∧ (c = false → RT K tu δ M1 PT')) : RT K (tOr t tu) δ M PT' := fun σ I F H he hs Q q => h.use he hs fun c I1 M1 H1 e1 s1 ⟨h1, h0⟩ => by
  cases c with
  | true =>
    rw [if_pos rfl]
    exact q true H1 ⟨I1, M1, e1, s1, h1 rfl⟩
  | false =>
    rw [if_neg Bool.false_ne_true]
    exact (h0 rfl) σ I1 F H1 (he.mono e1) s1 Q fun v H' z => q v H' (z.up e1)
theorem rt_not (h : RT K t δ M fun c M1 => PT' (!c) M1) : RT K (tNot t) δ M PT' := fun σ I F H he hs Q q => h.use he hs fun c I1 M1 H1 e1 s1 p => q (!c) H1 ⟨I1, M1, e1, s1, p⟩
theorem rt_chain {r r' : R2} (h : RE K (tChain r r' ta tb tc) δ M fun d M1 => ∃ k, d = .bl k ∧ PT' k M1) : RT K (tTest (tChain r r' ta tb tc)) δ M PT' := rt_test h
theorem re_andV (h : RE K ta δ M fun x M1 => ∃ c, x = .bl c ∧ (c = true → RE K tb δ M1 P) ∧ (c = false → P (.bl false) M1)) : RE K (tAndV ta tb) δ M P := fun σ I F H he hs Q q => h.use he hs fun v d I1 M1 H1 e1 s1 r1 ⟨c, ek, h1, h0⟩ => by
  subst ek
  cases r1
  refine ⟨c, rfl, ?_⟩
  cases c with
  | true =>
    rw [if_pos rfl]
    exact (h1 rfl) σ I1 F H1 (he.mono e1) s1 Q fun v H' z => q v H' (z.up e1)
  | false =>
    rw [if_neg Bool.false_ne_true]
    exact q _ H1 ⟨_, I1, M1, e1, s1, .bl false, h0 rfl⟩
theorem re_orV (h : RE K ta δ M fun x M1 => ∃ c, x = .bl c ∧ (c = true → P (.bl true) M1) ∧ (c = false → RE K tb δ M1 P)) : RE K (tOrV ta tb) δ M P := fun σ I F H he hs Q q => h.use he hs fun v d I1 M1 H1 e1 s1 r1 ⟨c, ek, h1, h0⟩ => by
  subst ek
  cases r1
  refine ⟨c, rfl, ?_⟩
  cases c with
  | true =>
    rw [if_pos rfl]
    exact q _ H1 ⟨_, I1, M1, e1, s1, .bl true, h1 rfl⟩
  | false =>
    rw [if_neg Bool.false_ne_true]
    exact (h0 rfl) σ I1 F H1 (he.mono e1) s1 Q fun v H' z => q v H' (z.up e1)
theorem re_notV (h : RE K ta δ M fun x M1 => ∃ c, x = .bl c ∧ P (.bl (!c)) M1) : RE K (tNotV ta) δ M P := fun σ I F H he hs Q q => h.use he hs fun v d I1 M1 H1 e1 s1 r1 ⟨c, ek, p⟩ => by
  subst ek
  cases r1
  exact ⟨c, rfl, q _ H1 ⟨_, I1, M1, e1, s1, .bl (!c), p⟩⟩
theorem re_if (h : RT K t δ M fun c M1 => (c = true → RE K ta δ M1 P) ∧ (c = false → RE K tb δ M1 P)) : RE K (tIf t ta tb) δ M P := fun σ I F H he hs Q q => h.use he hs fun c I1 M1 H1 e1 s1 ⟨h1, h0⟩ => by
  cases c with
  | true =>
    rw [if_pos rfl]
    exact (h1 rfl) σ I1 F H1 (he.mono e1) s1 Q fun v H' z => q v H' (z.up e1)
  | false =>
    rw [if_neg Bool.false_ne_true]
    exact (h0 rfl) σ I1 F H1 (he.mono e1) s1 Q fun v H' z => q v H' (z.up e1)

theorem ra_nil (p : PA' [] M) : RA K tNil δ M PA' := fun σ I F H he hs Q q => q [] H ⟨[], I, M, Same.refl I, hs, .nil, p⟩
theorem ra_cons (h : RE K ta δ M fun d M1 => RA K tA δ M1 fun ds M2 => PA' (d :: ds) M2) : RA K (tCons ta tA) δ M PA' := fun σ I F H he hs Q q =>
  h.use he hs fun v d I1 M1 H1 e1 s1 r1 p1 => p1.use (he.mono e1) s1 fun vs ds I2 M2 H2 e2 s2 r2 p2 => q _ H2 ⟨_, I2, M2, e1.trans e2, s2, .cons (r1.mono e2) r2, p2⟩
theorem re_tup (h : RA K tA δ M fun ds M1 => ds.length ≤ 100000 ∧ P (.tup ds) M1) : RE K (tTup tA) δ M P := fun σ I F H he hs Q q => h.use he hs fun vs ds I1 M1 H1 e1 s1 r1 ⟨hl, p1⟩ =>
  ⟨Evl.sz_of (by rw [r1.length]; exact hl), fun p hp => by
    obtain ⟨e2, s2⟩ := s1.still (o := .tup vs) hp
    exact q _ _ ⟨_, _, M1, e1.trans e2, s2, .tup upd_same (r1.mono e2), p1⟩⟩
theorem re_lst (h : RA K tA δ M fun ds M1 => ds.length ≤ 100000 ∧ P (.lst ds) M1) : RE K (tLst tA) δ M P := fun σ I F H he hs Q q => h.use he hs fun vs ds I1 M1 H1 e1 s1 r1 ⟨hl, p1⟩ =>
  ⟨Evl.sz_of (by rw [r1.length]; exact hl), fun p hp => by
    obtain ⟨e2, s2⟩ := s1.still (o := .lst vs) hp
    exact q _ _ ⟨_, _, M1, e1.trans e2, s2, .lst upd_same (r1.mono e2), p1⟩⟩
/-- a list that may change -/
theorem re_lstM (h : RA K tA δ M fun ds M1 => ds.length ≤ 100000 ∧ ∀ p, M1 p = none → P (.ref p) (mset M1 p (.lst ds))) : RE K (tLst tA) δ M P := fun σ I F H he hs Q q => h.use he hs fun vs ds I1 M1 H1 e1 s1 r1 ⟨hl, p1⟩ =>
  ⟨Evl.sz_of (by rw [r1.length]; exact hl), fun p hp => q _ _ ⟨_, I1, _, e1, s1.cellN hp (c := .lst ds) ⟨vs, upd_same, r1⟩, .ref p, p1 p (s1.free hp).2.2⟩⟩
theorem re_dnew (h : ∀ p, M p = none → P (.ref p) (mset M p (.dic []))) : RE K tDNewK δ M P := fun σ I F H he hs Q q p hp =>
  q _ _ ⟨_, I, _, Same.refl I, hs.cellN hp (c := .dic []) ⟨[], upd_same, .nil⟩, .ref p, h p (hs.free hp).2.2⟩

def LstD (M : Mem) (d : D) (ds : List D) : Prop := d = .lst ds ∨ d = .rol ds ∨ ∃ p, d = .ref p ∧ M p = some (.lst ds)
def TupD (d : D) (ds : List D) : Prop := d = .tup ds ∨ d = .rot ds
theorem LstD.get (h : LstD M d ds) (hs : Sta K I F H M) (hv : Is K I v d) : ∃ a vs, v = .ref a ∧ SqL K H a vs ∧ Iss K I vs ds := by
  rcases h with rfl | rfl | ⟨p, rfl, hp⟩
  · cases hv with
    | lst h k => exact ⟨_, _, rfl, SqL.of (hs.sub _ _ h), k⟩
  · cases hv with
    | rol h k => exact ⟨_, _, rfl, sameL hs.sub h, k⟩
  · cases hv
    obtain ⟨_, _, vs, ho, k⟩ := hs.cell p _ hp
    exact ⟨p, vs, rfl, SqL.of ho, k⟩
theorem TupD.get (h : TupD d ds) (hs : Sta K I F H M) (hv : Is K I v d) : ∃ a vs, v = .ref a ∧ SqT K H a vs ∧ Iss K I vs ds := by
  rcases h with rfl | rfl
  · cases hv with
    | tup h k => exact ⟨_, _, rfl, SqT.of (hs.sub _ _ h), k⟩
  · cases hv with
    | rot h k => exact ⟨_, _, rfl, sameT hs.sub h, k⟩
theorem lstD1 : LstD M (.lst ds) ds := .inl rfl
theorem lstD2 : LstD M (.rol ds) ds := .inr (.inl rfl)
theorem lstD3 (h : M p = some (.lst ds)) : LstD M (.ref p) ds := .inr (.inr ⟨p, rfl, h⟩)
theorem tupD1 : TupD (.tup ds) ds := .inl rfl
theorem tupD2 : TupD (.rot ds) ds := .inr rfl
theorem Iss.atI (h : Iss K I vs ds) (e : atI ds i = some d) : ∃ v, L2.atI vs i = some v ∧ Is K I v d := by
  unfold L2.atI at e ⊢
  rw [h.length]
  cases q : ixN ds.length i with
  | none => rw [q] at e; cases e
  | some j =>
    rw [q] at e
    exact h.get e
theorem rr_ixL (h : LstD M x ds) (e : atI ds i = some d) (p : P d M) : RR K (rIxL K) x (.int i) M P := fun v u I F H hx hy hs Q q => by
  cases hy
  obtain ⟨a, vs, rfl, hl, k⟩ := h.get hs hx
  obtain ⟨w, e1, r⟩ := k.atI e
  exact ⟨a, vs, i, w, rfl, rfl, hl, e1, q _ H (.of hs r p)⟩
theorem rr_ixT (h : TupD x ds) (e : atI ds i = some d) (p : P d M) : RR K (rIxT K) x (.int i) M P := fun v u I F H hx hy hs Q q => by
  cases hy
  obtain ⟨a, vs, rfl, hl, k⟩ := h.get hs hx
  obtain ⟨w, e1, r⟩ := k.atI e
  exact ⟨a, vs, i, w, rfl, rfl, hl, e1, q _ H (.of hs r p)⟩
theorem rr_ixS {z : Str} {c : Nat} (hz : z.length ≤ 100000) (e : atI z.cps.toList i = some c) (p : P (.str ⟨#[c]⟩) M) : RR K rIxS (.str z) (.int i) M P := fun v u I F H hx hy hs Q q => by
  cases hx; cases hy
  exact ⟨z, i, c, rfl, rfl, Evl.sz_of hz, e, q _ H (.of hs (.str _) p)⟩
theorem rr_add_str {s z : Str} (hz : s.length + z.length ≤ 100000) (p : P (.str (s ++ z)) M) : RR K (fun x y H Q => ∃ i j, x = .str i ∧ y = .str j ∧ i.length + j.length ≤ sizeLine ∧ Q (.str (i ++ j)) H) (.str s) (.str z) M P := fun v u I F H hx hy hs Q q => by
  cases hx; cases hy
  exact ⟨s, z, rfl, rfl, Evl.sz_of hz, q _ H (.of hs (.str _) p)⟩
theorem rr_cat (hz : ds.length + es.length ≤ 100000) (p : P (.lst (ds ++ es)) M) : RR K rCat (.lst ds) (.lst es) M P := fun v u I F H hx hy hs Q q => by
  cases hx with
  | lst h1 k1 =>
  cases hy with
  | lst h2 k2 =>
  refine ⟨_, _, _, _, rfl, rfl, hs.sub _ _ h1, hs.sub _ _ h2, Evl.sz_of (by rw [k1.length, k2.length]; exact hz), fun p hp => ?_⟩
  obtain ⟨e2, s2⟩ := hs.still (o := .lst _) hp
  exact q _ _ ⟨_, _, M, e2, s2, .lst upd_same ((k1.append k2).mono e2), by assumption⟩
theorem rr_rep (hi : -(2 ^ 63) ≤ i ∧ i < 2 ^ 63) (hz : ds.length * i.toNat ≤ 100000) (p : P (.lst (List.replicate i.toNat ds).flatten) M) : RR K rRep (.lst ds) (.int i) M P := fun v u I F H hx hy hs Q q => by
  cases hy
  cases hx with
  | lst h1 k1 =>
  refine ⟨_, _, _, rfl, rfl, hs.sub _ _ h1, hi.1, hi.2, Evl.sz_of (by rw [k1.length]; exact hz), fun p hp => ?_⟩
  obtain ⟨e2, s2⟩ := hs.still (o := .lst _) hp
  exact q _ _ ⟨_, _, M, e2, s2, .lst upd_same ((k1.rep _).mono e2), by assumption⟩
end
end Kp

set_option maxHeartbeats 4000000
namespace Kp
open PySem PySem.Spec PyProof.Rows L2
section
variable {K : PySem.W.Frag} {I I' I1 I2 F F' H H' : Hp} {M M' m r : Mem} {a p : Addr} {v u : V} {d x y : D} {c : Cell} {vs us : List V} {ds es : List D} {σ : L2.St} {δ : DEnv}
  {P : D → Mem → Prop} {PA' : List D → Mem → Prop} {PT' : Bool → Mem → Prop} {PO' : Option Int → Mem → Prop} {PN' : DEnv → Mem → Prop} {te ta tb tc ty td tx : TE} {tA : TA} {t tu : TT} {ts tt1 tt2 : TS} {E : DE} {Dn : Ends} {i j : Int} {b : Bool}
def cutD {α : Type} (xs : List α) (lo hi : Option Int) : List α := (xs.drop (HT.sIx xs.length 0 lo)).take (HT.sIx xs.length xs.length hi - HT.sIx xs.length 0 lo)
theorem Iss.cut {lo hi : Option Int} (h : Iss K I vs ds) : Iss K I (cutV vs lo hi) (cutD ds lo hi) := by
  unfold cutV cutD
  rw [h.length]
  exact (h.drop _).take _
theorem ro_none (p : PO' none M) : RO K tNoPart δ M PO' := fun σ I F H he hs Q q => q none H ⟨I, M, Same.refl I, hs, p⟩
theorem ro_some (h : RE K te δ M fun d M1 => ∃ i, d = .int i ∧ PO' (some i) M1) : RO K (tPart te) δ M PO' := fun σ I F H he hs Q q => h.use he hs fun v d I1 M1 H1 e1 s1 r1 ⟨i, ei, p⟩ => by
  subst ei
  cases r1
  exact ⟨i, rfl, q _ H1 ⟨I1, M1, e1, s1, p⟩⟩
theorem re_slL {tl th : TO} (h : RE K te δ M fun d M1 => RO K tl δ M1 fun lo M2 => RO K th δ M2 fun hi M3 => ∃ ds, LstD M3 d ds ∧ P (.lst (cutD ds lo hi)) M3) : RE K (tSl (rSlL K) te tl th) δ M P := fun σ I F H he hs Q q =>
  h.use he hs fun v d I1 M1 H1 e1 s1 r1 p1 => p1.use (he.mono e1) s1 fun lo I2 M2 H2 e2 s2 p2 => p2.use ((he.mono e1).mono e2) s2 fun hi I3 M3 H3 e3 s3 ⟨ds, hl, p3⟩ => by
    obtain ⟨a, vs, rfl, hq, k⟩ := hl.get s3 ((r1.mono e2).mono e3)
    refine ⟨a, vs, rfl, hq, fun p hp => ?_⟩
    obtain ⟨e4, s4⟩ := s3.still (o := .lst (cutV vs lo hi)) hp
    exact q _ _ ⟨_, _, M3, ((e1.trans e2).trans e3).trans e4, s4, .lst upd_same (k.cut.mono e4), p3⟩
theorem re_slS {tl th : TO} (h : RE K te δ M fun d M1 => RO K tl δ M1 fun lo M2 => RO K th δ M2 fun hi M3 => ∃ z : Str, d = .str z ∧ z.length ≤ 100000 ∧ P (.str (cutS z lo hi)) M3) : RE K (tSl rSlS te tl th) δ M P := fun σ I F H he hs Q q =>
  h.use he hs fun v d I1 M1 H1 e1 s1 r1 p1 => p1.use (he.mono e1) s1 fun lo I2 M2 H2 e2 s2 p2 => p2.use ((he.mono e1).mono e2) s2 fun hi I3 M3 H3 e3 s3 ⟨z, ez, hz, p3⟩ => by
    subst ez
    cases r1
    exact ⟨z, rfl, Evl.sz_of hz, q _ _ ⟨_, I3, M3, (e1.trans e2).trans e3, s3, .str _, p3⟩⟩

theorem rs_next (p : E.nx δ M) : RS K tNext δ M E := fun σ I F H he hs Dn l => l.nx σ H ⟨δ, I, M, Same.refl I, hs, he, p⟩
theorem rs_break (p : E.bk δ M) : RS K tBreak δ M E := fun σ I F H he hs Dn l => l.bk σ H ⟨δ, I, M, Same.refl I, hs, he, p⟩
theorem rs_cont (p : E.ct δ M) : RS K tCont δ M E := fun σ I F H he hs Dn l => l.ct σ H ⟨δ, I, M, Same.refl I, hs, he, p⟩
theorem rs_seq (h : RS K tt1 δ M { E with nx := fun δ' M' => RS K tt2 δ' M' E }) : RS K (tSeq tt1 tt2) δ M E := fun σ I F H he hs Dn l =>
  h σ I F H he hs { Dn with nx := tt2 Dn } ⟨fun σ' H' ⟨δ', I', M', e, s, he', z⟩ => z σ' I' F H' he' s Dn (l.up e), l.rt, l.bk, l.ct⟩
theorem rs_drop (h : RE K te δ M fun _ M1 => E.nx δ M1) : RS K (tDrop te) δ M E := fun σ I F H he hs Dn l => h.use he hs fun v d I1 M1 H1 e1 s1 _ p => l.nx σ H1 ⟨δ, I1, M1, e1, s1, he.mono e1, p⟩
theorem rs_ret (h : RE K te δ M E.rt) : RS K (tRet te) δ M E := fun σ I F H he hs Dn l => h σ I F H he hs Dn.rt l.rt
theorem rs_retN (p : E.rt .non M) : RS K tRetN δ M E := fun σ I F H he hs Dn l => l.rt .non H (.of hs .non p)
theorem rs_if (h : RT K t δ M fun c M1 => (c = true → RS K tt1 δ M1 E) ∧ (c = false → RS K tt2 δ M1 E)) : RS K (tIfS t tt1 tt2) δ M E := fun σ I F H he hs Dn l => h.use he hs fun c I1 M1 H1 e1 s1 ⟨h1, h0⟩ => by
  cases c with
  | true =>
    rw [if_pos rfl]
    exact (h1 rfl) σ I1 F H1 (he.mono e1) s1 Dn (l.up e1)
  | false =>
    rw [if_neg Bool.false_ne_true]
    exact (h0 rfl) σ I1 F H1 (he.mono e1) s1 Dn (l.up e1)
theorem rg_name {i : Nat} (p : PN' (δ.set i (some d)) M) : RG K (gName i) d δ M PN' := fun v σ I F H hv he hs Q q => q _ H ⟨_, I, M, Same.refl I, hs, he.set hv, p⟩
theorem rgs_nil (p : PN' δ M) : RGs K gNil [] δ M PN' := fun vs σ I F H hv he hs Q q => by
  cases hv
  exact ⟨rfl, q _ H ⟨_, I, M, Same.refl I, hs, he, p⟩⟩
theorem rgs_cons {g : TG} {gs : TGs} (h : RG K g d δ M fun δ1 M1 => RGs K gs ds δ1 M1 PN') : RGs K (gCons g gs) (d :: ds) δ M PN' := fun vs σ I F H hv he hs Q q => by
  cases hv with
  | cons h1 h2 =>
  exact ⟨_, _, rfl, h _ σ I F H h1 he hs _ fun σ1 H1 ⟨δ1, I1, M1, e1, s1, he1, z⟩ => z _ σ1 I1 F H1 (h2.mono e1) he1 s1 Q fun σ2 H2 w => q σ2 H2 (w.up e1)⟩
theorem rg_tup {n : Nat} {gs : TGs} (ht : TupD d ds) (hn : ds.length = n) (h : RGs K gs ds δ M PN') : RG K (gTup K n gs) d δ M PN' := fun v σ I F H hv he hs Q q => by
  obtain ⟨a, vs, rfl, hq, k⟩ := ht.get hs hv
  exact ⟨a, vs, rfl, hq, by rw [k.length]; exact hn, h vs σ I F H k he hs Q q⟩
theorem rs_asg {g : TG} (h : RE K te δ M fun d M1 => RG K g d δ M1 E.nx) : RS K (tAsg te g) δ M E := fun σ I F H he hs Dn l => h.use he hs fun v d I1 M1 H1 e1 s1 r1 p => p v σ I1 F H1 r1 (he.mono e1) s1 Dn.nx fun σ' H' z => l.nx σ' H' (z.up e1)
/-- x[i] = e of a list's cell -/
theorem rg_setL (h : RE K ta δ M fun o M1 => RE K tb δ M1 fun ix M2 => ∃ p ds i j, o = .ref p ∧ ix = .int i ∧ M2 p = some (.lst ds) ∧ ixN ds.length i = some j ∧ PN' δ (mset M2 p (.lst (ds.set j d)))) : RG K (gSub ta tb rSetL) d δ M PN' := fun v σ I F H hv he hs Q q =>
  h.use he hs fun o od I1 M1 H1 e1 s1 r1 p1 => p1.use (he.mono e1) s1 fun u ix I2 M2 H2 e2 s2 r2 ⟨p, ds, i, j, eo, ei, hp, hj, z⟩ => by
    subst eo ei
    cases r1; cases r2
    obtain ⟨_, _, ws, ho, k⟩ := s2.cell p _ hp
    refine ⟨p, ws, i, j, rfl, rfl, ho, by rw [k.length]; exact hj, q _ _ ⟨δ, I2, _, e1.trans e2, s2.write hp (c := .lst (ds.set j d)) ⟨_, upd_same, k.set j ((hv.mono e1).mono e2)⟩, (he.mono e1).mono e2, z⟩⟩
/-- o.f = e of an instance's cell -/
theorem rs_fld {f : Str} (h : RE K tx δ M fun d M1 => RE K ta δ M1 fun o M2 => ∃ p C fs, o = .ref p ∧ M2 p = some (.ins C fs) ∧ Cls K C ∧ NoAttr K C f ∧ fs.length < 1000 ∧ E.nx δ (mset M2 p (.ins C (putD f d fs)))) : RS K (sFld K ta tx f) δ M E := fun σ I F H he hs Dn l =>
  h.use he hs fun v d I1 M1 H1 e1 s1 r1 p1 => p1.use (he.mono e1) s1 fun u o I2 M2 H2 e2 s2 r2 ⟨p, C, fs, eo, hp, hc, hn, hl, z⟩ => by
    subst eo
    cases r2
    obtain ⟨_, _, dx, fv, ho, k⟩ := s2.cell p _ hp
    exact ⟨p, C, dx, fv, rfl, ho, hc, hn, by rw [k.length]; exact hl, l.nx σ _ ⟨δ, I2, _, e1.trans e2, s2.write hp (c := .ins C (putD f d fs)) ⟨dx, _, upd_same, k.put (r1.mono e2)⟩, (he.mono e1).mono e2, z⟩⟩
def InsD (M : Mem) (d : D) (C : Addr) (fs : List (Str × D)) : Prop := d = .ins C fs ∨ ∃ p, d = .ref p ∧ M p = some (.ins C fs)
theorem InsD.get {C : Addr} {fs : List (Str × D)} (h : InsD M d C fs) (hs : Sta K I F H M) (hv : Is K I v d) : ∃ a dx fv, v = .ref a ∧ H a = some (.ins C dx fv) ∧ Fss K I fv fs := by
  rcases h with rfl | ⟨p, rfl, hp⟩
  · cases hv with
    | ins h k => exact ⟨_, _, _, rfl, hs.sub _ _ h, k⟩
  · cases hv
    obtain ⟨_, _, dx, fv, ho, k⟩ := hs.cell p _ hp
    exact ⟨p, dx, fv, rfl, ho, k⟩
theorem insD1 {C : Addr} {fs : List (Str × D)} : InsD M (.ins C fs) C fs := .inl rfl
theorem insD2 {C : Addr} {fs : List (Str × D)} (h : M p = some (.ins C fs)) : InsD M (.ref p) C fs := .inr ⟨p, rfl, h⟩
theorem re_fld {f : Str} (h : RE K ta δ M fun o M1 => ∃ C fs d, InsD M1 o C fs ∧ Cls K C ∧ NoAttr K C f ∧ fs.lookup f = some d ∧ P d M1) : RE K (tFld K ta f) δ M P := fun σ I F H he hs Q q => h.use he hs fun v o I1 M1 H1 e1 s1 r1 ⟨C, fs, d, hi, hc, hn, hl, p⟩ => by
  obtain ⟨a, dx, fv, rfl, ho, k⟩ := hi.get s1 r1
  obtain ⟨w, hw, rw'⟩ := k.lookup hl
  exact ⟨a, C, dx, fv, w, rfl, ho, hc, hn, hw, q _ _ ⟨d, I1, M1, e1, s1, rw', p⟩⟩

abbrev Spc := List D → Mem → (D → Mem → Prop) → Prop
def spL (K : PySem.W.Frag) (S : Spc) : Sp := fun vs H Q _ => ∃ ds I F M P, Iss K I vs ds ∧ Sta K I F H M ∧ S ds M P ∧ ∀ v H', LiftE K I F P v H' → Q v H'
theorem re_call {S : Spc} {E0' : XK} (h : RA K tA δ M fun ds M1 => S ds M1 P) : RE K (tCall (spL K S) [] E0' tA) δ M P := fun σ I F H he hs Q q => h.use he hs fun vs ds I1 M1 H1 e1 s1 r1 p => by
  refine ⟨ds, I1, F, M1, P, by rw [List.append_nil]; exact r1, s1, p, fun v H' z => q v H' (z.up e1)⟩
/-- .. with a part set apart -/
theorem re_callF {S : Spc} {E0' : XK} (h : RA K tA δ M fun ds M1 => ∃ m r, M1 = madd m r ∧ mdis m r ∧ S ds m fun d m' => mdis m' r → P d (madd m' r)) : RE K (tCall (spL K S) [] E0' tA) δ M P := fun σ I F H he hs Q q => h.use he hs fun vs ds I1 M1 H1 e1 s1 r1 ⟨m, r, em, dm, p⟩ => by
  subst em
  obtain ⟨F', s2, back⟩ := s1.apart dm
  refine ⟨ds, I1, F', m, _, by rw [List.append_nil]; exact r1, s2, p, fun v H' ⟨d, I', m', e2, s3, r3, z⟩ => ?_⟩
  obtain ⟨s4, dm'⟩ := back I' H' m' e2 s3
  exact q v H' ⟨d, I', _, e1.trans e2, s4, r3, z dm'⟩
theorem re_meth {C : Addr} {mm : Str} {S : Spc} {E0' : XK} (h : RE K ta δ M fun o M1 => ∃ fs, InsD M1 o C fs ∧ fs.lookup mm = none ∧ RA K tA δ M1 fun ds M2 => S (o :: ds) M2 P) : RE K (tMeth C mm (spL K S) [] E0' ta tA) δ M P := fun σ I F H he hs Q q =>
  h.use he hs fun v o I1 M1 H1 e1 s1 r1 ⟨fs, hi, hl, p⟩ => by
    obtain ⟨a, dx, fv, rfl, ho, k⟩ := hi.get s1 r1
    refine ⟨a, dx, fv, rfl, ho, k.lack hl, p.use (he.mono e1) s1 fun vs ds I2 M2 H2 e2 s2 r2 p2 => ?_⟩
    exact ⟨o :: ds, I2, F, M2, P, by rw [List.append_nil]; exact .cons (r1.mono e2) r2, s2, p2, fun v H' z => q v H' (z.up (e1.trans e2))⟩
theorem re_methF {C : Addr} {mm : Str} {S : Spc} {E0' : XK} (h : RE K ta δ M fun o M1 => ∃ fs, InsD M1 o C fs ∧ fs.lookup mm = none ∧ RA K tA δ M1 fun ds M2 => ∃ m r, M2 = madd m r ∧ mdis m r ∧ S (o :: ds) m fun d m' => mdis m' r → P d (madd m' r)) : RE K (tMeth C mm (spL K S) [] E0' ta tA) δ M P := fun σ I F H he hs Q q =>
  h.use he hs fun v o I1 M1 H1 e1 s1 r1 ⟨fs, hi, hl, p⟩ => by
    obtain ⟨a, dx, fv, rfl, ho, k⟩ := hi.get s1 r1
    refine ⟨a, dx, fv, rfl, ho, k.lack hl, p.use (he.mono e1) s1 fun vs ds I2 M2 H2 e2 s2 r2 ⟨m, r, em, dm, p2⟩ => ?_⟩
    subst em
    obtain ⟨F', s3, back⟩ := s2.apart dm
    refine ⟨o :: ds, I2, F', m, _, by rw [List.append_nil]; exact .cons (r1.mono e2) r2, s3, p2, fun v H' ⟨d, I', m', e3, s4, r4, z⟩ => ?_⟩
    obtain ⟨s5, dm'⟩ := back I' H' m' e3 s4
    exact q v H' ⟨d, I', _, (e1.trans e2).trans e3, s5, r4, z dm'⟩
theorem upd_swap {H : Hp} {a b : Addr} {o u : HO} (h : a ≠ b) : upd (upd H a o) b u = upd (upd H b u) a o := by
  funext x
  unfold upd
  by_cases e : x = b
  · subst e
    rw [if_pos rfl, if_neg (fun z => h z.symm), if_pos rfl]
  · by_cases e2 : x = a
    · subst e2
      rw [if_neg e, if_pos rfl, if_pos rfl]
    · rw [if_neg e, if_neg e2, if_neg e2, if_neg e]
theorem re_make {C : Addr} {S : Spc} {E0' : XK} (h : RA K tA δ M fun ds M1 => ∀ p, M1 p = none → S (.ref p :: ds) (mset M1 p (.ins C [])) fun d M2 => d = .non ∧ P (.ref p) M2) : RE K (tMake C (spL K S) [] E0' tA) δ M P := fun σ I F H he hs Q q =>
  h.use he hs fun vs ds I1 M1 H1 e1 s1 r1 p1 x dx hx hdx nx => by
    have hx2 : (upd H1 dx (.own x)) x = none := by rw [upd_ne nx.symm]; exact hx
    obtain ⟨e2, s2⟩ := s1.still (o := .own x) hdx
    have s3 := s2.cellN (o := .ins C dx []) hx2 (c := .ins C []) ⟨dx, [], upd_same, .nil⟩
    refine ⟨.ref x :: ds, _, F, _, _, by rw [List.append_nil]; exact .cons (.ref x) (r1.mono e2), s3, p1 x (s1.free hx).2.2, fun v H' ⟨d, I', M', e4, s4, r4, ed, z⟩ => ?_⟩
    subst ed
    cases r4
    exact ⟨rfl, q _ H' ⟨.ref x, I', M', (e1.trans e2).trans e4, s4, .ref x, z⟩⟩
theorem re_cb {r : List V → Hp → VK → Prop} (h : RA K tA δ M fun ds M1 => RC K r ds M1 P) : RE K (tCB r tA) δ M P := fun σ I F H he hs Q q => h.use he hs fun vs ds I1 M1 H1 e1 s1 r1 p => p vs I1 F H1 r1 s1 Q fun v H' z => q v H' (z.up e1)
theorem Iss.one (h : Iss K I vs [d]) : ∃ v, vs = [v] ∧ Is K I v d := by
  cases h with
  | cons h k => cases k; exact ⟨_, rfl, h⟩
theorem Iss.two (h : Iss K I vs [d, x]) : ∃ v u, vs = [v, u] ∧ Is K I v d ∧ Is K I u x := by
  cases h with
  | cons h k =>
    obtain ⟨u, rfl, k2⟩ := k.one
    exact ⟨_, u, rfl, h, k2⟩
def LenD (M : Mem) (d : D) (n : Nat) : Prop := (∃ ds, LstD M d ds ∧ n = ds.length) ∨ (∃ ds, TupD d ds ∧ n = ds.length) ∨ ∃ z : Str, d = .str z ∧ z.length ≤ 100000 ∧ n = z.length
theorem rc_len {n : Nat} (h : LenD M d n) (p : P (.int n) M) : RC K (fun xs H Q => ∃ x n, xs = [x] ∧ LenV K x H n ∧ Q (.int n) H) [d] M P := fun vs I F H r hs Q q => by
  obtain ⟨v, rfl, rv⟩ := r.one
  rcases h with ⟨ds, hl, rfl⟩ | ⟨ds, hl, rfl⟩ | ⟨z, rfl, hz, rfl⟩
  · obtain ⟨a, ws, rfl, hq, k⟩ := hl.get hs rv
    exact ⟨_, _, rfl, .inl ⟨ws, hq, k.length.symm⟩, q _ H (.of hs (.int _) p)⟩
  · obtain ⟨a, ws, rfl, hq, k⟩ := hl.get hs rv
    exact ⟨_, _, rfl, .inr ⟨ws, hq, k.length.symm⟩, q _ H (.of hs (.int _) p)⟩
  · cases rv
    exact ⟨_, _, rfl, ⟨Evl.sz_of hz, rfl⟩, q _ H (.of hs (.int _) p)⟩
theorem rc_min2 (p : P (.int (if j < i then j else i)) M) : RC K (fun xs H Q => ∃ i j, xs = [.int i, .int j] ∧ Q (.int (if j < i then j else i)) H) [.int i, .int j] M P := fun vs I F H r hs Q q => by
  obtain ⟨v, u, rfl, rv, ru⟩ := r.two
  cases rv; cases ru
  exact ⟨i, j, rfl, q _ H (.of hs (.int _) p)⟩
theorem rc_min {ns : List Int} (h : LstD M d (ns.map D.int)) (hn : 0 < ns.length) (p : ∀ m, m ∈ ns → (∀ y, y ∈ ns → m ≤ y) → P (.int m) M) : RC K (rMin K) [d] M P := fun vs I F H r hs Q q => by
  obtain ⟨v, rfl, rv⟩ := r.one
  obtain ⟨a, ws, rfl, hq, k⟩ := h.get hs rv
  rw [k.ints] at hq
  exact ⟨a, ns, rfl, hq, hn, fun m hm hle => q _ H (.of hs (.int _) (p m hm hle))⟩
theorem rc_all {bs : List Bool} (h : LstD M d (bs.map D.bl)) (p : P (.bl (bs.all id)) M) : RC K (rAll K) [d] M P := fun vs I F H r hs Q q => by
  obtain ⟨v, rfl, rv⟩ := r.one
  obtain ⟨a, ws, rfl, hq, k⟩ := h.get hs rv
  rw [k.bls] at hq
  exact ⟨a, bs, rfl, hq, q _ H (.of hs (.bl _) p)⟩
theorem rc_list (h : LstD M d ds ∨ TupD d ds) (p : P (.lst ds) M) : RC K (fun xs H Q => ∃ p ys, xs = [.ref p] ∧ (SqL K H p ys ∨ SqT K H p ys) ∧ ∀ l, H l = none → Q (.ref l) (upd H l (.lst ys))) [d] M P := fun vs I F H r hs Q q => by
  obtain ⟨v, rfl, rv⟩ := r.one
  rcases h with h | h
  · obtain ⟨a, ws, rfl, hq, k⟩ := h.get hs rv
    refine ⟨a, ws, rfl, .inl hq, fun l hl => ?_⟩
    obtain ⟨e2, s2⟩ := hs.still (o := .lst ws) hl
    exact q _ _ ⟨_, _, M, e2, s2, .lst upd_same (k.mono e2), p⟩
  · obtain ⟨a, ws, rfl, hq, k⟩ := h.get hs rv
    refine ⟨a, ws, rfl, .inr hq, fun l hl => ?_⟩
    obtain ⟨e2, s2⟩ := hs.still (o := .lst ws) hl
    exact q _ _ ⟨_, _, M, e2, s2, .lst upd_same (k.mono e2), p⟩
theorem rc_intB (p : P (.int (if b then 1 else 0)) M) : RC K (fun xs H Q => (∃ i, xs = [.int i] ∧ Q (.int i) H) ∨ ∃ k, xs = [.bl k] ∧ Q (.int (if k then 1 else 0)) H) [.bl b] M P := fun vs I F H r hs Q q => by
  obtain ⟨v, rfl, rv⟩ := r.one
  cases rv
  exact .inr ⟨b, rfl, q _ H (.of hs (.int _) p)⟩
theorem rc_dictD {kd : List (Key × D)} (h : M a = some (.dic kd)) (p : ∀ p, M p = none → P (.ref p) (mset M p (.dic kd))) : RC K (fun xs H Q => ∃ (a : Addr) (kvs : List (Key × V)), xs = [.ref a] ∧ Rd H a (.dK kvs) ∧ ∀ p, H p = none → Q (.ref p) (upd H p (.dK kvs))) [.ref a] M P := fun vs I F H r hs Q q => by
  obtain ⟨v, rfl, rv⟩ := r.one
  cases rv
  obtain ⟨_, _, kv, ho, k⟩ := hs.cell a _ h
  exact ⟨a, kv, rfl, .inl ho, fun l hl => q _ _ ⟨_, I, _, Same.refl I, hs.cellN hl (c := .dic kd) ⟨kv, upd_same, k⟩, .ref l, p l (hs.free hl).2.2⟩⟩
/-- dict(..) of a list of pairs -/
def mergeD (kd more : List (Key × D)) : List (Key × D) := more.foldl (fun acc kv => setD acc kv.1 kv.2) kd
theorem Kss.merge {kv : List (Key × V)} {kd : List (Key × D)} {mv : List (Key × V)} {md : List (Key × D)} (h : Kss K I kv kd) (k : Kss K I mv md) : Kss K I (mergeK kv mv) (mergeD kd md) := by
  induction k generalizing kv kd with
  | nil => exact h
  | @cons k' v' d' kv' kd' h1 _ ih => exact ih (h.set k' h1)
theorem rc_dictP {kd : List (Key × D)} (h : LstD M d (kd.map fun q => .tup [kD q.1, q.2])) (p : ∀ p, M p = none → P (.ref p) (mset M p (.dic (mergeD [] kd)))) : RC K (fun xs H Q => ∃ (a : Addr) (ps : List Addr) (kvs : List (Key × V)), xs = [.ref a] ∧ SqL K H a (ps.map V.ref) ∧ Paired (fun p kv => SqT K H p [kV kv.1, kv.2]) ps kvs ∧ ∀ p, H p = none → Q (.ref p) (upd H p (.dK (mergeK [] kvs)))) [d] M P := fun vs I F H r hs Q q => by
  obtain ⟨v, rfl, rv⟩ := r.one
  obtain ⟨a, ws, rfl, hq, k⟩ := h.get hs rv
  have key : ∀ (kd : List (Key × D)) (ws : List V), Iss K I ws (kd.map fun q => D.tup [kD q.1, q.2]) → ∃ (ps : List Addr) (kvs : List (Key × V)), ws = ps.map V.ref ∧ Paired (fun p kv => SqT K H p [kV kv.1, kv.2]) ps kvs ∧ Kss K I kvs kd := by
    intro kd
    induction kd with
    | nil =>
      intro ws h
      cases h
      exact ⟨[], [], rfl, .nil, .nil⟩
    | cons q r ih =>
      intro ws h
      cases h with
      | cons h1 h2 =>
        obtain ⟨ps, kvs, e1, e2, e3⟩ := ih _ h2
        cases h1 with
        | @tup a1 vs1 _ ht hi =>
          obtain ⟨w1, w2, rfl, i1, i2⟩ := hi.two
          obtain rfl := i1.key
          exact ⟨a1 :: ps, (q.1, w2) :: kvs, by rw [e1]; rfl, .cons (SqT.of (hs.sub _ _ ht)) e2, .cons i2 e3⟩
  obtain ⟨ps, kvs, rfl, e2, e3⟩ := key kd ws k
  exact ⟨a, ps, kvs, rfl, hq, e2, fun l hl => q _ _ ⟨_, I, _, Same.refl I, hs.cellN hl (c := .dic (mergeD [] kd)) ⟨_, upd_same, Kss.merge .nil e3⟩, .ref l, p l (hs.free hl).2.2⟩⟩
structure ClsF (K : PySem.W.Frag) (C : Addr) : Prop where
  cl : Cls K C
  ha : PySem.W.findIn K (.ref C) "__class__" = some (some (.builtin "object.__class__"))
  hn : PySem.W.specialIn K (.builtin "object.__class__") "__get__" = some (some (.builtin "getset_descriptor.__get__"))
  ht : PySem.W.takesIn K (.builtin "object.__class__") = some true
  hm : PySem.W.mroIn K C (.type "object") = some true
inductive TyD (K : PySem.W.Frag) (M : Mem) : D → Value → Prop
  | non : TyD K M .non (.type "NoneType")
  | bl (b : Bool) : TyD K M (.bl b) (.type "bool")
  | int (i : Int) : TyD K M (.int i) (.type "int")
  | str (s : Str) : TyD K M (.str s) (.type "str")
  | tup (ds : List D) : TyD K M (.tup ds) (.type "tuple")
  | lst (ds : List D) : TyD K M (.lst ds) (.type "list")
  | ins {C : Addr} {fs : List (Str × D)} : ClsF K C → TyD K M (.ins C fs) (.ref C)
theorem TyD.get {tv : Value} (h : TyD K M d tv) (hs : Sta K I F H M) (hv : Is K I v d) : TyX K H v tv := by
  cases h with
  | non => cases hv; exact .base .non
  | bl b => cases hv; exact .base (.bl b)
  | int i => cases hv; exact .base (.int i)
  | str s => cases hv; exact .base (.str s)
  | tup ds => cases hv with | tup h k => exact .base (.tup (hs.sub _ _ h))
  | lst ds => cases hv with | lst h k => exact .base (.lst (hs.sub _ _ h))
  | ins c => cases hv with | ins h k => exact .base (.ins (hs.sub _ _ h) c.cl c.ha c.hn c.ht c.hm)
inductive ClD : D → Value → Prop
  | ty (n : String) : ClD (.ty n) (.type n)
  | own (C : Addr) : ClD (.ref C) (.ref C)
theorem rc_isi {tv cv : Value} {k : Bool} (h : TyD K M d tv) (hc : ClD x cv) (e : PySem.W.kitOne K tv cv = some k) (p : P (.bl k) M) : RC K (rIsi K) [d, x] M P := fun vs I F H r hs Q q => by
  obtain ⟨v, u, rfl, rv, ru⟩ := r.two
  have cv' : ClsV u cv := by
    cases hc with
    | ty n => cases ru; exact .ty n
    | own C => cases ru; exact .own C
  exact ⟨v, u, tv, cv, k, rfl, cv', h.get hs rv, e, q _ H (.of hs (.bl _) p)⟩
theorem rc_isiT {tv : Value} {cs : List Addr} {k : Bool} (h : TyD K M d tv) (e : PySem.W.kitAny K tv (cs.map Value.ref) = some k) (p : P (.bl k) M) : RC K (rIsiT K) [d, .tup (cs.map D.ref)] M P := fun vs I F H r hs Q q => by
  obtain ⟨v, u, rfl, rv, ru⟩ := r.two
  cases ru with
  | @tup a vs _ ht hk =>
  have key : ∀ (cs : List Addr) (vs : List V), Iss K I vs (cs.map D.ref) → Paired ClsV vs (cs.map Value.ref) := by
    intro cs
    induction cs with
    | nil => intro vs h; cases h; exact .nil
    | cons c r ih =>
      intro vs h
      cases h with
      | cons h1 h2 => cases h1; exact .cons (.own c) (ih _ h2)
  exact ⟨v, a, vs, tv, _, k, rfl, hs.sub _ _ ht, key cs vs hk, h.get hs rv, e, q _ H (.of hs (.bl _) p)⟩
end
end Kp

set_option maxHeartbeats 4000000
namespace Kp
open PySem PySem.Spec PyProof.Rows L2
section
variable {K : PySem.W.Frag} {I I' I1 I2 F F' H H' : Hp} {M M' m r : Mem} {a p : Addr} {v u : V} {d x y : D} {c : Cell} {vs us : List V} {ds es : List D} {σ : L2.St} {δ : DEnv}
  {P : D → Mem → Prop} {PA' : List D → Mem → Prop} {PT' : Bool → Mem → Prop} {PO' : Option Int → Mem → Prop} {PN' : DEnv → Mem → Prop} {te ta tb tc ty td tx tv : TE} {tA : TA} {t tu : TT} {ts tt1 tt2 : TS} {E : DE} {Dn : Ends} {i j : Int} {b : Bool} {k : Key}
theorem re_dget (h : RE K td δ M fun o M1 => RE K ty δ M1 fun y M2 => ∃ a kd k d, o = .ref a ∧ M2 a = some (.dic kd) ∧ y = kD k ∧ getD kd k = some d ∧ P d M2) : RE K (tDGet td ty) δ M P := fun σ I F H he hs Q q =>
  h.use he hs fun v o I1 M1 H1 e1 s1 r1 p1 => p1.use (he.mono e1) s1 fun u y I2 M2 H2 e2 s2 r2 ⟨a, kd, k, d, eo, ha, ey, hg, p⟩ => by
    subst eo ey
    cases r1
    obtain rfl := r2.key
    obtain ⟨_, _, kv, ho, kk⟩ := s2.cell a _ ha
    obtain ⟨w, hw, rw'⟩ := kk.get hg
    exact ⟨a, w, rfl, .inl ⟨kv, k, .inl ho, rfl, hw.symm⟩, q _ _ ⟨d, I2, M2, e1.trans e2, s2, rw', p⟩⟩
theorem re_din (h : RE K ty δ M fun y M1 => RE K td δ M1 fun o M2 => ∃ a kd k, o = .ref a ∧ M2 a = some (.dic kd) ∧ y = kD k ∧ P (.bl (getD kd k).isSome) M2) : RE K (tDIn ty td) δ M P := fun σ I F H he hs Q q =>
  h.use he hs fun u y I1 M1 H1 e1 s1 r1 p1 => p1.use (he.mono e1) s1 fun v o I2 M2 H2 e2 s2 r2 ⟨a, kd, k, eo, ha, ey, p⟩ => by
    subst eo ey
    cases r2
    obtain rfl := r1.key
    obtain ⟨_, _, kv, ho, kk⟩ := s2.cell a _ ha
    have e : (valV kv k).isSome = (getD kd k).isSome := by
      cases g : getD kd k with
      | none => rw [kk.lack g]; rfl
      | some d => obtain ⟨w, hw, _⟩ := kk.get g; rw [hw]; rfl
    refine ⟨a, valV kv k, rfl, DGet.k ho, ?_⟩
    rw [e]
    exact q _ _ ⟨_, I2, M2, e1.trans e2, s2, .bl _, p⟩
theorem re_dnotin (h : RE K ty δ M fun y M1 => RE K td δ M1 fun o M2 => ∃ a kd k, o = .ref a ∧ M2 a = some (.dic kd) ∧ y = kD k ∧ P (.bl (!(getD kd k).isSome)) M2) : RE K (tDNotIn ty td) δ M P := fun σ I F H he hs Q q =>
  h.use he hs fun u y I1 M1 H1 e1 s1 r1 p1 => p1.use (he.mono e1) s1 fun v o I2 M2 H2 e2 s2 r2 ⟨a, kd, k, eo, ha, ey, p⟩ => by
    subst eo ey
    cases r2
    obtain rfl := r1.key
    obtain ⟨_, _, kv, ho, kk⟩ := s2.cell a _ ha
    have e : (valV kv k).isSome = (getD kd k).isSome := by
      cases g : getD kd k with
      | none => rw [kk.lack g]; rfl
      | some d => obtain ⟨w, hw, _⟩ := kk.get g; rw [hw]; rfl
    refine ⟨a, valV kv k, rfl, DGet.k ho, ?_⟩
    rw [e]
    exact q _ _ ⟨_, I2, M2, e1.trans e2, s2, .bl _, p⟩
/-- d.get(k, x) -/
theorem re_dget2 (h : RE K td δ M fun o M1 => ∃ a, o = .ref a ∧ (∃ kd, M1 a = some (.dic kd)) ∧ RE K ty δ M1 fun y M2 => RE K tx δ M2 fun z M3 => ∃ kd k, M3 a = some (.dic kd) ∧ y = kD k ∧ P ((getD kd k).getD z) M3) : RE K (tDGet2 td ty tx) δ M P := fun σ I F H he hs Q q =>
  h.use he hs fun v o I1 M1 H1 e1 s1 r1 ⟨a, eo, ⟨kd0, h0⟩, p1⟩ => by
    subst eo
    cases r1
    obtain ⟨_, _, kv0, ho0, _⟩ := s1.cell a _ h0
    refine ⟨a, rfl, .inl ⟨kv0, .inl ho0⟩, p1.use (he.mono e1) s1 fun u y I2 M2 H2 e2 s2 r2 p2 => p2.use ((he.mono e1).mono e2) s2 fun w z I3 M3 H3 e3 s3 r3 ⟨kd, k, ha, ey, p⟩ => ?_⟩
    subst ey
    obtain rfl := r2.key
    obtain ⟨_, _, kv, ho, kk⟩ := s3.cell a _ ha
    refine ⟨valV kv k, DGet.k ho, ?_⟩
    cases g : getD kd k with
    | none =>
      rw [kk.lack g]
      rw [g] at p
      exact q _ _ ⟨z, I3, M3, (e1.trans e2).trans e3, s3, r3, p⟩
    | some d =>
      obtain ⟨w', hw, rw'⟩ := kk.get g
      rw [hw]
      rw [g] at p
      exact q _ _ ⟨d, I3, M3, (e1.trans e2).trans e3, s3, rw', p⟩
/-- d.pop(k, x) -/
theorem re_dpop2 (h : RE K td δ M fun o M1 => ∃ a, o = .ref a ∧ (∃ kd, M1 a = some (.dic kd)) ∧ RE K ty δ M1 fun y M2 => RE K tx δ M2 fun z M3 => ∃ kd k, M3 a = some (.dic kd) ∧ y = kD k ∧ (∀ d, getD kd k = some d → P d (mset M3 a (.dic (dropD kd k)))) ∧ (getD kd k = none → P z M3)) : RE K (tDPop2 td ty tx) δ M P := fun σ I F H he hs Q q =>
  h.use he hs fun v o I1 M1 H1 e1 s1 r1 ⟨a, eo, ⟨kd0, h0⟩, p1⟩ => by
    subst eo
    cases r1
    obtain ⟨_, _, kv0, ho0, _⟩ := s1.cell a _ h0
    refine ⟨a, rfl, .inl ⟨kv0, .inl ho0⟩, p1.use (he.mono e1) s1 fun u y I2 M2 H2 e2 s2 r2 p2 => p2.use ((he.mono e1).mono e2) s2 fun w z I3 M3 H3 e3 s3 r3 ⟨kd, k, ha, ey, ps, pn⟩ => ?_⟩
    subst ey
    obtain rfl := r2.key
    obtain ⟨_, _, kv, ho, kk⟩ := s3.cell a _ ha
    refine ⟨kv, k, ho, rfl, ?_⟩
    cases g : getD kd k with
    | none =>
      first
        | (refine ⟨fun v hv => ?_, fun _ => q _ _ ⟨z, I3, M3, (e1.trans e2).trans e3, s3, r3, pn g⟩⟩
           rw [kk.lack g] at hv
           cases hv)
        | (rw [kk.lack g]
           exact q _ _ ⟨z, I3, M3, (e1.trans e2).trans e3, s3, r3, pn g⟩)
    | some d =>
      obtain ⟨w', hw, rw'⟩ := kk.get g
      have fin := q w' _ ⟨d, I3, _, (e1.trans e2).trans e3, s3.write ha (c := .dic (dropD kd k)) ⟨_, upd_same, kk.drop k⟩, rw', ps d g⟩
      first
        | (refine ⟨fun v hv => ?_, fun hv => ?_⟩
           · rw [hw] at hv
             cases hv
             exact fin
           · rw [hw] at hv
             cases hv)
        | (rw [hw]
           exact fin)
/-- d.setdefault(k, x), x a new list's cell or a thing that stands still -/
theorem re_dsetd (h : RE K td δ M fun o M1 => ∃ a, o = .ref a ∧ (∃ kd, M1 a = some (.dic kd)) ∧ RE K ty δ M1 fun y M2 => RE K tx δ M2 fun z M3 => ∃ kd k, M3 a = some (.dic kd) ∧ y = kD k ∧ kd.length < 100000 ∧ (∀ d, getD kd k = some d → P d M3) ∧ (getD kd k = none → P z (mset M3 a (.dic (setD kd k z))))) : RE K (tDSetd td ty tx) δ M P := fun σ I F H he hs Q q =>
  h.use he hs fun v o I1 M1 H1 e1 s1 r1 ⟨a, eo, ⟨kd0, h0⟩, p1⟩ => by
    subst eo
    cases r1
    obtain ⟨_, _, kv0, ho0, _⟩ := s1.cell a _ h0
    refine ⟨a, rfl, .inl ⟨kv0, .inl ho0⟩, p1.use (he.mono e1) s1 fun u y I2 M2 H2 e2 s2 r2 p2 => p2.use ((he.mono e1).mono e2) s2 fun w z I3 M3 H3 e3 s3 r3 ⟨kd, k, ha, ey, hz, ps, pn⟩ => ?_⟩
    subst ey
    obtain rfl := r2.key
    obtain ⟨_, _, kv, ho, kk⟩ := s3.cell a _ ha
    refine ⟨kv, k, ho, rfl, Evl.sz_lt (by rw [kk.length]; exact hz), fun w' hv => ?_, fun hv => ?_⟩
    · cases g : getD kd k with
      | none => rw [kk.lack g] at hv; cases hv
      | some d =>
        obtain ⟨w2, hw, rw'⟩ := kk.get g
        rw [hw] at hv
        cases hv
        exact q _ _ ⟨d, I3, M3, (e1.trans e2).trans e3, s3, rw', ps d g⟩
    · cases g : getD kd k with
      | none => exact q _ _ ⟨z, I3, _, (e1.trans e2).trans e3, s3.write ha (c := .dic (setD kd k z)) ⟨_, upd_same, kk.set k r3⟩, r3, pn g⟩
      | some d =>
        obtain ⟨w2, hw, rw'⟩ := kk.get g
        rw [hw] at hv
        cases hv
/-- d[k] = v -/
theorem rs_dput (h : RE K tv δ M fun d M1 => RE K td δ M1 fun o M2 => RE K ty δ M2 fun y M3 => ∃ a kd k, o = .ref a ∧ M3 a = some (.dic kd) ∧ y = kD k ∧ kd.length < 100000 ∧ E.nx δ (mset M3 a (.dic (setD kd k d)))) : RS K (sDPut td ty tv) δ M E := fun σ I F H he hs Dn l =>
  h.use he hs fun v d I1 M1 H1 e1 s1 r1 p1 => p1.use (he.mono e1) s1 fun w o I2 M2 H2 e2 s2 r2 p2 => p2.use ((he.mono e1).mono e2) s2 fun u y I3 M3 H3 e3 s3 r3 ⟨a, kd, k, eo, ha, ey, hz, p⟩ => by
    subst eo ey
    cases r2
    obtain rfl := r3.key
    obtain ⟨_, _, kv, ho, kk⟩ := s3.cell a _ ha
    exact ⟨a, _, rfl, DPut.k ho (Evl.sz_lt (by rw [kk.length]; exact hz)), l.nx σ _ ⟨δ, I3, _, (e1.trans e2).trans e3, s3.write ha (c := .dic (setD kd k d)) ⟨_, upd_same, kk.set k ((r1.mono e2).mono e3)⟩, ((he.mono e1).mono e2).mono e3, p⟩⟩
/-- d[k] += n, d[k] -= n -/
theorem rs_daug {rd : V → V → Hp → VK → Prop} {g : Int → Int → Int} (hrd : ∀ i j H Q, Q (.int (g i j)) H → rd (.int i) (.int j) H Q)
    (h : RE K td δ M fun o M1 => RE K ty δ M1 fun y M2 => ∃ a kd k i, o = .ref a ∧ M2 a = some (.dic kd) ∧ y = kD k ∧ getD kd k = some (.int i) ∧ RE K tv δ M2 fun z M3 => ∃ j kd', z = .int j ∧ M3 a = some (.dic kd') ∧ kd'.length < 100000 ∧ E.nx δ (mset M3 a (.dic (setD kd' k (.int (g i j)))))) : RS K (sDAug td ty tv rd) δ M E := fun σ I F H he hs Dn l =>
  h.use he hs fun v o I1 M1 H1 e1 s1 r1 p1 => p1.use (he.mono e1) s1 fun u y I2 M2 H2 e2 s2 r2 ⟨a, kd, k, i, eo, ha, ey, hg, p2⟩ => by
    subst eo ey
    cases r1
    obtain rfl := r2.key
    obtain ⟨_, _, kv, ho, kk⟩ := s2.cell a _ ha
    obtain ⟨w, hw, rw'⟩ := kk.get hg
    cases rw'
    refine ⟨a, _, rfl, .inl ⟨kv, k, .inl ho, rfl, hw.symm⟩, p2.use ((he.mono e1).mono e2) s2 fun v3 z I3 M3 H3 e3 s3 r3 ⟨j, kd', ez, ha', hz, p⟩ => ?_⟩
    subst ez
    cases r3
    obtain ⟨_, _, kv', ho', kk'⟩ := s3.cell a _ ha'
    exact hrd _ _ _ _ ⟨_, DPut.k ho' (Evl.sz_lt (by rw [kk'.length]; exact hz)), l.nx σ _ ⟨δ, I3, _, (e1.trans e2).trans e3, s3.write ha' (c := .dic (setD kd' k (.int (g i j)))) ⟨_, upd_same, kk'.set k (.int _)⟩, ((he.mono e1).mono e2).mono e3, p⟩⟩
theorem rdAdd : ∀ i j H Q, Q (.int (i + j)) H → rAdd (.int i) (.int j) H Q := fun i j H Q q => ⟨i, j, rfl, rfl, q⟩
theorem rdSub : ∀ i j H Q, Q (.int (i - j)) H → rSub (.int i) (.int j) H Q := fun i j H Q q => ⟨i, j, rfl, rfl, q⟩
/-- {k: v, ..} -/
def RPs (K : PySem.W.Frag) : List (TE × TE) → DEnv → Mem → (List (D × D) → Mem → Prop) → Prop
  | [], _, M, P => P [] M
  | (tk, tv) :: r, δ, M, P => RE K tk δ M fun x M1 => RE K tv δ M1 fun y M2 => RPs K r δ M2 fun ps M3 => P ((x, y) :: ps) M3
inductive Pss (K : PySem.W.Frag) (I : Hp) : List (V × V) → List (D × D) → Prop
  | nil : Pss K I [] []
  | cons {v u : V} {d e : D} {vs : List (V × V)} {ds : List (D × D)} : Is K I v d → Is K I u e → Pss K I vs ds → Pss K I ((v, u) :: vs) ((d, e) :: ds)
theorem RPs.use : ∀ {trs : List (TE × TE)} {M : Mem} {I H : Hp} {P : List (D × D) → Mem → Prop} {Q : List (V × V) → Hp → Prop}, RPs K trs δ M P → EnvOk K I σ δ → Sta K I F H M →
    (∀ ps qs I' M' H', Same I I' → Sta K I' F H' M' → Pss K I' ps qs → P qs M' → Q ps H') → tPairs trs σ H Q
  | [], M, I, H, P, Q, h, he, hs, k => k [] [] I M H (Same.refl I) hs .nil h
  | (tk, tv) :: r, M, I, H, P, Q, h, he, hs, k => (show RE K tk δ M _ from h).use he hs fun v x I1 M1 H1 e1 s1 r1 p1 => p1.use (he.mono e1) s1 fun u y I2 M2 H2 e2 s2 r2 p2 =>
    RPs.use p2 ((he.mono e1).mono e2) s2 fun ps qs I3 M3 H3 e3 s3 r3 p3 => k _ _ I3 M3 H3 ((e1.trans e2).trans e3) s3 (.cons ((r1.mono e2).mono e3) (r2.mono e3) r3) p3
theorem re_disp {trs : List (TE × TE)} (h : ∀ p, M p = none → RPs K trs δ (mset M p (.dic [])) fun ps M1 => M1 p = some (.dic []) ∧ ∃ kd : List (Key × D), ps = kd.map (fun q => (kD q.1, q.2)) ∧ kd.length ≤ 15 ∧ P (.ref p) (mset M1 p (.dic (mergeD [] kd)))) : RE K (tDisp trs) δ M P := fun σ I F H he hs Q q p hp => by
  have s1 := hs.cellN (o := .dK []) hp (c := .dic []) ⟨[], upd_same, .nil⟩
  refine (h p (hs.free hp).2.2).use he s1 fun ps qs I2 M2 H2 e2 s2 r2 ⟨hp2, kd, eq, hl, z⟩ => ?_
  subst eq
  obtain ⟨_, _, kv0, ho0, k0⟩ := s2.cell p _ hp2
  cases k0
  have key : ∀ (kd : List (Key × D)) (ps : List (V × V)), Pss K I2 ps (kd.map fun q => (kD q.1, q.2)) → ∃ kv : List (Key × V), ps = kv.map (fun kv => (kV kv.1, kv.2)) ∧ Kss K I2 kv kd := by
    intro kd
    induction kd with
    | nil => intro ps h; cases h; exact ⟨[], rfl, .nil⟩
    | cons q r ih =>
      intro ps h
      cases h with
      | cons h1 h2 h3 =>
        obtain ⟨kv, e, kk⟩ := ih _ h3
        obtain rfl := h1.key
        exact ⟨(q.1, _) :: kv, by rw [e]; rfl, .cons h2 kk⟩
  obtain ⟨kv, rfl, kk⟩ := key kd ps r2
  refine ⟨ho0, kv, rfl, by rw [kk.length]; exact hl, q _ _ ⟨.ref p, I2, _, e2, s2.write hp2 (c := .dic (mergeD [] kd)) ⟨_, upd_same, Kss.merge .nil kk⟩, .ref p, z⟩⟩

theorem re_append (h : RE K ta δ M fun o M1 => ∃ a, o = .ref a ∧ (∃ ds, M1 a = some (.lst ds)) ∧ RE K te δ M1 fun d M2 => ∃ ds, M2 a = some (.lst ds) ∧ ds.length < 100000 ∧ P .non (mset M2 a (.lst (ds ++ [d])))) : RE K (tBM K "list" rAppend ta (tCons te tNil)) δ M P := fun σ I F H he hs Q q =>
  h.use he hs fun v o I1 M1 H1 e1 s1 r1 ⟨a, eo, ⟨ds0, h0⟩, p1⟩ => by
    subst eo
    cases r1
    obtain ⟨_, _, ws, ho, _⟩ := s1.cell a _ h0
    refine ⟨.inl ⟨rfl, ws, SqL.of ho⟩, p1.use (he.mono e1) s1 fun u d I2 M2 H2 e2 s2 r2 ⟨ds, ha, hz, p⟩ => ?_⟩
    obtain ⟨_, _, xs, hx, kk⟩ := s2.cell a _ ha
    exact ⟨a, xs, u, rfl, rfl, hx, Evl.sz_lt (by rw [kk.length]; exact hz), q _ _ ⟨.non, I2, _, e1.trans e2, s2.write ha (c := .lst (ds ++ [d])) ⟨_, upd_same, kk.append (.cons r2 .nil)⟩, .non, p⟩⟩
/-- xs.pop(0) -/
theorem re_pop0 (h : RE K ta δ M fun o M1 => ∃ a d ds, o = .ref a ∧ M1 a = some (.lst (d :: ds)) ∧ P d (mset M1 a (.lst ds))) : RE K (tBM K "list" rPopAt ta (tCons (tC (.int 0)) tNil)) δ M P := fun σ I F H he hs Q q =>
  h.use he hs fun v o I1 M1 H1 e1 s1 r1 ⟨a, d, ds, eo, h0, p⟩ => by
    subst eo
    cases r1
    obtain ⟨_, _, ws, ho, kk⟩ := s1.cell a _ h0
    cases kk with
    | @cons w _ ws' _ k1 k2 =>
    exact ⟨.inl ⟨rfl, _, SqL.of ho⟩, a, w :: ws', 0, 0, w, rfl, rfl, ho, by decide, by decide, by simp [seqIndex?], rfl, q _ _ ⟨d, I1, _, e1, s1.write h0 (c := .lst ds) ⟨_, upd_same, k2⟩, k1, p⟩⟩
theorem re_strip (h : RE K ta δ M fun o M1 => ∃ s : Str, o = .str s ∧ s.length ≤ 100000 ∧ RE K te δ M1 fun y M2 => ∃ z : Str, y = .str z ∧ P (.str (Txt.stripChars s z)) M2) : RE K (tBM K "str" (fun x xs H Q => ∃ a b, x = .str a ∧ xs = [.str b] ∧ a.length ≤ sizeLine ∧ Q (.str (Txt.stripChars a b)) H) ta (tCons te tNil)) δ M P := fun σ I F H he hs Q q =>
  h.use he hs fun v o I1 M1 H1 e1 s1 r1 ⟨s, eo, hz, p1⟩ => by
    subst eo
    cases r1
    refine ⟨rfl, p1.use (he.mono e1) s1 fun u y I2 M2 H2 e2 s2 r2 ⟨z, ey, p⟩ => ?_⟩
    subst ey
    cases r2
    exact ⟨s, z, rfl, rfl, Evl.sz_of hz, q _ _ ⟨_, I2, M2, e1.trans e2, s2, .str _, p⟩⟩
theorem re_join (h : RE K ta δ M fun o M1 => ∃ s : Str, o = .str s ∧ RE K te δ M1 fun y M2 => ∃ ys : List Str, LstD M2 y (ys.map D.str) ∧ (ys.map (·.length)).sum + ys.length * s.length ≤ 16777216 ∧ P (.str (Txt.join s ys)) M2) :
    RE K (tM1 (fun x xs H Q => ∃ a p, ∃ ys : List Str, x = .str a ∧ xs = [.ref p] ∧ (SqL K H p (ys.map V.str) ∨ SqT K H p (ys.map V.str)) ∧ (ys.map (·.length)).sum + ys.length * a.length ≤ 16777216 ∧ Q (.str (Txt.join a ys)) H) ta te) δ M P := fun σ I F H he hs Q q =>
  h.use he hs fun v o I1 M1 H1 e1 s1 r1 ⟨s, eo, p1⟩ => by
    subst eo
    cases r1
    refine ⟨⟨s, rfl⟩, p1.use (he.mono e1) s1 fun u y I2 M2 H2 e2 s2 r2 ⟨ys, hl, hz, p⟩ => ?_⟩
    obtain ⟨a, ws, rfl, hq, kk⟩ := hl.get s2 r2
    rw [kk.strs] at hq
    exact ⟨s, a, ys, rfl, rfl, .inl hq, hz, q _ _ ⟨_, I2, M2, e1.trans e2, s2, .str _, p⟩⟩
theorem inV_strs (s : Str) : ∀ ys : List Str, inV (.str s) (ys.map V.str) = decide (s ∈ ys)
  | [] => by simp [inV]
  | z :: r => by
    have ih := inV_strs s r
    unfold inV at ih ⊢
    rw [List.map_cons, List.any_cons, ih]
    show ((z == s) || decide (s ∈ r)) = _
    by_cases e : z = s
    · subst e
      simp
    · have e' : ¬ s = z := fun w => e w.symm
      have : (z == s) = false := beq_eq_false_iff_ne.mpr e
      rw [this]
      simp [e']
theorem flat_strs : ∀ ys : List Str, (ys.map V.str).all flatV = true
  | [] => rfl
  | z :: r => by
    rw [List.map_cons, List.all_cons, flat_strs r]
    rfl
theorem rr_in {neg : Bool} {s : Str} {ys : List Str} (hy : LstD M y (ys.map D.str) ∨ TupD y (ys.map D.str)) (p : P (.bl (if neg then !decide (s ∈ ys) else decide (s ∈ ys))) M) : RR K (rIn K neg) (.str s) y M P := fun v u I F H hx hu hs Q q => by
  cases hx
  rcases hy with hy | hy
  · obtain ⟨a, ws, rfl, hq, kk⟩ := hy.get hs hu
    rw [kk.strs] at hq
    refine ⟨a, _, rfl, .inl hq, rfl, flat_strs ys, ?_⟩
    rw [inV_strs]
    exact q _ H (.of hs (.bl _) p)
  · obtain ⟨a, ws, rfl, hq, kk⟩ := hy.get hs hu
    rw [kk.strs] at hq
    refine ⟨a, _, rfl, .inr hq, rfl, flat_strs ys, ?_⟩
    rw [inV_strs]
    exact q _ H (.of hs (.bl _) p)
mutual
def toPy : D → PyData
  | .non => .none
  | .bl b => .bool b
  | .int i => .int i
  | .str s => .str s
  | .tup ds => .tuple (toPys ds)
  | .lst ds => .list (toPys ds)
  | _ => .none
def toPys : List D → List PyData
  | [] => []
  | d :: r => toPy d :: toPys r
end
mutual
def datB : D → Bool
  | .non => true
  | .bl _ => true
  | .int _ => true
  | .str _ => true
  | .tup ds => datBs ds
  | .lst ds => datBs ds
  | _ => false
def datBs : List D → Bool
  | [] => true
  | d :: r => datB d && datBs r
end
mutual
theorem Is.dp (e : Same I H) : ∀ (d : D) {v : V}, Is K I v d → datB d = true → Dp K H v (toPy d)
  | .non, _, h, _ => by cases h; exact .non
  | .bl b, _, h, _ => by cases h; exact .bl b
  | .int i, _, h, _ => by cases h; exact .int i
  | .str s, _, h, _ => by cases h; exact .str s
  | .tup ds, _, h, z => by
    cases h with
    | tup h k => exact .tup (SqT.of (e _ _ h)) (Iss.dp e ds k z)
  | .lst ds, _, h, z => by
    cases h with
    | lst h k => exact .lst (SqL.of (e _ _ h)) (Iss.dp e ds k z)
  | .ty _, _, _, z => by cases z
  | .rot _, _, _, z => by cases z
  | .rol _, _, _, z => by cases z
  | .ins _ _, _, _, z => by cases z
  | .ref _, _, _, z => by cases z
theorem Iss.dp (e : Same I H) : ∀ (ds : List D) {vs : List V}, Iss K I vs ds → datBs ds = true → DpAll K H vs (toPys ds)
  | [], _, h, _ => by cases h; exact .nil
  | d :: r, _, h, z => by
    cases h with
    | cons h k =>
      obtain ⟨z1, z2⟩ := Bool.and_eq_true_iff.mp (show (datB d && datBs r) = true from z)
      exact .cons (Is.dp e d h z1) (Iss.dp e r k z2)
end
theorem rr_eqD (hx : datB x = true) (hy : datB y = true) (sx : SeqAt.shaped (toPy x) = true) (sy : SeqAt.shaped (toPy y) = true) (p : P (.bl (PyData.eqv (toPy x) (toPy y))) M) : RR K (rEqD K) x y M P := fun v u I F H hv hu hs Q q =>
  ⟨_, _, Is.dp hs.sub _ hv hx, Is.dp hs.sub _ hu hy, sx, sy, q _ H (.of hs (.bl _) p)⟩
theorem rr_neD (hx : datB x = true) (hy : datB y = true) (sx : SeqAt.shaped (toPy x) = true) (sy : SeqAt.shaped (toPy y) = true) (p : P (.bl (!PyData.eqv (toPy x) (toPy y))) M) : RR K (rNeD K) x y M P := fun v u I F H hv hu hs Q q =>
  ⟨_, _, Is.dp hs.sub _ hv hx, Is.dp hs.sub _ hu hy, sx, sy, q _ H (.of hs (.bl _) p)⟩
def rEqE (K : PySem.W.Frag) (neg : Bool) : R2 := fun x y H Q => ∃ a b xs, x = .ref a ∧ y = .ref b ∧ SqL K H a xs ∧ SqL K H b [] ∧ Q (.bl (if neg then !xs.isEmpty else xs.isEmpty)) H
theorem rr_eqE {neg : Bool} (hx : LstD M x ds) (hy : LstD M y []) (p : P (.bl (if neg then !ds.isEmpty else ds.isEmpty)) M) : RR K (rEqE K neg) x y M P := fun v u I F H hv hu hs Q q => by
  obtain ⟨a, ws, rfl, h1, k1⟩ := hx.get hs hv
  obtain ⟨b, ws2, rfl, h2, k2⟩ := hy.get hs hu
  cases k2
  refine ⟨a, b, ws, rfl, rfl, h1, h2, ?_⟩
  have e : ws.isEmpty = ds.isEmpty := by cases k1 <;> rfl
  rw [e]
  exact q _ H (.of hs (.bl _) p)
end
section
variable {X : Cx}
theorem op_eqE (hu : X.A.units + 64 < cLine) : OpR X (compareOp .Eq) (rEqE X.K false) := by
  rintro pins s σ H x y v u Q I rx ry ⟨a, b, xs, rfl, rfl, ha, hb, q⟩
  cases rx; cases ry
  obtain ⟨its, rv, hl, _⟩ := I.list ha
  obtain ⟨its2, rv2, hl2, _⟩ := I.list hb
  cases rv2
  cases rv with
  | nil => exact SeqAt.eq_listAt (e := fun _ => true) hl.isList hl2.isList rfl (by omega) (fun j h1 _ => absurd h1 (by simp)) ⟨.bl true, H, I, rfl, q⟩
  | cons r t => exact SeqAt.eq_list_lengthsAt hl.isList hl2.isList (by simp) (by omega) ⟨.bl false, H, I, rfl, q⟩
theorem op_neE (hu : X.A.units + 64 < cLine) : OpR X (compareOp .NotEq) (rEqE X.K true) := by
  rintro pins s σ H x y v u Q I rx ry ⟨a, b, xs, rfl, rfl, ha, hb, q⟩
  cases rx; cases ry
  obtain ⟨its, rv, hl, _⟩ := I.list ha
  obtain ⟨its2, rv2, hl2, _⟩ := I.list hb
  cases rv2
  cases rv with
  | nil => exact SeqAt.RcNeAt.lists (e := fun _ => true) hl.isList hl2.isList rfl (by omega) (fun j h1 _ => absurd h1 (by simp)) _ _ _ _ ⟨.bl false, H, I, rfl, q⟩
  | cons r t => exact SeqAt.RcNeAt.lists_lengths hl.isList hl2.isList (by simp) (by omega) _ _ _ _ ⟨.bl true, H, I, rfl, q⟩
/-- xs[i], read for xs[i] op= e -/
def gIxL (K : PySem.W.Frag) : V → V → Hp → VK → Prop := fun x y H Q => ∃ p xs, ∃ j : Nat, ∃ v, x = .ref p ∧ y = .int (j : Int) ∧ SqL K H p xs ∧ xs[j]? = some v ∧ Q v H
theorem get_list : PGet X (gIxL X.K) := by
  rintro pins s σ H o i ov iv Q I ro ri ⟨p, xs, j, v, rfl, rfl, hq, hj, q⟩
  cases ro
  obtain ⟨t, rfl⟩ := ri
  obtain ⟨its, r, pl, hz⟩ := I.list hq
  obtain ⟨w, ew, rw'⟩ := r.get hj
  have hl := r.length
  have hn := line63
  have hlt : j < its.length := (List.getElem?_eq_some_iff.mp ew).1
  refine getItem_listL pl.isList (by omega) (by omega) (x := w) ?_ ⟨v, H, I, rw', q⟩
  simpa using ew
end
section
variable {K : PySem.W.Frag} {I I' I1 I2 F F' H H' : Hp} {M M' m r : Mem} {a p : Addr} {v u : V} {d x y : D} {ds es : List D} {σ : L2.St} {δ : DEnv} {te ta tb : TE} {E : DE} {Dn : Ends}
/-- xs[k] += n -/
theorem rs_laug {f : Int → Int → Int} (h : RE K ta δ M fun o M1 => RE K tb δ M1 fun ix M2 => ∃ p ds, ∃ k : Nat, ∃ i : Int, o = .ref p ∧ ix = .int (k : Int) ∧ M2 p = some (.lst ds) ∧ ds[k]? = some (.int i) ∧ RE K te δ M2 fun z M3 => ∃ j ds', z = .int j ∧ M3 p = some (.lst ds') ∧ k < ds'.length ∧ E.nx δ (mset M3 p (.lst (ds'.set k (.int (f i j)))))) :
    RS K (tAugS ta tb te (gIxL K) (ipI f) rSetL) δ M E := fun σ I F H he hs Dn l =>
  h.use he hs fun v o I1 M1 H1 e1 s1 r1 p1 => p1.use (he.mono e1) s1 fun u ix I2 M2 H2 e2 s2 r2 ⟨p, ds, k, i, eo, ei, hp, hk, p2⟩ => by
    subst eo ei
    cases r1; cases r2
    obtain ⟨_, _, ws, ho, kk⟩ := s2.cell p _ hp
    obtain ⟨w, hw, rw'⟩ := kk.get hk
    cases rw'
    refine ⟨p, ws, k, _, rfl, rfl, SqL.of ho, hw, p2.use ((he.mono e1).mono e2) s2 fun v3 z I3 M3 H3 e3 s3 r3 ⟨j, ds', ez, hp', hk', z⟩ => ?_⟩
    subst ez
    cases r3
    obtain ⟨_, _, ws', ho', kk'⟩ := s3.cell p _ hp'
    refine ⟨i, j, rfl, rfl, p, ws', k, k, rfl, rfl, ho', Evl.ixN_nat (by rw [kk'.length]; exact hk'), ?_⟩
    exact l.nx σ _ ⟨δ, I3, _, (e1.trans e2).trans e3, s3.write hp' (c := .lst (ds'.set k (.int (f i j)))) ⟨_, upd_same, kk'.set k (.int _)⟩, ((he.mono e1).mono e2).mono e3, z⟩
end
end Kp

set_option maxHeartbeats 4000000
namespace Kp
open PySem PySem.Spec PyProof.Rows L2
section
variable {K : PySem.W.Frag} {I I' I1 I2 F F' H H' : Hp} {M M' m r : Mem} {a p : Addr} {v u : V} {d x y : D} {c : Cell} {vs us : List V} {ds es : List D} {σ : L2.St} {δ : DEnv}
  {P : D → Mem → Prop} {PA' : List D → Mem → Prop} {PT' : Bool → Mem → Prop} {PO' : Option Int → Mem → Prop} {PN' : DEnv → Mem → Prop} {te ta tb tc ty td tx tv tl : TE} {tA : TA} {t tu : TT} {ts tt1 tt2 : TS} {E : DE} {Dn : Ends} {i j : Int} {b : Bool} {k : Key} {g : TG}
/-- a list that stands still -/
def LstI (d : D) (ds : List D) : Prop := d = .lst ds ∨ d = .rol ds
theorem LstI.get (h : LstI d ds) (hv : Is K I v d) : ∃ a vs, v = .ref a ∧ SqL K I a vs ∧ Iss K I vs ds := by
  rcases h with rfl | rfl
  · cases hv with
    | lst h k => exact ⟨_, _, rfl, SqL.of h, k⟩
  · cases hv with
    | rol h k => exact ⟨_, _, rfl, h, k⟩
theorem split_at {α : Type} {l : List α} {i : Nat} {x : α} (h : l[i]? = some x) : l = l.take i ++ x :: l.drop (i + 1) ∧ l.take (i + 1) = l.take i ++ [x] := by
  obtain ⟨hi, e⟩ := List.getElem?_eq_some_iff.mp h
  refine ⟨?_, by rw [List.take_succ, h]; rfl⟩
  rw [← e, ← List.drop_eq_getElem_cons hi, List.take_append_drop]
/-- for over a list, by what stands behind each part of it -/
theorem rs_for {X : Type} (enc : X → D) (xs : List X) (Inv : List X → DEnv → Mem → Prop) (h : RE K tl δ M fun d M1 => LstI d (xs.map enc) ∧ Inv [] δ M1)
    (hs : ∀ pre x post δ' M', xs = pre ++ x :: post → Inv pre δ' M' → RG K g (enc x) δ' M' fun δ2 M2 => RS K ts δ2 M2 { nx := Inv (pre ++ [x]), ct := Inv (pre ++ [x]), bk := E.nx, rt := E.rt })
    (hd : ∀ δ' M', Inv xs δ' M' → E.nx δ' M') : RS K (tFor (iList K tl) g ts) δ M E := fun σ I F H he hs' Dn l =>
  h.use he hs' fun v d I1 M1 H1 e1 s1 r1 ⟨hl, h0⟩ => by
    obtain ⟨a, vs, rfl, hq, kk⟩ := hl.get r1
    have len : vs.length = xs.length := by rw [kk.length, List.length_map]
    refine ⟨a, rfl, ⟨vs, sameL s1.sub hq⟩, for_list (fun i => LiftN K I1 F (Inv (xs.take i))) ⟨δ, I1, M1, Same.refl I1, s1, he.mono e1, by rw [List.take_zero]; exact h0⟩ (fun i σ' H' _ ⟨δ', I', M', e', s', _, _⟩ => sameL (e'.trans s'.sub) hq) ?_ ?_⟩
    · rintro i w σ' H' hi ⟨δ', I', M', e', s', he', z⟩
      have hi2 : i < xs.length := by rw [← len]; exact (List.getElem?_eq_some_iff.mp hi).1
      obtain ⟨q1, q2⟩ := split_at (List.getElem?_eq_getElem hi2)
      have hw : Is K I' w (enc xs[i]) := by
        obtain ⟨w2, hw2, r2⟩ := kk.get (i := i) (d := enc xs[i]) (by rw [List.getElem?_map, List.getElem?_eq_getElem hi2]; rfl)
        rw [hi] at hw2
        cases hw2
        exact r2.mono e'
      refine hs _ _ _ δ' M' q1 z w σ' I' F H' hw he' s' _ fun σ2 H2 ⟨δ2, I2, M2, e2, s2, he2, z2⟩ => z2 σ2 I2 F H2 he2 s2 _ ?_
      have up : Same I1 I2 := e'.trans e2
      refine ⟨fun σ3 H3 z3 => ?_, fun v3 H3 z3 => l.rt _ _ (z3.up (e1.trans up)), fun σ3 H3 z3 => l.nx _ _ (z3.up (e1.trans up)), fun σ3 H3 z3 => ?_⟩
      · have z4 := z3.up up
        rw [← q2] at z4
        exact z4
      · have z4 := z3.up up
        rw [← q2] at z4
        exact z4
    · rintro σ' H' ⟨δ', I', M', e', s', he', z⟩
      rw [len, List.take_length] at z
      exact l.nx σ' H' ⟨δ', I', M', e1.trans e', s', he', hd δ' M' z⟩
/-- for over range(n), range(lo, hi) -/
theorem rs_forR1 (n : Nat) (Inv : Nat → DEnv → Mem → Prop) (h : RA K tA δ M fun ds M1 => ds = [.int (n : Int)] ∧ n ≤ 100000 ∧ Inv 0 δ M1)
    (hs : ∀ k δ' M', k < n → Inv k δ' M' → RG K g (.int (k : Int)) δ' M' fun δ2 M2 => RS K ts δ2 M2 { nx := Inv (k + 1), ct := Inv (k + 1), bk := E.nx, rt := E.rt })
    (hd : ∀ δ' M', Inv n δ' M' → E.nx δ' M') : RS K (tFor (iRng1 tA) g ts) δ M E := fun σ I F H he hs' Dn l =>
  h.use he hs' fun vs ds I1 M1 H1 e1 s1 r1 ⟨eds, hn, h0⟩ => by
    subst eds
    obtain ⟨v, rfl, rv⟩ := r1.one
    cases rv
    refine ⟨(n : Int), rfl, by omega, by omega, for_range (lo := 0) (n := ((n : Int)).toNat) (fun i => LiftN K I1 F (Inv i)) ⟨δ, I1, M1, Same.refl I1, s1, he.mono e1, h0⟩ ?_ ?_⟩
    · rintro i σ' H' hi ⟨δ', I', M', e', s', he', z⟩
      have hi2 : i < n := by omega
      have e0 : (0 : Int) + (i : Int) = (i : Int) := Int.zero_add _
      rw [e0]
      refine hs i δ' M' hi2 z _ σ' I' F H' (.int _) he' s' _ fun σ2 H2 ⟨δ2, I2, M2, e2, s2, he2, z2⟩ => z2 σ2 I2 F H2 he2 s2 _ ?_
      have up : Same I1 I2 := e'.trans e2
      exact ⟨fun σ3 H3 z3 => z3.up up, fun v3 H3 z3 => l.rt _ _ (z3.up (e1.trans up)), fun σ3 H3 z3 => l.nx _ _ (z3.up (e1.trans up)), fun σ3 H3 z3 => z3.up up⟩
    · rintro σ' H' ⟨δ', I', M', e', s', he', z⟩
      have e0 : ((n : Int)).toNat = n := by omega
      rw [e0] at z
      exact l.nx σ' H' ⟨δ', I', M', e1.trans e', s', he', hd δ' M' z⟩
theorem rs_forR2 (lo : Int) (n : Nat) (Inv : Nat → DEnv → Mem → Prop) (h : RA K tA δ M fun ds M1 => ds = [.int lo, .int (lo + n)] ∧ n ≤ 100000 ∧ -100000 ≤ lo ∧ lo ≤ 100000 ∧ Inv 0 δ M1)
    (hs : ∀ k δ' M', k < n → Inv k δ' M' → RG K g (.int (lo + (k : Int))) δ' M' fun δ2 M2 => RS K ts δ2 M2 { nx := Inv (k + 1), ct := Inv (k + 1), bk := E.nx, rt := E.rt })
    (hd : ∀ δ' M', Inv n δ' M' → E.nx δ' M') : RS K (tFor (iRng2 tA) g ts) δ M E := fun σ I F H he hs' Dn l =>
  h.use he hs' fun vs ds I1 M1 H1 e1 s1 r1 ⟨eds, hn, hl1, hl2, h0⟩ => by
    subst eds
    obtain ⟨v, u, rfl, rv, ru⟩ := r1.two
    cases rv; cases ru
    have e0 : (lo + (n : Int) - lo).toNat = n := by omega
    refine ⟨lo, lo + n, rfl, ⟨by omega, by omega, by omega, by omega⟩, ?_⟩
    rw [e0]
    refine for_range (lo := lo) (n := n) (fun i => LiftN K I1 F (Inv i)) ⟨δ, I1, M1, Same.refl I1, s1, he.mono e1, h0⟩ ?_ ?_
    · rintro i σ' H' hi ⟨δ', I', M', e', s', he', z⟩
      refine hs i δ' M' hi z _ σ' I' F H' (.int _) he' s' _ fun σ2 H2 ⟨δ2, I2, M2, e2, s2, he2, z2⟩ => z2 σ2 I2 F H2 he2 s2 _ ?_
      have up : Same I1 I2 := e'.trans e2
      exact ⟨fun σ3 H3 z3 => z3.up up, fun v3 H3 z3 => l.rt _ _ (z3.up (e1.trans up)), fun σ3 H3 z3 => l.nx _ _ (z3.up (e1.trans up)), fun σ3 H3 z3 => z3.up up⟩
    · rintro σ' H' ⟨δ', I', M', e', s', he', z⟩
      exact l.nx σ' H' ⟨δ', I', M', e1.trans e', s', he', hd δ' M' z⟩
/-- while, by a word with a measure -/
theorem rs_while (Inv : Nat → DEnv → Mem → Prop) (n : Nat) (h0 : Inv n δ M)
    (hs : ∀ n δ' M', Inv n δ' M' → RT K t δ' M' fun b M2 => (b = true → RS K ts δ' M2 { nx := fun δ3 M3 => ∃ n', n' < n ∧ Inv n' δ3 M3, ct := fun δ3 M3 => ∃ n', n' < n ∧ Inv n' δ3 M3, bk := E.nx, rt := E.rt }) ∧ (b = false → E.nx δ' M2)) : RS K (tWhile t ts) δ M E := fun σ I F H he hs' Dn l => by
  refine ⟨fun n => LiftN K I F (Inv n), ⟨n, δ, I, M, Same.refl I, hs', he, h0⟩, ?_⟩
  rintro n σ' H' ⟨δ', I', M', e', s', he', z⟩
  refine (hs n δ' M' z).use he' s' fun b I2 M2 H2 e2 s2 ⟨z1, z0⟩ => ?_
  have up : Same I I2 := e'.trans e2
  cases b with
  | true =>
    rw [if_pos rfl]
    refine ⟨fun σ3 H3 => ∃ n', n' < n ∧ LiftN K I F (Inv n') σ3 H3, fun _ _ q => q, (z1 rfl) σ' I2 F H2 (he'.mono e2) s2 _ ⟨?_, fun v3 H3 z3 => l.rt _ _ (z3.up up), fun σ3 H3 z3 => l.nx _ _ (z3.up up), ?_⟩⟩
    · rintro σ3 H3 ⟨δ3, I3, M3, e3, s3, he3, n', hn, z3⟩
      exact ⟨n', hn, δ3, I3, M3, up.trans e3, s3, he3, z3⟩
    · rintro σ3 H3 ⟨δ3, I3, M3, e3, s3, he3, n', hn, z3⟩
      exact ⟨n', hn, δ3, I3, M3, up.trans e3, s3, he3, z3⟩
  | false =>
    rw [if_neg Bool.false_ne_true]
    exact l.nx σ' H2 ⟨δ', I2, M2, up, s2, he'.mono e2, z0 rfl⟩

/-- a target within a comprehension: only the slots ws change -/
def RGc (K : PySem.W.Frag) (ws : List Nat) (g : TG) (d : D) (δ : DEnv) (M : Mem) (P : DEnv → Mem → Prop) : Prop :=
  ∀ (v : V) (σ : L2.St) (I F H : Hp), Is K I v d → EnvOk K I σ δ → Sta K I F H M → ∀ Q : L2.St → Hp → Prop, (∀ σ' H', wipe σ' ws = wipe σ ws → LiftN K I F P σ' H' → Q σ' H') → g v σ H Q
theorem wipe_get (σ : L2.St) : ∀ (ws : List Nat) (i : Nat), (wipe σ ws)[i]? = if i ∈ ws then (σ[i]?).map (fun _ => none) else σ[i]?
  | [], i => by simp [wipe]
  | w :: ws, i => by
    unfold wipe
    by_cases e : w = i
    · subst e
      rw [List.getElem?_set]
      simp only [if_true, List.mem_cons, true_or, wipe_length]
      cases q : σ[w]? with
      | none =>
        have := List.getElem?_eq_none_iff.mp q
        rw [if_neg (by omega)]
        rfl
      | some z =>
        have := (List.getElem?_eq_some_iff.mp q).1
        rw [if_pos this]
        rfl
    · rw [List.getElem?_set_ne e, wipe_get σ ws i]
      have : (i ∈ w :: ws) ↔ i ∈ ws := by
        simp only [List.mem_cons]
        exact ⟨fun h => h.elim (fun z => absurd z.symm e) id, .inr⟩
      simp only [this]
theorem wipe_set {σ : L2.St} {ws : List Nat} {i : Nat} {z : Option V} (h : i ∈ ws) : wipe (σ.set i z) ws = wipe σ ws := by
  apply List.ext_getElem?
  intro k
  rw [wipe_get, wipe_get]
  by_cases e : i = k
  · subst e
    rw [if_pos h, if_pos h, List.getElem?_set]
    simp only [if_true]
    cases q : σ[i]? with
    | none =>
      have := List.getElem?_eq_none_iff.mp q
      rw [if_neg (by omega)]
    | some y =>
      have := (List.getElem?_eq_some_iff.mp q).1
      rw [if_pos this]
      rfl
  · rw [List.getElem?_set_ne e]
theorem wipe_wipe (σ : L2.St) (ws : List Nat) : wipe (wipe σ ws) ws = wipe σ ws := by
  apply List.ext_getElem?
  intro k
  rw [wipe_get, wipe_get]
  by_cases e : k ∈ ws
  · rw [if_pos e, if_pos e]
    cases σ[k]? <;> rfl
  · rw [if_neg e, if_neg e]
theorem rgc_name {ws : List Nat} {i : Nat} (h : i ∈ ws) (p : PN' (δ.set i (some d)) M) : RGc K ws (gName i) d δ M PN' := fun v σ I F H hv he hs Q q => q _ H (wipe_set h) ⟨_, I, M, Same.refl I, hs, he.set hv, p⟩
theorem rgc_pair {ws : List Nat} {i j : Nat} {e : D} (h : i ∈ ws) (h' : j ∈ ws) (ht : TupD x [d, e]) (p : PN' ((δ.set i (some d)).set j (some e)) M) : RGc K ws (gTup K 2 (gCons (gName i) (gCons (gName j) gNil))) x δ M PN' := fun v σ I F H hv he hs Q q => by
  obtain ⟨a, vs, rfl, hq, kk⟩ := ht.get hs hv
  obtain ⟨w1, w2, rfl, r1, r2⟩ := kk.two
  exact ⟨a, _, rfl, hq, rfl, w1, _, rfl, w2, _, rfl, rfl, q _ H (by rw [wipe_set h', wipe_set h]) ⟨_, I, M, Same.refl I, hs, (he.set r1).set r2, p⟩⟩
/-- what stands between two turns: the new list at p holds what was made -/
def Mid (K : PySem.W.Frag) (I1 F : Hp) (p : Addr) (n : Nat) (Inv : List D → Mem → Prop) (H' : Hp) : Prop :=
  ∃ I' M' acc av, Same I1 I' ∧ Sta K I' (upd F p (.lst av)) H' M' ∧ F p = none ∧ Iss K I' av acc ∧ acc.length ≤ n ∧ Inv acc M'
/-- one turn -/
theorem mid_turn {ws : List Nat} {n : Nat} {Inv Inv2 : List D → Mem → Prop} {w : V} (hn : n < 100000) (he : EnvOk K I1 σ δ) (m : Mid K I1 F p n Inv H) (hw : ∀ I', Same I1 I' → Is K I' w d)
    (hs : ∀ acc M', Inv acc M' → RGc K ws g d (wipeD δ ws) M' fun δ2 M2 => RT K t δ2 M2 fun b M3 => (b = true → RE K te δ2 M3 fun y M4 => Inv2 (acc ++ [y]) M4) ∧ (b = false → Inv2 acc M3)) :
    g w (wipe σ ws) H fun σ2 H2 => wipe σ2 ws = wipe σ ws ∧ t σ2 H2 fun b H3 => if b = true then te σ2 H3 fun y H4 => ∃ acc, H4 p = some (.lst acc) ∧ acc.length < sizeLine ∧ Mid K I1 F p (n + 1) Inv2 (upd H4 p (.lst (acc ++ [y]))) else Mid K I1 F p (n + 1) Inv2 H3 := by
  obtain ⟨I', M', acc, av, e', s', fp, ka, la, z⟩ := m
  refine hs acc M' z w _ I' _ H (hw I' e') ((he.mono e').wipe ws) s' _ fun σ2 H2 ew ⟨δ2, I2, M2, e2, s2, he2, z2⟩ => ⟨by rw [ew, wipe_wipe], z2.use he2 s2 fun b I3 M3 H3 e3 s3 ⟨z1, z0⟩ => ?_⟩
  cases b with
  | true =>
    rw [if_pos rfl]
    refine (z1 rfl).use (he2.mono e3) s3 fun v y I4 M4 H4 e4 s4 r4 z4 => ?_
    have hp : H4 p = some (.lst av) := s4.frm _ _ upd_same
    have ip : I4 p = none := s4.dis _ _ upd_same
    have k4 : Iss K I4 av acc := ((ka.mono e2).mono e3).mono e4
    refine ⟨av, hp, Evl.sz_lt (by rw [ka.length]; omega), I4, M4, acc ++ [y], av ++ [v], ((e'.trans e2).trans e3).trans e4, ?_, fp, k4.append (.cons r4 .nil), by rw [List.length_append]; simp; omega, z4⟩
    have mp : ∀ c, M4 p ≠ some c := fun c q => by
      have := (s4.cell p c q).2.1
      rw [upd_same] at this
      cases this
    have fF : NoX (upd F p (.lst (av ++ [v]))) := fun b o e => by
      by_cases eb : b = p
      · rw [eb, upd_same] at e
        rw [← Option.some.inj e]
        exact okF_lst
      · rw [upd_ne eb] at e
        exact s4.ntF b o (by rw [upd_ne eb]; exact e)
    refine ⟨same_upd s4.sub ip, fun b o q => ?_, fun b o q => ?_, fun b c q => ?_, s4.tab.up (Same.refl _) (upd_ne (s4.tab.ne hp fun _ z => by cases z).symm), s4.ntI, fF⟩
    · by_cases eb : b = p
      · subst eb
        rw [upd_same] at q ⊢
        exact q
      · rw [upd_ne eb] at q ⊢
        exact s4.frm b o (by rw [upd_ne eb]; exact q)
    · by_cases eb : b = p
      · rw [eb]; exact ip
      · rw [upd_ne eb] at q
        exact s4.dis b o (by rw [upd_ne eb]; exact q)
    · have eb : b ≠ p := fun w => mp c (by rw [← w]; exact q)
      obtain ⟨a1, a2, a3⟩ := s4.cell b c q
      rw [upd_ne eb] at a2
      exact ⟨a1, by rw [upd_ne eb]; exact a2, a3.at (upd_ne eb)⟩
  | false =>
    rw [if_neg Bool.false_ne_true]
    exact ⟨I3, M3, acc, av, (e'.trans e2).trans e3, s3, fp, (ka.mono e2).mono e3, by omega, z0 rfl⟩
theorem mid_start {Inv : List D → Mem → Prop} (s : Sta K I1 F H M) (hp : H p = none) (h : Inv [] M) : Mid K I1 F p 0 Inv (upd H p (.lst [])) := by
  obtain ⟨h1, h2, h3⟩ := s.free hp
  refine ⟨I1, M, [], [], Same.refl I1, ⟨same_upd s.sub h1, fun b o q => ?_, fun b o q => ?_, fun b c q => ?_, s.tab.up (Same.refl _) (upd_ne (s.tab.neN hp).symm), s.ntI, s.ntF.upd okF_lst⟩, h2, .nil, Nat.le_refl 0, h⟩
  · by_cases eb : b = p
    · subst eb
      rw [upd_same] at q ⊢
      exact q
    · rw [upd_ne eb] at q ⊢
      exact s.frm b o q
  · by_cases eb : b = p
    · rw [eb]; exact h1
    · rw [upd_ne eb] at q
      exact s.dis b o q
  · have eb : b ≠ p := mne q h3
    obtain ⟨a1, a2, a3⟩ := s.cell b c q
    exact ⟨a1, by rw [upd_ne eb]; exact a2, a3.at (upd_ne eb)⟩
theorem mid_end {n : Nat} {Inv : List D → Mem → Prop} {Q : VK} (m : Mid K I1 F p n Inv H) (h : ∀ acc M', acc.length ≤ n → Inv acc M' → P (.lst acc) M') (q : ∀ v H', LiftE K I1 F P v H' → Q v H') : Q (.ref p) H := by
  obtain ⟨I', M', acc, av, e', s', fp, ka, la, z⟩ := m
  have hp : H p = some (.lst av) := s'.frm _ _ upd_same
  have ip : I' p = none := s'.dis _ _ upd_same
  have e2 : Same I' (upd I' p (.lst av)) := same_new ip
  refine q _ _ ⟨.lst acc, upd I' p (.lst av), M', e'.trans e2, ⟨fun b o w => ?_, fun b o w => ?_, fun b o w => ?_, fun b c w => ?_, s'.tab.up e2 rfl, s'.ntI.upd (fun _ z => by cases z), fun b ps e => ?_⟩, .lst upd_same (ka.mono e2), h acc M' la z⟩
  · by_cases eb : b = p
    · subst eb
      rw [upd_same] at w
      rw [hp]
      exact w
    · rw [upd_ne eb] at w
      exact s'.sub b o w
  · have eb : b ≠ p := fun z => by rw [z, fp] at w; cases w
    exact s'.frm b o (by rw [upd_ne eb]; exact w)
  · have eb : b ≠ p := fun z => by rw [z, fp] at w; cases w
    rw [upd_ne eb]
    exact s'.dis b o (by rw [upd_ne eb]; exact w)
  · have eb : b ≠ p := fun z => by
      have := (s'.cell b c w).2.1
      rw [z, upd_same] at this
      cases this
    obtain ⟨a1, a2, a3⟩ := s'.cell b c w
    rw [upd_ne eb] at a2
    exact ⟨by rw [upd_ne eb]; exact a1, a2, a3.mono e2⟩
  · have eb : b ≠ p := fun z => by rw [z, fp] at e; cases e
    exact s'.ntF b ps (by rw [upd_ne eb]; exact e)
/-- [e for x in xs if t] over a list that stands still -/
theorem re_lc {X : Type} {ws : List Nat} (enc : X → D) (xs : List X) (Inv : List X → List D → Mem → Prop) (hz : xs.length ≤ 100000) (h : RE K tl δ M fun d M1 => LstI d (xs.map enc) ∧ Inv [] [] M1)
    (hs : ∀ pre x post acc M', xs = pre ++ x :: post → Inv pre acc M' → RGc K ws g (enc x) (wipeD δ ws) M' fun δ2 M2 => RT K t δ2 M2 fun b M3 => (b = true → RE K te δ2 M3 fun y M4 => Inv (pre ++ [x]) (acc ++ [y]) M4) ∧ (b = false → Inv (pre ++ [x]) acc M3))
    (hd : ∀ acc M', acc.length ≤ xs.length → Inv xs acc M' → P (.lst acc) M') : RE K (tLc (iList K tl) g t te ws) δ M P := fun σ I F H he hs' Q q =>
  h.use he hs' fun v d I1 M1 H1 e1 s1 r1 ⟨hl, h0⟩ => by
    obtain ⟨a, vs, rfl, hq, kk⟩ := hl.get r1
    have len : vs.length = xs.length := by rw [kk.length, List.length_map]
    refine ⟨a, rfl, ⟨vs, sameL s1.sub hq⟩, fun p hp => lc_list (fun i => Mid K I1 F p i (Inv (xs.take i))) (mid_start s1 hp (by rw [List.take_zero]; exact h0)) (fun i H' _ ⟨I', M', acc, av, e', s', _⟩ => sameL (e'.trans s'.sub) hq) ?_ ?_⟩
    · intro i w H' hi m
      have hi2 : i < xs.length := by rw [← len]; exact (List.getElem?_eq_some_iff.mp hi).1
      obtain ⟨q1, q2⟩ := split_at (List.getElem?_eq_getElem hi2)
      have hw : ∀ I', Same I1 I' → Is K I' w (enc xs[i]) := fun I' e' => by
        obtain ⟨w2, hw2, r2⟩ := kk.get (i := i) (d := enc xs[i]) (by rw [List.getElem?_map, List.getElem?_eq_getElem hi2]; rfl)
        rw [hi] at hw2
        cases hw2
        exact r2.mono e'
      rw [q2]
      exact mid_turn (by omega) (he.mono e1) m hw fun acc M' z => hs _ _ _ acc M' q1 z
    · intro H' m
      rw [len, List.take_length] at m
      exact mid_end m (fun acc M' la z => hd acc M' la z) fun v H' z => q v H' (z.up e1)
/-- .. over a tuple of the module's own, or one that stands still -/
theorem re_lcT {X : Type} {ws : List Nat} (enc : X → D) (xs : List X) (Inv : List X → List D → Mem → Prop) (hz : xs.length ≤ 100000) (h : RE K tl δ M fun d M1 => TupD d (xs.map enc) ∧ Inv [] [] M1)
    (hs : ∀ pre x post acc M', xs = pre ++ x :: post → Inv pre acc M' → RGc K ws g (enc x) (wipeD δ ws) M' fun δ2 M2 => RT K t δ2 M2 fun b M3 => (b = true → RE K te δ2 M3 fun y M4 => Inv (pre ++ [x]) (acc ++ [y]) M4) ∧ (b = false → Inv (pre ++ [x]) acc M3))
    (hd : ∀ acc M', acc.length ≤ xs.length → Inv xs acc M' → P (.lst acc) M') : RE K (tLc (iTup K tl) g t te ws) δ M P := fun σ I F H he hs' Q q =>
  h.use he hs' fun v d I1 M1 H1 e1 s1 r1 ⟨hl, h0⟩ => by
    have hl2 : ∃ a vs, v = .ref a ∧ SqT K I1 a vs ∧ Iss K I1 vs (xs.map enc) := by
      rcases hl with rfl | rfl
      · cases r1 with
        | tup h k => exact ⟨_, _, rfl, SqT.of h, k⟩
      · cases r1 with
        | rot h k => exact ⟨_, _, rfl, h, k⟩
    obtain ⟨a, vs, rfl, hq, kk⟩ := hl2
    have len : vs.length = xs.length := by rw [kk.length, List.length_map]
    refine ⟨a, rfl, ⟨vs, sameT s1.sub hq⟩, fun p hp => lc_tup (fun i => Mid K I1 F p i (Inv (xs.take i))) (mid_start s1 hp (by rw [List.take_zero]; exact h0)) (fun i H' _ ⟨I', M', acc, av, e', s', _⟩ => sameT (e'.trans s'.sub) hq) ?_ ?_⟩
    · intro i w H' hi m
      have hi2 : i < xs.length := by rw [← len]; exact (List.getElem?_eq_some_iff.mp hi).1
      obtain ⟨q1, q2⟩ := split_at (List.getElem?_eq_getElem hi2)
      have hw : ∀ I', Same I1 I' → Is K I' w (enc xs[i]) := fun I' e' => by
        obtain ⟨w2, hw2, r2⟩ := kk.get (i := i) (d := enc xs[i]) (by rw [List.getElem?_map, List.getElem?_eq_getElem hi2]; rfl)
        rw [hi] at hw2
        cases hw2
        exact r2.mono e'
      rw [q2]
      exact mid_turn (by omega) (he.mono e1) m hw fun acc M' z => hs _ _ _ acc M' q1 z
    · intro H' m
      rw [len, List.take_length] at m
      exact mid_end m (fun acc M' la z => hd acc M' la z) fun v H' z => q v H' (z.up e1)
/-- .. over range(n) -/
theorem re_lcR {ws : List Nat} (n : Nat) (Inv : Nat → List D → Mem → Prop) (hz : n ≤ 100000) (h : RA K tA δ M fun ds M1 => ds = [.int (n : Int)] ∧ Inv 0 [] M1)
    (hs : ∀ k acc M', k < n → Inv k acc M' → RGc K ws g (.int (k : Int)) (wipeD δ ws) M' fun δ2 M2 => RT K t δ2 M2 fun b M3 => (b = true → RE K te δ2 M3 fun y M4 => Inv (k + 1) (acc ++ [y]) M4) ∧ (b = false → Inv (k + 1) acc M3))
    (hd : ∀ acc M', acc.length ≤ n → Inv n acc M' → P (.lst acc) M') : RE K (tLc (iRng1 tA) g t te ws) δ M P := fun σ I F H he hs' Q q =>
  h.use he hs' fun vs ds I1 M1 H1 e1 s1 r1 ⟨eds, h0⟩ => by
    subst eds
    obtain ⟨v, rfl, rv⟩ := r1.one
    cases rv
    have e0 : ((n : Int)).toNat = n := by omega
    refine ⟨(n : Int), rfl, by omega, by omega, ?_⟩
    rw [e0]
    refine fun p hp => lc_range (lo := 0) (n := n) (fun i => Mid K I1 F p i (Inv i)) (mid_start s1 hp h0) ?_ ?_
    · intro i H' hi m
      have e1' : (0 : Int) + (i : Int) = (i : Int) := Int.zero_add _
      rw [e1']
      exact mid_turn (by omega) (he.mono e1) m (fun I' _ => .int _) fun acc M' z => hs i acc M' hi z
    · intro H' m
      exact mid_end m (fun acc M' la z => hd acc M' la z) fun v H' z => q v H' (z.up e1)
theorem rt_yes (p : PT' true M) : RT K tYes δ M PT' := fun σ I F H he hs Q q => q true H ⟨I, M, Same.refl I, hs, p⟩
/-- all, any .. of [e for x in d.values()], d locked meanwhile -/
theorem re_lockV {ws : List Nat} {r : List V → Hp → VK → Prop} {n : Nat} {kd : List (Key × D)} (f : D → D) (hv : δ[n]? = some (some (.ref a))) (ha : M a = some (.dic kd)) (hz : kd.length ≤ 100000)
    (hs : ∀ x, x ∈ kd.map (·.2) → RGc K ws g x (wipeD δ ws) (mdel M a) fun δ2 M2 => M2 = mdel M a ∧ RE K te δ2 M2 fun y M3 => y = f x ∧ M3 = mdel M a)
    (after : RC K r [.lst (kd.map fun q => f q.2)] (mdel M a) fun d M' => M' = mdel M a ∧ P d M) : RE K (tLockE (tCB r (tCons (tLc (iVals (tVar n)) g tYes te ws) tNil))) δ M P := fun σ I F H he hs' Q q => by
  obtain ⟨ia, fa, kv, ho, kk⟩ := hs'.cell a _ ha
  refine ⟨a, .dK kv, ho, trivial, fun od => ?_⟩
  -- the locked state
  have sL : Sta K I (upd F a (.frz od (.dK kv))) (upd H a (.frz od (.dK kv))) (mdel M a) := by
    refine ⟨same_upd hs'.sub ia, fun b o w => ?_, fun b o w => ?_, fun b c w => ?_, hs'.tab.up (Same.refl _) (upd_ne (hs'.tab.ne ho fun _ z => by cases z).symm), hs'.ntI, hs'.ntF.upd okF_frz⟩
    · by_cases eb : b = a
      · subst eb; rw [upd_same] at w ⊢; exact w
      · rw [upd_ne eb] at w ⊢; exact hs'.frm b o w
    · by_cases eb : b = a
      · rw [eb]; exact ia
      · rw [upd_ne eb] at w; exact hs'.dis b o w
    · by_cases eb : b = a
      · rw [eb, mdel_same] at w; cases w
      · rw [mdel_ne eb] at w
        obtain ⟨a1, a2, a3⟩ := hs'.cell b c w
        exact ⟨a1, by rw [upd_ne eb]; exact a2, a3.at (upd_ne eb)⟩
  generalize hF : upd F a (.frz od (.dK kv)) = F1 at sL
  have fa1 : F1 a = some (.frz od (.dK kv)) := by rw [← hF, upd_same]
  -- back
  have back : ∀ {I' H'}, Same I I' → Sta K I' F1 H' (mdel M a) → Sta K I' F (upd H' a (.dK kv)) M := fun {I' H'} e s => by
    refine ⟨same_upd s.sub (s.dis _ _ fa1), fun b o w => ?_, fun b o w => ?_, fun b c w => ?_, s.tab.up (Same.refl _) (upd_ne (s.tab.ne (s.frm _ _ fa1) fun _ z => by cases z).symm), s.ntI, hs'.ntF⟩
    · have eb : b ≠ a := fun z => by rw [z, fa] at w; cases w
      rw [upd_ne eb]
      exact s.frm b o (by rw [← hF, upd_ne eb]; exact w)
    · have eb : b ≠ a := fun z => by rw [z, fa] at w; cases w
      exact s.dis b o (by rw [← hF, upd_ne eb]; exact w)
    · by_cases eb : b = a
      · subst eb
        rw [ha] at w
        cases w
        exact ⟨s.dis _ _ fa1, fa, kv, upd_same, kk.mono e⟩
      · obtain ⟨a1, a2, a3⟩ := s.cell b c (by rw [mdel_ne eb]; exact w)
        rw [← hF, upd_ne eb] at a2
        exact ⟨a1, a2, a3.at (upd_ne eb)⟩
  obtain ⟨w0, hw0, r0⟩ := he.2 n _ hv
  cases r0
  have len : kv.length = kd.length := kk.length
  -- the values one by one
  have val : ∀ (kv : List (Key × V)) (kd : List (Key × D)), Kss K I kv kd → ∀ (i : Nat) (k : Key) (x : V), kv[i]? = some (k, x) → ∃ d, (kd.map (·.2))[i]? = some d ∧ Is K I x d := by
    intro kv kd h
    induction h with
    | nil => intro i k x e; simp at e
    | @cons k' v' d' kv kd h1 _ ih =>
      intro i k x e
      cases i with
      | zero =>
        cases (show some _ = some _ from e)
        exact ⟨d', rfl, h1⟩
      | succ i => exact ih i k x e
  have hq : tLc (iVals (tVar n)) g tYes te ws σ (upd H a (.frz od (.dK kv))) fun x H1 => r [x] H1 fun v H' => H' a = some (.frz od (.dK kv)) ∧ Q v (upd H' a (.dK kv)) := by
    refine ⟨_, hw0, a, od, kv, rfl, upd_same, fun p hp => ?_⟩
    have hpa : p ≠ a := fun z => by rw [z, upd_same] at hp; cases hp
    refine ⟨fun i m H' => m = kv.length - i ∧ i ≤ kv.length ∧ Mid K I F1 p i (fun acc M' => acc = ((kd.take i).map fun q => f q.2) ∧ M' = mdel M a) H', ⟨kv.length, by simp, Nat.zero_le _, mid_start sL hp ⟨by rw [List.take_zero]; rfl, rfl⟩⟩, ?_⟩
    rintro i m H' ⟨rfl, hi, mid⟩
    have ha' : H' a = some (.frz od (.dK kv)) := by
      obtain ⟨I', M', acc, av, e', s', _⟩ := mid
      exact s'.frm a _ (by rw [upd_ne hpa.symm]; exact fa1)
    by_cases hlt : i < kv.length
    · refine .inr ⟨⟨ha', hlt⟩, Mid K I F1 p (i + 1) (fun acc M' => acc = ((kd.take (i + 1)).map fun q => f q.2) ∧ M' = mdel M a), fun H2 z => ⟨kv.length - (i + 1), by omega, rfl, hlt, z⟩, ?_⟩
      rintro x H2 ⟨rfl, k, hk⟩
      obtain ⟨d, hd, rd⟩ := val kv kd kk i k x hk
      have hd' := hd
      rw [List.getElem?_map] at hd'
      obtain ⟨kq, hkq⟩ : ∃ q, kd[i]? = some q := ⟨_, List.getElem?_eq_getElem (by omega)⟩
      rw [hkq] at hd'
      cases hd'
      refine mid_turn (by omega) he mid (fun I' e => rd.mono e) ?_
      rintro acc M' ⟨rfl, rfl⟩
      refine fun v σ2 I2 F2 H2 hv2 he2 hs2 Q2 q2 => hs _ (List.mem_of_getElem? hd) v σ2 I2 F2 H2 hv2 he2 hs2 Q2 fun σ3 H3 ew z => q2 σ3 H3 ew ?_
      obtain ⟨δ3, I3, M3, e3, s3, he3, em, z3⟩ := z
      refine ⟨δ3, I3, M3, e3, s3, he3, rt_yes ⟨fun _ => z3.imp ?_, fun z => by cases z⟩⟩
      rintro d4 M4 ⟨rfl, rfl⟩
      refine ⟨?_, rfl⟩
      rw [List.take_succ, hkq]
      simp
    · have e : i = kv.length := by omega
      subst e
      refine .inl ⟨⟨ha', Nat.le_refl _⟩, ?_⟩
      refine mid_end (P := fun d M' => d = .lst (kd.map fun q => f q.2) ∧ M' = mdel M a) (Q := fun x H1 => r [x] H1 fun v H' => H' a = some (.frz od (.dK kv)) ∧ Q v (upd H' a (.dK kv))) mid ?_ ?_
      · rintro acc M' _ ⟨rfl, rfl⟩
        rw [len, List.take_length]
        exact ⟨rfl, rfl⟩
      · rintro v H1 ⟨d, I', M', e', s', r', rfl, rfl⟩
        refine after [v] I' F1 H1 (.cons r' .nil) s' _ fun v2 H2 ⟨d2, I2, M2, e2, s2, r2, em, z⟩ => ?_
        subst em
        exact ⟨s2.frm a _ fa1, q v2 _ ⟨d2, I2, M, e'.trans e2, back (e'.trans e2) s2, r2, z⟩⟩
  exact hq
/-- a comprehension that makes nothing else -/
theorem re_lcM {X : Type} {ws : List Nat} (enc : X → D) (xs : List X) (f : X → D) (hz : xs.length ≤ 100000) (h : RE K tl δ M fun d M1 => LstI d (xs.map enc) ∧ M1 = M)
    (hs : ∀ x, x ∈ xs → RGc K ws g (enc x) (wipeD δ ws) M fun δ2 M2 => RE K te δ2 M2 fun y M4 => y = f x ∧ M4 = M) (hd : P (.lst (xs.map f)) M) : RE K (tLc (iList K tl) g tYes te ws) δ M P := by
  refine re_lc enc xs (fun pre acc M' => acc = pre.map f ∧ M' = M) hz (h.imp fun d M1 ⟨a, b⟩ => ⟨a, rfl, b⟩) ?_ ?_
  · rintro pre x post acc M' e ⟨rfl, rfl⟩
    have hx : x ∈ xs := by rw [e]; simp
    intro v σ I F H hv he hs' Q q
    refine hs x hx v σ I F H hv he hs' Q fun σ2 H2 ew ⟨δ2, I2, M2, e2, s2, he2, z⟩ => q σ2 H2 ew ⟨δ2, I2, M2, e2, s2, he2, rt_yes ⟨fun _ => z.imp ?_, fun z => by cases z⟩⟩
    rintro d M4 ⟨rfl, rfl⟩
    exact ⟨by rw [List.map_append]; rfl, rfl⟩
  · rintro acc M' _ ⟨rfl, rfl⟩
    exact hd
theorem re_lcF {X : Type} {ws : List Nat} (enc : X → D) (xs : List X) (f : X → D) (p : X → Bool) (hz : xs.length ≤ 100000) (h : RE K tl δ M fun d M1 => LstI d (xs.map enc) ∧ M1 = M)
    (hs : ∀ x, x ∈ xs → RGc K ws g (enc x) (wipeD δ ws) M fun δ2 M2 => RT K t δ2 M2 fun b M3 => b = p x ∧ M3 = M ∧ (b = true → RE K te δ2 M3 fun y M4 => y = f x ∧ M4 = M)) (hd : P (.lst ((xs.filter p).map f)) M) : RE K (tLc (iList K tl) g t te ws) δ M P := by
  refine re_lc enc xs (fun pre acc M' => acc = (pre.filter p).map f ∧ M' = M) hz (h.imp fun d M1 ⟨a, b⟩ => ⟨a, rfl, b⟩) ?_ ?_
  · rintro pre x post acc M' e ⟨rfl, rfl⟩
    have hx : x ∈ xs := by rw [e]; simp
    intro v σ I F H hv he hs' Q q
    refine hs x hx v σ I F H hv he hs' Q fun σ2 H2 ew ⟨δ2, I2, M2, e2, s2, he2, z⟩ => q σ2 H2 ew ⟨δ2, I2, M2, e2, s2, he2, ?_⟩
    intro σ3 I3 F3 H3 he3 hs3 Q3 q3
    refine z.use he3 hs3 fun b I4 M4 H4 e4 s4 ⟨eb, em, k⟩ => q3 b H4 ⟨I4, M4, e4, s4, fun hb => (k hb).imp ?_, fun hb => ?_⟩
    · rintro d M5 ⟨rfl, rfl⟩
      refine ⟨?_, rfl⟩
      rw [List.filter_append, List.map_append, List.filter_cons, ← eb, hb]
      rfl
    · refine ⟨?_, em⟩
      rw [List.filter_append, List.filter_cons, ← eb, hb]
      simp
  · rintro acc M' _ ⟨rfl, rfl⟩
    exact hd
end
end Kp

set_option maxHeartbeats 4000000
namespace Kp
open PySem PySem.Spec PyProof.Rows L2
abbrev Tri := Int × Int × Int
def kT (t : Tri) : PyData := .tuple [.int t.1, .int t.2.1, .int t.2.2]
def leT : Tri → Tri → Bool := PySem.W.dataLe false kT
theorem leT_total : PySem.W.TotalLe leT := by
  unfold leT PySem.W.dataLe
  exact PySem.W.sortLe_total _ _ _
theorem leT_fst {p q : Tri} (h : leT p q = true) : p.1 ≤ q.1 := by
  have e : leT p q = !PySem.W.dataLt (kT q) (kT p) := rfl
  rw [e] at h
  unfold kT at h
  rw [PySem.W.dataLt_tuple, PySem.W.dataLt_cons (by simp [PySem.W.alike])] at h
  refine Classical.byContradiction fun hn => ?_
  have h1 : ¬ q.1 = p.1 := by omega
  have h2 : PyData.eqv (.int q.1) (.int p.1) = false := by
    simp only [PyData.eqv]
    exact beq_eq_false_iff_ne.mpr h1
  rw [h2] at h
  simp only [Bool.false_eq_true, if_false] at h
  rw [PySem.W.dataLt_int] at h
  simp at h
  omega
theorem alike_kT (ts : List Tri) : PySem.W.AllAlike (ts.map kT) := by
  intro d hd d' hd'
  obtain ⟨t, _, rfl⟩ := List.mem_map.mp hd
  obtain ⟨t', _, rfl⟩ := List.mem_map.mp hd'
  simp [kT, PySem.W.alike, PySem.W.alikeAll]
theorem sortable_kT (ts : List Tri) : PySem.W.Sortable (ts.map kT) := by
  left
  intro d hd
  obtain ⟨t, _, rfl⟩ := List.mem_map.mp hd
  exact ⟨_, _, rfl⟩
/-- v is a tuple of these three -/
def IsTri (K : PySem.W.Frag) (H : Hp) (v : V) (t : Tri) : Prop := ∃ q, v = .ref q ∧ SqT K H q [.int t.1, .int t.2.1, .int t.2.2]
def rSortT (K : PySem.W.Frag) : List V → Hp → VK → Prop := fun xs H Q => ∃ a vs ts, ∃ S : V → Tri → Prop, xs = [.ref a] ∧ SqL K H a vs ∧ PySem.W.EachIs S vs ts ∧ (∀ v t, S v t → IsTri K H v t) ∧
  ∀ vs' p, PySem.W.EachIs S vs' (ts.mergeSort leT) → H p = none → Q (.ref p) (upd H p (.lst vs'))
theorem each_mid {α β γ : Type} {R : α → β → Prop} {S : β → γ → Prop} : ∀ {as : List α} {bs : List β} {cs : List γ}, Paired R as bs → PySem.W.EachIs (fun x c => S x c) bs cs → PySem.W.EachIs (fun a c => ∃ b, R a b ∧ S b c) as cs
  | _, _, _, .nil, .nil => .nil
  | _, _, _, .cons r t, .cons s u => .cons ⟨_, r, s⟩ (each_mid t u)
theorem each_back {γ : Type} {P : V → Value → Prop} {S : V → γ → Prop} : ∀ {us : List Value} {cs : List γ}, PySem.W.EachIs (fun u c => ∃ v, P v u ∧ S v c) us cs → ∃ vs : List V, Paired P vs us ∧ PySem.W.EachIs S vs cs
  | _, _, .nil => ⟨[], .nil, .nil⟩
  | _, _, .cons h t => by
    obtain ⟨v, h1, h2⟩ := h
    obtain ⟨vs, k1, k2⟩ := each_back t
    exact ⟨v :: vs, .cons h1 k1, .cons h2 k2⟩
theorem paired_swap {α β : Type} {R : α → β → Prop} : ∀ {as : List α} {bs : List β}, Paired R as bs → Paired (fun b a => R a b) bs as
  | _, _, .nil => .nil
  | _, _, .cons r t => .cons r (paired_swap t)
section
variable {X : Cx}
theorem tri_reads {pins : List (Addr × Obj)} {σ : L2.St} {H : Hp} {s : Shared} (I : Inv X pins σ H s) {v : V} {u : Value} {t : Tri} (r : RelV v u) (h : IsTri X.K H v t) : ∃ as, Reads s.heap u (kT t) as := by
  obtain ⟨q, rfl, h⟩ := h
  exact Dp.reads I (kT t) _ u (.tup h (.cons (.int _) (.cons (.int _) (.cons (.int _) .nil)))) r
theorem cr_sortT (hun : X.A.units + 64 < cLine) : CallR X (.builtin "sorted") (rSortT X.K) := by
  intro pins s σ H xs us Q I r h
  obtain ⟨a, vs, ts, S, rfl, hs, ht, hS, q⟩ := h
  obtain rfl := Vals.ref1 r
  obtain ⟨its, rv, hl, hz⟩ := I.list hs
  have e1 : PySem.W.EachIs (fun u t => ∃ v, RelV v u ∧ S v t) its ts := each_mid (R := fun u v => RelV v u) (S := S) (paired_swap rv) ht
  have hu : ∀ b, b ∈ ts → X.A.units + 2 + (kT b).depth < cLine := fun b _ => by
    have e : (kT b).depth = 1 := by simp [kT, PyData.depth, PyData.depthAll]
    omega
  refine PySem.W.sorted_data (enc := kT) hl.isList e1 (e1.mono fun u t ⟨v, h1, h2⟩ => tri_reads I h1 (hS _ _ h2)) (alike_kT ts) (sortable_kT ts) ?_ hu fun out ho eo => ?_
  · rw [← e1.length, ← rv.length]
    exact hz
  obtain ⟨vs', k1, k2⟩ := each_back (P := RelV) (S := S) eo
  obtain ⟨ep, he'⟩ := PyProof.Rows.sortedAll_at s.heap its out.toArray
  have hlen : vs'.length ≤ sizeLine := by
    rw [k1.length, ho, ← e1.length, ← rv.length]
    exact hz
  exact ⟨.ref _, upd H (s.heap.objs.size + 1) (.lst vs'), I.laid (t' := s.toks) (fun _ _ => PyProof.Rows.sortedAll_old) (Nat.le_succ _) ⟨hlen, out, ep, k1, he'⟩, rfl, q _ _ k2 (I.hok.fresh (Nat.le_succ _))⟩
end
end Kp

set_option maxHeartbeats 4000000
namespace Kp
open PySem PySem.Spec PyProof.Rows L2
section
variable {P : Program} {w : World} {K : PySem.W.Frag} {mg : Str → Option Value} {A : Around} {s : Shared} {E : Value → Shared → Prop} {env : PySem.Env} {m : Str → Option Value}
/-- a def's own frame, as it was entered -/
structure Fra (env : PySem.Env) (m : Str → Option Value) (h : Heap) : Prop where
  kind : env.scope.kind = .function
  glob : env.globals = mainGlobals
  blt : env.builtins = builtinsNs
  ns : h.Ns env.locals m
theorem modUp {h h' : Heap} (G : L2.Mod K mg h) (k : ∀ b o, h.get? b = some o → h'.get? b = some o) : L2.Mod K mg h' :=
  ⟨G.kin.keeps k, G.glob.keeps k, let ⟨mb, h1, h2⟩ := G.blt; ⟨mb, h1.keeps k, h2⟩, G.nolimit.keeps k⟩
theorem nmL {x : Str} {pos : Pos} {v : Value} {Q : Value → Shared → Prop} (F : Fra env m s.heap) (hx : env.kindOf x = some .local) (hm : m x = some v) (h : Q v s) (hd : (x == ("__debug__" : Str)) = false := by decide) : wpAny (model P w) A (eval (.Name x pos) env) Q E s :=
  wpAny_Name (wpAny_loadName_local F.kind hx F.ns hm h) hd
theorem nmG {x : Str} {pos : Pos} {v : Value} {Q : Value → Shared → Prop} (G : L2.Mod K mg s.heap) (F : Fra env m s.heap) (hx : env.kindOf x = some .globalImplicit) (hm : mg x = some v) (h : Q v s) (hd : (x == ("__debug__" : Str)) = false := by decide) : wpAny (model P w) A (eval (.Name x pos) env) Q E s :=
  Calls.Name_function_global F.kind hx (Calls.loadGlobal_global (by rw [F.glob]; exact G.glob) hm h) hd
theorem nmB {x : Str} {pos : Pos} {v : Value} {Q : Value → Shared → Prop} (G : L2.Mod K mg s.heap) (F : Fra env m s.heap) (hx : env.kindOf x = some .globalImplicit) (hm : mg x = none) (hv : bootBuiltins x = some v) (h : Q v s) (hn : x ≠ "__name__" := by decide)
    (hd : (x == ("__debug__" : Str)) = false := by decide) : wpAny (model P w) A (eval (.Name x pos) env) Q E s := by
  obtain ⟨mb, h1, h2⟩ := G.blt
  exact Calls.Name_function_global F.kind hx (Calls.loadGlobal_builtin (by rw [F.glob]; exact G.glob) hm (by rw [F.blt]; exact h1) ((h2 x hn).trans hv) h) hd
/-- isinstance(entry, x) -/
theorem exIsi {x : Str} {e C : Addr} {t : Value} {b : Bool} {Pk : Heap → Prop} {p1 p2 p3 p4 : Pos} {Q : Value → Shared → Prop} (G : L2.Mod K mg s.heap) (F : Fra env m s.heap) (he : env.kindOf "entry" = some .local) (hm : m "entry" = some (.ref e))
    (hi : env.kindOf "isinstance" = some .globalImplicit) (mi : mg "isinstance" = none) (hx : env.kindOf x = some .globalImplicit) (mx : mg x = some (.ref C)) (Z : PySem.W.KitX K (.ref e) t Pk) (pk : Pk s.heap) (one : PySem.W.kitOne K t (.ref C) = some b)
    (h : ∀ tk, Q (.bool b) { s with toks := tk }) (hd : (x == ("__debug__" : Str)) = false := by decide) : wpAny (model P w) A (eval (.Call (.Name "isinstance" p1) [.Name "entry" p2, .Name x p3] [] p4) env) Q E s := by
  refine wpAny_Call_Name_kw (nmB G F hi mi boot_isinstance ?_)
  refine PyProof.Rows.callWith_builtin1 ?_ (by rfl) (by rfl)
  show wpAny _ _ (spliced ((false, eval (.Name "entry" p2) env) :: (false, eval (.Name x p3) env) :: [])) _ _ s
  refine Calls.spliced_cons (nmL F he hm (Calls.spliced_cons (nmG G F hx mx (Calls.spliced_nil ?_) hd)))
  exact PySem.W.kia_one Z G.kin pk one (fun z => nomatch z) h
/-- if isinstance(entry, x): return k -/
theorem exIf {x : Str} {e C : Addr} {t : Value} {b : Bool} {k : Int} {j : Nat} {Pk : Heap → Prop} {p1 p2 p3 p4 p5 p6 p7 : Pos} {rest : List Stmt} {Q : Flow → Shared → Prop} (G : L2.Mod K mg s.heap) (F : Fra env m s.heap) (he : env.kindOf "entry" = some .local) (hm : m "entry" = some (.ref e))
    (hi : env.kindOf "isinstance" = some .globalImplicit) (mi : mg "isinstance" = none) (hx : env.kindOf x = some .globalImplicit) (mx : mg x = some (.ref C)) (Z : PySem.W.KitX K (.ref e) t Pk) (pk : Pk s.heap) (one : PySem.W.kitOne K t (.ref C) = some b)
    (h1 : b = true → ∀ tk t, Q (.ret (.int k t)) { s with toks := tk }) (h0 : b = false → ∀ tk, wpAny (model P w) A (execs rest env) Q E { s with toks := tk }) (hd : (x == ("__debug__" : Str)) = false := by decide) :
    wpAny (model P w) A (execs (.If (.Call (.Name "isinstance" p1) [.Name "entry" p2, .Name x p3] [] p4) [.Return (some (.Constant (.int k) j p5)) p6] [] p7 :: rest) env) Q E s := by
  refine wpAny_execs_cons (wpAny_If (isTrue_plain (exIsi G F he hm hi mi hx mx Z pk one (fun tk => wpAny_truthy_bool ?_) hd) rfl))
  cases b with
  | true => exact wpAny_execs_cons (wpAny_Return_some (wpAny_Constant_int (h1 rfl _ _)))
  | false => exact wpAny_execs_nil (h0 rfl tk)
/-- the turn of a class: 0, 1, 2, 3 -/
def turnK (b0 b1 b2 : Bool) : Int := if b0 then 0 else if b1 then 1 else if b2 then 2 else 3
theorem exTurn {f e : Addr} {t : Value} {b0 b1 b2 : Bool} {oc kV doc pm cdv ct : Value} {od an : Option Addr} {osl : Array (Option Value)}
    (lk : K.lookup f = some ⟨oc, od, .func (PySem.W.fnOf "turn_of" "turn_of" (defArgs s_turn_of) (defBody s_turn_of) (defScope s_turn_of) .none kV doc pm an cdv ct), osl⟩) (hcd : PySem.W.codeIn K cdv "turn_of" = true) (G : L2.Mod K mg s.heap) (hroom : A.depth < recursionLimit)
    (kit : ∀ h, (∀ b o, s.heap.get? b = some o → h.get? b = some o) → ∃ Pk, PySem.W.KitX K (.ref e) t Pk ∧ Pk h) {c0 c1 c2 : Addr} (mi : mg "isinstance" = none) (m0 : mg "Promise" = some (.ref c0)) (m1 : mg "Lessen" = some (.ref c1)) (m2 : mg "Out" = some (.ref c2))
    (o0 : PySem.W.kitOne K t (.ref c0) = some b0) (o1 : PySem.W.kitOne K t (.ref c1) = some b1) (o2 : PySem.W.kitOne K t (.ref c2) = some b2) {R : Result → Shared → Prop}
    (h : ∀ h' tk tt, (∀ b o, s.heap.get? b = some o → h'.get? b = some o) → R (.ok (.ret (.int (turnK b0 b1 b2) tt))) { s with heap := h', toks := tk }) : codeAny (model P w) A (.call (.ref f) ⟨[.ref e], []⟩) R s := by
  refine codeAny_call_function hroom (G.kin _ _ lk) rfl rfl rfl rfl (PySem.W.codeRec_of G.kin hcd) ?_
  show wpAny _ _ (pure [(("entry" : Str), Value.ref e)]) _ _ s
  refine wpAny_pure (wpAny_newFunctionEnv (show ∀ x ∈ (defScope s_turn_of).names, x.2 ≠ .cell by decide +kernel) (fun y hy => by
    rw [List.mem_singleton.mp hy]
    show (defScope s_turn_of).names.lookup ("entry" : Str) = some NameKind.local
    decide +kernel) (fun h₁ hns hsb => ⟨G.nolimit.fresh _ hsb, ?_⟩) rfl)
  have kp : ∀ b o, s.heap.get? b = some o → h₁.get? b = some o := fun b o q => hsb.extBut b o (Nat.ne_of_lt (Heap.lt_size q)) (Heap.get?_push_of_some _ q)
  have G1 : L2.Mod K mg h₁ := modUp G kp
  obtain ⟨Pk, Z, pk⟩ := kit h₁ kp
  refine codeAny_func ?_
  generalize hen : newEnv _ _ _ _ _ _ _ _ _ = env
  have F : Fra env (fun x => [(("entry" : Str), Value.ref e)].reverse.lookup x) h₁ := by
    subst hen
    exact ⟨rfl, rfl, rfl, hns⟩
  have ke : env.kindOf "entry" = some .local := by subst hen; exact (show (defScope s_turn_of).names.lookup ("entry" : Str) = some NameKind.local by decide +kernel)
  have ki : env.kindOf "isinstance" = some .globalImplicit := by subst hen; exact (show (defScope s_turn_of).names.lookup ("isinstance" : Str) = some NameKind.globalImplicit by decide +kernel)
  have k0 : env.kindOf "Promise" = some .globalImplicit := by subst hen; exact (show (defScope s_turn_of).names.lookup ("Promise" : Str) = some NameKind.globalImplicit by decide +kernel)
  have k1 : env.kindOf "Lessen" = some .globalImplicit := by subst hen; exact (show (defScope s_turn_of).names.lookup ("Lessen" : Str) = some NameKind.globalImplicit by decide +kernel)
  have k2 : env.kindOf "Out" = some .globalImplicit := by subst hen; exact (show (defScope s_turn_of).names.lookup ("Out" : Str) = some NameKind.globalImplicit by decide +kernel)
  have fin : ∀ (r : Int) tk tt, r = turnK b0 b1 b2 → R (.ok (.ret (.int r tt))) { s with heap := h₁, toks := tk } := fun r tk tt er => by
    rw [er]
    exact h h₁ tk tt kp
  refine exIf (m := fun x => [(("entry" : Str), Value.ref e)].reverse.lookup x) G1 F ke rfl ki mi k0 m0 Z pk o0 (fun e0 tk tt => fin 0 tk tt (by rw [e0]; rfl)) fun e0 tk => ?_
  refine exIf (m := fun x => [(("entry" : Str), Value.ref e)].reverse.lookup x) G1 F ke rfl ki mi k1 m1 Z pk o1 (fun e1 tk tt => fin 1 tk tt (by rw [e0, e1]; rfl)) fun e1 tk => ?_
  refine exIf (m := fun x => [(("entry" : Str), Value.ref e)].reverse.lookup x) G1 F ke rfl ki mi k2 m2 Z pk o2 (fun e2 tk tt => fin 2 tk tt (by rw [e0, e1, e2]; rfl)) fun e2 tk => ?_
  exact wpAny_execs_cons (wpAny_Return_some (wpAny_Constant_int (fin 3 _ _ (by rw [e0, e1, e2]; rfl))))
theorem Fra.up {h h' : Heap} (F : Fra env m h) (k : ∀ b o, h.get? b = some o → h'.get? b = some o) : Fra env m h' := ⟨F.kind, F.glob, F.blt, F.ns.keeps k⟩
/-- x[k] of a tuple in a local name -/
theorem exIx {x : Str} {t : Addr} {its : List Value} {k : Int} {j : Nat} {u : Value} {p1 p2 p3 : Pos} {jj : Nat} {Q : Value → Shared → Prop} (F : Fra env m s.heap) (hx : env.kindOf x = some .local) (hm : m x = some (.ref t)) (ht : IsTup s.heap t its.toArray)
    (hlo : -(2 ^ 63) ≤ k) (hhi : k < 2 ^ 63) (hj : seqIndex? k its.length = some j) (hu : its[j]? = some u) (h : ∀ tk, Q u { s with toks := tk }) (hd : (x == ("__debug__" : Str)) = false := by decide) : wpAny (model P w) A (eval (.Subscript (.Name x p1) (.Constant (.int k) jj p2) p3) env) Q E s :=
  Subscript_ (nmL F hx hm (wpAny_Constant_int (item_tupleL (s := { s with toks := s.toks + 1 }) ht hlo hhi hj hu (h _))) hd)
def lamE : Expr := match defBody s_gone_through with
  | [.Return (some (.Call _ _ [⟨_, e, _⟩] _)) _] => e
  | _ => .Name "" ⟨0, 0, 0, 0⟩
def lamParams : Arguments := match lamE with
  | .Lambda a _ _ _ => a
  | _ => { posonlyargs := [], args := [], vararg := none, kwonlyargs := [], kw_defaults := [], kwarg := none, defaults := [] }
def lamBody : Expr := match lamE with
  | .Lambda _ b _ _ => b
  | e => e
def lamScope : Scope := match lamE with
  | .Lambda _ _ sc _ => sc
  | _ => { kind := .function, names := [], isGenerator := false, isCoroutine := false }
structure TurnFn (K : PySem.W.Frag) (mg : Str → Option Value) (ft : Addr) : Prop where
  gl : mg "turn_of" = some (.ref ft)
  kp : PySem.W.keepIn K (.ref ft) = true
  lk : ∃ (oc kV doc pm cdv ct : Value) (od an : Option Addr) (osl : Array (Option Value)), K.lookup ft = some ⟨oc, od, .func (PySem.W.fnOf "turn_of" "turn_of" (defArgs s_turn_of) (defBody s_turn_of) (defScope s_turn_of) .none kV doc pm an cdv ct), osl⟩ ∧ PySem.W.codeIn K cdv "turn_of" = true
theorem exLam {f ft t e c' : Addr} {q : Str} {cl : List (Str × Addr)} {tv pmv ctv : Value} {b0 b1 b2 : Bool} {n d : Int} {tn td : Tok} (hf : s.heap.get? f = some (PySem.W.kla_obj "<lambda>" q lamParams lamBody lamScope cl pmv c' ctv)) (hcr : s.heap.CodeRec (.ref c') q)
    (T : TurnFn K mg ft) (G : L2.Mod K mg s.heap) (hroom : A.depth + 1 < recursionLimit)
    (kit : ∀ h, (∀ b o, s.heap.get? b = some o → h.get? b = some o) → ∃ Pk, PySem.W.KitX K (.ref e) tv Pk ∧ Pk h) {c0 c1 c2 : Addr} (mi : mg "isinstance" = none) (m0 : mg "Promise" = some (.ref c0)) (m1 : mg "Lessen" = some (.ref c1)) (m2 : mg "Out" = some (.ref c2))
    (o0 : PySem.W.kitOne K tv (.ref c0) = some b0) (o1 : PySem.W.kitOne K tv (.ref c1) = some b1) (o2 : PySem.W.kitOne K tv (.ref c2) = some b2) (ht : IsTup s.heap t ([Value.int n tn, Value.int d td, Value.ref e] : List Value).toArray) {R : Result → Shared → Prop}
    (h : ∀ h' tk T, (∀ b o, s.heap.get? b = some o → h'.get? b = some o) → Reads h' (.ref T) (kT (d, turnK b0 b1 b2, n)) [] → R (.ok (.ret (.ref T))) { s with heap := h', toks := tk }) : codeAny (model P w) A (.call (.ref f) ⟨[.ref t], []⟩) R s := by
  refine PySem.W.kla_callFunE (by omega) hf rfl rfl rfl rfl hcr ?_
  show wpAny _ _ (pure [(("item" : Str), Value.ref t)]) _ _ s
  refine wpAny_pure (wpAny_newFunctionEnv (show ∀ x ∈ lamScope.names, x.2 ≠ .cell by decide +kernel) (fun y hy => by
    rw [List.mem_singleton.mp hy]
    show lamScope.names.lookup ("item" : Str) = some NameKind.local
    decide +kernel) (fun h₁ hns hsb => ⟨G.nolimit.fresh _ hsb, ?_⟩) rfl)
  have kp : ∀ b o, s.heap.get? b = some o → h₁.get? b = some o := fun b o q => hsb.extBut b o (Nat.ne_of_lt (Heap.lt_size q)) (Heap.get?_push_of_some _ q)
  have G1 : L2.Mod K mg h₁ := modUp G kp
  refine PySem.W.kla_codeExpr ?_
  generalize hen : newEnv _ _ _ _ _ _ _ _ _ = env
  have F : Fra env (fun x => [(("item" : Str), Value.ref t)].reverse.lookup x) h₁ := by
    subst hen
    exact ⟨rfl, rfl, rfl, hns⟩
  have ke : env.kindOf "item" = some .local := by subst hen; exact (show lamScope.names.lookup ("item" : Str) = some NameKind.local by decide +kernel)
  have kf : env.kindOf "turn_of" = some .globalImplicit := by subst hen; exact (show lamScope.names.lookup ("turn_of" : Str) = some NameKind.globalImplicit by decide +kernel)
  have ht1 : IsTup h₁ t ([Value.int n tn, Value.int d td, Value.ref e] : List Value).toArray := by
    obtain ⟨o, z1, z2⟩ := ht
    exact ⟨o, kp _ _ z1, z2⟩
  obtain ⟨oc, kV, doc, pm, cdv, ct, od, an, osl, lk, hcd⟩ := T.lk
  have hdp : (A.deeper env).depth = A.depth + 1 := rfl
  refine wpAny_Tuple_spliced (Calls.spliced_cons (exIx (m := fun x => [(("item" : Str), Value.ref t)].reverse.lookup x) F ke rfl ht1 (by decide) (by decide) (j := 1) (by simp [seqIndex?]) rfl fun tk1 => ?_))
  refine Calls.spliced_cons (wpAny_Call_Name_kw (nmG (m := fun x => [(("item" : Str), Value.ref t)].reverse.lookup x) G1 F kf T.gl ?_))
  refine PySem.W.callWith_K (h₀ := h₁) G1.kin T.kp ?_ (by rfl) (by rfl)
  refine Calls.spliced_cons (exIx (m := fun x => [(("item" : Str), Value.ref t)].reverse.lookup x) F ke rfl ht1 (by decide) (by decide) (j := 2) (by simp [seqIndex?]) rfl fun tk2 => Calls.spliced_nil ⟨G1.kin, ?_⟩)
  refine wpAny_call (exTurn lk hcd G1 (by rw [hdp]; exact hroom) (fun h2 k2 => kit _ fun b o z => k2 _ _ (kp _ _ z)) mi m0 m1 m2 o0 o1 o2 fun h2 tk3 tt k2 => ?_)
  have ht2 : IsTup h2 t ([Value.int n tn, Value.int d td, Value.ref e] : List Value).toArray := by
    obtain ⟨o, z1, z2⟩ := ht1
    exact ⟨o, k2 _ _ z1, z2⟩
  refine Calls.spliced_cons (exIx (m := fun x => [(("item" : Str), Value.ref t)].reverse.lookup x) (F.up k2) ke rfl ht2 (by decide) (by decide) (j := 0) (by simp [seqIndex?]) rfl fun tk4 => Calls.spliced_nil ⟨(by show 3 ≤ sizeLine; decide), ?_⟩)
  refine h _ _ _ (fun b o z => Heap.get?_push_of_some _ (k2 _ _ (kp _ _ z))) ?_
  exact Reads.tuple (Heap.get?_push_size _ rfl) rfl rfl (ReadsAll.cons (Reads.int _ _) (ReadsAll.cons (Reads.int _ _) (ReadsAll.cons (Reads.int _ _) ReadsAll.nil)))
end
end Kp

set_option maxHeartbeats 4000000
namespace Kp
open PySem PySem.Spec PyProof.Rows L2
structure Txt (K : PySem.W.Frag) (mg : Str → Option Value) (base : Heap) : Prop where
  kin : K.In base
  ns : base.Ns mainGlobals mg
  says : He.SaysD fa fn K
  ex : ex K = true
  tb : LamX.TabB base mg (He.cT K ("gone_through", none)).1 (tabP K)
section
variable {K : PySem.W.Frag} {mg : Str → Option Value} {base : Heap}
theorem g_is_whole (TX : Txt K mg base) : mg "is_whole" = some (.ref (He.ga K "is_whole")) := He.glo_ok TX.kin TX.ns (TX.says.fact 0 (f := .glo "is_whole") rfl)
theorem g_within (TX : Txt K mg base) : mg "within" = some (.ref (He.ga K "within")) := He.glo_ok TX.kin TX.ns (TX.says.fact 1 (f := .glo "within") rfl)
theorem g_is_name (TX : Txt K mg base) : mg "is_name" = some (.ref (He.ga K "is_name")) := He.glo_ok TX.kin TX.ns (TX.says.fact 2 (f := .glo "is_name") rfl)
theorem g_check (TX : Txt K mg base) : mg "check" = some (.ref (He.ga K "check")) := He.glo_ok TX.kin TX.ns (TX.says.fact 3 (f := .glo "check") rfl)
theorem g_check_coins (TX : Txt K mg base) : mg "check_coins" = some (.ref (He.ga K "check_coins")) := He.glo_ok TX.kin TX.ns (TX.says.fact 4 (f := .glo "check_coins") rfl)
theorem g_is_day (TX : Txt K mg base) : mg "is_day" = some (.ref (He.ga K "is_day")) := He.glo_ok TX.kin TX.ns (TX.says.fact 5 (f := .glo "is_day") rfl)
theorem g_is_row (TX : Txt K mg base) : mg "is_row" = some (.ref (He.ga K "is_row")) := He.glo_ok TX.kin TX.ns (TX.says.fact 6 (f := .glo "is_row") rfl)
theorem g_turn_of (TX : Txt K mg base) : mg "turn_of" = some (.ref (He.ga K "turn_of")) := He.glo_ok TX.kin TX.ns (TX.says.fact 7 (f := .glo "turn_of") rfl)
theorem g_gone_through (TX : Txt K mg base) : mg "gone_through" = some (.ref (He.ga K "gone_through")) := He.glo_ok TX.kin TX.ns (TX.says.fact 8 (f := .glo "gone_through") rfl)
theorem g_are_tuples (TX : Txt K mg base) : mg "are_tuples" = some (.ref (He.ga K "are_tuples")) := He.glo_ok TX.kin TX.ns (TX.says.fact 9 (f := .glo "are_tuples") rfl)
theorem g_are_heads (TX : Txt K mg base) : mg "are_heads" = some (.ref (He.ga K "are_heads")) := He.glo_ok TX.kin TX.ns (TX.says.fact 10 (f := .glo "are_heads") rfl)
theorem g_are_limits (TX : Txt K mg base) : mg "are_limits" = some (.ref (He.ga K "are_limits")) := He.glo_ok TX.kin TX.ns (TX.says.fact 11 (f := .glo "are_limits") rfl)
theorem g_are_rules (TX : Txt K mg base) : mg "are_rules" = some (.ref (He.ga K "are_rules")) := He.glo_ok TX.kin TX.ns (TX.says.fact 12 (f := .glo "are_rules") rfl)
theorem g__law_cell_at (TX : Txt K mg base) : mg "_law_cell_at" = some (.ref (He.ga K "_law_cell_at")) := He.glo_ok TX.kin TX.ns (TX.says.fact 13 (f := .glo "_law_cell_at") rfl)
theorem g__law_mixed (TX : Txt K mg base) : mg "_law_mixed" = some (.ref (He.ga K "_law_mixed")) := He.glo_ok TX.kin TX.ns (TX.says.fact 14 (f := .glo "_law_mixed") rfl)
theorem g__law_well (TX : Txt K mg base) : mg "_law_well" = some (.ref (He.ga K "_law_well")) := He.glo_ok TX.kin TX.ns (TX.says.fact 15 (f := .glo "_law_well") rfl)
theorem g__law_draw (TX : Txt K mg base) : mg "_law_draw" = some (.ref (He.ga K "_law_draw")) := He.glo_ok TX.kin TX.ns (TX.says.fact 16 (f := .glo "_law_draw") rfl)
theorem g__law_names (TX : Txt K mg base) : mg "_law_names" = some (.ref (He.ga K "_law_names")) := He.glo_ok TX.kin TX.ns (TX.says.fact 17 (f := .glo "_law_names") rfl)
theorem g__law_limits (TX : Txt K mg base) : mg "_law_limits" = some (.ref (He.ga K "_law_limits")) := He.glo_ok TX.kin TX.ns (TX.says.fact 18 (f := .glo "_law_limits") rfl)
theorem g__law_rules (TX : Txt K mg base) : mg "_law_rules" = some (.ref (He.ga K "_law_rules")) := He.glo_ok TX.kin TX.ns (TX.says.fact 19 (f := .glo "_law_rules") rfl)
theorem g__law_year (TX : Txt K mg base) : mg "_law_year" = some (.ref (He.ga K "_law_year")) := He.glo_ok TX.kin TX.ns (TX.says.fact 20 (f := .glo "_law_year") rfl)
theorem g__law_row (TX : Txt K mg base) : mg "_law_row" = some (.ref (He.ga K "_law_row")) := He.glo_ok TX.kin TX.ns (TX.says.fact 21 (f := .glo "_law_row") rfl)
theorem g__law_entry (TX : Txt K mg base) : mg "_law_entry" = some (.ref (He.ga K "_law_entry")) := He.glo_ok TX.kin TX.ns (TX.says.fact 22 (f := .glo "_law_entry") rfl)
theorem g__law_made (TX : Txt K mg base) : mg "_law_made" = some (.ref (He.ga K "_law_made")) := He.glo_ok TX.kin TX.ns (TX.says.fact 23 (f := .glo "_law_made") rfl)
theorem g__law_rows (TX : Txt K mg base) : mg "_law_rows" = some (.ref (He.ga K "_law_rows")) := He.glo_ok TX.kin TX.ns (TX.says.fact 24 (f := .glo "_law_rows") rfl)
theorem g__law_walked (TX : Txt K mg base) : mg "_law_walked" = some (.ref (He.ga K "_law_walked")) := He.glo_ok TX.kin TX.ns (TX.says.fact 25 (f := .glo "_law_walked") rfl)
theorem g__law_sums (TX : Txt K mg base) : mg "_law_sums" = some (.ref (He.ga K "_law_sums")) := He.glo_ok TX.kin TX.ns (TX.says.fact 26 (f := .glo "_law_sums") rfl)
theorem g__law_under (TX : Txt K mg base) : mg "_law_under" = some (.ref (He.ga K "_law_under")) := He.glo_ok TX.kin TX.ns (TX.says.fact 27 (f := .glo "_law_under") rfl)
theorem g__law_taken (TX : Txt K mg base) : mg "_law_taken" = some (.ref (He.ga K "_law_taken")) := He.glo_ok TX.kin TX.ns (TX.says.fact 28 (f := .glo "_law_taken") rfl)
theorem g__law_breach (TX : Txt K mg base) : mg "_law_breach" = some (.ref (He.ga K "_law_breach")) := He.glo_ok TX.kin TX.ns (TX.says.fact 29 (f := .glo "_law_breach") rfl)
theorem g_law (TX : Txt K mg base) : mg "law" = some (.ref (He.ga K "law")) := He.glo_ok TX.kin TX.ns (TX.says.fact 30 (f := .glo "law") rfl)
theorem g_Give (TX : Txt K mg base) : mg "Give" = some (.ref (He.ga K "Give")) := He.glo_ok TX.kin TX.ns (TX.says.fact 31 (f := .glo "Give") rfl)
theorem g_Hold (TX : Txt K mg base) : mg "Hold" = some (.ref (He.ga K "Hold")) := He.glo_ok TX.kin TX.ns (TX.says.fact 32 (f := .glo "Hold") rfl)
theorem g_Move (TX : Txt K mg base) : mg "Move" = some (.ref (He.ga K "Move")) := He.glo_ok TX.kin TX.ns (TX.says.fact 33 (f := .glo "Move") rfl)
theorem g_Spend (TX : Txt K mg base) : mg "Spend" = some (.ref (He.ga K "Spend")) := He.glo_ok TX.kin TX.ns (TX.says.fact 34 (f := .glo "Spend") rfl)
theorem g_Promise (TX : Txt K mg base) : mg "Promise" = some (.ref (He.ga K "Promise")) := He.glo_ok TX.kin TX.ns (TX.says.fact 35 (f := .glo "Promise") rfl)
theorem g_Lessen (TX : Txt K mg base) : mg "Lessen" = some (.ref (He.ga K "Lessen")) := He.glo_ok TX.kin TX.ns (TX.says.fact 36 (f := .glo "Lessen") rfl)
theorem g_Out (TX : Txt K mg base) : mg "Out" = some (.ref (He.ga K "Out")) := He.glo_ok TX.kin TX.ns (TX.says.fact 37 (f := .glo "Out") rfl)
theorem g_Count (TX : Txt K mg base) : mg "Count" = some (.ref (He.ga K "Count")) := He.glo_ok TX.kin TX.ns (TX.says.fact 38 (f := .glo "Count") rfl)
theorem g_Dated (TX : Txt K mg base) : mg "Dated" = some (.ref (He.ga K "Dated")) := He.glo_ok TX.kin TX.ns (TX.says.fact 39 (f := .glo "Dated") rfl)
theorem g_Year (TX : Txt K mg base) : mg "Year" = some (.ref (He.ga K "Year")) := He.glo_ok TX.kin TX.ns (TX.says.fact 40 (f := .glo "Year") rfl)
theorem g_Entry (TX : Txt K mg base) : mg "Entry" = some (.ref (He.ga K "Entry")) := He.glo_ok TX.kin TX.ns (TX.says.fact 41 (f := .glo "Entry") rfl)
theorem g_SUMS (TX : Txt K mg base) : mg "SUMS" = some (.ref (He.ga K "SUMS")) := He.glo_ok TX.kin TX.ns (TX.says.fact 42 (f := .glo "SUMS") rfl)
theorem n_isinstance (TX : Txt K mg base) : mg "isinstance" = none := He.free_ok TX.kin TX.ns (TX.says.fact 43 (f := .free "isinstance") rfl)
theorem n_int (TX : Txt K mg base) : mg "int" = none := He.free_ok TX.kin TX.ns (TX.says.fact 44 (f := .free "int") rfl)
theorem n_bool (TX : Txt K mg base) : mg "bool" = none := He.free_ok TX.kin TX.ns (TX.says.fact 45 (f := .free "bool") rfl)
theorem n_str (TX : Txt K mg base) : mg "str" = none := He.free_ok TX.kin TX.ns (TX.says.fact 46 (f := .free "str") rfl)
theorem n_list (TX : Txt K mg base) : mg "list" = none := He.free_ok TX.kin TX.ns (TX.says.fact 47 (f := .free "list") rfl)
theorem n_tuple (TX : Txt K mg base) : mg "tuple" = none := He.free_ok TX.kin TX.ns (TX.says.fact 48 (f := .free "tuple") rfl)
theorem n_dict (TX : Txt K mg base) : mg "dict" = none := He.free_ok TX.kin TX.ns (TX.says.fact 49 (f := .free "dict") rfl)
theorem n_len (TX : Txt K mg base) : mg "len" = none := He.free_ok TX.kin TX.ns (TX.says.fact 50 (f := .free "len") rfl)
theorem n_all (TX : Txt K mg base) : mg "all" = none := He.free_ok TX.kin TX.ns (TX.says.fact 51 (f := .free "all") rfl)
theorem n_range (TX : Txt K mg base) : mg "range" = none := He.free_ok TX.kin TX.ns (TX.says.fact 52 (f := .free "range") rfl)
theorem n_sorted (TX : Txt K mg base) : mg "sorted" = none := He.free_ok TX.kin TX.ns (TX.says.fact 53 (f := .free "sorted") rfl)
theorem n_min (TX : Txt K mg base) : mg "min" = none := He.free_ok TX.kin TX.ns (TX.says.fact 54 (f := .free "min") rfl)
abbrev v_LETTERS : Str := "abcdefghijklmnopqrstuvwxyz"
theorem k_LETTERS (TX : Txt K mg base) : ∃ t, mg "LETTERS" = some (.str v_LETTERS t) := He.str_ok TX.kin TX.ns (TX.says.fact 55 (f := .str "LETTERS" "abcdefghijklmnopqrstuvwxyz") rfl)
theorem k_MOST_SIGNS (TX : Txt K mg base) : ∃ t, mg "MOST_SIGNS" = some (.int 8 t) := He.int_ok TX.kin TX.ns (TX.says.fact 56 (f := .int "MOST_SIGNS" 8) rfl)
theorem k_MOST_COINS (TX : Txt K mg base) : ∃ t, mg "MOST_COINS" = some (.int 1000000000000 t) := He.int_ok TX.kin TX.ns (TX.says.fact 57 (f := .int "MOST_COINS" 1000000000000) rfl)
theorem k_LAST_UNTIL (TX : Txt K mg base) : ∃ t, mg "LAST_UNTIL" = some (.int 31 t) := He.int_ok TX.kin TX.ns (TX.says.fact 58 (f := .int "LAST_UNTIL" 31) rfl)
theorem k_MOST_ROWS (TX : Txt K mg base) : ∃ t, mg "MOST_ROWS" = some (.int 40 t) := He.int_ok TX.kin TX.ns (TX.says.fact 59 (f := .int "MOST_ROWS" 40) rfl)
theorem k_MOST_DAYS (TX : Txt K mg base) : ∃ t, mg "MOST_DAYS" = some (.int 30 t) := He.int_ok TX.kin TX.ns (TX.says.fact 60 (f := .int "MOST_DAYS" 30) rfl)
theorem k_MOST_HEADS (TX : Txt K mg base) : ∃ t, mg "MOST_HEADS" = some (.int 8 t) := He.int_ok TX.kin TX.ns (TX.says.fact 61 (f := .int "MOST_HEADS" 8) rfl)
theorem k_MOST_LIMITS (TX : Txt K mg base) : ∃ t, mg "MOST_LIMITS" = some (.int 6 t) := He.int_ok TX.kin TX.ns (TX.says.fact 62 (f := .int "MOST_LIMITS" 6) rfl)
theorem k_MOST_RULES (TX : Txt K mg base) : ∃ t, mg "MOST_RULES" = some (.int 4 t) := He.int_ok TX.kin TX.ns (TX.says.fact 63 (f := .int "MOST_RULES" 4) rfl)
theorem k_MOST_WHOLE (TX : Txt K mg base) : ∃ t, mg "MOST_WHOLE" = some (.int 1000 t) := He.int_ok TX.kin TX.ns (TX.says.fact 64 (f := .int "MOST_WHOLE" 1000) rfl)
theorem k_GREATEST (TX : Txt K mg base) : ∃ t, mg "GREATEST" = some (.int 1000000000000000 t) := He.int_ok TX.kin TX.ns (TX.says.fact 65 (f := .int "GREATEST" 1000000000000000) rfl)
theorem cl_Give (TX : Txt K mg base) : Cls K (He.ga K "Give") := He.cls_ok (TX.says.fact 66 (f := .cls "Give") rfl)
theorem cl_Hold (TX : Txt K mg base) : Cls K (He.ga K "Hold") := He.cls_ok (TX.says.fact 67 (f := .cls "Hold") rfl)
theorem cl_Move (TX : Txt K mg base) : Cls K (He.ga K "Move") := He.cls_ok (TX.says.fact 68 (f := .cls "Move") rfl)
theorem cl_Spend (TX : Txt K mg base) : Cls K (He.ga K "Spend") := He.cls_ok (TX.says.fact 69 (f := .cls "Spend") rfl)
theorem cl_Promise (TX : Txt K mg base) : Cls K (He.ga K "Promise") := He.cls_ok (TX.says.fact 70 (f := .cls "Promise") rfl)
theorem cl_Lessen (TX : Txt K mg base) : Cls K (He.ga K "Lessen") := He.cls_ok (TX.says.fact 71 (f := .cls "Lessen") rfl)
theorem cl_Out (TX : Txt K mg base) : Cls K (He.ga K "Out") := He.cls_ok (TX.says.fact 72 (f := .cls "Out") rfl)
theorem cl_Count (TX : Txt K mg base) : Cls K (He.ga K "Count") := He.cls_ok (TX.says.fact 73 (f := .cls "Count") rfl)
theorem cl_Dated (TX : Txt K mg base) : Cls K (He.ga K "Dated") := He.cls_ok (TX.says.fact 74 (f := .cls "Dated") rfl)
theorem cl_Year (TX : Txt K mg base) : Cls K (He.ga K "Year") := He.cls_ok (TX.says.fact 75 (f := .cls "Year") rfl)
theorem na_Give_head (TX : Txt K mg base) : NoAttr K (He.ga K "Give") "head" := He.noat_ok (TX.says.fact 76 (f := .noat "Give" "head") rfl)
theorem na_Give_coins (TX : Txt K mg base) : NoAttr K (He.ga K "Give") "coins" := He.noat_ok (TX.says.fact 77 (f := .noat "Give" "coins") rfl)
theorem na_Give_note (TX : Txt K mg base) : NoAttr K (He.ga K "Give") "note" := He.noat_ok (TX.says.fact 78 (f := .noat "Give" "note") rfl)
theorem na_Hold_head (TX : Txt K mg base) : NoAttr K (He.ga K "Hold") "head" := He.noat_ok (TX.says.fact 79 (f := .noat "Hold" "head") rfl)
theorem na_Hold_coins (TX : Txt K mg base) : NoAttr K (He.ga K "Hold") "coins" := He.noat_ok (TX.says.fact 80 (f := .noat "Hold" "coins") rfl)
theorem na_Hold_until (TX : Txt K mg base) : NoAttr K (He.ga K "Hold") "until" := He.noat_ok (TX.says.fact 81 (f := .noat "Hold" "until") rfl)
theorem na_Hold_note (TX : Txt K mg base) : NoAttr K (He.ga K "Hold") "note" := He.noat_ok (TX.says.fact 82 (f := .noat "Hold" "note") rfl)
theorem na_Move_head (TX : Txt K mg base) : NoAttr K (He.ga K "Move") "head" := He.noat_ok (TX.says.fact 83 (f := .noat "Move" "head") rfl)
theorem na_Move_other (TX : Txt K mg base) : NoAttr K (He.ga K "Move") "other" := He.noat_ok (TX.says.fact 84 (f := .noat "Move" "other") rfl)
theorem na_Move_coins (TX : Txt K mg base) : NoAttr K (He.ga K "Move") "coins" := He.noat_ok (TX.says.fact 85 (f := .noat "Move" "coins") rfl)
theorem na_Move_note (TX : Txt K mg base) : NoAttr K (He.ga K "Move") "note" := He.noat_ok (TX.says.fact 86 (f := .noat "Move" "note") rfl)
theorem na_Spend_head (TX : Txt K mg base) : NoAttr K (He.ga K "Spend") "head" := He.noat_ok (TX.says.fact 87 (f := .noat "Spend" "head") rfl)
theorem na_Spend_coins (TX : Txt K mg base) : NoAttr K (He.ga K "Spend") "coins" := He.noat_ok (TX.says.fact 88 (f := .noat "Spend" "coins") rfl)
theorem na_Spend_note (TX : Txt K mg base) : NoAttr K (He.ga K "Spend") "note" := He.noat_ok (TX.says.fact 89 (f := .noat "Spend" "note") rfl)
theorem na_Promise_word (TX : Txt K mg base) : NoAttr K (He.ga K "Promise") "word" := He.noat_ok (TX.says.fact 90 (f := .noat "Promise" "word") rfl)
theorem na_Promise_head (TX : Txt K mg base) : NoAttr K (He.ga K "Promise") "head" := He.noat_ok (TX.says.fact 91 (f := .noat "Promise" "head") rfl)
theorem na_Promise_coins (TX : Txt K mg base) : NoAttr K (He.ga K "Promise") "coins" := He.noat_ok (TX.says.fact 92 (f := .noat "Promise" "coins") rfl)
theorem na_Promise_note (TX : Txt K mg base) : NoAttr K (He.ga K "Promise") "note" := He.noat_ok (TX.says.fact 93 (f := .noat "Promise" "note") rfl)
theorem na_Lessen_word (TX : Txt K mg base) : NoAttr K (He.ga K "Lessen") "word" := He.noat_ok (TX.says.fact 94 (f := .noat "Lessen" "word") rfl)
theorem na_Lessen_coins (TX : Txt K mg base) : NoAttr K (He.ga K "Lessen") "coins" := He.noat_ok (TX.says.fact 95 (f := .noat "Lessen" "coins") rfl)
theorem na_Lessen_note (TX : Txt K mg base) : NoAttr K (He.ga K "Lessen") "note" := He.noat_ok (TX.says.fact 96 (f := .noat "Lessen" "note") rfl)
theorem na_Out_word (TX : Txt K mg base) : NoAttr K (He.ga K "Out") "word" := He.noat_ok (TX.says.fact 97 (f := .noat "Out" "word") rfl)
theorem na_Out_coins (TX : Txt K mg base) : NoAttr K (He.ga K "Out") "coins" := He.noat_ok (TX.says.fact 98 (f := .noat "Out" "coins") rfl)
theorem na_Out_note (TX : Txt K mg base) : NoAttr K (He.ga K "Out") "note" := He.noat_ok (TX.says.fact 99 (f := .noat "Out" "note") rfl)
theorem na_Count_year (TX : Txt K mg base) : NoAttr K (He.ga K "Count") "year" := He.noat_ok (TX.says.fact 100 (f := .noat "Count" "year") rfl)
theorem na_Count_money (TX : Txt K mg base) : NoAttr K (He.ga K "Count") "money" := He.noat_ok (TX.says.fact 101 (f := .noat "Count" "money") rfl)
theorem na_Count_words (TX : Txt K mg base) : NoAttr K (He.ga K "Count") "words" := He.noat_ok (TX.says.fact 102 (f := .noat "Count" "words") rfl)
theorem na_Count_loads (TX : Txt K mg base) : NoAttr K (He.ga K "Count") "loads" := He.noat_ok (TX.says.fact 103 (f := .noat "Count" "loads") rfl)
theorem na_Count_beneath (TX : Txt K mg base) : NoAttr K (He.ga K "Count") "beneath" := He.noat_ok (TX.says.fact 104 (f := .noat "Count" "beneath") rfl)
theorem na_Count_ends (TX : Txt K mg base) : NoAttr K (He.ga K "Count") "ends" := He.noat_ok (TX.says.fact 105 (f := .noat "Count" "ends") rfl)
theorem na_Dated_year (TX : Txt K mg base) : NoAttr K (He.ga K "Dated") "year" := He.noat_ok (TX.says.fact 106 (f := .noat "Dated" "year") rfl)
theorem na_Dated_stands (TX : Txt K mg base) : NoAttr K (He.ga K "Dated") "stands" := He.noat_ok (TX.says.fact 107 (f := .noat "Dated" "stands") rfl)
theorem na_Dated_first (TX : Txt K mg base) : NoAttr K (He.ga K "Dated") "first" := He.noat_ok (TX.says.fact 108 (f := .noat "Dated" "first") rfl)
theorem na_Year_days (TX : Txt K mg base) : NoAttr K (He.ga K "Year") "days" := He.noat_ok (TX.says.fact 109 (f := .noat "Year" "days") rfl)
theorem na_Year_heads (TX : Txt K mg base) : NoAttr K (He.ga K "Year") "heads" := He.noat_ok (TX.says.fact 110 (f := .noat "Year" "heads") rfl)
theorem na_Year_limits (TX : Txt K mg base) : NoAttr K (He.ga K "Year") "limits" := He.noat_ok (TX.says.fact 111 (f := .noat "Year" "limits") rfl)
theorem na_Year_rules (TX : Txt K mg base) : NoAttr K (He.ga K "Year") "rules" := He.noat_ok (TX.says.fact 112 (f := .noat "Year" "rules") rfl)
theorem me_Give_told (TX : Txt K mg base) : Meth K (He.ga K "Give") "told" (He.ma K (He.ga K "Give") "told") := He.meth_ok (TX.says.fact 113 (f := .meth "Give" "told") rfl)
theorem me_Give_named (TX : Txt K mg base) : Meth K (He.ga K "Give") "named" (He.ma K (He.ga K "Give") "named") := He.meth_ok (TX.says.fact 114 (f := .meth "Give" "named") rfl)
theorem me_Give_fits (TX : Txt K mg base) : Meth K (He.ga K "Give") "fits" (He.ma K (He.ga K "Give") "fits") := He.meth_ok (TX.says.fact 115 (f := .meth "Give" "fits") rfl)
theorem me_Give_lasts (TX : Txt K mg base) : Meth K (He.ga K "Give") "lasts" (He.ma K (He.ga K "Give") "lasts") := He.meth_ok (TX.says.fact 116 (f := .meth "Give" "lasts") rfl)
theorem me_Hold_told (TX : Txt K mg base) : Meth K (He.ga K "Hold") "told" (He.ma K (He.ga K "Hold") "told") := He.meth_ok (TX.says.fact 117 (f := .meth "Hold" "told") rfl)
theorem me_Hold_named (TX : Txt K mg base) : Meth K (He.ga K "Hold") "named" (He.ma K (He.ga K "Hold") "named") := He.meth_ok (TX.says.fact 118 (f := .meth "Hold" "named") rfl)
theorem me_Hold_lasts (TX : Txt K mg base) : Meth K (He.ga K "Hold") "lasts" (He.ma K (He.ga K "Hold") "lasts") := He.meth_ok (TX.says.fact 119 (f := .meth "Hold" "lasts") rfl)
theorem me_Hold_fits (TX : Txt K mg base) : Meth K (He.ga K "Hold") "fits" (He.ma K (He.ga K "Hold") "fits") := He.meth_ok (TX.says.fact 120 (f := .meth "Hold" "fits") rfl)
theorem me_Move_told (TX : Txt K mg base) : Meth K (He.ga K "Move") "told" (He.ma K (He.ga K "Move") "told") := He.meth_ok (TX.says.fact 121 (f := .meth "Move" "told") rfl)
theorem me_Move_named (TX : Txt K mg base) : Meth K (He.ga K "Move") "named" (He.ma K (He.ga K "Move") "named") := He.meth_ok (TX.says.fact 122 (f := .meth "Move" "named") rfl)
theorem me_Move_fits (TX : Txt K mg base) : Meth K (He.ga K "Move") "fits" (He.ma K (He.ga K "Move") "fits") := He.meth_ok (TX.says.fact 123 (f := .meth "Move" "fits") rfl)
theorem me_Move_lasts (TX : Txt K mg base) : Meth K (He.ga K "Move") "lasts" (He.ma K (He.ga K "Move") "lasts") := He.meth_ok (TX.says.fact 124 (f := .meth "Move" "lasts") rfl)
theorem me_Spend_told (TX : Txt K mg base) : Meth K (He.ga K "Spend") "told" (He.ma K (He.ga K "Spend") "told") := He.meth_ok (TX.says.fact 125 (f := .meth "Spend" "told") rfl)
theorem me_Spend_named (TX : Txt K mg base) : Meth K (He.ga K "Spend") "named" (He.ma K (He.ga K "Spend") "named") := He.meth_ok (TX.says.fact 126 (f := .meth "Spend" "named") rfl)
theorem me_Spend_fits (TX : Txt K mg base) : Meth K (He.ga K "Spend") "fits" (He.ma K (He.ga K "Spend") "fits") := He.meth_ok (TX.says.fact 127 (f := .meth "Spend" "fits") rfl)
theorem me_Spend_lasts (TX : Txt K mg base) : Meth K (He.ga K "Spend") "lasts" (He.ma K (He.ga K "Spend") "lasts") := He.meth_ok (TX.says.fact 128 (f := .meth "Spend" "lasts") rfl)
theorem me_Promise_told (TX : Txt K mg base) : Meth K (He.ga K "Promise") "told" (He.ma K (He.ga K "Promise") "told") := He.meth_ok (TX.says.fact 129 (f := .meth "Promise" "told") rfl)
theorem me_Promise_named (TX : Txt K mg base) : Meth K (He.ga K "Promise") "named" (He.ma K (He.ga K "Promise") "named") := He.meth_ok (TX.says.fact 130 (f := .meth "Promise" "named") rfl)
theorem me_Promise_fits (TX : Txt K mg base) : Meth K (He.ga K "Promise") "fits" (He.ma K (He.ga K "Promise") "fits") := He.meth_ok (TX.says.fact 131 (f := .meth "Promise" "fits") rfl)
theorem me_Promise_lasts (TX : Txt K mg base) : Meth K (He.ga K "Promise") "lasts" (He.ma K (He.ga K "Promise") "lasts") := He.meth_ok (TX.says.fact 132 (f := .meth "Promise" "lasts") rfl)
theorem me_Lessen_told (TX : Txt K mg base) : Meth K (He.ga K "Lessen") "told" (He.ma K (He.ga K "Lessen") "told") := He.meth_ok (TX.says.fact 133 (f := .meth "Lessen" "told") rfl)
theorem me_Lessen_fits (TX : Txt K mg base) : Meth K (He.ga K "Lessen") "fits" (He.ma K (He.ga K "Lessen") "fits") := He.meth_ok (TX.says.fact 134 (f := .meth "Lessen" "fits") rfl)
theorem me_Lessen_lasts (TX : Txt K mg base) : Meth K (He.ga K "Lessen") "lasts" (He.ma K (He.ga K "Lessen") "lasts") := He.meth_ok (TX.says.fact 135 (f := .meth "Lessen" "lasts") rfl)
theorem me_Lessen_named (TX : Txt K mg base) : Meth K (He.ga K "Lessen") "named" (He.ma K (He.ga K "Lessen") "named") := He.meth_ok (TX.says.fact 136 (f := .meth "Lessen" "named") rfl)
theorem me_Out_told (TX : Txt K mg base) : Meth K (He.ga K "Out") "told" (He.ma K (He.ga K "Out") "told") := He.meth_ok (TX.says.fact 137 (f := .meth "Out" "told") rfl)
theorem me_Out_fits (TX : Txt K mg base) : Meth K (He.ga K "Out") "fits" (He.ma K (He.ga K "Out") "fits") := He.meth_ok (TX.says.fact 138 (f := .meth "Out" "fits") rfl)
theorem me_Out_lasts (TX : Txt K mg base) : Meth K (He.ga K "Out") "lasts" (He.ma K (He.ga K "Out") "lasts") := He.meth_ok (TX.says.fact 139 (f := .meth "Out" "lasts") rfl)
theorem me_Out_named (TX : Txt K mg base) : Meth K (He.ga K "Out") "named" (He.ma K (He.ga K "Out") "named") := He.meth_ok (TX.says.fact 140 (f := .meth "Out" "named") rfl)
theorem me_Count_begin (TX : Txt K mg base) : Meth K (He.ga K "Count") "begin" (He.ma K (He.ga K "Count") "begin") := He.meth_ok (TX.says.fact 141 (f := .meth "Count" "begin") rfl)
theorem me_Count_hold (TX : Txt K mg base) : Meth K (He.ga K "Count") "hold" (He.ma K (He.ga K "Count") "hold") := He.meth_ok (TX.says.fact 142 (f := .meth "Count" "hold") rfl)
theorem me_Count_load (TX : Txt K mg base) : Meth K (He.ga K "Count") "load" (He.ma K (He.ga K "Count") "load") := He.meth_ok (TX.says.fact 143 (f := .meth "Count" "load") rfl)
theorem me_Count_is_fault (TX : Txt K mg base) : Meth K (He.ga K "Count") "is_fault" (He.ma K (He.ga K "Count") "is_fault") := He.meth_ok (TX.says.fact 144 (f := .meth "Count" "is_fault") rfl)
theorem me_Count_put_promise (TX : Txt K mg base) : Meth K (He.ga K "Count") "put_promise" (He.ma K (He.ga K "Count") "put_promise") := He.meth_ok (TX.says.fact 145 (f := .meth "Count" "put_promise") rfl)
theorem me_Count_put_other (TX : Txt K mg base) : Meth K (He.ga K "Count") "put_other" (He.ma K (He.ga K "Count") "put_other") := He.meth_ok (TX.says.fact 146 (f := .meth "Count" "put_other") rfl)
theorem me_Count_put (TX : Txt K mg base) : Meth K (He.ga K "Count") "put" (He.ma K (He.ga K "Count") "put") := He.meth_ok (TX.says.fact 147 (f := .meth "Count" "put") rfl)
theorem me_Count_left (TX : Txt K mg base) : Meth K (He.ga K "Count") "left" (He.ma K (He.ga K "Count") "left") := He.meth_ok (TX.says.fact 148 (f := .meth "Count" "left") rfl)
theorem me_Count_passed (TX : Txt K mg base) : Meth K (He.ga K "Count") "passed" (He.ma K (He.ga K "Count") "passed") := He.meth_ok (TX.says.fact 149 (f := .meth "Count" "passed") rfl)
theorem me_Count_stand (TX : Txt K mg base) : Meth K (He.ga K "Count") "stand" (He.ma K (He.ga K "Count") "stand") := He.meth_ok (TX.says.fact 150 (f := .meth "Count" "stand") rfl)
theorem me_Dated_settle (TX : Txt K mg base) : Meth K (He.ga K "Dated") "settle" (He.ma K (He.ga K "Dated") "settle") := He.meth_ok (TX.says.fact 151 (f := .meth "Dated" "settle") rfl)
theorem me_Dated_breach (TX : Txt K mg base) : Meth K (He.ga K "Dated") "breach" (He.ma K (He.ga K "Dated") "breach") := He.meth_ok (TX.says.fact 152 (f := .meth "Dated" "breach") rfl)
theorem me_Year_names (TX : Txt K mg base) : Meth K (He.ga K "Year") "names" (He.ma K (He.ga K "Year") "names") := He.meth_ok (TX.says.fact 153 (f := .meth "Year" "names") rfl)
theorem me_Year_above (TX : Txt K mg base) : Meth K (He.ga K "Year") "above" (He.ma K (He.ga K "Year") "above") := He.meth_ok (TX.says.fact 154 (f := .meth "Year" "above") rfl)
theorem me_Year_knots (TX : Txt K mg base) : Meth K (He.ga K "Year") "knots" (He.ma K (He.ga K "Year") "knots") := He.meth_ok (TX.says.fact 155 (f := .meth "Year" "knots") rfl)
theorem me_Year_under (TX : Txt K mg base) : Meth K (He.ga K "Year") "under" (He.ma K (He.ga K "Year") "under") := He.meth_ok (TX.says.fact 156 (f := .meth "Year" "under") rfl)
theorem mk_Give (TX : Txt K mg base) : Mk K (He.ga K "Give") (He.ma K (He.ga K "Give") "__init__") := He.mkr_ok (TX.says.fact 157 (f := .mkr "Give") rfl)
theorem mk_Hold (TX : Txt K mg base) : Mk K (He.ga K "Hold") (He.ma K (He.ga K "Hold") "__init__") := He.mkr_ok (TX.says.fact 158 (f := .mkr "Hold") rfl)
theorem mk_Move (TX : Txt K mg base) : Mk K (He.ga K "Move") (He.ma K (He.ga K "Move") "__init__") := He.mkr_ok (TX.says.fact 159 (f := .mkr "Move") rfl)
theorem mk_Spend (TX : Txt K mg base) : Mk K (He.ga K "Spend") (He.ma K (He.ga K "Spend") "__init__") := He.mkr_ok (TX.says.fact 160 (f := .mkr "Spend") rfl)
theorem mk_Promise (TX : Txt K mg base) : Mk K (He.ga K "Promise") (He.ma K (He.ga K "Promise") "__init__") := He.mkr_ok (TX.says.fact 161 (f := .mkr "Promise") rfl)
theorem mk_Lessen (TX : Txt K mg base) : Mk K (He.ga K "Lessen") (He.ma K (He.ga K "Lessen") "__init__") := He.mkr_ok (TX.says.fact 162 (f := .mkr "Lessen") rfl)
theorem mk_Out (TX : Txt K mg base) : Mk K (He.ga K "Out") (He.ma K (He.ga K "Out") "__init__") := He.mkr_ok (TX.says.fact 163 (f := .mkr "Out") rfl)
theorem mk_Count (TX : Txt K mg base) : Mk K (He.ga K "Count") (He.ma K (He.ga K "Count") "__init__") := He.mkr_ok (TX.says.fact 164 (f := .mkr "Count") rfl)
theorem mk_Dated (TX : Txt K mg base) : Mk K (He.ga K "Dated") (He.ma K (He.ga K "Dated") "__init__") := He.mkr_ok (TX.says.fact 165 (f := .mkr "Dated") rfl)
theorem mk_Year (TX : Txt K mg base) : Mk K (He.ga K "Year") (He.ma K (He.ga K "Year") "__init__") := He.mkr_ok (TX.says.fact 166 (f := .mkr "Year") rfl)
theorem fn_is_whole (TX : Txt K mg base) : ∃ fd, FunD K "is_whole" "is_whole" (defArgs s_is_whole) (defBody s_is_whole) (defScope s_is_whole) [] [] (He.fAd K ("is_whole", none)) fd := TX.says.def_ 0 (d := d_is_whole) rfl
theorem fn_within (TX : Txt K mg base) : ∃ fd, FunD K "within" "within" (defArgs s_within) (defBody s_within) (defScope s_within) [] [] (He.fAd K ("within", none)) fd := TX.says.def_ 1 (d := d_within) rfl
theorem fn_is_name (TX : Txt K mg base) : ∃ fd, FunD K "is_name" "is_name" (defArgs s_is_name) (defBody s_is_name) (defScope s_is_name) [] [] (He.fAd K ("is_name", none)) fd := TX.says.def_ 2 (d := d_is_name) rfl
theorem fn_check (TX : Txt K mg base) : ∃ fd, FunD K "check" "check" (defArgs s_check) (defBody s_check) (defScope s_check) [] [] (He.fAd K ("check", none)) fd := TX.says.def_ 3 (d := d_check) rfl
theorem fn_check_coins (TX : Txt K mg base) : ∃ fd, FunD K "check_coins" "check_coins" (defArgs s_check_coins) (defBody s_check_coins) (defScope s_check_coins) [] [] (He.fAd K ("check_coins", none)) fd := TX.says.def_ 4 (d := d_check_coins) rfl
theorem fn_Entry_named (TX : Txt K mg base) : ∃ fd, FunD K "named" "Entry.named" (defArgs s_Entry_named) (defBody s_Entry_named) (defScope s_Entry_named) [] [] (He.fAd K ("Entry", some "named")) fd := TX.says.def_ 5 (d := d_Entry_named) rfl
theorem fn_Entry_lasts (TX : Txt K mg base) : ∃ fd, FunD K "lasts" "Entry.lasts" (defArgs s_Entry_lasts) (defBody s_Entry_lasts) (defScope s_Entry_lasts) [] [] (He.fAd K ("Entry", some "lasts")) fd := TX.says.def_ 6 (d := d_Entry_lasts) rfl
theorem fn_Entry_fits (TX : Txt K mg base) : ∃ fd, FunD K "fits" "Entry.fits" (defArgs s_Entry_fits) (defBody s_Entry_fits) (defScope s_Entry_fits) [] [] (He.fAd K ("Entry", some "fits")) fd := TX.says.def_ 7 (d := d_Entry_fits) rfl
theorem fn_Give_init (TX : Txt K mg base) : ∃ fd, FunD K "__init__" "Give.__init__" (defArgs s_Give_init) (defBody s_Give_init) (defScope s_Give_init) [] [] (He.fAd K ("Give", some "__init__")) fd := TX.says.def_ 8 (d := d_Give_init) rfl
theorem fn_Give_told (TX : Txt K mg base) : ∃ fd, FunD K "told" "Give.told" (defArgs s_Give_told) (defBody s_Give_told) (defScope s_Give_told) [] [] (He.fAd K ("Give", some "told")) fd := TX.says.def_ 9 (d := d_Give_told) rfl
theorem fn_Give_named (TX : Txt K mg base) : ∃ fd, FunD K "named" "Give.named" (defArgs s_Give_named) (defBody s_Give_named) (defScope s_Give_named) [] [] (He.fAd K ("Give", some "named")) fd := TX.says.def_ 10 (d := d_Give_named) rfl
theorem fn_Hold_init (TX : Txt K mg base) : ∃ fd, FunD K "__init__" "Hold.__init__" (defArgs s_Hold_init) (defBody s_Hold_init) (defScope s_Hold_init) [] [] (He.fAd K ("Hold", some "__init__")) fd := TX.says.def_ 11 (d := d_Hold_init) rfl
theorem fn_Hold_told (TX : Txt K mg base) : ∃ fd, FunD K "told" "Hold.told" (defArgs s_Hold_told) (defBody s_Hold_told) (defScope s_Hold_told) [] [] (He.fAd K ("Hold", some "told")) fd := TX.says.def_ 12 (d := d_Hold_told) rfl
theorem fn_Hold_named (TX : Txt K mg base) : ∃ fd, FunD K "named" "Hold.named" (defArgs s_Hold_named) (defBody s_Hold_named) (defScope s_Hold_named) [] [] (He.fAd K ("Hold", some "named")) fd := TX.says.def_ 13 (d := d_Hold_named) rfl
theorem fn_Hold_lasts (TX : Txt K mg base) : ∃ fd, FunD K "lasts" "Hold.lasts" (defArgs s_Hold_lasts) (defBody s_Hold_lasts) (defScope s_Hold_lasts) [] [] (He.fAd K ("Hold", some "lasts")) fd := TX.says.def_ 14 (d := d_Hold_lasts) rfl
theorem fn_Move_init (TX : Txt K mg base) : ∃ fd, FunD K "__init__" "Move.__init__" (defArgs s_Move_init) (defBody s_Move_init) (defScope s_Move_init) [] [] (He.fAd K ("Move", some "__init__")) fd := TX.says.def_ 15 (d := d_Move_init) rfl
theorem fn_Move_told (TX : Txt K mg base) : ∃ fd, FunD K "told" "Move.told" (defArgs s_Move_told) (defBody s_Move_told) (defScope s_Move_told) [] [] (He.fAd K ("Move", some "told")) fd := TX.says.def_ 16 (d := d_Move_told) rfl
theorem fn_Move_named (TX : Txt K mg base) : ∃ fd, FunD K "named" "Move.named" (defArgs s_Move_named) (defBody s_Move_named) (defScope s_Move_named) [] [] (He.fAd K ("Move", some "named")) fd := TX.says.def_ 17 (d := d_Move_named) rfl
theorem fn_Spend_init (TX : Txt K mg base) : ∃ fd, FunD K "__init__" "Spend.__init__" (defArgs s_Spend_init) (defBody s_Spend_init) (defScope s_Spend_init) [] [] (He.fAd K ("Spend", some "__init__")) fd := TX.says.def_ 18 (d := d_Spend_init) rfl
theorem fn_Spend_told (TX : Txt K mg base) : ∃ fd, FunD K "told" "Spend.told" (defArgs s_Spend_told) (defBody s_Spend_told) (defScope s_Spend_told) [] [] (He.fAd K ("Spend", some "told")) fd := TX.says.def_ 19 (d := d_Spend_told) rfl
theorem fn_Spend_named (TX : Txt K mg base) : ∃ fd, FunD K "named" "Spend.named" (defArgs s_Spend_named) (defBody s_Spend_named) (defScope s_Spend_named) [] [] (He.fAd K ("Spend", some "named")) fd := TX.says.def_ 20 (d := d_Spend_named) rfl
theorem fn_Promise_init (TX : Txt K mg base) : ∃ fd, FunD K "__init__" "Promise.__init__" (defArgs s_Promise_init) (defBody s_Promise_init) (defScope s_Promise_init) [] [] (He.fAd K ("Promise", some "__init__")) fd := TX.says.def_ 21 (d := d_Promise_init) rfl
theorem fn_Promise_told (TX : Txt K mg base) : ∃ fd, FunD K "told" "Promise.told" (defArgs s_Promise_told) (defBody s_Promise_told) (defScope s_Promise_told) [] [] (He.fAd K ("Promise", some "told")) fd := TX.says.def_ 22 (d := d_Promise_told) rfl
theorem fn_Promise_named (TX : Txt K mg base) : ∃ fd, FunD K "named" "Promise.named" (defArgs s_Promise_named) (defBody s_Promise_named) (defScope s_Promise_named) [] [] (He.fAd K ("Promise", some "named")) fd := TX.says.def_ 23 (d := d_Promise_named) rfl
theorem fn_Lessen_init (TX : Txt K mg base) : ∃ fd, FunD K "__init__" "Lessen.__init__" (defArgs s_Lessen_init) (defBody s_Lessen_init) (defScope s_Lessen_init) [] [] (He.fAd K ("Lessen", some "__init__")) fd := TX.says.def_ 24 (d := d_Lessen_init) rfl
theorem fn_Lessen_told (TX : Txt K mg base) : ∃ fd, FunD K "told" "Lessen.told" (defArgs s_Lessen_told) (defBody s_Lessen_told) (defScope s_Lessen_told) [] [] (He.fAd K ("Lessen", some "told")) fd := TX.says.def_ 25 (d := d_Lessen_told) rfl
theorem fn_Out_init (TX : Txt K mg base) : ∃ fd, FunD K "__init__" "Out.__init__" (defArgs s_Out_init) (defBody s_Out_init) (defScope s_Out_init) [] [] (He.fAd K ("Out", some "__init__")) fd := TX.says.def_ 26 (d := d_Out_init) rfl
theorem fn_Out_told (TX : Txt K mg base) : ∃ fd, FunD K "told" "Out.told" (defArgs s_Out_told) (defBody s_Out_told) (defScope s_Out_told) [] [] (He.fAd K ("Out", some "told")) fd := TX.says.def_ 27 (d := d_Out_told) rfl
theorem fn_is_day (TX : Txt K mg base) : ∃ fd, FunD K "is_day" "is_day" (defArgs s_is_day) (defBody s_is_day) (defScope s_is_day) [] [] (He.fAd K ("is_day", none)) fd := TX.says.def_ 28 (d := d_is_day) rfl
theorem fn_is_row (TX : Txt K mg base) : ∃ fd, FunD K "is_row" "is_row" (defArgs s_is_row) (defBody s_is_row) (defScope s_is_row) [] [] (He.fAd K ("is_row", none)) fd := TX.says.def_ 29 (d := d_is_row) rfl
theorem fn_turn_of (TX : Txt K mg base) : ∃ fd, FunD K "turn_of" "turn_of" (defArgs s_turn_of) (defBody s_turn_of) (defScope s_turn_of) [] [] (He.fAd K ("turn_of", none)) fd := TX.says.def_ 30 (d := d_turn_of) rfl
theorem fn_gone_through (TX : Txt K mg base) : ∃ fd, FunD K "gone_through" "gone_through" (defArgs s_gone_through) (defBody s_gone_through) (defScope s_gone_through) [] [] (He.fAd K ("gone_through", none)) fd := TX.says.def_ 31 (d := d_gone_through) rfl
theorem fn_Count_init (TX : Txt K mg base) : ∃ fd, FunD K "__init__" "Count.__init__" (defArgs s_Count_init) (defBody s_Count_init) (defScope s_Count_init) [] [] (He.fAd K ("Count", some "__init__")) fd := TX.says.def_ 32 (d := d_Count_init) rfl
theorem fn_Count_begin (TX : Txt K mg base) : ∃ fd, FunD K "begin" "Count.begin" (defArgs s_Count_begin) (defBody s_Count_begin) (defScope s_Count_begin) [] [] (He.fAd K ("Count", some "begin")) fd := TX.says.def_ 33 (d := d_Count_begin) rfl
theorem fn_Count_hold (TX : Txt K mg base) : ∃ fd, FunD K "hold" "Count.hold" (defArgs s_Count_hold) (defBody s_Count_hold) (defScope s_Count_hold) [] [] (He.fAd K ("Count", some "hold")) fd := TX.says.def_ 34 (d := d_Count_hold) rfl
theorem fn_Count_load (TX : Txt K mg base) : ∃ fd, FunD K "load" "Count.load" (defArgs s_Count_load) (defBody s_Count_load) (defScope s_Count_load) [] [] (He.fAd K ("Count", some "load")) fd := TX.says.def_ 35 (d := d_Count_load) rfl
theorem fn_Count_is_fault (TX : Txt K mg base) : ∃ fd, FunD K "is_fault" "Count.is_fault" (defArgs s_Count_is_fault) (defBody s_Count_is_fault) (defScope s_Count_is_fault) [] [] (He.fAd K ("Count", some "is_fault")) fd := TX.says.def_ 36 (d := d_Count_is_fault) rfl
theorem fn_Count_put_promise (TX : Txt K mg base) : ∃ fd, FunD K "put_promise" "Count.put_promise" (defArgs s_Count_put_promise) (defBody s_Count_put_promise) (defScope s_Count_put_promise) [] [] (He.fAd K ("Count", some "put_promise")) fd := TX.says.def_ 37 (d := d_Count_put_promise) rfl
theorem fn_Count_put_other (TX : Txt K mg base) : ∃ fd, FunD K "put_other" "Count.put_other" (defArgs s_Count_put_other) (defBody s_Count_put_other) (defScope s_Count_put_other) [] [] (He.fAd K ("Count", some "put_other")) fd := TX.says.def_ 38 (d := d_Count_put_other) rfl
theorem fn_Count_put (TX : Txt K mg base) : ∃ fd, FunD K "put" "Count.put" (defArgs s_Count_put) (defBody s_Count_put) (defScope s_Count_put) [] [] (He.fAd K ("Count", some "put")) fd := TX.says.def_ 39 (d := d_Count_put) rfl
theorem fn_Count_left (TX : Txt K mg base) : ∃ fd, FunD K "left" "Count.left" (defArgs s_Count_left) (defBody s_Count_left) (defScope s_Count_left) [] [] (He.fAd K ("Count", some "left")) fd := TX.says.def_ 40 (d := d_Count_left) rfl
theorem fn_Count_passed (TX : Txt K mg base) : ∃ fd, FunD K "passed" "Count.passed" (defArgs s_Count_passed) (defBody s_Count_passed) (defScope s_Count_passed) [] [] (He.fAd K ("Count", some "passed")) fd := TX.says.def_ 41 (d := d_Count_passed) rfl
theorem fn_Count_stand (TX : Txt K mg base) : ∃ fd, FunD K "stand" "Count.stand" (defArgs s_Count_stand) (defBody s_Count_stand) (defScope s_Count_stand) [] [] (He.fAd K ("Count", some "stand")) fd := TX.says.def_ 42 (d := d_Count_stand) rfl
theorem fn_Dated_init (TX : Txt K mg base) : ∃ fd, FunD K "__init__" "Dated.__init__" (defArgs s_Dated_init) (defBody s_Dated_init) (defScope s_Dated_init) [] [] (He.fAd K ("Dated", some "__init__")) fd := TX.says.def_ 43 (d := d_Dated_init) rfl
theorem fn_Dated_settle (TX : Txt K mg base) : ∃ fd, FunD K "settle" "Dated.settle" (defArgs s_Dated_settle) (defBody s_Dated_settle) (defScope s_Dated_settle) [] [] (He.fAd K ("Dated", some "settle")) fd := TX.says.def_ 44 (d := d_Dated_settle) rfl
theorem fn_Dated_breach (TX : Txt K mg base) : ∃ fd, FunD K "breach" "Dated.breach" (defArgs s_Dated_breach) (defBody s_Dated_breach) (defScope s_Dated_breach) [] [] (He.fAd K ("Dated", some "breach")) fd := TX.says.def_ 45 (d := d_Dated_breach) rfl
theorem fn_are_tuples (TX : Txt K mg base) : ∃ fd, FunD K "are_tuples" "are_tuples" (defArgs s_are_tuples) (defBody s_are_tuples) (defScope s_are_tuples) [] [] (He.fAd K ("are_tuples", none)) fd := TX.says.def_ 46 (d := d_are_tuples) rfl
theorem fn_are_heads (TX : Txt K mg base) : ∃ fd, FunD K "are_heads" "are_heads" (defArgs s_are_heads) (defBody s_are_heads) (defScope s_are_heads) [] [] (He.fAd K ("are_heads", none)) fd := TX.says.def_ 47 (d := d_are_heads) rfl
theorem fn_are_limits (TX : Txt K mg base) : ∃ fd, FunD K "are_limits" "are_limits" (defArgs s_are_limits) (defBody s_are_limits) (defScope s_are_limits) [] [] (He.fAd K ("are_limits", none)) fd := TX.says.def_ 48 (d := d_are_limits) rfl
theorem fn_are_rules (TX : Txt K mg base) : ∃ fd, FunD K "are_rules" "are_rules" (defArgs s_are_rules) (defBody s_are_rules) (defScope s_are_rules) [] [] (He.fAd K ("are_rules", none)) fd := TX.says.def_ 49 (d := d_are_rules) rfl
theorem fn_Year_init (TX : Txt K mg base) : ∃ fd, FunD K "__init__" "Year.__init__" (defArgs s_Year_init) (defBody s_Year_init) (defScope s_Year_init) [] [] (He.fAd K ("Year", some "__init__")) fd := TX.says.def_ 50 (d := d_Year_init) rfl
theorem fn_Year_names (TX : Txt K mg base) : ∃ fd, FunD K "names" "Year.names" (defArgs s_Year_names) (defBody s_Year_names) (defScope s_Year_names) [] [] (He.fAd K ("Year", some "names")) fd := TX.says.def_ 51 (d := d_Year_names) rfl
theorem fn_Year_above (TX : Txt K mg base) : ∃ fd, FunD K "above" "Year.above" (defArgs s_Year_above) (defBody s_Year_above) (defScope s_Year_above) [] [] (He.fAd K ("Year", some "above")) fd := TX.says.def_ 52 (d := d_Year_above) rfl
theorem fn_Year_knots (TX : Txt K mg base) : ∃ fd, FunD K "knots" "Year.knots" (defArgs s_Year_knots) (defBody s_Year_knots) (defScope s_Year_knots) [] [] (He.fAd K ("Year", some "knots")) fd := TX.says.def_ 53 (d := d_Year_knots) rfl
theorem fn_Year_under (TX : Txt K mg base) : ∃ fd, FunD K "under" "Year.under" (defArgs s_Year_under) (defBody s_Year_under) (defScope s_Year_under) [] [] (He.fAd K ("Year", some "under")) fd := TX.says.def_ 54 (d := d_Year_under) rfl
theorem fn_l_cell_at (TX : Txt K mg base) : ∃ fd, FunD K "_law_cell_at" "_law_cell_at" (defArgs s_l_cell_at) (defBody s_l_cell_at) (defScope s_l_cell_at) [] [] (He.fAd K ("_law_cell_at", none)) fd := TX.says.def_ 55 (d := d_l_cell_at) rfl
theorem fn_l_mixed (TX : Txt K mg base) : ∃ fd, FunD K "_law_mixed" "_law_mixed" (defArgs s_l_mixed) (defBody s_l_mixed) (defScope s_l_mixed) [] [] (He.fAd K ("_law_mixed", none)) fd := TX.says.def_ 56 (d := d_l_mixed) rfl
theorem fn_l_well (TX : Txt K mg base) : ∃ fd, FunD K "_law_well" "_law_well" (defArgs s_l_well) (defBody s_l_well) (defScope s_l_well) [] [] (He.fAd K ("_law_well", none)) fd := TX.says.def_ 57 (d := d_l_well) rfl
theorem fn_l_draw (TX : Txt K mg base) : ∃ fd, FunD K "_law_draw" "_law_draw" (defArgs s_l_draw) (defBody s_l_draw) (defScope s_l_draw) [] [] (He.fAd K ("_law_draw", none)) fd := TX.says.def_ 58 (d := d_l_draw) rfl
theorem fn_l_names (TX : Txt K mg base) : ∃ fd, FunD K "_law_names" "_law_names" (defArgs s_l_names) (defBody s_l_names) (defScope s_l_names) [] [] (He.fAd K ("_law_names", none)) fd := TX.says.def_ 59 (d := d_l_names) rfl
theorem fn_l_limits (TX : Txt K mg base) : ∃ fd, FunD K "_law_limits" "_law_limits" (defArgs s_l_limits) (defBody s_l_limits) (defScope s_l_limits) [] [] (He.fAd K ("_law_limits", none)) fd := TX.says.def_ 60 (d := d_l_limits) rfl
theorem fn_l_rules (TX : Txt K mg base) : ∃ fd, FunD K "_law_rules" "_law_rules" (defArgs s_l_rules) (defBody s_l_rules) (defScope s_l_rules) [] [] (He.fAd K ("_law_rules", none)) fd := TX.says.def_ 61 (d := d_l_rules) rfl
theorem fn_l_year (TX : Txt K mg base) : ∃ fd, FunD K "_law_year" "_law_year" (defArgs s_l_year) (defBody s_l_year) (defScope s_l_year) [] [] (He.fAd K ("_law_year", none)) fd := TX.says.def_ 62 (d := d_l_year) rfl
theorem fn_l_row (TX : Txt K mg base) : ∃ fd, FunD K "_law_row" "_law_row" (defArgs s_l_row) (defBody s_l_row) (defScope s_l_row) [] [] (He.fAd K ("_law_row", none)) fd := TX.says.def_ 63 (d := d_l_row) rfl
theorem fn_l_entry (TX : Txt K mg base) : ∃ fd, FunD K "_law_entry" "_law_entry" (defArgs s_l_entry) (defBody s_l_entry) (defScope s_l_entry) [] [] (He.fAd K ("_law_entry", none)) fd := TX.says.def_ 64 (d := d_l_entry) rfl
theorem fn_l_made (TX : Txt K mg base) : ∃ fd, FunD K "_law_made" "_law_made" (defArgs s_l_made) (defBody s_l_made) (defScope s_l_made) [] [] (He.fAd K ("_law_made", none)) fd := TX.says.def_ 65 (d := d_l_made) rfl
theorem fn_l_rows (TX : Txt K mg base) : ∃ fd, FunD K "_law_rows" "_law_rows" (defArgs s_l_rows) (defBody s_l_rows) (defScope s_l_rows) [] [] (He.fAd K ("_law_rows", none)) fd := TX.says.def_ 66 (d := d_l_rows) rfl
theorem fn_l_walked (TX : Txt K mg base) : ∃ fd, FunD K "_law_walked" "_law_walked" (defArgs s_l_walked) (defBody s_l_walked) (defScope s_l_walked) [] [] (He.fAd K ("_law_walked", none)) fd := TX.says.def_ 67 (d := d_l_walked) rfl
theorem fn_l_sums (TX : Txt K mg base) : ∃ fd, FunD K "_law_sums" "_law_sums" (defArgs s_l_sums) (defBody s_l_sums) (defScope s_l_sums) [] [] (He.fAd K ("_law_sums", none)) fd := TX.says.def_ 68 (d := d_l_sums) rfl
theorem fn_l_under (TX : Txt K mg base) : ∃ fd, FunD K "_law_under" "_law_under" (defArgs s_l_under) (defBody s_l_under) (defScope s_l_under) [] [] (He.fAd K ("_law_under", none)) fd := TX.says.def_ 69 (d := d_l_under) rfl
theorem fn_l_taken (TX : Txt K mg base) : ∃ fd, FunD K "_law_taken" "_law_taken" (defArgs s_l_taken) (defBody s_l_taken) (defScope s_l_taken) [] [] (He.fAd K ("_law_taken", none)) fd := TX.says.def_ 70 (d := d_l_taken) rfl
theorem fn_l_breach (TX : Txt K mg base) : ∃ fd, FunD K "_law_breach" "_law_breach" (defArgs s_l_breach) (defBody s_l_breach) (defScope s_l_breach) [] [] (He.fAd K ("_law_breach", none)) fd := TX.says.def_ 71 (d := d_l_breach) rfl
theorem fn_law (TX : Txt K mg base) : ∃ fd, FunD K "law" "law" (defArgs s_law) (defBody s_law) (defScope s_law) [] [] (He.fAd K ("law", none)) fd := TX.says.def_ 72 (d := d_law) rfl
end
/-- a def that keeps its promise -/
def Kept (P : Program) (w : World) (K : PySem.W.Frag) (mg : Str → Option Value) (base : Heap) (k : Nat) (f : Addr) (ps : List Str) (S : Spc) : Prop :=
  ∃ fd, FnOk P w K mg base CX0 k f fd ps (spL K S) ∧ PySem.W.keepIn K (.ref f) = true ∧ Binds K fd ps []
def startD (N : List Str) (ds : List D) : DEnv := ds.map some ++ List.replicate (N.length - ds.length) none
section
variable {P : Program} {w : World} {K : PySem.W.Frag} {mg : Str → Option Value} {base : Heap}
theorem env_start {I : Hp} (N : List Str) {vs : List V} {ds : List D} (h : Iss K I vs ds) : EnvOk K I (L2.start N vs) (startD N ds) := by
  refine ⟨by unfold L2.start startD; simp [h.length], fun i d e => ?_⟩
  unfold startD at e
  unfold L2.start
  by_cases hi : i < ds.length
  · rw [List.getElem?_append_left (by simpa using hi), List.getElem?_map] at e
    cases q : ds[i]? with
    | none => rw [q] at e; cases e
    | some d' =>
      rw [q] at e
      cases e
      obtain ⟨v, hv, r⟩ := h.get q
      exact ⟨v, by rw [List.getElem?_append_left (by rw [List.length_map, h.length]; exact hi), List.getElem?_map, hv]; rfl, r⟩
  · rw [List.getElem?_append_right (by simpa using hi)] at e
    rw [List.getElem?_replicate] at e
    split at e <;> cases e
theorem okD {x qual : Str} {st : Stmt} {f : Addr} {N ps : List Str} {k : Nat} {S : Spc} (F : ∃ fd, FunD K x qual (defArgs st) (defBody st) (defScope st) [] [] f fd) (Sc : FnScope N ps (defScope st))
    (hb : ∀ (kV doc pm : Value) (an : Option Addr) (cdv ct : Value) (us : List Value), us.length = ps.length → bindArgs (PySem.W.fnOf x qual (defArgs st) (defBody st) (defScope st) .none kV doc pm an cdv ct) ⟨us, []⟩ = pure (ps.zip us))
    (len : ∀ ds M Pc, S ds M Pc → ds.length = ps.length)
    (body : ∀ (cdv : Value) (A : Around) (outer : List PySem.Env) (s : Shared) (H : Hp) (E : XK), Room k (A.deeper (envOfC qual (defScope st) s.heap.objs.size f cdv)) → ∀ ds M Pc, S ds M Pc →
      ∃ t, PSs (cxOf CX0 P w K mg base N qual (defScope st) f cdv A outer s H E).nox (defBody st) t ∧ RS K t (startD N ds) M { nx := fun _ M' => Pc .non M', rt := Pc }) : Kept P w K mg base (k + 1) f ps S := by
  obtain ⟨fd, F⟩ := F
  refine ⟨fd, F.ok Sc (fun vs H Q E h => ?_) (fun cdv A outer s H vs Q E hr h => ?_), F.kp, F.bindsN hb⟩
  · obtain ⟨ds, I, F', M, Pc, iss, _, hs, _⟩ := h
    rw [iss.length]
    exact len ds M Pc hs
  · obtain ⟨ds, I, F', M, Pc, iss, sta, hs, cl⟩ := h
    obtain ⟨t, ht, hrs⟩ := body cdv A outer s H E hr ds M Pc hs
    refine ⟨t, ht.nox, hrs _ I F' H (env_start N iss) sta _ ⟨fun σ' H' z => ?_, fun v H' z => cl v H' z, fun _ _ z => ?_, fun _ _ z => ?_⟩⟩
    · obtain ⟨δ', I', M', e, s', _, p⟩ := z
      exact cl _ _ ⟨.non, I', M', e, s', .non, p⟩
    · obtain ⟨_, _, _, _, _, _, p⟩ := z
      exact p.elim
    · obtain ⟨_, _, _, _, _, _, p⟩ := z
      exact p.elim
theorem andT {A B : Prop} (h : A) : (true = true → A) ∧ (true = false → B) := ⟨fun _ => h, fun z => nomatch z⟩
theorem andF {A B : Prop} (h : B) : (false = true → A) ∧ (false = false → B) := ⟨fun z => (nomatch z), fun _ => h⟩
theorem rcI1 {M : Mem} {Pd : D → Mem → Prop} {i : Int} (p : Pd (.bl true) M) : RC K (rIsi K) [.int i, .ty "int"] M Pd := rc_isi (.int _) (.ty _) (kit_ty (by decide +kernel)) p
theorem rcI2 {M : Mem} {Pd : D → Mem → Prop} {i : Int} (p : Pd (.bl false) M) : RC K (rIsi K) [.int i, .ty "bool"] M Pd := rc_isi (.int _) (.ty _) (kit_ty (by decide +kernel)) p
theorem rcI3 {M : Mem} {Pd : D → Mem → Prop} {s : Str} (p : Pd (.bl true) M) : RC K (rIsi K) [.str s, .ty "str"] M Pd := rc_isi (.str _) (.ty _) (kit_ty (by decide +kernel)) p
theorem rcI4 {M : Mem} {Pd : D → Mem → Prop} {ds : List D} (p : Pd (.bl true) M) : RC K (rIsi K) [.lst ds, .ty "list"] M Pd := rc_isi (.lst _) (.ty _) (kit_ty (by decide +kernel)) p
theorem rcI5 {M : Mem} {Pd : D → Mem → Prop} {ds : List D} (p : Pd (.bl true) M) : RC K (rIsi K) [.tup ds, .ty "tuple"] M Pd := rc_isi (.tup _) (.ty _) (kit_ty (by decide +kernel)) p
end
end Kp

set_option maxHeartbeats 4000000
namespace Kp
open PySem PySem.Spec PyProof.Rows L2
/-- an item: a tuple of a number, a date and an entry; its key -/
def ItemOk (K : PySem.W.Frag) (H : Hp) (v : V) (k : Tri) : Prop := ∃ t n d e C dx fs b0 b1 b2, v = .ref t ∧ H t = some (.tup [.int n, .int d, .ref e]) ∧ H e = some (.ins C dx fs) ∧ ClsF K C ∧
  PySem.W.kitOne K (.ref C) (.ref (He.ga K "Promise")) = some b0 ∧ PySem.W.kitOne K (.ref C) (.ref (He.ga K "Lessen")) = some b1 ∧ PySem.W.kitOne K (.ref C) (.ref (He.ga K "Out")) = some b2 ∧ k = (d, turnK b0 b1 b2, n)
def leX {α : Type} (a b : α × Tri) : Bool := leT a.2 b.2
def tSortLam (K : PySem.W.Frag) (te : TE) : TE := fun σ H Q => te σ H fun x H1 => LamX.Tabs [(tabP K, tabQ)] H1 ∧ ∃ a, ∃ xs : List (V × Tri), x = .ref a ∧ H1 a = some (.lst (xs.map (·.1))) ∧ (∀ q ∈ xs, ItemOk K H1 q.1 q.2) ∧
  ∀ H2 p, LamX.ExtN H1 H2 → LamX.Tabs [(tabP K, tabQ)] H2 → H2 p = none → Q (.ref p) (upd H2 p (.lst ((xs.mergeSort leX).map (·.1))))
theorem ItemOk.ext {K : PySem.W.Frag} {H H' : Hp} {v : V} {k : Tri} (e : LamX.ExtN H H') (h : ItemOk K H v k) : ItemOk K H' v k := by
  obtain ⟨t, n, d, e', C, dx, fs, b0, b1, b2, h1, h2, h3, r⟩ := h
  exact ⟨t, n, d, e', C, dx, fs, b0, b1, b2, h1, e _ _ h2 (fun _ z => by cases z), e _ _ h3 (fun _ z => by cases z), r⟩
theorem each_of {α β γ : Type} {R : α → β → Prop} {S : β → γ → Prop} {f : γ → β} : ∀ {us : List α} {xs : List γ}, Paired (fun b a => R a b) (xs.map f) us → (∀ x ∈ xs, S (f x) x) → PySem.W.EachIs (fun u x => R u (f x) ∧ S (f x) x) us xs
  | _, [], .nil, _ => .nil
  | _, x :: r, .cons h t, k => .cons ⟨h, k x List.mem_cons_self⟩ (each_of t fun y hy => k y (List.mem_cons_of_mem _ hy))
theorem vals_each {xs : List (V × Tri)} {out : List Value} {S : V × Tri → Prop} (h : PySem.W.EachIs (fun u x => RelV x.1 u ∧ S x) out xs) : Vals (xs.map (·.1)) out := by
  induction h with
  | nil => exact .nil
  | cons h _ ih => exact .cons h.1 ih
section
variable {X : Cx}
theorem pe_sortLam {ft c : Addr} {e : Expr} {te : TE} {p kpos lpos pos : Pos} (T : TurnFn X.K X.mg ft) (mi : X.mg "isinstance" = none) (m0 : X.mg "Promise" = some (.ref (He.ga X.K "Promise"))) (m1 : X.mg "Lessen" = some (.ref (He.ga X.K "Lessen"))) (m2 : X.mg "Out" = some (.ref (He.ga X.K "Out")))
    (TB : LamX.TabB X.base X.mg c (tabP X.K)) (hcode : X.env.code = .ref c) (hq : X.env.qual ++ Str.ofString "<lambda>" = tabQ) (hr : Room 3 X.A) (L : LamX.LamS X.env.scope lamScope ∨ ∀ y ∈ lamScope.names, y.2 ≠ .free) (he : PE X e te) (hg : Gl X "sorted") (hm : X.mg "sorted" = none)
    (hdef : defaultsOf lamParams X.env = ([], [])) (hse : starEach [e] X.env = [(false, eval e X.env)] := by rfl) :
    PE X (.Call (.Name "sorted" p) [e] [⟨some "key", .Lambda lamParams lamBody lamScope lpos, kpos⟩] pos) (tSortLam X.K te) := by
  refine ⟨fun pins s σ H Q I h => ?_⟩
  refine wpAny_Call_Name_kw (ld_blt I hg hm (show bootBuiltins "sorted" = some (.builtin "sorted") by decide +kernel) ?_)
  refine PyProof.Rows.callWith_kw ?_ (by rw [hse]; rfl) (by rw [hse]; rfl)
  rw [hse]
  show wpAny _ _ (spliced ((false, eval e X.env) :: [])) _ _ s
  refine Calls.spliced_cons (thn (he.run pins s σ H _ I h) fun u s1 ⟨xv, H1, I1, r1, hT, a, xs, ex, ha, hit, q⟩ => Calls.spliced_nil ?_)
  subst ex
  obtain rfl : u = Value.ref a := r1
  show wpAny _ _ (evalAll ((do let v ← eval (.Lambda lamParams lamBody lamScope lpos) X.env; standAt pos; pure v) :: [])) _ _ s1
  refine wpAny_evalAll_cons (wpAny_bind (LamX.lam_make2 I1 TB hcode (T := [(tabP X.K, tabQ)]) (by rw [hq]; exact List.mem_singleton.mpr rfl) (fun p hp _ => by rw [List.mem_singleton.mp hp, hq]) hT hdef ?_ fun f c' pm ctv H2 s2 I2 eN T2 hf hfn hfr hco => wpAny_bind (wpAny_standAt (wpAny_pure (wpAny_evalAll_nil ?_)))))
  · rcases L with L | L
    · exact L.has I1.ok
    · exact fun y hy z => absurd z (L y hy)
  show wpAny _ _ (call (.builtin "sorted") [.ref a] [(Str.ofString "key", .ref f)]) _ _ s2
  have ha2 := eN _ _ ha (fun _ z => by cases z)
  obtain ⟨hz, its, n, rv, ho⟩ := (show ObjOk X.prog X.w H2 s2.heap a (.lst (xs.map (·.1))) from I2.hok a _ ha2)
  have hlen : its.length = xs.length := by rw [← rv.length, List.length_map]
  have hit2 : ∀ q ∈ xs, ItemOk X.K H2 q.1 q.2 := fun q hq => (hit q hq).ext eN
  have e1 : PySem.W.EachIs (fun (u : Value) (x : V × Tri) => RelV x.1 u ∧ ItemOk X.K H2 x.1 x.2) its xs := each_of (R := fun u v => RelV v u) (S := fun v x => ItemOk X.K H2 v x.2) (f := fun x : V × Tri => x.1) rv hit2
  obtain ⟨⟨oc, vs, tq, hoc, hdc, hvc⟩, _, _⟩ := I2.hok c' _ hco
  rw [hq] at hvc hf
  have alike : PySem.W.AllAlike (xs.map fun x => kT x.2) := by
    have := alike_kT (xs.map (·.2))
    rwa [List.map_map] at this
  have sortable : PySem.W.Sortable (xs.map fun x => kT x.2) := by
    have := sortable_kT (xs.map (·.2))
    rwa [List.map_map] at this
  have hl : s2.heap.IsList a its.toArray := ⟨_, ho, rfl, n, rfl⟩
  refine PySem.W.sorted_key_data (b := false) (fun x : V × Tri => kT x.2) hl e1 alike sortable (by rw [← hlen, ← rv.length]; exact hz) (fun x _ => ?_) (PyProof.Rows.ksk_s1 _ _) (fun _ => PyProof.Rows.ksk_l1 _ _) (fun _ => PyProof.Rows.ksk_t1 _ _) ?_ ?_
  · have e2 : (kT x.2).depth = 1 := by simp [kT, PyData.depth, PyData.depthAll]
    have := hr.units
    omega
  · intro v x hvx hx h3 tk k3
    obtain ⟨hr1, t, n', d', e', C, dx, fs, b0, b1, b2, ev, ht, hens, cf, o0, o1, o2, ek⟩ := hvx
    have I3 : Inv X pins σ H2 { s2 with heap := h3, toks := tk } := I2.kept k3
    rw [ev] at hr1
    obtain rfl : v = Value.ref t := hr1
    have ty : TyX X.K H2 (.ref e') (.ref C) := .base (.ins hens cf.cl cf.ha cf.hn cf.ht cf.hm)
    obtain ⟨_, its2, r2, ob, ho2, hc2, n2, hd2⟩ := (show ObjOk X.prog X.w H2 h3 t (.tup [.int n', .int d', .ref e']) from I3.hok t _ ht)
    obtain ⟨u1, us2, rfl, ri, rest⟩ : ∃ u1 us2, its2 = u1 :: us2 ∧ RelV (.int n') u1 ∧ Vals [.int d', .ref e'] us2 := by
      cases r2 with
      | cons h t => exact ⟨_, _, rfl, h, t⟩
    obtain ⟨u2, u3, rfl, rj, rk⟩ := vals2 rest
    obtain ⟨tn, rfl⟩ := ri
    obtain ⟨td, rfl⟩ := rj
    obtain rfl : u3 = Value.ref e' := rk
    have G : L2.Mod X.K X.mg h3 := modUp I3.mod I3.bk
    have kit : ∀ h, (∀ b o, h3.get? b = some o → h.get? b = some o) → ∃ Pk, PySem.W.KitX X.K (.ref e') (.ref C) Pk ∧ Pk h := fun h kh => by
      have I4 : Inv X pins σ H2 { s2 with heap := h, toks := tk } := I3.kept kh
      obtain ⟨Pk, Z, pk, _⟩ := kit_of I4 (show RelV (.ref e') (.ref e') from rfl) ty
      exact ⟨Pk, Z, pk⟩
    refine wpAny_call (exLam (s := { s2 with heap := h3, toks := tk }) (k3 _ _ hf) ⟨c', oc, vs, tq, rfl, k3 _ _ hoc, hdc, hvc⟩ T G ?_ kit mi m0 m1 m2 o0 o1 o2 ⟨ob, ho2, hc2, n2, hd2⟩ fun h4 tk4 T4 k4 rd => ?_)
    · have := hr.dp
      show X.A.depth + 1 < recursionLimit
      omega
    · rw [ek]
      exact ⟨h4, tk4, rfl, k4, rd⟩
  · intro out c2 h' tk kp fr nw lo eo
    have eo' : PySem.W.EachIs (fun (u : Value) (x : V × Tri) => RelV x.1 u ∧ ItemOk X.K H2 x.1 x.2) out (xs.mergeSort leX) := eo
    refine ⟨.ref _, upd H2 (s2.heap.objs.size + 1) (.lst ((xs.mergeSort leX).map (·.1))), I2.laid (t' := tk) kp (Nat.le_succ _) ⟨?_, out, c2, vals_each eo', nw⟩, rfl, q _ _ eN T2 (I2.hok.fresh (Nat.le_succ _))⟩
    rw [List.length_map, List.length_mergeSort]
    rw [List.length_map] at hz
    exact hz
end
end Kp

set_option maxHeartbeats 4000000
namespace Kp
open PySem PySem.Spec PyProof.Rows L2
section
variable {P : Program} {w : World} {K : PySem.W.Frag} {mg : Str → Option Value} {base : Heap}
theorem lookup_putD (f g : Str) (d : D) : ∀ fs : List (Str × D), (putD f d fs).lookup g = if g = f then some d else fs.lookup g
  | [] => by
    show List.lookup g [(f, d)] = _
    rw [List.lookup_cons]
    by_cases h : g = f
    · rw [if_pos h, beq_iff_eq.mpr h]
    · rw [if_neg h, beq_eq_false_iff_ne.mpr h]
  | (k, e) :: r => by
    have ih := lookup_putD f g d r
    unfold putD
    by_cases hk : k = f
    · subst hk
      rw [if_pos rfl, List.lookup_cons, List.lookup_cons]
      by_cases h : g = k
      · rw [if_pos h, beq_iff_eq.mpr h]
      · rw [if_neg h, beq_eq_false_iff_ne.mpr h]
    · rw [if_neg hk, List.lookup_cons, List.lookup_cons]
      by_cases h : g = k
      · have : ¬ g = f := fun z => hk (h.symm.trans z)
        rw [beq_iff_eq.mpr h, if_neg this]
      · rw [beq_eq_false_iff_ne.mpr h]
        exact ih
theorem putD_lt {f : Str} {d : D} {n : Nat} : ∀ {fs : List (Str × D)}, fs.length < n → (putD f d fs).length < n + 1
  | [], h => by
    show 1 < n + 1
    have h0 : 0 < n := h
    omega
  | (k, e) :: r, h => by
    unfold putD
    split
    · exact Nat.lt_succ_of_lt h
    · have := putD_lt (f := f) (d := d) (fs := r) (n := n - 1) (by simp at h; omega)
      simp at h ⊢
      omega
theorem kx_list {X : Cx} (e : X.K = K := by rfl) : IxR X (rIxL K) := e ▸ ix_list
theorem kx_tup {X : Cx} (e : X.K = K := by rfl) : IxR X (rIxT K) := e ▸ ix_tup
theorem ks_list {X : Cx} (e : X.K = K := by rfl) : SlR X (rSlL K) := e ▸ sl_list
theorem ko_in {X : Cx} (e : X.K = K := by rfl) : OpR X (compareOp .In) (rIn K false) := e ▸ op_in_seq
theorem ko_notIn {X : Cx} (e : X.K = K := by rfl) : OpR X (compareOp .NotIn) (rIn K true) := e ▸ op_notIn_seq
theorem kc_isi {X : Cx} (e : X.K = K := by rfl) : CallR X (.builtin "isinstance") (rIsi K) := e ▸ call_isi
theorem kc_len {X : Cx} (e : X.K = K := by rfl) : CallR X (.builtin "len") (fun xs H Q => ∃ x n, xs = [x] ∧ LenV K x H n ∧ Q (.int n) H) := e ▸ call_len
theorem kc_dictP {X : Cx} (hc : X.calm = true) (e : X.K = K := by rfl) : CallR X (.type "dict") (fun xs H Q => ∃ (a : Addr) (ps : List Addr) (kvs : List (Key × V)), xs = [.ref a] ∧ SqL K H a (ps.map V.ref) ∧ Paired (fun p kv => SqT K H p [kV kv.1, kv.2]) ps kvs ∧
    ∀ p, H p = none → Q (.ref p) (upd H p (.dK (mergeK [] kvs)))) := e ▸ call_dictP hc
theorem ki_tup {X : Cx} {tg l : Expr} {tl : TE} (hl : PE X l tl) (e : X.K = K := by rfl) : PI X tg l (iTup K tl) := e ▸ pi_tup hl
theorem ki_list {X : Cx} {tg l : Expr} {tl : TE} (hl : PE X l tl) (e : X.K = K := by rfl) : PI X tg l (iList K tl) := e ▸ pi_list hl
theorem rc_lenL {M : Mem} {Pd : D → Mem → Prop} {ds : List D} (p : Pd (.int ds.length) M) : RC K (fun xs H Q => ∃ x n, xs = [x] ∧ LenV K x H n ∧ Q (.int n) H) [.lst ds] M Pd := rc_len (.inl ⟨_, lstD1, rfl⟩) p
theorem rc_lenT {M : Mem} {Pd : D → Mem → Prop} {ds : List D} (p : Pd (.int ds.length) M) : RC K (fun xs H Q => ∃ x n, xs = [x] ∧ LenV K x H n ∧ Q (.int n) H) [.tup ds] M Pd := rc_len (.inr (.inl ⟨_, tupD1, rfl⟩)) p
/-- ends, weaker -/
theorem rs_imp {ts : TS} {δ : DEnv} {M : Mem} {E E' : DE} (h : RS K ts δ M E) (nx : ∀ δ M, E.nx δ M → E'.nx δ M := by exact fun _ _ z => z) (rt : ∀ δ M, E.rt δ M → E'.rt δ M := by exact fun _ _ z => z.elim) (bk : ∀ δ M, E.bk δ M → E'.bk δ M := by exact fun _ _ z => z.elim) (ct : ∀ δ M, E.ct δ M → E'.ct δ M := by exact fun _ _ z => z.elim) : RS K ts δ M E' := fun σ I F H he hs Dn l =>
  h σ I F H he hs Dn ⟨fun σ' H' ⟨δ', I', M', e, s, he', z⟩ => l.nx σ' H' ⟨δ', I', M', e, s, he', nx _ _ z⟩, fun v H' ⟨d, I', M', e, s, r, z⟩ => l.rt v H' ⟨d, I', M', e, s, r, rt _ _ z⟩, fun σ' H' ⟨δ', I', M', e, s, he', z⟩ => l.bk σ' H' ⟨δ', I', M', e, s, he', bk _ _ z⟩, fun σ' H' ⟨δ', I', M', e, s, he', z⟩ => l.ct σ' H' ⟨δ', I', M', e, s, he', ct _ _ z⟩⟩
theorem mset_less {M : Mem} {p : Addr} {c : Cell} (h : M p = none) : ∀ a c', M a = some c' → mset M p c a = some c' := fun a c' e => by
  rw [mset_ne (fun z => by rw [z, h] at e; cases e)]
  exact e
theorem rr_mulR {M : Mem} {Pd : D → Mem → Prop} {i j : Int} (h : -(2 ^ 64) < j ∧ j < 2 ^ 64) (p : Pd (.int (i * j)) M) : RR K (rI CMul fun i j => .int (i * j)) (.int i) (.int j) M Pd := rr_I (.inr h) rfl p
theorem rr_mulL {M : Mem} {Pd : D → Mem → Prop} {i j : Int} (h : -(2 ^ 64) < i ∧ i < 2 ^ 64) (p : Pd (.int (i * j)) M) : RR K (rI CMul fun i j => .int (i * j)) (.int i) (.int j) M Pd := rr_I (.inl h) rfl p
theorem rr_mod {M : Mem} {Pd : D → Mem → Prop} {i j : Int} (h : 0 < j) (p : Pd (.int (i % j)) M) : RR K (rI (fun _ j => 0 < j) fun i j => .int (i % j)) (.int i) (.int j) M Pd := rr_I h rfl p
theorem rr_fdiv {M : Mem} {Pd : D → Mem → Prop} {i j : Int} (h : 0 < j ∧ j < 2 ^ 64) (p : Pd (.int (i / j)) M) : RR K (rI CDivW fun i j => .int (i / j)) (.int i) (.int j) M Pd := rr_I ⟨h.1, by
  have h2 : j.natAbs < 2 ^ 64 := by omega
  have h3 : j.natAbs ≠ 0 := by omega
  have := (Nat.log2_lt h3).mpr h2
  omega⟩ rfl p
theorem rc_listL {M : Mem} {Pd : D → Mem → Prop} {ds : List D} (p : Pd (.lst ds) M) : RC K (fun xs H Q => ∃ p ys, xs = [.ref p] ∧ (SqL K H p ys ∨ SqT K H p ys) ∧ ∀ l, H l = none → Q (.ref l) (upd H l (.lst ys))) [.lst ds] M Pd := rc_list (.inl lstD1) p
theorem rr_int0 {M : Mem} {Pd : D → Mem → Prop} {g : Int → Int → Int} {i j : Int} (p : Pd (.int (g i j)) M) : RR K (rI0 fun i j => .int (g i j)) (.int i) (.int j) M Pd := rr_I0 rfl p
theorem rr_bl0 {M : Mem} {Pd : D → Mem → Prop} {g : Int → Int → Bool} {i j : Int} (p : Pd (.bl (g i j)) M) : RR K (rI0 fun i j => .bl (g i j)) (.int i) (.int j) M Pd := rr_I0 rfl p
theorem atI_nat {α : Type} {xs : List α} {n : Nat} {x : α} (h : xs[n]? = some x) : atI xs (n : Int) = some x := by
  unfold atI
  rw [Evl.ixN_nat (List.getElem?_eq_some_iff.mp h).1]
  exact h
theorem rr_ixT0 {M : Mem} {Pd : D → Mem → Prop} {d0 : D} {r : List D} (p : Pd d0 M) : RR K (rIxT K) (.tup (d0 :: r)) (.int 0) M Pd := rr_ixT tupD1 (Kp.atI_nat (n := 0) rfl) p
theorem rr_ixT1 {M : Mem} {Pd : D → Mem → Prop} {d0 d1 : D} {r : List D} (p : Pd d1 M) : RR K (rIxT K) (.tup (d0 :: d1 :: r)) (.int 1) M Pd := rr_ixT tupD1 (Kp.atI_nat (n := 1) rfl) p
theorem rr_ixT2 {M : Mem} {Pd : D → Mem → Prop} {d0 d1 d2 : D} {r : List D} (p : Pd d2 M) : RR K (rIxT K) (.tup (d0 :: d1 :: d2 :: r)) (.int 2) M Pd := rr_ixT tupD1 (Kp.atI_nat (n := 2) rfl) p
theorem rr_ixT3 {M : Mem} {Pd : D → Mem → Prop} {d0 d1 d2 d3 : D} {r : List D} (p : Pd d3 M) : RR K (rIxT K) (.tup (d0 :: d1 :: d2 :: d3 :: r)) (.int 3) M Pd := rr_ixT tupD1 (Kp.atI_nat (n := 3) rfl) p
theorem rr_ixT4 {M : Mem} {Pd : D → Mem → Prop} {d0 d1 d2 d3 d4 : D} {r : List D} (p : Pd d4 M) : RR K (rIxT K) (.tup (d0 :: d1 :: d2 :: d3 :: d4 :: r)) (.int 4) M Pd := rr_ixT tupD1 (Kp.atI_nat (n := 4) rfl) p
theorem rr_ixT5 {M : Mem} {Pd : D → Mem → Prop} {d0 d1 d2 d3 d4 d5 : D} {r : List D} (p : Pd d5 M) : RR K (rIxT K) (.tup (d0 :: d1 :: d2 :: d3 :: d4 :: d5 :: r)) (.int 5) M Pd := rr_ixT tupD1 (Kp.atI_nat (n := 5) rfl) p
def fsGive (h0 c1 n2 : D) : List (Str × D) := putD "note" n2 (putD "coins" c1 (putD "head" h0 []))
theorem fl_Give (h0 c1 n2 : D) : (fsGive h0 c1 n2).length < 1000 := by
  exact Nat.lt_of_lt_of_le (putD_lt (putD_lt (putD_lt (by decide)))) (by decide : 1 + 3 ≤ 1000)
theorem lk_Give_head (h0 c1 n2 : D) : (fsGive h0 c1 n2).lookup ("head" : Str) = some h0 := by
  unfold fsGive
  rw [lookup_putD, if_neg (show ¬ ("head" : Str) = "note" by decide +kernel), lookup_putD, if_neg (show ¬ ("head" : Str) = "coins" by decide +kernel), lookup_putD, if_pos rfl]
theorem lk_Give_coins (h0 c1 n2 : D) : (fsGive h0 c1 n2).lookup ("coins" : Str) = some c1 := by
  unfold fsGive
  rw [lookup_putD, if_neg (show ¬ ("coins" : Str) = "note" by decide +kernel), lookup_putD, if_pos rfl]
theorem lk_Give_note (h0 c1 n2 : D) : (fsGive h0 c1 n2).lookup ("note" : Str) = some n2 := by
  unfold fsGive
  rw [lookup_putD, if_pos rfl]
theorem lm_Give_told (h0 c1 n2 : D) : (fsGive h0 c1 n2).lookup ("told" : Str) = none := by
  unfold fsGive
  rw [lookup_putD, if_neg (show ¬ ("told" : Str) = "note" by decide +kernel), lookup_putD, if_neg (show ¬ ("told" : Str) = "coins" by decide +kernel), lookup_putD, if_neg (show ¬ ("told" : Str) = "head" by decide +kernel)]
  rfl
theorem lm_Give_named (h0 c1 n2 : D) : (fsGive h0 c1 n2).lookup ("named" : Str) = none := by
  unfold fsGive
  rw [lookup_putD, if_neg (show ¬ ("named" : Str) = "note" by decide +kernel), lookup_putD, if_neg (show ¬ ("named" : Str) = "coins" by decide +kernel), lookup_putD, if_neg (show ¬ ("named" : Str) = "head" by decide +kernel)]
  rfl
theorem lm_Give_fits (h0 c1 n2 : D) : (fsGive h0 c1 n2).lookup ("fits" : Str) = none := by
  unfold fsGive
  rw [lookup_putD, if_neg (show ¬ ("fits" : Str) = "note" by decide +kernel), lookup_putD, if_neg (show ¬ ("fits" : Str) = "coins" by decide +kernel), lookup_putD, if_neg (show ¬ ("fits" : Str) = "head" by decide +kernel)]
  rfl
theorem lm_Give_lasts (h0 c1 n2 : D) : (fsGive h0 c1 n2).lookup ("lasts" : Str) = none := by
  unfold fsGive
  rw [lookup_putD, if_neg (show ¬ ("lasts" : Str) = "note" by decide +kernel), lookup_putD, if_neg (show ¬ ("lasts" : Str) = "coins" by decide +kernel), lookup_putD, if_neg (show ¬ ("lasts" : Str) = "head" by decide +kernel)]
  rfl
def fsHold (h0 c1 u2 n3 : D) : List (Str × D) := putD "note" n3 (putD "until" u2 (putD "coins" c1 (putD "head" h0 [])))
theorem fl_Hold (h0 c1 u2 n3 : D) : (fsHold h0 c1 u2 n3).length < 1000 := by
  exact Nat.lt_of_lt_of_le (putD_lt (putD_lt (putD_lt (putD_lt (by decide))))) (by decide : 1 + 4 ≤ 1000)
theorem lk_Hold_head (h0 c1 u2 n3 : D) : (fsHold h0 c1 u2 n3).lookup ("head" : Str) = some h0 := by
  unfold fsHold
  rw [lookup_putD, if_neg (show ¬ ("head" : Str) = "note" by decide +kernel), lookup_putD, if_neg (show ¬ ("head" : Str) = "until" by decide +kernel), lookup_putD, if_neg (show ¬ ("head" : Str) = "coins" by decide +kernel), lookup_putD, if_pos rfl]
theorem lk_Hold_coins (h0 c1 u2 n3 : D) : (fsHold h0 c1 u2 n3).lookup ("coins" : Str) = some c1 := by
  unfold fsHold
  rw [lookup_putD, if_neg (show ¬ ("coins" : Str) = "note" by decide +kernel), lookup_putD, if_neg (show ¬ ("coins" : Str) = "until" by decide +kernel), lookup_putD, if_pos rfl]
theorem lk_Hold_until (h0 c1 u2 n3 : D) : (fsHold h0 c1 u2 n3).lookup ("until" : Str) = some u2 := by
  unfold fsHold
  rw [lookup_putD, if_neg (show ¬ ("until" : Str) = "note" by decide +kernel), lookup_putD, if_pos rfl]
theorem lk_Hold_note (h0 c1 u2 n3 : D) : (fsHold h0 c1 u2 n3).lookup ("note" : Str) = some n3 := by
  unfold fsHold
  rw [lookup_putD, if_pos rfl]
theorem lm_Hold_told (h0 c1 u2 n3 : D) : (fsHold h0 c1 u2 n3).lookup ("told" : Str) = none := by
  unfold fsHold
  rw [lookup_putD, if_neg (show ¬ ("told" : Str) = "note" by decide +kernel), lookup_putD, if_neg (show ¬ ("told" : Str) = "until" by decide +kernel), lookup_putD, if_neg (show ¬ ("told" : Str) = "coins" by decide +kernel), lookup_putD, if_neg (show ¬ ("told" : Str) = "head" by decide +kernel)]
  rfl
theorem lm_Hold_named (h0 c1 u2 n3 : D) : (fsHold h0 c1 u2 n3).lookup ("named" : Str) = none := by
  unfold fsHold
  rw [lookup_putD, if_neg (show ¬ ("named" : Str) = "note" by decide +kernel), lookup_putD, if_neg (show ¬ ("named" : Str) = "until" by decide +kernel), lookup_putD, if_neg (show ¬ ("named" : Str) = "coins" by decide +kernel), lookup_putD, if_neg (show ¬ ("named" : Str) = "head" by decide +kernel)]
  rfl
theorem lm_Hold_lasts (h0 c1 u2 n3 : D) : (fsHold h0 c1 u2 n3).lookup ("lasts" : Str) = none := by
  unfold fsHold
  rw [lookup_putD, if_neg (show ¬ ("lasts" : Str) = "note" by decide +kernel), lookup_putD, if_neg (show ¬ ("lasts" : Str) = "until" by decide +kernel), lookup_putD, if_neg (show ¬ ("lasts" : Str) = "coins" by decide +kernel), lookup_putD, if_neg (show ¬ ("lasts" : Str) = "head" by decide +kernel)]
  rfl
theorem lm_Hold_fits (h0 c1 u2 n3 : D) : (fsHold h0 c1 u2 n3).lookup ("fits" : Str) = none := by
  unfold fsHold
  rw [lookup_putD, if_neg (show ¬ ("fits" : Str) = "note" by decide +kernel), lookup_putD, if_neg (show ¬ ("fits" : Str) = "until" by decide +kernel), lookup_putD, if_neg (show ¬ ("fits" : Str) = "coins" by decide +kernel), lookup_putD, if_neg (show ¬ ("fits" : Str) = "head" by decide +kernel)]
  rfl
def fsMove (h0 o1 c2 n3 : D) : List (Str × D) := putD "note" n3 (putD "coins" c2 (putD "other" o1 (putD "head" h0 [])))
theorem fl_Move (h0 o1 c2 n3 : D) : (fsMove h0 o1 c2 n3).length < 1000 := by
  exact Nat.lt_of_lt_of_le (putD_lt (putD_lt (putD_lt (putD_lt (by decide))))) (by decide : 1 + 4 ≤ 1000)
theorem lk_Move_head (h0 o1 c2 n3 : D) : (fsMove h0 o1 c2 n3).lookup ("head" : Str) = some h0 := by
  unfold fsMove
  rw [lookup_putD, if_neg (show ¬ ("head" : Str) = "note" by decide +kernel), lookup_putD, if_neg (show ¬ ("head" : Str) = "coins" by decide +kernel), lookup_putD, if_neg (show ¬ ("head" : Str) = "other" by decide +kernel), lookup_putD, if_pos rfl]
theorem lk_Move_other (h0 o1 c2 n3 : D) : (fsMove h0 o1 c2 n3).lookup ("other" : Str) = some o1 := by
  unfold fsMove
  rw [lookup_putD, if_neg (show ¬ ("other" : Str) = "note" by decide +kernel), lookup_putD, if_neg (show ¬ ("other" : Str) = "coins" by decide +kernel), lookup_putD, if_pos rfl]
theorem lk_Move_coins (h0 o1 c2 n3 : D) : (fsMove h0 o1 c2 n3).lookup ("coins" : Str) = some c2 := by
  unfold fsMove
  rw [lookup_putD, if_neg (show ¬ ("coins" : Str) = "note" by decide +kernel), lookup_putD, if_pos rfl]
theorem lk_Move_note (h0 o1 c2 n3 : D) : (fsMove h0 o1 c2 n3).lookup ("note" : Str) = some n3 := by
  unfold fsMove
  rw [lookup_putD, if_pos rfl]
theorem lm_Move_told (h0 o1 c2 n3 : D) : (fsMove h0 o1 c2 n3).lookup ("told" : Str) = none := by
  unfold fsMove
  rw [lookup_putD, if_neg (show ¬ ("told" : Str) = "note" by decide +kernel), lookup_putD, if_neg (show ¬ ("told" : Str) = "coins" by decide +kernel), lookup_putD, if_neg (show ¬ ("told" : Str) = "other" by decide +kernel), lookup_putD, if_neg (show ¬ ("told" : Str) = "head" by decide +kernel)]
  rfl
theorem lm_Move_named (h0 o1 c2 n3 : D) : (fsMove h0 o1 c2 n3).lookup ("named" : Str) = none := by
  unfold fsMove
  rw [lookup_putD, if_neg (show ¬ ("named" : Str) = "note" by decide +kernel), lookup_putD, if_neg (show ¬ ("named" : Str) = "coins" by decide +kernel), lookup_putD, if_neg (show ¬ ("named" : Str) = "other" by decide +kernel), lookup_putD, if_neg (show ¬ ("named" : Str) = "head" by decide +kernel)]
  rfl
theorem lm_Move_fits (h0 o1 c2 n3 : D) : (fsMove h0 o1 c2 n3).lookup ("fits" : Str) = none := by
  unfold fsMove
  rw [lookup_putD, if_neg (show ¬ ("fits" : Str) = "note" by decide +kernel), lookup_putD, if_neg (show ¬ ("fits" : Str) = "coins" by decide +kernel), lookup_putD, if_neg (show ¬ ("fits" : Str) = "other" by decide +kernel), lookup_putD, if_neg (show ¬ ("fits" : Str) = "head" by decide +kernel)]
  rfl
theorem lm_Move_lasts (h0 o1 c2 n3 : D) : (fsMove h0 o1 c2 n3).lookup ("lasts" : Str) = none := by
  unfold fsMove
  rw [lookup_putD, if_neg (show ¬ ("lasts" : Str) = "note" by decide +kernel), lookup_putD, if_neg (show ¬ ("lasts" : Str) = "coins" by decide +kernel), lookup_putD, if_neg (show ¬ ("lasts" : Str) = "other" by decide +kernel), lookup_putD, if_neg (show ¬ ("lasts" : Str) = "head" by decide +kernel)]
  rfl
def fsSpend (h0 c1 n2 : D) : List (Str × D) := putD "note" n2 (putD "coins" c1 (putD "head" h0 []))
theorem fl_Spend (h0 c1 n2 : D) : (fsSpend h0 c1 n2).length < 1000 := by
  exact Nat.lt_of_lt_of_le (putD_lt (putD_lt (putD_lt (by decide)))) (by decide : 1 + 3 ≤ 1000)
theorem lk_Spend_head (h0 c1 n2 : D) : (fsSpend h0 c1 n2).lookup ("head" : Str) = some h0 := by
  unfold fsSpend
  rw [lookup_putD, if_neg (show ¬ ("head" : Str) = "note" by decide +kernel), lookup_putD, if_neg (show ¬ ("head" : Str) = "coins" by decide +kernel), lookup_putD, if_pos rfl]
theorem lk_Spend_coins (h0 c1 n2 : D) : (fsSpend h0 c1 n2).lookup ("coins" : Str) = some c1 := by
  unfold fsSpend
  rw [lookup_putD, if_neg (show ¬ ("coins" : Str) = "note" by decide +kernel), lookup_putD, if_pos rfl]
theorem lk_Spend_note (h0 c1 n2 : D) : (fsSpend h0 c1 n2).lookup ("note" : Str) = some n2 := by
  unfold fsSpend
  rw [lookup_putD, if_pos rfl]
theorem lm_Spend_told (h0 c1 n2 : D) : (fsSpend h0 c1 n2).lookup ("told" : Str) = none := by
  unfold fsSpend
  rw [lookup_putD, if_neg (show ¬ ("told" : Str) = "note" by decide +kernel), lookup_putD, if_neg (show ¬ ("told" : Str) = "coins" by decide +kernel), lookup_putD, if_neg (show ¬ ("told" : Str) = "head" by decide +kernel)]
  rfl
theorem lm_Spend_named (h0 c1 n2 : D) : (fsSpend h0 c1 n2).lookup ("named" : Str) = none := by
  unfold fsSpend
  rw [lookup_putD, if_neg (show ¬ ("named" : Str) = "note" by decide +kernel), lookup_putD, if_neg (show ¬ ("named" : Str) = "coins" by decide +kernel), lookup_putD, if_neg (show ¬ ("named" : Str) = "head" by decide +kernel)]
  rfl
theorem lm_Spend_fits (h0 c1 n2 : D) : (fsSpend h0 c1 n2).lookup ("fits" : Str) = none := by
  unfold fsSpend
  rw [lookup_putD, if_neg (show ¬ ("fits" : Str) = "note" by decide +kernel), lookup_putD, if_neg (show ¬ ("fits" : Str) = "coins" by decide +kernel), lookup_putD, if_neg (show ¬ ("fits" : Str) = "head" by decide +kernel)]
  rfl
theorem lm_Spend_lasts (h0 c1 n2 : D) : (fsSpend h0 c1 n2).lookup ("lasts" : Str) = none := by
  unfold fsSpend
  rw [lookup_putD, if_neg (show ¬ ("lasts" : Str) = "note" by decide +kernel), lookup_putD, if_neg (show ¬ ("lasts" : Str) = "coins" by decide +kernel), lookup_putD, if_neg (show ¬ ("lasts" : Str) = "head" by decide +kernel)]
  rfl
def fsPromise (w0 h1 c2 n3 : D) : List (Str × D) := putD "note" n3 (putD "coins" c2 (putD "head" h1 (putD "word" w0 [])))
theorem fl_Promise (w0 h1 c2 n3 : D) : (fsPromise w0 h1 c2 n3).length < 1000 := by
  exact Nat.lt_of_lt_of_le (putD_lt (putD_lt (putD_lt (putD_lt (by decide))))) (by decide : 1 + 4 ≤ 1000)
theorem lk_Promise_word (w0 h1 c2 n3 : D) : (fsPromise w0 h1 c2 n3).lookup ("word" : Str) = some w0 := by
  unfold fsPromise
  rw [lookup_putD, if_neg (show ¬ ("word" : Str) = "note" by decide +kernel), lookup_putD, if_neg (show ¬ ("word" : Str) = "coins" by decide +kernel), lookup_putD, if_neg (show ¬ ("word" : Str) = "head" by decide +kernel), lookup_putD, if_pos rfl]
theorem lk_Promise_head (w0 h1 c2 n3 : D) : (fsPromise w0 h1 c2 n3).lookup ("head" : Str) = some h1 := by
  unfold fsPromise
  rw [lookup_putD, if_neg (show ¬ ("head" : Str) = "note" by decide +kernel), lookup_putD, if_neg (show ¬ ("head" : Str) = "coins" by decide +kernel), lookup_putD, if_pos rfl]
theorem lk_Promise_coins (w0 h1 c2 n3 : D) : (fsPromise w0 h1 c2 n3).lookup ("coins" : Str) = some c2 := by
  unfold fsPromise
  rw [lookup_putD, if_neg (show ¬ ("coins" : Str) = "note" by decide +kernel), lookup_putD, if_pos rfl]
theorem lk_Promise_note (w0 h1 c2 n3 : D) : (fsPromise w0 h1 c2 n3).lookup ("note" : Str) = some n3 := by
  unfold fsPromise
  rw [lookup_putD, if_pos rfl]
theorem lm_Promise_told (w0 h1 c2 n3 : D) : (fsPromise w0 h1 c2 n3).lookup ("told" : Str) = none := by
  unfold fsPromise
  rw [lookup_putD, if_neg (show ¬ ("told" : Str) = "note" by decide +kernel), lookup_putD, if_neg (show ¬ ("told" : Str) = "coins" by decide +kernel), lookup_putD, if_neg (show ¬ ("told" : Str) = "head" by decide +kernel), lookup_putD, if_neg (show ¬ ("told" : Str) = "word" by decide +kernel)]
  rfl
theorem lm_Promise_named (w0 h1 c2 n3 : D) : (fsPromise w0 h1 c2 n3).lookup ("named" : Str) = none := by
  unfold fsPromise
  rw [lookup_putD, if_neg (show ¬ ("named" : Str) = "note" by decide +kernel), lookup_putD, if_neg (show ¬ ("named" : Str) = "coins" by decide +kernel), lookup_putD, if_neg (show ¬ ("named" : Str) = "head" by decide +kernel), lookup_putD, if_neg (show ¬ ("named" : Str) = "word" by decide +kernel)]
  rfl
theorem lm_Promise_fits (w0 h1 c2 n3 : D) : (fsPromise w0 h1 c2 n3).lookup ("fits" : Str) = none := by
  unfold fsPromise
  rw [lookup_putD, if_neg (show ¬ ("fits" : Str) = "note" by decide +kernel), lookup_putD, if_neg (show ¬ ("fits" : Str) = "coins" by decide +kernel), lookup_putD, if_neg (show ¬ ("fits" : Str) = "head" by decide +kernel), lookup_putD, if_neg (show ¬ ("fits" : Str) = "word" by decide +kernel)]
  rfl
theorem lm_Promise_lasts (w0 h1 c2 n3 : D) : (fsPromise w0 h1 c2 n3).lookup ("lasts" : Str) = none := by
  unfold fsPromise
  rw [lookup_putD, if_neg (show ¬ ("lasts" : Str) = "note" by decide +kernel), lookup_putD, if_neg (show ¬ ("lasts" : Str) = "coins" by decide +kernel), lookup_putD, if_neg (show ¬ ("lasts" : Str) = "head" by decide +kernel), lookup_putD, if_neg (show ¬ ("lasts" : Str) = "word" by decide +kernel)]
  rfl
def fsLessen (w0 c1 n2 : D) : List (Str × D) := putD "note" n2 (putD "coins" c1 (putD "word" w0 []))
theorem fl_Lessen (w0 c1 n2 : D) : (fsLessen w0 c1 n2).length < 1000 := by
  exact Nat.lt_of_lt_of_le (putD_lt (putD_lt (putD_lt (by decide)))) (by decide : 1 + 3 ≤ 1000)
theorem lk_Lessen_word (w0 c1 n2 : D) : (fsLessen w0 c1 n2).lookup ("word" : Str) = some w0 := by
  unfold fsLessen
  rw [lookup_putD, if_neg (show ¬ ("word" : Str) = "note" by decide +kernel), lookup_putD, if_neg (show ¬ ("word" : Str) = "coins" by decide +kernel), lookup_putD, if_pos rfl]
theorem lk_Lessen_coins (w0 c1 n2 : D) : (fsLessen w0 c1 n2).lookup ("coins" : Str) = some c1 := by
  unfold fsLessen
  rw [lookup_putD, if_neg (show ¬ ("coins" : Str) = "note" by decide +kernel), lookup_putD, if_pos rfl]
theorem lk_Lessen_note (w0 c1 n2 : D) : (fsLessen w0 c1 n2).lookup ("note" : Str) = some n2 := by
  unfold fsLessen
  rw [lookup_putD, if_pos rfl]
theorem lm_Lessen_told (w0 c1 n2 : D) : (fsLessen w0 c1 n2).lookup ("told" : Str) = none := by
  unfold fsLessen
  rw [lookup_putD, if_neg (show ¬ ("told" : Str) = "note" by decide +kernel), lookup_putD, if_neg (show ¬ ("told" : Str) = "coins" by decide +kernel), lookup_putD, if_neg (show ¬ ("told" : Str) = "word" by decide +kernel)]
  rfl
theorem lm_Lessen_fits (w0 c1 n2 : D) : (fsLessen w0 c1 n2).lookup ("fits" : Str) = none := by
  unfold fsLessen
  rw [lookup_putD, if_neg (show ¬ ("fits" : Str) = "note" by decide +kernel), lookup_putD, if_neg (show ¬ ("fits" : Str) = "coins" by decide +kernel), lookup_putD, if_neg (show ¬ ("fits" : Str) = "word" by decide +kernel)]
  rfl
theorem lm_Lessen_lasts (w0 c1 n2 : D) : (fsLessen w0 c1 n2).lookup ("lasts" : Str) = none := by
  unfold fsLessen
  rw [lookup_putD, if_neg (show ¬ ("lasts" : Str) = "note" by decide +kernel), lookup_putD, if_neg (show ¬ ("lasts" : Str) = "coins" by decide +kernel), lookup_putD, if_neg (show ¬ ("lasts" : Str) = "word" by decide +kernel)]
  rfl
theorem lm_Lessen_named (w0 c1 n2 : D) : (fsLessen w0 c1 n2).lookup ("named" : Str) = none := by
  unfold fsLessen
  rw [lookup_putD, if_neg (show ¬ ("named" : Str) = "note" by decide +kernel), lookup_putD, if_neg (show ¬ ("named" : Str) = "coins" by decide +kernel), lookup_putD, if_neg (show ¬ ("named" : Str) = "word" by decide +kernel)]
  rfl
def fsOut (w0 c1 n2 : D) : List (Str × D) := putD "note" n2 (putD "coins" c1 (putD "word" w0 []))
theorem fl_Out (w0 c1 n2 : D) : (fsOut w0 c1 n2).length < 1000 := by
  exact Nat.lt_of_lt_of_le (putD_lt (putD_lt (putD_lt (by decide)))) (by decide : 1 + 3 ≤ 1000)
theorem lk_Out_word (w0 c1 n2 : D) : (fsOut w0 c1 n2).lookup ("word" : Str) = some w0 := by
  unfold fsOut
  rw [lookup_putD, if_neg (show ¬ ("word" : Str) = "note" by decide +kernel), lookup_putD, if_neg (show ¬ ("word" : Str) = "coins" by decide +kernel), lookup_putD, if_pos rfl]
theorem lk_Out_coins (w0 c1 n2 : D) : (fsOut w0 c1 n2).lookup ("coins" : Str) = some c1 := by
  unfold fsOut
  rw [lookup_putD, if_neg (show ¬ ("coins" : Str) = "note" by decide +kernel), lookup_putD, if_pos rfl]
theorem lk_Out_note (w0 c1 n2 : D) : (fsOut w0 c1 n2).lookup ("note" : Str) = some n2 := by
  unfold fsOut
  rw [lookup_putD, if_pos rfl]
theorem lm_Out_told (w0 c1 n2 : D) : (fsOut w0 c1 n2).lookup ("told" : Str) = none := by
  unfold fsOut
  rw [lookup_putD, if_neg (show ¬ ("told" : Str) = "note" by decide +kernel), lookup_putD, if_neg (show ¬ ("told" : Str) = "coins" by decide +kernel), lookup_putD, if_neg (show ¬ ("told" : Str) = "word" by decide +kernel)]
  rfl
theorem lm_Out_fits (w0 c1 n2 : D) : (fsOut w0 c1 n2).lookup ("fits" : Str) = none := by
  unfold fsOut
  rw [lookup_putD, if_neg (show ¬ ("fits" : Str) = "note" by decide +kernel), lookup_putD, if_neg (show ¬ ("fits" : Str) = "coins" by decide +kernel), lookup_putD, if_neg (show ¬ ("fits" : Str) = "word" by decide +kernel)]
  rfl
theorem lm_Out_lasts (w0 c1 n2 : D) : (fsOut w0 c1 n2).lookup ("lasts" : Str) = none := by
  unfold fsOut
  rw [lookup_putD, if_neg (show ¬ ("lasts" : Str) = "note" by decide +kernel), lookup_putD, if_neg (show ¬ ("lasts" : Str) = "coins" by decide +kernel), lookup_putD, if_neg (show ¬ ("lasts" : Str) = "word" by decide +kernel)]
  rfl
theorem lm_Out_named (w0 c1 n2 : D) : (fsOut w0 c1 n2).lookup ("named" : Str) = none := by
  unfold fsOut
  rw [lookup_putD, if_neg (show ¬ ("named" : Str) = "note" by decide +kernel), lookup_putD, if_neg (show ¬ ("named" : Str) = "coins" by decide +kernel), lookup_putD, if_neg (show ¬ ("named" : Str) = "word" by decide +kernel)]
  rfl
def fsYear (d0 h1 l2 r3 : D) : List (Str × D) := putD "rules" r3 (putD "limits" l2 (putD "heads" h1 (putD "days" d0 [])))
theorem fl_Year (d0 h1 l2 r3 : D) : (fsYear d0 h1 l2 r3).length < 1000 := by
  exact Nat.lt_of_lt_of_le (putD_lt (putD_lt (putD_lt (putD_lt (by decide))))) (by decide : 1 + 4 ≤ 1000)
theorem lk_Year_days (d0 h1 l2 r3 : D) : (fsYear d0 h1 l2 r3).lookup ("days" : Str) = some d0 := by
  unfold fsYear
  rw [lookup_putD, if_neg (show ¬ ("days" : Str) = "rules" by decide +kernel), lookup_putD, if_neg (show ¬ ("days" : Str) = "limits" by decide +kernel), lookup_putD, if_neg (show ¬ ("days" : Str) = "heads" by decide +kernel), lookup_putD, if_pos rfl]
theorem lk_Year_heads (d0 h1 l2 r3 : D) : (fsYear d0 h1 l2 r3).lookup ("heads" : Str) = some h1 := by
  unfold fsYear
  rw [lookup_putD, if_neg (show ¬ ("heads" : Str) = "rules" by decide +kernel), lookup_putD, if_neg (show ¬ ("heads" : Str) = "limits" by decide +kernel), lookup_putD, if_pos rfl]
theorem lk_Year_limits (d0 h1 l2 r3 : D) : (fsYear d0 h1 l2 r3).lookup ("limits" : Str) = some l2 := by
  unfold fsYear
  rw [lookup_putD, if_neg (show ¬ ("limits" : Str) = "rules" by decide +kernel), lookup_putD, if_pos rfl]
theorem lk_Year_rules (d0 h1 l2 r3 : D) : (fsYear d0 h1 l2 r3).lookup ("rules" : Str) = some r3 := by
  unfold fsYear
  rw [lookup_putD, if_pos rfl]
theorem lm_Year_names (d0 h1 l2 r3 : D) : (fsYear d0 h1 l2 r3).lookup ("names" : Str) = none := by
  unfold fsYear
  rw [lookup_putD, if_neg (show ¬ ("names" : Str) = "rules" by decide +kernel), lookup_putD, if_neg (show ¬ ("names" : Str) = "limits" by decide +kernel), lookup_putD, if_neg (show ¬ ("names" : Str) = "heads" by decide +kernel), lookup_putD, if_neg (show ¬ ("names" : Str) = "days" by decide +kernel)]
  rfl
theorem lm_Year_above (d0 h1 l2 r3 : D) : (fsYear d0 h1 l2 r3).lookup ("above" : Str) = none := by
  unfold fsYear
  rw [lookup_putD, if_neg (show ¬ ("above" : Str) = "rules" by decide +kernel), lookup_putD, if_neg (show ¬ ("above" : Str) = "limits" by decide +kernel), lookup_putD, if_neg (show ¬ ("above" : Str) = "heads" by decide +kernel), lookup_putD, if_neg (show ¬ ("above" : Str) = "days" by decide +kernel)]
  rfl
theorem lm_Year_knots (d0 h1 l2 r3 : D) : (fsYear d0 h1 l2 r3).lookup ("knots" : Str) = none := by
  unfold fsYear
  rw [lookup_putD, if_neg (show ¬ ("knots" : Str) = "rules" by decide +kernel), lookup_putD, if_neg (show ¬ ("knots" : Str) = "limits" by decide +kernel), lookup_putD, if_neg (show ¬ ("knots" : Str) = "heads" by decide +kernel), lookup_putD, if_neg (show ¬ ("knots" : Str) = "days" by decide +kernel)]
  rfl
theorem lm_Year_under (d0 h1 l2 r3 : D) : (fsYear d0 h1 l2 r3).lookup ("under" : Str) = none := by
  unfold fsYear
  rw [lookup_putD, if_neg (show ¬ ("under" : Str) = "rules" by decide +kernel), lookup_putD, if_neg (show ¬ ("under" : Str) = "limits" by decide +kernel), lookup_putD, if_neg (show ¬ ("under" : Str) = "heads" by decide +kernel), lookup_putD, if_neg (show ¬ ("under" : Str) = "days" by decide +kernel)]
  rfl
def fsCount (y0 m1 w2 l3 b4 e5 : D) : List (Str × D) := putD "ends" e5 (putD "beneath" b4 (putD "loads" l3 (putD "words" w2 (putD "money" m1 (putD "year" y0 [])))))
theorem fl_Count (y0 m1 w2 l3 b4 e5 : D) : (fsCount y0 m1 w2 l3 b4 e5).length < 1000 := by
  exact Nat.lt_of_lt_of_le (putD_lt (putD_lt (putD_lt (putD_lt (putD_lt (putD_lt (by decide))))))) (by decide : 1 + 6 ≤ 1000)
theorem lk_Count_year (y0 m1 w2 l3 b4 e5 : D) : (fsCount y0 m1 w2 l3 b4 e5).lookup ("year" : Str) = some y0 := by
  unfold fsCount
  rw [lookup_putD, if_neg (show ¬ ("year" : Str) = "ends" by decide +kernel), lookup_putD, if_neg (show ¬ ("year" : Str) = "beneath" by decide +kernel), lookup_putD, if_neg (show ¬ ("year" : Str) = "loads" by decide +kernel), lookup_putD, if_neg (show ¬ ("year" : Str) = "words" by decide +kernel), lookup_putD, if_neg (show ¬ ("year" : Str) = "money" by decide +kernel), lookup_putD, if_pos rfl]
theorem lk_Count_money (y0 m1 w2 l3 b4 e5 : D) : (fsCount y0 m1 w2 l3 b4 e5).lookup ("money" : Str) = some m1 := by
  unfold fsCount
  rw [lookup_putD, if_neg (show ¬ ("money" : Str) = "ends" by decide +kernel), lookup_putD, if_neg (show ¬ ("money" : Str) = "beneath" by decide +kernel), lookup_putD, if_neg (show ¬ ("money" : Str) = "loads" by decide +kernel), lookup_putD, if_neg (show ¬ ("money" : Str) = "words" by decide +kernel), lookup_putD, if_pos rfl]
theorem lk_Count_words (y0 m1 w2 l3 b4 e5 : D) : (fsCount y0 m1 w2 l3 b4 e5).lookup ("words" : Str) = some w2 := by
  unfold fsCount
  rw [lookup_putD, if_neg (show ¬ ("words" : Str) = "ends" by decide +kernel), lookup_putD, if_neg (show ¬ ("words" : Str) = "beneath" by decide +kernel), lookup_putD, if_neg (show ¬ ("words" : Str) = "loads" by decide +kernel), lookup_putD, if_pos rfl]
theorem lk_Count_loads (y0 m1 w2 l3 b4 e5 : D) : (fsCount y0 m1 w2 l3 b4 e5).lookup ("loads" : Str) = some l3 := by
  unfold fsCount
  rw [lookup_putD, if_neg (show ¬ ("loads" : Str) = "ends" by decide +kernel), lookup_putD, if_neg (show ¬ ("loads" : Str) = "beneath" by decide +kernel), lookup_putD, if_pos rfl]
theorem lk_Count_beneath (y0 m1 w2 l3 b4 e5 : D) : (fsCount y0 m1 w2 l3 b4 e5).lookup ("beneath" : Str) = some b4 := by
  unfold fsCount
  rw [lookup_putD, if_neg (show ¬ ("beneath" : Str) = "ends" by decide +kernel), lookup_putD, if_pos rfl]
theorem lk_Count_ends (y0 m1 w2 l3 b4 e5 : D) : (fsCount y0 m1 w2 l3 b4 e5).lookup ("ends" : Str) = some e5 := by
  unfold fsCount
  rw [lookup_putD, if_pos rfl]
theorem lm_Count_begin (y0 m1 w2 l3 b4 e5 : D) : (fsCount y0 m1 w2 l3 b4 e5).lookup ("begin" : Str) = none := by
  unfold fsCount
  rw [lookup_putD, if_neg (show ¬ ("begin" : Str) = "ends" by decide +kernel), lookup_putD, if_neg (show ¬ ("begin" : Str) = "beneath" by decide +kernel), lookup_putD, if_neg (show ¬ ("begin" : Str) = "loads" by decide +kernel), lookup_putD, if_neg (show ¬ ("begin" : Str) = "words" by decide +kernel), lookup_putD, if_neg (show ¬ ("begin" : Str) = "money" by decide +kernel), lookup_putD, if_neg (show ¬ ("begin" : Str) = "year" by decide +kernel)]
  rfl
theorem lm_Count_hold (y0 m1 w2 l3 b4 e5 : D) : (fsCount y0 m1 w2 l3 b4 e5).lookup ("hold" : Str) = none := by
  unfold fsCount
  rw [lookup_putD, if_neg (show ¬ ("hold" : Str) = "ends" by decide +kernel), lookup_putD, if_neg (show ¬ ("hold" : Str) = "beneath" by decide +kernel), lookup_putD, if_neg (show ¬ ("hold" : Str) = "loads" by decide +kernel), lookup_putD, if_neg (show ¬ ("hold" : Str) = "words" by decide +kernel), lookup_putD, if_neg (show ¬ ("hold" : Str) = "money" by decide +kernel), lookup_putD, if_neg (show ¬ ("hold" : Str) = "year" by decide +kernel)]
  rfl
theorem lm_Count_load (y0 m1 w2 l3 b4 e5 : D) : (fsCount y0 m1 w2 l3 b4 e5).lookup ("load" : Str) = none := by
  unfold fsCount
  rw [lookup_putD, if_neg (show ¬ ("load" : Str) = "ends" by decide +kernel), lookup_putD, if_neg (show ¬ ("load" : Str) = "beneath" by decide +kernel), lookup_putD, if_neg (show ¬ ("load" : Str) = "loads" by decide +kernel), lookup_putD, if_neg (show ¬ ("load" : Str) = "words" by decide +kernel), lookup_putD, if_neg (show ¬ ("load" : Str) = "money" by decide +kernel), lookup_putD, if_neg (show ¬ ("load" : Str) = "year" by decide +kernel)]
  rfl
theorem lm_Count_is_fault (y0 m1 w2 l3 b4 e5 : D) : (fsCount y0 m1 w2 l3 b4 e5).lookup ("is_fault" : Str) = none := by
  unfold fsCount
  rw [lookup_putD, if_neg (show ¬ ("is_fault" : Str) = "ends" by decide +kernel), lookup_putD, if_neg (show ¬ ("is_fault" : Str) = "beneath" by decide +kernel), lookup_putD, if_neg (show ¬ ("is_fault" : Str) = "loads" by decide +kernel), lookup_putD, if_neg (show ¬ ("is_fault" : Str) = "words" by decide +kernel), lookup_putD, if_neg (show ¬ ("is_fault" : Str) = "money" by decide +kernel), lookup_putD, if_neg (show ¬ ("is_fault" : Str) = "year" by decide +kernel)]
  rfl
theorem lm_Count_put_promise (y0 m1 w2 l3 b4 e5 : D) : (fsCount y0 m1 w2 l3 b4 e5).lookup ("put_promise" : Str) = none := by
  unfold fsCount
  rw [lookup_putD, if_neg (show ¬ ("put_promise" : Str) = "ends" by decide +kernel), lookup_putD, if_neg (show ¬ ("put_promise" : Str) = "beneath" by decide +kernel), lookup_putD, if_neg (show ¬ ("put_promise" : Str) = "loads" by decide +kernel), lookup_putD, if_neg (show ¬ ("put_promise" : Str) = "words" by decide +kernel), lookup_putD, if_neg (show ¬ ("put_promise" : Str) = "money" by decide +kernel), lookup_putD, if_neg (show ¬ ("put_promise" : Str) = "year" by decide +kernel)]
  rfl
theorem lm_Count_put_other (y0 m1 w2 l3 b4 e5 : D) : (fsCount y0 m1 w2 l3 b4 e5).lookup ("put_other" : Str) = none := by
  unfold fsCount
  rw [lookup_putD, if_neg (show ¬ ("put_other" : Str) = "ends" by decide +kernel), lookup_putD, if_neg (show ¬ ("put_other" : Str) = "beneath" by decide +kernel), lookup_putD, if_neg (show ¬ ("put_other" : Str) = "loads" by decide +kernel), lookup_putD, if_neg (show ¬ ("put_other" : Str) = "words" by decide +kernel), lookup_putD, if_neg (show ¬ ("put_other" : Str) = "money" by decide +kernel), lookup_putD, if_neg (show ¬ ("put_other" : Str) = "year" by decide +kernel)]
  rfl
theorem lm_Count_put (y0 m1 w2 l3 b4 e5 : D) : (fsCount y0 m1 w2 l3 b4 e5).lookup ("put" : Str) = none := by
  unfold fsCount
  rw [lookup_putD, if_neg (show ¬ ("put" : Str) = "ends" by decide +kernel), lookup_putD, if_neg (show ¬ ("put" : Str) = "beneath" by decide +kernel), lookup_putD, if_neg (show ¬ ("put" : Str) = "loads" by decide +kernel), lookup_putD, if_neg (show ¬ ("put" : Str) = "words" by decide +kernel), lookup_putD, if_neg (show ¬ ("put" : Str) = "money" by decide +kernel), lookup_putD, if_neg (show ¬ ("put" : Str) = "year" by decide +kernel)]
  rfl
theorem lm_Count_left (y0 m1 w2 l3 b4 e5 : D) : (fsCount y0 m1 w2 l3 b4 e5).lookup ("left" : Str) = none := by
  unfold fsCount
  rw [lookup_putD, if_neg (show ¬ ("left" : Str) = "ends" by decide +kernel), lookup_putD, if_neg (show ¬ ("left" : Str) = "beneath" by decide +kernel), lookup_putD, if_neg (show ¬ ("left" : Str) = "loads" by decide +kernel), lookup_putD, if_neg (show ¬ ("left" : Str) = "words" by decide +kernel), lookup_putD, if_neg (show ¬ ("left" : Str) = "money" by decide +kernel), lookup_putD, if_neg (show ¬ ("left" : Str) = "year" by decide +kernel)]
  rfl
theorem lm_Count_passed (y0 m1 w2 l3 b4 e5 : D) : (fsCount y0 m1 w2 l3 b4 e5).lookup ("passed" : Str) = none := by
  unfold fsCount
  rw [lookup_putD, if_neg (show ¬ ("passed" : Str) = "ends" by decide +kernel), lookup_putD, if_neg (show ¬ ("passed" : Str) = "beneath" by decide +kernel), lookup_putD, if_neg (show ¬ ("passed" : Str) = "loads" by decide +kernel), lookup_putD, if_neg (show ¬ ("passed" : Str) = "words" by decide +kernel), lookup_putD, if_neg (show ¬ ("passed" : Str) = "money" by decide +kernel), lookup_putD, if_neg (show ¬ ("passed" : Str) = "year" by decide +kernel)]
  rfl
theorem lm_Count_stand (y0 m1 w2 l3 b4 e5 : D) : (fsCount y0 m1 w2 l3 b4 e5).lookup ("stand" : Str) = none := by
  unfold fsCount
  rw [lookup_putD, if_neg (show ¬ ("stand" : Str) = "ends" by decide +kernel), lookup_putD, if_neg (show ¬ ("stand" : Str) = "beneath" by decide +kernel), lookup_putD, if_neg (show ¬ ("stand" : Str) = "loads" by decide +kernel), lookup_putD, if_neg (show ¬ ("stand" : Str) = "words" by decide +kernel), lookup_putD, if_neg (show ¬ ("stand" : Str) = "money" by decide +kernel), lookup_putD, if_neg (show ¬ ("stand" : Str) = "year" by decide +kernel)]
  rfl
def fsDated (y0 s1 f2 : D) : List (Str × D) := putD "first" f2 (putD "stands" s1 (putD "year" y0 []))
theorem fl_Dated (y0 s1 f2 : D) : (fsDated y0 s1 f2).length < 1000 := by
  exact Nat.lt_of_lt_of_le (putD_lt (putD_lt (putD_lt (by decide)))) (by decide : 1 + 3 ≤ 1000)
theorem lk_Dated_year (y0 s1 f2 : D) : (fsDated y0 s1 f2).lookup ("year" : Str) = some y0 := by
  unfold fsDated
  rw [lookup_putD, if_neg (show ¬ ("year" : Str) = "first" by decide +kernel), lookup_putD, if_neg (show ¬ ("year" : Str) = "stands" by decide +kernel), lookup_putD, if_pos rfl]
theorem lk_Dated_stands (y0 s1 f2 : D) : (fsDated y0 s1 f2).lookup ("stands" : Str) = some s1 := by
  unfold fsDated
  rw [lookup_putD, if_neg (show ¬ ("stands" : Str) = "first" by decide +kernel), lookup_putD, if_pos rfl]
theorem lk_Dated_first (y0 s1 f2 : D) : (fsDated y0 s1 f2).lookup ("first" : Str) = some f2 := by
  unfold fsDated
  rw [lookup_putD, if_pos rfl]
theorem lm_Dated_settle (y0 s1 f2 : D) : (fsDated y0 s1 f2).lookup ("settle" : Str) = none := by
  unfold fsDated
  rw [lookup_putD, if_neg (show ¬ ("settle" : Str) = "first" by decide +kernel), lookup_putD, if_neg (show ¬ ("settle" : Str) = "stands" by decide +kernel), lookup_putD, if_neg (show ¬ ("settle" : Str) = "year" by decide +kernel)]
  rfl
theorem lm_Dated_breach (y0 s1 f2 : D) : (fsDated y0 s1 f2).lookup ("breach" : Str) = none := by
  unfold fsDated
  rw [lookup_putD, if_neg (show ¬ ("breach" : Str) = "first" by decide +kernel), lookup_putD, if_neg (show ¬ ("breach" : Str) = "stands" by decide +kernel), lookup_putD, if_neg (show ¬ ("breach" : Str) = "year" by decide +kernel)]
  rfl

inductive Ent where
  | give (h : Str) (c : Int) (n : Str) | hold (h : Str) (c u : Int) (n : Str) | move (h o : Str) (c : Int) (n : Str) | spend (h : Str) (c : Int) (n : Str)
  | promise (w h : Str) (c : Int) (n : Str) | lessen (w : Str) (c : Int) (n : Str) | out (w : Str) (c : Int) (n : Str)
def Ent.kind : Ent → Str
  | .give .. => "Give" | .hold .. => "Hold" | .move .. => "Move" | .spend .. => "Spend" | .promise .. => "Promise" | .lessen .. => "Lessen" | .out .. => "Out"
def Ent.fs : Ent → List (Str × D)
  | .give h c n => fsGive (.str h) (.int c) (.str n)
  | .hold h c u n => fsHold (.str h) (.int c) (.int u) (.str n)
  | .move h o c n => fsMove (.str h) (.str o) (.int c) (.str n)
  | .spend h c n => fsSpend (.str h) (.int c) (.str n)
  | .promise w h c n => fsPromise (.str w) (.str h) (.int c) (.str n)
  | .lessen w c n => fsLessen (.str w) (.int c) (.str n)
  | .out w c n => fsOut (.str w) (.int c) (.str n)
def encE (K : PySem.W.Frag) (e : Ent) : D := .ins (He.ga K e.kind) e.fs


end
end Kp

set_option maxHeartbeats 4000000
namespace Kp
open PySem PySem.Spec PyProof.Rows L2
local macro_rules | `(tactic| walk_at "kp0") => `(tactic| try dsimp only [cxOf, Cx.nox, Cx.wish])
local macro_rules | `(tactic| walk_at "kp1") => `(tactic| first
  | with_reducible refine rs_seq ?_
  | with_reducible refine re_var rfl ?_
  | with_reducible refine re_int ?_
  | with_reducible refine re_str ?_
  | with_reducible refine re_op ?_
  | with_reducible refine re_cb ?_
  | with_reducible refine ra_cons ?_
  | ((with_reducible refine ra_nil ?_); first
      | refine Exists.intro _ ⟨rfl, ?_⟩
      | refine ⟨_, _, rfl, ?_⟩
      | refine ⟨_, _, _, rfl, ?_⟩
      | refine ⟨_, _, _, _, rfl, ?_⟩
      | refine ⟨_, _, _, _, _, rfl, ?_⟩
      | refine ⟨_, _, _, _, _, _, rfl, ?_⟩
      | refine And.intro rfl ?_)
  | with_reducible refine ra_nil ?_
  | with_reducible refine rs_ret ?_
  | with_reducible refine rs_asg ?_
  | with_reducible refine rg_name ?_
  | with_reducible refine rs_if ?_
  | with_reducible refine rt_test ?_
  | with_reducible refine rt_B ?_
  | with_reducible refine re_call ?_
  | with_reducible refine rr_int0 ?_
  | with_reducible refine rr_bl0 ?_
  | with_reducible refine rr_I0 rfl ?_
  | with_reducible refine re_bl ?_
  | with_reducible refine re_non ?_
  | with_reducible refine re_ty ?_
  | with_reducible refine re_ref ?_
  | with_reducible refine rs_drop ?_
  | with_reducible refine re_chain ?_
  | with_reducible refine re_andV ?_
  | with_reducible refine re_orV ?_
  | with_reducible refine re_notV ?_
  | with_reducible refine rt_not ?_
  | with_reducible refine rt_and ?_
  | with_reducible refine rt_or ?_
  | with_reducible refine rs_next ?_
  | with_reducible refine rs_cont ?_
  | with_reducible refine rs_break ?_
  | with_reducible refine rs_retN ?_
  | with_reducible refine rr_eq rfl ?_
  | with_reducible refine rr_ne rfl ?_
  | with_reducible refine rr_mulR (by omega) ?_
  | with_reducible refine rr_mulL (by omega) ?_
  | with_reducible refine rr_mod (by omega) ?_
  | with_reducible refine rr_fdiv (by omega) ?_
  | with_reducible refine ro_none ?_
  | with_reducible refine ro_some ?_
  | with_reducible refine re_tup ?_
  | with_reducible refine rg_tup tupD1 rfl ?_
  | with_reducible refine rgs_cons ?_
  | with_reducible refine rgs_nil ?_
  | with_reducible refine rr_ixT0 ?_
  | with_reducible refine rr_ixT1 ?_
  | with_reducible refine rr_ixT2 ?_
  | with_reducible refine rr_ixT3 ?_
  | with_reducible refine rr_ixT4 ?_
  | with_reducible refine rr_ixT5 ?_
  | with_reducible refine rr_isN ?_
  | with_reducible refine rr_notN ?_
  | with_reducible refine rcI1 ?_
  | with_reducible refine rcI2 ?_
  | with_reducible refine rcI3 ?_
  | with_reducible refine rcI4 ?_
  | with_reducible refine rcI5 ?_
  | with_reducible refine rc_listL ?_
  | with_reducible refine rc_lenL ?_
  | with_reducible refine rc_lenT ?_
  | with_reducible refine rc_min2 ?_
  | with_reducible refine rc_intB ?_
  | with_reducible refine re_strip ?_
  | with_reducible refine re_lst (tA := tCons _ _) ?_
  | with_reducible refine re_fld ?_
  | with_reducible refine rs_fld ?_
  | with_reducible refine re_meth ?_
  | with_reducible exact rfl
  | with_reducible refine andT ?_
  | with_reducible refine andF ?_
  | refine Exists.intro _ ⟨rfl, ?_⟩
  | refine andT ?_
  | refine andF ?_
  | assumption
  | refine And.intro rfl ?_
  | refine And.intro (by assumption) ?_
  | with_reducible refine And.intro (Nat.le_of_ble_eq_true rfl) ?_
  | with_reducible refine And.intro (by omega) ?_)
local macro_rules | `(tactic| walk_at "kp") => `(tactic| repeat (walk_at "kp1"))
section
variable {P : Program} {w : World} {K : PySem.W.Frag} {mg : Str → Option Value} {base : Heap}
def spc_is_whole (K : PySem.W.Frag) : Spc := fun ds M Pc => ∃ (i : Int), ds = [.int i] ∧ Pc (.bl true) M
theorem len_is_whole (ds : List D) (M : Mem) (Pc : D → Mem → Prop) (h : spc_is_whole K ds M Pc) : ds.length = 1 := by
  obtain ⟨_, rfl, _⟩ := h
  rfl
abbrev nm_is_whole : List Str := ["thing"]
theorem sc_is_whole : FnScope nm_is_whole ["thing"] (defScope s_is_whole) := ⟨rfl, rfl, rfl, by decide +kernel, rfl, by decide +kernel, by decide +kernel⟩
theorem ok_is_whole (TX : Txt K mg base) : Kept P w K mg base 1 (He.fAd K ("is_whole", none)) ["thing"] (spc_is_whole K) := by
  refine okD (fn_is_whole TX) sc_is_whole (fun _ _ _ _ _ _ us hl => match us, hl with | [_], _ => rfl) len_is_whole fun cdv A outer s H E hr ds M Pc h => ?_
  obtain ⟨i, rfl, h⟩ := h
  refine ⟨_, (pss_one (ps_ret (pe_and (pe_callB call_isi rfl (n_isinstance TX) (by decide +kernel) (pa_cons (pv 0) (pa_cons (pe_bltn (v := .ty "int") rfl (n_int TX) (by decide +kernel) rfl) pa_nil))) (pe_one (pe_not (pe_callB call_isi rfl (n_isinstance TX) (by decide +kernel) (pa_cons (pv 0) (pa_cons (pe_bltn (v := .ty "bool") rfl (n_bool TX) (by decide +kernel) rfl) pa_nil)))))))), ?_⟩
  walk_at "kp0"
  walk_at "kp"
def spc_within (K : PySem.W.Frag) : Spc := fun ds M Pc => ∃ (i lo hi : Int), ds = [.int i, .int lo, .int hi] ∧ Pc (.bl (decide (lo ≤ i ∧ i ≤ hi))) M
theorem len_within (ds : List D) (M : Mem) (Pc : D → Mem → Prop) (h : spc_within K ds M Pc) : ds.length = 3 := by
  obtain ⟨_, _, _, rfl, _⟩ := h
  rfl
abbrev nm_within : List Str := ["thing", "least", "most"]
theorem sc_within : FnScope nm_within ["thing", "least", "most"] (defScope s_within) := ⟨rfl, rfl, rfl, by decide +kernel, rfl, by decide +kernel, by decide +kernel⟩
theorem ok_within (TX : Txt K mg base) : Kept P w K mg base 2 (He.fAd K ("within", none)) ["thing", "least", "most"] (spc_within K) := by
  obtain ⟨fd_is_whole, G_is_whole, kp_is_whole, b_is_whole⟩ := ok_is_whole (P := P) (w := w) TX
  refine okD (fn_within TX) sc_within (fun _ _ _ _ _ _ us hl => match us, hl with | [_, _, _], _ => rfl) len_within fun cdv A outer s H E hr ds M Pc h => ?_
  obtain ⟨i, lo, hi, rfl, h⟩ := h
  refine ⟨_, (pss_one (ps_ret (pe_and (pe_call G_is_whole (hr.mono (by decide)) rfl (g_is_whole TX) kp_is_whole b_is_whole .nil pass0 (pa_cons (pv 0) pa_nil)) (pe_one (pe_chain op_le op_le (pv 1) (pv 0) (pv 2)))))), ?_⟩
  walk_at "kp0"
  walk_at "kp"
  refine ⟨fun h1 => ?_, fun h1 => ?_⟩
  · walk_at "kp"
    have h1 := of_decide_eq_true h1
    have e : decide (lo ≤ i ∧ i ≤ hi) = decide (i ≤ hi) := by simp [h1]
    rw [e] at h
    exact h
  · have h1 := of_decide_eq_false h1
    have e : decide (lo ≤ i ∧ i ≤ hi) = false := decide_eq_false fun z => h1 z.1
    rw [e] at h
    exact h
/-- a name -/
def NameOk (s : Str) : Prop := s ≠ "" ∧ s.length ≤ 8 ∧ Txt.stripChars s v_LETTERS = "" ∧ PyData.strOk s = true
def NoteOk (s : Str) : Prop := s = "" ∨ NameOk s
/-- data that the comparison of data takes -/
inductive Shp : Nat → D → Prop where
  | non (n : Nat) : Shp n .non
  | int (n : Nat) (i : Int) : Shp n (.int i)
  | str {n : Nat} {s : Str} : PyData.strOk s = true → Shp n (.str s)
  | tup {n : Nat} {ds : List D} : (∀ d ∈ ds, Shp n d) → Shp (n + 1) (.tup ds)
  | lst {n : Nat} {ds : List D} : (∀ d ∈ ds, Shp n d) → Shp (n + 1) (.lst ds)
theorem Shp.all {n : Nat} {ds : List D} (h : ∀ d ∈ ds, datB d = true ∧ PyData.canLay0 (toPy d) = true ∧ PyData.depth (toPy d) ≤ n) : datBs ds = true ∧ PyData.canLayAll0 (toPys ds) = true ∧ PyData.depthAll (toPys ds) ≤ n := by
  induction ds with
  | nil => exact ⟨rfl, by simp [toPys, PyData.canLayAll0], by simp [toPys, PyData.depthAll]⟩
  | cons d r ih =>
    obtain ⟨a1, a2, a3⟩ := h d List.mem_cons_self
    obtain ⟨b1, b2, b3⟩ := ih fun x hx => h x (List.mem_cons_of_mem _ hx)
    refine ⟨by simp [datBs, a1, b1], by simp [toPys, PyData.canLayAll0, a2, b2], ?_⟩
    simp only [toPys, PyData.depthAll]
    omega
theorem Shp.ok {n : Nat} {d : D} (h : Shp n d) : datB d = true ∧ PyData.canLay0 (toPy d) = true ∧ PyData.depth (toPy d) ≤ n := by
  induction h with
  | non n => exact ⟨rfl, by simp [toPy, PyData.canLay0], by simp [toPy, PyData.depth]⟩
  | int n i => exact ⟨rfl, by simp [toPy, PyData.canLay0], by simp [toPy, PyData.depth]⟩
  | str h => exact ⟨rfl, by simp [toPy, PyData.canLay0, h], by simp [toPy, PyData.depth]⟩
  | @tup n ds _ ih =>
    obtain ⟨a1, a2, a3⟩ := Shp.all ih
    exact ⟨by simp [datB, a1], by simp [toPy, PyData.canLay0, a2], by simp only [toPy, PyData.depth]; omega⟩
  | @lst n ds _ ih =>
    obtain ⟨a1, a2, a3⟩ := Shp.all ih
    exact ⟨by simp [datB, a1], by simp [toPy, PyData.canLay0, a2], by simp only [toPy, PyData.depth]; omega⟩
theorem Shp.shaped {n : Nat} {d : D} (h : Shp n d) (hn : n ≤ 64 := by decide) : SeqAt.shaped (toPy d) = true := by
  obtain ⟨_, h2, h3⟩ := h.ok
  unfold SeqAt.shaped
  rw [h2, decide_eq_true (by omega)]
  rfl
theorem rr_eqS {M : Mem} {Pd : D → Mem → Prop} {x y : D} {n m : Nat} (hx : Shp n x) (hy : Shp m y) (p : Pd (.bl (PyData.eqv (toPy x) (toPy y))) M) (hn : n ≤ 64 := by decide) (hm : m ≤ 64 := by decide) : RR K (rEqD K) x y M Pd := rr_eqD hx.ok.1 hy.ok.1 (hx.shaped hn) (hy.shaped hm) p
theorem rr_neS {M : Mem} {Pd : D → Mem → Prop} {x y : D} {n m : Nat} (hx : Shp n x) (hy : Shp m y) (p : Pd (.bl (!PyData.eqv (toPy x) (toPy y))) M) (hn : n ≤ 64 := by decide) (hm : m ≤ 64 := by decide) : RR K (rNeD K) x y M Pd := rr_neD hx.ok.1 hy.ok.1 (hx.shaped hn) (hy.shaped hm) p
def spc_is_name (K : PySem.W.Frag) : Spc := fun ds M Pc => ∃ (s : Str), ds = [.str s] ∧ NameOk s ∧ Pc (.bl true) M
theorem len_is_name (ds : List D) (M : Mem) (Pc : D → Mem → Prop) (h : spc_is_name K ds M Pc) : ds.length = 1 := by
  obtain ⟨_, rfl, _⟩ := h
  rfl
abbrev nm_is_name : List Str := ["thing"]
theorem sc_is_name : FnScope nm_is_name ["thing"] (defScope s_is_name) := ⟨rfl, rfl, rfl, by decide +kernel, rfl, by decide +kernel, by decide +kernel⟩
theorem ok_is_name (TX : Txt K mg base) : Kept P w K mg base 1 (He.fAd K ("is_name", none)) ["thing"] (spc_is_name K) := by
  refine okD (fn_is_name TX) sc_is_name (fun _ _ _ _ _ _ us hl => match us, hl with | [_], _ => rfl) len_is_name fun cdv A outer s H E hr ds M Pc h => ?_
  obtain ⟨s, rfl, ⟨n1, n2, n3, _⟩, h⟩ := h
  refine ⟨_, (pss_cons (ps_if (PW.pt (pw_or (pt_not (pt_val (pe_callB call_isi rfl (n_isinstance TX) (by decide +kernel) (pa_cons (pv 0) (pa_cons (pe_bltn (v := .ty "str") rfl (n_str TX) (by decide +kernel) rfl) pa_nil))))) (pw_or (pt_cmpR op_eq (pv 0) pe_str (nomark _)) (pw_or1 (pt_cmpR op_gt (pe_callB call_len rfl (n_len TX) PySem.boot_len (pa_cons (pv 0) pa_nil)) (pe_glob (v := .int 8) rfl (Classical.choose_spec (k_MOST_SIGNS TX)) ⟨_, rfl⟩) (nomark _)))))) (pss_one (ps_ret pe_bl)) pss_nil)
    (pss_one (ps_ret (pe_cmpR op_eq (pe_bm PySem.F.plainAttrs_str PySem.F.slot_str_strip PySem.F.type_str_strip mt_stripChars (pv 0) (pa_cons (pe_glob (v := .str v_LETTERS) rfl (Classical.choose_spec (k_LETTERS TX)) ⟨_, rfl⟩) pa_nil)) pe_str (nomark _))))), ?_⟩
  walk_at "kp0"
  walk_at "kp"
  refine ⟨fun z => absurd (of_decide_eq_true z) n1, fun _ => ?_⟩
  walk_at "kp"
  refine rc_len (.inr (.inr ⟨s, rfl, by omega, rfl⟩)) ?_
  walk_at "kp"
  refine ⟨fun z => absurd (of_decide_eq_true z) (by omega), fun _ => ?_⟩
  walk_at "kp"
  rw [n3]
  exact h
def spc_check (K : PySem.W.Frag) : Spc := fun ds M Pc => ds = [.bl true] ∧ Pc .non M
theorem len_check (ds : List D) (M : Mem) (Pc : D → Mem → Prop) (h : spc_check K ds M Pc) : ds.length = 1 := by
  obtain ⟨rfl, _⟩ := h
  rfl
abbrev nm_check : List Str := ["good"]
theorem sc_check : FnScope nm_check ["good"] (defScope s_check) := ⟨rfl, rfl, rfl, by decide +kernel, rfl, by decide +kernel, by decide +kernel⟩
theorem ok_check (TX : Txt K mg base) : Kept P w K mg base 1 (He.fAd K ("check", none)) ["good"] (spc_check K) := by
  refine okD (fn_check TX) sc_check (fun _ _ _ _ _ _ us hl => match us, hl with | [_], _ => rfl) len_check fun cdv A outer s H E hr ds M Pc h => ?_
  obtain ⟨rfl, h⟩ := h
  refine ⟨_, (pss_one (ps_if (pt_not (pt_val (pv 0))) (pss_one ps_never) pss_nil)), ?_⟩
  walk_at "kp0"
  walk_at "kp"
def CoinsOk (c : Int) : Prop := 1 ≤ c ∧ c ≤ 1000000000000
def spc_check_coins (K : PySem.W.Frag) : Spc := fun ds M Pc => ∃ (c : Int) (n : Str), ds = [.int c, .str n] ∧ CoinsOk c ∧ NoteOk n ∧ Pc .non M
theorem len_check_coins (ds : List D) (M : Mem) (Pc : D → Mem → Prop) (h : spc_check_coins K ds M Pc) : ds.length = 2 := by
  obtain ⟨_, _, rfl, _⟩ := h
  rfl
abbrev nm_check_coins : List Str := ["coins", "note"]
theorem sc_check_coins : FnScope nm_check_coins ["coins", "note"] (defScope s_check_coins) := ⟨rfl, rfl, rfl, by decide +kernel, rfl, by decide +kernel, by decide +kernel⟩
theorem ok_check_coins (TX : Txt K mg base) : Kept P w K mg base 3 (He.fAd K ("check_coins", none)) ["coins", "note"] (spc_check_coins K) := by
  obtain ⟨fd_check, G_check, kp_check, b_check⟩ := ok_check (P := P) (w := w) TX
  obtain ⟨fd_within, G_within, kp_within, b_within⟩ := ok_within (P := P) (w := w) TX
  obtain ⟨fd_is_name, G_is_name, kp_is_name, b_is_name⟩ := ok_is_name (P := P) (w := w) TX
  refine okD (fn_check_coins TX) sc_check_coins (fun _ _ _ _ _ _ us hl => match us, hl with | [_, _], _ => rfl) len_check_coins fun cdv A outer s H E hr ds M Pc h => ?_
  obtain ⟨c, n, rfl, hc, hn, h⟩ := h
  refine ⟨_, (pss_cons (ps_expr (pe_call G_check (hr.mono (by decide)) rfl (g_check TX) kp_check b_check .nil pass0 (pa_cons (pe_and (pe_call G_within (hr.mono (by decide)) rfl (g_within TX) kp_within b_within .nil pass0 (pa_cons (pv 0) (pa_cons pe_int (pa_cons (pe_glob (v := .int 1000000000000) rfl (Classical.choose_spec (k_MOST_COINS TX)) ⟨_, rfl⟩) pa_nil)))) (pe_one (pe_callB call_isi rfl (n_isinstance TX) (by decide +kernel) (pa_cons (pv 1) (pa_cons (pe_bltn (v := .ty "str") rfl (n_str TX) (by decide +kernel) rfl) pa_nil))))) pa_nil)))
    (pss_one (ps_expr (pe_call G_check (hr.mono (by decide)) rfl (g_check TX) kp_check b_check .nil pass0 (pa_cons (pe_or (pe_cmpR op_eq (pv 1) pe_str (nomark _)) (pe_one (pe_call G_is_name (hr.mono (by decide)) rfl (g_is_name TX) kp_is_name b_is_name .nil pass0 (pa_cons (pv 1) pa_nil)))) pa_nil))))), ?_⟩
  walk_at "kp0"
  walk_at "kp"
  have e1 : decide (1 ≤ c ∧ c ≤ 1000000000000) = true := decide_eq_true hc
  rw [e1]
  walk_at "kp"
  refine ⟨fun _ => ?_, fun z => ?_⟩
  · walk_at "kp"
  · walk_at "kp"
    refine ⟨hn.resolve_left (of_decide_eq_false z), ?_⟩
    walk_at "kp"
def EOk : Ent → Prop
  | .give h c n => NameOk h ∧ CoinsOk c ∧ NoteOk n
  | .hold h c u n => NameOk h ∧ (2 ≤ u ∧ u ≤ 31) ∧ CoinsOk c ∧ NoteOk n
  | .move h o c n => NameOk h ∧ NameOk o ∧ h ≠ o ∧ CoinsOk c ∧ NoteOk n
  | .spend h c n => NameOk h ∧ CoinsOk c ∧ NoteOk n
  | .promise w h c n => NameOk w ∧ NameOk h ∧ CoinsOk c ∧ NoteOk n
  | .lessen w c n => NameOk w ∧ CoinsOk c ∧ NoteOk n
  | .out w c n => NameOk w ∧ CoinsOk c ∧ NoteOk n
def encT : Ent → D
  | .give h c n => .tup [.str "give", .str h, .int c, .str n]
  | .hold h c u n => .tup [.str "hold", .str h, .int c, .int u, .str n]
  | .move h o c n => .tup [.str "move", .str h, .str o, .int c, .str n]
  | .spend h c n => .tup [.str "spend", .str h, .int c, .str n]
  | .promise w h c n => .tup [.str "promise", .str w, .str h, .int c, .str n]
  | .lessen w c n => .tup [.str "lessen", .str w, .int c, .str n]
  | .out w c n => .tup [.str "out", .str w, .int c, .str n]
theorem NameOk.ok {s : Str} (h : NameOk s) : PyData.strOk s = true := h.2.2.2
theorem NoteOk.ok {s : Str} (h : NoteOk s) : PyData.strOk s = true := by
  rcases h with rfl | h
  · decide +kernel
  · exact h.ok
theorem al_nil {α : Type} {p : α → Prop} : ∀ d ∈ ([] : List α), p d := fun d h => by cases h
theorem al_cons {α : Type} {p : α → Prop} {x : α} {r : List α} (h : p x) (k : ∀ d ∈ r, p d) : ∀ d ∈ x :: r, p d := fun d hd => by
  rcases List.mem_cons.mp hd with rfl | hd
  · exact h
  · exact k d hd
theorem shp_told {e : Ent} (h : EOk e) : Shp 1 (encT e) := by
  have k1 : PyData.strOk "give" = true := by decide +kernel
  have k2 : PyData.strOk "hold" = true := by decide +kernel
  have k3 : PyData.strOk "move" = true := by decide +kernel
  have k4 : PyData.strOk "spend" = true := by decide +kernel
  have k5 : PyData.strOk "promise" = true := by decide +kernel
  have k6 : PyData.strOk "lessen" = true := by decide +kernel
  have k7 : PyData.strOk "out" = true := by decide +kernel
  cases e with
  | give h c n => exact .tup (al_cons (.str k1) (al_cons (.str h.1.ok) (al_cons (.int _ _) (al_cons (.str h.2.2.ok) al_nil))))
  | hold h c u n => exact .tup (al_cons (.str k2) (al_cons (.str h.1.ok) (al_cons (.int _ _) (al_cons (.int _ _) (al_cons (.str h.2.2.2.ok) al_nil)))))
  | move h o c n => exact .tup (al_cons (.str k3) (al_cons (.str h.1.ok) (al_cons (.str h.2.1.ok) (al_cons (.int _ _) (al_cons (.str h.2.2.2.2.ok) al_nil)))))
  | spend h c n => exact .tup (al_cons (.str k4) (al_cons (.str h.1.ok) (al_cons (.int _ _) (al_cons (.str h.2.2.ok) al_nil))))
  | promise w h c n => exact .tup (al_cons (.str k5) (al_cons (.str h.1.ok) (al_cons (.str h.2.1.ok) (al_cons (.int _ _) (al_cons (.str h.2.2.2.ok) al_nil)))))
  | lessen w c n => exact .tup (al_cons (.str k6) (al_cons (.str h.1.ok) (al_cons (.int _ _) (al_cons (.str h.2.2.ok) al_nil))))
  | out w c n => exact .tup (al_cons (.str k7) (al_cons (.str h.1.ok) (al_cons (.int _ _) (al_cons (.str h.2.2.ok) al_nil))))


end
end Kp

set_option maxHeartbeats 4000000
namespace Kp
open PySem PySem.Spec PyProof.Rows L2
section
variable {P : Program} {w : World} {K : PySem.W.Frag} {mg : Str → Option Value} {base : Heap}
def Kinds : List Str := kindsL
theorem kind_mem (e : Ent) : e.kind ∈ kindsL := by
  cases e <;> simp [Ent.kind, kindsL]
theorem exK (TX : Txt K mg base) : ∀ x ∈ kindsL, clsX K x = true ∧ kitsX K x = true ∧ inhX K x "fits" = true := by
  have h := TX.ex
  unfold ex at h
  intro x hx
  have h2 := (He.ba (He.ba h).2).1
  have h3 := List.all_eq_true.mp h2 x hx
  obtain ⟨a, b⟩ := He.ba h3
  obtain ⟨c, d⟩ := He.ba b
  exact ⟨a, c, d⟩
theorem clsF (TX : Txt K mg base) (x : Str) (hx : x ∈ kindsL) (cl : Cls K (He.ga K x)) : ClsF K (He.ga K x) := by
  have h := (exK TX x hx).1
  unfold clsX at h
  obtain ⟨h1, h2⟩ := He.ba h
  obtain ⟨h3, h4⟩ := He.ba h2
  obtain ⟨h5, h6⟩ := He.ba h4
  exact ⟨cl, He.eqO_ok h1, He.eqO_ok h3, of_decide_eq_true h5, of_decide_eq_true h6⟩
theorem kit_of_kind (TX : Txt K mg base) (x y : Str) (hx : x ∈ kindsL) (hy : y ∈ kindsL) : PySem.W.kitOne K (.ref (He.ga K x)) (.ref (He.ga K y)) = some (decide (x = y)) := by
  have h := (exK TX x hx).2.1
  unfold kitsX at h
  exact of_decide_eq_true (List.all_eq_true.mp (He.ba h).2 y hy)
theorem kit_entry (TX : Txt K mg base) (x : Str) (hx : x ∈ kindsL) : PySem.W.kitOne K (.ref (He.ga K x)) (.ref (He.ga K "Entry")) = some true := by
  have h := (exK TX x hx).2.1
  unfold kitsX at h
  exact of_decide_eq_true (He.ba h).1
theorem clsE (TX : Txt K mg base) (e : Ent) : ClsF K (He.ga K e.kind) := by
  refine clsF TX _ (kind_mem e) ?_
  cases e
  · exact cl_Give TX
  · exact cl_Hold TX
  · exact cl_Move TX
  · exact cl_Spend TX
  · exact cl_Promise TX
  · exact cl_Lessen TX
  · exact cl_Out TX
def Ent.turn : Ent → Int
  | .promise .. => 0
  | .lessen .. => 1
  | .out .. => 2
  | _ => 3
abbrev Itm := Int × Int × Ent
def encI (K : PySem.W.Frag) (it : Itm) : D := .tup [.int it.1, .int it.2.1, encE K it.2.2]
def keyI (it : Itm) : Tri := (it.2.1, it.2.2.turn, it.1)
def leI (a b : Itm) : Bool := leT (keyI a) (keyI b)
theorem turn_kit (e : Ent) : e.turn = turnK (decide (e.kind = "Promise")) (decide (e.kind = "Lessen")) (decide (e.kind = "Out")) := by
  cases e
  · exact (show (3 : Int) = turnK (decide (("Give" : Str) = "Promise")) (decide (("Give" : Str) = "Lessen")) (decide (("Give" : Str) = "Out")) by decide +kernel)
  · exact (show (3 : Int) = turnK (decide (("Hold" : Str) = "Promise")) (decide (("Hold" : Str) = "Lessen")) (decide (("Hold" : Str) = "Out")) by decide +kernel)
  · exact (show (3 : Int) = turnK (decide (("Move" : Str) = "Promise")) (decide (("Move" : Str) = "Lessen")) (decide (("Move" : Str) = "Out")) by decide +kernel)
  · exact (show (3 : Int) = turnK (decide (("Spend" : Str) = "Promise")) (decide (("Spend" : Str) = "Lessen")) (decide (("Spend" : Str) = "Out")) by decide +kernel)
  · exact (show (0 : Int) = turnK (decide (("Promise" : Str) = "Promise")) (decide (("Promise" : Str) = "Lessen")) (decide (("Promise" : Str) = "Out")) by decide +kernel)
  · exact (show (1 : Int) = turnK (decide (("Lessen" : Str) = "Promise")) (decide (("Lessen" : Str) = "Lessen")) (decide (("Lessen" : Str) = "Out")) by decide +kernel)
  · exact (show (2 : Int) = turnK (decide (("Out" : Str) = "Promise")) (decide (("Out" : Str) = "Lessen")) (decide (("Out" : Str) = "Out")) by decide +kernel)
theorem turnFn (TX : Txt K mg base) : TurnFn K mg (He.ga K "turn_of") := by
  obtain ⟨fd, F⟩ := fn_turn_of TX
  obtain ⟨oc, od, dV, kV, doc, pm, an, cdv, ct, osl, rfl, lk, hcd, hD, _⟩ := F.ex
  rcases hD with ⟨_, rfl⟩ | ⟨e, _⟩
  · exact ⟨g_turn_of TX, F.kp, oc, kV, doc, pm, cdv, ct, od, an, osl, lk, hcd⟩
  · exact absurd rfl e
/-- pairs of a value and its datum -/
theorem iss_map {I : Hp} {zs : List (V × Itm)} (h : ∀ z ∈ zs, Is K I z.1 (encI K z.2)) : Iss K I (zs.map (·.1)) ((zs.map (·.2)).map (encI K)) := by
  induction zs with
  | nil => exact .nil
  | cons z r ih => exact .cons (h z List.mem_cons_self) (ih fun y hy => h y (List.mem_cons_of_mem _ hy))
theorem iss_zip {I : Hp} : ∀ {vs : List V} {items : List Itm}, Iss K I vs (items.map (encI K)) → ∃ zs : List (V × Itm), vs = zs.map (·.1) ∧ items = zs.map (·.2) ∧ ∀ z ∈ zs, Is K I z.1 (encI K z.2)
  | _, [], .nil => ⟨[], rfl, rfl, fun z h => by cases h⟩
  | _, it :: r, .cons h k => by
    obtain ⟨zs, e1, e2, e3⟩ := iss_zip (items := r) k
    refine ⟨(_, it) :: zs, by rw [List.map_cons, ← e1], by rw [List.map_cons, ← e2], fun z hz => ?_⟩
    rcases List.mem_cons.mp hz with rfl | hz
    · exact h
    · exact e3 z hz
theorem item_ok (TX : Txt K mg base) {I H : Hp} {v : V} {it : Itm} (e : Same I H) (h : Is K I v (encI K it)) : ItemOk K H v (keyI it) := by
  unfold encI at h
  cases h with
  | tup ht hk =>
  cases hk with
  | cons h1 hk =>
  obtain ⟨u1, u2, rfl, h2, h3⟩ := hk.two
  cases h1
  cases h2
  unfold encE at h3
  cases h3 with
  | ins he hf =>
  exact ⟨_, _, _, _, _, _, _, _, _, _, rfl, e _ _ ht, e _ _ he, clsE TX _, kit_of_kind TX _ _ (kind_mem _) (by simp [kindsL]), kit_of_kind TX _ _ (kind_mem _) (by simp [kindsL]), kit_of_kind TX _ _ (kind_mem _) (by simp [kindsL]), by unfold keyI; rw [turn_kit]⟩
theorem re_sortLam (TX : Txt K mg base) {te : TE} {δ : DEnv} {M : Mem} {Pd : D → Mem → Prop} (h : RE K te δ M fun d M1 => ∃ items : List Itm, d = .lst (items.map (encI K)) ∧ ∀ p, M1 p = none → Pd (.ref p) (mset M1 p (.lst ((items.mergeSort leI).map (encI K))))) : RE K (tSortLam K te) δ M Pd := fun σ I F H he hs Q q =>
  h.use he hs fun v d I1 M1 H1 e1 s1 r1 ⟨items, ed, p⟩ => by
    subst ed
    cases r1 with
    | lst ha hk =>
    obtain ⟨zs, rfl, rfl, hz⟩ := iss_zip hk
    obtain ⟨ps, hp, htr, hcs⟩ := s1.tab
    refine ⟨fun pq hpq => ?_, _, zs.map (fun z => (z.1, keyI z.2)), rfl, by rw [List.map_map]; exact s1.sub _ _ ha, fun y hy => ?_, fun H2 l eN T2 hl => ?_⟩
    · rw [List.mem_singleton.mp hpq]
      exact ⟨ps, hp, htr, fun pos cv z => by obtain ⟨c, z1, z2⟩ := hcs pos cv z; exact ⟨c, z1, s1.sub _ _ z2⟩⟩
    · obtain ⟨z, hzm, rfl⟩ := List.mem_map.mp hy
      exact item_ok TX s1.sub (hz z hzm)
    · -- the state behind: the lambda's code object stands still from now on
      classical
      let I2 : Hp := fun b => match I1 b with
        | some o => some o
        | none => if H2 b = some (LamX.CodeO b tabQ) ∧ M1 b = none ∧ F b = none then some (LamX.CodeO b tabQ) else none
      have e12 : Same I1 I2 := fun b o z => by
        show (match I1 b with | some o => some o | none => _) = some o
        rw [z]
      have i2 : ∀ b o, I2 b = some o → I1 b = some o ∨ (I1 b = none ∧ H2 b = some (LamX.CodeO b tabQ) ∧ M1 b = none ∧ F b = none ∧ o = LamX.CodeO b tabQ) := fun b o z => by
        have z' : (match I1 b with | some o => some o | none => if H2 b = some (LamX.CodeO b tabQ) ∧ M1 b = none ∧ F b = none then some (LamX.CodeO b tabQ) else none) = some o := z
        cases w : I1 b with
        | some o' => rw [w] at z'; exact .inl z'
        | none =>
          rw [w] at z'
          by_cases c : H2 b = some (LamX.CodeO b tabQ) ∧ M1 b = none ∧ F b = none
          · rw [if_pos c] at z'
            exact .inr ⟨rfl, c.1, c.2.1, c.2.2, (Option.some.inj z').symm⟩
          · rw [if_neg c] at z'
            cases z'
      have nI : ∀ b o, I1 b = some o → ∀ ps, o ≠ .tbl ps := fun b o z ps w => s1.ntI b ps (by rw [z, w])
      have none2 : ∀ b, I1 b = none → ((M1 b ≠ none) ∨ F b ≠ none) → I2 b = none := fun b z w => by
        cases u : I2 b with
        | none => rfl
        | some o =>
          rcases i2 b o u with q | ⟨_, _, q1, q2, _⟩
          · rw [z] at q; cases q
          · rcases w with w | w
            · exact absurd q1 w
            · exact absurd q2 w
      have s2 : Sta K I2 F H2 M1 := by
        refine ⟨fun b o z => ?_, fun b o z => eN _ _ (s1.frm b o z) (s1.ntF b o z).1, fun b o z => none2 b (s1.dis b o z) (.inr (by rw [z]; simp)), fun b c z => ?_, ?_, fun b ps z => ?_, s1.ntF⟩
        · rcases i2 b o z with w | ⟨_, w, _, _, rfl⟩
          · exact eN _ _ (s1.sub b o w) (nI b o w)
          · exact w
        · obtain ⟨a1, a2, a3⟩ := s1.cell b c z
          obtain ⟨o, ho, no⟩ := a3.there2
          exact ⟨none2 b a1 (.inl (by rw [z]; simp)), a2, (a3.at (by rw [ho]; exact eN _ _ ho no.1)).mono e12⟩
        · obtain ⟨ps2, hp2, htr2, hcs2⟩ := T2 _ (List.mem_singleton.mpr rfl)
          refine ⟨ps2, hp2, htr2, fun pos cv z => ?_⟩
          obtain ⟨c, z1, z2⟩ := hcs2 pos cv z
          refine ⟨c, z1, ?_⟩
          show (match I1 c with | some o => some o | none => if H2 c = some (LamX.CodeO c tabQ) ∧ M1 c = none ∧ F c = none then some (LamX.CodeO c tabQ) else none) = _
          cases w : I1 c with
          | some o =>
            have := eN _ _ (s1.sub c o w) (nI c o w)
            rw [z2] at this
            exact this.symm
          | none =>
            have m1 : M1 c = none := by
              cases u : M1 c with
              | none => rfl
              | some c' =>
                obtain ⟨o, ho, no⟩ := (s1.cell c c' u).2.2.there2
                have := eN _ _ ho no.1
                rw [z2] at this
                exact absurd (Option.some.inj this).symm (no.2 _)
            have f1 : F c = none := by
              cases u : F c with
              | none => rfl
              | some o =>
                have := eN _ _ (s1.frm c o u) (s1.ntF c o u).1
                rw [z2] at this
                exact absurd (Option.some.inj this).symm ((s1.ntF c o u).2 _)
            rw [if_pos ⟨z2, m1, f1⟩]
        · rcases i2 b _ z with w | ⟨_, _, _, _, w⟩
          · exact s1.ntI b ps w
          · cases w
      have srt : (zs.mergeSort fun a b => leI a.2 b.2).map (fun z => (z.1, keyI z.2)) = (zs.map (fun z => (z.1, keyI z.2))).mergeSort leX := PySem.W.sort_maps (fun z : V × Itm => (z.1, keyI z.2)) fun a _ b _ => rfl
      have srt2 : (zs.mergeSort fun a b => leI a.2 b.2).map (·.2) = (zs.map (·.2)).mergeSort leI := PySem.W.sort_maps (fun z : V × Itm => z.2) fun a _ b _ => rfl
      have key : ∀ I3, Same I1 I3 → Iss K I3 (((zs.map (fun z => (z.1, keyI z.2))).mergeSort leX).map (·.1)) (((zs.map (·.2)).mergeSort leI).map (encI K)) := fun I3 e3 => by
        rw [← srt, ← srt2, List.map_map]
        exact (iss_map fun z hzm => (hz z (List.mem_mergeSort.mp hzm)).mono e3)
      exact q _ _ ⟨.ref l, I2, _, e1.trans e12, s2.cellN hl (c := .lst ((((zs.map (·.2)).mergeSort leI)).map (encI K))) ⟨_, upd_same, key _ e12⟩, .ref l, p l (s2.free hl).2.2⟩
def spc_gone_through (K : PySem.W.Frag) : Spc := fun ds M Pc => ∃ items : List Itm, ds = [.lst (items.map (encI K))] ∧ ∀ p, M p = none → Pc (.ref p) (mset M p (.lst ((items.mergeSort leI).map (encI K))))
theorem sc_gone_through : FnScope ["items"] ["items"] (defScope s_gone_through) := ⟨rfl, rfl, rfl, by decide +kernel, rfl, by decide +kernel, by decide +kernel⟩
theorem ok_gone_through (TX : Txt K mg base) : Kept P w K mg base 4 (He.fAd K ("gone_through", none)) ["items"] (spc_gone_through K) := by
  obtain ⟨fd, F⟩ := fn_gone_through TX
  have Fb := F.bindsN (ps := ["items"]) fun _ _ _ _ _ _ us hl => match us, hl with | [_], _ => rfl
  obtain ⟨oc, od, dV, kV, doc, pm, an, cdv, ct, osl, rfl, lk, hcd, _, _⟩ := F.ex
  obtain ⟨c, rfl⟩ := He.codeIn_ref hcd
  have ec : He.codeOf K ("gone_through", none) = c := He.codeOf_eq lk rfl
  have TB := TX.tb
  have ec2 : (He.cT K ("gone_through", none)).1 = c := ec
  rw [ec2] at TB
  refine ⟨_, fn_of lk hcd sc_gone_through (fun vs H Q E h => ?_) (fun A outer s H vs Q E hr h => ?_), F.kp, Fb⟩
  · obtain ⟨ds, I, F', M, Pc, iss, _, ⟨items, rfl, _⟩, _⟩ := h
    rw [iss.length]
    rfl
  · obtain ⟨ds, I, F', M, Pc, iss, sta, ⟨items, rfl, hP⟩, cl⟩ := h
    refine ⟨tRet (tSortLam K (tVar 0)), PSs.nox (pss_one (ps_ret (pe_sortLam (turnFn TX) (n_isinstance TX) (g_Promise TX) (g_Lessen TX) (g_Out TX) TB rfl rfl hr (.inr (by decide +kernel)) (pv 0) rfl (n_sorted TX) rfl))), ?_⟩
    have rs : RS K (tRet (tSortLam K (tVar 0))) (startD ["items"] [.lst (items.map (encI K))]) M { nx := fun _ M' => Pc .non M', rt := Pc } :=
      rs_ret (re_sortLam TX (re_var rfl ⟨items, rfl, hP⟩))
    refine rs _ I F' H (env_start ["items"] iss) sta _ ⟨fun σ' H' z => ?_, fun v H' z => cl v H' z, fun _ _ z => ?_, fun _ _ z => ?_⟩
    · obtain ⟨δ', I', M', e, s', _, p⟩ := z
      exact cl _ _ ⟨.non, I', M', e, s', .non, p⟩
    · obtain ⟨_, _, _, _, _, _, p⟩ := z
      exact p.elim
    · obtain ⟨_, _, _, _, _, _, p⟩ := z
      exact p.elim
end
end Kp

set_option maxHeartbeats 4000000
namespace Kp
open PySem PySem.Spec PyProof.Rows L2
local macro_rules | `(tactic| walk_at "kp0") => `(tactic| try dsimp only [cxOf, Cx.nox, Cx.wish])
local macro_rules | `(tactic| walk_at "kp1") => `(tactic| first
  | with_reducible refine rs_seq ?_
  | with_reducible refine re_var rfl ?_
  | with_reducible refine re_int ?_
  | with_reducible refine re_str ?_
  | with_reducible refine re_op ?_
  | with_reducible refine re_cb ?_
  | with_reducible refine ra_cons ?_
  | ((with_reducible refine ra_nil ?_); first
      | refine Exists.intro _ ⟨rfl, ?_⟩
      | refine ⟨_, _, rfl, ?_⟩
      | refine ⟨_, _, _, rfl, ?_⟩
      | refine ⟨_, _, _, _, rfl, ?_⟩
      | refine ⟨_, _, _, _, _, rfl, ?_⟩
      | refine ⟨_, _, _, _, _, _, rfl, ?_⟩
      | refine And.intro rfl ?_)
  | with_reducible refine ra_nil ?_
  | with_reducible refine rs_ret ?_
  | with_reducible refine rs_asg ?_
  | with_reducible refine rg_name ?_
  | with_reducible refine rs_if ?_
  | with_reducible refine rt_test ?_
  | with_reducible refine rt_B ?_
  | with_reducible refine re_call ?_
  | with_reducible refine rr_int0 ?_
  | with_reducible refine rr_bl0 ?_
  | with_reducible refine rr_I0 rfl ?_
  | with_reducible refine re_bl ?_
  | with_reducible refine re_non ?_
  | with_reducible refine re_ty ?_
  | with_reducible refine re_ref ?_
  | with_reducible refine rs_drop ?_
  | with_reducible refine re_chain ?_
  | with_reducible refine re_andV ?_
  | with_reducible refine re_orV ?_
  | with_reducible refine re_notV ?_
  | with_reducible refine rt_not ?_
  | with_reducible refine rt_and ?_
  | with_reducible refine rt_or ?_
  | with_reducible refine rs_next ?_
  | with_reducible refine rs_cont ?_
  | with_reducible refine rs_break ?_
  | with_reducible refine rs_retN ?_
  | with_reducible refine rr_eq rfl ?_
  | with_reducible refine rr_ne rfl ?_
  | with_reducible refine rr_mulR (by omega) ?_
  | with_reducible refine rr_mulL (by omega) ?_
  | with_reducible refine rr_mod (by omega) ?_
  | with_reducible refine rr_fdiv (by omega) ?_
  | with_reducible refine ro_none ?_
  | with_reducible refine ro_some ?_
  | with_reducible refine re_tup ?_
  | with_reducible refine rg_tup tupD1 rfl ?_
  | with_reducible refine rgs_cons ?_
  | with_reducible refine rgs_nil ?_
  | with_reducible refine rr_ixT0 ?_
  | with_reducible refine rr_ixT1 ?_
  | with_reducible refine rr_ixT2 ?_
  | with_reducible refine rr_ixT3 ?_
  | with_reducible refine rr_ixT4 ?_
  | with_reducible refine rr_ixT5 ?_
  | with_reducible refine rr_isN ?_
  | with_reducible refine rr_notN ?_
  | with_reducible refine rcI1 ?_
  | with_reducible refine rcI2 ?_
  | with_reducible refine rcI3 ?_
  | with_reducible refine rcI4 ?_
  | with_reducible refine rcI5 ?_
  | with_reducible refine rc_listL ?_
  | with_reducible refine rc_lenL ?_
  | with_reducible refine rc_lenT ?_
  | with_reducible refine rc_min2 ?_
  | with_reducible refine rc_intB ?_
  | with_reducible refine re_strip ?_
  | with_reducible refine re_lst (tA := tCons _ _) ?_
  | with_reducible refine re_fld ?_
  | with_reducible refine rs_fld ?_
  | with_reducible refine re_meth ?_
  | with_reducible exact rfl
  | with_reducible refine andT ?_
  | with_reducible refine andF ?_
  | refine Exists.intro _ ⟨rfl, ?_⟩
  | refine andT ?_
  | refine andF ?_
  | assumption
  | refine And.intro rfl ?_
  | refine And.intro (by assumption) ?_
  | with_reducible refine And.intro (Nat.le_of_ble_eq_true rfl) ?_
  | with_reducible refine And.intro (by omega) ?_)
local macro_rules | `(tactic| walk_at "kp") => `(tactic| repeat (walk_at "kp1"))
section
variable {P : Program} {w : World} {K : PySem.W.Frag} {mg : Str → Option Value} {base : Heap}
def spc_Give_init (K : PySem.W.Frag) : Spc := fun ds M Pc => ∃ (p : Addr) (h : Str) (c : Int) (n : Str), ds = [.ref p, .str h, .int c, .str n] ∧ M p = some (.ins (He.ga K "Give") []) ∧ NameOk h ∧ CoinsOk c ∧ NoteOk n ∧ Pc .non (mset M p (.ins (He.ga K "Give") (fsGive (.str h) (.int c) (.str n))))
theorem len_Give_init (ds : List D) (M : Mem) (Pc : D → Mem → Prop) (h : spc_Give_init K ds M Pc) : ds.length = 4 := by
  obtain ⟨_, _, _, _, rfl, _⟩ := h
  rfl
abbrev nm_Give_init : List Str := ["self", "head", "coins", "note"]
theorem sc_Give_init : FnScope nm_Give_init ["self", "head", "coins", "note"] (defScope s_Give_init) := ⟨rfl, rfl, rfl, by decide +kernel, rfl, by decide +kernel, by decide +kernel⟩
theorem ok_Give_init (TX : Txt K mg base) : Kept P w K mg base 4 (He.fAd K ("Give", some "__init__")) ["self", "head", "coins", "note"] (spc_Give_init K) := by
  obtain ⟨fd_check, G_check, kp_check, b_check⟩ := ok_check (P := P) (w := w) TX
  obtain ⟨fd_is_name, G_is_name, kp_is_name, b_is_name⟩ := ok_is_name (P := P) (w := w) TX
  obtain ⟨fd_check_coins, G_check_coins, kp_check_coins, b_check_coins⟩ := ok_check_coins (P := P) (w := w) TX
  refine okD (fn_Give_init TX) sc_Give_init (fun _ _ _ _ _ _ us hl => match us, hl with | [_, _, _, _], _ => rfl) len_Give_init fun cdv A outer s H E hr ds M Pc h => ?_
  obtain ⟨p, h, c, n, rfl, hp, nh, hc, hn, k⟩ := h
  refine ⟨_, (pss_cons (ps_expr (pe_call G_check (hr.mono (by decide)) rfl (g_check TX) kp_check b_check .nil pass0 (pa_cons (pe_call G_is_name (hr.mono (by decide)) rfl (g_is_name TX) kp_is_name b_is_name .nil pass0 (pa_cons (pv 1) pa_nil)) pa_nil)))
    (pss_cons (ps_expr (pe_call G_check_coins (hr.mono (by decide)) rfl (g_check_coins TX) kp_check_coins b_check_coins .nil pass0 (pa_cons (pv 2) (pa_cons (pv 3) pa_nil))))
    (pss_cons (ps_fld (pv 0) (pv 1) rfl)
    (pss_cons (ps_fld (pv 0) (pv 2) rfl)
    (pss_one (ps_fld (pv 0) (pv 3) rfl)))))), ?_⟩
  walk_at "kp0"
  walk_at "kp"
  refine ⟨_, _, _, rfl, hp, cl_Give TX, na_Give_head TX, (by decide : 0 < 1000), ?_⟩
  walk_at "kp"
  refine ⟨_, _, _, rfl, mset_same, cl_Give TX, na_Give_coins TX, (Nat.lt_of_lt_of_le (putD_lt (by decide : 0 < 1)) (by decide : 2 ≤ 1000)), ?_⟩
  walk_at "kp"
  refine ⟨_, _, _, rfl, mset_same, cl_Give TX, na_Give_note TX, (Nat.lt_of_lt_of_le (putD_lt (putD_lt (by decide : 0 < 1))) (by decide : 3 ≤ 1000)), ?_⟩
  rw [mset_mset, mset_mset]
  exact k
def spc_Give_told (K : PySem.W.Frag) : Spc := fun ds M Pc => ∃ (h : Str) (c : Int) (n : Str), ds = [.ins (He.ga K "Give") (fsGive (.str h) (.int c) (.str n))] ∧ Pc (.tup [.str "give", .str h, .int c, .str n]) M
theorem len_Give_told (ds : List D) (M : Mem) (Pc : D → Mem → Prop) (h : spc_Give_told K ds M Pc) : ds.length = 1 := by
  obtain ⟨_, _, _, rfl, _⟩ := h
  rfl
abbrev nm_Give_told : List Str := ["self"]
theorem sc_Give_told : FnScope nm_Give_told ["self"] (defScope s_Give_told) := ⟨rfl, rfl, rfl, by decide +kernel, rfl, by decide +kernel, by decide +kernel⟩
theorem ok_Give_told (TX : Txt K mg base) : Kept P w K mg base 1 (He.fAd K ("Give", some "told")) ["self"] (spc_Give_told K) := by
  refine okD (fn_Give_told TX) sc_Give_told (fun _ _ _ _ _ _ us hl => match us, hl with | [_], _ => rfl) len_Give_told fun cdv A outer s H E hr ds M Pc h => ?_
  obtain ⟨h, c, n, rfl, k⟩ := h
  refine ⟨_, (pss_one (ps_ret (pe_tup (pa_cons pe_str (pa_cons (pe_fld (pv 0) rfl) (pa_cons (pe_fld (pv 0) rfl) (pa_cons (pe_fld (pv 0) rfl) pa_nil))))))), ?_⟩
  walk_at "kp0"
  walk_at "kp"
  refine ⟨_, _, _, insD1, cl_Give TX, na_Give_head TX, lk_Give_head .., ?_⟩
  walk_at "kp"
  refine ⟨_, _, _, insD1, cl_Give TX, na_Give_coins TX, lk_Give_coins .., ?_⟩
  walk_at "kp"
  refine ⟨_, _, _, insD1, cl_Give TX, na_Give_note TX, lk_Give_note .., ?_⟩
  walk_at "kp"
def spc_Give_named (K : PySem.W.Frag) : Spc := fun ds M Pc => ∃ (h : Str) (c : Int) (n : Str), ds = [.ins (He.ga K "Give") (fsGive (.str h) (.int c) (.str n))] ∧ Pc (.lst [.str h]) M
theorem len_Give_named (ds : List D) (M : Mem) (Pc : D → Mem → Prop) (h : spc_Give_named K ds M Pc) : ds.length = 1 := by
  obtain ⟨_, _, _, rfl, _⟩ := h
  rfl
abbrev nm_Give_named : List Str := ["self"]
theorem sc_Give_named : FnScope nm_Give_named ["self"] (defScope s_Give_named) := ⟨rfl, rfl, rfl, by decide +kernel, rfl, by decide +kernel, by decide +kernel⟩
theorem ok_Give_named (TX : Txt K mg base) : Kept P w K mg base 1 (He.fAd K ("Give", some "named")) ["self"] (spc_Give_named K) := by
  refine okD (fn_Give_named TX) sc_Give_named (fun _ _ _ _ _ _ us hl => match us, hl with | [_], _ => rfl) len_Give_named fun cdv A outer s H E hr ds M Pc h => ?_
  obtain ⟨h, c, n, rfl, k⟩ := h
  refine ⟨_, (pss_one (ps_ret (pe_lst (pa_cons (pe_fld (pv 0) rfl) pa_nil)))), ?_⟩
  walk_at "kp0"
  walk_at "kp"
  refine ⟨_, _, _, insD1, cl_Give TX, na_Give_head TX, lk_Give_head .., ?_⟩
  walk_at "kp"
def spc_Hold_init (K : PySem.W.Frag) : Spc := fun ds M Pc => ∃ (p : Addr) (h : Str) (c : Int) (u : Int) (n : Str), ds = [.ref p, .str h, .int c, .int u, .str n] ∧ M p = some (.ins (He.ga K "Hold") []) ∧ NameOk h ∧ (2 ≤ u ∧ u ≤ 31) ∧ CoinsOk c ∧ NoteOk n ∧ Pc .non (mset M p (.ins (He.ga K "Hold") (fsHold (.str h) (.int c) (.int u) (.str n))))
theorem len_Hold_init (ds : List D) (M : Mem) (Pc : D → Mem → Prop) (h : spc_Hold_init K ds M Pc) : ds.length = 5 := by
  obtain ⟨_, _, _, _, _, rfl, _⟩ := h
  rfl
abbrev nm_Hold_init : List Str := ["self", "head", "coins", "until", "note"]
theorem sc_Hold_init : FnScope nm_Hold_init ["self", "head", "coins", "until", "note"] (defScope s_Hold_init) := ⟨rfl, rfl, rfl, by decide +kernel, rfl, by decide +kernel, by decide +kernel⟩
theorem ok_Hold_init (TX : Txt K mg base) : Kept P w K mg base 4 (He.fAd K ("Hold", some "__init__")) ["self", "head", "coins", "until", "note"] (spc_Hold_init K) := by
  obtain ⟨fd_check, G_check, kp_check, b_check⟩ := ok_check (P := P) (w := w) TX
  obtain ⟨fd_is_name, G_is_name, kp_is_name, b_is_name⟩ := ok_is_name (P := P) (w := w) TX
  obtain ⟨fd_within, G_within, kp_within, b_within⟩ := ok_within (P := P) (w := w) TX
  obtain ⟨fd_check_coins, G_check_coins, kp_check_coins, b_check_coins⟩ := ok_check_coins (P := P) (w := w) TX
  refine okD (fn_Hold_init TX) sc_Hold_init (fun _ _ _ _ _ _ us hl => match us, hl with | [_, _, _, _, _], _ => rfl) len_Hold_init fun cdv A outer s H E hr ds M Pc h => ?_
  obtain ⟨p, h, c, u, n, rfl, hp, nh, hu, hc, hn, k⟩ := h
  refine ⟨_, (pss_cons (ps_expr (pe_call G_check (hr.mono (by decide)) rfl (g_check TX) kp_check b_check .nil pass0 (pa_cons (pe_and (pe_call G_is_name (hr.mono (by decide)) rfl (g_is_name TX) kp_is_name b_is_name .nil pass0 (pa_cons (pv 1) pa_nil)) (pe_one (pe_call G_within (hr.mono (by decide)) rfl (g_within TX) kp_within b_within .nil pass0 (pa_cons (pv 3) (pa_cons pe_int (pa_cons (pe_glob (v := .int 31) rfl (Classical.choose_spec (k_LAST_UNTIL TX)) ⟨_, rfl⟩) pa_nil)))))) pa_nil)))
    (pss_cons (ps_expr (pe_call G_check_coins (hr.mono (by decide)) rfl (g_check_coins TX) kp_check_coins b_check_coins .nil pass0 (pa_cons (pv 2) (pa_cons (pv 4) pa_nil))))
    (pss_cons (ps_fld (pv 0) (pv 1) rfl)
    (pss_cons (ps_fld (pv 0) (pv 2) rfl)
    (pss_cons (ps_fld (pv 0) (pv 3) rfl)
    (pss_one (ps_fld (pv 0) (pv 4) rfl))))))), ?_⟩
  walk_at "kp0"
  walk_at "kp"
  have e1 : decide (2 ≤ u ∧ u ≤ 31) = true := decide_eq_true hu
  rw [e1]
  walk_at "kp"
  refine ⟨_, _, _, rfl, hp, cl_Hold TX, na_Hold_head TX, (by decide : 0 < 1000), ?_⟩
  walk_at "kp"
  refine ⟨_, _, _, rfl, mset_same, cl_Hold TX, na_Hold_coins TX, (Nat.lt_of_lt_of_le (putD_lt (by decide : 0 < 1)) (by decide : 2 ≤ 1000)), ?_⟩
  walk_at "kp"
  refine ⟨_, _, _, rfl, mset_same, cl_Hold TX, na_Hold_until TX, (Nat.lt_of_lt_of_le (putD_lt (putD_lt (by decide : 0 < 1))) (by decide : 3 ≤ 1000)), ?_⟩
  walk_at "kp"
  refine ⟨_, _, _, rfl, mset_same, cl_Hold TX, na_Hold_note TX, (Nat.lt_of_lt_of_le (putD_lt (putD_lt (putD_lt (by decide : 0 < 1)))) (by decide : 4 ≤ 1000)), ?_⟩
  rw [mset_mset, mset_mset, mset_mset]
  exact k
def spc_Hold_told (K : PySem.W.Frag) : Spc := fun ds M Pc => ∃ (h : Str) (c : Int) (u : Int) (n : Str), ds = [.ins (He.ga K "Hold") (fsHold (.str h) (.int c) (.int u) (.str n))] ∧ Pc (.tup [.str "hold", .str h, .int c, .int u, .str n]) M
theorem len_Hold_told (ds : List D) (M : Mem) (Pc : D → Mem → Prop) (h : spc_Hold_told K ds M Pc) : ds.length = 1 := by
  obtain ⟨_, _, _, _, rfl, _⟩ := h
  rfl
abbrev nm_Hold_told : List Str := ["self"]
theorem sc_Hold_told : FnScope nm_Hold_told ["self"] (defScope s_Hold_told) := ⟨rfl, rfl, rfl, by decide +kernel, rfl, by decide +kernel, by decide +kernel⟩
theorem ok_Hold_told (TX : Txt K mg base) : Kept P w K mg base 1 (He.fAd K ("Hold", some "told")) ["self"] (spc_Hold_told K) := by
  refine okD (fn_Hold_told TX) sc_Hold_told (fun _ _ _ _ _ _ us hl => match us, hl with | [_], _ => rfl) len_Hold_told fun cdv A outer s H E hr ds M Pc h => ?_
  obtain ⟨h, c, u, n, rfl, k⟩ := h
  refine ⟨_, (pss_one (ps_ret (pe_tup (pa_cons pe_str (pa_cons (pe_fld (pv 0) rfl) (pa_cons (pe_fld (pv 0) rfl) (pa_cons (pe_fld (pv 0) rfl) (pa_cons (pe_fld (pv 0) rfl) pa_nil)))))))), ?_⟩
  walk_at "kp0"
  walk_at "kp"
  refine ⟨_, _, _, insD1, cl_Hold TX, na_Hold_head TX, lk_Hold_head .., ?_⟩
  walk_at "kp"
  refine ⟨_, _, _, insD1, cl_Hold TX, na_Hold_coins TX, lk_Hold_coins .., ?_⟩
  walk_at "kp"
  refine ⟨_, _, _, insD1, cl_Hold TX, na_Hold_until TX, lk_Hold_until .., ?_⟩
  walk_at "kp"
  refine ⟨_, _, _, insD1, cl_Hold TX, na_Hold_note TX, lk_Hold_note .., ?_⟩
  walk_at "kp"
def spc_Hold_named (K : PySem.W.Frag) : Spc := fun ds M Pc => ∃ (h : Str) (c : Int) (u : Int) (n : Str), ds = [.ins (He.ga K "Hold") (fsHold (.str h) (.int c) (.int u) (.str n))] ∧ Pc (.lst [.str h]) M
theorem len_Hold_named (ds : List D) (M : Mem) (Pc : D → Mem → Prop) (h : spc_Hold_named K ds M Pc) : ds.length = 1 := by
  obtain ⟨_, _, _, _, rfl, _⟩ := h
  rfl
abbrev nm_Hold_named : List Str := ["self"]
theorem sc_Hold_named : FnScope nm_Hold_named ["self"] (defScope s_Hold_named) := ⟨rfl, rfl, rfl, by decide +kernel, rfl, by decide +kernel, by decide +kernel⟩
theorem ok_Hold_named (TX : Txt K mg base) : Kept P w K mg base 1 (He.fAd K ("Hold", some "named")) ["self"] (spc_Hold_named K) := by
  refine okD (fn_Hold_named TX) sc_Hold_named (fun _ _ _ _ _ _ us hl => match us, hl with | [_], _ => rfl) len_Hold_named fun cdv A outer s H E hr ds M Pc h => ?_
  obtain ⟨h, c, u, n, rfl, k⟩ := h
  refine ⟨_, (pss_one (ps_ret (pe_lst (pa_cons (pe_fld (pv 0) rfl) pa_nil)))), ?_⟩
  walk_at "kp0"
  walk_at "kp"
  refine ⟨_, _, _, insD1, cl_Hold TX, na_Hold_head TX, lk_Hold_head .., ?_⟩
  walk_at "kp"
def spc_Move_init (K : PySem.W.Frag) : Spc := fun ds M Pc => ∃ (p : Addr) (h : Str) (o : Str) (c : Int) (n : Str), ds = [.ref p, .str h, .str o, .int c, .str n] ∧ M p = some (.ins (He.ga K "Move") []) ∧ NameOk h ∧ NameOk o ∧ h ≠ o ∧ CoinsOk c ∧ NoteOk n ∧ Pc .non (mset M p (.ins (He.ga K "Move") (fsMove (.str h) (.str o) (.int c) (.str n))))
theorem len_Move_init (ds : List D) (M : Mem) (Pc : D → Mem → Prop) (h : spc_Move_init K ds M Pc) : ds.length = 5 := by
  obtain ⟨_, _, _, _, _, rfl, _⟩ := h
  rfl
abbrev nm_Move_init : List Str := ["self", "head", "other", "coins", "note"]
theorem sc_Move_init : FnScope nm_Move_init ["self", "head", "other", "coins", "note"] (defScope s_Move_init) := ⟨rfl, rfl, rfl, by decide +kernel, rfl, by decide +kernel, by decide +kernel⟩
theorem ok_Move_init (TX : Txt K mg base) : Kept P w K mg base 4 (He.fAd K ("Move", some "__init__")) ["self", "head", "other", "coins", "note"] (spc_Move_init K) := by
  obtain ⟨fd_check, G_check, kp_check, b_check⟩ := ok_check (P := P) (w := w) TX
  obtain ⟨fd_is_name, G_is_name, kp_is_name, b_is_name⟩ := ok_is_name (P := P) (w := w) TX
  obtain ⟨fd_check_coins, G_check_coins, kp_check_coins, b_check_coins⟩ := ok_check_coins (P := P) (w := w) TX
  refine okD (fn_Move_init TX) sc_Move_init (fun _ _ _ _ _ _ us hl => match us, hl with | [_, _, _, _, _], _ => rfl) len_Move_init fun cdv A outer s H E hr ds M Pc h => ?_
  obtain ⟨p, h, o, c, n, rfl, hp, nh, no, hne, hc, hn, k⟩ := h
  refine ⟨_, (pss_cons (ps_expr (pe_call G_check (hr.mono (by decide)) rfl (g_check TX) kp_check b_check .nil pass0 (pa_cons (pe_and (pe_call G_is_name (hr.mono (by decide)) rfl (g_is_name TX) kp_is_name b_is_name .nil pass0 (pa_cons (pv 1) pa_nil)) (pe_and (pe_call G_is_name (hr.mono (by decide)) rfl (g_is_name TX) kp_is_name b_is_name .nil pass0 (pa_cons (pv 2) pa_nil)) (pe_one (pe_cmpR op_ne (pv 1) (pv 2) (nomark _))))) pa_nil)))
    (pss_cons (ps_expr (pe_call G_check_coins (hr.mono (by decide)) rfl (g_check_coins TX) kp_check_coins b_check_coins .nil pass0 (pa_cons (pv 3) (pa_cons (pv 4) pa_nil))))
    (pss_cons (ps_fld (pv 0) (pv 1) rfl)
    (pss_cons (ps_fld (pv 0) (pv 2) rfl)
    (pss_cons (ps_fld (pv 0) (pv 3) rfl)
    (pss_one (ps_fld (pv 0) (pv 4) rfl))))))), ?_⟩
  walk_at "kp0"
  walk_at "kp"
  have e1 : decide (h = o) = false := decide_eq_false hne
  rw [e1]
  walk_at "kp"
  refine ⟨_, _, _, rfl, hp, cl_Move TX, na_Move_head TX, (by decide : 0 < 1000), ?_⟩
  walk_at "kp"
  refine ⟨_, _, _, rfl, mset_same, cl_Move TX, na_Move_other TX, (Nat.lt_of_lt_of_le (putD_lt (by decide : 0 < 1)) (by decide : 2 ≤ 1000)), ?_⟩
  walk_at "kp"
  refine ⟨_, _, _, rfl, mset_same, cl_Move TX, na_Move_coins TX, (Nat.lt_of_lt_of_le (putD_lt (putD_lt (by decide : 0 < 1))) (by decide : 3 ≤ 1000)), ?_⟩
  walk_at "kp"
  refine ⟨_, _, _, rfl, mset_same, cl_Move TX, na_Move_note TX, (Nat.lt_of_lt_of_le (putD_lt (putD_lt (putD_lt (by decide : 0 < 1)))) (by decide : 4 ≤ 1000)), ?_⟩
  rw [mset_mset, mset_mset, mset_mset]
  exact k
def spc_Move_told (K : PySem.W.Frag) : Spc := fun ds M Pc => ∃ (h : Str) (o : Str) (c : Int) (n : Str), ds = [.ins (He.ga K "Move") (fsMove (.str h) (.str o) (.int c) (.str n))] ∧ Pc (.tup [.str "move", .str h, .str o, .int c, .str n]) M
theorem len_Move_told (ds : List D) (M : Mem) (Pc : D → Mem → Prop) (h : spc_Move_told K ds M Pc) : ds.length = 1 := by
  obtain ⟨_, _, _, _, rfl, _⟩ := h
  rfl
abbrev nm_Move_told : List Str := ["self"]
theorem sc_Move_told : FnScope nm_Move_told ["self"] (defScope s_Move_told) := ⟨rfl, rfl, rfl, by decide +kernel, rfl, by decide +kernel, by decide +kernel⟩
theorem ok_Move_told (TX : Txt K mg base) : Kept P w K mg base 1 (He.fAd K ("Move", some "told")) ["self"] (spc_Move_told K) := by
  refine okD (fn_Move_told TX) sc_Move_told (fun _ _ _ _ _ _ us hl => match us, hl with | [_], _ => rfl) len_Move_told fun cdv A outer s H E hr ds M Pc h => ?_
  obtain ⟨h, o, c, n, rfl, k⟩ := h
  refine ⟨_, (pss_one (ps_ret (pe_tup (pa_cons pe_str (pa_cons (pe_fld (pv 0) rfl) (pa_cons (pe_fld (pv 0) rfl) (pa_cons (pe_fld (pv 0) rfl) (pa_cons (pe_fld (pv 0) rfl) pa_nil)))))))), ?_⟩
  walk_at "kp0"
  walk_at "kp"
  refine ⟨_, _, _, insD1, cl_Move TX, na_Move_head TX, lk_Move_head .., ?_⟩
  walk_at "kp"
  refine ⟨_, _, _, insD1, cl_Move TX, na_Move_other TX, lk_Move_other .., ?_⟩
  walk_at "kp"
  refine ⟨_, _, _, insD1, cl_Move TX, na_Move_coins TX, lk_Move_coins .., ?_⟩
  walk_at "kp"
  refine ⟨_, _, _, insD1, cl_Move TX, na_Move_note TX, lk_Move_note .., ?_⟩
  walk_at "kp"
def spc_Move_named (K : PySem.W.Frag) : Spc := fun ds M Pc => ∃ (h : Str) (o : Str) (c : Int) (n : Str), ds = [.ins (He.ga K "Move") (fsMove (.str h) (.str o) (.int c) (.str n))] ∧ Pc (.lst [.str h, .str o]) M
theorem len_Move_named (ds : List D) (M : Mem) (Pc : D → Mem → Prop) (h : spc_Move_named K ds M Pc) : ds.length = 1 := by
  obtain ⟨_, _, _, _, rfl, _⟩ := h
  rfl
abbrev nm_Move_named : List Str := ["self"]
theorem sc_Move_named : FnScope nm_Move_named ["self"] (defScope s_Move_named) := ⟨rfl, rfl, rfl, by decide +kernel, rfl, by decide +kernel, by decide +kernel⟩
theorem ok_Move_named (TX : Txt K mg base) : Kept P w K mg base 1 (He.fAd K ("Move", some "named")) ["self"] (spc_Move_named K) := by
  refine okD (fn_Move_named TX) sc_Move_named (fun _ _ _ _ _ _ us hl => match us, hl with | [_], _ => rfl) len_Move_named fun cdv A outer s H E hr ds M Pc h => ?_
  obtain ⟨h, o, c, n, rfl, k⟩ := h
  refine ⟨_, (pss_one (ps_ret (pe_lst (pa_cons (pe_fld (pv 0) rfl) (pa_cons (pe_fld (pv 0) rfl) pa_nil))))), ?_⟩
  walk_at "kp0"
  walk_at "kp"
  refine ⟨_, _, _, insD1, cl_Move TX, na_Move_head TX, lk_Move_head .., ?_⟩
  walk_at "kp"
  refine ⟨_, _, _, insD1, cl_Move TX, na_Move_other TX, lk_Move_other .., ?_⟩
  walk_at "kp"
def spc_Spend_init (K : PySem.W.Frag) : Spc := fun ds M Pc => ∃ (p : Addr) (h : Str) (c : Int) (n : Str), ds = [.ref p, .str h, .int c, .str n] ∧ M p = some (.ins (He.ga K "Spend") []) ∧ NameOk h ∧ CoinsOk c ∧ NoteOk n ∧ Pc .non (mset M p (.ins (He.ga K "Spend") (fsSpend (.str h) (.int c) (.str n))))
theorem len_Spend_init (ds : List D) (M : Mem) (Pc : D → Mem → Prop) (h : spc_Spend_init K ds M Pc) : ds.length = 4 := by
  obtain ⟨_, _, _, _, rfl, _⟩ := h
  rfl
abbrev nm_Spend_init : List Str := ["self", "head", "coins", "note"]
theorem sc_Spend_init : FnScope nm_Spend_init ["self", "head", "coins", "note"] (defScope s_Spend_init) := ⟨rfl, rfl, rfl, by decide +kernel, rfl, by decide +kernel, by decide +kernel⟩
theorem ok_Spend_init (TX : Txt K mg base) : Kept P w K mg base 4 (He.fAd K ("Spend", some "__init__")) ["self", "head", "coins", "note"] (spc_Spend_init K) := by
  obtain ⟨fd_check, G_check, kp_check, b_check⟩ := ok_check (P := P) (w := w) TX
  obtain ⟨fd_is_name, G_is_name, kp_is_name, b_is_name⟩ := ok_is_name (P := P) (w := w) TX
  obtain ⟨fd_check_coins, G_check_coins, kp_check_coins, b_check_coins⟩ := ok_check_coins (P := P) (w := w) TX
  refine okD (fn_Spend_init TX) sc_Spend_init (fun _ _ _ _ _ _ us hl => match us, hl with | [_, _, _, _], _ => rfl) len_Spend_init fun cdv A outer s H E hr ds M Pc h => ?_
  obtain ⟨p, h, c, n, rfl, hp, nh, hc, hn, k⟩ := h
  refine ⟨_, (pss_cons (ps_expr (pe_call G_check (hr.mono (by decide)) rfl (g_check TX) kp_check b_check .nil pass0 (pa_cons (pe_call G_is_name (hr.mono (by decide)) rfl (g_is_name TX) kp_is_name b_is_name .nil pass0 (pa_cons (pv 1) pa_nil)) pa_nil)))
    (pss_cons (ps_expr (pe_call G_check_coins (hr.mono (by decide)) rfl (g_check_coins TX) kp_check_coins b_check_coins .nil pass0 (pa_cons (pv 2) (pa_cons (pv 3) pa_nil))))
    (pss_cons (ps_fld (pv 0) (pv 1) rfl)
    (pss_cons (ps_fld (pv 0) (pv 2) rfl)
    (pss_one (ps_fld (pv 0) (pv 3) rfl)))))), ?_⟩
  walk_at "kp0"
  walk_at "kp"
  refine ⟨_, _, _, rfl, hp, cl_Spend TX, na_Spend_head TX, (by decide : 0 < 1000), ?_⟩
  walk_at "kp"
  refine ⟨_, _, _, rfl, mset_same, cl_Spend TX, na_Spend_coins TX, (Nat.lt_of_lt_of_le (putD_lt (by decide : 0 < 1)) (by decide : 2 ≤ 1000)), ?_⟩
  walk_at "kp"
  refine ⟨_, _, _, rfl, mset_same, cl_Spend TX, na_Spend_note TX, (Nat.lt_of_lt_of_le (putD_lt (putD_lt (by decide : 0 < 1))) (by decide : 3 ≤ 1000)), ?_⟩
  rw [mset_mset, mset_mset]
  exact k
def spc_Spend_told (K : PySem.W.Frag) : Spc := fun ds M Pc => ∃ (h : Str) (c : Int) (n : Str), ds = [.ins (He.ga K "Spend") (fsSpend (.str h) (.int c) (.str n))] ∧ Pc (.tup [.str "spend", .str h, .int c, .str n]) M
theorem len_Spend_told (ds : List D) (M : Mem) (Pc : D → Mem → Prop) (h : spc_Spend_told K ds M Pc) : ds.length = 1 := by
  obtain ⟨_, _, _, rfl, _⟩ := h
  rfl
abbrev nm_Spend_told : List Str := ["self"]
theorem sc_Spend_told : FnScope nm_Spend_told ["self"] (defScope s_Spend_told) := ⟨rfl, rfl, rfl, by decide +kernel, rfl, by decide +kernel, by decide +kernel⟩
theorem ok_Spend_told (TX : Txt K mg base) : Kept P w K mg base 1 (He.fAd K ("Spend", some "told")) ["self"] (spc_Spend_told K) := by
  refine okD (fn_Spend_told TX) sc_Spend_told (fun _ _ _ _ _ _ us hl => match us, hl with | [_], _ => rfl) len_Spend_told fun cdv A outer s H E hr ds M Pc h => ?_
  obtain ⟨h, c, n, rfl, k⟩ := h
  refine ⟨_, (pss_one (ps_ret (pe_tup (pa_cons pe_str (pa_cons (pe_fld (pv 0) rfl) (pa_cons (pe_fld (pv 0) rfl) (pa_cons (pe_fld (pv 0) rfl) pa_nil))))))), ?_⟩
  walk_at "kp0"
  walk_at "kp"
  refine ⟨_, _, _, insD1, cl_Spend TX, na_Spend_head TX, lk_Spend_head .., ?_⟩
  walk_at "kp"
  refine ⟨_, _, _, insD1, cl_Spend TX, na_Spend_coins TX, lk_Spend_coins .., ?_⟩
  walk_at "kp"
  refine ⟨_, _, _, insD1, cl_Spend TX, na_Spend_note TX, lk_Spend_note .., ?_⟩
  walk_at "kp"
def spc_Spend_named (K : PySem.W.Frag) : Spc := fun ds M Pc => ∃ (h : Str) (c : Int) (n : Str), ds = [.ins (He.ga K "Spend") (fsSpend (.str h) (.int c) (.str n))] ∧ Pc (.lst [.str h]) M
theorem len_Spend_named (ds : List D) (M : Mem) (Pc : D → Mem → Prop) (h : spc_Spend_named K ds M Pc) : ds.length = 1 := by
  obtain ⟨_, _, _, rfl, _⟩ := h
  rfl
abbrev nm_Spend_named : List Str := ["self"]
theorem sc_Spend_named : FnScope nm_Spend_named ["self"] (defScope s_Spend_named) := ⟨rfl, rfl, rfl, by decide +kernel, rfl, by decide +kernel, by decide +kernel⟩
theorem ok_Spend_named (TX : Txt K mg base) : Kept P w K mg base 1 (He.fAd K ("Spend", some "named")) ["self"] (spc_Spend_named K) := by
  refine okD (fn_Spend_named TX) sc_Spend_named (fun _ _ _ _ _ _ us hl => match us, hl with | [_], _ => rfl) len_Spend_named fun cdv A outer s H E hr ds M Pc h => ?_
  obtain ⟨h, c, n, rfl, k⟩ := h
  refine ⟨_, (pss_one (ps_ret (pe_lst (pa_cons (pe_fld (pv 0) rfl) pa_nil)))), ?_⟩
  walk_at "kp0"
  walk_at "kp"
  refine ⟨_, _, _, insD1, cl_Spend TX, na_Spend_head TX, lk_Spend_head .., ?_⟩
  walk_at "kp"
def spc_Promise_init (K : PySem.W.Frag) : Spc := fun ds M Pc => ∃ (p : Addr) (v : Str) (h : Str) (c : Int) (n : Str), ds = [.ref p, .str v, .str h, .int c, .str n] ∧ M p = some (.ins (He.ga K "Promise") []) ∧ NameOk v ∧ NameOk h ∧ CoinsOk c ∧ NoteOk n ∧ Pc .non (mset M p (.ins (He.ga K "Promise") (fsPromise (.str v) (.str h) (.int c) (.str n))))
theorem len_Promise_init (ds : List D) (M : Mem) (Pc : D → Mem → Prop) (h : spc_Promise_init K ds M Pc) : ds.length = 5 := by
  obtain ⟨_, _, _, _, _, rfl, _⟩ := h
  rfl
abbrev nm_Promise_init : List Str := ["self", "word", "head", "coins", "note"]
theorem sc_Promise_init : FnScope nm_Promise_init ["self", "word", "head", "coins", "note"] (defScope s_Promise_init) := ⟨rfl, rfl, rfl, by decide +kernel, rfl, by decide +kernel, by decide +kernel⟩
theorem ok_Promise_init (TX : Txt K mg base) : Kept P w K mg base 4 (He.fAd K ("Promise", some "__init__")) ["self", "word", "head", "coins", "note"] (spc_Promise_init K) := by
  obtain ⟨fd_check, G_check, kp_check, b_check⟩ := ok_check (P := P) (w := w) TX
  obtain ⟨fd_is_name, G_is_name, kp_is_name, b_is_name⟩ := ok_is_name (P := P) (w := w) TX
  obtain ⟨fd_check_coins, G_check_coins, kp_check_coins, b_check_coins⟩ := ok_check_coins (P := P) (w := w) TX
  refine okD (fn_Promise_init TX) sc_Promise_init (fun _ _ _ _ _ _ us hl => match us, hl with | [_, _, _, _, _], _ => rfl) len_Promise_init fun cdv A outer s H E hr ds M Pc h => ?_
  obtain ⟨p, v, h, c, n, rfl, hp, nv, nh, hc, hn, k⟩ := h
  refine ⟨_, (pss_cons (ps_expr (pe_call G_check (hr.mono (by decide)) rfl (g_check TX) kp_check b_check .nil pass0 (pa_cons (pe_and (pe_call G_is_name (hr.mono (by decide)) rfl (g_is_name TX) kp_is_name b_is_name .nil pass0 (pa_cons (pv 1) pa_nil)) (pe_one (pe_call G_is_name (hr.mono (by decide)) rfl (g_is_name TX) kp_is_name b_is_name .nil pass0 (pa_cons (pv 2) pa_nil)))) pa_nil)))
    (pss_cons (ps_expr (pe_call G_check_coins (hr.mono (by decide)) rfl (g_check_coins TX) kp_check_coins b_check_coins .nil pass0 (pa_cons (pv 3) (pa_cons (pv 4) pa_nil))))
    (pss_cons (ps_fld (pv 0) (pv 1) rfl)
    (pss_cons (ps_fld (pv 0) (pv 2) rfl)
    (pss_cons (ps_fld (pv 0) (pv 3) rfl)
    (pss_one (ps_fld (pv 0) (pv 4) rfl))))))), ?_⟩
  walk_at "kp0"
  walk_at "kp"
  refine ⟨_, _, _, rfl, hp, cl_Promise TX, na_Promise_word TX, (by decide : 0 < 1000), ?_⟩
  walk_at "kp"
  refine ⟨_, _, _, rfl, mset_same, cl_Promise TX, na_Promise_head TX, (Nat.lt_of_lt_of_le (putD_lt (by decide : 0 < 1)) (by decide : 2 ≤ 1000)), ?_⟩
  walk_at "kp"
  refine ⟨_, _, _, rfl, mset_same, cl_Promise TX, na_Promise_coins TX, (Nat.lt_of_lt_of_le (putD_lt (putD_lt (by decide : 0 < 1))) (by decide : 3 ≤ 1000)), ?_⟩
  walk_at "kp"
  refine ⟨_, _, _, rfl, mset_same, cl_Promise TX, na_Promise_note TX, (Nat.lt_of_lt_of_le (putD_lt (putD_lt (putD_lt (by decide : 0 < 1)))) (by decide : 4 ≤ 1000)), ?_⟩
  rw [mset_mset, mset_mset, mset_mset]
  exact k
def spc_Promise_told (K : PySem.W.Frag) : Spc := fun ds M Pc => ∃ (v : Str) (h : Str) (c : Int) (n : Str), ds = [.ins (He.ga K "Promise") (fsPromise (.str v) (.str h) (.int c) (.str n))] ∧ Pc (.tup [.str "promise", .str v, .str h, .int c, .str n]) M
theorem len_Promise_told (ds : List D) (M : Mem) (Pc : D → Mem → Prop) (h : spc_Promise_told K ds M Pc) : ds.length = 1 := by
  obtain ⟨_, _, _, _, rfl, _⟩ := h
  rfl
abbrev nm_Promise_told : List Str := ["self"]
theorem sc_Promise_told : FnScope nm_Promise_told ["self"] (defScope s_Promise_told) := ⟨rfl, rfl, rfl, by decide +kernel, rfl, by decide +kernel, by decide +kernel⟩
theorem ok_Promise_told (TX : Txt K mg base) : Kept P w K mg base 1 (He.fAd K ("Promise", some "told")) ["self"] (spc_Promise_told K) := by
  refine okD (fn_Promise_told TX) sc_Promise_told (fun _ _ _ _ _ _ us hl => match us, hl with | [_], _ => rfl) len_Promise_told fun cdv A outer s H E hr ds M Pc h => ?_
  obtain ⟨v, h, c, n, rfl, k⟩ := h
  refine ⟨_, (pss_one (ps_ret (pe_tup (pa_cons pe_str (pa_cons (pe_fld (pv 0) rfl) (pa_cons (pe_fld (pv 0) rfl) (pa_cons (pe_fld (pv 0) rfl) (pa_cons (pe_fld (pv 0) rfl) pa_nil)))))))), ?_⟩
  walk_at "kp0"
  walk_at "kp"
  refine ⟨_, _, _, insD1, cl_Promise TX, na_Promise_word TX, lk_Promise_word .., ?_⟩
  walk_at "kp"
  refine ⟨_, _, _, insD1, cl_Promise TX, na_Promise_head TX, lk_Promise_head .., ?_⟩
  walk_at "kp"
  refine ⟨_, _, _, insD1, cl_Promise TX, na_Promise_coins TX, lk_Promise_coins .., ?_⟩
  walk_at "kp"
  refine ⟨_, _, _, insD1, cl_Promise TX, na_Promise_note TX, lk_Promise_note .., ?_⟩
  walk_at "kp"
def spc_Promise_named (K : PySem.W.Frag) : Spc := fun ds M Pc => ∃ (v : Str) (h : Str) (c : Int) (n : Str), ds = [.ins (He.ga K "Promise") (fsPromise (.str v) (.str h) (.int c) (.str n))] ∧ Pc (.lst [.str h]) M
theorem len_Promise_named (ds : List D) (M : Mem) (Pc : D → Mem → Prop) (h : spc_Promise_named K ds M Pc) : ds.length = 1 := by
  obtain ⟨_, _, _, _, rfl, _⟩ := h
  rfl
abbrev nm_Promise_named : List Str := ["self"]
theorem sc_Promise_named : FnScope nm_Promise_named ["self"] (defScope s_Promise_named) := ⟨rfl, rfl, rfl, by decide +kernel, rfl, by decide +kernel, by decide +kernel⟩
theorem ok_Promise_named (TX : Txt K mg base) : Kept P w K mg base 1 (He.fAd K ("Promise", some "named")) ["self"] (spc_Promise_named K) := by
  refine okD (fn_Promise_named TX) sc_Promise_named (fun _ _ _ _ _ _ us hl => match us, hl with | [_], _ => rfl) len_Promise_named fun cdv A outer s H E hr ds M Pc h => ?_
  obtain ⟨v, h, c, n, rfl, k⟩ := h
  refine ⟨_, (pss_one (ps_ret (pe_lst (pa_cons (pe_fld (pv 0) rfl) pa_nil)))), ?_⟩
  walk_at "kp0"
  walk_at "kp"
  refine ⟨_, _, _, insD1, cl_Promise TX, na_Promise_head TX, lk_Promise_head .., ?_⟩
  walk_at "kp"
def spc_Lessen_init (K : PySem.W.Frag) : Spc := fun ds M Pc => ∃ (p : Addr) (v : Str) (c : Int) (n : Str), ds = [.ref p, .str v, .int c, .str n] ∧ M p = some (.ins (He.ga K "Lessen") []) ∧ NameOk v ∧ CoinsOk c ∧ NoteOk n ∧ Pc .non (mset M p (.ins (He.ga K "Lessen") (fsLessen (.str v) (.int c) (.str n))))
theorem len_Lessen_init (ds : List D) (M : Mem) (Pc : D → Mem → Prop) (h : spc_Lessen_init K ds M Pc) : ds.length = 4 := by
  obtain ⟨_, _, _, _, rfl, _⟩ := h
  rfl
abbrev nm_Lessen_init : List Str := ["self", "word", "coins", "note"]
theorem sc_Lessen_init : FnScope nm_Lessen_init ["self", "word", "coins", "note"] (defScope s_Lessen_init) := ⟨rfl, rfl, rfl, by decide +kernel, rfl, by decide +kernel, by decide +kernel⟩
theorem ok_Lessen_init (TX : Txt K mg base) : Kept P w K mg base 4 (He.fAd K ("Lessen", some "__init__")) ["self", "word", "coins", "note"] (spc_Lessen_init K) := by
  obtain ⟨fd_check, G_check, kp_check, b_check⟩ := ok_check (P := P) (w := w) TX
  obtain ⟨fd_is_name, G_is_name, kp_is_name, b_is_name⟩ := ok_is_name (P := P) (w := w) TX
  obtain ⟨fd_check_coins, G_check_coins, kp_check_coins, b_check_coins⟩ := ok_check_coins (P := P) (w := w) TX
  refine okD (fn_Lessen_init TX) sc_Lessen_init (fun _ _ _ _ _ _ us hl => match us, hl with | [_, _, _, _], _ => rfl) len_Lessen_init fun cdv A outer s H E hr ds M Pc h => ?_
  obtain ⟨p, v, c, n, rfl, hp, nv, hc, hn, k⟩ := h
  refine ⟨_, (pss_cons (ps_expr (pe_call G_check (hr.mono (by decide)) rfl (g_check TX) kp_check b_check .nil pass0 (pa_cons (pe_call G_is_name (hr.mono (by decide)) rfl (g_is_name TX) kp_is_name b_is_name .nil pass0 (pa_cons (pv 1) pa_nil)) pa_nil)))
    (pss_cons (ps_expr (pe_call G_check_coins (hr.mono (by decide)) rfl (g_check_coins TX) kp_check_coins b_check_coins .nil pass0 (pa_cons (pv 2) (pa_cons (pv 3) pa_nil))))
    (pss_cons (ps_fld (pv 0) (pv 1) rfl)
    (pss_cons (ps_fld (pv 0) (pv 2) rfl)
    (pss_one (ps_fld (pv 0) (pv 3) rfl)))))), ?_⟩
  walk_at "kp0"
  walk_at "kp"
  refine ⟨_, _, _, rfl, hp, cl_Lessen TX, na_Lessen_word TX, (by decide : 0 < 1000), ?_⟩
  walk_at "kp"
  refine ⟨_, _, _, rfl, mset_same, cl_Lessen TX, na_Lessen_coins TX, (Nat.lt_of_lt_of_le (putD_lt (by decide : 0 < 1)) (by decide : 2 ≤ 1000)), ?_⟩
  walk_at "kp"
  refine ⟨_, _, _, rfl, mset_same, cl_Lessen TX, na_Lessen_note TX, (Nat.lt_of_lt_of_le (putD_lt (putD_lt (by decide : 0 < 1))) (by decide : 3 ≤ 1000)), ?_⟩
  rw [mset_mset, mset_mset]
  exact k
def spc_Lessen_told (K : PySem.W.Frag) : Spc := fun ds M Pc => ∃ (v : Str) (c : Int) (n : Str), ds = [.ins (He.ga K "Lessen") (fsLessen (.str v) (.int c) (.str n))] ∧ Pc (.tup [.str "lessen", .str v, .int c, .str n]) M
theorem len_Lessen_told (ds : List D) (M : Mem) (Pc : D → Mem → Prop) (h : spc_Lessen_told K ds M Pc) : ds.length = 1 := by
  obtain ⟨_, _, _, rfl, _⟩ := h
  rfl
abbrev nm_Lessen_told : List Str := ["self"]
theorem sc_Lessen_told : FnScope nm_Lessen_told ["self"] (defScope s_Lessen_told) := ⟨rfl, rfl, rfl, by decide +kernel, rfl, by decide +kernel, by decide +kernel⟩
theorem ok_Lessen_told (TX : Txt K mg base) : Kept P w K mg base 1 (He.fAd K ("Lessen", some "told")) ["self"] (spc_Lessen_told K) := by
  refine okD (fn_Lessen_told TX) sc_Lessen_told (fun _ _ _ _ _ _ us hl => match us, hl with | [_], _ => rfl) len_Lessen_told fun cdv A outer s H E hr ds M Pc h => ?_
  obtain ⟨v, c, n, rfl, k⟩ := h
  refine ⟨_, (pss_one (ps_ret (pe_tup (pa_cons pe_str (pa_cons (pe_fld (pv 0) rfl) (pa_cons (pe_fld (pv 0) rfl) (pa_cons (pe_fld (pv 0) rfl) pa_nil))))))), ?_⟩
  walk_at "kp0"
  walk_at "kp"
  refine ⟨_, _, _, insD1, cl_Lessen TX, na_Lessen_word TX, lk_Lessen_word .., ?_⟩
  walk_at "kp"
  refine ⟨_, _, _, insD1, cl_Lessen TX, na_Lessen_coins TX, lk_Lessen_coins .., ?_⟩
  walk_at "kp"
  refine ⟨_, _, _, insD1, cl_Lessen TX, na_Lessen_note TX, lk_Lessen_note .., ?_⟩
  walk_at "kp"
def spc_Out_init (K : PySem.W.Frag) : Spc := fun ds M Pc => ∃ (p : Addr) (v : Str) (c : Int) (n : Str), ds = [.ref p, .str v, .int c, .str n] ∧ M p = some (.ins (He.ga K "Out") []) ∧ NameOk v ∧ CoinsOk c ∧ NoteOk n ∧ Pc .non (mset M p (.ins (He.ga K "Out") (fsOut (.str v) (.int c) (.str n))))
theorem len_Out_init (ds : List D) (M : Mem) (Pc : D → Mem → Prop) (h : spc_Out_init K ds M Pc) : ds.length = 4 := by
  obtain ⟨_, _, _, _, rfl, _⟩ := h
  rfl
abbrev nm_Out_init : List Str := ["self", "word", "coins", "note"]
theorem sc_Out_init : FnScope nm_Out_init ["self", "word", "coins", "note"] (defScope s_Out_init) := ⟨rfl, rfl, rfl, by decide +kernel, rfl, by decide +kernel, by decide +kernel⟩
theorem ok_Out_init (TX : Txt K mg base) : Kept P w K mg base 4 (He.fAd K ("Out", some "__init__")) ["self", "word", "coins", "note"] (spc_Out_init K) := by
  obtain ⟨fd_check, G_check, kp_check, b_check⟩ := ok_check (P := P) (w := w) TX
  obtain ⟨fd_is_name, G_is_name, kp_is_name, b_is_name⟩ := ok_is_name (P := P) (w := w) TX
  obtain ⟨fd_check_coins, G_check_coins, kp_check_coins, b_check_coins⟩ := ok_check_coins (P := P) (w := w) TX
  refine okD (fn_Out_init TX) sc_Out_init (fun _ _ _ _ _ _ us hl => match us, hl with | [_, _, _, _], _ => rfl) len_Out_init fun cdv A outer s H E hr ds M Pc h => ?_
  obtain ⟨p, v, c, n, rfl, hp, nv, hc, hn, k⟩ := h
  refine ⟨_, (pss_cons (ps_expr (pe_call G_check (hr.mono (by decide)) rfl (g_check TX) kp_check b_check .nil pass0 (pa_cons (pe_call G_is_name (hr.mono (by decide)) rfl (g_is_name TX) kp_is_name b_is_name .nil pass0 (pa_cons (pv 1) pa_nil)) pa_nil)))
    (pss_cons (ps_expr (pe_call G_check_coins (hr.mono (by decide)) rfl (g_check_coins TX) kp_check_coins b_check_coins .nil pass0 (pa_cons (pv 2) (pa_cons (pv 3) pa_nil))))
    (pss_cons (ps_fld (pv 0) (pv 1) rfl)
    (pss_cons (ps_fld (pv 0) (pv 2) rfl)
    (pss_one (ps_fld (pv 0) (pv 3) rfl)))))), ?_⟩
  walk_at "kp0"
  walk_at "kp"
  refine ⟨_, _, _, rfl, hp, cl_Out TX, na_Out_word TX, (by decide : 0 < 1000), ?_⟩
  walk_at "kp"
  refine ⟨_, _, _, rfl, mset_same, cl_Out TX, na_Out_coins TX, (Nat.lt_of_lt_of_le (putD_lt (by decide : 0 < 1)) (by decide : 2 ≤ 1000)), ?_⟩
  walk_at "kp"
  refine ⟨_, _, _, rfl, mset_same, cl_Out TX, na_Out_note TX, (Nat.lt_of_lt_of_le (putD_lt (putD_lt (by decide : 0 < 1))) (by decide : 3 ≤ 1000)), ?_⟩
  rw [mset_mset, mset_mset]
  exact k
def spc_Out_told (K : PySem.W.Frag) : Spc := fun ds M Pc => ∃ (v : Str) (c : Int) (n : Str), ds = [.ins (He.ga K "Out") (fsOut (.str v) (.int c) (.str n))] ∧ Pc (.tup [.str "out", .str v, .int c, .str n]) M
theorem len_Out_told (ds : List D) (M : Mem) (Pc : D → Mem → Prop) (h : spc_Out_told K ds M Pc) : ds.length = 1 := by
  obtain ⟨_, _, _, rfl, _⟩ := h
  rfl
abbrev nm_Out_told : List Str := ["self"]
theorem sc_Out_told : FnScope nm_Out_told ["self"] (defScope s_Out_told) := ⟨rfl, rfl, rfl, by decide +kernel, rfl, by decide +kernel, by decide +kernel⟩
theorem ok_Out_told (TX : Txt K mg base) : Kept P w K mg base 1 (He.fAd K ("Out", some "told")) ["self"] (spc_Out_told K) := by
  refine okD (fn_Out_told TX) sc_Out_told (fun _ _ _ _ _ _ us hl => match us, hl with | [_], _ => rfl) len_Out_told fun cdv A outer s H E hr ds M Pc h => ?_
  obtain ⟨v, c, n, rfl, k⟩ := h
  refine ⟨_, (pss_one (ps_ret (pe_tup (pa_cons pe_str (pa_cons (pe_fld (pv 0) rfl) (pa_cons (pe_fld (pv 0) rfl) (pa_cons (pe_fld (pv 0) rfl) pa_nil))))))), ?_⟩
  walk_at "kp0"
  walk_at "kp"
  refine ⟨_, _, _, insD1, cl_Out TX, na_Out_word TX, lk_Out_word .., ?_⟩
  walk_at "kp"
  refine ⟨_, _, _, insD1, cl_Out TX, na_Out_coins TX, lk_Out_coins .., ?_⟩
  walk_at "kp"
  refine ⟨_, _, _, insD1, cl_Out TX, na_Out_note TX, lk_Out_note .., ?_⟩
  walk_at "kp"
def spc_Entry_named (K : PySem.W.Frag) : Spc := fun ds M Pc => ∃ (d : D), ds = [d] ∧ Pc (.lst []) M
theorem len_Entry_named (ds : List D) (M : Mem) (Pc : D → Mem → Prop) (h : spc_Entry_named K ds M Pc) : ds.length = 1 := by
  obtain ⟨_, rfl, _⟩ := h
  rfl
abbrev nm_Entry_named : List Str := ["self"]
theorem sc_Entry_named : FnScope nm_Entry_named ["self"] (defScope s_Entry_named) := ⟨rfl, rfl, rfl, by decide +kernel, rfl, by decide +kernel, by decide +kernel⟩
theorem ok_Entry_named (TX : Txt K mg base) : Kept P w K mg base 1 (He.fAd K ("Entry", some "named")) ["self"] (spc_Entry_named K) := by
  refine okD (fn_Entry_named TX) sc_Entry_named (fun _ _ _ _ _ _ us hl => match us, hl with | [_], _ => rfl) len_Entry_named fun cdv A outer s H E hr ds M Pc h => ?_
  obtain ⟨d, rfl, k⟩ := h
  refine ⟨_, (pss_one (ps_ret (pe_lst pa_nil))), ?_⟩
  walk_at "kp0"
  walk_at "kp"
  refine re_lst (ra_nil ⟨by decide, k⟩)
def spc_Entry_lasts (K : PySem.W.Frag) : Spc := fun ds M Pc => ∃ (d y t : D), ds = [d, y, t] ∧ Pc (.bl true) M
theorem len_Entry_lasts (ds : List D) (M : Mem) (Pc : D → Mem → Prop) (h : spc_Entry_lasts K ds M Pc) : ds.length = 3 := by
  obtain ⟨_, _, _, rfl, _⟩ := h
  rfl
abbrev nm_Entry_lasts : List Str := ["self", "year", "date"]
theorem sc_Entry_lasts : FnScope nm_Entry_lasts ["self", "year", "date"] (defScope s_Entry_lasts) := ⟨rfl, rfl, rfl, by decide +kernel, rfl, by decide +kernel, by decide +kernel⟩
theorem ok_Entry_lasts (TX : Txt K mg base) : Kept P w K mg base 1 (He.fAd K ("Entry", some "lasts")) ["self", "year", "date"] (spc_Entry_lasts K) := by
  refine okD (fn_Entry_lasts TX) sc_Entry_lasts (fun _ _ _ _ _ _ us hl => match us, hl with | [_, _, _], _ => rfl) len_Entry_lasts fun cdv A outer s H E hr ds M Pc h => ?_
  obtain ⟨d, y, t, rfl, k⟩ := h
  refine ⟨_, (pss_one (ps_ret pe_bl)), ?_⟩
  walk_at "kp0"
  walk_at "kp"


end
end Kp

set_option maxHeartbeats 4000000
namespace Kp
open PySem PySem.Spec PyProof.Rows L2
local macro_rules | `(tactic| walk_at "kp0") => `(tactic| try dsimp only [cxOf, Cx.nox, Cx.wish])
local macro_rules | `(tactic| walk_at "kp1") => `(tactic| first
  | with_reducible refine rs_seq ?_
  | with_reducible refine re_var rfl ?_
  | with_reducible refine re_int ?_
  | with_reducible refine re_str ?_
  | with_reducible refine re_op ?_
  | with_reducible refine re_cb ?_
  | with_reducible refine ra_cons ?_
  | ((with_reducible refine ra_nil ?_); first
      | refine Exists.intro _ ⟨rfl, ?_⟩
      | refine ⟨_, _, rfl, ?_⟩
      | refine ⟨_, _, _, rfl, ?_⟩
      | refine ⟨_, _, _, _, rfl, ?_⟩
      | refine ⟨_, _, _, _, _, rfl, ?_⟩
      | refine ⟨_, _, _, _, _, _, rfl, ?_⟩
      | refine And.intro rfl ?_)
  | with_reducible refine ra_nil ?_
  | with_reducible refine rs_ret ?_
  | with_reducible refine rs_asg ?_
  | with_reducible refine rg_name ?_
  | with_reducible refine rs_if ?_
  | with_reducible refine rt_test ?_
  | with_reducible refine rt_B ?_
  | with_reducible refine re_call ?_
  | with_reducible refine rr_int0 ?_
  | with_reducible refine rr_bl0 ?_
  | with_reducible refine rr_I0 rfl ?_
  | with_reducible refine re_bl ?_
  | with_reducible refine re_non ?_
  | with_reducible refine re_ty ?_
  | with_reducible refine re_ref ?_
  | with_reducible refine rs_drop ?_
  | with_reducible refine re_chain ?_
  | with_reducible refine re_andV ?_
  | with_reducible refine re_orV ?_
  | with_reducible refine re_notV ?_
  | with_reducible refine rt_not ?_
  | with_reducible refine rt_and ?_
  | with_reducible refine rt_or ?_
  | with_reducible refine rs_next ?_
  | with_reducible refine rs_cont ?_
  | with_reducible refine rs_break ?_
  | with_reducible refine rs_retN ?_
  | with_reducible refine rr_eq rfl ?_
  | with_reducible refine rr_ne rfl ?_
  | with_reducible refine rr_mulR (by omega) ?_
  | with_reducible refine rr_mulL (by omega) ?_
  | with_reducible refine rr_mod (by omega) ?_
  | with_reducible refine rr_fdiv (by omega) ?_
  | with_reducible refine ro_none ?_
  | with_reducible refine ro_some ?_
  | with_reducible refine re_tup ?_
  | with_reducible refine rg_tup tupD1 rfl ?_
  | with_reducible refine rgs_cons ?_
  | with_reducible refine rgs_nil ?_
  | with_reducible refine rr_ixT0 ?_
  | with_reducible refine rr_ixT1 ?_
  | with_reducible refine rr_ixT2 ?_
  | with_reducible refine rr_ixT3 ?_
  | with_reducible refine rr_ixT4 ?_
  | with_reducible refine rr_ixT5 ?_
  | with_reducible refine rr_isN ?_
  | with_reducible refine rr_notN ?_
  | with_reducible refine rcI1 ?_
  | with_reducible refine rcI2 ?_
  | with_reducible refine rcI3 ?_
  | with_reducible refine rcI4 ?_
  | with_reducible refine rcI5 ?_
  | with_reducible refine rc_listL ?_
  | with_reducible refine rc_lenL ?_
  | with_reducible refine rc_lenT ?_
  | with_reducible refine rc_min2 ?_
  | with_reducible refine rc_intB ?_
  | with_reducible refine re_strip ?_
  | with_reducible refine re_lst (tA := tCons _ _) ?_
  | with_reducible refine re_fld ?_
  | with_reducible refine rs_fld ?_
  | with_reducible refine re_meth ?_
  | with_reducible exact rfl
  | with_reducible refine andT ?_
  | with_reducible refine andF ?_
  | refine Exists.intro _ ⟨rfl, ?_⟩
  | refine andT ?_
  | refine andF ?_
  | assumption
  | refine And.intro rfl ?_
  | refine And.intro (by assumption) ?_
  | with_reducible refine And.intro (Nat.le_of_ble_eq_true rfl) ?_
  | with_reducible refine And.intro (by omega) ?_)
local macro_rules | `(tactic| walk_at "kp") => `(tactic| repeat (walk_at "kp1"))
section
variable {P : Program} {w : World} {K : PySem.W.Frag} {mg : Str → Option Value} {base : Heap}
theorem inh_fits (TX : Txt K mg base) (x : Str) (hx : x ∈ kindsL) : He.ma K (He.ga K x) "fits" = He.ma K (He.ga K "Entry") "fits" := of_decide_eq_true (exK TX x hx).2.2
theorem inh_lasts (TX : Txt K mg base) (x : Str) (hx : x ∈ (["Give", "Move", "Spend", "Promise", "Lessen", "Out"] : List Str)) : He.ma K (He.ga K x) "lasts" = He.ma K (He.ga K "Entry") "lasts" := by
  have h := TX.ex
  unfold ex at h
  exact of_decide_eq_true (List.all_eq_true.mp (He.ba (He.ba (He.ba h).2).2).1 x hx)
theorem inh_named (TX : Txt K mg base) (x : Str) (hx : x ∈ (["Lessen", "Out"] : List Str)) : He.ma K (He.ga K x) "named" = He.ma K (He.ga K "Entry") "named" := by
  have h := TX.ex
  unfold ex at h
  exact of_decide_eq_true (List.all_eq_true.mp (He.ba (He.ba (He.ba h).2).2).2 x hx)
theorem mi_Give_fits (TX : Txt K mg base) : Meth K (He.ga K "Give") "fits" (He.fAd K ("Entry", some "fits")) := by
  have h := me_Give_fits TX
  rw [inh_fits TX "Give" (by simp [kindsL])] at h
  exact h
theorem mi_Give_lasts (TX : Txt K mg base) : Meth K (He.ga K "Give") "lasts" (He.fAd K ("Entry", some "lasts")) := by
  have h := me_Give_lasts TX
  rw [inh_lasts TX "Give" (by simp [kindsL])] at h
  exact h
theorem mi_Hold_fits (TX : Txt K mg base) : Meth K (He.ga K "Hold") "fits" (He.fAd K ("Entry", some "fits")) := by
  have h := me_Hold_fits TX
  rw [inh_fits TX "Hold" (by simp [kindsL])] at h
  exact h
theorem mi_Move_fits (TX : Txt K mg base) : Meth K (He.ga K "Move") "fits" (He.fAd K ("Entry", some "fits")) := by
  have h := me_Move_fits TX
  rw [inh_fits TX "Move" (by simp [kindsL])] at h
  exact h
theorem mi_Move_lasts (TX : Txt K mg base) : Meth K (He.ga K "Move") "lasts" (He.fAd K ("Entry", some "lasts")) := by
  have h := me_Move_lasts TX
  rw [inh_lasts TX "Move" (by simp [kindsL])] at h
  exact h
theorem mi_Spend_fits (TX : Txt K mg base) : Meth K (He.ga K "Spend") "fits" (He.fAd K ("Entry", some "fits")) := by
  have h := me_Spend_fits TX
  rw [inh_fits TX "Spend" (by simp [kindsL])] at h
  exact h
theorem mi_Spend_lasts (TX : Txt K mg base) : Meth K (He.ga K "Spend") "lasts" (He.fAd K ("Entry", some "lasts")) := by
  have h := me_Spend_lasts TX
  rw [inh_lasts TX "Spend" (by simp [kindsL])] at h
  exact h
theorem mi_Promise_fits (TX : Txt K mg base) : Meth K (He.ga K "Promise") "fits" (He.fAd K ("Entry", some "fits")) := by
  have h := me_Promise_fits TX
  rw [inh_fits TX "Promise" (by simp [kindsL])] at h
  exact h
theorem mi_Promise_lasts (TX : Txt K mg base) : Meth K (He.ga K "Promise") "lasts" (He.fAd K ("Entry", some "lasts")) := by
  have h := me_Promise_lasts TX
  rw [inh_lasts TX "Promise" (by simp [kindsL])] at h
  exact h
theorem mi_Lessen_fits (TX : Txt K mg base) : Meth K (He.ga K "Lessen") "fits" (He.fAd K ("Entry", some "fits")) := by
  have h := me_Lessen_fits TX
  rw [inh_fits TX "Lessen" (by simp [kindsL])] at h
  exact h
theorem mi_Lessen_lasts (TX : Txt K mg base) : Meth K (He.ga K "Lessen") "lasts" (He.fAd K ("Entry", some "lasts")) := by
  have h := me_Lessen_lasts TX
  rw [inh_lasts TX "Lessen" (by simp [kindsL])] at h
  exact h
theorem mi_Lessen_named (TX : Txt K mg base) : Meth K (He.ga K "Lessen") "named" (He.fAd K ("Entry", some "named")) := by
  have h := me_Lessen_named TX
  rw [inh_named TX "Lessen" (by simp [kindsL])] at h
  exact h
theorem mi_Out_fits (TX : Txt K mg base) : Meth K (He.ga K "Out") "fits" (He.fAd K ("Entry", some "fits")) := by
  have h := me_Out_fits TX
  rw [inh_fits TX "Out" (by simp [kindsL])] at h
  exact h
theorem mi_Out_lasts (TX : Txt K mg base) : Meth K (He.ga K "Out") "lasts" (He.fAd K ("Entry", some "lasts")) := by
  have h := me_Out_lasts TX
  rw [inh_lasts TX "Out" (by simp [kindsL])] at h
  exact h
theorem mi_Out_named (TX : Txt K mg base) : Meth K (He.ga K "Out") "named" (He.fAd K ("Entry", some "named")) := by
  have h := me_Out_named TX
  rw [inh_named TX "Out" (by simp [kindsL])] at h
  exact h

structure Yr where
  days : Int
  heads : List (Str × Str)
  limits : List (Str × Int × Int × Int)
  rules : List (Str × Int × Int × Int)
def encHd (h : Str × Str) : D := .tup [.str h.1, .str h.2]
def encLm (l : Str × Int × Int × Int) : D := .tup [.str l.1, .int l.2.1, .int l.2.2.1, .int l.2.2.2]
def encY (K : PySem.W.Frag) (Y : Yr) : D := .ins (He.ga K "Year") (fsYear (.int Y.days) (.lst (Y.heads.map encHd)) (.lst (Y.limits.map encLm)) (.lst (Y.rules.map encLm)))
def Yr.names (Y : Yr) : List Str := Y.heads.map (·.1)
def abv : List (Str × Str) → Str → Option Str
  | [], _ => none
  | (o, h) :: r, n => if o = n then some h else abv r n
/-- what the walks of a year ask of it -/
structure YOk (Y : Yr) : Prop where
  hd : Y.heads.length ≤ 8
  lm : Y.limits.length ≤ 6
  rl : Y.rules.length ≤ 4
  up : ∀ n u, abv Y.heads n = some u → u ≠ "" → ∃ u2, abv Y.heads u = some u2
  d1 : 1 ≤ Y.days
  d2 : Y.days ≤ 30
theorem abv_of {hs : List (Str × Str)} {n : Str} : n ∈ hs.map (·.1) → ∃ u, abv hs n = some u := by
  induction hs with
  | nil => intro h; cases h
  | cons x r ih =>
    intro h
    unfold abv
    by_cases e : x.1 = n
    · exact ⟨x.2, if_pos e⟩
    · rw [if_neg e]
      rw [List.map_cons] at h
      rcases List.mem_cons.mp h with h | h
      · exact absurd h.symm e
      · exact ih h
theorem abv_skip {pre post : List (Str × Str)} {x : Str × Str} {n : Str} (h : ∀ y ∈ pre, y.1 ≠ n) : abv (pre ++ x :: post) n = if x.1 = n then some x.2 else abv post n := by
  induction pre with
  | nil => rfl
  | cons y r ih =>
    show (if y.1 = n then some y.2 else abv (r ++ x :: post) n) = _
    rw [if_neg (h y List.mem_cons_self), ih fun z hz => h z (List.mem_cons_of_mem _ hz)]
theorem abv_none {hs : List (Str × Str)} {n : Str} (h : ∀ y ∈ hs, y.1 ≠ n) : abv hs n = none := by
  induction hs with
  | nil => rfl
  | cons y r ih =>
    show (if y.1 = n then some y.2 else abv r n) = _
    rw [if_neg (h y List.mem_cons_self), ih fun z hz => h z (List.mem_cons_of_mem _ hz)]
def spc_Year_names (K : PySem.W.Frag) : Spc := fun ds M Pc => ∃ (Y : Yr), ds = [encY K Y] ∧ YOk Y ∧ Pc (.lst (Y.names.map D.str)) M
theorem len_Year_names (ds : List D) (M : Mem) (Pc : D → Mem → Prop) (h : spc_Year_names K ds M Pc) : ds.length = 1 := by
  obtain ⟨_, rfl, _⟩ := h
  rfl
abbrev nm_Year_names : List Str := ["self", "name", "above"]
theorem sc_Year_names : FnScope nm_Year_names ["self"] (defScope s_Year_names) := ⟨rfl, rfl, rfl, by decide +kernel, rfl, by decide +kernel, by decide +kernel⟩
theorem ok_Year_names (TX : Txt K mg base) : Kept P w K mg base 1 (He.fAd K ("Year", some "names")) ["self"] (spc_Year_names K) := by
  refine okD (fn_Year_names TX) sc_Year_names (fun _ _ _ _ _ _ us hl => match us, hl with | [_], _ => rfl) len_Year_names fun cdv A outer s H E hr ds M Pc h => ?_
  obtain ⟨Y, rfl, y, k⟩ := h
  refine ⟨_, (pss_one (ps_ret (pe_lc (own := [("name", 1), ("above", 2)]) (g := gTup K 2 (gCons (gName 1) (gCons (gName 2) gNil))) rfl sc_Year_names.nd (pi_list (pe_fld (pv 0) rfl)) (blkOk_by (N := nm_Year_names) (sc := defScope s_Year_names) (by decide +kernel)) (fun _ _ _ _ _ => pg_tup rfl (pgs_cons (pg_name (i := 1) sc_Year_names.nd rfl (Or.inl rfl)) (pgs_cons (pg_name (i := 2) sc_Year_names.nd rfl (Or.inl rfl)) pgs_nil))) (fun _ _ _ _ _ => pts_nil) (fun _ _ _ _ _ => (pv 1))))), ?_⟩
  walk_at "kp0"
  walk_at "kp"
  refine re_lcM encHd Y.heads (fun h => .str h.1) (by have := y.hd; omega) ?_ ?_ ?_
  · walk_at "kp"
    refine ⟨_, _, _, insD1, cl_Year TX, na_Year_heads TX, lk_Year_heads .., .inl rfl, rfl⟩
  · intro x hx
    refine rgc_pair (by simp) (by simp) tupD1 ?_
    walk_at "kp"
  · rw [show Y.heads.map (fun h => D.str h.1) = Y.names.map D.str by unfold Yr.names; rw [List.map_map]; rfl]
    exact k
def spc_Year_above (K : PySem.W.Frag) : Spc := fun ds M Pc => ∃ (Y : Yr) (n u : Str), ds = [encY K Y, .str n] ∧ abv Y.heads n = some u ∧ Pc (.str u) M
theorem len_Year_above (ds : List D) (M : Mem) (Pc : D → Mem → Prop) (h : spc_Year_above K ds M Pc) : ds.length = 2 := by
  obtain ⟨_, _, _, rfl, _⟩ := h
  rfl
abbrev nm_Year_above : List Str := ["self", "name", "one", "higher"]
theorem sc_Year_above : FnScope nm_Year_above ["self", "name"] (defScope s_Year_above) := ⟨rfl, rfl, rfl, by decide +kernel, rfl, by decide +kernel, by decide +kernel⟩
theorem ok_Year_above (TX : Txt K mg base) : Kept P w K mg base 1 (He.fAd K ("Year", some "above")) ["self", "name"] (spc_Year_above K) := by
  refine okD (fn_Year_above TX) sc_Year_above (fun _ _ _ _ _ _ us hl => match us, hl with | [_, _], _ => rfl) len_Year_above fun cdv A outer s H E hr ds M Pc h => ?_
  obtain ⟨Y, n, u, rfl, hu, k⟩ := h
  refine ⟨_, (pss_cons (ps_for PassesOwn.never rfl (pi_list (pe_fld (pv 0) rfl)) (pg_tup rfl (pgs_cons (pg_name (i := 2) sc_Year_above.nd rfl (Or.inl rfl)) (pgs_cons (pg_name (i := 3) sc_Year_above.nd rfl (Or.inl rfl)) pgs_nil)))
    (pss_one (ps_if (pt_cmpR op_eq (pv 2) (pv 1) (nomark _)) (pss_one (ps_ret (pv 3))) pss_nil)))
    (pss_one ps_never)), ?_⟩
  walk_at "kp0"
  walk_at "kp"
  refine rs_for encHd Y.heads (fun pre δ' M' => M' = M ∧ (∃ o h, δ' = [some (encY K Y), some (.str n), o, h]) ∧ ∀ y ∈ pre, y.1 ≠ n) ?_ ?_ ?_
  · walk_at "kp"
    exact ⟨_, _, _, insD1, cl_Year TX, na_Year_heads TX, lk_Year_heads .., .inl rfl, rfl, ⟨_, _, rfl⟩, by simp⟩
  · rintro pre x post δ' M' e ⟨rfl, ⟨o, h, rfl⟩, hn⟩
    walk_at "kp"
    rw [e, abv_skip hn] at hu
    refine rg_tup tupD1 rfl ?_
    walk_at "kp"
    refine ⟨fun h1 => ?_, fun h1 => ?_⟩
    · walk_at "kp"
      rw [if_pos (of_decide_eq_true h1)] at hu
      cases hu
      exact k
    · walk_at "kp"
      refine ⟨⟨_, _, rfl⟩, fun y hy => ?_⟩
      rcases List.mem_append.mp hy with hy | hy
      · exact hn y hy
      · rw [List.mem_singleton.mp hy]
        exact of_decide_eq_false h1
  · rintro δ' M' ⟨rfl, _, hn⟩
    rw [abv_none hn] at hu
    cases hu
def kno (hs : List (Str × Str)) : Nat → Str → Str → List Str
  | 0, _, _ => []
  | n + 1, a, u => a :: if u = "" then [] else kno hs n u ((abv hs u).getD "")
def knoY (Y : Yr) (n : Str) : List Str := kno Y.heads Y.heads.length n ((abv Y.heads n).getD "")
def spc_Year_knots (K : PySem.W.Frag) : Spc := fun ds M Pc => ∃ (Y : Yr) (n : Str), ds = [encY K Y, .str n] ∧ YOk Y ∧ n ∈ Y.names ∧ Pc (.lst ((knoY Y n).map D.str)) M
theorem len_Year_knots (ds : List D) (M : Mem) (Pc : D → Mem → Prop) (h : spc_Year_knots K ds M Pc) : ds.length = 2 := by
  obtain ⟨_, _, rfl, _⟩ := h
  rfl
abbrev nm_Year_knots : List Str := ["self", "name", "found", "at", "higher", "turn"]
theorem sc_Year_knots : FnScope nm_Year_knots ["self", "name"] (defScope s_Year_knots) := ⟨rfl, rfl, rfl, by decide +kernel, rfl, by decide +kernel, by decide +kernel⟩
theorem ok_Year_knots (TX : Txt K mg base) : Kept P w K mg base 2 (He.fAd K ("Year", some "knots")) ["self", "name"] (spc_Year_knots K) := by
  obtain ⟨fd_Year_above, G_Year_above, kp_Year_above, b_Year_above⟩ := ok_Year_above (P := P) (w := w) TX
  refine okD (fn_Year_knots TX) sc_Year_knots (fun _ _ _ _ _ _ us hl => match us, hl with | [_, _], _ => rfl) len_Year_knots fun cdv A outer s H E hr ds M Pc h => ?_
  obtain ⟨Y, n, rfl, y, hn, k⟩ := h
  refine ⟨_, (pss_cons (ps_set (i := 2) sc_Year_knots.nd rfl (Or.inl rfl) (pe_lst pa_nil))
    (pss_cons (ps_set (i := 3) sc_Year_knots.nd rfl (Or.inl rfl) (pv 1))
    (pss_cons (ps_set (i := 4) sc_Year_knots.nd rfl (Or.inl rfl) (pe_meth (pv 0) (cl_Year TX) (me_Year_above TX) G_Year_above (hr.mono (by decide)) b_Year_above .nil pass0 (pa_cons (pv 1) pa_nil)))
    (pss_cons (ps_for PassesOwn.never rfl (pi_range1 rfl (n_range TX) (pa_cons (pe_callB call_len rfl (n_len TX) PySem.boot_len (pa_cons (pe_fld (pv 0) rfl) pa_nil)) pa_nil)) (pg_name (i := 5) sc_Year_knots.nd rfl (Or.inl rfl))
    (pss_cons (ps_expr (pe_bm PySem.F.plainAttrs_list PySem.F.slot_list_append PySem.F.type_list_append mt_append (pv 2) (pa_cons (pv 3) pa_nil)))
    (pss_cons (ps_if (pt_cmpR op_eq (pv 4) pe_str (nomark _)) (pss_one ps_break) pss_nil)
    (pss_cons (ps_set (i := 3) sc_Year_knots.nd rfl (Or.inl rfl) (pv 4))
    (pss_one (ps_set (i := 4) sc_Year_knots.nd rfl (Or.inl rfl) (pe_meth (pv 0) (cl_Year TX) (me_Year_above TX) G_Year_above (hr.mono (by decide)) b_Year_above .nil pass0 (pa_cons (pv 3) pa_nil))))))))
    (pss_one (ps_ret (pv 2))))))), ?_⟩
  walk_at "kp0"
  obtain ⟨u, hu⟩ := abv_of hn
  walk_at "kp"
  refine re_lstM (ra_nil ⟨by decide, fun p hp => ?_⟩)
  walk_at "kp"
  refine ⟨_, insD1, lm_Year_above .., ?_⟩
  walk_at "kp"
  refine ⟨Y, n, u, rfl, hu, ?_⟩
  walk_at "kp"
  refine rs_forR1 Y.heads.length (fun j δ' M' => ∃ fo a u t, δ' = [some (encY K Y), some (.str n), some (.ref p), some (.str a), some (.str u), t] ∧ M' = mset M p (.lst (fo.map D.str)) ∧ fo ++ kno Y.heads (Y.heads.length - j) a u = knoY Y n ∧ abv Y.heads a = some u ∧ fo.length ≤ j) ?_ ?_ ?_
  · walk_at "kp"
    refine ⟨_, _, _, insD1, cl_Year TX, na_Year_heads TX, lk_Year_heads .., ?_⟩
    walk_at "kp"
    have := y.hd
    refine ⟨by rw [List.length_map], by omega, [], n, u, _, rfl, rfl, ?_, hu, Nat.le_refl 0⟩
    unfold knoY
    rw [hu]
    rfl
  · rintro j δ' M' hj ⟨fo, a, u, t, rfl, rfl, hk, ha, hl⟩
    walk_at "kp"
    refine re_append ?_
    walk_at "kp"
    refine ⟨⟨_, mset_same⟩, ?_⟩
    walk_at "kp"
    have := y.hd
    refine ⟨_, mset_same, by rw [List.length_map]; omega, ?_⟩
    rw [mset_mset]
    have hN : Y.heads.length - j = (Y.heads.length - (j + 1)) + 1 := by omega
    rw [hN] at hk
    have hk2 : (fo ++ [a]) ++ (if u = "" then [] else kno Y.heads (Y.heads.length - (j + 1)) u ((abv Y.heads u).getD "")) = knoY Y n := by
      rw [← hk, List.append_assoc]
      rfl
    walk_at "kp"
    refine ⟨fun h1 => ?_, fun h1 => ?_⟩
    · refine rs_break ?_
      rw [if_pos (of_decide_eq_true h1), List.append_nil] at hk2
      refine rs_ret ?_
      refine re_frz (re_var rfl ⟨_, _, Frz.lst mset_same, ?_⟩)
      rw [mdel_mset hp, show fo.map D.str ++ [D.str a] = (fo ++ [a]).map D.str by rw [List.map_append]; rfl, hk2]
      exact k
    · have hu0 := of_decide_eq_false h1
      rw [if_neg hu0] at hk2
      obtain ⟨u2, hu2⟩ := y.up a u ha hu0
      walk_at "kp"
      refine ⟨_, insD1, lm_Year_above .., ?_⟩
      walk_at "kp"
      refine ⟨Y, u, u2, rfl, hu2, ?_⟩
      walk_at "kp"
      rw [hu2] at hk2
      exact ⟨fo ++ [a], u, u2, _, rfl, by rw [List.map_append]; rfl, hk2, hu2, by rw [List.length_append]; simp; omega⟩
  · rintro δ' M' ⟨fo, a, u, t, rfl, rfl, hk, ha, hl⟩
    refine rs_ret ?_
    rw [Nat.sub_self] at hk
    refine re_frz (re_var rfl ⟨_, _, Frz.lst mset_same, ?_⟩)
    rw [mdel_mset hp, ← List.append_nil fo, show ([] : List Str) = kno Y.heads 0 a u from rfl, hk]
    exact k
def undY (Y : Yr) (n : Str) : List Str := Y.names.filter fun one => decide (n ∈ knoY Y one)
def spc_Year_under (K : PySem.W.Frag) : Spc := fun ds M Pc => ∃ (Y : Yr) (n : Str), ds = [encY K Y, .str n] ∧ YOk Y ∧ n ∈ Y.names ∧ Pc (.lst ((undY Y n).map D.str)) M
theorem len_Year_under (ds : List D) (M : Mem) (Pc : D → Mem → Prop) (h : spc_Year_under K ds M Pc) : ds.length = 2 := by
  obtain ⟨_, _, rfl, _⟩ := h
  rfl
abbrev nm_Year_under : List Str := ["self", "name", "one"]
theorem sc_Year_under : FnScope nm_Year_under ["self", "name"] (defScope s_Year_under) := ⟨rfl, rfl, rfl, by decide +kernel, rfl, by decide +kernel, by decide +kernel⟩
theorem ok_Year_under (TX : Txt K mg base) : Kept P w K mg base 3 (He.fAd K ("Year", some "under")) ["self", "name"] (spc_Year_under K) := by
  obtain ⟨fd_Year_above, G_Year_above, kp_Year_above, b_Year_above⟩ := ok_Year_above (P := P) (w := w) TX
  obtain ⟨fd_Year_names, G_Year_names, kp_Year_names, b_Year_names⟩ := ok_Year_names (P := P) (w := w) TX
  obtain ⟨fd_Year_knots, G_Year_knots, kp_Year_knots, b_Year_knots⟩ := ok_Year_knots (P := P) (w := w) TX
  refine okD (fn_Year_under TX) sc_Year_under (fun _ _ _ _ _ _ us hl => match us, hl with | [_, _], _ => rfl) len_Year_under fun cdv A outer s H E hr ds M Pc h => ?_
  obtain ⟨Y, n, rfl, y, hn, k⟩ := h
  refine ⟨_, (pss_cons (ps_expr (pe_meth (pv 0) (cl_Year TX) (me_Year_above TX) G_Year_above (hr.mono (by decide)) b_Year_above .nil pass0 (pa_cons (pv 1) pa_nil)))
    (pss_one (ps_ret (pe_lc (own := [("one", 2)]) (g := gName 2) rfl sc_Year_under.nd (pi_list (pe_meth0 (pv 0) (cl_Year TX) (me_Year_names TX) G_Year_names (hr.mono (by decide)) b_Year_names .nil pass0)) (blkOk_by (N := nm_Year_under) (sc := defScope s_Year_under) (by decide +kernel)) (fun _ _ _ _ _ => pg_name (i := 2) sc_Year_under.nd rfl (Or.inl rfl)) (fun _ _ _ _ _ => pts_one (pt_cmpR (ko_in (K := K)) (pv 1) (pe_meth (pv 0) (cl_Year TX) (me_Year_knots TX) G_Year_knots (hr.mono (by decide)) b_Year_knots .nil pass0 (pa_cons (pv 2) pa_nil)) rfl)) (fun _ _ _ _ _ => (pv 2)))))), ?_⟩
  walk_at "kp0"
  obtain ⟨u, hu⟩ := abv_of hn
  walk_at "kp"
  refine ⟨_, insD1, lm_Year_above .., ?_⟩
  walk_at "kp"
  refine ⟨Y, n, u, rfl, hu, ?_⟩
  walk_at "kp"
  refine re_lcF D.str Y.names D.str (fun one => decide (n ∈ knoY Y one)) (by unfold Yr.names; rw [List.length_map]; have := y.hd; omega) ?_ ?_ k
  · walk_at "kp"
    refine ⟨_, insD1, lm_Year_names .., ?_⟩
    walk_at "kp"
    exact ⟨.inl rfl, rfl⟩
  · intro x hx
    refine rgc_name (by simp) ?_
    walk_at "kp"
    refine ⟨_, insD1, lm_Year_knots .., ?_⟩
    walk_at "kp"
    refine rr_in (.inl lstD1) ?_
    exact ⟨_, rfl, rfl, rfl, fun _ => re_var rfl ⟨rfl, rfl⟩⟩


end
end Kp

set_option maxHeartbeats 4000000
namespace Kp
open PySem PySem.Spec PyProof.Rows L2
local macro_rules | `(tactic| walk_at "kp0") => `(tactic| try dsimp only [cxOf, Cx.nox, Cx.wish])
local macro_rules | `(tactic| walk_at "kp1") => `(tactic| first
  | with_reducible refine rs_seq ?_
  | with_reducible refine re_var rfl ?_
  | with_reducible refine re_int ?_
  | with_reducible refine re_str ?_
  | with_reducible refine re_op ?_
  | with_reducible refine re_cb ?_
  | with_reducible refine ra_cons ?_
  | ((with_reducible refine ra_nil ?_); first
      | refine Exists.intro _ ⟨rfl, ?_⟩
      | refine ⟨_, _, rfl, ?_⟩
      | refine ⟨_, _, _, rfl, ?_⟩
      | refine ⟨_, _, _, _, rfl, ?_⟩
      | refine ⟨_, _, _, _, _, rfl, ?_⟩
      | refine ⟨_, _, _, _, _, _, rfl, ?_⟩
      | refine And.intro rfl ?_)
  | with_reducible refine ra_nil ?_
  | with_reducible refine rs_ret ?_
  | with_reducible refine rs_asg ?_
  | with_reducible refine rg_name ?_
  | with_reducible refine rs_if ?_
  | with_reducible refine rt_test ?_
  | with_reducible refine rt_B ?_
  | with_reducible refine re_call ?_
  | with_reducible refine rr_int0 ?_
  | with_reducible refine rr_bl0 ?_
  | with_reducible refine rr_I0 rfl ?_
  | with_reducible refine re_bl ?_
  | with_reducible refine re_non ?_
  | with_reducible refine re_ty ?_
  | with_reducible refine re_ref ?_
  | with_reducible refine rs_drop ?_
  | with_reducible refine re_chain ?_
  | with_reducible refine re_andV ?_
  | with_reducible refine re_orV ?_
  | with_reducible refine re_notV ?_
  | with_reducible refine rt_not ?_
  | with_reducible refine rt_and ?_
  | with_reducible refine rt_or ?_
  | with_reducible refine rs_next ?_
  | with_reducible refine rs_cont ?_
  | with_reducible refine rs_break ?_
  | with_reducible refine rs_retN ?_
  | with_reducible refine rr_eq rfl ?_
  | with_reducible refine rr_ne rfl ?_
  | with_reducible refine rr_mulR (by omega) ?_
  | with_reducible refine rr_mulL (by omega) ?_
  | with_reducible refine rr_mod (by omega) ?_
  | with_reducible refine rr_fdiv (by omega) ?_
  | with_reducible refine ro_none ?_
  | with_reducible refine ro_some ?_
  | with_reducible refine re_tup ?_
  | with_reducible refine rg_tup tupD1 rfl ?_
  | with_reducible refine rgs_cons ?_
  | with_reducible refine rgs_nil ?_
  | with_reducible refine rr_ixT0 ?_
  | with_reducible refine rr_ixT1 ?_
  | with_reducible refine rr_ixT2 ?_
  | with_reducible refine rr_ixT3 ?_
  | with_reducible refine rr_ixT4 ?_
  | with_reducible refine rr_ixT5 ?_
  | with_reducible refine rr_isN ?_
  | with_reducible refine rr_notN ?_
  | with_reducible refine rcI1 ?_
  | with_reducible refine rcI2 ?_
  | with_reducible refine rcI3 ?_
  | with_reducible refine rcI4 ?_
  | with_reducible refine rcI5 ?_
  | with_reducible refine rc_listL ?_
  | with_reducible refine rc_lenL ?_
  | with_reducible refine rc_lenT ?_
  | with_reducible refine rc_min2 ?_
  | with_reducible refine rc_intB ?_
  | with_reducible refine re_strip ?_
  | with_reducible refine re_lst (tA := tCons _ _) ?_
  | with_reducible refine re_fld ?_
  | with_reducible refine rs_fld ?_
  | with_reducible refine re_meth ?_
  | with_reducible exact rfl
  | with_reducible refine andT ?_
  | with_reducible refine andF ?_
  | refine Exists.intro _ ⟨rfl, ?_⟩
  | refine andT ?_
  | refine andF ?_
  | assumption
  | refine And.intro rfl ?_
  | refine And.intro (by assumption) ?_
  | with_reducible refine And.intro (Nat.le_of_ble_eq_true rfl) ?_
  | with_reducible refine And.intro (by omega) ?_)
local macro_rules | `(tactic| walk_at "kp") => `(tactic| repeat (walk_at "kp1"))
section
variable {P : Program} {w : World} {K : PySem.W.Frag} {mg : Str → Option Value} {base : Heap}
def spc_are_tuples (K : PySem.W.Frag) : Spc := fun ds M Pc => ∃ (rows : List (List D)) (most wide : Int), ds = [.lst (rows.map D.tup), .int most, .int wide] ∧ (rows.length : Int) ≤ most ∧ rows.length ≤ 100 ∧ (∀ r ∈ rows, (r.length : Int) = wide) ∧ Pc (.bl true) M
theorem len_are_tuples (ds : List D) (M : Mem) (Pc : D → Mem → Prop) (h : spc_are_tuples K ds M Pc) : ds.length = 3 := by
  obtain ⟨_, _, _, rfl, _⟩ := h
  rfl
abbrev nm_are_tuples : List Str := ["thing", "most", "wide", "row"]
theorem sc_are_tuples : FnScope nm_are_tuples ["thing", "most", "wide"] (defScope s_are_tuples) := ⟨rfl, rfl, rfl, by decide +kernel, rfl, by decide +kernel, by decide +kernel⟩
theorem ok_are_tuples (TX : Txt K mg base) : Kept P w K mg base 1 (He.fAd K ("are_tuples", none)) ["thing", "most", "wide"] (spc_are_tuples K) := by
  refine okD (fn_are_tuples TX) sc_are_tuples (fun _ _ _ _ _ _ us hl => match us, hl with | [_, _, _], _ => rfl) len_are_tuples fun cdv A outer s H E hr ds M Pc h => ?_
  obtain ⟨rows, most, wide, rfl, h1, h2, h3, k⟩ := h
  refine ⟨_, (pss_cons (ps_if (PW.pt (pw_or (pt_not (pt_val (pe_callB call_isi rfl (n_isinstance TX) (by decide +kernel) (pa_cons (pv 0) (pa_cons (pe_bltn (v := .ty "list") rfl (n_list TX) (by decide +kernel) rfl) pa_nil))))) (pw_or1 (pt_cmpR op_gt (pe_callB call_len rfl (n_len TX) PySem.boot_len (pa_cons (pv 0) pa_nil)) (pv 1) (nomark _))))) (pss_one (ps_ret pe_bl)) pss_nil)
    (pss_one (ps_ret (pe_callB (cr_all rfl) rfl (n_all TX) (by decide +kernel) (pa_cons (pe_lc (own := [("row", 3)]) (g := gName 3) rfl sc_are_tuples.nd (pi_list (pv 0)) (blkOk_by (N := nm_are_tuples) (sc := defScope s_are_tuples) (by decide +kernel)) (fun _ _ _ _ _ => pg_name (i := 3) sc_are_tuples.nd rfl (Or.inl rfl)) (fun _ _ _ _ _ => pts_nil) (fun _ _ _ _ _ => (pe_and (pe_callB (kc_isi (K := K)) rfl (n_isinstance TX) (by decide +kernel) (pa_cons (pv 3) (pa_cons (pe_bltn (v := .ty "tuple") rfl (n_tuple TX) (by decide +kernel) rfl) pa_nil))) (pe_one (pe_cmpR op_eq (pe_callB (kc_len (K := K)) rfl (n_len TX) PySem.boot_len (pa_cons (pv 3) pa_nil)) (pv 2) (nomark _)))))) pa_nil))))), ?_⟩
  walk_at "kp0"
  walk_at "kp"
  have e1 : decide (most < ((rows.map D.tup).length : Int)) = false := decide_eq_false (by rw [List.length_map]; omega)
  rw [e1]
  walk_at "kp"
  refine re_lcM D.tup rows (fun _ => .bl true) (by omega) ?_ ?_ ?_
  · walk_at "kp"
    exact ⟨.inl rfl, rfl⟩
  · intro r hr
    refine rgc_name (by simp) ?_
    walk_at "kp"
    rw [decide_eq_true (h3 r hr)]
    exact ⟨rfl, rfl⟩
  · walk_at "kp"
    refine rc_all (bs := rows.map fun _ => true) (.inl (by rw [List.map_map]; rfl)) ?_
    have e2 : (rows.map fun _ => true).all id = true := List.all_eq_true.mpr fun b hb => by
      obtain ⟨_, _, rfl⟩ := List.mem_map.mp hb
      rfl
    rw [e2]
    exact k
structure HeadsOk (hs : List (Str × Str)) : Prop where
  ne : hs ≠ []
  le : hs.length ≤ 8
  ok : ∀ pre x post, hs = pre ++ x :: post → NameOk x.1 ∧ x.1 ∉ pre.map (·.1) ∧ (x.2 = ("" : Str) ∨ x.2 ∈ pre.map (·.1))
theorem tups (hs : List (Str × Str)) : hs.map encHd = (hs.map fun h => [D.str h.1, D.str h.2]).map D.tup := by rw [List.map_map]; rfl
theorem tupsL (hs : List (Str × Int × Int × Int)) : hs.map encLm = (hs.map fun h => [D.str h.1, D.int h.2.1, D.int h.2.2.1, D.int h.2.2.2]).map D.tup := by rw [List.map_map]; rfl
def spc_are_heads (K : PySem.W.Frag) : Spc := fun ds M Pc => ∃ (hs : List (Str × Str)), ds = [.lst (hs.map encHd)] ∧ HeadsOk hs ∧ Pc (.bl true) M
theorem len_are_heads (ds : List D) (M : Mem) (Pc : D → Mem → Prop) (h : spc_are_heads K ds M Pc) : ds.length = 1 := by
  obtain ⟨_, rfl, _⟩ := h
  rfl
abbrev nm_are_heads : List Str := ["heads", "seen", "name", "above"]
theorem sc_are_heads : FnScope nm_are_heads ["heads"] (defScope s_are_heads) := ⟨rfl, rfl, rfl, by decide +kernel, rfl, by decide +kernel, by decide +kernel⟩
theorem ok_are_heads (TX : Txt K mg base) : Kept P w K mg base 2 (He.fAd K ("are_heads", none)) ["heads"] (spc_are_heads K) := by
  obtain ⟨fd_are_tuples, G_are_tuples, kp_are_tuples, b_are_tuples⟩ := ok_are_tuples (P := P) (w := w) TX
  obtain ⟨fd_is_name, G_is_name, kp_is_name, b_is_name⟩ := ok_is_name (P := P) (w := w) TX
  refine okD (fn_are_heads TX) sc_are_heads (fun _ _ _ _ _ _ us hl => match us, hl with | [_], _ => rfl) len_are_heads fun cdv A outer s H E hr ds M Pc h => ?_
  obtain ⟨hs, rfl, y, k⟩ := h
  refine ⟨_, (pss_cons (ps_if (PW.pt (pw_or (pt_not (pt_val (pe_call G_are_tuples (hr.mono (by decide)) rfl (g_are_tuples TX) kp_are_tuples b_are_tuples .nil pass0 (pa_cons (pv 0) (pa_cons (pe_glob (v := .int 8) rfl (Classical.choose_spec (k_MOST_HEADS TX)) ⟨_, rfl⟩) (pa_cons pe_int pa_nil)))))) (pw_or1 (pt_cmpR (op_eqE hr.units) (pv 0) (pe_lst pa_nil) (nomark _))))) (pss_one (ps_ret pe_bl)) pss_nil)
    (pss_cons (ps_set (i := 1) sc_are_heads.nd rfl (Or.inl rfl) (pe_lst pa_nil))
    (pss_cons (ps_for PassesOwn.never rfl (pi_list (pv 0)) (pg_tup rfl (pgs_cons (pg_name (i := 2) sc_are_heads.nd rfl (Or.inl rfl)) (pgs_cons (pg_name (i := 3) sc_are_heads.nd rfl (Or.inl rfl)) pgs_nil)))
    (pss_cons (ps_if (PW.pt (pw_or (pt_not (pt_val (pe_call G_is_name (hr.mono (by decide)) rfl (g_is_name TX) kp_is_name b_is_name .nil pass0 (pa_cons (pv 2) pa_nil)))) (pw_or (pt_cmpR op_in_seq (pv 2) (pv 1) rfl) (pw_or1 (PW.pt (pw_and (pt_cmpR op_ne (pv 3) pe_str (nomark _)) (pw_and1 (pt_cmpR op_notIn_seq (pv 3) (pv 1) rfl)))))))) (pss_one (ps_ret pe_bl)) pss_nil)
    (pss_one (ps_expr (pe_bm PySem.F.plainAttrs_list PySem.F.slot_list_append PySem.F.type_list_append mt_append (pv 1) (pa_cons (pv 2) pa_nil))))))
    (pss_one (ps_ret pe_bl))))), ?_⟩
  walk_at "kp0"
  walk_at "kp"
  rw [tups]
  refine ⟨_, _, _, rfl, by rw [List.length_map]; have := y.le; omega, by rw [List.length_map]; have := y.le; omega, fun r hr => ?_, ?_⟩
  · obtain ⟨_, _, rfl⟩ := List.mem_map.mp hr
    rfl
  rw [← tups]
  walk_at "kp"
  refine re_lst (ra_nil ⟨by decide, ?_⟩)
  refine rr_eqE lstD1 lstD1 ?_
  have e1 : (hs.map encHd).isEmpty = false := by
    have := y.ne
    cases hs with
    | nil => exact absurd rfl this
    | cons _ _ => rfl
  rw [e1]
  walk_at "kp"
  refine re_lstM (ra_nil ⟨by decide, fun p hp => ?_⟩)
  walk_at "kp"
  refine rs_for encHd hs (fun pre δ' M' => M' = mset M p (.lst ((pre.map (·.1)).map D.str)) ∧ (∃ o h, δ' = [some (.lst (hs.map encHd)), some (.ref p), o, h])) ?_ ?_ ?_
  · exact re_var rfl ⟨.inl rfl, rfl, _, _, rfl⟩
  · rintro pre x post δ' M' e ⟨rfl, o, h, rfl⟩
    obtain ⟨y1, y2, y3⟩ := y.ok _ _ _ e
    refine rg_tup tupD1 rfl ?_
    walk_at "kp"
    refine rr_in (.inl (lstD3 mset_same)) ?_
    rw [decide_eq_false y2]
    walk_at "kp"
    have hl : (pre.map (·.1)).length ≤ 8 := by
      have := y.le
      rw [e, List.length_append] at this
      rw [List.length_map]
      omega
    have fin : ∀ Pd : D → Mem → Prop, Pd .non (mset M p (.lst (((pre ++ [x]).map (·.1)).map D.str))) → RE K (tBM K "list" rAppend (tVar 1) (tCons (tVar 2) tNil)) [some (.lst (hs.map encHd)), some (.ref p), some (.str x.1), some (.str x.2)] (mset M p (.lst ((pre.map (·.1)).map D.str))) Pd := by
      intro Pd k2
      refine re_append ?_
      walk_at "kp"
      refine ⟨⟨_, mset_same⟩, ?_⟩
      walk_at "kp"
      refine ⟨_, mset_same, by rw [List.length_map]; omega, ?_⟩
      rw [mset_mset]
      rw [List.map_append, List.map_append] at k2
      exact k2
    refine ⟨fun h1 => ?_, fun h1 => ?_⟩
    · walk_at "kp"
      refine rr_in (.inl (lstD3 mset_same)) ?_
      have h2 : x.2 ∈ pre.map (·.1) := y3.resolve_left (by simpa using h1)
      rw [decide_eq_true h2]
      walk_at "kp"
      exact fin _ ⟨rfl, _, _, rfl⟩
    · walk_at "kp"
      exact fin _ ⟨rfl, _, _, rfl⟩
  · rintro δ' M' ⟨rfl, o, h, rfl⟩
    refine rs_less ⟨M, mset_less hp, rs_ret (re_bl ?_)⟩
    exact k
abbrev Lim := Str × Int × Int × Int
def LimOk (days : Int) (names : List Str) (l : Lim) : Prop := l.1 ∈ names ∧ (1 ≤ l.2.1 ∧ l.2.1 ≤ days) ∧ (l.2.1 ≤ l.2.2.1 ∧ l.2.2.1 ≤ days) ∧ (0 ≤ l.2.2.2 ∧ l.2.2.2 ≤ 1000000000000000)
def spc_are_limits (K : PySem.W.Frag) : Spc := fun ds M Pc => ∃ (ls : List Lim) (names : List Str) (days : Int), ds = [.lst (ls.map encLm), .lst (names.map D.str), .int days] ∧ ls.length ≤ 6 ∧ (∀ l ∈ ls, LimOk days names l) ∧ Pc (.bl true) M
theorem len_are_limits (ds : List D) (M : Mem) (Pc : D → Mem → Prop) (h : spc_are_limits K ds M Pc) : ds.length = 3 := by
  obtain ⟨_, _, _, rfl, _⟩ := h
  rfl
abbrev nm_are_limits : List Str := ["limits", "names", "days", "head", "first", "last", "most"]
theorem sc_are_limits : FnScope nm_are_limits ["limits", "names", "days"] (defScope s_are_limits) := ⟨rfl, rfl, rfl, by decide +kernel, rfl, by decide +kernel, by decide +kernel⟩
theorem ok_are_limits (TX : Txt K mg base) : Kept P w K mg base 3 (He.fAd K ("are_limits", none)) ["limits", "names", "days"] (spc_are_limits K) := by
  obtain ⟨fd_are_tuples, G_are_tuples, kp_are_tuples, b_are_tuples⟩ := ok_are_tuples (P := P) (w := w) TX
  obtain ⟨fd_within, G_within, kp_within, b_within⟩ := ok_within (P := P) (w := w) TX
  refine okD (fn_are_limits TX) sc_are_limits (fun _ _ _ _ _ _ us hl => match us, hl with | [_, _, _], _ => rfl) len_are_limits fun cdv A outer s H E hr ds M Pc h => ?_
  obtain ⟨ls, names, days, rfl, hl, y, k⟩ := h
  refine ⟨_, (pss_cons (ps_if (pt_not (pt_val (pe_call G_are_tuples (hr.mono (by decide)) rfl (g_are_tuples TX) kp_are_tuples b_are_tuples .nil pass0 (pa_cons (pv 0) (pa_cons (pe_glob (v := .int 6) rfl (Classical.choose_spec (k_MOST_LIMITS TX)) ⟨_, rfl⟩) (pa_cons pe_int pa_nil)))))) (pss_one (ps_ret pe_bl)) pss_nil)
    (pss_cons (ps_for PassesOwn.never rfl (pi_list (pv 0)) (pg_tup rfl (pgs_cons (pg_name (i := 3) sc_are_limits.nd rfl (Or.inl rfl)) (pgs_cons (pg_name (i := 4) sc_are_limits.nd rfl (Or.inl rfl)) (pgs_cons (pg_name (i := 5) sc_are_limits.nd rfl (Or.inl rfl)) (pgs_cons (pg_name (i := 6) sc_are_limits.nd rfl (Or.inl rfl)) pgs_nil)))))
    (pss_cons (ps_if (PW.pt (pw_or (pt_cmpR op_notIn_seq (pv 3) (pv 1) rfl) (pw_or (pt_not (pt_val (pe_call G_within (hr.mono (by decide)) rfl (g_within TX) kp_within b_within .nil pass0 (pa_cons (pv 4) (pa_cons pe_int (pa_cons (pv 2) pa_nil)))))) (pw_or1 (pt_not (pt_val (pe_call G_within (hr.mono (by decide)) rfl (g_within TX) kp_within b_within .nil pass0 (pa_cons (pv 5) (pa_cons (pv 4) (pa_cons (pv 2) pa_nil)))))))))) (pss_one (ps_ret pe_bl)) pss_nil)
    (pss_one (ps_if (pt_not (pt_val (pe_call G_within (hr.mono (by decide)) rfl (g_within TX) kp_within b_within .nil pass0 (pa_cons (pv 6) (pa_cons pe_int (pa_cons (pe_glob (v := .int 1000000000000000) rfl (Classical.choose_spec (k_GREATEST TX)) ⟨_, rfl⟩) pa_nil)))))) (pss_one (ps_ret pe_bl)) pss_nil))))
    (pss_one (ps_ret pe_bl)))), ?_⟩
  walk_at "kp0"
  walk_at "kp"
  rw [tupsL]
  refine ⟨_, _, _, rfl, by rw [List.length_map]; omega, by rw [List.length_map]; omega, fun r hr => ?_, ?_⟩
  · obtain ⟨_, _, rfl⟩ := List.mem_map.mp hr
    rfl
  rw [← tupsL]
  walk_at "kp"
  refine rs_for encLm ls (fun pre δ' M' => M' = M ∧ (∃ a b c d, δ' = [some (.lst (ls.map encLm)), some (.lst (names.map D.str)), some (.int days), a, b, c, d])) ?_ ?_ ?_
  · exact re_var rfl ⟨.inl rfl, rfl, _, _, _, _, rfl⟩
  · rintro pre x post δ' M' e ⟨rfl, a, b, c, d, rfl⟩
    obtain ⟨y1, y2, y3, y4⟩ := y x (by rw [e]; simp)
    refine rg_tup tupD1 rfl ?_
    walk_at "kp"
    refine rr_in (.inl lstD1) ?_
    rw [decide_eq_true y1]
    walk_at "kp"
    rw [decide_eq_true y2]
    walk_at "kp"
    rw [decide_eq_true y3]
    walk_at "kp"
    rw [decide_eq_true y4]
    walk_at "kp"
    exact ⟨_, _, _, _, rfl⟩
  · rintro δ' M' ⟨rfl, a, b, c, d, rfl⟩
    exact rs_ret (re_bl k)
def tbStep (tb : Int × Int) (r : Lim) : Int × Int := (tb.1 * r.2.2.1 + r.2.1 * tb.2, tb.2 * r.2.2.1)
def tbOf (rs : List Lim) (h : Str) : Int × Int := (rs.filter fun r => decide (r.1 = h)).foldl tbStep (0, 1)
def encTB (tb : Int × Int) : D := .tup [.int tb.1, .int tb.2]
theorem tbOf_snoc (rs : List Lim) (r : Lim) (h : Str) : tbOf (rs ++ [r]) h = if r.1 = h then tbStep (tbOf rs h) r else tbOf rs h := by
  unfold tbOf
  rw [List.filter_append, List.filter_cons]
  by_cases e : r.1 = h
  · rw [if_pos (by simpa using e), if_pos e, List.foldl_append]
    rfl
  · rw [if_neg (by simpa using e), if_neg e, List.filter_nil, List.append_nil]
structure FracD (rs : List Lim) (kd : List (Key × D)) : Prop where
  get : ∀ h, getD kd (.inr h) = if h ∈ rs.map (·.1) then some (encTB (tbOf rs h)) else none
  mem : ∀ q ∈ kd, ∃ h, q = (.inr h, encTB (tbOf rs h))
  len : kd.length ≤ rs.length
theorem mem_setD {kd : List (Key × D)} {k : Key} {d : D} {q : Key × D} (h : q ∈ setD kd k d) : q = (k, d) ∨ (q ∈ kd ∧ q.1 ≠ k) := by
  unfold setD at h
  split at h
  · obtain ⟨q0, h0, rfl⟩ := List.mem_map.mp h
    by_cases e : q0.1 = k
    · rw [if_pos e, e]
      exact .inl rfl
    · rw [if_neg e]
      exact .inr ⟨h0, e⟩
  · rename_i hn
    rcases List.mem_append.mp h with h | h
    · refine .inr ⟨h, fun e => hn (List.any_eq_true.mpr ⟨q, h, decide_eq_true e⟩)⟩
    · exact .inl (List.mem_singleton.mp h)
theorem FracD.nil : FracD [] [] := ⟨fun _ => rfl, fun q h => (by cases h), Nat.le_refl 0⟩
theorem tbOf_none {rs : List Lim} {h : Str} (n : h ∉ rs.map (·.1)) : tbOf rs h = (0, 1) := by
  unfold tbOf
  rw [List.filter_eq_nil_iff.mpr fun r hr => by
    intro e
    exact n (List.mem_map.mpr ⟨r, hr, by simpa using e⟩)]
  rfl
theorem FracD.orZ {rs : List Lim} {kd : List (Key × D)} (f : FracD rs kd) (h : Str) : (getD kd (.inr h)).getD (.tup [.int 0, .int 1]) = encTB (tbOf rs h) := by
  rw [f.get]
  by_cases e : h ∈ rs.map (·.1)
  · rw [if_pos e]
    rfl
  · rw [if_neg e, tbOf_none e]
    rfl
theorem FracD.snoc {rs : List Lim} {kd : List (Key × D)} (f : FracD rs kd) (r : Lim) : FracD (rs ++ [r]) (setD kd (.inr r.1) (encTB (tbStep (tbOf rs r.1) r))) := by
  refine ⟨fun h => ?_, fun q hq => ?_, ?_⟩
  · rw [getD_set, f.get, tbOf_snoc, List.map_append]
    by_cases e : h = r.1
    · subst e
      rw [if_pos rfl, if_pos (by simp), if_pos rfl]
    · have e1 : ¬ (Sum.inr h : Key) = .inr r.1 := fun z => e (Sum.inr.inj z)
      have e2 : ¬ r.1 = h := fun z => e z.symm
      have e3 : (h ∈ rs.map (·.1) ++ [r].map (·.1)) ↔ h ∈ rs.map (·.1) := by simp [e]
      rw [if_neg e1, if_neg e2]
      simp only [e3]
  · rcases mem_setD hq with rfl | ⟨hq, hk⟩
    · exact ⟨r.1, by rw [tbOf_snoc, if_pos rfl]⟩
    · obtain ⟨h, rfl⟩ := f.mem q hq
      exact ⟨h, by rw [tbOf_snoc, if_neg (fun z => hk (by rw [z]))]⟩
  · have := setD_length kd (.inr r.1) (encTB (tbStep (tbOf rs r.1) r))
    have := f.len
    rw [List.length_append, List.length_singleton]
    omega
def RulOk (days : Int) (names : List Str) (r : Lim) : Prop := r.1 ∈ names ∧ (1 ≤ r.2.2.1 ∧ r.2.2.1 ≤ 1000) ∧ (0 ≤ r.2.1 ∧ r.2.1 ≤ r.2.2.1) ∧ (2 ≤ r.2.2.2 ∧ r.2.2.2 ≤ days + 1)
def spc_are_rules (K : PySem.W.Frag) : Spc := fun ds M Pc => ∃ (ls : List Lim) (names : List Str) (days : Int), ds = [.lst (ls.map encLm), .lst (names.map D.str), .int days] ∧ ls.length ≤ 4 ∧ (∀ l ∈ ls, RulOk days names l) ∧ (∀ h, (tbOf ls h).1 ≤ (tbOf ls h).2) ∧ Pc (.bl true) M
theorem len_are_rules (ds : List D) (M : Mem) (Pc : D → Mem → Prop) (h : spc_are_rules K ds M Pc) : ds.length = 3 := by
  obtain ⟨_, _, _, rfl, _⟩ := h
  rfl
abbrev nm_are_rules : List Str := ["rules", "names", "days", "sums", "head", "part", "whole", "until", "top", "bottom"]
theorem sc_are_rules : FnScope nm_are_rules ["rules", "names", "days"] (defScope s_are_rules) := ⟨rfl, rfl, rfl, by decide +kernel, rfl, by decide +kernel, by decide +kernel⟩
theorem ok_are_rules (TX : Txt K mg base) : Kept P w K mg base 3 (He.fAd K ("are_rules", none)) ["rules", "names", "days"] (spc_are_rules K) := by
  obtain ⟨fd_are_tuples, G_are_tuples, kp_are_tuples, b_are_tuples⟩ := ok_are_tuples (P := P) (w := w) TX
  obtain ⟨fd_within, G_within, kp_within, b_within⟩ := ok_within (P := P) (w := w) TX
  refine okD (fn_are_rules TX) sc_are_rules (fun _ _ _ _ _ _ us hl => match us, hl with | [_, _, _], _ => rfl) len_are_rules fun cdv A outer s H E hr ds M Pc h => ?_
  obtain ⟨ls, names, days, rfl, hl, y, yt, k⟩ := h
  refine ⟨_, (pss_cons (ps_if (pt_not (pt_val (pe_call G_are_tuples (hr.mono (by decide)) rfl (g_are_tuples TX) kp_are_tuples b_are_tuples .nil pass0 (pa_cons (pv 0) (pa_cons (pe_glob (v := .int 4) rfl (Classical.choose_spec (k_MOST_RULES TX)) ⟨_, rfl⟩) (pa_cons pe_int pa_nil)))))) (pss_one (ps_ret pe_bl)) pss_nil)
    (pss_cons (ps_set (i := 3) sc_are_rules.nd rfl (Or.inl rfl) pe_dnewK)
    (pss_cons (ps_for PassesOwn.never rfl (pi_list (pv 0)) (pg_tup rfl (pgs_cons (pg_name (i := 4) sc_are_rules.nd rfl (Or.inl rfl)) (pgs_cons (pg_name (i := 5) sc_are_rules.nd rfl (Or.inl rfl)) (pgs_cons (pg_name (i := 6) sc_are_rules.nd rfl (Or.inl rfl)) (pgs_cons (pg_name (i := 7) sc_are_rules.nd rfl (Or.inl rfl)) pgs_nil)))))
    (pss_cons (ps_if (PW.pt (pw_or (pt_cmpR op_notIn_seq (pv 4) (pv 1) rfl) (pw_or (pt_not (pt_val (pe_call G_within (hr.mono (by decide)) rfl (g_within TX) kp_within b_within .nil pass0 (pa_cons (pv 6) (pa_cons pe_int (pa_cons (pe_glob (v := .int 1000) rfl (Classical.choose_spec (k_MOST_WHOLE TX)) ⟨_, rfl⟩) pa_nil)))))) (pw_or1 (pt_not (pt_val (pe_call G_within (hr.mono (by decide)) rfl (g_within TX) kp_within b_within .nil pass0 (pa_cons (pv 5) (pa_cons pe_int (pa_cons (pv 6) pa_nil)))))))))) (pss_one (ps_ret pe_bl)) pss_nil)
    (pss_cons (ps_if (pt_not (pt_val (pe_call G_within (hr.mono (by decide)) rfl (g_within TX) kp_within b_within .nil pass0 (pa_cons (pv 7) (pa_cons pe_int (pa_cons (pe_op op_add (pv 2) pe_int) pa_nil)))))) (pss_one (ps_ret pe_bl)) pss_nil)
    (pss_cons (ps_asg (pe_dget2 (hu_of hr) (pv 3) (pv 4) (pe_tup (pa_cons pe_int (pa_cons pe_int pa_nil))) ⟨by rfl, by rfl, by rfl, by rfl⟩) (pg_tup rfl (pgs_cons (pg_name (i := 8) sc_are_rules.nd rfl (Or.inl rfl)) (pgs_cons (pg_name (i := 9) sc_are_rules.nd rfl (Or.inl rfl)) pgs_nil))))
    (pss_one (ps_dput (hu_of hr) (pv 3) (pv 4) (pe_tup (pa_cons (pe_op op_add (pe_op op_mul (pv 8) (pv 6)) (pe_op op_mul (pv 5) (pv 9))) (pa_cons (pe_op op_mul (pv 9) (pv 6)) pa_nil))) rfl))))))
    (pss_one (ps_ret (pe_lock (pe_callB (cr_all rfl) rfl (n_all TX) (by decide +kernel) (pa_cons (pe_lc (own := [("top", 8), ("bottom", 9)]) (g := gTup K 2 (gCons (gName 8) (gCons (gName 9) gNil))) rfl sc_are_rules.nd (pi_values (pv 3)) (blkOk_by (N := nm_are_rules) (sc := defScope s_are_rules) (by decide +kernel)) (fun _ _ _ _ _ => pg_tup rfl (pgs_cons (pg_name (i := 8) sc_are_rules.nd rfl (Or.inl rfl)) (pgs_cons (pg_name (i := 9) sc_are_rules.nd rfl (Or.inl rfl)) pgs_nil))) (fun _ _ _ _ _ => pts_nil) (fun _ _ _ _ _ => (pe_cmpR op_le (pv 8) (pv 9) (nomark _)))) pa_nil)))))))), ?_⟩
  walk_at "kp0"
  walk_at "kp"
  rw [tupsL]
  refine ⟨_, _, _, rfl, by rw [List.length_map]; omega, by rw [List.length_map]; omega, fun r hr => ?_, ?_⟩
  · obtain ⟨_, _, rfl⟩ := List.mem_map.mp hr
    rfl
  rw [← tupsL]
  walk_at "kp"
  refine re_dnew fun p hp => ?_
  walk_at "kp"
  refine rs_for encLm ls (fun pre δ' M' => (∃ kd, M' = mset M p (.dic kd) ∧ FracD pre kd) ∧ (∃ a b c d e f, δ' = [some (.lst (ls.map encLm)), some (.lst (names.map D.str)), some (.int days), some (.ref p), a, b, c, d, e, f])) ?_ ?_ ?_
  · exact re_var rfl ⟨.inl rfl, ⟨_, rfl, .nil⟩, _, _, _, _, _, _, rfl⟩
  · rintro pre x post δ' M' e ⟨⟨kd, rfl, fr⟩, a, b, c, d, e', f, rfl⟩
    obtain ⟨y1, y2, y3, y4⟩ := y x (by rw [e]; simp)
    refine rg_tup tupD1 rfl ?_
    walk_at "kp"
    refine rr_in (.inl lstD1) ?_
    rw [decide_eq_true y1]
    walk_at "kp"
    rw [decide_eq_true y2]
    walk_at "kp"
    rw [decide_eq_true y3]
    walk_at "kp"
    rw [decide_eq_true y4]
    walk_at "kp"
    refine re_dget2 ?_
    walk_at "kp"
    refine ⟨⟨_, mset_same⟩, ?_⟩
    walk_at "kp"
    refine ⟨_, Sum.inr x.1, mset_same, rfl, ?_⟩
    rw [fr.orZ]
    refine rg_tup tupD1 rfl ?_
    walk_at "kp"
    refine rs_dput ?_
    walk_at "kp"
    have ln := fr.len
    refine ⟨_, _, Sum.inr x.1, rfl, mset_same, rfl, by
      have : pre.length ≤ ls.length := by rw [e]; simp
      omega, ?_⟩
    rw [mset_mset]
    exact ⟨⟨_, rfl, fr.snoc x⟩, _, _, _, _, _, _, rfl⟩
  · rintro δ' M' ⟨⟨kd, rfl, fr⟩, a, b, c, d, e, f, rfl⟩
    have ln := fr.len
    refine rs_ret ?_
    refine re_less ?_
    refine re_lockV (fun _ => .bl true) (a := p) (kd := kd) rfl mset_same (by omega) ?_ ?_
    · intro x hx
      obtain ⟨q, hq, rfl⟩ := List.mem_map.mp hx
      obtain ⟨h, rfl⟩ := fr.mem q hq
      refine rgc_pair (by simp) (by simp) tupD1 ?_
      refine ⟨rfl, ?_⟩
      walk_at "kp"
      rw [decide_eq_true (yt h)]
      exact ⟨rfl, rfl⟩
    · refine rc_all (bs := kd.map fun _ => true) (.inl (by rw [List.map_map]; rfl)) ?_
      have e2 : (kd.map fun _ => true).all id = true := List.all_eq_true.mpr fun b hb => by
        obtain ⟨_, _, rfl⟩ := List.mem_map.mp hb
        rfl
      rw [e2]
      exact ⟨rfl, M, mset_less hp, k⟩


end
end Kp

set_option maxHeartbeats 4000000
namespace Kp
open PySem PySem.Spec PyProof.Rows L2
local macro_rules | `(tactic| walk_at "kp0") => `(tactic| try dsimp only [cxOf, Cx.nox, Cx.wish])
local macro_rules | `(tactic| walk_at "kp1") => `(tactic| first
  | with_reducible refine rs_seq ?_
  | with_reducible refine re_var rfl ?_
  | with_reducible refine re_int ?_
  | with_reducible refine re_str ?_
  | with_reducible refine re_op ?_
  | with_reducible refine re_cb ?_
  | with_reducible refine ra_cons ?_
  | ((with_reducible refine ra_nil ?_); first
      | refine Exists.intro _ ⟨rfl, ?_⟩
      | refine ⟨_, _, rfl, ?_⟩
      | refine ⟨_, _, _, rfl, ?_⟩
      | refine ⟨_, _, _, _, rfl, ?_⟩
      | refine ⟨_, _, _, _, _, rfl, ?_⟩
      | refine ⟨_, _, _, _, _, _, rfl, ?_⟩
      | refine And.intro rfl ?_)
  | with_reducible refine ra_nil ?_
  | with_reducible refine rs_ret ?_
  | with_reducible refine rs_asg ?_
  | with_reducible refine rg_name ?_
  | with_reducible refine rs_if ?_
  | with_reducible refine rt_test ?_
  | with_reducible refine rt_B ?_
  | with_reducible refine re_call ?_
  | with_reducible refine rr_int0 ?_
  | with_reducible refine rr_bl0 ?_
  | with_reducible refine rr_I0 rfl ?_
  | with_reducible refine re_bl ?_
  | with_reducible refine re_non ?_
  | with_reducible refine re_ty ?_
  | with_reducible refine re_ref ?_
  | with_reducible refine rs_drop ?_
  | with_reducible refine re_chain ?_
  | with_reducible refine re_andV ?_
  | with_reducible refine re_orV ?_
  | with_reducible refine re_notV ?_
  | with_reducible refine rt_not ?_
  | with_reducible refine rt_and ?_
  | with_reducible refine rt_or ?_
  | with_reducible refine rs_next ?_
  | with_reducible refine rs_cont ?_
  | with_reducible refine rs_break ?_
  | with_reducible refine rs_retN ?_
  | with_reducible refine rr_eq rfl ?_
  | with_reducible refine rr_ne rfl ?_
  | with_reducible refine rr_mulR (by omega) ?_
  | with_reducible refine rr_mulL (by omega) ?_
  | with_reducible refine rr_mod (by omega) ?_
  | with_reducible refine rr_fdiv (by omega) ?_
  | with_reducible refine ro_none ?_
  | with_reducible refine ro_some ?_
  | with_reducible refine re_tup ?_
  | with_reducible refine rg_tup tupD1 rfl ?_
  | with_reducible refine rgs_cons ?_
  | with_reducible refine rgs_nil ?_
  | with_reducible refine rr_ixT0 ?_
  | with_reducible refine rr_ixT1 ?_
  | with_reducible refine rr_ixT2 ?_
  | with_reducible refine rr_ixT3 ?_
  | with_reducible refine rr_ixT4 ?_
  | with_reducible refine rr_ixT5 ?_
  | with_reducible refine rr_isN ?_
  | with_reducible refine rr_notN ?_
  | with_reducible refine rcI1 ?_
  | with_reducible refine rcI2 ?_
  | with_reducible refine rcI3 ?_
  | with_reducible refine rcI4 ?_
  | with_reducible refine rcI5 ?_
  | with_reducible refine rc_listL ?_
  | with_reducible refine rc_lenL ?_
  | with_reducible refine rc_lenT ?_
  | with_reducible refine rc_min2 ?_
  | with_reducible refine rc_intB ?_
  | with_reducible refine re_strip ?_
  | with_reducible refine re_lst (tA := tCons _ _) ?_
  | with_reducible refine re_fld ?_
  | with_reducible refine rs_fld ?_
  | with_reducible refine re_meth ?_
  | with_reducible exact rfl
  | with_reducible refine andT ?_
  | with_reducible refine andF ?_
  | refine Exists.intro _ ⟨rfl, ?_⟩
  | refine andT ?_
  | refine andF ?_
  | assumption
  | refine And.intro rfl ?_
  | refine And.intro (by assumption) ?_
  | with_reducible refine And.intro (Nat.le_of_ble_eq_true rfl) ?_
  | with_reducible refine And.intro (by omega) ?_)
local macro_rules | `(tactic| walk_at "kp") => `(tactic| repeat (walk_at "kp1"))
section
variable {P : Program} {w : World} {K : PySem.W.Frag} {mg : Str → Option Value} {base : Heap}
structure YGood (Y : Yr) : Prop where
  d1 : 1 ≤ Y.days
  d2 : Y.days ≤ 30
  hd : HeadsOk Y.heads
  ll : Y.limits.length ≤ 6
  lm : ∀ l ∈ Y.limits, LimOk Y.days Y.names l
  lr : Y.rules.length ≤ 4
  rl : ∀ l ∈ Y.rules, RulOk Y.days Y.names l
  tb : ∀ h, (tbOf Y.rules h).1 ≤ (tbOf Y.rules h).2
def spc_Year_init (K : PySem.W.Frag) : Spc := fun ds M Pc => ∃ (p : Addr) (Y : Yr), ds = [.ref p, .int Y.days, .lst (Y.heads.map encHd), .lst (Y.limits.map encLm), .lst (Y.rules.map encLm)] ∧ M p = some (.ins (He.ga K "Year") []) ∧ YGood Y ∧ Pc .non (mset M p (.ins (He.ga K "Year") (fsYear (.int Y.days) (.lst (Y.heads.map encHd)) (.lst (Y.limits.map encLm)) (.lst (Y.rules.map encLm)))))
theorem len_Year_init (ds : List D) (M : Mem) (Pc : D → Mem → Prop) (h : spc_Year_init K ds M Pc) : ds.length = 5 := by
  obtain ⟨_, _, rfl, _⟩ := h
  rfl
abbrev nm_Year_init : List Str := ["self", "days", "heads", "limits", "rules", "names", "name", "above"]
theorem sc_Year_init : FnScope nm_Year_init ["self", "days", "heads", "limits", "rules"] (defScope s_Year_init) := ⟨rfl, rfl, rfl, by decide +kernel, rfl, by decide +kernel, by decide +kernel⟩
theorem ok_Year_init (TX : Txt K mg base) : Kept P w K mg base 4 (He.fAd K ("Year", some "__init__")) ["self", "days", "heads", "limits", "rules"] (spc_Year_init K) := by
  obtain ⟨fd_within, G_within, kp_within, b_within⟩ := ok_within (P := P) (w := w) TX
  obtain ⟨fd_are_heads, G_are_heads, kp_are_heads, b_are_heads⟩ := ok_are_heads (P := P) (w := w) TX
  obtain ⟨fd_are_limits, G_are_limits, kp_are_limits, b_are_limits⟩ := ok_are_limits (P := P) (w := w) TX
  obtain ⟨fd_are_rules, G_are_rules, kp_are_rules, b_are_rules⟩ := ok_are_rules (P := P) (w := w) TX
  refine okD (fn_Year_init TX) sc_Year_init (fun _ _ _ _ _ _ us hl => match us, hl with | [_, _, _, _, _], _ => rfl) len_Year_init fun cdv A outer s H E hr ds M Pc h => ?_
  obtain ⟨p, Y, rfl, hp, y, k⟩ := h
  refine ⟨_, (pss_cons (ps_if (PW.pt (pw_or (pt_not (pt_val (pe_call G_within (hr.mono (by decide)) rfl (g_within TX) kp_within b_within .nil pass0 (pa_cons (pv 1) (pa_cons pe_int (pa_cons (pe_glob (v := .int 30) rfl (Classical.choose_spec (k_MOST_DAYS TX)) ⟨_, rfl⟩) pa_nil)))))) (pw_or1 (pt_not (pt_val (pe_call G_are_heads (hr.mono (by decide)) rfl (g_are_heads TX) kp_are_heads b_are_heads .nil pass0 (pa_cons (pv 2) pa_nil))))))) (pss_one ps_never) pss_nil)
    (pss_cons (ps_setLc (i := 5) (own := [("name", 6), ("above", 7)]) (g := gTup K 2 (gCons (gName 6) (gCons (gName 7) gNil))) rfl sc_Year_init.nd rfl rfl (sw_true rfl rfl rfl (by decide +kernel)) (pi_list (pv 2)) (blkOk_by (N := nm_Year_init) (sc := defScope s_Year_init) (by decide +kernel)) (fun _ _ _ _ _ => pg_tup rfl (pgs_cons (pg_name (i := 6) sc_Year_init.nd rfl (Or.inl rfl)) (pgs_cons (pg_name (i := 7) sc_Year_init.nd rfl (Or.inl rfl)) pgs_nil))) (fun _ _ _ _ _ => pts_nil) (fun _ _ _ _ _ => (pv 6)))
    (pss_cons (ps_if (PW.pt (pw_or (pt_not (pt_val (pe_call G_are_limits (hr.mono (by decide)) rfl (g_are_limits TX) kp_are_limits b_are_limits .nil pass0 (pa_cons (pv 3) (pa_cons (pv 5) (pa_cons (pv 1) pa_nil)))))) (pw_or1 (pt_not (pt_val (pe_call G_are_rules (hr.mono (by decide)) rfl (g_are_rules TX) kp_are_rules b_are_rules .nil pass0 (pa_cons (pv 4) (pa_cons (pv 5) (pa_cons (pv 1) pa_nil))))))))) (pss_one ps_never) pss_nil)
    (pss_cons (ps_fld (pv 0) (pv 1) rfl)
    (pss_cons (ps_fld (pv 0) (pe_callTy call_list_of rfl (n_list TX) (by decide +kernel) (pa_cons (pv 2) pa_nil)) rfl)
    (pss_cons (ps_fld (pv 0) (pe_callTy call_list_of rfl (n_list TX) (by decide +kernel) (pa_cons (pv 3) pa_nil)) rfl)
    (pss_one (ps_fld (pv 0) (pe_callTy call_list_of rfl (n_list TX) (by decide +kernel) (pa_cons (pv 4) pa_nil)) rfl)))))))), ?_⟩
  walk_at "kp0"
  walk_at "kp"
  rw [decide_eq_true (show 1 ≤ Y.days ∧ Y.days ≤ 30 from ⟨y.d1, y.d2⟩)]
  walk_at "kp"
  refine ⟨y.hd, ?_⟩
  walk_at "kp"
  refine re_lcM encHd Y.heads (fun h => .str h.1) (by have := y.hd.le; omega) ?_ ?_ ?_
  · walk_at "kp"
    exact ⟨.inl rfl, rfl⟩
  · intro x hx
    refine rgc_pair (by simp) (by simp) tupD1 ?_
    walk_at "kp"
  rw [show Y.heads.map (fun h => D.str h.1) = Y.names.map D.str by unfold Yr.names; rw [List.map_map]; rfl]
  walk_at "kp"
  refine ⟨y.ll, y.lm, ?_⟩
  walk_at "kp"
  refine ⟨y.lr, y.rl, y.tb, ?_⟩
  walk_at "kp"
  refine ⟨_, _, _, rfl, hp, cl_Year TX, na_Year_days TX, (by decide : 0 < 1000), ?_⟩
  walk_at "kp"
  refine ⟨_, _, _, rfl, mset_same, cl_Year TX, na_Year_heads TX, (Nat.lt_of_lt_of_le (putD_lt (by decide : 0 < 1)) (by decide : 2 ≤ 1000)), ?_⟩
  walk_at "kp"
  refine ⟨_, _, _, rfl, mset_same, cl_Year TX, na_Year_limits TX, (Nat.lt_of_lt_of_le (putD_lt (putD_lt (by decide : 0 < 1))) (by decide : 3 ≤ 1000)), ?_⟩
  walk_at "kp"
  refine ⟨_, _, _, rfl, mset_same, cl_Year TX, na_Year_rules TX, (Nat.lt_of_lt_of_le (putD_lt (putD_lt (putD_lt (by decide : 0 < 1)))) (by decide : 4 ≤ 1000)), ?_⟩
  rw [mset_mset, mset_mset, mset_mset]
  exact k


end
end Kp

set_option maxHeartbeats 4000000
namespace Kp
open PySem PySem.Spec PyProof.Rows L2
local macro_rules | `(tactic| walk_at "kp0") => `(tactic| try dsimp only [cxOf, Cx.nox, Cx.wish])
local macro_rules | `(tactic| walk_at "kp1") => `(tactic| first
  | with_reducible refine rs_seq ?_
  | with_reducible refine re_var rfl ?_
  | with_reducible refine re_int ?_
  | with_reducible refine re_str ?_
  | with_reducible refine re_op ?_
  | with_reducible refine re_cb ?_
  | with_reducible refine ra_cons ?_
  | ((with_reducible refine ra_nil ?_); first
      | refine Exists.intro _ ⟨rfl, ?_⟩
      | refine ⟨_, _, rfl, ?_⟩
      | refine ⟨_, _, _, rfl, ?_⟩
      | refine ⟨_, _, _, _, rfl, ?_⟩
      | refine ⟨_, _, _, _, _, rfl, ?_⟩
      | refine ⟨_, _, _, _, _, _, rfl, ?_⟩
      | refine And.intro rfl ?_)
  | with_reducible refine ra_nil ?_
  | with_reducible refine rs_ret ?_
  | with_reducible refine rs_asg ?_
  | with_reducible refine rg_name ?_
  | with_reducible refine rs_if ?_
  | with_reducible refine rt_test ?_
  | with_reducible refine rt_B ?_
  | with_reducible refine re_call ?_
  | with_reducible refine rr_int0 ?_
  | with_reducible refine rr_bl0 ?_
  | with_reducible refine rr_I0 rfl ?_
  | with_reducible refine re_bl ?_
  | with_reducible refine re_non ?_
  | with_reducible refine re_ty ?_
  | with_reducible refine re_ref ?_
  | with_reducible refine rs_drop ?_
  | with_reducible refine re_chain ?_
  | with_reducible refine re_andV ?_
  | with_reducible refine re_orV ?_
  | with_reducible refine re_notV ?_
  | with_reducible refine rt_not ?_
  | with_reducible refine rt_and ?_
  | with_reducible refine rt_or ?_
  | with_reducible refine rs_next ?_
  | with_reducible refine rs_cont ?_
  | with_reducible refine rs_break ?_
  | with_reducible refine rs_retN ?_
  | with_reducible refine rr_eq rfl ?_
  | with_reducible refine rr_ne rfl ?_
  | with_reducible refine rr_mulR (by omega) ?_
  | with_reducible refine rr_mulL (by omega) ?_
  | with_reducible refine rr_mod (by omega) ?_
  | with_reducible refine rr_fdiv (by omega) ?_
  | with_reducible refine ro_none ?_
  | with_reducible refine ro_some ?_
  | with_reducible refine re_tup ?_
  | with_reducible refine rg_tup tupD1 rfl ?_
  | with_reducible refine rgs_cons ?_
  | with_reducible refine rgs_nil ?_
  | with_reducible refine rr_ixT0 ?_
  | with_reducible refine rr_ixT1 ?_
  | with_reducible refine rr_ixT2 ?_
  | with_reducible refine rr_ixT3 ?_
  | with_reducible refine rr_ixT4 ?_
  | with_reducible refine rr_ixT5 ?_
  | with_reducible refine rr_isN ?_
  | with_reducible refine rr_notN ?_
  | with_reducible refine rcI1 ?_
  | with_reducible refine rcI2 ?_
  | with_reducible refine rcI3 ?_
  | with_reducible refine rcI4 ?_
  | with_reducible refine rcI5 ?_
  | with_reducible refine rc_listL ?_
  | with_reducible refine rc_lenL ?_
  | with_reducible refine rc_lenT ?_
  | with_reducible refine rc_min2 ?_
  | with_reducible refine rc_intB ?_
  | with_reducible refine re_strip ?_
  | with_reducible refine re_lst (tA := tCons _ _) ?_
  | with_reducible refine re_fld ?_
  | with_reducible refine rs_fld ?_
  | with_reducible refine re_meth ?_
  | with_reducible exact rfl
  | with_reducible refine andT ?_
  | with_reducible refine andF ?_
  | refine Exists.intro _ ⟨rfl, ?_⟩
  | refine andT ?_
  | refine andF ?_
  | assumption
  | refine And.intro rfl ?_
  | refine And.intro (by assumption) ?_
  | with_reducible refine And.intro (Nat.le_of_ble_eq_true rfl) ?_
  | with_reducible refine And.intro (by omega) ?_)
local macro_rules | `(tactic| walk_at "kp") => `(tactic| repeat (walk_at "kp1"))
section
variable {P : Program} {w : World} {K : PySem.W.Frag} {mg : Str → Option Value} {base : Heap}
theorem abv_in {hs : List (Str × Str)} {n u : Str} : abv hs n = some u → ∃ pre post, hs = pre ++ (n, u) :: post := by
  induction hs with
  | nil => intro h; cases h
  | cons x r ih =>
    intro h
    unfold abv at h
    by_cases e : x.1 = n
    · rw [if_pos e] at h
      cases h
      subst e
      exact ⟨[], r, rfl⟩
    · rw [if_neg e] at h
      obtain ⟨pre, post, rfl⟩ := ih h
      exact ⟨x :: pre, post, rfl⟩
theorem YGood.ok {Y : Yr} (y : YGood Y) : YOk Y where
  hd := y.hd.le
  lm := y.ll
  rl := y.lr
  up n u h hu := by
    obtain ⟨pre, post, e⟩ := abv_in h
    obtain ⟨_, _, h3⟩ := y.hd.ok _ _ _ e
    have h4 := h3.resolve_left hu
    exact abv_of (by rw [e, List.map_append]; exact List.mem_append_left _ h4)
  d1 := y.d1
  d2 := y.d2
def Ent.names : Ent → List Str
  | .give h _ _ => [h]
  | .hold h _ _ _ => [h]
  | .move h o _ _ => [h, o]
  | .spend h _ _ => [h]
  | .promise _ h _ _ => [h]
  | .lessen .. => []
  | .out .. => []
def Ent.lasts (Y : Yr) (date : Int) : Ent → Prop
  | .hold _ _ u _ => date < u ∧ u ≤ Y.days + 1
  | _ => True
def Fits (Y : Yr) (date : Int) (e : Ent) : Prop := (∀ h ∈ e.names, h ∈ Y.names) ∧ e.lasts Y date
def spc_Hold_lasts (K : PySem.W.Frag) : Spc := fun ds M Pc => ∃ (h : Str) (c : Int) (u : Int) (n : Str) (Y : Yr) (date : Int), ds = [.ins (He.ga K "Hold") (fsHold (.str h) (.int c) (.int u) (.str n)), encY K Y, .int date] ∧ (date < u ∧ u ≤ Y.days + 1) ∧ Pc (.bl true) M
theorem len_Hold_lasts (ds : List D) (M : Mem) (Pc : D → Mem → Prop) (h : spc_Hold_lasts K ds M Pc) : ds.length = 3 := by
  obtain ⟨_, _, _, _, _, _, rfl, _⟩ := h
  rfl
abbrev nm_Hold_lasts : List Str := ["self", "year", "date"]
theorem sc_Hold_lasts : FnScope nm_Hold_lasts ["self", "year", "date"] (defScope s_Hold_lasts) := ⟨rfl, rfl, rfl, by decide +kernel, rfl, by decide +kernel, by decide +kernel⟩
theorem ok_Hold_lasts (TX : Txt K mg base) : Kept P w K mg base 1 (He.fAd K ("Hold", some "lasts")) ["self", "year", "date"] (spc_Hold_lasts K) := by
  refine okD (fn_Hold_lasts TX) sc_Hold_lasts (fun _ _ _ _ _ _ us hl => match us, hl with | [_, _, _], _ => rfl) len_Hold_lasts fun cdv A outer s H E hr ds M Pc h => ?_
  obtain ⟨h, c, u, n, Y, date, rfl, ⟨h1, h2⟩, k⟩ := h
  refine ⟨_, (pss_one (ps_ret (pe_chain op_lt op_le (pv 2) (pe_fld (pv 0) rfl) (pe_op op_add (pe_fld (pv 1) rfl) pe_int)))), ?_⟩
  walk_at "kp0"
  walk_at "kp"
  refine ⟨_, _, _, insD1, cl_Hold TX, na_Hold_until TX, lk_Hold_until .., ?_⟩
  walk_at "kp"
  rw [decide_eq_true h1]
  walk_at "kp"
  refine ⟨_, _, _, insD1, cl_Year TX, na_Year_days TX, lk_Year_days .., ?_⟩
  walk_at "kp"
  rw [decide_eq_true h2]
  exact k
theorem kp_named {δ : DEnv} {M : Mem} {Pd : D → Mem → Prop} {tl : TE} {ns names : List Str} {i j : Nat} (f : ∀ h ∈ ns, h ∈ names)
    (hi : RE K tl δ M fun d M1 => d = .lst (ns.map D.str) ∧ M1 = M) (h : Pd (.lst []) M) (hj : (wipeD δ [i])[j]? = some (some (.lst (names.map D.str))) := by rfl) (hij : i < δ.length) (ne : i ≠ j := by decide) (hl : ns.length ≤ 2 := by exact (by decide)) :
    RE K (tLc (iList K tl) (gName i) (tTest (tOp (rIn K true) (tVar i) (tVar j))) (tVar i) [i]) δ M Pd := by
  refine re_lcF D.str ns D.str (fun h => !decide (h ∈ names)) (by omega) (hi.imp fun d M1 ⟨a, b⟩ => ⟨.inl a, b⟩) ?_ ?_
  · intro x hx
    refine rgc_name (by simp) ?_
    refine rt_test (re_op (re_var (d := .str x) ?_ (re_var (d := .lst (names.map D.str)) ?_ (rr_in (.inl lstD1) ⟨_, rfl, rfl, rfl, fun _ => re_var (d := .str x) ?_ ⟨rfl, rfl⟩⟩))))
    all_goals first
      | (rw [List.getElem?_set_ne ne]; exact hj)
      | (rw [List.getElem?_set_self (by show i < (List.set δ i none).length; rw [List.length_set]; exact hij)])
  · rw [show ns.filter (fun h => !decide (h ∈ names)) = [] from List.filter_eq_nil_iff.mpr fun h hh => by simp [f h hh]]
    exact h
def spc_Entry_fits (K : PySem.W.Frag) : Spc := fun ds M Pc => ∃ (e : Ent) (Y : Yr) (date : Int), ds = [encE K e, encY K Y, .int date] ∧ YGood Y ∧ EOk e ∧ Fits Y date e ∧ Pc (.bl true) M
theorem len_Entry_fits (ds : List D) (M : Mem) (Pc : D → Mem → Prop) (h : spc_Entry_fits K ds M Pc) : ds.length = 3 := by
  obtain ⟨_, _, _, rfl, _⟩ := h
  rfl
abbrev nm_Entry_fits : List Str := ["self", "year", "date", "names", "head"]
theorem sc_Entry_fits : FnScope nm_Entry_fits ["self", "year", "date"] (defScope s_Entry_fits) := ⟨rfl, rfl, rfl, by decide +kernel, rfl, by decide +kernel, by decide +kernel⟩
theorem ok_Entry_fits (TX : Txt K mg base) : Kept P w K mg base 2 (He.fAd K ("Entry", some "fits")) ["self", "year", "date"] (spc_Entry_fits K) := by
  obtain ⟨fd_Year_names, G_Year_names, kp_Year_names, b_Year_names⟩ := ok_Year_names (P := P) (w := w) TX
  obtain ⟨fd_Give_told, G_Give_told, kp_Give_told, b_Give_told⟩ := ok_Give_told (P := P) (w := w) TX
  obtain ⟨fd_Give_named, G_Give_named, kp_Give_named, b_Give_named⟩ := ok_Give_named (P := P) (w := w) TX
  obtain ⟨fd_Entry_lasts, G_Entry_lasts, kp_Entry_lasts, b_Entry_lasts⟩ := ok_Entry_lasts (P := P) (w := w) TX
  obtain ⟨fd_Hold_told, G_Hold_told, kp_Hold_told, b_Hold_told⟩ := ok_Hold_told (P := P) (w := w) TX
  obtain ⟨fd_Hold_named, G_Hold_named, kp_Hold_named, b_Hold_named⟩ := ok_Hold_named (P := P) (w := w) TX
  obtain ⟨fd_Hold_lasts, G_Hold_lasts, kp_Hold_lasts, b_Hold_lasts⟩ := ok_Hold_lasts (P := P) (w := w) TX
  obtain ⟨fd_Move_told, G_Move_told, kp_Move_told, b_Move_told⟩ := ok_Move_told (P := P) (w := w) TX
  obtain ⟨fd_Move_named, G_Move_named, kp_Move_named, b_Move_named⟩ := ok_Move_named (P := P) (w := w) TX
  obtain ⟨fd_Spend_told, G_Spend_told, kp_Spend_told, b_Spend_told⟩ := ok_Spend_told (P := P) (w := w) TX
  obtain ⟨fd_Spend_named, G_Spend_named, kp_Spend_named, b_Spend_named⟩ := ok_Spend_named (P := P) (w := w) TX
  obtain ⟨fd_Promise_told, G_Promise_told, kp_Promise_told, b_Promise_told⟩ := ok_Promise_told (P := P) (w := w) TX
  obtain ⟨fd_Promise_named, G_Promise_named, kp_Promise_named, b_Promise_named⟩ := ok_Promise_named (P := P) (w := w) TX
  obtain ⟨fd_Lessen_told, G_Lessen_told, kp_Lessen_told, b_Lessen_told⟩ := ok_Lessen_told (P := P) (w := w) TX
  obtain ⟨fd_Entry_named, G_Entry_named, kp_Entry_named, b_Entry_named⟩ := ok_Entry_named (P := P) (w := w) TX
  obtain ⟨fd_Out_told, G_Out_told, kp_Out_told, b_Out_told⟩ := ok_Out_told (P := P) (w := w) TX
  refine okD (fn_Entry_fits TX) sc_Entry_fits (fun _ _ _ _ _ _ us hl => match us, hl with | [_, _, _], _ => rfl) len_Entry_fits fun cdv A outer s H E hr ds M Pc h => ?_
  obtain ⟨e, Y, date, rfl, y, ek, ⟨f1, f2⟩, k⟩ := h
  have yo := y.ok
  cases e
  · refine ⟨_, (pss_cons (ps_set (i := 3) sc_Entry_fits.nd rfl (Or.inr rfl) (pe_meth0 (pv 1) (cl_Year TX) (me_Year_names TX) G_Year_names (hr.mono (by decide)) b_Year_names .nil pass0))
    (pss_cons (ps_if (PW.pt (pw_or (pt_cmpR (op_eqD hr.units) (pe_meth0 (pv 0) (cl_Give TX) (me_Give_told TX) G_Give_told (hr.mono (by decide)) b_Give_told .nil pass0) (pe_tup pa_nil) (nomark _)) (pw_or1 (pt_cmpR (op_neE hr.units) (pe_lc (own := [("head", 4)]) (g := gName 4) rfl sc_Entry_fits.nd (pi_list (pe_meth0 (pv 0) (cl_Give TX) (me_Give_named TX) G_Give_named (hr.mono (by decide)) b_Give_named .nil pass0)) (blkOk_by (N := nm_Entry_fits) (sc := defScope s_Entry_fits) (by decide +kernel)) (fun _ _ _ _ _ => pg_name (i := 4) sc_Entry_fits.nd rfl (Or.inl rfl)) (fun _ _ _ _ _ => pts_one (pt_cmpR (ko_notIn (K := K)) (pv 4) (pv 3) rfl)) (fun _ _ _ _ _ => (pv 4))) (pe_lst pa_nil) (nomark _))))) (pss_one (ps_ret pe_bl)) pss_nil)
    (pss_one (ps_ret (pe_meth (pv 0) (cl_Give TX) (mi_Give_lasts TX) G_Entry_lasts (hr.mono (by decide)) b_Entry_lasts .nil pass0 (pa_cons (pv 1) (pa_cons (pv 2) pa_nil))))))), ?_⟩
    walk_at "kp0"
    walk_at "kp"
    refine ⟨_, insD1, lm_Year_names .., ?_⟩
    walk_at "kp"
    refine ⟨_, insD1, lm_Give_told .., ?_⟩
    walk_at "kp"
    refine rr_eqS (shp_told ek) (Shp.tup (n := 0) al_nil) ?_
    refine ⟨false, rfl, (fun z => by cases z), fun _ => ?_⟩
    walk_at "kp"
    refine kp_named (i := 4) (j := 3) f1 ?_ ?_ (hij := by show 4 < 5; decide) (hl := by first | exact Nat.le_refl _ | exact Nat.le_succ_of_le (Nat.le_refl _) | exact Nat.zero_le _)
    · walk_at "kp"
      refine ⟨_, insD1, lm_Give_named .., ?_⟩
      walk_at "kp"
    · walk_at "kp"
      refine re_lst (ra_nil ⟨by decide, rr_eqE lstD1 lstD1 ?_⟩)
      walk_at "kp"
      refine ⟨_, insD1, lm_Give_lasts .., ?_⟩
      walk_at "kp"
  · refine ⟨_, (pss_cons (ps_set (i := 3) sc_Entry_fits.nd rfl (Or.inr rfl) (pe_meth0 (pv 1) (cl_Year TX) (me_Year_names TX) G_Year_names (hr.mono (by decide)) b_Year_names .nil pass0))
    (pss_cons (ps_if (PW.pt (pw_or (pt_cmpR (op_eqD hr.units) (pe_meth0 (pv 0) (cl_Hold TX) (me_Hold_told TX) G_Hold_told (hr.mono (by decide)) b_Hold_told .nil pass0) (pe_tup pa_nil) (nomark _)) (pw_or1 (pt_cmpR (op_neE hr.units) (pe_lc (own := [("head", 4)]) (g := gName 4) rfl sc_Entry_fits.nd (pi_list (pe_meth0 (pv 0) (cl_Hold TX) (me_Hold_named TX) G_Hold_named (hr.mono (by decide)) b_Hold_named .nil pass0)) (blkOk_by (N := nm_Entry_fits) (sc := defScope s_Entry_fits) (by decide +kernel)) (fun _ _ _ _ _ => pg_name (i := 4) sc_Entry_fits.nd rfl (Or.inl rfl)) (fun _ _ _ _ _ => pts_one (pt_cmpR (ko_notIn (K := K)) (pv 4) (pv 3) rfl)) (fun _ _ _ _ _ => (pv 4))) (pe_lst pa_nil) (nomark _))))) (pss_one (ps_ret pe_bl)) pss_nil)
    (pss_one (ps_ret (pe_meth (pv 0) (cl_Hold TX) (me_Hold_lasts TX) G_Hold_lasts (hr.mono (by decide)) b_Hold_lasts .nil pass0 (pa_cons (pv 1) (pa_cons (pv 2) pa_nil))))))), ?_⟩
    walk_at "kp0"
    walk_at "kp"
    refine ⟨_, insD1, lm_Year_names .., ?_⟩
    walk_at "kp"
    refine ⟨_, insD1, lm_Hold_told .., ?_⟩
    walk_at "kp"
    refine rr_eqS (shp_told ek) (Shp.tup (n := 0) al_nil) ?_
    refine ⟨false, rfl, (fun z => by cases z), fun _ => ?_⟩
    walk_at "kp"
    refine kp_named (i := 4) (j := 3) f1 ?_ ?_ (hij := by show 4 < 5; decide) (hl := by first | exact Nat.le_refl _ | exact Nat.le_succ_of_le (Nat.le_refl _) | exact Nat.zero_le _)
    · walk_at "kp"
      refine ⟨_, insD1, lm_Hold_named .., ?_⟩
      walk_at "kp"
    · walk_at "kp"
      refine re_lst (ra_nil ⟨by decide, rr_eqE lstD1 lstD1 ?_⟩)
      walk_at "kp"
      refine ⟨_, insD1, lm_Hold_lasts .., ?_⟩
      walk_at "kp"
  · refine ⟨_, (pss_cons (ps_set (i := 3) sc_Entry_fits.nd rfl (Or.inr rfl) (pe_meth0 (pv 1) (cl_Year TX) (me_Year_names TX) G_Year_names (hr.mono (by decide)) b_Year_names .nil pass0))
    (pss_cons (ps_if (PW.pt (pw_or (pt_cmpR (op_eqD hr.units) (pe_meth0 (pv 0) (cl_Move TX) (me_Move_told TX) G_Move_told (hr.mono (by decide)) b_Move_told .nil pass0) (pe_tup pa_nil) (nomark _)) (pw_or1 (pt_cmpR (op_neE hr.units) (pe_lc (own := [("head", 4)]) (g := gName 4) rfl sc_Entry_fits.nd (pi_list (pe_meth0 (pv 0) (cl_Move TX) (me_Move_named TX) G_Move_named (hr.mono (by decide)) b_Move_named .nil pass0)) (blkOk_by (N := nm_Entry_fits) (sc := defScope s_Entry_fits) (by decide +kernel)) (fun _ _ _ _ _ => pg_name (i := 4) sc_Entry_fits.nd rfl (Or.inl rfl)) (fun _ _ _ _ _ => pts_one (pt_cmpR (ko_notIn (K := K)) (pv 4) (pv 3) rfl)) (fun _ _ _ _ _ => (pv 4))) (pe_lst pa_nil) (nomark _))))) (pss_one (ps_ret pe_bl)) pss_nil)
    (pss_one (ps_ret (pe_meth (pv 0) (cl_Move TX) (mi_Move_lasts TX) G_Entry_lasts (hr.mono (by decide)) b_Entry_lasts .nil pass0 (pa_cons (pv 1) (pa_cons (pv 2) pa_nil))))))), ?_⟩
    walk_at "kp0"
    walk_at "kp"
    refine ⟨_, insD1, lm_Year_names .., ?_⟩
    walk_at "kp"
    refine ⟨_, insD1, lm_Move_told .., ?_⟩
    walk_at "kp"
    refine rr_eqS (shp_told ek) (Shp.tup (n := 0) al_nil) ?_
    refine ⟨false, rfl, (fun z => by cases z), fun _ => ?_⟩
    walk_at "kp"
    refine kp_named (i := 4) (j := 3) f1 ?_ ?_ (hij := by show 4 < 5; decide) (hl := by first | exact Nat.le_refl _ | exact Nat.le_succ_of_le (Nat.le_refl _) | exact Nat.zero_le _)
    · walk_at "kp"
      refine ⟨_, insD1, lm_Move_named .., ?_⟩
      walk_at "kp"
    · walk_at "kp"
      refine re_lst (ra_nil ⟨by decide, rr_eqE lstD1 lstD1 ?_⟩)
      walk_at "kp"
      refine ⟨_, insD1, lm_Move_lasts .., ?_⟩
      walk_at "kp"
  · refine ⟨_, (pss_cons (ps_set (i := 3) sc_Entry_fits.nd rfl (Or.inr rfl) (pe_meth0 (pv 1) (cl_Year TX) (me_Year_names TX) G_Year_names (hr.mono (by decide)) b_Year_names .nil pass0))
    (pss_cons (ps_if (PW.pt (pw_or (pt_cmpR (op_eqD hr.units) (pe_meth0 (pv 0) (cl_Spend TX) (me_Spend_told TX) G_Spend_told (hr.mono (by decide)) b_Spend_told .nil pass0) (pe_tup pa_nil) (nomark _)) (pw_or1 (pt_cmpR (op_neE hr.units) (pe_lc (own := [("head", 4)]) (g := gName 4) rfl sc_Entry_fits.nd (pi_list (pe_meth0 (pv 0) (cl_Spend TX) (me_Spend_named TX) G_Spend_named (hr.mono (by decide)) b_Spend_named .nil pass0)) (blkOk_by (N := nm_Entry_fits) (sc := defScope s_Entry_fits) (by decide +kernel)) (fun _ _ _ _ _ => pg_name (i := 4) sc_Entry_fits.nd rfl (Or.inl rfl)) (fun _ _ _ _ _ => pts_one (pt_cmpR (ko_notIn (K := K)) (pv 4) (pv 3) rfl)) (fun _ _ _ _ _ => (pv 4))) (pe_lst pa_nil) (nomark _))))) (pss_one (ps_ret pe_bl)) pss_nil)
    (pss_one (ps_ret (pe_meth (pv 0) (cl_Spend TX) (mi_Spend_lasts TX) G_Entry_lasts (hr.mono (by decide)) b_Entry_lasts .nil pass0 (pa_cons (pv 1) (pa_cons (pv 2) pa_nil))))))), ?_⟩
    walk_at "kp0"
    walk_at "kp"
    refine ⟨_, insD1, lm_Year_names .., ?_⟩
    walk_at "kp"
    refine ⟨_, insD1, lm_Spend_told .., ?_⟩
    walk_at "kp"
    refine rr_eqS (shp_told ek) (Shp.tup (n := 0) al_nil) ?_
    refine ⟨false, rfl, (fun z => by cases z), fun _ => ?_⟩
    walk_at "kp"
    refine kp_named (i := 4) (j := 3) f1 ?_ ?_ (hij := by show 4 < 5; decide) (hl := by first | exact Nat.le_refl _ | exact Nat.le_succ_of_le (Nat.le_refl _) | exact Nat.zero_le _)
    · walk_at "kp"
      refine ⟨_, insD1, lm_Spend_named .., ?_⟩
      walk_at "kp"
    · walk_at "kp"
      refine re_lst (ra_nil ⟨by decide, rr_eqE lstD1 lstD1 ?_⟩)
      walk_at "kp"
      refine ⟨_, insD1, lm_Spend_lasts .., ?_⟩
      walk_at "kp"
  · refine ⟨_, (pss_cons (ps_set (i := 3) sc_Entry_fits.nd rfl (Or.inr rfl) (pe_meth0 (pv 1) (cl_Year TX) (me_Year_names TX) G_Year_names (hr.mono (by decide)) b_Year_names .nil pass0))
    (pss_cons (ps_if (PW.pt (pw_or (pt_cmpR (op_eqD hr.units) (pe_meth0 (pv 0) (cl_Promise TX) (me_Promise_told TX) G_Promise_told (hr.mono (by decide)) b_Promise_told .nil pass0) (pe_tup pa_nil) (nomark _)) (pw_or1 (pt_cmpR (op_neE hr.units) (pe_lc (own := [("head", 4)]) (g := gName 4) rfl sc_Entry_fits.nd (pi_list (pe_meth0 (pv 0) (cl_Promise TX) (me_Promise_named TX) G_Promise_named (hr.mono (by decide)) b_Promise_named .nil pass0)) (blkOk_by (N := nm_Entry_fits) (sc := defScope s_Entry_fits) (by decide +kernel)) (fun _ _ _ _ _ => pg_name (i := 4) sc_Entry_fits.nd rfl (Or.inl rfl)) (fun _ _ _ _ _ => pts_one (pt_cmpR (ko_notIn (K := K)) (pv 4) (pv 3) rfl)) (fun _ _ _ _ _ => (pv 4))) (pe_lst pa_nil) (nomark _))))) (pss_one (ps_ret pe_bl)) pss_nil)
    (pss_one (ps_ret (pe_meth (pv 0) (cl_Promise TX) (mi_Promise_lasts TX) G_Entry_lasts (hr.mono (by decide)) b_Entry_lasts .nil pass0 (pa_cons (pv 1) (pa_cons (pv 2) pa_nil))))))), ?_⟩
    walk_at "kp0"
    walk_at "kp"
    refine ⟨_, insD1, lm_Year_names .., ?_⟩
    walk_at "kp"
    refine ⟨_, insD1, lm_Promise_told .., ?_⟩
    walk_at "kp"
    refine rr_eqS (shp_told ek) (Shp.tup (n := 0) al_nil) ?_
    refine ⟨false, rfl, (fun z => by cases z), fun _ => ?_⟩
    walk_at "kp"
    refine kp_named (i := 4) (j := 3) f1 ?_ ?_ (hij := by show 4 < 5; decide) (hl := by first | exact Nat.le_refl _ | exact Nat.le_succ_of_le (Nat.le_refl _) | exact Nat.zero_le _)
    · walk_at "kp"
      refine ⟨_, insD1, lm_Promise_named .., ?_⟩
      walk_at "kp"
    · walk_at "kp"
      refine re_lst (ra_nil ⟨by decide, rr_eqE lstD1 lstD1 ?_⟩)
      walk_at "kp"
      refine ⟨_, insD1, lm_Promise_lasts .., ?_⟩
      walk_at "kp"
  · refine ⟨_, (pss_cons (ps_set (i := 3) sc_Entry_fits.nd rfl (Or.inr rfl) (pe_meth0 (pv 1) (cl_Year TX) (me_Year_names TX) G_Year_names (hr.mono (by decide)) b_Year_names .nil pass0))
    (pss_cons (ps_if (PW.pt (pw_or (pt_cmpR (op_eqD hr.units) (pe_meth0 (pv 0) (cl_Lessen TX) (me_Lessen_told TX) G_Lessen_told (hr.mono (by decide)) b_Lessen_told .nil pass0) (pe_tup pa_nil) (nomark _)) (pw_or1 (pt_cmpR (op_neE hr.units) (pe_lc (own := [("head", 4)]) (g := gName 4) rfl sc_Entry_fits.nd (pi_list (pe_meth0 (pv 0) (cl_Lessen TX) (mi_Lessen_named TX) G_Entry_named (hr.mono (by decide)) b_Entry_named .nil pass0)) (blkOk_by (N := nm_Entry_fits) (sc := defScope s_Entry_fits) (by decide +kernel)) (fun _ _ _ _ _ => pg_name (i := 4) sc_Entry_fits.nd rfl (Or.inl rfl)) (fun _ _ _ _ _ => pts_one (pt_cmpR (ko_notIn (K := K)) (pv 4) (pv 3) rfl)) (fun _ _ _ _ _ => (pv 4))) (pe_lst pa_nil) (nomark _))))) (pss_one (ps_ret pe_bl)) pss_nil)
    (pss_one (ps_ret (pe_meth (pv 0) (cl_Lessen TX) (mi_Lessen_lasts TX) G_Entry_lasts (hr.mono (by decide)) b_Entry_lasts .nil pass0 (pa_cons (pv 1) (pa_cons (pv 2) pa_nil))))))), ?_⟩
    walk_at "kp0"
    walk_at "kp"
    refine ⟨_, insD1, lm_Year_names .., ?_⟩
    walk_at "kp"
    refine ⟨_, insD1, lm_Lessen_told .., ?_⟩
    walk_at "kp"
    refine rr_eqS (shp_told ek) (Shp.tup (n := 0) al_nil) ?_
    refine ⟨false, rfl, (fun z => by cases z), fun _ => ?_⟩
    walk_at "kp"
    refine kp_named (i := 4) (j := 3) f1 ?_ ?_ (hij := by show 4 < 5; decide) (hl := by first | exact Nat.le_refl _ | exact Nat.le_succ_of_le (Nat.le_refl _) | exact Nat.zero_le _)
    · walk_at "kp"
      refine ⟨_, insD1, lm_Lessen_named .., ?_⟩
      walk_at "kp"
    · walk_at "kp"
      refine re_lst (ra_nil ⟨by decide, rr_eqE lstD1 lstD1 ?_⟩)
      walk_at "kp"
      refine ⟨_, insD1, lm_Lessen_lasts .., ?_⟩
      walk_at "kp"
  · refine ⟨_, (pss_cons (ps_set (i := 3) sc_Entry_fits.nd rfl (Or.inr rfl) (pe_meth0 (pv 1) (cl_Year TX) (me_Year_names TX) G_Year_names (hr.mono (by decide)) b_Year_names .nil pass0))
    (pss_cons (ps_if (PW.pt (pw_or (pt_cmpR (op_eqD hr.units) (pe_meth0 (pv 0) (cl_Out TX) (me_Out_told TX) G_Out_told (hr.mono (by decide)) b_Out_told .nil pass0) (pe_tup pa_nil) (nomark _)) (pw_or1 (pt_cmpR (op_neE hr.units) (pe_lc (own := [("head", 4)]) (g := gName 4) rfl sc_Entry_fits.nd (pi_list (pe_meth0 (pv 0) (cl_Out TX) (mi_Out_named TX) G_Entry_named (hr.mono (by decide)) b_Entry_named .nil pass0)) (blkOk_by (N := nm_Entry_fits) (sc := defScope s_Entry_fits) (by decide +kernel)) (fun _ _ _ _ _ => pg_name (i := 4) sc_Entry_fits.nd rfl (Or.inl rfl)) (fun _ _ _ _ _ => pts_one (pt_cmpR (ko_notIn (K := K)) (pv 4) (pv 3) rfl)) (fun _ _ _ _ _ => (pv 4))) (pe_lst pa_nil) (nomark _))))) (pss_one (ps_ret pe_bl)) pss_nil)
    (pss_one (ps_ret (pe_meth (pv 0) (cl_Out TX) (mi_Out_lasts TX) G_Entry_lasts (hr.mono (by decide)) b_Entry_lasts .nil pass0 (pa_cons (pv 1) (pa_cons (pv 2) pa_nil))))))), ?_⟩
    walk_at "kp0"
    walk_at "kp"
    refine ⟨_, insD1, lm_Year_names .., ?_⟩
    walk_at "kp"
    refine ⟨_, insD1, lm_Out_told .., ?_⟩
    walk_at "kp"
    refine rr_eqS (shp_told ek) (Shp.tup (n := 0) al_nil) ?_
    refine ⟨false, rfl, (fun z => by cases z), fun _ => ?_⟩
    walk_at "kp"
    refine kp_named (i := 4) (j := 3) f1 ?_ ?_ (hij := by show 4 < 5; decide) (hl := by first | exact Nat.le_refl _ | exact Nat.le_succ_of_le (Nat.le_refl _) | exact Nat.zero_le _)
    · walk_at "kp"
      refine ⟨_, insD1, lm_Out_named .., ?_⟩
      walk_at "kp"
    · walk_at "kp"
      refine re_lst (ra_nil ⟨by decide, rr_eqE lstD1 lstD1 ?_⟩)
      walk_at "kp"
      refine ⟨_, insD1, lm_Out_lasts .., ?_⟩
      walk_at "kp"


end
end Kp

set_option maxHeartbeats 4000000
namespace Kp
open PySem PySem.Spec PyProof.Rows L2
local macro_rules | `(tactic| walk_at "kp0") => `(tactic| try dsimp only [cxOf, Cx.nox, Cx.wish])
local macro_rules | `(tactic| walk_at "kp1") => `(tactic| first
  | with_reducible refine rs_seq ?_
  | with_reducible refine re_var rfl ?_
  | with_reducible refine re_int ?_
  | with_reducible refine re_str ?_
  | with_reducible refine re_op ?_
  | with_reducible refine re_cb ?_
  | with_reducible refine ra_cons ?_
  | ((with_reducible refine ra_nil ?_); first
      | refine Exists.intro _ ⟨rfl, ?_⟩
      | refine ⟨_, _, rfl, ?_⟩
      | refine ⟨_, _, _, rfl, ?_⟩
      | refine ⟨_, _, _, _, rfl, ?_⟩
      | refine ⟨_, _, _, _, _, rfl, ?_⟩
      | refine ⟨_, _, _, _, _, _, rfl, ?_⟩
      | refine And.intro rfl ?_)
  | with_reducible refine ra_nil ?_
  | with_reducible refine rs_ret ?_
  | with_reducible refine rs_asg ?_
  | with_reducible refine rg_name ?_
  | with_reducible refine rs_if ?_
  | with_reducible refine rt_test ?_
  | with_reducible refine rt_B ?_
  | with_reducible refine re_call ?_
  | with_reducible refine rr_int0 ?_
  | with_reducible refine rr_bl0 ?_
  | with_reducible refine rr_I0 rfl ?_
  | with_reducible refine re_bl ?_
  | with_reducible refine re_non ?_
  | with_reducible refine re_ty ?_
  | with_reducible refine re_ref ?_
  | with_reducible refine rs_drop ?_
  | with_reducible refine re_chain ?_
  | with_reducible refine re_andV ?_
  | with_reducible refine re_orV ?_
  | with_reducible refine re_notV ?_
  | with_reducible refine rt_not ?_
  | with_reducible refine rt_and ?_
  | with_reducible refine rt_or ?_
  | with_reducible refine rs_next ?_
  | with_reducible refine rs_cont ?_
  | with_reducible refine rs_break ?_
  | with_reducible refine rs_retN ?_
  | with_reducible refine rr_eq rfl ?_
  | with_reducible refine rr_ne rfl ?_
  | with_reducible refine rr_mulR (by omega) ?_
  | with_reducible refine rr_mulL (by omega) ?_
  | with_reducible refine rr_mod (by omega) ?_
  | with_reducible refine rr_fdiv (by omega) ?_
  | with_reducible refine ro_none ?_
  | with_reducible refine ro_some ?_
  | with_reducible refine re_tup ?_
  | with_reducible refine rg_tup tupD1 rfl ?_
  | with_reducible refine rgs_cons ?_
  | with_reducible refine rgs_nil ?_
  | with_reducible refine rr_ixT0 ?_
  | with_reducible refine rr_ixT1 ?_
  | with_reducible refine rr_ixT2 ?_
  | with_reducible refine rr_ixT3 ?_
  | with_reducible refine rr_ixT4 ?_
  | with_reducible refine rr_ixT5 ?_
  | with_reducible refine rr_isN ?_
  | with_reducible refine rr_notN ?_
  | with_reducible refine rcI1 ?_
  | with_reducible refine rcI2 ?_
  | with_reducible refine rcI3 ?_
  | with_reducible refine rcI4 ?_
  | with_reducible refine rcI5 ?_
  | with_reducible refine rc_listL ?_
  | with_reducible refine rc_lenL ?_
  | with_reducible refine rc_lenT ?_
  | with_reducible refine rc_min2 ?_
  | with_reducible refine rc_intB ?_
  | with_reducible refine re_strip ?_
  | with_reducible refine re_lst (tA := tCons _ _) ?_
  | with_reducible refine re_fld ?_
  | with_reducible refine rs_fld ?_
  | with_reducible refine re_meth ?_
  | with_reducible exact rfl
  | with_reducible refine andT ?_
  | with_reducible refine andF ?_
  | refine Exists.intro _ ⟨rfl, ?_⟩
  | refine andT ?_
  | refine andF ?_
  | assumption
  | refine And.intro rfl ?_
  | refine And.intro (by assumption) ?_
  | with_reducible refine And.intro (Nat.le_of_ble_eq_true rfl) ?_
  | with_reducible refine And.intro (by omega) ?_)
local macro_rules | `(tactic| walk_at "kp") => `(tactic| repeat (walk_at "kp1"))
section
variable {P : Program} {w : World} {K : PySem.W.Frag} {mg : Str → Option Value} {base : Heap}
def spc_is_day (K : PySem.W.Frag) : Spc := fun ds M Pc => ∃ (Y : Yr) (d : Int), ds = [encY K Y, .int d] ∧ (1 ≤ d ∧ d ≤ Y.days) ∧ Pc (.bl true) M
theorem len_is_day (ds : List D) (M : Mem) (Pc : D → Mem → Prop) (h : spc_is_day K ds M Pc) : ds.length = 2 := by
  obtain ⟨_, _, rfl, _⟩ := h
  rfl
abbrev nm_is_day : List Str := ["year", "thing"]
theorem sc_is_day : FnScope nm_is_day ["year", "thing"] (defScope s_is_day) := ⟨rfl, rfl, rfl, by decide +kernel, rfl, by decide +kernel, by decide +kernel⟩
theorem ok_is_day (TX : Txt K mg base) : Kept P w K mg base 1 (He.fAd K ("is_day", none)) ["year", "thing"] (spc_is_day K) := by
  refine okD (fn_is_day TX) sc_is_day (fun _ _ _ _ _ _ us hl => match us, hl with | [_, _], _ => rfl) len_is_day fun cdv A outer s H E hr ds M Pc h => ?_
  obtain ⟨Y, d, rfl, hd, k⟩ := h
  refine ⟨_, (pss_one (ps_ret (pe_and (pe_callB call_isi rfl (n_isinstance TX) (by decide +kernel) (pa_cons (pv 1) (pa_cons (pe_bltn (v := .ty "int") rfl (n_int TX) (by decide +kernel) rfl) pa_nil))) (pe_and (pe_not (pe_callB call_isi rfl (n_isinstance TX) (by decide +kernel) (pa_cons (pv 1) (pa_cons (pe_bltn (v := .ty "bool") rfl (n_bool TX) (by decide +kernel) rfl) pa_nil)))) (pe_one (pe_chain op_le op_le pe_int (pv 1) (pe_fld (pv 0) rfl))))))), ?_⟩
  walk_at "kp0"
  walk_at "kp"
  rw [decide_eq_true hd.1]
  walk_at "kp"
  refine ⟨_, _, _, insD1, cl_Year TX, na_Year_days TX, lk_Year_days .., ?_⟩
  walk_at "kp"
  rw [decide_eq_true hd.2]
  exact k
abbrev Row := Int × Ent
def RowOk (Y : Yr) (r : Row) : Prop := (1 ≤ r.1 ∧ r.1 ≤ Y.days) ∧ EOk r.2 ∧ Fits Y r.1 r.2
def encR (K : PySem.W.Frag) (r : Row) : D := .tup [.int r.1, encE K r.2]
def spc_is_row (K : PySem.W.Frag) : Spc := fun ds M Pc => ∃ (Y : Yr) (r : Row), ds = [encY K Y, encR K r] ∧ YGood Y ∧ RowOk Y r ∧ Pc (.bl true) M
theorem len_is_row (ds : List D) (M : Mem) (Pc : D → Mem → Prop) (h : spc_is_row K ds M Pc) : ds.length = 2 := by
  obtain ⟨_, _, rfl, _⟩ := h
  rfl
abbrev nm_is_row : List Str := ["year", "thing"]
theorem sc_is_row : FnScope nm_is_row ["year", "thing"] (defScope s_is_row) := ⟨rfl, rfl, rfl, by decide +kernel, rfl, by decide +kernel, by decide +kernel⟩
theorem ok_is_row (TX : Txt K mg base) : Kept P w K mg base 3 (He.fAd K ("is_row", none)) ["year", "thing"] (spc_is_row K) := by
  obtain ⟨fd_is_day, G_is_day, kp_is_day, b_is_day⟩ := ok_is_day (P := P) (w := w) TX
  obtain ⟨fd_Entry_fits, G_Entry_fits, kp_Entry_fits, b_Entry_fits⟩ := ok_Entry_fits (P := P) (w := w) TX
  refine okD (fn_is_row TX) sc_is_row (fun _ _ _ _ _ _ us hl => match us, hl with | [_, _], _ => rfl) len_is_row fun cdv A outer s H E hr ds M Pc h => ?_
  obtain ⟨Y, ⟨d, e⟩, rfl, y, ⟨hd, ek, f⟩, k⟩ := h
  unfold encR at *
  have ce := clsE TX e
  have ke := kit_entry TX e.kind (kind_mem e)
  cases e
  · refine ⟨_, (pss_cons (ps_if (PW.pt (pw_or (pt_not (pt_val (pe_callB call_isi rfl (n_isinstance TX) (by decide +kernel) (pa_cons (pv 1) (pa_cons (pe_bltn (v := .ty "tuple") rfl (n_tuple TX) (by decide +kernel) rfl) pa_nil))))) (pw_or (pt_cmpR op_ne (pe_callB call_len rfl (n_len TX) PySem.boot_len (pa_cons (pv 1) pa_nil)) pe_int (nomark _)) (pw_or1 (pt_not (pt_val (pe_call G_is_day (hr.mono (by decide)) rfl (g_is_day TX) kp_is_day b_is_day .nil pass0 (pa_cons (pv 0) (pa_cons (pe_ix ix_tup (pv 1) pe_int (fun _ _ => rfl)) pa_nil))))))))) (pss_one (ps_ret pe_bl)) pss_nil)
    (pss_one (ps_ret (pe_and (pe_callB call_isi rfl (n_isinstance TX) (by decide +kernel) (pa_cons (pe_ix ix_tup (pv 1) pe_int (fun _ _ => rfl)) (pa_cons (pe_glob (v := .ref (He.ga K "Entry")) rfl (g_Entry TX) rfl) pa_nil))) (pe_one (pe_meth (pe_ix ix_tup (pv 1) pe_int (fun _ _ => rfl)) (cl_Give TX) (mi_Give_fits TX) G_Entry_fits (hr.mono (by decide)) b_Entry_fits .nil pass0 (pa_cons (pv 0) (pa_cons (pe_ix ix_tup (pv 1) pe_int (fun _ _ => rfl)) pa_nil)))))))), ?_⟩
    walk_at "kp0"
    walk_at "kp"
    refine rc_isi (.ins ce) (.own _) ke ?_
    walk_at "kp"
    refine ⟨_, insD1, lm_Give_fits .., ?_⟩
    walk_at "kp"
  · refine ⟨_, (pss_cons (ps_if (PW.pt (pw_or (pt_not (pt_val (pe_callB call_isi rfl (n_isinstance TX) (by decide +kernel) (pa_cons (pv 1) (pa_cons (pe_bltn (v := .ty "tuple") rfl (n_tuple TX) (by decide +kernel) rfl) pa_nil))))) (pw_or (pt_cmpR op_ne (pe_callB call_len rfl (n_len TX) PySem.boot_len (pa_cons (pv 1) pa_nil)) pe_int (nomark _)) (pw_or1 (pt_not (pt_val (pe_call G_is_day (hr.mono (by decide)) rfl (g_is_day TX) kp_is_day b_is_day .nil pass0 (pa_cons (pv 0) (pa_cons (pe_ix ix_tup (pv 1) pe_int (fun _ _ => rfl)) pa_nil))))))))) (pss_one (ps_ret pe_bl)) pss_nil)
    (pss_one (ps_ret (pe_and (pe_callB call_isi rfl (n_isinstance TX) (by decide +kernel) (pa_cons (pe_ix ix_tup (pv 1) pe_int (fun _ _ => rfl)) (pa_cons (pe_glob (v := .ref (He.ga K "Entry")) rfl (g_Entry TX) rfl) pa_nil))) (pe_one (pe_meth (pe_ix ix_tup (pv 1) pe_int (fun _ _ => rfl)) (cl_Hold TX) (mi_Hold_fits TX) G_Entry_fits (hr.mono (by decide)) b_Entry_fits .nil pass0 (pa_cons (pv 0) (pa_cons (pe_ix ix_tup (pv 1) pe_int (fun _ _ => rfl)) pa_nil)))))))), ?_⟩
    walk_at "kp0"
    walk_at "kp"
    refine rc_isi (.ins ce) (.own _) ke ?_
    walk_at "kp"
    refine ⟨_, insD1, lm_Hold_fits .., ?_⟩
    walk_at "kp"
  · refine ⟨_, (pss_cons (ps_if (PW.pt (pw_or (pt_not (pt_val (pe_callB call_isi rfl (n_isinstance TX) (by decide +kernel) (pa_cons (pv 1) (pa_cons (pe_bltn (v := .ty "tuple") rfl (n_tuple TX) (by decide +kernel) rfl) pa_nil))))) (pw_or (pt_cmpR op_ne (pe_callB call_len rfl (n_len TX) PySem.boot_len (pa_cons (pv 1) pa_nil)) pe_int (nomark _)) (pw_or1 (pt_not (pt_val (pe_call G_is_day (hr.mono (by decide)) rfl (g_is_day TX) kp_is_day b_is_day .nil pass0 (pa_cons (pv 0) (pa_cons (pe_ix ix_tup (pv 1) pe_int (fun _ _ => rfl)) pa_nil))))))))) (pss_one (ps_ret pe_bl)) pss_nil)
    (pss_one (ps_ret (pe_and (pe_callB call_isi rfl (n_isinstance TX) (by decide +kernel) (pa_cons (pe_ix ix_tup (pv 1) pe_int (fun _ _ => rfl)) (pa_cons (pe_glob (v := .ref (He.ga K "Entry")) rfl (g_Entry TX) rfl) pa_nil))) (pe_one (pe_meth (pe_ix ix_tup (pv 1) pe_int (fun _ _ => rfl)) (cl_Move TX) (mi_Move_fits TX) G_Entry_fits (hr.mono (by decide)) b_Entry_fits .nil pass0 (pa_cons (pv 0) (pa_cons (pe_ix ix_tup (pv 1) pe_int (fun _ _ => rfl)) pa_nil)))))))), ?_⟩
    walk_at "kp0"
    walk_at "kp"
    refine rc_isi (.ins ce) (.own _) ke ?_
    walk_at "kp"
    refine ⟨_, insD1, lm_Move_fits .., ?_⟩
    walk_at "kp"
  · refine ⟨_, (pss_cons (ps_if (PW.pt (pw_or (pt_not (pt_val (pe_callB call_isi rfl (n_isinstance TX) (by decide +kernel) (pa_cons (pv 1) (pa_cons (pe_bltn (v := .ty "tuple") rfl (n_tuple TX) (by decide +kernel) rfl) pa_nil))))) (pw_or (pt_cmpR op_ne (pe_callB call_len rfl (n_len TX) PySem.boot_len (pa_cons (pv 1) pa_nil)) pe_int (nomark _)) (pw_or1 (pt_not (pt_val (pe_call G_is_day (hr.mono (by decide)) rfl (g_is_day TX) kp_is_day b_is_day .nil pass0 (pa_cons (pv 0) (pa_cons (pe_ix ix_tup (pv 1) pe_int (fun _ _ => rfl)) pa_nil))))))))) (pss_one (ps_ret pe_bl)) pss_nil)
    (pss_one (ps_ret (pe_and (pe_callB call_isi rfl (n_isinstance TX) (by decide +kernel) (pa_cons (pe_ix ix_tup (pv 1) pe_int (fun _ _ => rfl)) (pa_cons (pe_glob (v := .ref (He.ga K "Entry")) rfl (g_Entry TX) rfl) pa_nil))) (pe_one (pe_meth (pe_ix ix_tup (pv 1) pe_int (fun _ _ => rfl)) (cl_Spend TX) (mi_Spend_fits TX) G_Entry_fits (hr.mono (by decide)) b_Entry_fits .nil pass0 (pa_cons (pv 0) (pa_cons (pe_ix ix_tup (pv 1) pe_int (fun _ _ => rfl)) pa_nil)))))))), ?_⟩
    walk_at "kp0"
    walk_at "kp"
    refine rc_isi (.ins ce) (.own _) ke ?_
    walk_at "kp"
    refine ⟨_, insD1, lm_Spend_fits .., ?_⟩
    walk_at "kp"
  · refine ⟨_, (pss_cons (ps_if (PW.pt (pw_or (pt_not (pt_val (pe_callB call_isi rfl (n_isinstance TX) (by decide +kernel) (pa_cons (pv 1) (pa_cons (pe_bltn (v := .ty "tuple") rfl (n_tuple TX) (by decide +kernel) rfl) pa_nil))))) (pw_or (pt_cmpR op_ne (pe_callB call_len rfl (n_len TX) PySem.boot_len (pa_cons (pv 1) pa_nil)) pe_int (nomark _)) (pw_or1 (pt_not (pt_val (pe_call G_is_day (hr.mono (by decide)) rfl (g_is_day TX) kp_is_day b_is_day .nil pass0 (pa_cons (pv 0) (pa_cons (pe_ix ix_tup (pv 1) pe_int (fun _ _ => rfl)) pa_nil))))))))) (pss_one (ps_ret pe_bl)) pss_nil)
    (pss_one (ps_ret (pe_and (pe_callB call_isi rfl (n_isinstance TX) (by decide +kernel) (pa_cons (pe_ix ix_tup (pv 1) pe_int (fun _ _ => rfl)) (pa_cons (pe_glob (v := .ref (He.ga K "Entry")) rfl (g_Entry TX) rfl) pa_nil))) (pe_one (pe_meth (pe_ix ix_tup (pv 1) pe_int (fun _ _ => rfl)) (cl_Promise TX) (mi_Promise_fits TX) G_Entry_fits (hr.mono (by decide)) b_Entry_fits .nil pass0 (pa_cons (pv 0) (pa_cons (pe_ix ix_tup (pv 1) pe_int (fun _ _ => rfl)) pa_nil)))))))), ?_⟩
    walk_at "kp0"
    walk_at "kp"
    refine rc_isi (.ins ce) (.own _) ke ?_
    walk_at "kp"
    refine ⟨_, insD1, lm_Promise_fits .., ?_⟩
    walk_at "kp"
  · refine ⟨_, (pss_cons (ps_if (PW.pt (pw_or (pt_not (pt_val (pe_callB call_isi rfl (n_isinstance TX) (by decide +kernel) (pa_cons (pv 1) (pa_cons (pe_bltn (v := .ty "tuple") rfl (n_tuple TX) (by decide +kernel) rfl) pa_nil))))) (pw_or (pt_cmpR op_ne (pe_callB call_len rfl (n_len TX) PySem.boot_len (pa_cons (pv 1) pa_nil)) pe_int (nomark _)) (pw_or1 (pt_not (pt_val (pe_call G_is_day (hr.mono (by decide)) rfl (g_is_day TX) kp_is_day b_is_day .nil pass0 (pa_cons (pv 0) (pa_cons (pe_ix ix_tup (pv 1) pe_int (fun _ _ => rfl)) pa_nil))))))))) (pss_one (ps_ret pe_bl)) pss_nil)
    (pss_one (ps_ret (pe_and (pe_callB call_isi rfl (n_isinstance TX) (by decide +kernel) (pa_cons (pe_ix ix_tup (pv 1) pe_int (fun _ _ => rfl)) (pa_cons (pe_glob (v := .ref (He.ga K "Entry")) rfl (g_Entry TX) rfl) pa_nil))) (pe_one (pe_meth (pe_ix ix_tup (pv 1) pe_int (fun _ _ => rfl)) (cl_Lessen TX) (mi_Lessen_fits TX) G_Entry_fits (hr.mono (by decide)) b_Entry_fits .nil pass0 (pa_cons (pv 0) (pa_cons (pe_ix ix_tup (pv 1) pe_int (fun _ _ => rfl)) pa_nil)))))))), ?_⟩
    walk_at "kp0"
    walk_at "kp"
    refine rc_isi (.ins ce) (.own _) ke ?_
    walk_at "kp"
    refine ⟨_, insD1, lm_Lessen_fits .., ?_⟩
    walk_at "kp"
  · refine ⟨_, (pss_cons (ps_if (PW.pt (pw_or (pt_not (pt_val (pe_callB call_isi rfl (n_isinstance TX) (by decide +kernel) (pa_cons (pv 1) (pa_cons (pe_bltn (v := .ty "tuple") rfl (n_tuple TX) (by decide +kernel) rfl) pa_nil))))) (pw_or (pt_cmpR op_ne (pe_callB call_len rfl (n_len TX) PySem.boot_len (pa_cons (pv 1) pa_nil)) pe_int (nomark _)) (pw_or1 (pt_not (pt_val (pe_call G_is_day (hr.mono (by decide)) rfl (g_is_day TX) kp_is_day b_is_day .nil pass0 (pa_cons (pv 0) (pa_cons (pe_ix ix_tup (pv 1) pe_int (fun _ _ => rfl)) pa_nil))))))))) (pss_one (ps_ret pe_bl)) pss_nil)
    (pss_one (ps_ret (pe_and (pe_callB call_isi rfl (n_isinstance TX) (by decide +kernel) (pa_cons (pe_ix ix_tup (pv 1) pe_int (fun _ _ => rfl)) (pa_cons (pe_glob (v := .ref (He.ga K "Entry")) rfl (g_Entry TX) rfl) pa_nil))) (pe_one (pe_meth (pe_ix ix_tup (pv 1) pe_int (fun _ _ => rfl)) (cl_Out TX) (mi_Out_fits TX) G_Entry_fits (hr.mono (by decide)) b_Entry_fits .nil pass0 (pa_cons (pv 0) (pa_cons (pe_ix ix_tup (pv 1) pe_int (fun _ _ => rfl)) pa_nil)))))))), ?_⟩
    walk_at "kp0"
    walk_at "kp"
    refine rc_isi (.ins ce) (.own _) ke ?_
    walk_at "kp"
    refine ⟨_, insD1, lm_Out_fits .., ?_⟩
    walk_at "kp"


end
end Kp

set_option maxHeartbeats 4000000
namespace Kp
open PySem PySem.Spec PyProof.Rows L2
local macro_rules | `(tactic| walk_at "kp0") => `(tactic| try dsimp only [cxOf, Cx.nox, Cx.wish])
local macro_rules | `(tactic| walk_at "kp1") => `(tactic| first
  | with_reducible refine rs_seq ?_
  | with_reducible refine re_var rfl ?_
  | with_reducible refine re_int ?_
  | with_reducible refine re_str ?_
  | with_reducible refine re_op ?_
  | with_reducible refine re_cb ?_
  | with_reducible refine ra_cons ?_
  | ((with_reducible refine ra_nil ?_); first
      | refine Exists.intro _ ⟨rfl, ?_⟩
      | refine ⟨_, _, rfl, ?_⟩
      | refine ⟨_, _, _, rfl, ?_⟩
      | refine ⟨_, _, _, _, rfl, ?_⟩
      | refine ⟨_, _, _, _, _, rfl, ?_⟩
      | refine ⟨_, _, _, _, _, _, rfl, ?_⟩
      | refine And.intro rfl ?_)
  | with_reducible refine ra_nil ?_
  | with_reducible refine rs_ret ?_
  | with_reducible refine rs_asg ?_
  | with_reducible refine rg_name ?_
  | with_reducible refine rs_if ?_
  | with_reducible refine rt_test ?_
  | with_reducible refine rt_B ?_
  | with_reducible refine re_call ?_
  | with_reducible refine rr_int0 ?_
  | with_reducible refine rr_bl0 ?_
  | with_reducible refine rr_I0 rfl ?_
  | with_reducible refine re_bl ?_
  | with_reducible refine re_non ?_
  | with_reducible refine re_ty ?_
  | with_reducible refine re_ref ?_
  | with_reducible refine rs_drop ?_
  | with_reducible refine re_chain ?_
  | with_reducible refine re_andV ?_
  | with_reducible refine re_orV ?_
  | with_reducible refine re_notV ?_
  | with_reducible refine rt_not ?_
  | with_reducible refine rt_and ?_
  | with_reducible refine rt_or ?_
  | with_reducible refine rs_next ?_
  | with_reducible refine rs_cont ?_
  | with_reducible refine rs_break ?_
  | with_reducible refine rs_retN ?_
  | with_reducible refine rr_eq rfl ?_
  | with_reducible refine rr_ne rfl ?_
  | with_reducible refine rr_mulR (by omega) ?_
  | with_reducible refine rr_mulL (by omega) ?_
  | with_reducible refine rr_mod (by omega) ?_
  | with_reducible refine rr_fdiv (by omega) ?_
  | with_reducible refine ro_none ?_
  | with_reducible refine ro_some ?_
  | with_reducible refine re_tup ?_
  | with_reducible refine rg_tup tupD1 rfl ?_
  | with_reducible refine rgs_cons ?_
  | with_reducible refine rgs_nil ?_
  | with_reducible refine rr_ixT0 ?_
  | with_reducible refine rr_ixT1 ?_
  | with_reducible refine rr_ixT2 ?_
  | with_reducible refine rr_ixT3 ?_
  | with_reducible refine rr_ixT4 ?_
  | with_reducible refine rr_ixT5 ?_
  | with_reducible refine rr_isN ?_
  | with_reducible refine rr_notN ?_
  | with_reducible refine rcI1 ?_
  | with_reducible refine rcI2 ?_
  | with_reducible refine rcI3 ?_
  | with_reducible refine rcI4 ?_
  | with_reducible refine rcI5 ?_
  | with_reducible refine rc_listL ?_
  | with_reducible refine rc_lenL ?_
  | with_reducible refine rc_lenT ?_
  | with_reducible refine rc_min2 ?_
  | with_reducible refine rc_intB ?_
  | with_reducible refine re_strip ?_
  | with_reducible refine re_lst (tA := tCons _ _) ?_
  | with_reducible refine re_fld ?_
  | with_reducible refine rs_fld ?_
  | with_reducible refine re_meth ?_
  | with_reducible exact rfl
  | with_reducible refine andT ?_
  | with_reducible refine andF ?_
  | refine Exists.intro _ ⟨rfl, ?_⟩
  | refine andT ?_
  | refine andF ?_
  | assumption
  | refine And.intro rfl ?_
  | refine And.intro (by assumption) ?_
  | with_reducible refine And.intro (Nat.le_of_ble_eq_true rfl) ?_
  | with_reducible refine And.intro (by omega) ?_)
local macro_rules | `(tactic| walk_at "kp") => `(tactic| repeat (walk_at "kp1"))
section
variable {P : Program} {w : World} {K : PySem.W.Frag} {mg : Str → Option Value} {base : Heap}
inductive Lab where
  | self | money | words | loads | ends | sum (h : Str) | day (d : Int)
deriving DecidableEq
def lset (ct : Lab → Option Cell) (l : Lab) (c : Option Cell) : Lab → Option Cell := fun x => if x = l then c else ct x
def aset (ad : Lab → Addr) (l : Lab) (p : Addr) : Lab → Addr := fun x => if x = l then p else ad x
theorem lset_same {ct : Lab → Option Cell} {l : Lab} {c : Option Cell} : lset ct l c l = c := if_pos rfl
theorem lset_ne {ct : Lab → Option Cell} {l l' : Lab} {c : Option Cell} (h : l' ≠ l) : lset ct l c l' = ct l' := if_neg h
theorem aset_same {ad : Lab → Addr} {l : Lab} {p : Addr} : aset ad l p l = p := if_pos rfl
theorem aset_ne {ad : Lab → Addr} {l l' : Lab} {p : Addr} (h : l' ≠ l) : aset ad l p l' = ad l' := if_neg h
structure Lay (ad : Lab → Addr) (ct : Lab → Option Cell) (M : Mem) : Prop where
  cell : ∀ l c, ct l = some c → M (ad l) = some c
  inj : ∀ l l' c c', ct l = some c → ct l' = some c' → ad l = ad l' → l = l'
section
variable {ad : Lab → Addr} {ct : Lab → Option Cell} {M : Mem} {l : Lab} {c c0 : Cell} {p : Addr}
theorem Lay.upd (L : Lay ad ct M) (h : ct l = some c0) : Lay ad (lset ct l (some c)) (mset M (ad l) c) := by
  have live : ∀ l' c', lset ct l (some c) l' = some c' → ∃ c2, ct l' = some c2 := fun l' c' e => by
    by_cases q : l' = l
    · exact ⟨c0, by rw [q]; exact h⟩
    · rw [lset_ne q] at e
      exact ⟨c', e⟩
  refine ⟨fun l' c' e => ?_, fun l1 l2 c1 c2 e1 e2 => ?_⟩
  · by_cases q : l' = l
    · subst q
      rw [lset_same] at e
      cases e
      exact mset_same
    · obtain ⟨c2, h2⟩ := live l' c' e
      rw [lset_ne q] at e
      rw [mset_ne (fun z => q (L.inj _ _ _ _ h2 h z))]
      exact L.cell _ _ e
  · obtain ⟨_, h1⟩ := live l1 c1 e1
    obtain ⟨_, h2⟩ := live l2 c2 e2
    exact L.inj _ _ _ _ h1 h2
theorem Lay.new (L : Lay ad ct M) (h : ct l = none) (hp : M p = none) : Lay (aset ad l p) (lset ct l (some c)) (mset M p c) := by
  have ne : ∀ l' c', ct l' = some c' → ad l' ≠ p := fun l' c' e z => by
    have := L.cell _ _ e
    rw [z, hp] at this
    cases this
  refine ⟨fun l' c' e => ?_, fun l1 l2 c1 c2 e1 e2 w => ?_⟩
  · by_cases q : l' = l
    · subst q
      rw [lset_same] at e
      cases e
      rw [aset_same]
      exact mset_same
    · rw [lset_ne q] at e
      rw [aset_ne q, mset_ne (ne _ _ e)]
      exact L.cell _ _ e
  · by_cases q1 : l1 = l
    · by_cases q2 : l2 = l
      · rw [q1, q2]
      · rw [lset_ne q2] at e2
        rw [q1, aset_same, aset_ne q2] at w
        exact absurd w.symm (ne _ _ e2)
    · rw [lset_ne q1] at e1
      by_cases q2 : l2 = l
      · rw [q2, aset_same, aset_ne q1] at w
        exact absurd w (ne _ _ e1)
      · rw [lset_ne q2] at e2
        rw [aset_ne q1, aset_ne q2] at w
        exact L.inj _ _ _ _ e1 e2 w
theorem Lay.del (L : Lay ad ct M) (h : ct l = some c0) : Lay ad (lset ct l none) (mdel M (ad l)) := by
  have live : ∀ l' c', lset ct l none l' = some c' → l' ≠ l ∧ ct l' = some c' := fun l' c' e => by
    by_cases q : l' = l
    · rw [q, lset_same] at e
      cases e
    · rw [lset_ne q] at e
      exact ⟨q, e⟩
  refine ⟨fun l' c' e => ?_, fun l1 l2 c1 c2 e1 e2 => ?_⟩
  · obtain ⟨q, e⟩ := live _ _ e
    rw [mdel_ne (fun z => q (L.inj _ _ _ _ e h z))]
    exact L.cell _ _ e
  · exact L.inj _ _ _ _ (live _ _ e1).2 (live _ _ e2).2
theorem Lay.more (L : Lay ad ct M) (hp : M p = none) : Lay ad ct (mset M p c) := ⟨fun l' c' e => mset_less hp _ _ (L.cell _ _ e), L.inj⟩
end
structure Sums where
  g : Int
  m : Int
  s : Int
  p : Int
  h : Int
def sumsK (x : Sums) : List (Key × D) := [(.inr "given", .int x.g), (.inr "moved", .int x.m), (.inr "spent", .int x.s), (.inr "promised", .int x.p), (.inr "held", .int x.h)]
structure Cst where
  money : Str → Sums
  words : Str → Option (Str × Int)
  loads : List Int
  ends : Int → List (Str × Int)
def encHC (q : Str × Int) : D := .tup [.str q.1, .int q.2]
def ctSelf (K : PySem.W.Frag) (Y : Yr) (ad : Lab → Addr) : Cell := .ins (He.ga K "Count") (fsCount (encY K Y) (.ref (ad .money)) (.ref (ad .words)) (.ref (ad .loads)) (.lst (Y.limits.map fun l => .lst ((undY Y l.1).map D.str))) (.ref (ad .ends)))
structure CM (K : PySem.W.Frag) (Y : Yr) (n : Nat) (st : Cst) (M : Mem) (ad : Lab → Addr) (ct : Lab → Option Cell) (kw ke : List (Key × D)) : Prop where
  y : YGood Y
  lay : Lay ad ct M
  self : ct .self = some (ctSelf K Y ad)
  money : ct .money = some (.dic (Y.names.map fun h => (.inr h, .ref (ad (.sum h)))))
  sum : ∀ h ∈ Y.names, ct (.sum h) = some (.dic (sumsK (st.money h)))
  words : ct .words = some (.dic kw)
  wget : ∀ w, getD kw (.inr w) = (st.words w).map encHC
  wlen : kw.length ≤ n
  whd : ∀ w h c, st.words w = some (h, c) → h ∈ Y.names
  loads : ct .loads = some (.lst (st.loads.map D.int))
  llen : st.loads.length = Y.limits.length
  ends : ct .ends = some (.dic ke)
  day : ∀ d, (ct (.day d) = none ∧ getD ke (.inl d) = none ∧ st.ends d = []) ∨ (ct (.day d) = some (.lst ((st.ends d).map encHC)) ∧ getD ke (.inl d) = some (.ref (ad (.day d))))
  elen : ke.length ≤ n
  dlen : ∀ d, (st.ends d).length ≤ n
  dhd : ∀ d q, q ∈ st.ends d → q.1 ∈ Y.names
def CountM (K : PySem.W.Frag) (Y : Yr) (c : Addr) (n : Nat) (st : Cst) (M : Mem) : Prop := ∃ ad ct kw ke, CM K Y n st M ad ct kw ke ∧ ad .self = c
theorem get_money {Y : Yr} {ad : Lab → Addr} {h : Str} (hh : h ∈ Y.names) : getD (Y.names.map fun h => ((.inr h : Key), D.ref (ad (.sum h)))) (.inr h) = some (.ref (ad (.sum h))) := by
  revert hh
  generalize Y.names = ns
  intro hh
  induction ns with
  | nil => cases hh
  | cons x r ih =>
    unfold getD
    rw [List.map_cons, List.find?_cons]
    by_cases e : x = h
    · subst e
      rw [decide_eq_true rfl]
      rfl
    · have e2 : decide ((Sum.inr x : Key) = .inr h) = false := decide_eq_false fun z => e (Sum.inr.inj z)
      rw [e2]
      exact ih ((List.mem_cons.mp hh).resolve_left fun z => e z.symm)
def setM (st : Cst) (h : Str) (x : Sums) : Cst := { st with money := fun z => if z = h then x else st.money z }
section
variable {Y : Yr} {n : Nat} {st : Cst} {M : Mem} {ad : Lab → Addr} {ct : Lab → Option Cell} {kw ke : List (Key × D)} {p : Addr} {c : Cell}
theorem CM.more (C : CM K Y n st M ad ct kw ke) (hp : M p = none) : CM K Y n st (mset M p c) ad ct kw ke := { C with lay := C.lay.more hp }
theorem CM.mono {n' : Nat} (C : CM K Y n st M ad ct kw ke) (h : n ≤ n') : CM K Y n' st M ad ct kw ke := { C with wlen := by have := C.wlen; omega, elen := by have := C.elen; omega, dlen := fun d => by have := C.dlen d; omega }
theorem CM.at (C : CM K Y n st M ad ct kw ke) {l : Lab} (h : ct l = some c) : M (ad l) = some c := C.lay.cell _ _ h
theorem CM.putM {h : Str} {x : Sums} (C : CM K Y n st M ad ct kw ke) (hh : h ∈ Y.names) : CM K Y n (setM st h x) (mset M (ad (.sum h)) (.dic (sumsK x))) ad (lset ct (.sum h) (some (.dic (sumsK x)))) kw ke :=
  { y := C.y, lay := C.lay.upd (C.sum h hh), self := by rw [lset_ne (by nofun)]; exact C.self, money := by rw [lset_ne (by nofun)]; exact C.money
    sum := fun h' hh' => by
      by_cases e : h' = h
      · subst e
        rw [lset_same]
        show _ = some (Cell.dic (sumsK (if h' = h' then x else st.money h')))
        rw [if_pos rfl]
      · rw [lset_ne (fun z => e (by injection z)), C.sum h' hh']
        show _ = some (Cell.dic (sumsK (if h' = h then x else st.money h')))
        rw [if_neg e]
    words := by rw [lset_ne (by nofun)]; exact C.words, wget := C.wget, wlen := C.wlen, whd := C.whd
    loads := by rw [lset_ne (by nofun)]; exact C.loads, llen := C.llen, ends := by rw [lset_ne (by nofun)]; exact C.ends
    day := fun d => by rw [lset_ne (by nofun)]; exact C.day d, elen := C.elen, dlen := C.dlen, dhd := C.dhd }
theorem CM.putL {ls : List Int} (C : CM K Y n st M ad ct kw ke) (hl : ls.length = st.loads.length) : CM K Y n { st with loads := ls } (mset M (ad .loads) (.lst (ls.map D.int))) ad (lset ct .loads (some (.lst (ls.map D.int)))) kw ke :=
  { y := C.y, lay := C.lay.upd C.loads, self := by rw [lset_ne (by nofun)]; exact C.self, money := by rw [lset_ne (by nofun)]; exact C.money
    sum := fun h' hh' => by rw [lset_ne (by nofun)]; exact C.sum h' hh'
    words := by rw [lset_ne (by nofun)]; exact C.words, wget := C.wget, wlen := C.wlen, whd := C.whd
    loads := lset_same, llen := hl.trans C.llen, ends := by rw [lset_ne (by nofun)]; exact C.ends
    day := fun d => by rw [lset_ne (by nofun)]; exact C.day d, elen := C.elen, dlen := C.dlen, dhd := C.dhd }
def setW (st : Cst) (w : Str) (x : Str × Int) : Cst := { st with words := fun z => if z = w then some x else st.words z }
theorem CM.putW {w : Str} {x : Str × Int} (C : CM K Y n st M ad ct kw ke) (hx : x.1 ∈ Y.names) : CM K Y (n + 1) (setW st w x) (mset M (ad .words) (.dic (setD kw (.inr w) (encHC x)))) ad (lset ct .words (some (.dic (setD kw (.inr w) (encHC x))))) (setD kw (.inr w) (encHC x)) ke :=
  { y := C.y, lay := C.lay.upd C.words, self := by rw [lset_ne (by nofun)]; exact C.self, money := by rw [lset_ne (by nofun)]; exact C.money
    sum := fun h' hh' => by rw [lset_ne (by nofun)]; exact C.sum h' hh'
    words := lset_same
    wget := fun z => by
      rw [getD_set, C.wget]
      show _ = Option.map encHC (if z = w then some x else st.words z)
      by_cases e : z = w
      · rw [if_pos e, e, if_pos rfl]
        rfl
      · rw [if_neg e, if_neg (fun q => e (Sum.inr.inj q))]
    wlen := by have := setD_length kw (.inr w) (encHC x); have := C.wlen; omega
    whd := fun z h c e => by
      have e' : (if z = w then some x else st.words z) = some (h, c) := e
      by_cases q : z = w
      · rw [if_pos q] at e'
        cases e'
        exact hx
      · rw [if_neg q] at e'
        exact C.whd z h c e'
    loads := by rw [lset_ne (by nofun)]; exact C.loads, llen := C.llen, ends := by rw [lset_ne (by nofun)]; exact C.ends
    day := fun d => by rw [lset_ne (by nofun)]; exact C.day d, elen := by have := C.elen; omega, dlen := fun d => Nat.le_succ_of_le (C.dlen d), dhd := C.dhd }
def addE (st : Cst) (u : Int) (q : Str × Int) : Cst := { st with ends := fun d => if d = u then st.ends d ++ [q] else st.ends d }
theorem addE_len {u : Int} {q : Str × Int} (C : CM K Y n st M ad ct kw ke) : ∀ d, ((addE st u q).ends d).length ≤ n + 1 := fun d => by
  show (if d = u then st.ends d ++ [q] else st.ends d).length ≤ n + 1
  have := C.dlen d
  split
  · rw [List.length_append, List.length_singleton]; omega
  · omega
theorem addE_hd {u : Int} {q : Str × Int} (C : CM K Y n st M ad ct kw ke) (hq : q.1 ∈ Y.names) : ∀ d z, z ∈ (addE st u q).ends d → z.1 ∈ Y.names := fun d z h => by
  have h' : z ∈ (if d = u then st.ends d ++ [q] else st.ends d) := h
  split at h'
  · rcases List.mem_append.mp h' with h' | h'
    · exact C.dhd d z h'
    · rw [List.mem_singleton.mp h']; exact hq
  · exact C.dhd d z h'
theorem CM.addOld {u : Int} {q : Str × Int} {c0 : Cell} (C : CM K Y n st M ad ct kw ke) (hq : q.1 ∈ Y.names) (h : ct (.day u) = some c0) : CM K Y (n + 1) (addE st u q) (mset M (ad (.day u)) (.lst ((st.ends u ++ [q]).map encHC))) ad (lset ct (.day u) (some (.lst ((st.ends u ++ [q]).map encHC)))) kw ke :=
  { y := C.y, lay := C.lay.upd h, self := by rw [lset_ne (by nofun)]; exact C.self, money := by rw [lset_ne (by nofun)]; exact C.money
    sum := fun h' hh' => by rw [lset_ne (by nofun)]; exact C.sum h' hh'
    words := by rw [lset_ne (by nofun)]; exact C.words, wget := C.wget, wlen := by have := C.wlen; omega, whd := C.whd
    loads := by rw [lset_ne (by nofun)]; exact C.loads, llen := C.llen, ends := by rw [lset_ne (by nofun)]; exact C.ends
    day := fun d => by
      by_cases e : d = u
      · subst e
        refine .inr ⟨?_, ?_⟩
        · rw [lset_same]
          show _ = some (Cell.lst ((if d = d then st.ends d ++ [q] else st.ends d).map encHC))
          rw [if_pos rfl]
        · rcases C.day d with ⟨z, _⟩ | ⟨_, z⟩
          · rw [z] at h; cases h
          · exact z
      · rw [lset_ne (fun z => e (by injection z))]
        show (_ ∧ _ ∧ (if d = u then _ else st.ends d) = _) ∨ (_ = some (Cell.lst ((if d = u then _ else st.ends d).map encHC)) ∧ _)
        rw [if_neg e]
        exact C.day d
    elen := by have := C.elen; omega, dlen := addE_len C, dhd := addE_hd C hq }
theorem CM.addNew {u : Int} {q : Str × Int} (C : CM K Y n st M ad ct kw ke) (hq : q.1 ∈ Y.names) (h : ct (.day u) = none) (hp : M p = none) :
    CM K Y (n + 1) (addE st u q) (mset (mset M p (.lst [encHC q])) (ad .ends) (.dic (setD ke (.inl u) (.ref p)))) (aset ad (.day u) p) (lset (lset ct (.day u) (some (.lst [encHC q]))) .ends (some (.dic (setD ke (.inl u) (.ref p))))) kw (setD ke (.inl u) (.ref p)) := by
  have hend : aset ad (.day u) p .ends = ad .ends := aset_ne (by nofun)
  have hself : ctSelf K Y (aset ad (.day u) p) = ctSelf K Y ad := by
    unfold ctSelf
    rw [aset_ne (l' := .money) (by nofun), aset_ne (l' := .words) (by nofun), aset_ne (l' := .loads) (by nofun), aset_ne (l' := .ends) (by nofun)]
  have L := (C.lay.new (c := .lst [encHC q]) h hp).upd (l := .ends) (c := .dic (setD ke (.inl u) (.ref p))) (by rw [lset_ne (by nofun)]; exact C.ends)
  rw [hend] at L
  have eu : st.ends u = [] := by
    rcases C.day u with ⟨_, _, z⟩ | ⟨z, _⟩
    · exact z
    · rw [h] at z; cases z
  exact
  { y := C.y, lay := L, self := by rw [lset_ne (by nofun), lset_ne (by nofun), hself]; exact C.self
    money := by
      rw [lset_ne (by nofun), lset_ne (by nofun), C.money]
      congr 2
    sum := fun h' hh' => by rw [lset_ne (by nofun), lset_ne (by nofun)]; exact C.sum h' hh'
    words := by rw [lset_ne (by nofun), lset_ne (by nofun)]; exact C.words, wget := C.wget, wlen := by have := C.wlen; omega, whd := C.whd
    loads := by rw [lset_ne (by nofun), lset_ne (by nofun)]; exact C.loads, llen := C.llen, ends := lset_same
    day := fun d => by
      rw [lset_ne (by nofun)]
      by_cases e : d = u
      · subst e
        refine .inr ⟨?_, ?_⟩
        · rw [lset_same]
          show _ = some (Cell.lst ((if d = d then st.ends d ++ [q] else st.ends d).map encHC))
          rw [if_pos rfl, eu]
          rfl
        · rw [getD_set, if_pos rfl, aset_same]
      · rw [lset_ne (fun z => e (by injection z)), getD_set, if_neg (fun z => e (Sum.inl.inj z)), aset_ne (fun z => e (by injection z))]
        show (_ ∧ _ ∧ (if d = u then _ else st.ends d) = _) ∨ (_ = some (Cell.lst ((if d = u then _ else st.ends d).map encHC)) ∧ _)
        rw [if_neg e]
        exact C.day d
    elen := by have := setD_length ke (.inl u) (.ref p); have := C.elen; omega
    dlen := addE_len C, dhd := addE_hd C hq }
def delE (st : Cst) (u : Int) : Cst := { st with ends := fun d => if d = u then [] else st.ends d }
theorem CM.delE {u : Int} {c0 : Cell} (C : CM K Y n st M ad ct kw ke) (h : ct (.day u) = some c0) : CM K Y n (delE st u) (mdel (mset M (ad .ends) (.dic (dropD ke (.inl u)))) (ad (.day u))) ad (lset (lset ct .ends (some (.dic (dropD ke (.inl u))))) (.day u) none) kw (dropD ke (.inl u)) :=
  { y := C.y, lay := (C.lay.upd C.ends).del (c0 := c0) (by rw [lset_ne (by nofun)]; exact h), self := by rw [lset_ne (by nofun), lset_ne (by nofun)]; exact C.self
    money := by rw [lset_ne (by nofun), lset_ne (by nofun)]; exact C.money
    sum := fun h' hh' => by rw [lset_ne (by nofun), lset_ne (by nofun)]; exact C.sum h' hh'
    words := by rw [lset_ne (by nofun), lset_ne (by nofun)]; exact C.words, wget := C.wget, wlen := C.wlen, whd := C.whd
    loads := by rw [lset_ne (by nofun), lset_ne (by nofun)]; exact C.loads, llen := C.llen, ends := by rw [lset_ne (by nofun)]; exact lset_same
    day := fun d => by
      by_cases e : d = u
      · subst e
        refine .inl ⟨lset_same, ?_, ?_⟩
        · rw [getD_drop, if_pos rfl]
        · show (if d = d then [] else st.ends d) = []
          rw [if_pos rfl]
      · rw [lset_ne (fun z => e (by injection z)), lset_ne (by nofun), getD_drop, if_neg (fun z => e (Sum.inl.inj z))]
        show (_ ∧ _ ∧ (if d = u then _ else st.ends d) = _) ∨ (_ = some (Cell.lst ((if d = u then _ else st.ends d).map encHC)) ∧ _)
        rw [if_neg e]
        exact C.day d
    elen := by have := dropD_length ke (.inl u); have := C.elen; omega
    dlen := fun d => by
      show (if d = u then [] else st.ends d).length ≤ n
      have := C.dlen d
      split
      · exact Nat.zero_le _
      · exact this
    dhd := fun d z hz => by
      have hz' : z ∈ (if d = u then [] else st.ends d) := hz
      split at hz'
      · cases hz'
      · exact C.dhd d z hz' }
end


end
end Kp

set_option maxHeartbeats 4000000
namespace Kp
open PySem PySem.Spec PyProof.Rows L2
local macro_rules | `(tactic| walk_at "kp0") => `(tactic| try dsimp only [cxOf, Cx.nox, Cx.wish])
local macro_rules | `(tactic| walk_at "kp1") => `(tactic| first
  | with_reducible refine rs_seq ?_
  | with_reducible refine re_var rfl ?_
  | with_reducible refine re_int ?_
  | with_reducible refine re_str ?_
  | with_reducible refine re_op ?_
  | with_reducible refine re_cb ?_
  | with_reducible refine ra_cons ?_
  | ((with_reducible refine ra_nil ?_); first
      | refine Exists.intro _ ⟨rfl, ?_⟩
      | refine ⟨_, _, rfl, ?_⟩
      | refine ⟨_, _, _, rfl, ?_⟩
      | refine ⟨_, _, _, _, rfl, ?_⟩
      | refine ⟨_, _, _, _, _, rfl, ?_⟩
      | refine ⟨_, _, _, _, _, _, rfl, ?_⟩
      | refine And.intro rfl ?_)
  | with_reducible refine ra_nil ?_
  | with_reducible refine rs_ret ?_
  | with_reducible refine rs_asg ?_
  | with_reducible refine rg_name ?_
  | with_reducible refine rs_if ?_
  | with_reducible refine rt_test ?_
  | with_reducible refine rt_B ?_
  | with_reducible refine re_call ?_
  | with_reducible refine rr_int0 ?_
  | with_reducible refine rr_bl0 ?_
  | with_reducible refine rr_I0 rfl ?_
  | with_reducible refine re_bl ?_
  | with_reducible refine re_non ?_
  | with_reducible refine re_ty ?_
  | with_reducible refine re_ref ?_
  | with_reducible refine rs_drop ?_
  | with_reducible refine re_chain ?_
  | with_reducible refine re_andV ?_
  | with_reducible refine re_orV ?_
  | with_reducible refine re_notV ?_
  | with_reducible refine rt_not ?_
  | with_reducible refine rt_and ?_
  | with_reducible refine rt_or ?_
  | with_reducible refine rs_next ?_
  | with_reducible refine rs_cont ?_
  | with_reducible refine rs_break ?_
  | with_reducible refine rs_retN ?_
  | with_reducible refine rr_eq rfl ?_
  | with_reducible refine rr_ne rfl ?_
  | with_reducible refine rr_mulR (by omega) ?_
  | with_reducible refine rr_mulL (by omega) ?_
  | with_reducible refine rr_mod (by omega) ?_
  | with_reducible refine rr_fdiv (by omega) ?_
  | with_reducible refine ro_none ?_
  | with_reducible refine ro_some ?_
  | with_reducible refine re_tup ?_
  | with_reducible refine rg_tup tupD1 rfl ?_
  | with_reducible refine rgs_cons ?_
  | with_reducible refine rgs_nil ?_
  | with_reducible refine rr_ixT0 ?_
  | with_reducible refine rr_ixT1 ?_
  | with_reducible refine rr_ixT2 ?_
  | with_reducible refine rr_ixT3 ?_
  | with_reducible refine rr_ixT4 ?_
  | with_reducible refine rr_ixT5 ?_
  | with_reducible refine rr_isN ?_
  | with_reducible refine rr_notN ?_
  | with_reducible refine rcI1 ?_
  | with_reducible refine rcI2 ?_
  | with_reducible refine rcI3 ?_
  | with_reducible refine rcI4 ?_
  | with_reducible refine rcI5 ?_
  | with_reducible refine rc_listL ?_
  | with_reducible refine rc_lenL ?_
  | with_reducible refine rc_lenT ?_
  | with_reducible refine rc_min2 ?_
  | with_reducible refine rc_intB ?_
  | with_reducible refine re_strip ?_
  | with_reducible refine re_lst (tA := tCons _ _) ?_
  | with_reducible refine re_fld ?_
  | with_reducible refine rs_fld ?_
  | with_reducible refine re_meth ?_
  | with_reducible exact rfl
  | with_reducible refine andT ?_
  | with_reducible refine andF ?_
  | refine Exists.intro _ ⟨rfl, ?_⟩
  | refine andT ?_
  | refine andF ?_
  | assumption
  | refine And.intro rfl ?_
  | refine And.intro (by assumption) ?_
  | with_reducible refine And.intro (Nat.le_of_ble_eq_true rfl) ?_
  | with_reducible refine And.intro (by omega) ?_)
local macro_rules | `(tactic| walk_at "kp") => `(tactic| repeat (walk_at "kp1"))
section
variable {P : Program} {w : World} {K : PySem.W.Frag} {mg : Str → Option Value} {base : Heap}
theorem sums_get_h {x : Sums} : getD (sumsK x) (.inr "held") = some (.int x.h) := rfl
theorem sums_set_h {x : Sums} {i : Int} : setD (sumsK x) (.inr "held") (.int i) = sumsK { x with h := i } := rfl
theorem sums_get_g {x : Sums} : getD (sumsK x) (.inr "given") = some (.int x.g) := rfl
theorem sums_set_g {x : Sums} {i : Int} : setD (sumsK x) (.inr "given") (.int i) = sumsK { x with g := i } := rfl
theorem sums_get_m {x : Sums} : getD (sumsK x) (.inr "moved") = some (.int x.m) := rfl
theorem sums_set_m {x : Sums} {i : Int} : setD (sumsK x) (.inr "moved") (.int i) = sumsK { x with m := i } := rfl
theorem sums_get_s {x : Sums} : getD (sumsK x) (.inr "spent") = some (.int x.s) := rfl
theorem sums_set_s {x : Sums} {i : Int} : setD (sumsK x) (.inr "spent") (.int i) = sumsK { x with s := i } := rfl
theorem sums_get_p {x : Sums} : getD (sumsK x) (.inr "promised") = some (.int x.p) := rfl
theorem sums_set_p {x : Sums} {i : Int} : setD (sumsK x) (.inr "promised") (.int i) = sumsK { x with p := i } := rfl
section
variable {Y : Yr} {n : Nat} {st : Cst} {M : Mem} {ad : Lab → Addr} {ct : Lab → Option Cell} {kw ke : List (Key × D)}
/-- self.money[h][w] += j -/
theorem rs_money (TX : Txt K mg base) {δ : DEnv} {E : DE} {th tv : TE} {rd : V → V → Hp → VK → Prop} {g : Int → Int → Int} {h wd : Str} {i j : Int} (x : Sums) (C : CM K Y n st M ad ct kw ke) (hrd : ∀ i j H Q, Q (.int (g i j)) H → rd (.int i) (.int j) H Q)
    (me : δ[0]? = some (some (.ref (ad .self)))) (hh : h ∈ Y.names) (hg : getD (sumsK (st.money h)) (.inr wd) = some (.int i)) (hx : setD (sumsK (st.money h)) (.inr wd) (.int (g i j)) = sumsK x) (hth : RE K th δ M fun d M1 => d = .str h ∧ M1 = M) (htv : RE K tv δ M fun d M1 => d = .int j ∧ M1 = M)
    (fin : CM K Y n (setM st h x) (mset M (ad (.sum h)) (.dic (sumsK x))) ad (lset ct (.sum h) (some (.dic (sumsK x)))) kw ke → E.nx δ (mset M (ad (.sum h)) (.dic (sumsK x)))) : RS K (sDAug (tDGet (tFld K (tVar 0) "money") th) (tC (.str wd)) tv rd) δ M E := by
  refine rs_daug hrd (re_dget (re_fld (re_var me ?_)))
  refine ⟨_, _, _, insD2 (C.at C.self), cl_Count TX, na_Count_money TX, lk_Count_money .., ?_⟩
  refine hth.imp ?_
  rintro _ _ ⟨rfl, rfl⟩
  refine ⟨_, _, Sum.inr h, _, rfl, C.at C.money, rfl, get_money hh, ?_⟩
  refine re_str ⟨_, _, Sum.inr wd, i, rfl, C.at (C.sum h hh), rfl, hg, ?_⟩
  refine htv.imp ?_
  rintro _ _ ⟨rfl, rfl⟩
  refine ⟨_, _, rfl, C.at (C.sum h hh), by show 5 < 100000; decide, ?_⟩
  rw [hx]
  exact fin (C.putM hh)
end
def holdS (st : Cst) (h : Str) (c u : Int) : Cst := addE (setM st h { st.money h with h := (st.money h).h + c }) u (h, c)
def spc_Count_hold (K : PySem.W.Frag) : Spc := fun ds M Pc => ∃ (Y : Yr) (a : Addr) (n : Nat) (st : Cst) (h : Str) (c u : Int), ds = [.ref a, .str h, .int c, .int u] ∧ CountM K Y a n st M ∧ n < 10000 ∧ h ∈ Y.names ∧ ∀ M', CountM K Y a (n + 1) (holdS st h c u) M' → Pc .non M'
theorem len_Count_hold (ds : List D) (M : Mem) (Pc : D → Mem → Prop) (h : spc_Count_hold K ds M Pc) : ds.length = 4 := by
  obtain ⟨_, _, _, _, _, _, _, rfl, _⟩ := h
  rfl
abbrev nm_Count_hold : List Str := ["self", "head", "coins", "until"]
theorem sc_Count_hold : FnScope nm_Count_hold ["self", "head", "coins", "until"] (defScope s_Count_hold) := ⟨rfl, rfl, rfl, by decide +kernel, rfl, by decide +kernel, by decide +kernel⟩
theorem ok_Count_hold (TX : Txt K mg base) : Kept P w K mg base 1 (He.fAd K ("Count", some "hold")) ["self", "head", "coins", "until"] (spc_Count_hold K) := by
  refine okD (fn_Count_hold TX) sc_Count_hold (fun _ _ _ _ _ _ us hl => match us, hl with | [_, _, _, _], _ => rfl) len_Count_hold fun cdv A outer s H E hr ds M Pc h => ?_
  obtain ⟨Y, a, n, st, h, c, u, rfl, ⟨ad, ct, kw, ke, C, rfl⟩, hn, hh, k⟩ := h
  refine ⟨_, (pss_cons (ps_daug (hu_of hr) (pe_dget (hu_of hr) (pe_fld (pv 0) rfl) (pv 1) (fun _ _ => rfl)) pe_str (pv 2) in_add (fun _ _ _ => rfl))
    (pss_one (ps_expr (pe_bm PySem.F.plainAttrs_list PySem.F.slot_list_append PySem.F.type_list_append mt_append (pe_dsetd (pe_fld (pv 0) rfl) (pv 3) (pe_lst pa_nil) ⟨by rfl, by rfl, by rfl, by rfl⟩) (pa_cons (pe_tup (pa_cons (pv 1) (pa_cons (pv 2) pa_nil))) pa_nil))))), ?_⟩
  walk_at "kp0"
  walk_at "kp"
  refine rs_money TX { st.money h with h := (st.money h).h + c } C rdAdd rfl hh sums_get_h sums_set_h (re_var rfl ⟨rfl, rfl⟩) (re_var rfl ⟨rfl, rfl⟩) fun C1 => ?_
  walk_at "kp"
  refine re_append (re_dsetd ?_)
  walk_at "kp"
  refine ⟨_, _, _, insD2 (C1.at C1.self), cl_Count TX, na_Count_ends TX, lk_Count_ends .., ?_⟩
  refine ⟨_, rfl, ⟨_, C1.at C1.ends⟩, ?_⟩
  walk_at "kp"
  refine re_lstM (ra_nil ⟨by decide, fun p hp => ?_⟩)
  have C2 := C1.more (c := .lst []) hp
  have hel := C1.elen
  refine ⟨_, Sum.inl u, C2.at C2.ends, rfl, by omega, fun d hd => ?_, fun hnone => ?_⟩
  · rcases C1.day u with ⟨_, z, _⟩ | ⟨z1, z2⟩
    · rw [z] at hd; cases hd
    rw [z2] at hd
    cases hd
    refine ⟨_, rfl, ⟨_, C2.at z1⟩, ?_⟩
    walk_at "kp"
    have hl := C1.dlen u
    refine ⟨_, C2.at z1, by rw [List.length_map]; omega, ?_⟩
    have C3 := C2.addOld (q := (h, c)) hh z1
    rw [List.map_append] at C3
    exact k _ ⟨ad, _, _, _, C3, rfl⟩
  · rcases C1.day u with ⟨z1, z2, z3⟩ | ⟨_, z2⟩
    · have C3 := C1.addNew (q := (h, c)) (p := p) hh z1 hp
      have hpe : p ≠ ad .ends := fun z => by
        have := C1.at C1.ends
        rw [← z, hp] at this
        cases this
      refine ⟨_, rfl, ⟨_, by rw [mset_ne hpe]; exact mset_same⟩, ?_⟩
      walk_at "kp"
      refine ⟨_, by rw [mset_ne hpe]; exact mset_same, by decide, ?_⟩
      rw [mset_comm (fun z => hpe z.symm), mset_mset]
      exact k _ ⟨_, _, _, _, C3, aset_ne (by nofun)⟩
    · rw [z2] at hnone; cases hnone


end
end Kp

set_option maxHeartbeats 4000000
namespace Kp
open PySem PySem.Spec PyProof.Rows L2
local macro_rules | `(tactic| walk_at "kp0") => `(tactic| try dsimp only [cxOf, Cx.nox, Cx.wish])
local macro_rules | `(tactic| walk_at "kp1") => `(tactic| first
  | with_reducible refine rs_seq ?_
  | with_reducible refine re_var rfl ?_
  | with_reducible refine re_int ?_
  | with_reducible refine re_str ?_
  | with_reducible refine re_op ?_
  | with_reducible refine re_cb ?_
  | with_reducible refine ra_cons ?_
  | ((with_reducible refine ra_nil ?_); first
      | refine Exists.intro _ ⟨rfl, ?_⟩
      | refine ⟨_, _, rfl, ?_⟩
      | refine ⟨_, _, _, rfl, ?_⟩
      | refine ⟨_, _, _, _, rfl, ?_⟩
      | refine ⟨_, _, _, _, _, rfl, ?_⟩
      | refine ⟨_, _, _, _, _, _, rfl, ?_⟩
      | refine And.intro rfl ?_)
  | with_reducible refine ra_nil ?_
  | with_reducible refine rs_ret ?_
  | with_reducible refine rs_asg ?_
  | with_reducible refine rg_name ?_
  | with_reducible refine rs_if ?_
  | with_reducible refine rt_test ?_
  | with_reducible refine rt_B ?_
  | with_reducible refine re_call ?_
  | with_reducible refine rr_int0 ?_
  | with_reducible refine rr_bl0 ?_
  | with_reducible refine rr_I0 rfl ?_
  | with_reducible refine re_bl ?_
  | with_reducible refine re_non ?_
  | with_reducible refine re_ty ?_
  | with_reducible refine re_ref ?_
  | with_reducible refine rs_drop ?_
  | with_reducible refine re_chain ?_
  | with_reducible refine re_andV ?_
  | with_reducible refine re_orV ?_
  | with_reducible refine re_notV ?_
  | with_reducible refine rt_not ?_
  | with_reducible refine rt_and ?_
  | with_reducible refine rt_or ?_
  | with_reducible refine rs_next ?_
  | with_reducible refine rs_cont ?_
  | with_reducible refine rs_break ?_
  | with_reducible refine rs_retN ?_
  | with_reducible refine rr_eq rfl ?_
  | with_reducible refine rr_ne rfl ?_
  | with_reducible refine rr_mulR (by omega) ?_
  | with_reducible refine rr_mulL (by omega) ?_
  | with_reducible refine rr_mod (by omega) ?_
  | with_reducible refine rr_fdiv (by omega) ?_
  | with_reducible refine ro_none ?_
  | with_reducible refine ro_some ?_
  | with_reducible refine re_tup ?_
  | with_reducible refine rg_tup tupD1 rfl ?_
  | with_reducible refine rgs_cons ?_
  | with_reducible refine rgs_nil ?_
  | with_reducible refine rr_ixT0 ?_
  | with_reducible refine rr_ixT1 ?_
  | with_reducible refine rr_ixT2 ?_
  | with_reducible refine rr_ixT3 ?_
  | with_reducible refine rr_ixT4 ?_
  | with_reducible refine rr_ixT5 ?_
  | with_reducible refine rr_isN ?_
  | with_reducible refine rr_notN ?_
  | with_reducible refine rcI1 ?_
  | with_reducible refine rcI2 ?_
  | with_reducible refine rcI3 ?_
  | with_reducible refine rcI4 ?_
  | with_reducible refine rcI5 ?_
  | with_reducible refine rc_listL ?_
  | with_reducible refine rc_lenL ?_
  | with_reducible refine rc_lenT ?_
  | with_reducible refine rc_min2 ?_
  | with_reducible refine rc_intB ?_
  | with_reducible refine re_strip ?_
  | with_reducible refine re_lst (tA := tCons _ _) ?_
  | with_reducible refine re_fld ?_
  | with_reducible refine rs_fld ?_
  | with_reducible refine re_meth ?_
  | with_reducible exact rfl
  | with_reducible refine andT ?_
  | with_reducible refine andF ?_
  | refine Exists.intro _ ⟨rfl, ?_⟩
  | refine andT ?_
  | refine andF ?_
  | assumption
  | refine And.intro rfl ?_
  | refine And.intro (by assumption) ?_
  | with_reducible refine And.intro (Nat.le_of_ble_eq_true rfl) ?_
  | with_reducible refine And.intro (by omega) ?_)
local macro_rules | `(tactic| walk_at "kp") => `(tactic| repeat (walk_at "kp1"))
section
variable {P : Program} {w : World} {K : PySem.W.Frag} {mg : Str → Option Value} {base : Heap}
def loadV (Y : Yr) (h : Str) (date more : Int) (l : Lim) (v : Int) : Int := if (l.2.1 ≤ date ∧ date ≤ l.2.2.1) ∧ h ∈ undY Y l.1 then v + more else v
def loadL (Y : Yr) (h : Str) (date more : Int) (ls : List Int) : List Int := List.zipWith (loadV Y h date more) Y.limits ls
def loadS (Y : Yr) (st : Cst) (h : Str) (date more : Int) : Cst := { st with loads := loadL Y h date more st.loads }
theorem len_loadL {Y : Yr} {h : Str} {date more : Int} {ls : List Int} (e : ls.length = Y.limits.length) : (loadL Y h date more ls).length = ls.length := by
  unfold loadL
  rw [List.length_zipWith, e, Nat.min_self]
def spc_Count_load (K : PySem.W.Frag) : Spc := fun ds M Pc => ∃ (Y : Yr) (a : Addr) (n : Nat) (st : Cst) (h : Str) (date more : Int), ds = [.ref a, .str h, .int date, .int more] ∧ CountM K Y a n st M ∧ ∀ M', CountM K Y a n (loadS Y st h date more) M' → Pc .non M'
theorem len_Count_load (ds : List D) (M : Mem) (Pc : D → Mem → Prop) (h : spc_Count_load K ds M Pc) : ds.length = 4 := by
  obtain ⟨_, _, _, _, _, _, _, rfl, _⟩ := h
  rfl
abbrev nm_Count_load : List Str := ["self", "head", "date", "more", "k", "limit"]
theorem sc_Count_load : FnScope nm_Count_load ["self", "head", "date", "more"] (defScope s_Count_load) := ⟨rfl, rfl, rfl, by decide +kernel, rfl, by decide +kernel, by decide +kernel⟩
theorem ok_Count_load (TX : Txt K mg base) : Kept P w K mg base 1 (He.fAd K ("Count", some "load")) ["self", "head", "date", "more"] (spc_Count_load K) := by
  refine okD (fn_Count_load TX) sc_Count_load (fun _ _ _ _ _ _ us hl => match us, hl with | [_, _, _, _], _ => rfl) len_Count_load fun cdv A outer s H E hr ds M Pc h => ?_
  obtain ⟨Y, a, n, st, h, date, more, rfl, ⟨ad, ct, kw, ke, C, rfl⟩, k⟩ := h
  refine ⟨_, (pss_one (ps_for PassesOwn.never rfl (pi_range1 rfl (n_range TX) (pa_cons (pe_callB call_len rfl (n_len TX) PySem.boot_len (pa_cons (pe_fld (pv 0) rfl) pa_nil)) pa_nil)) (pg_name (i := 4) sc_Count_load.nd rfl (Or.inl rfl))
    (pss_cons (ps_set (i := 5) sc_Count_load.nd rfl (Or.inl rfl) (pe_ix ix_list (pe_fld (pe_fld (pv 0) rfl) rfl) (pv 4) (fun _ _ => rfl)))
    (pss_one (ps_if (PW.pt (pw_and (pt_chain op_le op_le (pe_ix ix_tup (pv 5) pe_int (fun _ _ => rfl)) (pv 2) (pe_ix ix_tup (pv 5) pe_int (fun _ _ => rfl))) (pw_and1 (pt_cmpR op_in_seq (pv 1) (pe_ix ix_list (pe_fld (pv 0) rfl) (pv 4) (fun _ _ => rfl)) rfl)))) (pss_one (ps_augS (pe_fld (pv 0) rfl) (pv 4) get_list (pv 3) ip_add set_list)) pss_nil))))), ?_⟩
  walk_at "kp0"
  walk_at "kp"
  have h6 := C.y.ll
  have hll := C.llen
  refine rs_forR1 st.loads.length (fun j δ' M' => (∃ t l, δ' = [some (.ref (ad .self)), some (.str h), some (.int date), some (.int more), t, l]) ∧ ∃ ls ct', CM K Y n { st with loads := ls } M' ad ct' kw ke ∧ ls.length = st.loads.length ∧ (∀ i, i < j → ls[i]? = (loadL Y h date more st.loads)[i]?) ∧ ∀ i, j ≤ i → ls[i]? = st.loads[i]?) ?_ ?_ ?_
  · walk_at "kp"
    refine ⟨_, _, _, insD2 (C.at C.self), cl_Count TX, na_Count_loads TX, lk_Count_loads .., ?_⟩
    refine ra_nil ?_
    refine rc_len (n := st.loads.length) (.inl ⟨_, lstD3 (C.at C.loads), by rw [List.length_map]⟩) ?_
    walk_at "kp"
    exact ⟨⟨_, _, rfl⟩, st.loads, ct, C, rfl, fun i hi => by omega, fun i _ => rfl⟩
  · rintro j δ' M' hj ⟨⟨t, l, rfl⟩, ls, ct', C, hl, q1, q2⟩
    walk_at "kp"
    refine ⟨_, _, _, insD2 (C.at C.self), cl_Count TX, na_Count_year TX, lk_Count_year .., ?_⟩
    walk_at "kp"
    refine ⟨_, _, _, insD1, cl_Year TX, na_Year_limits TX, lk_Year_limits .., ?_⟩
    walk_at "kp"
    have hj2 : j < Y.limits.length := by omega
    refine rr_ixL (d := encLm Y.limits[j]) lstD1 (Kp.atI_nat (by rw [List.getElem?_map, List.getElem?_eq_getElem hj2]; rfl)) ?_
    walk_at "kp"
    unfold encLm
    walk_at "kp"
    have hj3 : j < ls.length := by omega
    have e1 : ls[j]? = some st.loads[j] := by rw [q2 j (Nat.le_refl j), List.getElem?_eq_getElem hj]
    have fin : ∀ M2 ct2, CM K Y n { st with loads := ls.set j (loadV Y h date more Y.limits[j] st.loads[j]) } M2 ad ct2 kw ke → ∃ ls ct', CM K Y n { st with loads := ls } M2 ad ct' kw ke ∧ ls.length = st.loads.length ∧ (∀ i, i < j + 1 → ls[i]? = (loadL Y h date more st.loads)[i]?) ∧ ∀ i, j + 1 ≤ i → ls[i]? = st.loads[i]? := by
      intro M2 ct2 C2
      refine ⟨_, _, C2, by rw [List.length_set]; exact hl, fun i hi => ?_, fun i hi => by rw [List.getElem?_set_ne (by omega)]; exact q2 i (by omega)⟩
      by_cases e : i = j
      · subst e
        unfold loadL
        rw [List.getElem?_set_self hj3, List.getElem?_zipWith, List.getElem?_eq_getElem hj2, List.getElem?_eq_getElem hj]
      · rw [List.getElem?_set_ne (by omega)]
        exact q1 i (by omega)
    have no : ¬((Y.limits[j].2.1 ≤ date ∧ date ≤ Y.limits[j].2.2.1) ∧ h ∈ undY Y Y.limits[j].1) → CM K Y n { st with loads := ls.set j (loadV Y h date more Y.limits[j] st.loads[j]) } M' ad ct' kw ke := by
      intro hno
      unfold loadV
      rw [if_neg hno, show ls.set j st.loads[j] = ls from by
        apply List.ext_getElem?
        intro i
        by_cases e : j = i
        · subst e
          rw [List.getElem?_set_self hj3, e1]
        · rw [List.getElem?_set_ne e]]
      exact C
    refine ⟨fun h1 => ?_, fun h1 => ?_⟩
    · have h1 := of_decide_eq_true h1
      walk_at "kp"
      refine ⟨fun h2 => ?_, fun h2 => ?_⟩
      · have h2 := of_decide_eq_true h2
        walk_at "kp"
        refine ⟨_, _, _, insD2 (C.at C.self), cl_Count TX, na_Count_beneath TX, lk_Count_beneath .., ?_⟩
        walk_at "kp"
        refine rr_ixL (d := .lst ((undY Y Y.limits[j].1).map D.str)) lstD1 (Kp.atI_nat (by rw [List.getElem?_map, List.getElem?_eq_getElem hj2]; rfl)) ?_
        refine rr_in (.inl lstD1) ?_
        refine ⟨_, rfl, fun h3 => ?_, fun h3 => ?_⟩
        · have h3 := of_decide_eq_true h3
          refine rs_laug (f := fun i j => i + j) ?_
          walk_at "kp"
          refine ⟨_, _, _, insD2 (C.at C.self), cl_Count TX, na_Count_loads TX, lk_Count_loads .., ?_⟩
          walk_at "kp"
          refine ⟨_, _, j, st.loads[j], rfl, rfl, C.at C.loads, by rw [List.getElem?_map, e1]; rfl, ?_⟩
          walk_at "kp"
          refine ⟨_, _, rfl, C.at C.loads, by rw [List.length_map]; exact hj3, ⟨_, _, rfl⟩, ?_⟩
          have C2 := C.putL (ls := ls.set j (loadV Y h date more Y.limits[j] st.loads[j])) (by rw [List.length_set])
          unfold loadV at C2 fin
          rw [if_pos ⟨⟨h1, h2⟩, h3⟩] at C2 fin
          rw [List.map_set] at C2
          exact fin _ _ C2
        · walk_at "kp"
          exact ⟨⟨_, _, rfl⟩, fin _ _ (no fun z => of_decide_eq_false h3 z.2)⟩
      · walk_at "kp"
        exact ⟨⟨_, _, rfl⟩, fin _ _ (no fun z => of_decide_eq_false h2 z.1.2)⟩
    · walk_at "kp"
      exact ⟨⟨_, _, rfl⟩, fin _ _ (no fun z => of_decide_eq_false h1 z.1.1)⟩
  · rintro δ' M' ⟨⟨t, l, rfl⟩, ls, ct', C2, hl, q1, q2⟩
    refine k _ ⟨ad, ct', kw, ke, ?_, rfl⟩
    have e : ls = loadL Y h date more st.loads := by
      apply List.ext_getElem?
      intro i
      by_cases hi : i < st.loads.length
      · exact q1 i hi
      · rw [q2 i (by omega), List.getElem?_eq_none (by omega), List.getElem?_eq_none (by rw [len_loadL hll]; omega)]
    rw [e] at C2
    exact C2
def popS (st : Cst) : List (Str × Int) → Cst
  | [] => st
  | q :: r => popS (setM st q.1 { st.money q.1 with h := (st.money q.1).h - q.2 }) r
def beginS (st : Cst) (day : Int) : Cst := popS (delE st day) (st.ends day)
theorem popS_snoc (st : Cst) (q : Str × Int) : ∀ l, popS st (l ++ [q]) = setM (popS st l) q.1 { (popS st l).money q.1 with h := ((popS st l).money q.1).h - q.2 } := by
  intro l
  induction l generalizing st with
  | nil => rfl
  | cons x r ih => exact ih _
def spc_Count_begin (K : PySem.W.Frag) : Spc := fun ds M Pc => ∃ (Y : Yr) (a : Addr) (n : Nat) (st : Cst) (day : Int), ds = [.ref a, .int day] ∧ CountM K Y a n st M ∧ n < 10000 ∧ ∀ M', CountM K Y a n (beginS st day) M' → Pc .non M'
theorem len_Count_begin (ds : List D) (M : Mem) (Pc : D → Mem → Prop) (h : spc_Count_begin K ds M Pc) : ds.length = 2 := by
  obtain ⟨_, _, _, _, _, rfl, _⟩ := h
  rfl
abbrev nm_Count_begin : List Str := ["self", "day", "head", "coins"]
theorem sc_Count_begin : FnScope nm_Count_begin ["self", "day"] (defScope s_Count_begin) := ⟨rfl, rfl, rfl, by decide +kernel, rfl, by decide +kernel, by decide +kernel⟩
theorem ok_Count_begin (TX : Txt K mg base) : Kept P w K mg base 1 (He.fAd K ("Count", some "begin")) ["self", "day"] (spc_Count_begin K) := by
  refine okD (fn_Count_begin TX) sc_Count_begin (fun _ _ _ _ _ _ us hl => match us, hl with | [_, _], _ => rfl) len_Count_begin fun cdv A outer s H E hr ds M Pc h => ?_
  obtain ⟨Y, a, n, st, day, rfl, ⟨ad, ct, kw, ke, C, rfl⟩, hn, k⟩ := h
  refine ⟨_, (pss_one (ps_for PassesOwn.never rfl (pi_list (pe_dpop2 (pe_fld (pv 0) rfl) (pv 1) (pe_lst pa_nil) ⟨by rfl, by rfl, by rfl, by rfl⟩)) (pg_tup rfl (pgs_cons (pg_name (i := 2) sc_Count_begin.nd rfl (Or.inl rfl)) (pgs_cons (pg_name (i := 3) sc_Count_begin.nd rfl (Or.inl rfl)) pgs_nil)))
    (pss_one (ps_daug (hu_of hr) (pe_dget (hu_of hr) (pe_fld (pv 0) rfl) (pv 2) (fun _ _ => rfl)) pe_str (pv 3) in_sub (fun _ _ _ => rfl))))), ?_⟩
  walk_at "kp0"
  walk_at "kp"
  have hd := C.dlen day
  have C_hd := C.dhd day
  refine rs_for encHC (st.ends day) (fun pre δ' M' => (∃ t l, δ' = [some (.ref (ad .self)), some (.int day), t, l]) ∧ ∃ ct' ke', CM K Y n (popS (delE st day) pre) M' ad ct' kw ke') ?_ ?_ ?_
  · refine re_frz (re_dpop2 ?_)
    walk_at "kp"
    refine ⟨_, _, _, insD2 (C.at C.self), cl_Count TX, na_Count_ends TX, lk_Count_ends .., ?_⟩
    refine ⟨_, rfl, ⟨_, C.at C.ends⟩, ?_⟩
    walk_at "kp"
    refine re_lstM (ra_nil ⟨by decide, fun p hp => ?_⟩)
    have C2 := C.more (c := .lst []) hp
    refine ⟨_, Sum.inl day, C2.at C2.ends, rfl, fun d hd => ?_, fun hnone => ?_⟩
    · rcases C.day day with ⟨_, z, _⟩ | ⟨z1, z2⟩
      · rw [z] at hd; cases hd
      rw [z2] at hd
      cases hd
      have C3 := C2.delE z1
      refine ⟨_, _, Frz.lst (p := ad (.day day)) ?_, .inl rfl, ⟨_, _, rfl⟩, _, _, C3⟩
      have L := (C2.lay.upd (c := .dic (dropD ke (.inl day))) C2.ends)
      exact L.cell (.day day) _ (by rw [lset_ne (by nofun)]; exact z1)
    · rcases C.day day with ⟨z1, z2, z3⟩ | ⟨_, z2⟩
      · refine ⟨_, _, Frz.lst mset_same, .inl (by rw [z3]; rfl), ⟨_, _, rfl⟩, ct, ke, ?_⟩
        rw [mdel_mset hp]
        have : delE st day = st := by
          unfold delE
          congr 1
          funext d
          by_cases e : d = day
          · rw [if_pos e, e, z3]
          · rw [if_neg e]
        show CM K Y n (delE st day) M ad ct kw ke
        rw [this]
        exact C
      · rw [z2] at hnone; cases hnone
  · rintro pre x post δ' M' e ⟨⟨t, l, rfl⟩, ct', ke', C⟩
    have hx : x.1 ∈ Y.names := C_hd x (by rw [e]; simp)
    refine rg_tup tupD1 rfl ?_
    walk_at "kp"
    refine rs_money TX { (popS (delE st day) pre).money x.1 with h := ((popS (delE st day) pre).money x.1).h - x.2 } C rdSub rfl hx sums_get_h sums_set_h (re_var rfl ⟨rfl, rfl⟩) (re_var rfl ⟨rfl, rfl⟩) fun C1 => ?_
    refine ⟨⟨_, _, rfl⟩, ?_⟩
    rw [popS_snoc]
    exact ⟨_, _, C1⟩
  · rintro δ' M' ⟨_, ct', ke', C2⟩
    exact k _ ⟨ad, ct', kw, ke', C2, rfl⟩


end
end Kp

set_option maxHeartbeats 4000000
namespace Kp
open PySem PySem.Spec PyProof.Rows L2
local macro_rules | `(tactic| walk_at "kp0") => `(tactic| try dsimp only [cxOf, Cx.nox, Cx.wish])
local macro_rules | `(tactic| walk_at "kp1") => `(tactic| first
  | with_reducible refine rs_seq ?_
  | with_reducible refine re_var rfl ?_
  | with_reducible refine re_int ?_
  | with_reducible refine re_str ?_
  | with_reducible refine re_op ?_
  | with_reducible refine re_cb ?_
  | with_reducible refine ra_cons ?_
  | ((with_reducible refine ra_nil ?_); first
      | refine Exists.intro _ ⟨rfl, ?_⟩
      | refine ⟨_, _, rfl, ?_⟩
      | refine ⟨_, _, _, rfl, ?_⟩
      | refine ⟨_, _, _, _, rfl, ?_⟩
      | refine ⟨_, _, _, _, _, rfl, ?_⟩
      | refine ⟨_, _, _, _, _, _, rfl, ?_⟩
      | refine And.intro rfl ?_)
  | with_reducible refine ra_nil ?_
  | with_reducible refine rs_ret ?_
  | with_reducible refine rs_asg ?_
  | with_reducible refine rg_name ?_
  | with_reducible refine rs_if ?_
  | with_reducible refine rt_test ?_
  | with_reducible refine rt_B ?_
  | with_reducible refine re_call ?_
  | with_reducible refine rr_int0 ?_
  | with_reducible refine rr_bl0 ?_
  | with_reducible refine rr_I0 rfl ?_
  | with_reducible refine re_bl ?_
  | with_reducible refine re_non ?_
  | with_reducible refine re_ty ?_
  | with_reducible refine re_ref ?_
  | with_reducible refine rs_drop ?_
  | with_reducible refine re_chain ?_
  | with_reducible refine re_andV ?_
  | with_reducible refine re_orV ?_
  | with_reducible refine re_notV ?_
  | with_reducible refine rt_not ?_
  | with_reducible refine rt_and ?_
  | with_reducible refine rt_or ?_
  | with_reducible refine rs_next ?_
  | with_reducible refine rs_cont ?_
  | with_reducible refine rs_break ?_
  | with_reducible refine rs_retN ?_
  | with_reducible refine rr_eq rfl ?_
  | with_reducible refine rr_ne rfl ?_
  | with_reducible refine rr_mulR (by omega) ?_
  | with_reducible refine rr_mulL (by omega) ?_
  | with_reducible refine rr_mod (by omega) ?_
  | with_reducible refine rr_fdiv (by omega) ?_
  | with_reducible refine ro_none ?_
  | with_reducible refine ro_some ?_
  | with_reducible refine re_tup ?_
  | with_reducible refine rg_tup tupD1 rfl ?_
  | with_reducible refine rgs_cons ?_
  | with_reducible refine rgs_nil ?_
  | with_reducible refine rr_ixT0 ?_
  | with_reducible refine rr_ixT1 ?_
  | with_reducible refine rr_ixT2 ?_
  | with_reducible refine rr_ixT3 ?_
  | with_reducible refine rr_ixT4 ?_
  | with_reducible refine rr_ixT5 ?_
  | with_reducible refine rr_isN ?_
  | with_reducible refine rr_notN ?_
  | with_reducible refine rcI1 ?_
  | with_reducible refine rcI2 ?_
  | with_reducible refine rcI3 ?_
  | with_reducible refine rcI4 ?_
  | with_reducible refine rcI5 ?_
  | with_reducible refine rc_listL ?_
  | with_reducible refine rc_lenL ?_
  | with_reducible refine rc_lenT ?_
  | with_reducible refine rc_min2 ?_
  | with_reducible refine rc_intB ?_
  | with_reducible refine re_strip ?_
  | with_reducible refine re_lst (tA := tCons _ _) ?_
  | with_reducible refine re_fld ?_
  | with_reducible refine rs_fld ?_
  | with_reducible refine re_meth ?_
  | with_reducible exact rfl
  | with_reducible refine andT ?_
  | with_reducible refine andF ?_
  | refine Exists.intro _ ⟨rfl, ?_⟩
  | refine andT ?_
  | refine andF ?_
  | assumption
  | refine And.intro rfl ?_
  | refine And.intro (by assumption) ?_
  | with_reducible refine And.intro (Nat.le_of_ble_eq_true rfl) ?_
  | with_reducible refine And.intro (by omega) ?_)
local macro_rules | `(tactic| walk_at "kp") => `(tactic| repeat (walk_at "kp1"))
section
variable {P : Program} {w : World} {K : PySem.W.Frag} {mg : Str → Option Value} {base : Heap}
def leftS (x : Sums) : Int := x.g + x.m - x.s - x.p - x.h
def spc_Count_left (K : PySem.W.Frag) : Spc := fun ds M Pc => ∃ (Y : Yr) (a : Addr) (n : Nat) (st : Cst) (h : Str), ds = [.ref a, .str h] ∧ CountM K Y a n st M ∧ h ∈ Y.names ∧ Pc (.int (leftS (st.money h))) M
theorem len_Count_left (ds : List D) (M : Mem) (Pc : D → Mem → Prop) (h : spc_Count_left K ds M Pc) : ds.length = 2 := by
  obtain ⟨_, _, _, _, _, rfl, _⟩ := h
  rfl
abbrev nm_Count_left : List Str := ["self", "head", "sums"]
theorem sc_Count_left : FnScope nm_Count_left ["self", "head"] (defScope s_Count_left) := ⟨rfl, rfl, rfl, by decide +kernel, rfl, by decide +kernel, by decide +kernel⟩
theorem ok_Count_left (TX : Txt K mg base) : Kept P w K mg base 1 (He.fAd K ("Count", some "left")) ["self", "head"] (spc_Count_left K) := by
  refine okD (fn_Count_left TX) sc_Count_left (fun _ _ _ _ _ _ us hl => match us, hl with | [_, _], _ => rfl) len_Count_left fun cdv A outer s H E hr ds M Pc h => ?_
  obtain ⟨Y, a, n, st, h, rfl, ⟨ad, ct, kw, ke, C, rfl⟩, hh, k⟩ := h
  refine ⟨_, (pss_cons (ps_set (i := 2) sc_Count_left.nd rfl (Or.inl rfl) (pe_dget (hu_of hr) (pe_fld (pv 0) rfl) (pv 1) (fun _ _ => rfl)))
    (pss_one (ps_ret (pe_op op_sub (pe_op op_sub (pe_op op_sub (pe_op op_add (pe_dget (hu_of hr) (pv 2) pe_str (fun _ _ => rfl)) (pe_dget (hu_of hr) (pv 2) pe_str (fun _ _ => rfl))) (pe_dget (hu_of hr) (pv 2) pe_str (fun _ _ => rfl))) (pe_dget (hu_of hr) (pv 2) pe_str (fun _ _ => rfl))) (pe_dget (hu_of hr) (pv 2) pe_str (fun _ _ => rfl)))))), ?_⟩
  walk_at "kp0"
  walk_at "kp"
  refine re_dget ?_
  walk_at "kp"
  refine ⟨_, _, _, insD2 (C.at C.self), cl_Count TX, na_Count_money TX, lk_Count_money .., ?_⟩
  walk_at "kp"
  refine ⟨_, _, Sum.inr h, _, rfl, C.at C.money, rfl, get_money hh, ?_⟩
  walk_at "kp"
  refine re_dget ?_
  walk_at "kp"
  refine ⟨_, _, Sum.inr "given", _, rfl, C.at (C.sum h hh), rfl, sums_get_g, ?_⟩
  refine re_dget ?_
  walk_at "kp"
  refine ⟨_, _, Sum.inr "moved", _, rfl, C.at (C.sum h hh), rfl, sums_get_m, ?_⟩
  walk_at "kp"
  refine re_dget ?_
  walk_at "kp"
  refine ⟨_, _, Sum.inr "spent", _, rfl, C.at (C.sum h hh), rfl, sums_get_s, ?_⟩
  walk_at "kp"
  refine re_dget ?_
  walk_at "kp"
  refine ⟨_, _, Sum.inr "promised", _, rfl, C.at (C.sum h hh), rfl, sums_get_p, ?_⟩
  walk_at "kp"
  refine re_dget ?_
  walk_at "kp"
  refine ⟨_, _, Sum.inr "held", _, rfl, C.at (C.sum h hh), rfl, sums_get_h, ?_⟩
  walk_at "kp"
inductive Place where
  | left (h : Str) | limit (k : Int) | promise (n : Int)
def encP : Place → D
  | .left h => .tup [.str "left", .str h]
  | .limit k => .tup [.str "limit", .int k]
  | .promise n => .tup [.str "promise", .int n]
def encPO : Option Place → D
  | none => .non
  | some p => encP p
def passH (st : Cst) : List Str → Option Place
  | [] => none
  | h :: r => if leftS (st.money h) < 0 then some (.left h) else passH st r
def passL (day : Int) : List Lim → List Int → Int → Option Place
  | l :: r, v :: s, k => if (l.2.1 ≤ day ∧ day ≤ l.2.2.1) ∧ l.2.2.2 < v then some (.limit k) else passL day r s (k + 1)
  | _, _, _ => none
def passS (Y : Yr) (st : Cst) (day : Int) : Option Place := match passH st Y.names with
  | some p => some p
  | none => passL day Y.limits st.loads 0
theorem passH_skip {st : Cst} {pre post : List Str} {h : Str} (e : ∀ x ∈ pre, ¬ leftS (st.money x) < 0) : passH st (pre ++ h :: post) = if leftS (st.money h) < 0 then some (.left h) else passH st post := by
  induction pre with
  | nil => rfl
  | cons y r ih =>
    show (if leftS (st.money y) < 0 then _ else passH st (r ++ h :: post)) = _
    rw [if_neg (e y List.mem_cons_self), ih fun z hz => e z (List.mem_cons_of_mem _ hz)]
theorem passH_none {st : Cst} {ns : List Str} (e : ∀ x ∈ ns, ¬ leftS (st.money x) < 0) : passH st ns = none := by
  induction ns with
  | nil => rfl
  | cons y r ih =>
    show (if leftS (st.money y) < 0 then _ else passH st r) = _
    rw [if_neg (e y List.mem_cons_self), ih fun z hz => e z (List.mem_cons_of_mem _ hz)]
def limP (day : Int) (l : Lim) (v : Int) : Prop := (l.2.1 ≤ day ∧ day ≤ l.2.2.1) ∧ l.2.2.2 < v
theorem passL_at {day : Int} : ∀ {ls : List Lim} {vs : List Int} (k : Int) (j : Nat) {l : Lim} {v : Int}, ls[j]? = some l → vs[j]? = some v → (∀ i, i < j → ∀ l' v', ls[i]? = some l' → vs[i]? = some v' → ¬ limP day l' v') → limP day l v → passL day ls vs k = some (.limit (k + j))
  | [], _, k, j, l, v, e, _, _, _ => by simp at e
  | _ :: _, [], k, j, l, v, _, e, _, _ => by simp at e
  | a :: r, b :: s, k, 0, l, v, e1, e2, _, hl => by
    cases (show some a = some l from e1)
    cases (show some b = some v from e2)
    unfold limP at hl
    show (if _ then _ else _) = _
    rw [if_pos hl]
    simp
  | a :: r, b :: s, k, j + 1, l, v, e1, e2, hn, hl => by
    have h0 := hn 0 (Nat.succ_pos j) a b rfl rfl
    unfold limP at h0
    show (if _ then _ else passL day r s (k + 1)) = _
    rw [if_neg h0, passL_at (k + 1) j (l := l) (v := v) e1 e2 (fun i hi l' v' e3 e4 => hn (i + 1) (by omega) l' v' e3 e4) hl]
    congr 2
    omega
theorem passL_no {day : Int} : ∀ {ls : List Lim} {vs : List Int} (k : Int), (∀ (i : Nat) l' v', ls[i]? = some l' → vs[i]? = some v' → ¬ limP day l' v') → passL day ls vs k = none
  | [], _, k, _ => rfl
  | _ :: _, [], k, _ => rfl
  | a :: r, b :: s, k, hn => by
    have h0 := hn 0 a b rfl rfl
    unfold limP at h0
    show (if _ then _ else passL day r s (k + 1)) = _
    rw [if_neg h0, passL_no (k + 1) (fun i l' v' e3 e4 => hn (i + 1) l' v' e3 e4)]
def spc_Count_passed (K : PySem.W.Frag) : Spc := fun ds M Pc => ∃ (Y : Yr) (a : Addr) (n : Nat) (st : Cst) (day : Int), ds = [.ref a, .int day] ∧ CountM K Y a n st M ∧ Pc (encPO (passS Y st day)) M
theorem len_Count_passed (ds : List D) (M : Mem) (Pc : D → Mem → Prop) (h : spc_Count_passed K ds M Pc) : ds.length = 2 := by
  obtain ⟨_, _, _, _, _, rfl, _⟩ := h
  rfl
abbrev nm_Count_passed : List Str := ["self", "day", "head", "k", "limit"]
theorem sc_Count_passed : FnScope nm_Count_passed ["self", "day"] (defScope s_Count_passed) := ⟨rfl, rfl, rfl, by decide +kernel, rfl, by decide +kernel, by decide +kernel⟩
theorem ok_Count_passed (TX : Txt K mg base) : Kept P w K mg base 2 (He.fAd K ("Count", some "passed")) ["self", "day"] (spc_Count_passed K) := by
  obtain ⟨fd_Year_names, G_Year_names, kp_Year_names, b_Year_names⟩ := ok_Year_names (P := P) (w := w) TX
  obtain ⟨fd_Count_left, G_Count_left, kp_Count_left, b_Count_left⟩ := ok_Count_left (P := P) (w := w) TX
  refine okD (fn_Count_passed TX) sc_Count_passed (fun _ _ _ _ _ _ us hl => match us, hl with | [_, _], _ => rfl) len_Count_passed fun cdv A outer s H E hr ds M Pc h => ?_
  obtain ⟨Y, a, n, st, day, rfl, CM0, k⟩ := h
  obtain ⟨ad, ct, kw, ke, C, rfl⟩ := id CM0
  have yo := C.y.ok
  refine ⟨_, (pss_cons (ps_for PassesOwn.never rfl (pi_list (pe_meth0 (pe_fld (pv 0) rfl) (cl_Year TX) (me_Year_names TX) G_Year_names (hr.mono (by decide)) b_Year_names .nil pass0)) (pg_name (i := 2) sc_Count_passed.nd rfl (Or.inl rfl))
    (pss_one (ps_if (pt_cmpR op_lt (pe_meth (pv 0) (cl_Count TX) (me_Count_left TX) G_Count_left (hr.mono (by decide)) b_Count_left .nil pass0 (pa_cons (pv 2) pa_nil)) pe_int (nomark _)) (pss_one (ps_ret (pe_tup (pa_cons pe_str (pa_cons (pv 2) pa_nil))))) pss_nil)))
    (pss_cons (ps_for PassesOwn.never rfl (pi_range1 rfl (n_range TX) (pa_cons (pe_callB call_len rfl (n_len TX) PySem.boot_len (pa_cons (pe_fld (pv 0) rfl) pa_nil)) pa_nil)) (pg_name (i := 3) sc_Count_passed.nd rfl (Or.inl rfl))
    (pss_cons (ps_set (i := 4) sc_Count_passed.nd rfl (Or.inl rfl) (pe_ix ix_list (pe_fld (pe_fld (pv 0) rfl) rfl) (pv 3) (fun _ _ => rfl)))
    (pss_one (ps_if (PW.pt (pw_and (pt_chain op_le op_le (pe_ix ix_tup (pv 4) pe_int (fun _ _ => rfl)) (pv 1) (pe_ix ix_tup (pv 4) pe_int (fun _ _ => rfl))) (pw_and1 (pt_cmpR op_gt (pe_ix ix_list (pe_fld (pv 0) rfl) (pv 3) (fun _ _ => rfl)) (pe_ix ix_tup (pv 4) pe_int (fun _ _ => rfl)) (nomark _))))) (pss_one (ps_ret (pe_tup (pa_cons pe_str (pa_cons (pv 3) pa_nil))))) pss_nil))))
    (pss_one (ps_ret pe_non)))), ?_⟩
  walk_at "kp0"
  walk_at "kp"
  refine rs_for D.str Y.names (fun pre δ' M' => M' = M ∧ (∃ t l u, δ' = [some (.ref (ad .self)), some (.int day), t, l, u]) ∧ ∀ x ∈ pre, ¬ leftS (st.money x) < 0) ?_ ?_ ?_
  · walk_at "kp"
    refine ⟨_, _, _, insD2 (C.at C.self), cl_Count TX, na_Count_year TX, lk_Count_year .., ?_⟩
    refine ⟨_, insD1, lm_Year_names .., ?_⟩
    walk_at "kp"
    exact ⟨.inl rfl, rfl, ⟨_, _, _, rfl⟩, by simp⟩
  · rintro pre x post δ' M' e ⟨rfl, ⟨t, l, u, rfl⟩, hn⟩
    walk_at "kp"
    refine ⟨_, insD2 (C.at C.self), lm_Count_left .., ?_⟩
    walk_at "kp"
    refine ⟨Y, _, n, st, x, rfl, CM0, by rw [e]; simp, ?_⟩
    walk_at "kp"
    refine ⟨fun h1 => ?_, fun h1 => ?_⟩
    · walk_at "kp"
      unfold passS at k
      rw [e, passH_skip hn, if_pos (of_decide_eq_true h1)] at k
      exact k
    · walk_at "kp"
      refine ⟨⟨_, _, _, rfl⟩, fun y hy => ?_⟩
      rcases List.mem_append.mp hy with hy | hy
      · exact hn y hy
      · rw [List.mem_singleton.mp hy]
        exact of_decide_eq_false h1
  · rintro δ' M' ⟨rfl, ⟨t, l, u, rfl⟩, hn⟩
    walk_at "kp"
    have h6 := C.y.ll
    have hll := C.llen
    have k2 : Pc (encPO (passL day Y.limits st.loads 0)) M' := by
      unfold passS at k
      rw [passH_none hn] at k
      exact k
    refine rs_forR1 st.loads.length (fun j δ' M2 => M2 = M' ∧ (∃ t l u, δ' = [some (.ref (ad .self)), some (.int day), t, l, u]) ∧ ∀ i, i < j → ∀ l' v', Y.limits[i]? = some l' → st.loads[i]? = some v' → ¬ limP day l' v') ?_ ?_ ?_
    · walk_at "kp"
      refine ⟨_, _, _, insD2 (C.at C.self), cl_Count TX, na_Count_loads TX, lk_Count_loads .., ?_⟩
      refine ra_nil ?_
      refine rc_len (n := st.loads.length) (.inl ⟨_, lstD3 (C.at C.loads), by rw [List.length_map]⟩) ?_
      walk_at "kp"
      first | exact fun i hi => by omega | exact ⟨⟨_, _, _, rfl⟩, fun i hi => by omega⟩ | exact ⟨rfl, ⟨_, _, _, rfl⟩, fun i hi => by omega⟩
    · rintro j δ' M2 hj ⟨rfl, ⟨t, l, u, rfl⟩, hn2⟩
      walk_at "kp"
      refine ⟨_, _, _, insD2 (C.at C.self), cl_Count TX, na_Count_year TX, lk_Count_year .., ?_⟩
      walk_at "kp"
      refine ⟨_, _, _, insD1, cl_Year TX, na_Year_limits TX, lk_Year_limits .., ?_⟩
      walk_at "kp"
      have hj2 : j < Y.limits.length := by omega
      refine rr_ixL (d := encLm Y.limits[j]) lstD1 (Kp.atI_nat (by rw [List.getElem?_map, List.getElem?_eq_getElem hj2]; rfl)) ?_
      walk_at "kp"
      unfold encLm
      walk_at "kp"
      have no : ¬ limP day Y.limits[j] st.loads[j] → ∀ i, i < j + 1 → ∀ l' v', Y.limits[i]? = some l' → st.loads[i]? = some v' → ¬ limP day l' v' := by
        intro hno i hi l' v' e1 e2
        by_cases e : i = j
        · subst e
          rw [List.getElem?_eq_getElem hj2] at e1
          rw [List.getElem?_eq_getElem hj] at e2
          cases e1; cases e2
          exact hno
        · exact hn2 i (by omega) l' v' e1 e2
      refine ⟨fun h1 => ?_, fun h1 => ?_⟩
      · have h1 := of_decide_eq_true h1
        walk_at "kp"
        refine ⟨fun h2 => ?_, fun h2 => ?_⟩
        · have h2 := of_decide_eq_true h2
          walk_at "kp"
          refine ⟨_, _, _, insD2 (C.at C.self), cl_Count TX, na_Count_loads TX, lk_Count_loads .., ?_⟩
          walk_at "kp"
          refine rr_ixL (d := .int st.loads[j]) (lstD3 (C.at C.loads)) (Kp.atI_nat (by rw [List.getElem?_map, List.getElem?_eq_getElem hj]; rfl)) ?_
          walk_at "kp"
          refine ⟨fun h3 => ?_, fun h3 => ?_⟩
          · walk_at "kp"
            have h3 := of_decide_eq_true h3
            rw [passL_at 0 j (List.getElem?_eq_getElem hj2) (List.getElem?_eq_getElem hj) hn2 ⟨⟨h1, h2⟩, h3⟩, Int.zero_add] at k2
            exact k2
          · walk_at "kp"
            exact ⟨⟨_, _, _, rfl⟩, no fun z => of_decide_eq_false h3 z.2⟩
        · walk_at "kp"
          exact ⟨⟨_, _, _, rfl⟩, no fun z => of_decide_eq_false h2 z.1.2⟩
      · walk_at "kp"
        exact ⟨⟨_, _, _, rfl⟩, no fun z => of_decide_eq_false h1 z.1.1⟩
    · rintro δ' M2 ⟨rfl, ⟨t, l, u, rfl⟩, hn2⟩
      refine rs_ret (re_non ?_)
      rw [passL_no 0 fun i l' v' e1 e2 => hn2 i (List.getElem?_eq_some_iff.mp e2).1 l' v' e1 e2] at k2
      exact k2


end
end Kp

set_option maxHeartbeats 4000000
namespace Kp
open PySem PySem.Spec PyProof.Rows L2
local macro_rules | `(tactic| walk_at "kp0") => `(tactic| try dsimp only [cxOf, Cx.nox, Cx.wish])
local macro_rules | `(tactic| walk_at "kp1") => `(tactic| first
  | with_reducible refine rs_seq ?_
  | with_reducible refine re_var rfl ?_
  | with_reducible refine re_int ?_
  | with_reducible refine re_str ?_
  | with_reducible refine re_op ?_
  | with_reducible refine re_cb ?_
  | with_reducible refine ra_cons ?_
  | ((with_reducible refine ra_nil ?_); first
      | refine Exists.intro _ ⟨rfl, ?_⟩
      | refine ⟨_, _, rfl, ?_⟩
      | refine ⟨_, _, _, rfl, ?_⟩
      | refine ⟨_, _, _, _, rfl, ?_⟩
      | refine ⟨_, _, _, _, _, rfl, ?_⟩
      | refine ⟨_, _, _, _, _, _, rfl, ?_⟩
      | refine And.intro rfl ?_)
  | with_reducible refine ra_nil ?_
  | with_reducible refine rs_ret ?_
  | with_reducible refine rs_asg ?_
  | with_reducible refine rg_name ?_
  | with_reducible refine rs_if ?_
  | with_reducible refine rt_test ?_
  | with_reducible refine rt_B ?_
  | with_reducible refine re_call ?_
  | with_reducible refine rr_int0 ?_
  | with_reducible refine rr_bl0 ?_
  | with_reducible refine rr_I0 rfl ?_
  | with_reducible refine re_bl ?_
  | with_reducible refine re_non ?_
  | with_reducible refine re_ty ?_
  | with_reducible refine re_ref ?_
  | with_reducible refine rs_drop ?_
  | with_reducible refine re_chain ?_
  | with_reducible refine re_andV ?_
  | with_reducible refine re_orV ?_
  | with_reducible refine re_notV ?_
  | with_reducible refine rt_not ?_
  | with_reducible refine rt_and ?_
  | with_reducible refine rt_or ?_
  | with_reducible refine rs_next ?_
  | with_reducible refine rs_cont ?_
  | with_reducible refine rs_break ?_
  | with_reducible refine rs_retN ?_
  | with_reducible refine rr_eq rfl ?_
  | with_reducible refine rr_ne rfl ?_
  | with_reducible refine rr_mulR (by omega) ?_
  | with_reducible refine rr_mulL (by omega) ?_
  | with_reducible refine rr_mod (by omega) ?_
  | with_reducible refine rr_fdiv (by omega) ?_
  | with_reducible refine ro_none ?_
  | with_reducible refine ro_some ?_
  | with_reducible refine re_tup ?_
  | with_reducible refine rg_tup tupD1 rfl ?_
  | with_reducible refine rgs_cons ?_
  | with_reducible refine rgs_nil ?_
  | with_reducible refine rr_ixT0 ?_
  | with_reducible refine rr_ixT1 ?_
  | with_reducible refine rr_ixT2 ?_
  | with_reducible refine rr_ixT3 ?_
  | with_reducible refine rr_ixT4 ?_
  | with_reducible refine rr_ixT5 ?_
  | with_reducible refine rr_isN ?_
  | with_reducible refine rr_notN ?_
  | with_reducible refine rcI1 ?_
  | with_reducible refine rcI2 ?_
  | with_reducible refine rcI3 ?_
  | with_reducible refine rcI4 ?_
  | with_reducible refine rcI5 ?_
  | with_reducible refine rc_listL ?_
  | with_reducible refine rc_lenL ?_
  | with_reducible refine rc_lenT ?_
  | with_reducible refine rc_min2 ?_
  | with_reducible refine rc_intB ?_
  | with_reducible refine re_strip ?_
  | with_reducible refine re_lst (tA := tCons _ _) ?_
  | with_reducible refine re_fld ?_
  | with_reducible refine rs_fld ?_
  | with_reducible refine re_meth ?_
  | with_reducible exact rfl
  | with_reducible refine andT ?_
  | with_reducible refine andF ?_
  | refine Exists.intro _ ⟨rfl, ?_⟩
  | refine andT ?_
  | refine andF ?_
  | assumption
  | refine And.intro rfl ?_
  | refine And.intro (by assumption) ?_
  | with_reducible refine And.intro (Nat.le_of_ble_eq_true rfl) ?_
  | with_reducible refine And.intro (by omega) ?_)
local macro_rules | `(tactic| walk_at "kp") => `(tactic| repeat (walk_at "kp1"))
section
variable {P : Program} {w : World} {K : PySem.W.Frag} {mg : Str → Option Value} {base : Heap}
def isPr : Ent → Bool
  | .promise .. => true
  | _ => false
def faultS (st : Cst) : Ent → Bool
  | .promise w _ _ _ => (st.words w).isSome
  | .lessen w c _ => match st.words w with
    | none => true
    | some q => decide (q.2 < c)
  | .out w _ _ => (st.words w).isNone
  | _ => false
theorem kind_isi (TX : Txt K mg base) {M : Mem} {Pd : D → Mem → Prop} (e : Ent) (x : Str) (hx : x ∈ kindsL) (p : Pd (.bl (decide (e.kind = x))) M) : RC K (rIsi K) [encE K e, .ref (He.ga K x)] M Pd := rc_isi (.ins (clsE TX e)) (.own _) (kit_of_kind TX e.kind x (kind_mem e) hx) p
theorem isSome_map {α β : Type} {f : α → β} (o : Option α) : (o.map f).isSome = o.isSome := by cases o <;> rfl
theorem isi_t (TX : Txt K mg base) {M : Mem} {Pd : D → Mem → Prop} {e : Ent} {x : Str} (hx : x ∈ kindsL) (h : e.kind = x) (p : Pd (.bl true) M) : RC K (rIsi K) [encE K e, .ref (He.ga K x)] M Pd := kind_isi TX e x hx (by rw [decide_eq_true h]; exact p)
theorem isi_f (TX : Txt K mg base) {M : Mem} {Pd : D → Mem → Prop} {e : Ent} {x : Str} (hx : x ∈ kindsL) (h : e.kind ≠ x) (p : Pd (.bl false) M) : RC K (rIsi K) [encE K e, .ref (He.ga K x)] M Pd := kind_isi TX e x hx (by rw [decide_eq_false h]; exact p)
def isWd : Ent → Bool
  | .promise .. => true
  | .lessen .. => true
  | .out .. => true
  | _ => false
def spc_Count_is_fault (K : PySem.W.Frag) : Spc := fun ds M Pc => ∃ (Y : Yr) (a : Addr) (n : Nat) (st : Cst) (e : Ent), ds = [.ref a, encE K e] ∧ CountM K Y a n st M ∧ isWd e = true ∧ Pc (.bl (faultS st e)) M
theorem len_Count_is_fault (ds : List D) (M : Mem) (Pc : D → Mem → Prop) (h : spc_Count_is_fault K ds M Pc) : ds.length = 2 := by
  obtain ⟨_, _, _, _, _, rfl, _⟩ := h
  rfl
abbrev nm_Count_is_fault : List Str := ["self", "entry"]
theorem sc_Count_is_fault : FnScope nm_Count_is_fault ["self", "entry"] (defScope s_Count_is_fault) := ⟨rfl, rfl, rfl, by decide +kernel, rfl, by decide +kernel, by decide +kernel⟩
theorem ok_Count_is_fault (TX : Txt K mg base) : Kept P w K mg base 1 (He.fAd K ("Count", some "is_fault")) ["self", "entry"] (spc_Count_is_fault K) := by
  refine okD (fn_Count_is_fault TX) sc_Count_is_fault (fun _ _ _ _ _ _ us hl => match us, hl with | [_, _], _ => rfl) len_Count_is_fault fun cdv A outer s H E hr ds M Pc h => ?_
  obtain ⟨Y, a, n, st, e, rfl, ⟨ad, ct, kw, ke, C, rfl⟩, hw, k⟩ := h
  refine ⟨_, (pss_cons (ps_if (pt_val (pe_callB call_isi rfl (n_isinstance TX) (by decide +kernel) (pa_cons (pv 1) (pa_cons (pe_glob (v := .ref (He.ga K "Promise")) rfl (g_Promise TX) rfl) pa_nil)))) (pss_one (ps_ret (pe_cmp (pc_din (hu_of hr) (pe_fld (pv 1) rfl) (pe_fld (pv 0) rfl)) rfl))) pss_nil)
    (pss_cons (ps_if (pt_cmp (pc_dnotin (hu_of hr) (pe_fld (pv 1) rfl) (pe_fld (pv 0) rfl))) (pss_one (ps_ret pe_bl)) pss_nil)
    (pss_one (ps_ret (pe_and (pe_callB call_isi rfl (n_isinstance TX) (by decide +kernel) (pa_cons (pv 1) (pa_cons (pe_glob (v := .ref (He.ga K "Lessen")) rfl (g_Lessen TX) rfl) pa_nil))) (pe_one (pe_cmpR op_gt (pe_fld (pv 1) rfl) (pe_ix ix_tup (pe_dget (hu_of hr) (pe_fld (pv 0) rfl) (pe_fld (pv 1) rfl) (fun _ _ => rfl)) pe_int (fun _ _ => rfl)) (nomark _)))))))), ?_⟩
  walk_at "kp0"
  walk_at "kp"
  have C_wget := C.wget
  cases e with
  | promise w h c t =>
    refine isi_t TX (by simp [kindsL]) rfl ?_
    walk_at "kp"
    refine re_din ?_
    walk_at "kp"
    refine ⟨_, _, _, insD1, cl_Promise TX, na_Promise_word TX, lk_Promise_word .., ?_⟩
    walk_at "kp"
    refine ⟨_, _, _, insD2 (C.at C.self), cl_Count TX, na_Count_words TX, lk_Count_words .., ?_⟩
    refine ⟨_, _, Sum.inr w, rfl, C.at C.words, rfl, ?_⟩
    rw [C.wget, isSome_map]
    exact k
  | lessen w c t =>
    refine isi_f TX (by simp [kindsL]) (show ¬ ("Lessen" : Str) = "Promise" by decide +kernel) ?_
    walk_at "kp"
    refine re_dnotin ?_
    walk_at "kp"
    refine ⟨_, _, _, insD1, cl_Lessen TX, na_Lessen_word TX, lk_Lessen_word .., ?_⟩
    walk_at "kp"
    refine ⟨_, _, _, insD2 (C.at C.self), cl_Count TX, na_Count_words TX, lk_Count_words .., ?_⟩
    refine ⟨_, _, Sum.inr w, rfl, C.at C.words, rfl, ?_⟩
    rw [C.wget, isSome_map]
    cases hq : st.words w with
    | none =>
      rw [show faultS st (.lessen w c t) = true by simp only [faultS, hq]] at k
      walk_at "kp"
    | some q =>
      rw [show faultS st (.lessen w c t) = decide (q.2 < c) by simp only [faultS, hq]] at k
      walk_at "kp"
      refine isi_t TX (by simp [kindsL]) rfl ?_
      walk_at "kp"
      refine ⟨_, _, _, insD1, cl_Lessen TX, na_Lessen_coins TX, lk_Lessen_coins .., ?_⟩
      walk_at "kp"
      refine re_dget ?_
      walk_at "kp"
      refine ⟨_, _, _, insD2 (C.at C.self), cl_Count TX, na_Count_words TX, lk_Count_words .., ?_⟩
      walk_at "kp"
      refine ⟨_, _, _, insD1, cl_Lessen TX, na_Lessen_word TX, lk_Lessen_word .., ?_⟩
      refine ⟨_, _, Sum.inr w, encHC q, rfl, C.at C.words, rfl, by rw [C.wget, hq]; rfl, ?_⟩
      unfold encHC
      walk_at "kp"
  | out w c t =>
    refine isi_f TX (by simp [kindsL]) (show ¬ ("Out" : Str) = "Promise" by decide +kernel) ?_
    walk_at "kp"
    refine re_dnotin ?_
    walk_at "kp"
    refine ⟨_, _, _, insD1, cl_Out TX, na_Out_word TX, lk_Out_word .., ?_⟩
    walk_at "kp"
    refine ⟨_, _, _, insD2 (C.at C.self), cl_Count TX, na_Count_words TX, lk_Count_words .., ?_⟩
    refine ⟨_, _, Sum.inr w, rfl, C.at C.words, rfl, ?_⟩
    rw [C.wget, isSome_map]
    cases hq : st.words w with
    | none =>
      rw [show faultS st (.out w c t) = true by simp only [faultS, hq]; rfl] at k
      walk_at "kp"
    | some q =>
      rw [show faultS st (.out w c t) = false by simp only [faultS, hq]; rfl] at k
      walk_at "kp"
      refine isi_f TX (by simp [kindsL]) (show ¬ ("Out" : Str) = "Lessen" by decide +kernel) ?_
      walk_at "kp"
  | give => cases hw
  | hold => cases hw
  | move => cases hw
  | spend => cases hw


end
end Kp

set_option maxHeartbeats 4000000
namespace Kp
open PySem PySem.Spec PyProof.Rows L2
local macro_rules | `(tactic| walk_at "kp0") => `(tactic| try dsimp only [cxOf, Cx.nox, Cx.wish])
local macro_rules | `(tactic| walk_at "kp1") => `(tactic| first
  | with_reducible refine rs_seq ?_
  | with_reducible refine re_var rfl ?_
  | with_reducible refine re_int ?_
  | with_reducible refine re_str ?_
  | with_reducible refine re_op ?_
  | with_reducible refine re_cb ?_
  | with_reducible refine ra_cons ?_
  | ((with_reducible refine ra_nil ?_); first
      | refine Exists.intro _ ⟨rfl, ?_⟩
      | refine ⟨_, _, rfl, ?_⟩
      | refine ⟨_, _, _, rfl, ?_⟩
      | refine ⟨_, _, _, _, rfl, ?_⟩
      | refine ⟨_, _, _, _, _, rfl, ?_⟩
      | refine ⟨_, _, _, _, _, _, rfl, ?_⟩
      | refine And.intro rfl ?_)
  | with_reducible refine ra_nil ?_
  | with_reducible refine rs_ret ?_
  | with_reducible refine rs_asg ?_
  | with_reducible refine rg_name ?_
  | with_reducible refine rs_if ?_
  | with_reducible refine rt_test ?_
  | with_reducible refine rt_B ?_
  | with_reducible refine re_call ?_
  | with_reducible refine rr_int0 ?_
  | with_reducible refine rr_bl0 ?_
  | with_reducible refine rr_I0 rfl ?_
  | with_reducible refine re_bl ?_
  | with_reducible refine re_non ?_
  | with_reducible refine re_ty ?_
  | with_reducible refine re_ref ?_
  | with_reducible refine rs_drop ?_
  | with_reducible refine re_chain ?_
  | with_reducible refine re_andV ?_
  | with_reducible refine re_orV ?_
  | with_reducible refine re_notV ?_
  | with_reducible refine rt_not ?_
  | with_reducible refine rt_and ?_
  | with_reducible refine rt_or ?_
  | with_reducible refine rs_next ?_
  | with_reducible refine rs_cont ?_
  | with_reducible refine rs_break ?_
  | with_reducible refine rs_retN ?_
  | with_reducible refine rr_eq rfl ?_
  | with_reducible refine rr_ne rfl ?_
  | with_reducible refine rr_mulR (by omega) ?_
  | with_reducible refine rr_mulL (by omega) ?_
  | with_reducible refine rr_mod (by omega) ?_
  | with_reducible refine rr_fdiv (by omega) ?_
  | with_reducible refine ro_none ?_
  | with_reducible refine ro_some ?_
  | with_reducible refine re_tup ?_
  | with_reducible refine rg_tup tupD1 rfl ?_
  | with_reducible refine rgs_cons ?_
  | with_reducible refine rgs_nil ?_
  | with_reducible refine rr_ixT0 ?_
  | with_reducible refine rr_ixT1 ?_
  | with_reducible refine rr_ixT2 ?_
  | with_reducible refine rr_ixT3 ?_
  | with_reducible refine rr_ixT4 ?_
  | with_reducible refine rr_ixT5 ?_
  | with_reducible refine rr_isN ?_
  | with_reducible refine rr_notN ?_
  | with_reducible refine rcI1 ?_
  | with_reducible refine rcI2 ?_
  | with_reducible refine rcI3 ?_
  | with_reducible refine rcI4 ?_
  | with_reducible refine rcI5 ?_
  | with_reducible refine rc_listL ?_
  | with_reducible refine rc_lenL ?_
  | with_reducible refine rc_lenT ?_
  | with_reducible refine rc_min2 ?_
  | with_reducible refine rc_intB ?_
  | with_reducible refine re_strip ?_
  | with_reducible refine re_lst (tA := tCons _ _) ?_
  | with_reducible refine re_fld ?_
  | with_reducible refine rs_fld ?_
  | with_reducible refine re_meth ?_
  | with_reducible exact rfl
  | with_reducible refine andT ?_
  | with_reducible refine andF ?_
  | refine Exists.intro _ ⟨rfl, ?_⟩
  | refine andT ?_
  | refine andF ?_
  | assumption
  | refine And.intro rfl ?_
  | refine And.intro (by assumption) ?_
  | with_reducible refine And.intro (Nat.le_of_ble_eq_true rfl) ?_
  | with_reducible refine And.intro (by omega) ?_)
local macro_rules | `(tactic| walk_at "kp") => `(tactic| repeat (walk_at "kp1"))
section
variable {P : Program} {w : World} {K : PySem.W.Frag} {mg : Str → Option Value} {base : Heap}
def gonV (c l : Int) : Int := if l < c then l else c
def putWS (Y : Yr) (st : Cst) (date : Int) : Ent → Cst
  | .promise w h c _ => loadS Y (setM (setW st w (h, c)) h { st.money h with p := (st.money h).p + c }) h date c
  | .lessen w c _ => match st.words w with
    | none => st
    | some q => loadS Y (setM (setW st w (q.1, q.2 - gonV c q.2)) q.1 { st.money q.1 with p := (st.money q.1).p - gonV c q.2 }) q.1 date (0 - gonV c q.2)
  | .out w c _ => match st.words w with
    | none => st
    | some q => loadS Y (setM (setW st w (q.1, q.2 - gonV c q.2)) q.1 { st.money q.1 with p := (st.money q.1).p - gonV c q.2, s := (st.money q.1).s + c }) q.1 date (c - gonV c q.2)
  | _ => st
theorem setM_setM (st : Cst) (h : Str) (x y : Sums) : setM (setM st h x) h y = setM st h y := by
  unfold setM
  congr 1
  funext z
  by_cases e : z = h
  · simp [e]
  · simp [e]
theorem setM_at (st : Cst) (h : Str) (x : Sums) : (setM st h x).money h = x := by
  show (if h = h then x else _) = x
  rw [if_pos rfl]
def spc_Count_put_promise (K : PySem.W.Frag) : Spc := fun ds M Pc => ∃ (Y : Yr) (a : Addr) (n : Nat) (st : Cst) (date : Int) (e : Ent), ds = [.ref a, .int date, encE K e] ∧ CountM K Y a n st M ∧ n < 10000 ∧ isWd e = true ∧ (∀ h ∈ e.names, h ∈ Y.names) ∧ faultS st e = false ∧ ∀ M', CountM K Y a (n + 1) (putWS Y st date e) M' → Pc .non M'
theorem len_Count_put_promise (ds : List D) (M : Mem) (Pc : D → Mem → Prop) (h : spc_Count_put_promise K ds M Pc) : ds.length = 3 := by
  obtain ⟨_, _, _, _, _, _, rfl, _⟩ := h
  rfl
abbrev nm_Count_put_promise : List Str := ["self", "date", "entry", "head", "left", "gone"]
theorem sc_Count_put_promise : FnScope nm_Count_put_promise ["self", "date", "entry"] (defScope s_Count_put_promise) := ⟨rfl, rfl, rfl, by decide +kernel, rfl, by decide +kernel, by decide +kernel⟩
theorem ok_Count_put_promise (TX : Txt K mg base) : Kept P w K mg base 2 (He.fAd K ("Count", some "put_promise")) ["self", "date", "entry"] (spc_Count_put_promise K) := by
  obtain ⟨fd_Count_load, G_Count_load, kp_Count_load, b_Count_load⟩ := ok_Count_load (P := P) (w := w) TX
  refine okD (fn_Count_put_promise TX) sc_Count_put_promise (fun _ _ _ _ _ _ us hl => match us, hl with | [_, _, _], _ => rfl) len_Count_put_promise fun cdv A outer s H E hr ds M Pc h => ?_
  obtain ⟨Y, a, n, st, date, e, rfl, ⟨ad, ct, kw, ke, C, rfl⟩, hn, hw, hh, hf, k⟩ := h
  refine ⟨_, (pss_cons (ps_if (pt_val (pe_callB call_isi rfl (n_isinstance TX) (by decide +kernel) (pa_cons (pv 2) (pa_cons (pe_glob (v := .ref (He.ga K "Promise")) rfl (g_Promise TX) rfl) pa_nil)))) (pss_cons (ps_dput (hu_of hr) (pe_fld (pv 0) rfl) (pe_fld (pv 2) rfl) (pe_tup (pa_cons (pe_fld (pv 2) rfl) (pa_cons (pe_fld (pv 2) rfl) pa_nil))) rfl)
    (pss_cons (ps_daug (hu_of hr) (pe_dget (hu_of hr) (pe_fld (pv 0) rfl) (pe_fld (pv 2) rfl) (fun _ _ => rfl)) pe_str (pe_fld (pv 2) rfl) in_add (fun _ _ _ => rfl))
    (pss_cons (ps_expr (pe_meth (pv 0) (cl_Count TX) (me_Count_load TX) G_Count_load (hr.mono (by decide)) b_Count_load .nil pass0 (pa_cons (pe_fld (pv 2) rfl) (pa_cons (pv 1) (pa_cons (pe_fld (pv 2) rfl) pa_nil)))))
    (pss_one ps_retN)))) pss_nil)
    (pss_cons (ps_asg (pe_dget (hu_of hr) (pe_fld (pv 0) rfl) (pe_fld (pv 2) rfl) (fun _ _ => rfl)) (pg_tup rfl (pgs_cons (pg_name (i := 3) sc_Count_put_promise.nd rfl (Or.inl rfl)) (pgs_cons (pg_name (i := 4) sc_Count_put_promise.nd rfl (Or.inl rfl)) pgs_nil))))
    (pss_cons (ps_set (i := 5) sc_Count_put_promise.nd rfl (Or.inl rfl) (pe_callB (call_min2 rfl) rfl (n_min TX) (by decide +kernel) (pa_cons (pe_fld (pv 2) rfl) (pa_cons (pv 4) pa_nil))))
    (pss_cons (ps_dput (hu_of hr) (pe_fld (pv 0) rfl) (pe_fld (pv 2) rfl) (pe_tup (pa_cons (pv 3) (pa_cons (pe_op op_sub (pv 4) (pv 5)) pa_nil))) rfl)
    (pss_cons (ps_daug (hu_of hr) (pe_dget (hu_of hr) (pe_fld (pv 0) rfl) (pv 3) (fun _ _ => rfl)) pe_str (pv 5) in_sub (fun _ _ _ => rfl))
    (pss_one (ps_if (pt_val (pe_callB call_isi rfl (n_isinstance TX) (by decide +kernel) (pa_cons (pv 2) (pa_cons (pe_glob (v := .ref (He.ga K "Lessen")) rfl (g_Lessen TX) rfl) pa_nil)))) (pss_one (ps_expr (pe_meth (pv 0) (cl_Count TX) (me_Count_load TX) G_Count_load (hr.mono (by decide)) b_Count_load .nil pass0 (pa_cons (pv 3) (pa_cons (pv 1) (pa_cons (pe_op op_sub pe_int (pv 5)) pa_nil)))))) (pss_cons (ps_daug (hu_of hr) (pe_dget (hu_of hr) (pe_fld (pv 0) rfl) (pv 3) (fun _ _ => rfl)) pe_str (pe_fld (pv 2) rfl) in_add (fun _ _ _ => rfl))
    (pss_one (ps_expr (pe_meth (pv 0) (cl_Count TX) (me_Count_load TX) G_Count_load (hr.mono (by decide)) b_Count_load .nil pass0 (pa_cons (pv 3) (pa_cons (pv 1) (pa_cons (pe_op op_sub (pe_fld (pv 2) rfl) (pv 5)) pa_nil)))))))))))))), ?_⟩
  walk_at "kp0"
  walk_at "kp"
  have wl := C.wlen
  cases e with
  | promise w h c t =>
    have h1 : h ∈ Y.names := hh h (by simp [Ent.names])
    refine isi_t TX (by simp [kindsL]) rfl ?_
    walk_at "kp"
    refine rs_dput ?_
    walk_at "kp"
    refine ⟨_, _, _, insD1, cl_Promise TX, na_Promise_head TX, lk_Promise_head .., ?_⟩
    walk_at "kp"
    refine ⟨_, _, _, insD1, cl_Promise TX, na_Promise_coins TX, lk_Promise_coins .., ?_⟩
    walk_at "kp"
    refine ⟨_, _, _, insD2 (C.at C.self), cl_Count TX, na_Count_words TX, lk_Count_words .., ?_⟩
    walk_at "kp"
    refine ⟨_, _, _, insD1, cl_Promise TX, na_Promise_word TX, lk_Promise_word .., ?_⟩
    refine ⟨_, _, Sum.inr w, rfl, C.at C.words, rfl, by omega, ?_⟩
    have C1 := C.putW (w := w) (x := (h, c)) h1
    walk_at "kp"
    refine rs_money TX { st.money h with p := (st.money h).p + c } C1 rdAdd rfl h1 sums_get_p sums_set_p (re_fld (re_var rfl ⟨_, _, _, insD1, cl_Promise TX, na_Promise_head TX, lk_Promise_head .., rfl, rfl⟩)) (re_fld (re_var rfl ⟨_, _, _, insD1, cl_Promise TX, na_Promise_coins TX, lk_Promise_coins .., rfl, rfl⟩)) fun C2 => ?_
    walk_at "kp"
    refine ⟨_, insD2 (C2.at C2.self), lm_Count_load .., ?_⟩
    walk_at "kp"
    refine ⟨_, _, _, insD1, cl_Promise TX, na_Promise_head TX, lk_Promise_head .., ?_⟩
    walk_at "kp"
    refine ⟨_, _, _, insD1, cl_Promise TX, na_Promise_coins TX, lk_Promise_coins .., ?_⟩
    refine ra_nil ⟨Y, _, n + 1, _, h, date, c, rfl, ⟨_, _, _, _, C2, rfl⟩, fun M' CM' => ?_⟩
    walk_at "kp"
    exact k _ CM'
  | lessen w c t =>
    obtain ⟨q, hq⟩ : ∃ q, st.words w = some q := by
      cases hq : st.words w with
      | none => simp only [faultS, hq] at hf; cases hf
      | some q => exact ⟨q, rfl⟩
    have h1 : q.1 ∈ Y.names := C.whd w q.1 q.2 hq
    simp only [putWS, hq] at k
    refine isi_f TX (by simp [kindsL]) (show ¬ ("Lessen" : Str) = "Promise" by decide +kernel) ?_
    walk_at "kp"
    refine re_dget ?_
    walk_at "kp"
    refine ⟨_, _, _, insD2 (C.at C.self), cl_Count TX, na_Count_words TX, lk_Count_words .., ?_⟩
    walk_at "kp"
    refine ⟨_, _, _, insD1, cl_Lessen TX, na_Lessen_word TX, lk_Lessen_word .., ?_⟩
    refine ⟨_, _, Sum.inr w, encHC q, rfl, C.at C.words, rfl, by rw [C.wget, hq]; rfl, ?_⟩
    unfold encHC
    refine rg_tup tupD1 rfl ?_
    walk_at "kp"
    refine ⟨_, _, _, insD1, cl_Lessen TX, na_Lessen_coins TX, lk_Lessen_coins .., ?_⟩
    walk_at "kp"
    refine rs_dput ?_
    walk_at "kp"
    refine ⟨_, _, _, insD2 (C.at C.self), cl_Count TX, na_Count_words TX, lk_Count_words .., ?_⟩
    walk_at "kp"
    refine ⟨_, _, _, insD1, cl_Lessen TX, na_Lessen_word TX, lk_Lessen_word .., ?_⟩
    refine ⟨_, _, Sum.inr w, rfl, C.at C.words, rfl, by omega, ?_⟩
    have C1 := C.putW (w := w) (x := (q.1, q.2 - gonV c q.2)) h1
    walk_at "kp"
    refine rs_money TX { st.money q.1 with p := (st.money q.1).p - gonV c q.2 } C1 rdSub rfl h1 sums_get_p sums_set_p (re_var rfl ⟨rfl, rfl⟩) (re_var rfl ⟨rfl, rfl⟩) fun C2 => ?_
    walk_at "kp"
    refine isi_t TX (by simp [kindsL]) rfl ?_
    walk_at "kp"
    refine ⟨_, insD2 (C2.at C2.self), lm_Count_load .., ?_⟩
    walk_at "kp"
    refine ⟨Y, _, n + 1, _, q.1, date, 0 - gonV c q.2, rfl, ⟨_, _, _, _, C2, rfl⟩, fun M' CM' => ?_⟩
    exact k _ CM'
  | out w c t =>
    obtain ⟨q, hq⟩ : ∃ q, st.words w = some q := by
      cases hq : st.words w with
      | none => simp only [faultS, hq] at hf; cases hf
      | some q => exact ⟨q, rfl⟩
    have h1 : q.1 ∈ Y.names := C.whd w q.1 q.2 hq
    simp only [putWS, hq] at k
    refine isi_f TX (by simp [kindsL]) (show ¬ ("Out" : Str) = "Promise" by decide +kernel) ?_
    walk_at "kp"
    refine re_dget ?_
    walk_at "kp"
    refine ⟨_, _, _, insD2 (C.at C.self), cl_Count TX, na_Count_words TX, lk_Count_words .., ?_⟩
    walk_at "kp"
    refine ⟨_, _, _, insD1, cl_Out TX, na_Out_word TX, lk_Out_word .., ?_⟩
    refine ⟨_, _, Sum.inr w, encHC q, rfl, C.at C.words, rfl, by rw [C.wget, hq]; rfl, ?_⟩
    unfold encHC
    refine rg_tup tupD1 rfl ?_
    walk_at "kp"
    refine ⟨_, _, _, insD1, cl_Out TX, na_Out_coins TX, lk_Out_coins .., ?_⟩
    walk_at "kp"
    refine rs_dput ?_
    walk_at "kp"
    refine ⟨_, _, _, insD2 (C.at C.self), cl_Count TX, na_Count_words TX, lk_Count_words .., ?_⟩
    walk_at "kp"
    refine ⟨_, _, _, insD1, cl_Out TX, na_Out_word TX, lk_Out_word .., ?_⟩
    refine ⟨_, _, Sum.inr w, rfl, C.at C.words, rfl, by omega, ?_⟩
    have C1 := C.putW (w := w) (x := (q.1, q.2 - gonV c q.2)) h1
    walk_at "kp"
    refine rs_money TX { st.money q.1 with p := (st.money q.1).p - gonV c q.2 } C1 rdSub rfl h1 sums_get_p sums_set_p (re_var rfl ⟨rfl, rfl⟩) (re_var rfl ⟨rfl, rfl⟩) fun C2 => ?_
    walk_at "kp"
    refine isi_f TX (by simp [kindsL]) (show ¬ ("Out" : Str) = "Lessen" by decide +kernel) ?_
    walk_at "kp"
    refine rs_money TX _ C2 rdAdd rfl h1 sums_get_s sums_set_s (re_var rfl ⟨rfl, rfl⟩) (re_fld (re_var rfl ⟨_, _, _, insD1, cl_Out TX, na_Out_coins TX, lk_Out_coins .., rfl, rfl⟩)) fun C3 => ?_
    walk_at "kp"
    refine ⟨_, insD2 (C3.at C3.self), lm_Count_load .., ?_⟩
    walk_at "kp"
    refine ⟨_, _, _, insD1, cl_Out TX, na_Out_coins TX, lk_Out_coins .., ?_⟩
    walk_at "kp"
    refine ⟨Y, _, n + 1, _, q.1, date, c - gonV c q.2, rfl, ⟨_, _, _, _, C3, rfl⟩, fun M' CM' => ?_⟩
    rw [setM_setM, setM_at] at CM'
    exact k _ CM'
  | give => cases hw
  | hold => cases hw
  | move => cases hw
  | spend => cases hw


end
end Kp

set_option maxHeartbeats 4000000
namespace Kp
open PySem PySem.Spec PyProof.Rows L2
local macro_rules | `(tactic| walk_at "kp0") => `(tactic| try dsimp only [cxOf, Cx.nox, Cx.wish])
local macro_rules | `(tactic| walk_at "kp1") => `(tactic| first
  | with_reducible refine rs_seq ?_
  | with_reducible refine re_var rfl ?_
  | with_reducible refine re_int ?_
  | with_reducible refine re_str ?_
  | with_reducible refine re_op ?_
  | with_reducible refine re_cb ?_
  | with_reducible refine ra_cons ?_
  | ((with_reducible refine ra_nil ?_); first
      | refine Exists.intro _ ⟨rfl, ?_⟩
      | refine ⟨_, _, rfl, ?_⟩
      | refine ⟨_, _, _, rfl, ?_⟩
      | refine ⟨_, _, _, _, rfl, ?_⟩
      | refine ⟨_, _, _, _, _, rfl, ?_⟩
      | refine ⟨_, _, _, _, _, _, rfl, ?_⟩
      | refine And.intro rfl ?_)
  | with_reducible refine ra_nil ?_
  | with_reducible refine rs_ret ?_
  | with_reducible refine rs_asg ?_
  | with_reducible refine rg_name ?_
  | with_reducible refine rs_if ?_
  | with_reducible refine rt_test ?_
  | with_reducible refine rt_B ?_
  | with_reducible refine re_call ?_
  | with_reducible refine rr_int0 ?_
  | with_reducible refine rr_bl0 ?_
  | with_reducible refine rr_I0 rfl ?_
  | with_reducible refine re_bl ?_
  | with_reducible refine re_non ?_
  | with_reducible refine re_ty ?_
  | with_reducible refine re_ref ?_
  | with_reducible refine rs_drop ?_
  | with_reducible refine re_chain ?_
  | with_reducible refine re_andV ?_
  | with_reducible refine re_orV ?_
  | with_reducible refine re_notV ?_
  | with_reducible refine rt_not ?_
  | with_reducible refine rt_and ?_
  | with_reducible refine rt_or ?_
  | with_reducible refine rs_next ?_
  | with_reducible refine rs_cont ?_
  | with_reducible refine rs_break ?_
  | with_reducible refine rs_retN ?_
  | with_reducible refine rr_eq rfl ?_
  | with_reducible refine rr_ne rfl ?_
  | with_reducible refine rr_mulR (by omega) ?_
  | with_reducible refine rr_mulL (by omega) ?_
  | with_reducible refine rr_mod (by omega) ?_
  | with_reducible refine rr_fdiv (by omega) ?_
  | with_reducible refine ro_none ?_
  | with_reducible refine ro_some ?_
  | with_reducible refine re_tup ?_
  | with_reducible refine rg_tup tupD1 rfl ?_
  | with_reducible refine rgs_cons ?_
  | with_reducible refine rgs_nil ?_
  | with_reducible refine rr_ixT0 ?_
  | with_reducible refine rr_ixT1 ?_
  | with_reducible refine rr_ixT2 ?_
  | with_reducible refine rr_ixT3 ?_
  | with_reducible refine rr_ixT4 ?_
  | with_reducible refine rr_ixT5 ?_
  | with_reducible refine rr_isN ?_
  | with_reducible refine rr_notN ?_
  | with_reducible refine rcI1 ?_
  | with_reducible refine rcI2 ?_
  | with_reducible refine rcI3 ?_
  | with_reducible refine rcI4 ?_
  | with_reducible refine rcI5 ?_
  | with_reducible refine rc_listL ?_
  | with_reducible refine rc_lenL ?_
  | with_reducible refine rc_lenT ?_
  | with_reducible refine rc_min2 ?_
  | with_reducible refine rc_intB ?_
  | with_reducible refine re_strip ?_
  | with_reducible refine re_lst (tA := tCons _ _) ?_
  | with_reducible refine re_fld ?_
  | with_reducible refine rs_fld ?_
  | with_reducible refine re_meth ?_
  | with_reducible exact rfl
  | with_reducible refine andT ?_
  | with_reducible refine andF ?_
  | refine Exists.intro _ ⟨rfl, ?_⟩
  | refine andT ?_
  | refine andF ?_
  | assumption
  | refine And.intro rfl ?_
  | refine And.intro (by assumption) ?_
  | with_reducible refine And.intro (Nat.le_of_ble_eq_true rfl) ?_
  | with_reducible refine And.intro (by omega) ?_)
local macro_rules | `(tactic| walk_at "kp") => `(tactic| repeat (walk_at "kp1"))
section
variable {P : Program} {w : World} {K : PySem.W.Frag} {mg : Str → Option Value} {base : Heap}
def ruleS1 (h : Str) (date c : Int) (st : Cst) (r : Lim) : Cst := if r.1 = h ∧ date < r.2.2.2 then holdS st r.1 (c * r.2.1 / r.2.2.1) r.2.2.2 else st
def putOS (Y : Yr) (st : Cst) (date : Int) : Ent → Cst
  | .give h c _ => Y.rules.foldl (ruleS1 h date c) (setM st h { st.money h with g := (st.money h).g + c })
  | .spend h c _ => loadS Y (setM st h { st.money h with s := (st.money h).s + c }) h date c
  | .move h o c _ => setM (setM st h { st.money h with m := (st.money h).m - c }) o { (setM st h { st.money h with m := (st.money h).m - c }).money o with m := ((setM st h { st.money h with m := (st.money h).m - c }).money o).m + c }
  | .hold h c u _ => holdS st h c u
  | _ => st
def spc_Count_put_other (K : PySem.W.Frag) : Spc := fun ds M Pc => ∃ (Y : Yr) (a : Addr) (n : Nat) (st : Cst) (date : Int) (e : Ent), ds = [.ref a, .int date, encE K e] ∧ CountM K Y a n st M ∧ n < 9000 ∧ isWd e = false ∧ (∀ h ∈ e.names, h ∈ Y.names) ∧ ∀ M', CountM K Y a (n + 5) (putOS Y st date e) M' → Pc .non M'
theorem len_Count_put_other (ds : List D) (M : Mem) (Pc : D → Mem → Prop) (h : spc_Count_put_other K ds M Pc) : ds.length = 3 := by
  obtain ⟨_, _, _, _, _, _, rfl, _⟩ := h
  rfl
abbrev nm_Count_put_other : List Str := ["self", "date", "entry", "head", "part", "whole", "until"]
theorem sc_Count_put_other : FnScope nm_Count_put_other ["self", "date", "entry"] (defScope s_Count_put_other) := ⟨rfl, rfl, rfl, by decide +kernel, rfl, by decide +kernel, by decide +kernel⟩
theorem ok_Count_put_other (TX : Txt K mg base) : Kept P w K mg base 2 (He.fAd K ("Count", some "put_other")) ["self", "date", "entry"] (spc_Count_put_other K) := by
  obtain ⟨fd_Count_hold, G_Count_hold, kp_Count_hold, b_Count_hold⟩ := ok_Count_hold (P := P) (w := w) TX
  obtain ⟨fd_Count_load, G_Count_load, kp_Count_load, b_Count_load⟩ := ok_Count_load (P := P) (w := w) TX
  refine okD (fn_Count_put_other TX) sc_Count_put_other (fun _ _ _ _ _ _ us hl => match us, hl with | [_, _, _], _ => rfl) len_Count_put_other fun cdv A outer s H E hr ds M Pc h => ?_
  obtain ⟨Y, a, n, st, date, e, rfl, ⟨ad, ct, kw, ke, C, rfl⟩, hn, hw, hh, k⟩ := h
  refine ⟨_, (pss_cons (ps_if (pt_val (pe_callB call_isi rfl (n_isinstance TX) (by decide +kernel) (pa_cons (pv 2) (pa_cons (pe_glob (v := .ref (He.ga K "Give")) rfl (g_Give TX) rfl) pa_nil)))) (pss_cons (ps_daug (hu_of hr) (pe_dget (hu_of hr) (pe_fld (pv 0) rfl) (pe_fld (pv 2) rfl) (fun _ _ => rfl)) pe_str (pe_fld (pv 2) rfl) in_add (fun _ _ _ => rfl))
    (pss_one (ps_for PassesOwn.never rfl (pi_list (pe_fld (pe_fld (pv 0) rfl) rfl)) (pg_tup rfl (pgs_cons (pg_name (i := 3) sc_Count_put_other.nd rfl (Or.inl rfl)) (pgs_cons (pg_name (i := 4) sc_Count_put_other.nd rfl (Or.inl rfl)) (pgs_cons (pg_name (i := 5) sc_Count_put_other.nd rfl (Or.inl rfl)) (pgs_cons (pg_name (i := 6) sc_Count_put_other.nd rfl (Or.inl rfl)) pgs_nil)))))
    (pss_one (ps_if (PW.pt (pw_and (pt_cmpR op_eq (pv 3) (pe_fld (pv 2) rfl) (nomark _)) (pw_and1 (pt_cmpR op_gt (pv 6) (pv 1) (nomark _))))) (pss_one (ps_expr (pe_meth (pv 0) (cl_Count TX) (me_Count_hold TX) G_Count_hold (hr.mono (by decide)) b_Count_hold .nil pass0 (pa_cons (pv 3) (pa_cons (pe_op op_fdivW (pe_op op_mul (pe_fld (pv 2) rfl) (pv 4)) (pv 5)) (pa_cons (pv 6) pa_nil)))))) pss_nil))))) pss_nil)
    (pss_cons (ps_if (pt_val (pe_callB call_isi rfl (n_isinstance TX) (by decide +kernel) (pa_cons (pv 2) (pa_cons (pe_glob (v := .ref (He.ga K "Spend")) rfl (g_Spend TX) rfl) pa_nil)))) (pss_cons (ps_daug (hu_of hr) (pe_dget (hu_of hr) (pe_fld (pv 0) rfl) (pe_fld (pv 2) rfl) (fun _ _ => rfl)) pe_str (pe_fld (pv 2) rfl) in_add (fun _ _ _ => rfl))
    (pss_one (ps_expr (pe_meth (pv 0) (cl_Count TX) (me_Count_load TX) G_Count_load (hr.mono (by decide)) b_Count_load .nil pass0 (pa_cons (pe_fld (pv 2) rfl) (pa_cons (pv 1) (pa_cons (pe_fld (pv 2) rfl) pa_nil))))))) pss_nil)
    (pss_cons (ps_if (pt_val (pe_callB call_isi rfl (n_isinstance TX) (by decide +kernel) (pa_cons (pv 2) (pa_cons (pe_glob (v := .ref (He.ga K "Move")) rfl (g_Move TX) rfl) pa_nil)))) (pss_cons (ps_daug (hu_of hr) (pe_dget (hu_of hr) (pe_fld (pv 0) rfl) (pe_fld (pv 2) rfl) (fun _ _ => rfl)) pe_str (pe_fld (pv 2) rfl) in_sub (fun _ _ _ => rfl))
    (pss_one (ps_daug (hu_of hr) (pe_dget (hu_of hr) (pe_fld (pv 0) rfl) (pe_fld (pv 2) rfl) (fun _ _ => rfl)) pe_str (pe_fld (pv 2) rfl) in_add (fun _ _ _ => rfl)))) pss_nil)
    (pss_one (ps_if (pt_val (pe_callB call_isi rfl (n_isinstance TX) (by decide +kernel) (pa_cons (pv 2) (pa_cons (pe_glob (v := .ref (He.ga K "Hold")) rfl (g_Hold TX) rfl) pa_nil)))) (pss_one (ps_expr (pe_meth (pv 0) (cl_Count TX) (me_Count_hold TX) G_Count_hold (hr.mono (by decide)) b_Count_hold .nil pass0 (pa_cons (pe_fld (pv 2) rfl) (pa_cons (pe_fld (pv 2) rfl) (pa_cons (pe_fld (pv 2) rfl) pa_nil)))))) pss_nil))))), ?_⟩
  walk_at "kp0"
  walk_at "kp"
  have y := C.y
  cases e with
  | give h c t =>
    have h1 : h ∈ Y.names := hh h (by simp [Ent.names])
    refine isi_t TX (by simp [kindsL]) rfl ?_
    walk_at "kp"
    refine rs_money TX _ C rdAdd rfl h1 sums_get_g sums_set_g (re_fld (re_var rfl ⟨_, _, _, insD1, cl_Give TX, na_Give_head TX, lk_Give_head .., rfl, rfl⟩)) (re_fld (re_var rfl ⟨_, _, _, insD1, cl_Give TX, na_Give_coins TX, lk_Give_coins .., rfl, rfl⟩)) fun C1 => ?_
    walk_at "kp"
    refine rs_for encLm Y.rules (fun pre δ' M' => (∃ t1 t2 t3 t4, δ' = [some (.ref (ad .self)), some (.int date), some (encE K (.give h c t)), t1, t2, t3, t4]) ∧ ∃ n', n' ≤ n + pre.length ∧ CountM K Y (ad .self) n' (pre.foldl (ruleS1 h date c) (setM st h { st.money h with g := (st.money h).g + c })) M') ?_ ?_ ?_
    · walk_at "kp"
      refine ⟨_, _, _, insD2 (C1.at C1.self), cl_Count TX, na_Count_year TX, lk_Count_year .., ?_⟩
      walk_at "kp"
      refine ⟨_, _, _, insD1, cl_Year TX, na_Year_rules TX, lk_Year_rules .., ?_⟩
      exact ⟨.inl rfl, ⟨_, _, _, _, rfl⟩, n, Nat.le_refl _, _, _, _, _, C1, rfl⟩
    · rintro pre x post δ' M' e ⟨⟨t1, t2, t3, t4, rfl⟩, n', hn', CM1⟩
      obtain ⟨y1, y2, y3, y4⟩ := y.rl x (by rw [e]; simp)
      have hpl : pre.length ≤ 4 := by
        have := y.lr
        rw [e, List.length_append] at this
        omega
      refine rg_tup tupD1 rfl ?_
      walk_at "kp"
      refine ⟨_, _, _, insD1, cl_Give TX, na_Give_head TX, lk_Give_head .., ?_⟩
      walk_at "kp"
      rw [List.foldl_append]
      refine ⟨fun h1 => ?_, fun h1 => ?_⟩
      · have h1 := of_decide_eq_true h1
        walk_at "kp"
        refine ⟨fun h2 => ?_, fun h2 => ?_⟩
        · have h2 := of_decide_eq_true h2
          obtain ⟨ad2, ct2, kw2, ke2, C2, eq2⟩ := id CM1
          have self2 := C2.at C2.self
          rw [eq2] at self2
          walk_at "kp"
          refine ⟨_, insD2 (self2), lm_Count_hold .., ?_⟩
          walk_at "kp"
          refine ⟨_, _, _, insD1, cl_Give TX, na_Give_coins TX, lk_Give_coins .., ?_⟩
          walk_at "kp"
          refine ⟨Y, _, n', _, x.1, c * x.2.1 / x.2.2.1, x.2.2.2, rfl, CM1, by omega, y1, fun M2 CM2 => ?_⟩
          refine ⟨⟨_, _, _, _, rfl⟩, n' + 1, by rw [List.length_append, List.length_singleton]; omega, ?_⟩
          show CountM K Y _ _ (ruleS1 h date c _ x) _
          unfold ruleS1
          rw [if_pos ⟨h1, h2⟩]
          exact CM2
        · walk_at "kp"
          refine ⟨⟨_, _, _, _, rfl⟩, n', by rw [List.length_append]; omega, ?_⟩
          show CountM K Y _ _ (ruleS1 h date c _ x) _
          rw [show ∀ st, ruleS1 h date c st x = st from fun st => if_neg fun z => of_decide_eq_false h2 z.2]
          exact CM1
      · walk_at "kp"
        refine ⟨⟨_, _, _, _, rfl⟩, n', by rw [List.length_append]; omega, ?_⟩
        show CountM K Y _ _ (ruleS1 h date c _ x) _
        rw [show ∀ st, ruleS1 h date c st x = st from fun st => if_neg fun z => of_decide_eq_false h1 z.1]
        exact CM1
    · rintro δ' M' ⟨⟨t1, t2, t3, t4, rfl⟩, n', hn', ad2, ct2, kw2, ke2, C2, eq2⟩
      have hpl := y.lr
      walk_at "kp"
      refine isi_f TX (by simp [kindsL]) (show ¬ ("Give" : Str) = "Spend" by decide +kernel) ?_
      walk_at "kp"
      refine isi_f TX (by simp [kindsL]) (show ¬ ("Give" : Str) = "Move" by decide +kernel) ?_
      walk_at "kp"
      refine isi_f TX (by simp [kindsL]) (show ¬ ("Give" : Str) = "Hold" by decide +kernel) ?_
      walk_at "kp"
      exact k _ ⟨ad2, ct2, kw2, ke2, C2.mono (by omega), eq2⟩
  | spend h c t =>
    have h1 : h ∈ Y.names := hh h (by simp [Ent.names])
    refine isi_f TX (by simp [kindsL]) (show ¬ ("Spend" : Str) = "Give" by decide +kernel) ?_
    walk_at "kp"
    refine isi_t TX (by simp [kindsL]) rfl ?_
    walk_at "kp"
    refine rs_money TX _ C rdAdd rfl h1 sums_get_s sums_set_s (re_fld (re_var rfl ⟨_, _, _, insD1, cl_Spend TX, na_Spend_head TX, lk_Spend_head .., rfl, rfl⟩)) (re_fld (re_var rfl ⟨_, _, _, insD1, cl_Spend TX, na_Spend_coins TX, lk_Spend_coins .., rfl, rfl⟩)) fun C1 => ?_
    walk_at "kp"
    refine ⟨_, insD2 (C1.at C1.self), lm_Count_load .., ?_⟩
    walk_at "kp"
    refine ⟨_, _, _, insD1, cl_Spend TX, na_Spend_head TX, lk_Spend_head .., ?_⟩
    walk_at "kp"
    refine ⟨_, _, _, insD1, cl_Spend TX, na_Spend_coins TX, lk_Spend_coins .., ?_⟩
    refine ra_nil ⟨Y, _, n, _, h, date, c, rfl, ⟨_, _, _, _, C1, rfl⟩, fun M' CM' => ?_⟩
    walk_at "kp"
    refine isi_f TX (by simp [kindsL]) (show ¬ ("Spend" : Str) = "Move" by decide +kernel) ?_
    walk_at "kp"
    refine isi_f TX (by simp [kindsL]) (show ¬ ("Spend" : Str) = "Hold" by decide +kernel) ?_
    walk_at "kp"
    obtain ⟨ad2, ct2, kw2, ke2, C2, eq2⟩ := CM'
    exact k _ ⟨ad2, ct2, kw2, ke2, C2.mono (by omega), eq2⟩
  | move h o c t =>
    have h1 : h ∈ Y.names := hh h (by simp [Ent.names])
    have h2 : o ∈ Y.names := hh o (by simp [Ent.names])
    refine isi_f TX (by simp [kindsL]) (show ¬ ("Move" : Str) = "Give" by decide +kernel) ?_
    walk_at "kp"
    refine isi_f TX (by simp [kindsL]) (show ¬ ("Move" : Str) = "Spend" by decide +kernel) ?_
    walk_at "kp"
    refine isi_t TX (by simp [kindsL]) rfl ?_
    walk_at "kp"
    refine rs_money TX _ C rdSub rfl h1 sums_get_m sums_set_m (re_fld (re_var rfl ⟨_, _, _, insD1, cl_Move TX, na_Move_head TX, lk_Move_head .., rfl, rfl⟩)) (re_fld (re_var rfl ⟨_, _, _, insD1, cl_Move TX, na_Move_coins TX, lk_Move_coins .., rfl, rfl⟩)) fun C1 => ?_
    walk_at "kp"
    refine rs_money TX _ C1 rdAdd rfl h2 sums_get_m sums_set_m (re_fld (re_var rfl ⟨_, _, _, insD1, cl_Move TX, na_Move_other TX, lk_Move_other .., rfl, rfl⟩)) (re_fld (re_var rfl ⟨_, _, _, insD1, cl_Move TX, na_Move_coins TX, lk_Move_coins .., rfl, rfl⟩)) fun C2 => ?_
    walk_at "kp"
    refine isi_f TX (by simp [kindsL]) (show ¬ ("Move" : Str) = "Hold" by decide +kernel) ?_
    walk_at "kp"
    exact k _ ⟨_, _, _, _, C2.mono (by omega), rfl⟩
  | hold h c u t =>
    have h1 : h ∈ Y.names := hh h (by simp [Ent.names])
    refine isi_f TX (by simp [kindsL]) (show ¬ ("Hold" : Str) = "Give" by decide +kernel) ?_
    walk_at "kp"
    refine isi_f TX (by simp [kindsL]) (show ¬ ("Hold" : Str) = "Spend" by decide +kernel) ?_
    walk_at "kp"
    refine isi_f TX (by simp [kindsL]) (show ¬ ("Hold" : Str) = "Move" by decide +kernel) ?_
    walk_at "kp"
    refine isi_t TX (by simp [kindsL]) rfl ?_
    walk_at "kp"
    refine ⟨_, insD2 (C.at C.self), lm_Count_hold .., ?_⟩
    walk_at "kp"
    refine ⟨_, _, _, insD1, cl_Hold TX, na_Hold_head TX, lk_Hold_head .., ?_⟩
    walk_at "kp"
    refine ⟨_, _, _, insD1, cl_Hold TX, na_Hold_coins TX, lk_Hold_coins .., ?_⟩
    walk_at "kp"
    refine ⟨_, _, _, insD1, cl_Hold TX, na_Hold_until TX, lk_Hold_until .., ?_⟩
    refine ra_nil ⟨Y, _, n, st, h, c, u, rfl, ⟨_, _, _, _, C, rfl⟩, by omega, h1, fun M' CM' => ?_⟩
    walk_at "kp"
    obtain ⟨ad2, ct2, kw2, ke2, C2, eq2⟩ := CM'
    exact k _ ⟨ad2, ct2, kw2, ke2, C2.mono (by omega), eq2⟩
  | promise => cases hw
  | lessen => cases hw
  | out => cases hw


end
end Kp

set_option maxHeartbeats 4000000
namespace Kp
open PySem PySem.Spec PyProof.Rows L2
local macro_rules | `(tactic| walk_at "kp0") => `(tactic| try dsimp only [cxOf, Cx.nox, Cx.wish])
local macro_rules | `(tactic| walk_at "kp1") => `(tactic| first
  | with_reducible refine rs_seq ?_
  | with_reducible refine re_var rfl ?_
  | with_reducible refine re_int ?_
  | with_reducible refine re_str ?_
  | with_reducible refine re_op ?_
  | with_reducible refine re_cb ?_
  | with_reducible refine ra_cons ?_
  | ((with_reducible refine ra_nil ?_); first
      | refine Exists.intro _ ⟨rfl, ?_⟩
      | refine ⟨_, _, rfl, ?_⟩
      | refine ⟨_, _, _, rfl, ?_⟩
      | refine ⟨_, _, _, _, rfl, ?_⟩
      | refine ⟨_, _, _, _, _, rfl, ?_⟩
      | refine ⟨_, _, _, _, _, _, rfl, ?_⟩
      | refine And.intro rfl ?_)
  | with_reducible refine ra_nil ?_
  | with_reducible refine rs_ret ?_
  | with_reducible refine rs_asg ?_
  | with_reducible refine rg_name ?_
  | with_reducible refine rs_if ?_
  | with_reducible refine rt_test ?_
  | with_reducible refine rt_B ?_
  | with_reducible refine re_call ?_
  | with_reducible refine rr_int0 ?_
  | with_reducible refine rr_bl0 ?_
  | with_reducible refine rr_I0 rfl ?_
  | with_reducible refine re_bl ?_
  | with_reducible refine re_non ?_
  | with_reducible refine re_ty ?_
  | with_reducible refine re_ref ?_
  | with_reducible refine rs_drop ?_
  | with_reducible refine re_chain ?_
  | with_reducible refine re_andV ?_
  | with_reducible refine re_orV ?_
  | with_reducible refine re_notV ?_
  | with_reducible refine rt_not ?_
  | with_reducible refine rt_and ?_
  | with_reducible refine rt_or ?_
  | with_reducible refine rs_next ?_
  | with_reducible refine rs_cont ?_
  | with_reducible refine rs_break ?_
  | with_reducible refine rs_retN ?_
  | with_reducible refine rr_eq rfl ?_
  | with_reducible refine rr_ne rfl ?_
  | with_reducible refine rr_mulR (by omega) ?_
  | with_reducible refine rr_mulL (by omega) ?_
  | with_reducible refine rr_mod (by omega) ?_
  | with_reducible refine rr_fdiv (by omega) ?_
  | with_reducible refine ro_none ?_
  | with_reducible refine ro_some ?_
  | with_reducible refine re_tup ?_
  | with_reducible refine rg_tup tupD1 rfl ?_
  | with_reducible refine rgs_cons ?_
  | with_reducible refine rgs_nil ?_
  | with_reducible refine rr_ixT0 ?_
  | with_reducible refine rr_ixT1 ?_
  | with_reducible refine rr_ixT2 ?_
  | with_reducible refine rr_ixT3 ?_
  | with_reducible refine rr_ixT4 ?_
  | with_reducible refine rr_ixT5 ?_
  | with_reducible refine rr_isN ?_
  | with_reducible refine rr_notN ?_
  | with_reducible refine rcI1 ?_
  | with_reducible refine rcI2 ?_
  | with_reducible refine rcI3 ?_
  | with_reducible refine rcI4 ?_
  | with_reducible refine rcI5 ?_
  | with_reducible refine rc_listL ?_
  | with_reducible refine rc_lenL ?_
  | with_reducible refine rc_lenT ?_
  | with_reducible refine rc_min2 ?_
  | with_reducible refine rc_intB ?_
  | with_reducible refine re_strip ?_
  | with_reducible refine re_lst (tA := tCons _ _) ?_
  | with_reducible refine re_fld ?_
  | with_reducible refine rs_fld ?_
  | with_reducible refine re_meth ?_
  | with_reducible exact rfl
  | with_reducible refine andT ?_
  | with_reducible refine andF ?_
  | refine Exists.intro _ ⟨rfl, ?_⟩
  | refine andT ?_
  | refine andF ?_
  | assumption
  | refine And.intro rfl ?_
  | refine And.intro (by assumption) ?_
  | with_reducible refine And.intro (Nat.le_of_ble_eq_true rfl) ?_
  | with_reducible refine And.intro (by omega) ?_)
local macro_rules | `(tactic| walk_at "kp") => `(tactic| repeat (walk_at "kp1"))
section
variable {P : Program} {w : World} {K : PySem.W.Frag} {mg : Str → Option Value} {base : Heap}
theorem kit_words (TX : Txt K mg base) (e : Ent) : PySem.W.kitAny K (.ref (He.ga K e.kind)) [.ref (He.ga K "Promise"), .ref (He.ga K "Lessen"), .ref (He.ga K "Out")] = some (isWd e) := by
  have e1 := kit_of_kind TX e.kind "Promise" (kind_mem e) (by simp [kindsL])
  have e2 := kit_of_kind TX e.kind "Lessen" (kind_mem e) (by simp [kindsL])
  have e3 := kit_of_kind TX e.kind "Out" (kind_mem e) (by simp [kindsL])
  have all : ∀ a b c : Bool, decide (e.kind = "Promise") = a → decide (e.kind = "Lessen") = b → decide (e.kind = "Out") = c → isWd e = (a || b || c) := by
    rintro a b c rfl rfl rfl
    cases e
    · exact (show false = (decide (("Give" : Str) = "Promise") || decide (("Give" : Str) = "Lessen") || decide (("Give" : Str) = "Out")) by decide +kernel)
    · exact (show false = (decide (("Hold" : Str) = "Promise") || decide (("Hold" : Str) = "Lessen") || decide (("Hold" : Str) = "Out")) by decide +kernel)
    · exact (show false = (decide (("Move" : Str) = "Promise") || decide (("Move" : Str) = "Lessen") || decide (("Move" : Str) = "Out")) by decide +kernel)
    · exact (show false = (decide (("Spend" : Str) = "Promise") || decide (("Spend" : Str) = "Lessen") || decide (("Spend" : Str) = "Out")) by decide +kernel)
    · exact (show true = (decide (("Promise" : Str) = "Promise") || decide (("Promise" : Str) = "Lessen") || decide (("Promise" : Str) = "Out")) by decide +kernel)
    · exact (show true = (decide (("Lessen" : Str) = "Promise") || decide (("Lessen" : Str) = "Lessen") || decide (("Lessen" : Str) = "Out")) by decide +kernel)
    · exact (show true = (decide (("Out" : Str) = "Promise") || decide (("Out" : Str) = "Lessen") || decide (("Out" : Str) = "Out")) by decide +kernel)
  rw [all _ _ _ rfl rfl rfl]
  revert e1 e2 e3
  generalize decide (e.kind = "Promise") = a
  generalize decide (e.kind = "Lessen") = b
  generalize decide (e.kind = "Out") = c
  intro e1 e2 e3
  unfold PySem.W.kitAny
  rw [e1]
  cases a
  · show PySem.W.kitAny _ _ _ = _
    unfold PySem.W.kitAny
    rw [e2]
    cases b
    · show PySem.W.kitAny _ _ _ = _
      unfold PySem.W.kitAny
      rw [e3]
      cases c <;> rfl
    · rfl
  · rfl
theorem isiT_words (TX : Txt K mg base) {M : Mem} {Pd : D → Mem → Prop} {e : Ent} (p : Pd (.bl (isWd e)) M) : RC K (rIsiT K) [encE K e, .tup [.ref (He.ga K "Promise"), .ref (He.ga K "Lessen"), .ref (He.ga K "Out")]] M Pd :=
  rc_isiT (cs := [He.ga K "Promise", He.ga K "Lessen", He.ga K "Out"]) (.ins (clsE TX e)) (kit_words TX e) p
def putS (Y : Yr) (st : Cst) (date : Int) (e : Ent) : Bool × Cst :=
  if isWd e = true then if faultS st e = true then (true, st) else (false, putWS Y st date e) else (false, putOS Y st date e)
def spc_Count_put (K : PySem.W.Frag) : Spc := fun ds M Pc => ∃ (Y : Yr) (a : Addr) (n : Nat) (st : Cst) (date : Int) (e : Ent), ds = [.ref a, .int date, encE K e] ∧ CountM K Y a n st M ∧ n < 9000 ∧ (∀ h ∈ e.names, h ∈ Y.names) ∧ ∀ M', CountM K Y a (n + 5) (putS Y st date e).2 M' → Pc (.bl (putS Y st date e).1) M'
theorem len_Count_put (ds : List D) (M : Mem) (Pc : D → Mem → Prop) (h : spc_Count_put K ds M Pc) : ds.length = 3 := by
  obtain ⟨_, _, _, _, _, _, rfl, _⟩ := h
  rfl
abbrev nm_Count_put : List Str := ["self", "date", "entry"]
theorem sc_Count_put : FnScope nm_Count_put ["self", "date", "entry"] (defScope s_Count_put) := ⟨rfl, rfl, rfl, by decide +kernel, rfl, by decide +kernel, by decide +kernel⟩
theorem ok_Count_put (TX : Txt K mg base) : Kept P w K mg base 3 (He.fAd K ("Count", some "put")) ["self", "date", "entry"] (spc_Count_put K) := by
  obtain ⟨fd_Count_is_fault, G_Count_is_fault, kp_Count_is_fault, b_Count_is_fault⟩ := ok_Count_is_fault (P := P) (w := w) TX
  obtain ⟨fd_Count_put_promise, G_Count_put_promise, kp_Count_put_promise, b_Count_put_promise⟩ := ok_Count_put_promise (P := P) (w := w) TX
  obtain ⟨fd_Count_put_other, G_Count_put_other, kp_Count_put_other, b_Count_put_other⟩ := ok_Count_put_other (P := P) (w := w) TX
  refine okD (fn_Count_put TX) sc_Count_put (fun _ _ _ _ _ _ us hl => match us, hl with | [_, _, _], _ => rfl) len_Count_put fun cdv A outer s H E hr ds M Pc h => ?_
  obtain ⟨Y, a, n, st, date, e, rfl, CM0, hn, hh, k⟩ := h
  obtain ⟨ad, ct, kw, ke, C, rfl⟩ := id CM0
  refine ⟨_, (pss_cons (ps_if (pt_val (pe_callB call_isiT rfl (n_isinstance TX) (by decide +kernel) (pa_cons (pv 2) (pa_cons (pe_tup (pa_cons (pe_glob (v := .ref (He.ga K "Promise")) rfl (g_Promise TX) rfl) (pa_cons (pe_glob (v := .ref (He.ga K "Lessen")) rfl (g_Lessen TX) rfl) (pa_cons (pe_glob (v := .ref (He.ga K "Out")) rfl (g_Out TX) rfl) pa_nil)))) pa_nil)))) (pss_cons (ps_if (pt_val (pe_meth (pv 0) (cl_Count TX) (me_Count_is_fault TX) G_Count_is_fault (hr.mono (by decide)) b_Count_is_fault .nil pass0 (pa_cons (pv 2) pa_nil))) (pss_one (ps_ret pe_bl)) pss_nil)
    (pss_one (ps_expr (pe_meth (pv 0) (cl_Count TX) (me_Count_put_promise TX) G_Count_put_promise (hr.mono (by decide)) b_Count_put_promise .nil pass0 (pa_cons (pv 1) (pa_cons (pv 2) pa_nil)))))) (pss_one (ps_expr (pe_meth (pv 0) (cl_Count TX) (me_Count_put_other TX) G_Count_put_other (hr.mono (by decide)) b_Count_put_other .nil pass0 (pa_cons (pv 1) (pa_cons (pv 2) pa_nil))))))
    (pss_one (ps_ret pe_bl))), ?_⟩
  walk_at "kp0"
  walk_at "kp"
  refine isiT_words TX ?_
  unfold putS at k
  cases hw : isWd e with
  | true =>
    rw [hw, if_pos rfl] at k
    walk_at "kp"
    refine ⟨_, insD2 (C.at C.self), lm_Count_is_fault .., ?_⟩
    walk_at "kp"
    refine ⟨Y, _, n, st, e, rfl, CM0, hw, ?_⟩
    cases hf : faultS st e with
    | true =>
      rw [hf, if_pos rfl] at k
      walk_at "kp"
      exact k _ ⟨ad, ct, kw, ke, C.mono (by omega), rfl⟩
    | false =>
      rw [hf, if_neg Bool.false_ne_true] at k
      walk_at "kp"
      refine ⟨_, insD2 (C.at C.self), lm_Count_put_promise .., ?_⟩
      walk_at "kp"
      refine ⟨Y, _, n, st, date, e, rfl, CM0, by omega, hw, hh, hf, fun M' CM' => ?_⟩
      walk_at "kp"
      obtain ⟨ad2, ct2, kw2, ke2, C2, eq2⟩ := CM'
      exact k _ ⟨ad2, ct2, kw2, ke2, C2.mono (by omega), eq2⟩
  | false =>
    rw [hw, if_neg Bool.false_ne_true] at k
    walk_at "kp"
    refine ⟨_, insD2 (C.at C.self), lm_Count_put_other .., ?_⟩
    walk_at "kp"
    refine ⟨Y, _, n, st, date, e, rfl, CM0, by omega, hw, hh, fun M' CM' => ?_⟩
    walk_at "kp"
    exact k _ CM'


end
end Kp

set_option maxHeartbeats 4000000
namespace Kp
open PySem PySem.Spec PyProof.Rows L2
local macro_rules | `(tactic| walk_at "kp0") => `(tactic| try dsimp only [cxOf, Cx.nox, Cx.wish])
local macro_rules | `(tactic| walk_at "kp1") => `(tactic| first
  | with_reducible refine rs_seq ?_
  | with_reducible refine re_var rfl ?_
  | with_reducible refine re_int ?_
  | with_reducible refine re_str ?_
  | with_reducible refine re_op ?_
  | with_reducible refine re_cb ?_
  | with_reducible refine ra_cons ?_
  | ((with_reducible refine ra_nil ?_); first
      | refine Exists.intro _ ⟨rfl, ?_⟩
      | refine ⟨_, _, rfl, ?_⟩
      | refine ⟨_, _, _, rfl, ?_⟩
      | refine ⟨_, _, _, _, rfl, ?_⟩
      | refine ⟨_, _, _, _, _, rfl, ?_⟩
      | refine ⟨_, _, _, _, _, _, rfl, ?_⟩
      | refine And.intro rfl ?_)
  | with_reducible refine ra_nil ?_
  | with_reducible refine rs_ret ?_
  | with_reducible refine rs_asg ?_
  | with_reducible refine rg_name ?_
  | with_reducible refine rs_if ?_
  | with_reducible refine rt_test ?_
  | with_reducible refine rt_B ?_
  | with_reducible refine re_call ?_
  | with_reducible refine rr_int0 ?_
  | with_reducible refine rr_bl0 ?_
  | with_reducible refine rr_I0 rfl ?_
  | with_reducible refine re_bl ?_
  | with_reducible refine re_non ?_
  | with_reducible refine re_ty ?_
  | with_reducible refine re_ref ?_
  | with_reducible refine rs_drop ?_
  | with_reducible refine re_chain ?_
  | with_reducible refine re_andV ?_
  | with_reducible refine re_orV ?_
  | with_reducible refine re_notV ?_
  | with_reducible refine rt_not ?_
  | with_reducible refine rt_and ?_
  | with_reducible refine rt_or ?_
  | with_reducible refine rs_next ?_
  | with_reducible refine rs_cont ?_
  | with_reducible refine rs_break ?_
  | with_reducible refine rs_retN ?_
  | with_reducible refine rr_eq rfl ?_
  | with_reducible refine rr_ne rfl ?_
  | with_reducible refine rr_mulR (by omega) ?_
  | with_reducible refine rr_mulL (by omega) ?_
  | with_reducible refine rr_mod (by omega) ?_
  | with_reducible refine rr_fdiv (by omega) ?_
  | with_reducible refine ro_none ?_
  | with_reducible refine ro_some ?_
  | with_reducible refine re_tup ?_
  | with_reducible refine rg_tup tupD1 rfl ?_
  | with_reducible refine rgs_cons ?_
  | with_reducible refine rgs_nil ?_
  | with_reducible refine rr_ixT0 ?_
  | with_reducible refine rr_ixT1 ?_
  | with_reducible refine rr_ixT2 ?_
  | with_reducible refine rr_ixT3 ?_
  | with_reducible refine rr_ixT4 ?_
  | with_reducible refine rr_ixT5 ?_
  | with_reducible refine rr_isN ?_
  | with_reducible refine rr_notN ?_
  | with_reducible refine rcI1 ?_
  | with_reducible refine rcI2 ?_
  | with_reducible refine rcI3 ?_
  | with_reducible refine rcI4 ?_
  | with_reducible refine rcI5 ?_
  | with_reducible refine rc_listL ?_
  | with_reducible refine rc_lenL ?_
  | with_reducible refine rc_lenT ?_
  | with_reducible refine rc_min2 ?_
  | with_reducible refine rc_intB ?_
  | with_reducible refine re_strip ?_
  | with_reducible refine re_lst (tA := tCons _ _) ?_
  | with_reducible refine re_fld ?_
  | with_reducible refine rs_fld ?_
  | with_reducible refine re_meth ?_
  | with_reducible exact rfl
  | with_reducible refine andT ?_
  | with_reducible refine andF ?_
  | refine Exists.intro _ ⟨rfl, ?_⟩
  | refine andT ?_
  | refine andF ?_
  | assumption
  | refine And.intro rfl ?_
  | refine And.intro (by assumption) ?_
  | with_reducible refine And.intro (Nat.le_of_ble_eq_true rfl) ?_
  | with_reducible refine And.intro (by omega) ?_)
local macro_rules | `(tactic| walk_at "kp") => `(tactic| repeat (walk_at "kp1"))
section
variable {P : Program} {w : World} {K : PySem.W.Frag} {mg : Str → Option Value} {base : Heap}
section
variable {Y : Yr} {n : Nat} {st : Cst} {M : Mem} {ad : Lab → Addr} {ct : Lab → Option Cell} {kw ke : List (Key × D)} {p : Addr} {c : Cell}
def Off (ad : Lab → Addr) (ct : Lab → Option Cell) (p : Addr) : Prop := ∀ l c, ct l = some c → ad l ≠ p
theorem CM.off (C : CM K Y n st M ad ct kw ke) (hp : M p = none) : Off ad ct p := fun l c e z => by
  have := C.at e
  rw [z, hp] at this
  cases this
theorem CM.keep (C : CM K Y n st M ad ct kw ke) (h : Off ad ct p) : CM K Y n st (mset M p c) ad ct kw ke := { C with lay := ⟨fun l c' e => by rw [mset_ne (h l c' e)]; exact C.lay.cell l c' e, C.lay.inj⟩ }
end
def spc_Count_stand (K : PySem.W.Frag) : Spc := fun ds M Pc => ∃ (Y : Yr) (a : Addr) (n : Nat) (st : Cst), ds = [.ref a] ∧ CountM K Y a n st M ∧ ∀ d M', CountM K Y a n st M' → Pc d M'
theorem len_Count_stand (ds : List D) (M : Mem) (Pc : D → Mem → Prop) (h : spc_Count_stand K ds M Pc) : ds.length = 1 := by
  obtain ⟨_, _, _, _, rfl, _⟩ := h
  rfl
abbrev nm_Count_stand : List Str := ["self", "money", "head"]
theorem sc_Count_stand : FnScope nm_Count_stand ["self"] (defScope s_Count_stand) := ⟨rfl, rfl, rfl, by decide +kernel, rfl, by decide +kernel, by decide +kernel⟩
theorem ok_Count_stand (TX : Txt K mg base) : Kept P w K mg base 2 (He.fAd K ("Count", some "stand")) ["self"] (spc_Count_stand K) := by
  obtain ⟨fd_Year_names, G_Year_names, kp_Year_names, b_Year_names⟩ := ok_Year_names (P := P) (w := w) TX
  obtain ⟨fd_Count_left, G_Count_left, kp_Count_left, b_Count_left⟩ := ok_Count_left (P := P) (w := w) TX
  refine okD (fn_Count_stand TX) sc_Count_stand (fun _ _ _ _ _ _ us hl => match us, hl with | [_], _ => rfl) len_Count_stand fun cdv A outer s H E hr ds M Pc h => ?_
  obtain ⟨Y, a, n, st, rfl, ⟨ad, ct, kw, ke, C, rfl⟩, k⟩ := h
  have yo := C.y.ok
  refine ⟨_, (pss_cons (ps_set (i := 1) sc_Count_stand.nd rfl (Or.inl rfl) pe_dnewK)
    (pss_cons (ps_for PassesOwn.never rfl (pi_list (pe_meth0 (pe_fld (pv 0) rfl) (cl_Year TX) (me_Year_names TX) G_Year_names (hr.mono (by decide)) b_Year_names .nil pass0)) (pg_name (i := 2) sc_Count_stand.nd rfl (Or.inl rfl))
    (pss_cons (ps_dput (hu_of hr) (pv 1) (pv 2) (pe_callTy call_dictD rfl (n_dict TX) (by decide +kernel) (pa_cons (pe_dget (hu_of hr) (pe_fld (pv 0) rfl) (pv 2) (fun _ _ => rfl)) pa_nil)) rfl)
    (pss_one (ps_dput (hu_of hr) (pe_dget (hu_of hr) (pv 1) (pv 2) (fun _ _ => rfl)) pe_str (pe_meth (pv 0) (cl_Count TX) (me_Count_left TX) G_Count_left (hr.mono (by decide)) b_Count_left .nil pass0 (pa_cons (pv 2) pa_nil)) rfl))))
    (pss_one (ps_ret (pe_tup (pa_cons (pv 1) (pa_cons (pe_callTy call_dictD rfl (n_dict TX) (by decide +kernel) (pa_cons (pe_fld (pv 0) rfl) pa_nil)) (pa_cons (pe_callTy call_list_of rfl (n_list TX) (by decide +kernel) (pa_cons (pe_fld (pv 0) rfl) pa_nil)) pa_nil)))))))), ?_⟩
  walk_at "kp0"
  walk_at "kp"
  refine re_dnew fun q hq => ?_
  have Cq := C.more (c := .dic []) hq
  have oq := C.off hq
  walk_at "kp"
  refine rs_for D.str Y.names (fun pre δ' M' => (∃ t, δ' = [some (.ref (ad .self)), some (.ref q), t]) ∧ CM K Y n st M' ad ct kw ke ∧ ∃ kd, M' q = some (.dic kd) ∧ kd.length ≤ pre.length) ?_ ?_ ?_
  · walk_at "kp"
    refine ⟨_, _, _, insD2 (Cq.at Cq.self), cl_Count TX, na_Count_year TX, lk_Count_year .., ?_⟩
    walk_at "kp"
    refine ⟨_, insD1, lm_Year_names .., ?_⟩
    walk_at "kp"
    exact ⟨.inl rfl, ⟨_, rfl⟩, Cq, _, mset_same, Nat.le_refl 0⟩
  · rintro pre x post δ' M' e ⟨⟨t, rfl⟩, C, kd, hkd, hlen⟩
    have hx : x ∈ Y.names := by rw [e]; simp
    have hpl : pre.length ≤ 8 := by
      have := congrArg List.length e
      rw [List.length_append] at this
      have h8 := yo.hd
      unfold Yr.names at this
      rw [List.length_map] at this
      omega
    walk_at "kp"
    refine rs_dput ?_
    walk_at "kp"
    refine re_dget ?_
    walk_at "kp"
    refine ⟨_, _, _, insD2 (C.at C.self), cl_Count TX, na_Count_money TX, lk_Count_money .., ?_⟩
    walk_at "kp"
    refine ⟨_, _, Sum.inr x, _, rfl, C.at C.money, rfl, get_money hx, ?_⟩
    refine ra_nil (rc_dictD (C.at (C.sum x hx)) fun p hp => ?_)
    have C1 := C.more (c := .dic (sumsK (st.money x))) hp
    have hpq : q ≠ p := fun z => by rw [z, hp] at hkd; cases hkd
    have op := C.off hp
    walk_at "kp"
    refine ⟨_, _, Sum.inr x, rfl, by rw [mset_ne hpq]; exact hkd, rfl, by omega, ?_⟩
    have C2 := C1.keep (c := .dic (setD kd (.inr x) (.ref p))) oq
    walk_at "kp"
    refine rs_dput ?_
    walk_at "kp"
    refine ⟨_, insD2 (C2.at C2.self), lm_Count_left .., ?_⟩
    walk_at "kp"
    refine ⟨Y, _, n, st, x, rfl, ⟨_, _, _, _, C2, rfl⟩, hx, ?_⟩
    refine re_dget ?_
    walk_at "kp"
    refine ⟨_, _, Sum.inr x, .ref p, rfl, mset_same, rfl, by rw [getD_set, if_pos rfl], ?_⟩
    walk_at "kp"
    have hqp : p ≠ q := fun z => hpq z.symm
    refine ⟨_, _, Sum.inr "left", rfl, by rw [mset_ne hqp]; exact mset_same, rfl, by show 5 < 100000; decide, ?_⟩
    have C3 := C2.keep (c := .dic (setD (sumsK (st.money x)) (.inr "left") (.int (leftS (st.money x))))) op
    refine ⟨⟨_, rfl⟩, C3, _, by rw [mset_ne hpq]; exact mset_same, ?_⟩
    have := setD_length kd (.inr x) (.ref p)
    rw [List.length_append, List.length_singleton]
    omega
  · rintro δ' M' ⟨⟨t, rfl⟩, C, kd, hkd, hlen⟩
    walk_at "kp"
    refine ⟨_, _, _, insD2 (C.at C.self), cl_Count TX, na_Count_words TX, lk_Count_words .., ?_⟩
    refine ra_nil (rc_dictD (C.at C.words) fun p hp => ?_)
    have C1 := C.more (c := .dic kw) hp
    walk_at "kp"
    refine ⟨_, _, _, insD2 (C1.at C1.self), cl_Count TX, na_Count_loads TX, lk_Count_loads .., ?_⟩
    refine ra_nil (rc_list (.inl (lstD3 (C1.at C1.loads))) ?_)
    walk_at "kp"
    exact k _ _ ⟨_, _, _, _, C1, rfl⟩


end
end Kp

set_option maxHeartbeats 4000000
namespace Kp
open PySem PySem.Spec PyProof.Rows L2
local macro_rules | `(tactic| walk_at "kp0") => `(tactic| try dsimp only [cxOf, Cx.nox, Cx.wish])
local macro_rules | `(tactic| walk_at "kp1") => `(tactic| first
  | with_reducible refine rs_seq ?_
  | with_reducible refine re_var rfl ?_
  | with_reducible refine re_int ?_
  | with_reducible refine re_str ?_
  | with_reducible refine re_op ?_
  | with_reducible refine re_cb ?_
  | with_reducible refine ra_cons ?_
  | ((with_reducible refine ra_nil ?_); first
      | refine Exists.intro _ ⟨rfl, ?_⟩
      | refine ⟨_, _, rfl, ?_⟩
      | refine ⟨_, _, _, rfl, ?_⟩
      | refine ⟨_, _, _, _, rfl, ?_⟩
      | refine ⟨_, _, _, _, _, rfl, ?_⟩
      | refine ⟨_, _, _, _, _, _, rfl, ?_⟩
      | refine And.intro rfl ?_)
  | with_reducible refine ra_nil ?_
  | with_reducible refine rs_ret ?_
  | with_reducible refine rs_asg ?_
  | with_reducible refine rg_name ?_
  | with_reducible refine rs_if ?_
  | with_reducible refine rt_test ?_
  | with_reducible refine rt_B ?_
  | with_reducible refine re_call ?_
  | with_reducible refine rr_int0 ?_
  | with_reducible refine rr_bl0 ?_
  | with_reducible refine rr_I0 rfl ?_
  | with_reducible refine re_bl ?_
  | with_reducible refine re_non ?_
  | with_reducible refine re_ty ?_
  | with_reducible refine re_ref ?_
  | with_reducible refine rs_drop ?_
  | with_reducible refine re_chain ?_
  | with_reducible refine re_andV ?_
  | with_reducible refine re_orV ?_
  | with_reducible refine re_notV ?_
  | with_reducible refine rt_not ?_
  | with_reducible refine rt_and ?_
  | with_reducible refine rt_or ?_
  | with_reducible refine rs_next ?_
  | with_reducible refine rs_cont ?_
  | with_reducible refine rs_break ?_
  | with_reducible refine rs_retN ?_
  | with_reducible refine rr_eq rfl ?_
  | with_reducible refine rr_ne rfl ?_
  | with_reducible refine rr_mulR (by omega) ?_
  | with_reducible refine rr_mulL (by omega) ?_
  | with_reducible refine rr_mod (by omega) ?_
  | with_reducible refine rr_fdiv (by omega) ?_
  | with_reducible refine ro_none ?_
  | with_reducible refine ro_some ?_
  | with_reducible refine re_tup ?_
  | with_reducible refine rg_tup tupD1 rfl ?_
  | with_reducible refine rgs_cons ?_
  | with_reducible refine rgs_nil ?_
  | with_reducible refine rr_ixT0 ?_
  | with_reducible refine rr_ixT1 ?_
  | with_reducible refine rr_ixT2 ?_
  | with_reducible refine rr_ixT3 ?_
  | with_reducible refine rr_ixT4 ?_
  | with_reducible refine rr_ixT5 ?_
  | with_reducible refine rr_isN ?_
  | with_reducible refine rr_notN ?_
  | with_reducible refine rcI1 ?_
  | with_reducible refine rcI2 ?_
  | with_reducible refine rcI3 ?_
  | with_reducible refine rcI4 ?_
  | with_reducible refine rcI5 ?_
  | with_reducible refine rc_listL ?_
  | with_reducible refine rc_lenL ?_
  | with_reducible refine rc_lenT ?_
  | with_reducible refine rc_min2 ?_
  | with_reducible refine rc_intB ?_
  | with_reducible refine re_strip ?_
  | with_reducible refine re_lst (tA := tCons _ _) ?_
  | with_reducible refine re_fld ?_
  | with_reducible refine rs_fld ?_
  | with_reducible refine re_meth ?_
  | with_reducible exact rfl
  | with_reducible refine andT ?_
  | with_reducible refine andF ?_
  | refine Exists.intro _ ⟨rfl, ?_⟩
  | refine andT ?_
  | refine andF ?_
  | assumption
  | refine And.intro rfl ?_
  | refine And.intro (by assumption) ?_
  | with_reducible refine And.intro (Nat.le_of_ble_eq_true rfl) ?_
  | with_reducible refine And.intro (by omega) ?_)
local macro_rules | `(tactic| walk_at "kp") => `(tactic| repeat (walk_at "kp1"))
section
variable {P : Program} {w : World} {K : PySem.W.Frag} {mg : Str → Option Value} {base : Heap}
section
variable {I I' I1 F F' H H' : Hp} {M M' m r : Mem} {p : Addr} {d : D} {vs : List V} {ds : List D} {σ : L2.St} {δ : DEnv} {P : D → Mem → Prop} {tA : TA} {te tl : TE} {g : TG} {t : TT}
theorem mid_endC {n : Nat} {Inv : List D → Mem → Prop} {Q : VK} (m : Mid K I1 F p n Inv H) (h : ∀ acc M', acc.length ≤ n → Inv acc M' → M' p = none → P (.ref p) (mset M' p (.lst acc))) (q : ∀ v H', LiftE K I1 F P v H' → Q v H') : Q (.ref p) H := by
  obtain ⟨I', M', acc, av, e', s', fp, ka, la, z⟩ := m
  have hp : H p = some (.lst av) := s'.frm _ _ upd_same
  have ip : I' p = none := s'.dis _ _ upd_same
  have mp : M' p = none := by
    cases w : M' p with
    | none => rfl
    | some c =>
      have := (s'.cell p c w).2.1
      rw [upd_same] at this
      cases this
  refine q _ _ ⟨.ref p, I', _, e', ⟨s'.sub, fun b o w => ?_, fun b o w => ?_, fun b c w => ?_, s'.tab, s'.ntI, fun b ps e => ?_⟩, .ref p, h acc M' la z mp⟩
  · have eb : b ≠ p := fun z => by rw [z, fp] at w; cases w
    exact s'.frm b o (by rw [upd_ne eb]; exact w)
  · have eb : b ≠ p := fun z => by rw [z, fp] at w; cases w
    exact s'.dis b o (by rw [upd_ne eb]; exact w)
  · by_cases eb : b = p
    · subst eb
      rw [mset_same] at w
      cases w
      exact ⟨ip, fp, av, hp, ka⟩
    · rw [mset_ne eb] at w
      obtain ⟨a1, a2, a3⟩ := s'.cell b c w
      rw [upd_ne eb] at a2
      exact ⟨a1, a2, a3⟩
  · have eb : b ≠ p := fun z => by rw [z, fp] at e; cases e
    exact s'.ntF b ps (by rw [upd_ne eb]; exact e)
/-- [e for x in xs], the list a cell -/
theorem re_lcC {X : Type} {ws : List Nat} (enc : X → D) (xs : List X) (f : X → D) (hz : xs.length ≤ 100000) (h : RE K tl δ M fun d M1 => LstI d (xs.map enc) ∧ M1 = M)
    (hs : ∀ x, x ∈ xs → RGc K ws g (enc x) (wipeD δ ws) M fun δ2 M2 => RE K te δ2 M2 fun y M4 => y = f x ∧ M4 = M) (hd : ∀ p, M p = none → P (.ref p) (mset M p (.lst (xs.map f)))) : RE K (tLc (iList K tl) g tYes te ws) δ M P := fun σ I F H he hs' Q q =>
  h.use he hs' fun v d I1 M1 H1 e1 s1 r1 ⟨hl, em⟩ => by
    subst em
    obtain ⟨a, vs, rfl, hq, kk⟩ := hl.get r1
    have len : vs.length = xs.length := by rw [kk.length, List.length_map]
    refine ⟨a, rfl, ⟨vs, sameL s1.sub hq⟩, fun p hp => lc_list (fun i => Mid K I1 F p i (fun acc M' => acc = (xs.take i).map f ∧ M' = M1)) (mid_start s1 hp ⟨by rw [List.take_zero]; rfl, rfl⟩) (fun i H' _ ⟨I', M', acc, av, e', s', _⟩ => sameL (e'.trans s'.sub) hq) ?_ ?_⟩
    · intro i w H' hi m
      have hi2 : i < xs.length := by rw [← len]; exact (List.getElem?_eq_some_iff.mp hi).1
      obtain ⟨q1, q2⟩ := split_at (List.getElem?_eq_getElem hi2)
      have hw : ∀ I', Same I1 I' → Is K I' w (enc xs[i]) := fun I' e' => by
        obtain ⟨w2, hw2, r2⟩ := kk.get (i := i) (d := enc xs[i]) (by rw [List.getElem?_map, List.getElem?_eq_getElem hi2]; rfl)
        rw [hi] at hw2
        cases hw2
        exact r2.mono e'
      refine mid_turn (by omega) (he.mono e1) m hw ?_
      rintro acc M' ⟨rfl, rfl⟩
      have hx : xs[i] ∈ xs := List.getElem_mem hi2
      intro v σ I F H hv he hs' Q q
      refine hs _ hx v σ I F H hv he hs' Q fun σ2 H2 ew ⟨δ2, I2, M2, e2, s2, he2, z⟩ => q σ2 H2 ew ⟨δ2, I2, M2, e2, s2, he2, rt_yes ⟨fun _ => z.imp ?_, fun z => by cases z⟩⟩
      rintro d M4 ⟨rfl, rfl⟩
      exact ⟨by rw [q2, List.map_append]; rfl, rfl⟩
    · intro H' m
      rw [len, List.take_length] at m
      refine mid_endC m ?_ fun v H' z => q v H' (z.up e1)
      rintro acc M' _ ⟨rfl, rfl⟩ hp
      exact hd p hp
abbrev m0 : Mem := fun _ => none
theorem madd_m0 {p : Addr} {c : Cell} : madd (mset m0 p c) r = mset r p c := by
  funext b
  by_cases e : b = p
  · subst e; rw [madd_l mset_same, mset_same]
  · rw [madd_r (by rw [mset_ne e]), mset_ne e]
theorem re_makeF {C : Addr} {S : Spc} {E0' : XK} (h : RA K tA δ M fun ds M1 => ∀ p, M1 p = none → S (.ref p :: ds) (mset m0 p (.ins C [])) fun d m' => d = .non ∧ (mdis m' M1 → P (.ref p) (madd m' M1))) : RE K (tMake C (spL K S) [] E0' tA) δ M P := fun σ I F H he hs Q q =>
  h.use he hs fun vs ds I1 M1 H1 e1 s1 r1 p1 x dx hx hdx nx => by
    have hx2 : (upd H1 dx (.own x)) x = none := by rw [upd_ne nx.symm]; exact hx
    obtain ⟨e2, s2⟩ := s1.still (o := .own x) hdx
    have s3 := s2.cellN (o := .ins C dx []) hx2 (c := .ins C []) ⟨dx, [], upd_same, .nil⟩
    have hM := (s1.free hx).2.2
    rw [← madd_m0] at s3
    have dm : mdis (mset m0 x (.ins C [])) M1 := fun b c e => by
      by_cases eb : b = x
      · rw [eb]; exact hM
      · rw [mset_ne eb] at e; cases e
    obtain ⟨F', s4, back⟩ := s3.apart dm
    refine ⟨.ref x :: ds, _, F', _, _, by rw [List.append_nil]; exact .cons (.ref x) (r1.mono e2), s4, p1 x hM, fun v H' ⟨d, I', m', e4, s5, r4, ed, z⟩ => ?_⟩
    subst ed
    cases r4
    obtain ⟨s6, dm'⟩ := back I' H' m' e4 s5
    exact ⟨rfl, q _ H' ⟨.ref x, I', _, (e1.trans e2).trans e4, s6, .ref x, z dm'⟩⟩
end
theorem mergeD_snoc (kd : List (Key × D)) : ∀ md : List (Key × D), (∀ a ∈ kd, ∀ b ∈ md, a.1 ≠ b.1) → (md.map (·.1)).Nodup → mergeD kd md = kd ++ md
  | [], _, _ => by unfold mergeD; simp
  | q :: r, h, n => by
    have e : setD kd q.1 q.2 = kd ++ [q] := by
      unfold setD
      rw [if_neg fun z => by
        obtain ⟨a, ha, e⟩ := List.any_eq_true.mp z
        exact h a ha q List.mem_cons_self (of_decide_eq_true e)]
    show mergeD (setD kd q.1 q.2) r = _
    rw [List.map_cons, List.nodup_cons] at n
    rw [e, mergeD_snoc (kd ++ [q]) r (fun a ha b hb => ?_) n.2, List.append_assoc]
    · rfl
    · rcases List.mem_append.mp ha with ha | ha
      · exact h a ha b (List.mem_cons_of_mem _ hb)
      · rw [List.mem_singleton.mp ha]
        exact fun z => n.1 (List.mem_map.mpr ⟨b, hb, z.symm⟩)
theorem mergeD_nodup (md : List (Key × D)) (n : (md.map (·.1)).Nodup) : mergeD [] md = md := by
  rw [mergeD_snoc [] md (fun a ha => by cases ha) n]
  rfl
theorem nodup_pre {α : Type} : ∀ {xs : List α}, (∀ pre x post, xs = pre ++ x :: post → x ∉ pre) → xs.Nodup
  | [], _ => List.nodup_nil
  | x :: r, h => by
    refine List.nodup_cons.mpr ⟨fun hx => ?_, nodup_pre fun pre y post e hy => h (x :: pre) y post (by rw [e]; rfl) (List.mem_cons_of_mem _ hy)⟩
    obtain ⟨pre, post, e⟩ := List.append_of_mem hx
    exact h (x :: pre) x post (by rw [e]; rfl) List.mem_cons_self
theorem HeadsOk.nodup {hs : List (Str × Str)} (h : HeadsOk hs) : (hs.map (·.1)).Nodup := by
  refine nodup_pre fun pre x post e => ?_
  obtain ⟨l1, l2, e1, e2, e3⟩ := List.map_eq_append_iff.mp e
  obtain ⟨y, l3, e4, e5, e6⟩ := List.map_eq_cons_iff.mp e3
  subst e2 e4
  have := (h.ok _ _ _ e1).2.1
  rw [e5] at this
  exact this
def st0 (Y : Yr) : Cst := { money := fun _ => ⟨0, 0, 0, 0, 0⟩, words := fun _ => none, loads := Y.limits.map fun _ => 0, ends := fun _ => [] }


end
end Kp

set_option maxHeartbeats 4000000
namespace Kp
open PySem PySem.Spec PyProof.Rows L2
local macro_rules | `(tactic| walk_at "kp0") => `(tactic| try dsimp only [cxOf, Cx.nox, Cx.wish])
local macro_rules | `(tactic| walk_at "kp1") => `(tactic| first
  | with_reducible refine rs_seq ?_
  | with_reducible refine re_var rfl ?_
  | with_reducible refine re_int ?_
  | with_reducible refine re_str ?_
  | with_reducible refine re_op ?_
  | with_reducible refine re_cb ?_
  | with_reducible refine ra_cons ?_
  | ((with_reducible refine ra_nil ?_); first
      | refine Exists.intro _ ⟨rfl, ?_⟩
      | refine ⟨_, _, rfl, ?_⟩
      | refine ⟨_, _, _, rfl, ?_⟩
      | refine ⟨_, _, _, _, rfl, ?_⟩
      | refine ⟨_, _, _, _, _, rfl, ?_⟩
      | refine ⟨_, _, _, _, _, _, rfl, ?_⟩
      | refine And.intro rfl ?_)
  | with_reducible refine ra_nil ?_
  | with_reducible refine rs_ret ?_
  | with_reducible refine rs_asg ?_
  | with_reducible refine rg_name ?_
  | with_reducible refine rs_if ?_
  | with_reducible refine rt_test ?_
  | with_reducible refine rt_B ?_
  | with_reducible refine re_call ?_
  | with_reducible refine rr_int0 ?_
  | with_reducible refine rr_bl0 ?_
  | with_reducible refine rr_I0 rfl ?_
  | with_reducible refine re_bl ?_
  | with_reducible refine re_non ?_
  | with_reducible refine re_ty ?_
  | with_reducible refine re_ref ?_
  | with_reducible refine rs_drop ?_
  | with_reducible refine re_chain ?_
  | with_reducible refine re_andV ?_
  | with_reducible refine re_orV ?_
  | with_reducible refine re_notV ?_
  | with_reducible refine rt_not ?_
  | with_reducible refine rt_and ?_
  | with_reducible refine rt_or ?_
  | with_reducible refine rs_next ?_
  | with_reducible refine rs_cont ?_
  | with_reducible refine rs_break ?_
  | with_reducible refine rs_retN ?_
  | with_reducible refine rr_eq rfl ?_
  | with_reducible refine rr_ne rfl ?_
  | with_reducible refine rr_mulR (by omega) ?_
  | with_reducible refine rr_mulL (by omega) ?_
  | with_reducible refine rr_mod (by omega) ?_
  | with_reducible refine rr_fdiv (by omega) ?_
  | with_reducible refine ro_none ?_
  | with_reducible refine ro_some ?_
  | with_reducible refine re_tup ?_
  | with_reducible refine rg_tup tupD1 rfl ?_
  | with_reducible refine rgs_cons ?_
  | with_reducible refine rgs_nil ?_
  | with_reducible refine rr_ixT0 ?_
  | with_reducible refine rr_ixT1 ?_
  | with_reducible refine rr_ixT2 ?_
  | with_reducible refine rr_ixT3 ?_
  | with_reducible refine rr_ixT4 ?_
  | with_reducible refine rr_ixT5 ?_
  | with_reducible refine rr_isN ?_
  | with_reducible refine rr_notN ?_
  | with_reducible refine rcI1 ?_
  | with_reducible refine rcI2 ?_
  | with_reducible refine rcI3 ?_
  | with_reducible refine rcI4 ?_
  | with_reducible refine rcI5 ?_
  | with_reducible refine rc_listL ?_
  | with_reducible refine rc_lenL ?_
  | with_reducible refine rc_lenT ?_
  | with_reducible refine rc_min2 ?_
  | with_reducible refine rc_intB ?_
  | with_reducible refine re_strip ?_
  | with_reducible refine re_lst (tA := tCons _ _) ?_
  | with_reducible refine re_fld ?_
  | with_reducible refine rs_fld ?_
  | with_reducible refine re_meth ?_
  | with_reducible exact rfl
  | with_reducible refine andT ?_
  | with_reducible refine andF ?_
  | refine Exists.intro _ ⟨rfl, ?_⟩
  | refine andT ?_
  | refine andF ?_
  | assumption
  | refine And.intro rfl ?_
  | refine And.intro (by assumption) ?_
  | with_reducible refine And.intro (Nat.le_of_ble_eq_true rfl) ?_
  | with_reducible refine And.intro (by omega) ?_)
local macro_rules | `(tactic| walk_at "kp") => `(tactic| repeat (walk_at "kp1"))
section
variable {P : Program} {w : World} {K : PySem.W.Frag} {mg : Str → Option Value} {base : Heap}
structure BL (K : PySem.W.Frag) (ad : Lab → Addr) (ct : Lab → Option Cell) (M : Mem) (p : Addr) (fs : List (Str × D)) : Prop where
  lay : Lay ad ct M
  adp : ad .self = p
  ctp : ct .self = some (.ins (He.ga K "Count") fs)
section
variable {ad : Lab → Addr} {ct : Lab → Option Cell} {M : Mem} {p q : Addr} {fs fs' : List (Str × D)} {l : Lab} {c : Cell}
theorem BL.self (B : BL K ad ct M p fs) : M p = some (.ins (He.ga K "Count") fs) := by
  have := B.lay.cell _ _ B.ctp
  rw [B.adp] at this
  exact this
theorem BL.new (B : BL K ad ct M p fs) (h : ct l = none) (hq : M q = none) : BL K (aset ad l q) (lset ct l (some c)) (mset M q c) p fs := by
  have hl : Lab.self ≠ l := fun z => by rw [← z, B.ctp] at h; cases h
  exact ⟨B.lay.new h hq, by rw [aset_ne hl]; exact B.adp, by rw [lset_ne hl]; exact B.ctp⟩
theorem BL.put (B : BL K ad ct M p fs) : BL K ad (lset ct .self (some (.ins (He.ga K "Count") fs'))) (mset M p (.ins (He.ga K "Count") fs')) p fs' := by
  have := B.lay.upd (c := .ins (He.ga K "Count") fs') B.ctp
  rw [B.adp] at this
  exact ⟨this, B.adp, lset_same⟩
end
def zS : Sums := ⟨0, 0, 0, 0, 0⟩
theorem sums_rot (TX : Txt K mg base) (H : Hp) : SqT K H (He.ga K "SUMS") [.str "given", .str "moved", .str "spent", .str "promised", .str "held"] := by
  have h := TX.ex
  unfold ex at h
  exact He.tupB_ok (He.ba h).1 H
def spc_Count_init (K : PySem.W.Frag) : Spc := fun ds M Pc => ∃ (p : Addr) (Y : Yr), ds = [.ref p, encY K Y] ∧ M = mset m0 p (.ins (He.ga K "Count") []) ∧ YGood Y ∧ ∀ M', CountM K Y p 0 (st0 Y) M' → Pc .non M'
theorem len_Count_init (ds : List D) (M : Mem) (Pc : D → Mem → Prop) (h : spc_Count_init K ds M Pc) : ds.length = 2 := by
  obtain ⟨_, _, rfl, _⟩ := h
  rfl
abbrev nm_Count_init : List Str := ["self", "year", "head", "word", "limit"]
theorem sc_Count_init : FnScope nm_Count_init ["self", "year"] (defScope s_Count_init) := ⟨rfl, rfl, rfl, by decide +kernel, rfl, by decide +kernel, by decide +kernel⟩
theorem ok_Count_init (TX : Txt K mg base) : Kept P w K mg base 4 (He.fAd K ("Count", some "__init__")) ["self", "year"] (spc_Count_init K) := by
  obtain ⟨fd_Year_names, G_Year_names, kp_Year_names, b_Year_names⟩ := ok_Year_names (P := P) (w := w) TX
  obtain ⟨fd_Year_under, G_Year_under, kp_Year_under, b_Year_under⟩ := ok_Year_under (P := P) (w := w) TX
  refine okD (fn_Count_init TX) sc_Count_init (fun _ _ _ _ _ _ us hl => match us, hl with | [_, _], _ => rfl) len_Count_init fun cdv A outer s H E hr ds M Pc h => ?_
  obtain ⟨p, Y, rfl, rfl, y, k⟩ := h
  have yo := y.ok
  have nd := y.hd.nodup
  refine ⟨_, (pss_cons (ps_fld (pv 0) (pv 1) rfl)
    (pss_cons (ps_fld (pv 0) (pe_callTy (call_dictP rfl) rfl (n_dict TX) (by decide +kernel) (pa_cons (pe_lc (own := [("head", 2)]) (g := gName 2) rfl sc_Count_init.nd (pi_list (pe_meth0 (pv 1) (cl_Year TX) (me_Year_names TX) G_Year_names (hr.mono (by decide)) b_Year_names .nil pass0)) (blkOk_by (N := nm_Count_init) (sc := defScope s_Count_init) (by decide +kernel)) (fun _ _ _ _ _ => pg_name (i := 2) sc_Count_init.nd rfl (Or.inl rfl)) (fun _ _ _ _ _ => pts_nil) (fun _ _ _ _ _ => (pe_tup (pa_cons (pv 2) (pa_cons (pe_callTy (kc_dictP (K := K) rfl) rfl (n_dict TX) (by decide +kernel) (pa_cons (pe_lc (own := [("word", 3)]) (g := gName 3) rfl sc_Count_init.nd (ki_tup (K := K) (pe_glob (v := .ref (He.ga K "SUMS")) rfl (g_SUMS TX) rfl)) (blkOk_by (by rfl)) (fun _ _ _ _ _ => pg_name (i := 3) sc_Count_init.nd rfl (Or.inl rfl)) (fun _ _ _ _ _ => pts_nil) (fun _ _ _ _ _ => (pe_tup (pa_cons (pv 3) (pa_cons pe_int pa_nil))))) pa_nil)) pa_nil))))) pa_nil)) rfl)
    (pss_cons (ps_fld (pv 0) pe_dnewK rfl)
    (pss_cons (ps_fld (pv 0) (pe_lc (own := [("limit", 4)]) (g := gName 4) rfl sc_Count_init.nd (pi_list (pe_fld (pv 1) rfl)) (blkOk_by (N := nm_Count_init) (sc := defScope s_Count_init) (by decide +kernel)) (fun _ _ _ _ _ => pg_name (i := 4) sc_Count_init.nd rfl (Or.inl rfl)) (fun _ _ _ _ _ => pts_nil) (fun _ _ _ _ _ => pe_int)) rfl)
    (pss_cons (ps_fld (pv 0) (pe_lc (own := [("limit", 4)]) (g := gName 4) rfl sc_Count_init.nd (pi_list (pe_fld (pv 1) rfl)) (blkOk_by (N := nm_Count_init) (sc := defScope s_Count_init) (by decide +kernel)) (fun _ _ _ _ _ => pg_name (i := 4) sc_Count_init.nd rfl (Or.inl rfl)) (fun _ _ _ _ _ => pts_nil) (fun _ _ _ _ _ => (pe_meth (pv 1) (cl_Year TX) (me_Year_under TX) G_Year_under (hr.mono (by decide)) b_Year_under .nil pass0 (pa_cons (pe_ix (kx_tup (K := K)) (pv 4) pe_int (fun _ _ => rfl)) pa_nil)))) rfl)
    (pss_one (ps_fld (pv 0) pe_dnewK rfl))))))), ?_⟩
  walk_at "kp0"
  walk_at "kp"
  refine ⟨_, _, _, rfl, mset_same, cl_Count TX, na_Count_year TX, (by decide : 0 < 1000), ?_⟩
  rw [mset_mset]
  walk_at "kp"
  refine re_lc D.str Y.names (fun pre acc M' => ∃ ad ct, BL K ad ct M' p (putD "year" (encY K Y) []) ∧ (∀ h ∈ pre, ct (.sum h) = some (.dic (sumsK zS))) ∧ (∀ l, l ≠ .self → (∀ h ∈ pre, l ≠ .sum h) → ct l = none) ∧ acc = pre.map fun h => .tup [.str h, .ref (ad (.sum h))]) (by unfold Yr.names; rw [List.length_map]; have := yo.hd; omega) ?_ ?_ ?_
  · walk_at "kp"
    refine ⟨_, insD1, lm_Year_names .., ?_⟩
    walk_at "kp"
    refine ⟨.inl rfl, fun _ => p, lset (fun _ => none) .self (some (.ins (He.ga K "Count") (putD "year" (encY K Y) []))), ⟨⟨fun l c e => ?_, fun l l' c c' e1 e2 _ => ?_⟩, rfl, lset_same⟩, by simp, fun l hl _ => lset_ne hl, rfl⟩
    · by_cases el : l = .self
      · subst el
        rw [lset_same] at e
        cases e
        exact mset_same
      · rw [lset_ne el] at e; cases e
    · have : ∀ l c, lset (fun _ => none) .self (some (.ins (He.ga K "Count") (putD "year" (encY K Y) []))) l = some c → l = .self := fun l c e => by
        by_cases el : l = .self
        · exact el
        · rw [lset_ne el] at e; cases e
      rw [this _ _ e1, this _ _ e2]
  · rintro pre x post acc M' e ⟨ad, ct, B, hs, hn, rfl⟩
    have hx : x ∉ pre := by
      unfold Yr.names at e
      rw [e] at nd
      have := List.nodup_append.mp nd
      exact fun hx => this.2.2 x hx x List.mem_cons_self rfl
    refine rgc_name (by simp) ?_
    refine rt_yes ⟨fun _ => ?_, fun z => by cases z⟩
    walk_at "kp"
    refine re_lcT D.str [("given" : Str), "moved", "spent", "promised", "held"] (fun pre acc M2 => acc = pre.map (fun w => .tup [.str w, .int 0]) ∧ M2 = M') (by decide) ?_ ?_ ?_
    · exact re_rot (sums_rot TX) (fun I => .cons (.str _) (.cons (.str _) (.cons (.str _) (.cons (.str _) (.cons (.str _) .nil))))) ⟨.inr rfl, rfl, rfl⟩
    · rintro pre x post acc M2 e ⟨rfl, rfl⟩
      refine rgc_name (by simp) ?_
      refine rt_yes ⟨fun _ => ?_, fun z => by cases z⟩
      walk_at "kp"
      rw [List.map_append]
      exact ⟨rfl, rfl⟩
    · rintro acc M2 hl ⟨rfl, rfl⟩
      walk_at "kp"
      refine rc_dictP (kd := sumsK zS) (.inl rfl) fun q hq => ?_
      walk_at "kp"
      have B2 := B.new (c := .dic (sumsK zS)) (hn (.sum x) (by nofun) fun h hh z => hx (by injection z with z; rw [z]; exact hh)) hq
      refine ⟨_, _, B2, fun h hh => ?_, fun l hl hh => ?_, ?_⟩
      · by_cases eh : h = x
        · subst eh; exact lset_same
        · rw [lset_ne (fun z => eh (by injection z))]
          rcases List.mem_append.mp hh with hh | hh
          · exact hs h hh
          · exact absurd (List.mem_singleton.mp hh) eh
      · rw [lset_ne (hh x (by simp))]
        exact hn l hl fun h h2 => hh h (List.mem_append_left _ h2)
      · rw [List.map_append]
        congr 1
        · refine List.map_congr_left fun h hh => ?_
          rw [aset_ne (fun z => hx (by injection z with z; rw [← z]; exact hh))]
        · show _ = [D.tup [.str x, .ref (aset ad (.sum x) q (.sum x))]]
          rw [aset_same]
  · rintro acc M' hl ⟨ad, ct, B, hs, hn, rfl⟩
    walk_at "kp"
    refine rc_dictP (kd := Y.names.map fun h => (.inr h, .ref (ad (.sum h)))) (.inl (by rw [List.map_map]; rfl)) fun q hq => ?_
    rw [mergeD_nodup _ (by
      rw [List.map_map]
      exact List.pairwise_map.mpr (List.Pairwise.imp (fun h z => h (Sum.inr.inj z)) nd))]
    walk_at "kp"
    have hN : ∀ l, l ≠ .self → (∀ h, l ≠ .sum h) → ct l = none := fun l h1 h2 => hn l h1 fun h _ => h2 h
    have B1 := B.new (c := .dic (Y.names.map fun h => (.inr h, .ref (ad (.sum h))))) (hN .money (by nofun) (by nofun)) hq
    refine ⟨_, _, _, rfl, B1.self, cl_Count TX, na_Count_money TX, (Nat.lt_of_lt_of_le (putD_lt (by decide : 0 < 1)) (by decide : 2 ≤ 1000)), ?_⟩
    have B2 := B1.put (fs' := putD "money" (.ref q) (putD "year" (encY K Y) []))
    walk_at "kp"
    refine re_dnew fun q2 hq2 => ?_
    have B3 := B2.new (l := .words) (c := .dic []) (by rw [lset_ne (by nofun), lset_ne (by nofun)]; exact hN .words (by nofun) (by nofun)) hq2
    walk_at "kp"
    refine ⟨_, _, _, rfl, B3.self, cl_Count TX, na_Count_words TX, (Nat.lt_of_lt_of_le (putD_lt (putD_lt (by decide : 0 < 1))) (by decide : 3 ≤ 1000)), ?_⟩
    have B4 := B3.put (fs' := putD "words" (.ref q2) (putD "money" (.ref q) (putD "year" (encY K Y) [])))
    walk_at "kp"
    refine re_lcC encLm Y.limits (fun _ => .int 0) (by have := y.ll; omega) ?_ ?_ fun q3 hq3 => ?_
    · walk_at "kp"
      refine ⟨_, _, _, insD1, cl_Year TX, na_Year_limits TX, lk_Year_limits .., ?_⟩
      exact ⟨.inl rfl, rfl⟩
    · intro x hx
      refine rgc_name (by simp) ?_
      walk_at "kp"
    have B5 := B4.new (l := .loads) (c := .lst (Y.limits.map fun _ => .int 0)) (by rw [lset_ne (by nofun), lset_ne (by nofun), lset_ne (by nofun), lset_ne (by nofun)]; exact hN .loads (by nofun) (by nofun)) hq3
    walk_at "kp"
    refine ⟨_, _, _, rfl, B5.self, cl_Count TX, na_Count_loads TX, (Nat.lt_of_lt_of_le (putD_lt (putD_lt (putD_lt (by decide : 0 < 1)))) (by decide : 4 ≤ 1000)), ?_⟩
    have B6 := B5.put (fs' := putD "loads" (.ref q3) (putD "words" (.ref q2) (putD "money" (.ref q) (putD "year" (encY K Y) []))))
    walk_at "kp"
    refine re_lcM encLm Y.limits (fun l => .lst ((undY Y l.1).map D.str)) (by have := y.ll; omega) ?_ ?_ ?_
    · walk_at "kp"
      refine ⟨_, _, _, insD1, cl_Year TX, na_Year_limits TX, lk_Year_limits .., ?_⟩
      exact ⟨.inl rfl, rfl⟩
    · intro x hx
      obtain ⟨y1, _⟩ := y.lm x hx
      refine rgc_name (by simp) ?_
      unfold encLm
      walk_at "kp"
      refine ⟨_, insD1, lm_Year_under .., ?_⟩
      walk_at "kp"
    walk_at "kp"
    refine ⟨_, _, _, rfl, B6.self, cl_Count TX, na_Count_beneath TX, (Nat.lt_of_lt_of_le (putD_lt (putD_lt (putD_lt (putD_lt (by decide : 0 < 1))))) (by decide : 5 ≤ 1000)), ?_⟩
    have B7 := B6.put (fs' := putD "beneath" (.lst (Y.limits.map fun l => .lst ((undY Y l.1).map D.str))) (putD "loads" (.ref q3) (putD "words" (.ref q2) (putD "money" (.ref q) (putD "year" (encY K Y) [])))))
    walk_at "kp"
    refine re_dnew fun q4 hq4 => ?_
    have B8 := B7.new (l := .ends) (c := .dic []) (by rw [lset_ne (by nofun), lset_ne (by nofun), lset_ne (by nofun), lset_ne (by nofun), lset_ne (by nofun), lset_ne (by nofun), lset_ne (by nofun)]; exact hN .ends (by nofun) (by nofun)) hq4
    walk_at "kp"
    refine ⟨_, _, _, rfl, B8.self, cl_Count TX, na_Count_ends TX, (Nat.lt_of_lt_of_le (putD_lt (putD_lt (putD_lt (putD_lt (putD_lt (by decide : 0 < 1)))))) (by decide : 6 ≤ 1000)), ?_⟩
    have B9 := B8.put (fs' := putD "ends" (.ref q4) (putD "beneath" (.lst (Y.limits.map fun l => .lst ((undY Y l.1).map D.str))) (putD "loads" (.ref q3) (putD "words" (.ref q2) (putD "money" (.ref q) (putD "year" (encY K Y) []))))))
    have CMf : CM K Y 0 (st0 Y) _ _ _ [] [] :=
    { y := y, lay := B9.lay, self := B9.ctp
      money := rfl
      sum := fun h hh => hs h hh
      words := rfl, wget := fun w => rfl, wlen := Nat.le_refl 0, whd := fun w h c z => by cases z
      loads := by show some (Cell.lst (Y.limits.map fun _ => D.int 0)) = some (Cell.lst ((Y.limits.map fun _ => (0 : Int)).map D.int)); rw [List.map_map]; rfl
      llen := by show (Y.limits.map fun _ => (0 : Int)).length = _; rw [List.length_map]
      ends := rfl
      day := fun d => .inl ⟨hN (.day d) (by nofun) (by nofun), rfl, rfl⟩
      elen := Nat.le_refl 0, dlen := fun d => Nat.le_refl 0, dhd := fun d q z => by cases z }
    exact k _ ⟨_, _, [], [], CMf, B9.adp⟩


end
end Kp

set_option maxHeartbeats 4000000
namespace Kp
open PySem PySem.Spec PyProof.Rows L2
local macro_rules | `(tactic| walk_at "kp0") => `(tactic| try dsimp only [cxOf, Cx.nox, Cx.wish])
local macro_rules | `(tactic| walk_at "kp1") => `(tactic| first
  | with_reducible refine rs_seq ?_
  | with_reducible refine re_var rfl ?_
  | with_reducible refine re_int ?_
  | with_reducible refine re_str ?_
  | with_reducible refine re_op ?_
  | with_reducible refine re_cb ?_
  | with_reducible refine ra_cons ?_
  | ((with_reducible refine ra_nil ?_); first
      | refine Exists.intro _ ⟨rfl, ?_⟩
      | refine ⟨_, _, rfl, ?_⟩
      | refine ⟨_, _, _, rfl, ?_⟩
      | refine ⟨_, _, _, _, rfl, ?_⟩
      | refine ⟨_, _, _, _, _, rfl, ?_⟩
      | refine ⟨_, _, _, _, _, _, rfl, ?_⟩
      | refine And.intro rfl ?_)
  | with_reducible refine ra_nil ?_
  | with_reducible refine rs_ret ?_
  | with_reducible refine rs_asg ?_
  | with_reducible refine rg_name ?_
  | with_reducible refine rs_if ?_
  | with_reducible refine rt_test ?_
  | with_reducible refine rt_B ?_
  | with_reducible refine rr_int0 ?_
  | with_reducible refine rr_bl0 ?_
  | with_reducible refine rr_I0 rfl ?_
  | with_reducible refine re_bl ?_
  | with_reducible refine re_non ?_
  | with_reducible refine re_ty ?_
  | with_reducible refine re_ref ?_
  | with_reducible refine rs_drop ?_
  | with_reducible refine re_chain ?_
  | with_reducible refine re_andV ?_
  | with_reducible refine re_orV ?_
  | with_reducible refine re_notV ?_
  | with_reducible refine rt_not ?_
  | with_reducible refine rt_and ?_
  | with_reducible refine rt_or ?_
  | with_reducible refine rs_next ?_
  | with_reducible refine rs_cont ?_
  | with_reducible refine rs_break ?_
  | with_reducible refine rs_retN ?_
  | with_reducible refine rr_eq rfl ?_
  | with_reducible refine rr_ne rfl ?_
  | with_reducible refine rr_mulR (by omega) ?_
  | with_reducible refine rr_mulL (by omega) ?_
  | with_reducible refine rr_mod (by omega) ?_
  | with_reducible refine rr_fdiv (by omega) ?_
  | with_reducible refine ro_none ?_
  | with_reducible refine ro_some ?_
  | with_reducible refine re_tup ?_
  | with_reducible refine rg_tup tupD1 rfl ?_
  | with_reducible refine rgs_cons ?_
  | with_reducible refine rgs_nil ?_
  | with_reducible refine rr_ixT0 ?_
  | with_reducible refine rr_ixT1 ?_
  | with_reducible refine rr_ixT2 ?_
  | with_reducible refine rr_ixT3 ?_
  | with_reducible refine rr_ixT4 ?_
  | with_reducible refine rr_ixT5 ?_
  | with_reducible refine rr_isN ?_
  | with_reducible refine rr_notN ?_
  | with_reducible refine rcI1 ?_
  | with_reducible refine rcI2 ?_
  | with_reducible refine rcI3 ?_
  | with_reducible refine rcI4 ?_
  | with_reducible refine rcI5 ?_
  | with_reducible refine rc_listL ?_
  | with_reducible refine rc_lenL ?_
  | with_reducible refine rc_lenT ?_
  | with_reducible refine rc_min2 ?_
  | with_reducible refine rc_intB ?_
  | with_reducible refine re_strip ?_
  | with_reducible refine re_lst (tA := tCons _ _) ?_
  | with_reducible refine re_fld ?_
  | with_reducible refine rs_fld ?_
  | with_reducible exact rfl
  | with_reducible refine andT ?_
  | with_reducible refine andF ?_
  | refine Exists.intro _ ⟨rfl, ?_⟩
  | refine andT ?_
  | refine andF ?_
  | assumption
  | refine And.intro rfl ?_
  | refine And.intro (by assumption) ?_
  | with_reducible refine And.intro (Nat.le_of_ble_eq_true rfl) ?_
  | with_reducible refine And.intro (by omega) ?_)
local macro_rules | `(tactic| walk_at "kp") => `(tactic| repeat (walk_at "kp1"))
section
variable {P : Program} {w : World} {K : PySem.W.Frag} {mg : Str → Option Value} {base : Heap}

section
variable {m r : Mem} {x : Addr} {c : Cell}
theorem mdis.rd (d : mdis m r) (h : r x = some c) : madd m r x = some c := by
  cases e : m x with
  | none => rw [madd_r e]; exact h
  | some c' => rw [d x c' e] at h; cases h
theorem mdis.no (d : mdis m r) (h : r x = some c) : m x = none := by
  cases e : m x with
  | none => rfl
  | some c' => rw [d x c' e] at h; cases h
theorem mdis.set (d : mdis m r) (h : m x = none) : mdis m (mset r x c) := fun b c' e => by
  rw [mset_ne (fun z => by rw [z, h] at e; cases e)]
  exact d b c' e
end
def minL : List Int → Int
  | [] => 0
  | x :: r => match r with
    | [] => x
    | _ => if minL r < x then minL r else x
theorem minL_spec : ∀ {ns : List Int}, ns ≠ [] → minL ns ∈ ns ∧ ∀ y ∈ ns, minL ns ≤ y
  | [], h => absurd rfl h
  | [x], _ => ⟨List.mem_cons_self, fun y hy => by rw [List.mem_singleton.mp hy]; exact Int.le_refl x⟩
  | x :: y :: r, _ => by
    obtain ⟨h1, h2⟩ := minL_spec (ns := y :: r) (by simp)
    have e : minL (x :: y :: r) = if minL (y :: r) < x then minL (y :: r) else x := rfl
    rw [e]
    split
    · rename_i hlt
      refine ⟨List.mem_cons_of_mem _ h1, fun z hz => ?_⟩
      rcases List.mem_cons.mp hz with rfl | hz
      · omega
      · exact h2 z hz
    · rename_i hge
      refine ⟨List.mem_cons_self, fun z hz => ?_⟩
      rcases List.mem_cons.mp hz with rfl | hz
      · omega
      · have := h2 z hz
        omega
theorem minL_is {ns : List Int} {m : Int} (h1 : m ∈ ns) (h2 : ∀ y ∈ ns, m ≤ y) : m = minL ns := by
  have hne : ns ≠ [] := fun z => by rw [z] at h1; cases h1
  obtain ⟨a, b⟩ := minL_spec hne
  have := h2 _ a
  have := b _ h1
  omega
def putAll (Y : Yr) : Cst → List Itm → List Int → List Int × Cst
  | st, [], fl => (fl, st)
  | st, it :: r, fl => putAll Y (putS Y st it.2.1 it.2.2).2 r (if (putS Y st it.2.1 it.2.2).1 = true then fl ++ [it.1] else fl)
def placeS (Y : Yr) (st : Cst) (day : Int) (fl : List Int) : Option Place := if fl = [] then passS Y st day else some (.promise (minL fl))
def onDay (day : Int) (it : Itm) : Bool := decide (it.2.1 = day)
def settleS (Y : Yr) : Nat → Int → Cst → List Itm → Option (Int × Place)
  | 0, _, _, _ => none
  | k + 1, day, st, w => match placeS Y (putAll Y (beginS st day) (w.takeWhile (onDay day)) []).2 day (putAll Y (beginS st day) (w.takeWhile (onDay day)) []).1 with
    | some p => some (day, p)
    | none => settleS Y k (day + 1) (putAll Y (beginS st day) (w.takeWhile (onDay day)) []).2 (w.dropWhile (onDay day))
theorem CountM.ins {Y : Yr} {c : Addr} {n : Nat} {st : Cst} {M : Mem} (h : CountM K Y c n st M) : ∃ y0 m1 w2 l3 b4 e5, M c = some (.ins (He.ga K "Count") (fsCount y0 m1 w2 l3 b4 e5)) := by
  obtain ⟨ad, ct, kw, ke, C, rfl⟩ := h
  exact ⟨_, _, _, _, _, _, C.at C.self⟩
def encB : Option (Int × Place) → D
  | none => .non
  | some q => .tup [.int q.1, encP q.2]
def DateF (fs : List (Str × D)) (d : D) : Prop := fs.lookup ("first" : Str) = some d ∧ fs.lookup ("breach" : Str) = none
def SetI (K : PySem.W.Frag) (Y : Yr) (items : List Itm) (a p w q f : Addr) (day : Int) (kd : List (Key × D)) (T : List Int × Cst) (rest : List Itm) (fin : Bool) (k : Nat) (δ' : DEnv) (M' : Mem) : Prop :=
  ∃ (mc r : Mem) (st : Cst) (ws : List Itm) (fl : List Int) (n : Nat) (y1 y2 y3 y4 : Option D), δ' = [some (.ref a), some (encY K Y), some (.lst (items.map (encI K))), some (.ref p), some (.ref w), some (.int day), some (.ref f), y1, y2, y3, y4] ∧ M' = madd mc r ∧ mdis mc r ∧ CountM K Y p n st mc ∧ n + 5 * ws.length ≤ 500 ∧ fl.length + ws.length ≤ 500 ∧ (∀ it ∈ ws, ∀ h ∈ it.2.2.names, h ∈ Y.names) ∧ r w = some (.lst (ws.map (encI K))) ∧ r a = some (.ins (He.ga K "Dated") (putD "first" .non (putD "stands" (.ref q) (putD "year" (encY K Y) [])))) ∧ r q = some (.dic kd) ∧ r f = some (.lst (fl.map D.int)) ∧ putAll Y st (ws.takeWhile (onDay day)) fl = T ∧ ws.dropWhile (onDay day) = rest ∧ k = ws.length ∧ (fin = true → ws.takeWhile (onDay day) = [])
def spc_Dated_settle (K : PySem.W.Frag) : Spc := fun ds M Pc => ∃ (a : Addr) (Y : Yr) (items : List Itm), ds = [.ref a, encY K Y, .lst (items.map (encI K))] ∧ M a = some (.ins (He.ga K "Dated") []) ∧ YGood Y ∧ items.length ≤ 100 ∧ (∀ it ∈ items, ∀ h ∈ it.2.2.names, h ∈ Y.names) ∧ ∀ M' fs, M' a = some (.ins (He.ga K "Dated") fs) → DateF fs (encB (settleS Y Y.days.toNat 1 (st0 Y) (items.mergeSort leI))) → Pc .non M'
theorem len_Dated_settle (ds : List D) (M : Mem) (Pc : D → Mem → Prop) (h : spc_Dated_settle K ds M Pc) : ds.length = 3 := by
  obtain ⟨_, _, _, rfl, _⟩ := h
  rfl
abbrev nm_Dated_settle : List Str := ["self", "year", "items", "count", "waiting", "day", "faults", "number", "date", "entry", "place"]
theorem sc_Dated_settle : FnScope nm_Dated_settle ["self", "year", "items"] (defScope s_Dated_settle) := ⟨rfl, rfl, rfl, by decide +kernel, rfl, by decide +kernel, by decide +kernel⟩
theorem ok_Dated_settle (TX : Txt K mg base) : Kept P w K mg base 6 (He.fAd K ("Dated", some "settle")) ["self", "year", "items"] (spc_Dated_settle K) := by
  obtain ⟨fd_Count_init, G_Count_init, kp_Count_init, b_Count_init⟩ := ok_Count_init (P := P) (w := w) TX
  obtain ⟨fd_gone_through, G_gone_through, kp_gone_through, b_gone_through⟩ := ok_gone_through (P := P) (w := w) TX
  obtain ⟨fd_Count_begin, G_Count_begin, kp_Count_begin, b_Count_begin⟩ := ok_Count_begin (P := P) (w := w) TX
  obtain ⟨fd_Count_put, G_Count_put, kp_Count_put, b_Count_put⟩ := ok_Count_put (P := P) (w := w) TX
  obtain ⟨fd_Count_passed, G_Count_passed, kp_Count_passed, b_Count_passed⟩ := ok_Count_passed (P := P) (w := w) TX
  obtain ⟨fd_Count_stand, G_Count_stand, kp_Count_stand, b_Count_stand⟩ := ok_Count_stand (P := P) (w := w) TX
  refine okD (fn_Dated_settle TX) sc_Dated_settle (fun _ _ _ _ _ _ us hl => match us, hl with | [_, _, _], _ => rfl) len_Dated_settle fun cdv A outer s H E hr ds M Pc h => ?_
  obtain ⟨a, Y, items, rfl, ha, y, hlen, hnm, k⟩ := h
  refine ⟨_, (pss_cons (ps_fld (pv 0) (pv 1) rfl)
    (pss_cons (ps_fld (pv 0) pe_dnewK rfl)
    (pss_cons (ps_fld (pv 0) pe_non rfl)
    (pss_cons (ps_set (i := 3) sc_Dated_settle.nd rfl (Or.inl rfl) (pe_make (mk_Count TX) G_Count_init (hr.mono (by decide)) rfl (g_Count TX) b_Count_init .nil pass0 (pa_cons (pv 1) pa_nil)))
    (pss_cons (ps_set (i := 4) sc_Dated_settle.nd rfl (Or.inl rfl) (pe_call G_gone_through (hr.mono (by decide)) rfl (g_gone_through TX) kp_gone_through b_gone_through .nil pass0 (pa_cons (pv 2) pa_nil)))
    (pss_one (ps_for PassesOwn.never rfl (pi_range2 rfl (n_range TX) (pa_cons pe_int (pa_cons (pe_op op_add (pe_fld (pv 1) rfl) pe_int) pa_nil))) (pg_name (i := 5) sc_Dated_settle.nd rfl (Or.inl rfl))
    (pss_cons (ps_expr (pe_meth (pv 3) (cl_Count TX) (me_Count_begin TX) G_Count_begin (hr.mono (by decide)) b_Count_begin .nil pass0 (pa_cons (pv 5) pa_nil)))
    (pss_cons (ps_set (i := 6) sc_Dated_settle.nd rfl (Or.inl rfl) (pe_lst pa_nil))
    (pss_cons (ps_while PassesOwn.never (PW.pt (pw_and (pt_cmpR (op_neE hr.units) (pv 4) (pe_lst pa_nil) (nomark _)) (pw_and1 (pt_cmpR op_eq (pe_ix ix_tup (pe_ix ix_list (pv 4) pe_int (fun _ _ => rfl)) pe_int (fun _ _ => rfl)) (pv 5) (nomark _)))))
    (pss_cons (ps_asg (pe_bm PySem.F.plainAttrs_list PySem.F.slot_list_pop PySem.F.type_list_pop mt_popAt (pv 4) (pa_cons pe_int pa_nil)) (pg_tup rfl (pgs_cons (pg_name (i := 7) sc_Dated_settle.nd rfl (Or.inl rfl)) (pgs_cons (pg_name (i := 8) sc_Dated_settle.nd rfl (Or.inl rfl)) (pgs_cons (pg_name (i := 9) sc_Dated_settle.nd rfl (Or.inl rfl)) pgs_nil)))))
    (pss_one (ps_if (pt_val (pe_meth (pv 3) (cl_Count TX) (me_Count_put TX) G_Count_put (hr.mono (by decide)) b_Count_put .nil pass0 (pa_cons (pv 8) (pa_cons (pv 9) pa_nil)))) (pss_one (ps_expr (pe_bm PySem.F.plainAttrs_list PySem.F.slot_list_append PySem.F.type_list_append mt_append (pv 6) (pa_cons (pv 7) pa_nil)))) pss_nil))))
    (pss_cons (ps_set (i := 10) sc_Dated_settle.nd rfl (Or.inl rfl) (pe_meth (pv 3) (cl_Count TX) (me_Count_passed TX) G_Count_passed (hr.mono (by decide)) b_Count_passed .nil pass0 (pa_cons (pv 5) pa_nil)))
    (pss_cons (ps_if (pt_cmpR (op_neE hr.units) (pv 6) (pe_lst pa_nil) (nomark _)) (pss_one (ps_set (i := 10) sc_Dated_settle.nd rfl (Or.inl rfl) (pe_tup (pa_cons pe_str (pa_cons (pe_callB (cr_min rfl) rfl (n_min TX) (by decide +kernel) (pa_cons (pv 6) pa_nil)) pa_nil))))) pss_nil)
    (pss_cons (ps_if (pt_cmpR op_notN (pv 10) pe_non (nomark _)) (pss_cons (ps_fld (pv 0) (pe_tup (pa_cons (pv 5) (pa_cons (pv 10) pa_nil))) rfl)
    (pss_one ps_retN)) pss_nil)
    (pss_one (ps_dput (hu_of hr) (pe_fld (pv 0) rfl) (pv 5) (pe_meth0 (pv 3) (cl_Count TX) (me_Count_stand TX) G_Count_stand (hr.mono (by decide)) b_Count_stand .nil pass0) rfl))))))))))))))), ?_⟩
  walk_at "kp0"
  walk_at "kp"
  refine ⟨_, _, _, rfl, ha, cl_Dated TX, na_Dated_year TX, (by decide : 0 < 1000), ?_⟩
  walk_at "kp"
  refine re_dnew fun q hq => ?_
  have hqa : a ≠ q := fun z => by rw [← z, mset_same] at hq; cases hq
  walk_at "kp"
  have ha1 : mset (mset M a (.ins (He.ga K "Dated") (putD "year" (encY K Y) []))) q (.dic []) a = some (.ins (He.ga K "Dated") (putD "year" (encY K Y) [])) := by rw [mset_ne hqa]; exact mset_same
  refine ⟨_, _, _, rfl, ha1, cl_Dated TX, na_Dated_stands TX, (Nat.lt_of_lt_of_le (putD_lt (by decide : 0 < 1)) (by decide : 2 ≤ 1000)), ?_⟩
  walk_at "kp"
  refine ⟨_, _, _, rfl, mset_same, cl_Dated TX, na_Dated_first TX, (Nat.lt_of_lt_of_le (putD_lt (putD_lt (by decide : 0 < 1))) (by decide : 3 ≤ 1000)), ?_⟩
  rw [mset_mset]
  generalize hM1 : mset (mset (mset M a (.ins (He.ga K "Dated") (putD "year" (encY K Y) []))) q (.dic [])) a (.ins (He.ga K "Dated") (putD "first" .non (putD "stands" (.ref q) (putD "year" (encY K Y) [])))) = M1
  have a1 : M1 a = some (.ins (He.ga K "Dated") (putD "first" .non (putD "stands" (.ref q) (putD "year" (encY K Y) [])))) := by rw [← hM1]; exact mset_same
  have q1 : M1 q = some (.dic []) := by rw [← hM1, mset_ne (fun z => hqa z.symm)]; exact mset_same
  clear hM1 ha1
  walk_at "kp"
  refine re_makeF ?_
  walk_at "kp"
  intro p hp
  refine ⟨p, Y, rfl, rfl, y, fun mc CM0 => ⟨rfl, fun dm => ?_⟩⟩
  walk_at "kp"
  refine re_call ?_
  walk_at "kp"
  intro w hw
  obtain ⟨hw1, hw2⟩ := madd_none hw
  rw [mset_madd_r hw1]
  have dm2 := dm.set (c := .lst ((items.mergeSort leI).map (encI K))) hw1
  have hN : Y.days = (Y.days.toNat : Int) := by have := y.d1; omega
  have hwa : w ≠ a := fun z => by rw [z, a1] at hw2; cases hw2
  have hwq : w ≠ q := fun z => by rw [z, q1] at hw2; cases hw2
  generalize htgt : settleS Y Y.days.toNat 1 (st0 Y) (items.mergeSort leI) = tgt at k
  walk_at "kp"
  refine rs_forR2 1 Y.days.toNat (fun j δ' M' => ∃ mc r st ws n kd x1 x2 x3 x4 x5 x6, δ' = [some (.ref a), some (encY K Y), some (.lst (items.map (encI K))), some (.ref p), some (.ref w), x1, x2, x3, x4, x5, x6] ∧ M' = madd mc r ∧ mdis mc r ∧ CountM K Y p n st mc ∧ n + 5 * ws.length ≤ 500 ∧ (∀ it ∈ ws, ∀ h ∈ it.2.2.names, h ∈ Y.names) ∧ r w = some (.lst (ws.map (encI K))) ∧ r a = some (.ins (He.ga K "Dated") (putD "first" .non (putD "stands" (.ref q) (putD "year" (encY K Y) [])))) ∧ r q = some (.dic kd) ∧ kd.length ≤ j ∧ settleS Y (Y.days.toNat - j) (1 + j) st ws = tgt) ?_ ?_ ?_
  · walk_at "kp"
    refine ⟨_, _, _, insD1, cl_Year TX, na_Year_days TX, lk_Year_days .., ?_⟩
    walk_at "kp"
    exact ⟨by rw [show Y.days + 1 = 1 + (Y.days.toNat : Int) by omega], by have := y.d2; omega, by decide, by decide, mc, _, st0 Y, _, 0, [], _, _, _, _, _, _, rfl, rfl, dm2, CM0, by rw [List.length_mergeSort]; omega, fun it hit => hnm it (List.mem_mergeSort.mp hit), mset_same, by rw [mset_ne (fun z => hwa z.symm)]; exact a1, by rw [mset_ne (fun z => hwq z.symm)]; exact q1, Nat.le_refl 0, by rw [Nat.sub_zero]; exact htgt⟩
  · rintro j δ' M' hj ⟨mc, r, st, ws, n, kd, x1, x2, x3, x4, x5, x6, rfl, rfl, dm, CM0, hnw, hnm, rdw, rda, rdq, hkd, htg⟩
    have hday : Y.days.toNat - j = (Y.days.toNat - (j + 1)) + 1 := by omega
    rw [hday] at htg
    obtain ⟨_, _, _, _, _, _, hself⟩ := CM0.ins
    walk_at "kp"
    refine re_methF ?_
    walk_at "kp"
    refine ⟨_, insD2 (madd_l hself), lm_Count_begin .., ?_⟩
    walk_at "kp"
    refine ⟨Y, p, n, st, 1 + (j : Int), rfl, CM0, by omega, fun mc2 CM2 dm2 => ?_⟩
    walk_at "kp"
    refine re_lstM (ra_nil ⟨by decide, fun f hf => ?_⟩)
    obtain ⟨hf1, hf2⟩ := madd_none hf
    rw [mset_madd_r hf1]
    have dm3 := dm2.set (c := .lst []) hf1
    have hfw : w ≠ f := fun z => by rw [z, hf2] at rdw; cases rdw
    have hfa : a ≠ f := fun z => by rw [z, hf2] at rda; cases rda
    have hfq : q ≠ f := fun z => by rw [z, hf2] at rdq; cases rdq
    generalize hT : putAll Y (beginS st (1 + (j : Int))) (ws.takeWhile (onDay (1 + (j : Int)))) [] = T
    generalize hR : ws.dropWhile (onDay (1 + (j : Int))) = rest
    walk_at "kp"
    refine rs_imp (E := { nx := fun δ' M' => ∃ k, SetI K Y items a p w q f (1 + (j : Int)) kd T rest true k δ' M', rt := fun _ _ => False }) (rs_while (fun k δ' M' => SetI K Y items a p w q f (1 + (j : Int)) kd T rest false k δ' M') ws.length ?_ ?_) ?_
    · exact ⟨mc2, _, beginS st (1 + (j : Int)), ws, [], n, _, _, _, _, rfl, rfl, dm3, CM2, hnw, by show 0 + _ ≤ _; omega, hnm, by rw [mset_ne hfw]; exact rdw, by rw [mset_ne hfa]; exact rda, by rw [mset_ne hfq]; exact rdq, mset_same, hT, hR, rfl, fun z => by cases z⟩
    · clear CM0 CM2 dm dm2 dm3 hself hf hf1 hf2 rdw rda rdq hT hR hnw hnm
      rintro k0 δ' M' ⟨mc, r, st, ws, fl, n, y1, y2, y3, y4, rfl, rfl, dm, CM0, hnw, hfl, hnm, rdw, rda, rdq, rdf, hT, hR, rfl, _⟩
      obtain ⟨_, _, _, _, _, _, hself⟩ := CM0.ins
      walk_at "kp"
      refine re_lst (ra_nil ⟨by decide, ?_⟩)
      refine rr_eqE (lstD3 (dm.rd rdw)) lstD1 ?_
      cases ws with
      | nil =>
        walk_at "kp"
        exact ⟨0, mc, r, st, [], fl, n, y1, y2, y3, y4, rfl, rfl, dm, CM0, hnw, hfl, hnm, rdw, rda, rdq, rdf, hT, hR, rfl, fun _ => rfl⟩
      | cons it ws =>
        walk_at "kp"
        refine rr_ixL (d := .tup [.int it.1, .int it.2.1, encE K it.2.2]) (lstD3 (dm.rd rdw)) (Kp.atI_nat (n := 0) rfl) ?_
        walk_at "kp"
        refine ⟨fun h1 => ?_, fun h1 => ?_⟩
        · have h1 := of_decide_eq_true h1
          have hon : onDay (1 + (j : Int)) it = true := decide_eq_true h1
          rw [List.takeWhile_cons_of_pos hon] at hT
          rw [List.dropWhile_cons_of_pos hon] at hR
          walk_at "kp"
          refine re_pop0 ?_
          walk_at "kp"
          refine ⟨_, .tup [.int it.1, .int it.2.1, encE K it.2.2], ws.map (encI K), rfl, dm.rd rdw, ?_⟩
          rw [mset_madd_r (dm.no rdw)]
          have dm1 := dm.set (c := .lst (ws.map (encI K))) (dm.no rdw)
          refine rg_tup tupD1 rfl ?_
          walk_at "kp"
          refine re_methF ?_
          walk_at "kp"
          refine ⟨_, insD2 (madd_l hself), lm_Count_put .., ?_⟩
          walk_at "kp"
          rw [List.length_cons] at hnw hfl
          refine ⟨Y, p, n, st, it.2.1, it.2.2, rfl, CM0, by omega, hnm it List.mem_cons_self, fun mc2 CM2 dm2 => ?_⟩
          have hnm2 : ∀ it ∈ ws, ∀ h ∈ it.2.2.names, h ∈ Y.names := fun z hz => hnm z (List.mem_cons_of_mem _ hz)
          have f1 : mset r w (.lst (ws.map (encI K))) f = some (.lst (fl.map D.int)) := by rw [mset_ne (fun z => hfw z.symm)]; exact rdf
          have w1 : mset r w (.lst (ws.map (encI K))) w = some (.lst (ws.map (encI K))) := mset_same
          have a1 := (mset_ne (M := r) (c := .lst (ws.map (encI K))) (fun z : a = w => hwa z.symm)).trans rda
          have q1 := (mset_ne (M := r) (c := .lst (ws.map (encI K))) (fun z : q = w => hwq z.symm)).trans rdq
          refine ⟨_, rfl, fun hb => ?_, fun hb => ?_⟩
          · walk_at "kp"
            refine re_append ?_
            walk_at "kp"
            refine ⟨⟨_, dm2.rd f1⟩, ?_⟩
            walk_at "kp"
            refine ⟨_, dm2.rd f1, by rw [List.length_map]; omega, ?_⟩
            rw [mset_madd_r (dm2.no f1)]
            refine ⟨ws.length, by rw [List.length_cons]; omega, mc2, _, (putS Y st it.2.1 it.2.2).2, ws, fl ++ [it.1], n + 5, _, _, _, _, rfl, rfl, dm2.set (dm2.no f1), CM2, by omega, by rw [List.length_append, List.length_singleton]; omega, hnm2, ?_, ?_, ?_, ?_, ?_, hR, rfl, fun z => by cases z⟩
            · rw [mset_ne hfw]; exact w1
            · rw [mset_ne hfa]; exact a1
            · rw [mset_ne hfq]; exact q1
            · rw [mset_same, List.map_append]; rfl
            · rw [← hT]
              show _ = putAll Y _ _ (if (putS Y st it.2.1 it.2.2).1 = true then _ else _)
              rw [if_pos hb]
          · walk_at "kp"
            refine ⟨ws.length, by rw [List.length_cons]; omega, mc2, _, (putS Y st it.2.1 it.2.2).2, ws, fl, n + 5, _, _, _, _, rfl, rfl, dm2, CM2, by omega, by omega, hnm2, w1, a1, q1, f1, ?_, hR, rfl, fun z => by cases z⟩
            rw [← hT]
            show _ = putAll Y _ _ (if (putS Y st it.2.1 it.2.2).1 = true then _ else _)
            rw [if_neg (by rw [hb]; exact Bool.false_ne_true)]
        · have h1 := of_decide_eq_false h1
          have hon : ¬ onDay (1 + (j : Int)) it = true := fun z => h1 (of_decide_eq_true z)
          exact ⟨_, mc, r, st, it :: ws, fl, n, y1, y2, y3, y4, rfl, rfl, dm, CM0, hnw, hfl, hnm, rdw, rda, rdq, rdf, hT, hR, rfl, fun _ => List.takeWhile_cons_of_neg hon⟩
    · clear CM0 CM2 dm dm2 dm3 hself hf hf1 hf2 rdw rda rdq hnw hnm
      rintro δ' M' ⟨k0, mc, r, st', ws', fl, n, y1, y2, y3, y4, rfl, rfl, dm, CM0, hnw, hfl, hnm, rdw, rda, rdq, rdf, hT2, hR2, rfl, htw⟩
      have htw := htw rfl
      rw [htw] at hT2
      have hR3 : ws' = rest := by
        have := List.takeWhile_append_dropWhile (p := onDay (1 + (j : Int))) (l := ws')
        rw [htw, hR2] at this
        exact this.symm
      subst hR3
      have hT3 : T = (fl, st') := hT2.symm
      subst hT3
      have htg2 : (match placeS Y st' (1 + (j : Int)) fl with
        | some p => some (1 + (j : Int), p)
        | none => settleS Y (Y.days.toNat - (j + 1)) (1 + (j : Int) + 1) st' ws') = tgt := by
        rw [← htg]
        show _ = (match placeS Y (putAll Y (beginS st (1 + (j : Int))) (ws.takeWhile (onDay (1 + (j : Int)))) []).2 (1 + (j : Int)) (putAll Y (beginS st (1 + (j : Int))) (ws.takeWhile (onDay (1 + (j : Int)))) []).1 with
          | some p => some (1 + (j : Int), p)
          | none => settleS Y (Y.days.toNat - (j + 1)) (1 + (j : Int) + 1) (putAll Y (beginS st (1 + (j : Int))) (ws.takeWhile (onDay (1 + (j : Int)))) []).2 (ws.dropWhile (onDay (1 + (j : Int)))))
        rw [hT, hR]
      obtain ⟨_, _, _, _, _, _, hself⟩ := CM0.ins
      walk_at "kp"
      refine re_methF ?_
      walk_at "kp"
      refine ⟨_, insD2 (madd_l hself), lm_Count_passed .., ?_⟩
      walk_at "kp"
      refine ⟨Y, p, n, st', 1 + (j : Int), rfl, CM0, fun dmx => ?_⟩
      walk_at "kp"
      refine re_lst (ra_nil ⟨by decide, ?_⟩)
      refine rr_eqE (lstD3 (dm.rd rdf)) lstD1 ?_
      have fin : ∀ (pl : Place), placeS Y st' (1 + (j : Int)) fl = some pl → DateF (putD "first" (.tup [.int (1 + (j : Int)), encP pl]) (putD "first" .non (putD "stands" (.ref q) (putD "year" (encY K Y) [])))) (encB tgt) := by
        intro pl hpl
        rw [hpl] at htg2
        rw [← htg2]
        refine ⟨by rw [lookup_putD, if_pos rfl]; rfl, ?_⟩
        rw [lookup_putD, if_neg (show ¬ ("breach" : Str) = "first" by decide +kernel), lookup_putD, if_neg (show ¬ ("breach" : Str) = "first" by decide +kernel), lookup_putD, if_neg (show ¬ ("breach" : Str) = "stands" by decide +kernel), lookup_putD, if_neg (show ¬ ("breach" : Str) = "year" by decide +kernel)]
        rfl
      have hM1 := dm.rd rda
      cases fl with
      | nil =>
        have hpS : placeS Y st' (1 + (j : Int)) [] = passS Y st' (1 + (j : Int)) := if_pos rfl
        rw [hpS] at fin htg2
        walk_at "kp"
        cases hpl : passS Y st' (1 + (j : Int)) with
        | none =>
          rw [hpl] at htg2
          refine ⟨(fun z => absurd z Bool.false_ne_true), fun _ => ?_⟩
          walk_at "kp"
          refine rs_dput ?_
          refine re_methF ?_
          walk_at "kp"
          refine ⟨_, insD2 (madd_l hself), lm_Count_stand .., ?_⟩
          walk_at "kp"
          refine ⟨Y, p, n, st', rfl, CM0, fun d mc2 CM2 dm2 => ?_⟩
          walk_at "kp"
          refine ⟨_, _, _, insD2 (dm2.rd rda), cl_Dated TX, na_Dated_stands TX, lk_Dated_stands .., ?_⟩
          walk_at "kp"
          refine ⟨_, _, Sum.inl (1 + (j : Int)), rfl, dm2.rd rdq, rfl, by have := y.d2; omega, ?_⟩
          rw [mset_madd_r (dm2.no rdq)]
          refine ⟨mc2, _, st', ws', n, _, _, _, _, _, _, _, rfl, rfl, dm2.set (dm2.no rdq), CM2, hnw, hnm, by rw [mset_ne hwq]; exact rdw, by rw [mset_ne hqa]; exact rda, mset_same, by have := setD_length kd (.inl (1 + (j : Int))) d; omega, ?_⟩
          rw [← htg2]
          show settleS Y _ (1 + ((j + 1 : Nat) : Int)) _ _ = _
          rw [show (1 + ((j + 1 : Nat) : Int)) = 1 + (j : Int) + 1 by omega]
        | some pl =>
          refine ⟨fun _ => ?_, fun z => by cases pl <;> exact absurd z.symm Bool.false_ne_true⟩
          walk_at "kp"
          refine ⟨_, _, _, rfl, hM1, cl_Dated TX, na_Dated_first TX, (Nat.lt_of_lt_of_le (putD_lt (putD_lt (putD_lt (by decide : 0 < 1)))) (by decide : 4 ≤ 1000)), ?_⟩
          walk_at "kp"
          exact k _ _ mset_same (fin pl hpl)
      | cons x fl =>
        have hpS : placeS Y st' (1 + (j : Int)) (x :: fl) = some (.promise (minL (x :: fl))) := if_neg (by simp)
        walk_at "kp"
        refine rc_min (ns := x :: fl) (lstD3 (dm.rd rdf)) (Nat.succ_pos _) fun m hm hle => ?_
        obtain rfl := minL_is hm hle
        walk_at "kp"
        refine ⟨_, _, _, rfl, hM1, cl_Dated TX, na_Dated_first TX, (Nat.lt_of_lt_of_le (putD_lt (putD_lt (putD_lt (by decide : 0 < 1)))) (by decide : 4 ≤ 1000)), ?_⟩
        walk_at "kp"
        exact k _ _ mset_same (fin _ hpS)
  · rintro δ' M' ⟨mc, r, st, ws, n, kd, x1, x2, x3, x4, x5, x6, rfl, rfl, dm, CM0, hnw, hnm, rdw, rda, rdq, hkd, htg⟩
    refine k _ _ (dm.rd rda) ?_
    rw [Nat.sub_self] at htg
    rw [← htg]
    refine ⟨by rw [lookup_putD, if_pos rfl]; rfl, ?_⟩
    rw [lookup_putD, if_neg (show ¬ ("breach" : Str) = "first" by decide +kernel), lookup_putD, if_neg (show ¬ ("breach" : Str) = "stands" by decide +kernel), lookup_putD, if_neg (show ¬ ("breach" : Str) = "year" by decide +kernel)]
    rfl


end
end Kp

set_option maxHeartbeats 4000000
namespace Kp
open PySem PySem.Spec PyProof.Rows L2
local macro_rules | `(tactic| walk_at "kp0") => `(tactic| try dsimp only [cxOf, Cx.nox, Cx.wish])
local macro_rules | `(tactic| walk_at "kp1") => `(tactic| first
  | with_reducible refine rs_seq ?_
  | with_reducible refine re_var rfl ?_
  | with_reducible refine re_int ?_
  | with_reducible refine re_str ?_
  | with_reducible refine re_op ?_
  | with_reducible refine re_cb ?_
  | with_reducible refine ra_cons ?_
  | ((with_reducible refine ra_nil ?_); first
      | refine Exists.intro _ ⟨rfl, ?_⟩
      | refine ⟨_, _, rfl, ?_⟩
      | refine ⟨_, _, _, rfl, ?_⟩
      | refine ⟨_, _, _, _, rfl, ?_⟩
      | refine ⟨_, _, _, _, _, rfl, ?_⟩
      | refine ⟨_, _, _, _, _, _, rfl, ?_⟩
      | refine And.intro rfl ?_)
  | with_reducible refine ra_nil ?_
  | with_reducible refine rs_ret ?_
  | with_reducible refine rs_asg ?_
  | with_reducible refine rg_name ?_
  | with_reducible refine rs_if ?_
  | with_reducible refine rt_test ?_
  | with_reducible refine rt_B ?_
  | with_reducible refine re_call ?_
  | with_reducible refine rr_int0 ?_
  | with_reducible refine rr_bl0 ?_
  | with_reducible refine rr_I0 rfl ?_
  | with_reducible refine re_bl ?_
  | with_reducible refine re_non ?_
  | with_reducible refine re_ty ?_
  | with_reducible refine re_ref ?_
  | with_reducible refine rs_drop ?_
  | with_reducible refine re_chain ?_
  | with_reducible refine re_andV ?_
  | with_reducible refine re_orV ?_
  | with_reducible refine re_notV ?_
  | with_reducible refine rt_not ?_
  | with_reducible refine rt_and ?_
  | with_reducible refine rt_or ?_
  | with_reducible refine rs_next ?_
  | with_reducible refine rs_cont ?_
  | with_reducible refine rs_break ?_
  | with_reducible refine rs_retN ?_
  | with_reducible refine rr_eq rfl ?_
  | with_reducible refine rr_ne rfl ?_
  | with_reducible refine rr_mulR (by omega) ?_
  | with_reducible refine rr_mulL (by omega) ?_
  | with_reducible refine rr_mod (by omega) ?_
  | with_reducible refine rr_fdiv (by omega) ?_
  | with_reducible refine ro_none ?_
  | with_reducible refine ro_some ?_
  | with_reducible refine re_tup ?_
  | with_reducible refine rg_tup tupD1 rfl ?_
  | with_reducible refine rgs_cons ?_
  | with_reducible refine rgs_nil ?_
  | with_reducible refine rr_ixT0 ?_
  | with_reducible refine rr_ixT1 ?_
  | with_reducible refine rr_ixT2 ?_
  | with_reducible refine rr_ixT3 ?_
  | with_reducible refine rr_ixT4 ?_
  | with_reducible refine rr_ixT5 ?_
  | with_reducible refine rr_isN ?_
  | with_reducible refine rr_notN ?_
  | with_reducible refine rcI1 ?_
  | with_reducible refine rcI2 ?_
  | with_reducible refine rcI3 ?_
  | with_reducible refine rcI4 ?_
  | with_reducible refine rcI5 ?_
  | with_reducible refine rc_listL ?_
  | with_reducible refine rc_lenL ?_
  | with_reducible refine rc_lenT ?_
  | with_reducible refine rc_min2 ?_
  | with_reducible refine rc_intB ?_
  | with_reducible refine re_strip ?_
  | with_reducible refine re_lst (tA := tCons _ _) ?_
  | with_reducible refine re_fld ?_
  | with_reducible refine rs_fld ?_
  | with_reducible refine re_meth ?_
  | with_reducible exact rfl
  | with_reducible refine andT ?_
  | with_reducible refine andF ?_
  | refine Exists.intro _ ⟨rfl, ?_⟩
  | refine andT ?_
  | refine andF ?_
  | assumption
  | refine And.intro rfl ?_
  | refine And.intro (by assumption) ?_
  | with_reducible refine And.intro (Nat.le_of_ble_eq_true rfl) ?_
  | with_reducible refine And.intro (by omega) ?_)
local macro_rules | `(tactic| walk_at "kp") => `(tactic| repeat (walk_at "kp1"))
section
variable {P : Program} {w : World} {K : PySem.W.Frag} {mg : Str → Option Value} {base : Heap}
def itemsOf (rows : List Row) : List Itm := rows.mapIdx fun i r => ((i : Int), r.1, r.2)
theorem itemsOf_get {rows : List Row} {i : Nat} : (itemsOf rows)[i]? = rows[i]?.map fun r => ((i : Int), r.1, r.2) := by
  unfold itemsOf
  rw [List.getElem?_mapIdx]
theorem itemsOf_len {rows : List Row} : (itemsOf rows).length = rows.length := by
  unfold itemsOf
  rw [List.length_mapIdx]
theorem itemsOf_mem {rows : List Row} {it : Itm} (h : it ∈ itemsOf rows) : ∃ i : Nat, rows[i]? = some (it.2.1, it.2.2) ∧ it.1 = i := by
  obtain ⟨i, hi⟩ := List.getElem?_of_mem h
  rw [itemsOf_get] at hi
  cases hr : rows[i]? with
  | none => rw [hr] at hi; cases hi
  | some r =>
    rw [hr] at hi
    cases hi
    exact ⟨i, hr, rfl⟩
def breachS (Y : Yr) (rows : List Row) : Option (Int × Place) := settleS Y Y.days.toNat 1 (st0 Y) ((itemsOf rows).mergeSort leI)
def spc_Dated_init (K : PySem.W.Frag) : Spc := fun ds M Pc => ∃ (a : Addr) (Y : Yr) (rows : List Row), ds = [.ref a, encY K Y, .lst (rows.map (encR K))] ∧ M a = some (.ins (He.ga K "Dated") []) ∧ YGood Y ∧ rows.length ≤ 40 ∧ (∀ r ∈ rows, RowOk Y r) ∧ ∀ M' fs, M' a = some (.ins (He.ga K "Dated") fs) → DateF fs (encB (breachS Y rows)) → Pc .non M'
theorem len_Dated_init (ds : List D) (M : Mem) (Pc : D → Mem → Prop) (h : spc_Dated_init K ds M Pc) : ds.length = 3 := by
  obtain ⟨_, _, _, rfl, _⟩ := h
  rfl
abbrev nm_Dated_init : List Str := ["self", "year", "rows", "row", "number"]
theorem sc_Dated_init : FnScope nm_Dated_init ["self", "year", "rows"] (defScope s_Dated_init) := ⟨rfl, rfl, rfl, by decide +kernel, rfl, by decide +kernel, by decide +kernel⟩
theorem ok_Dated_init (TX : Txt K mg base) : Kept P w K mg base 7 (He.fAd K ("Dated", some "__init__")) ["self", "year", "rows"] (spc_Dated_init K) := by
  obtain ⟨fd_is_row, G_is_row, kp_is_row, b_is_row⟩ := ok_is_row (P := P) (w := w) TX
  obtain ⟨fd_Dated_settle, G_Dated_settle, kp_Dated_settle, b_Dated_settle⟩ := ok_Dated_settle (P := P) (w := w) TX
  refine okD (fn_Dated_init TX) sc_Dated_init (fun _ _ _ _ _ _ us hl => match us, hl with | [_, _, _], _ => rfl) len_Dated_init fun cdv A outer s H E hr ds M Pc h => ?_
  obtain ⟨a, Y, rows, rfl, ha, y, hlen, hro, k⟩ := h
  refine ⟨_, (pss_cons (ps_if (PW.pt (pw_or (pt_not (pt_val (pe_callB call_isi rfl (n_isinstance TX) (by decide +kernel) (pa_cons (pv 2) (pa_cons (pe_bltn (v := .ty "list") rfl (n_list TX) (by decide +kernel) rfl) pa_nil))))) (pw_or (pt_cmpR op_gt (pe_callB call_len rfl (n_len TX) PySem.boot_len (pa_cons (pv 2) pa_nil)) (pe_glob (v := .int 40) rfl (Classical.choose_spec (k_MOST_ROWS TX)) ⟨_, rfl⟩) (nomark _)) (pw_or1 (pt_not (pt_val (pe_callB (cr_all rfl) rfl (n_all TX) (by decide +kernel) (pa_cons (pe_lc (own := [("row", 3)]) (g := gName 3) rfl sc_Dated_init.nd (pi_list (pv 2)) (blkOk_by (N := nm_Dated_init) (sc := defScope s_Dated_init) (by decide +kernel)) (fun _ _ _ _ _ => pg_name (i := 3) sc_Dated_init.nd rfl (Or.inl rfl)) (fun _ _ _ _ _ => pts_nil) (fun _ _ _ _ _ => (pe_call G_is_row (hr.mono (by decide)) rfl (g_is_row TX) kp_is_row b_is_row .nil pass0 (pa_cons (pv 1) (pa_cons (pv 3) pa_nil))))) pa_nil)))))))) (pss_one ps_never) pss_nil)
    (pss_one (ps_expr (pe_meth (pv 0) (cl_Dated TX) (me_Dated_settle TX) G_Dated_settle (hr.mono (by decide)) b_Dated_settle .nil pass0 (pa_cons (pv 1) (pa_cons (pe_lc (own := [("number", 4)]) (g := gName 4) rfl sc_Dated_init.nd (pi_range1 rfl (n_range TX) (pa_cons (pe_callB call_len rfl (n_len TX) PySem.boot_len (pa_cons (pv 2) pa_nil)) pa_nil)) (blkOk_by (N := nm_Dated_init) (sc := defScope s_Dated_init) (by decide +kernel)) (fun _ _ _ _ _ => pg_name (i := 4) sc_Dated_init.nd rfl (Or.inl rfl)) (fun _ _ _ _ _ => pts_nil) (fun _ _ _ _ _ => (pe_tup (pa_cons (pv 4) (pa_cons (pe_ix (kx_tup (K := K)) (pe_ix (kx_list (K := K)) (pv 2) (pv 4) (fun _ _ => rfl)) pe_int (fun _ _ => rfl)) (pa_cons (pe_ix (kx_tup (K := K)) (pe_ix (kx_list (K := K)) (pv 2) (pv 4) (fun _ _ => rfl)) pe_int (fun _ _ => rfl)) pa_nil)))))) pa_nil)))))), ?_⟩
  walk_at "kp0"
  walk_at "kp"
  rw [decide_eq_false (show ¬ (40 : Int) < ((rows.map (encR K)).length : Int) by rw [List.length_map]; omega)]
  walk_at "kp"
  refine re_lcM (encR K) rows (fun _ => .bl true) (by omega) ?_ ?_ ?_
  · walk_at "kp"
    exact ⟨.inl rfl, rfl⟩
  · intro r hrm
    refine rgc_name (by simp) ?_
    walk_at "kp"
    exact ⟨hro r hrm, rfl, rfl⟩
  · walk_at "kp"
    refine rc_all (bs := rows.map fun _ => true) (.inl (by rw [List.map_map]; rfl)) ?_
    have e2 : (rows.map fun _ => true).all id = true := List.all_eq_true.mpr fun b hb => by
      obtain ⟨_, _, rfl⟩ := List.mem_map.mp hb
      rfl
    rw [e2]
    walk_at "kp"
    refine ⟨_, insD2 ha, rfl, ?_⟩
    walk_at "kp"
    refine re_lcR rows.length (fun j acc M' => acc = ((itemsOf rows).take j).map (encI K) ∧ M' = M) (by omega) ?_ ?_ ?_
    · walk_at "kp"
      exact ⟨by rw [List.length_map], rfl, rfl⟩
    · rintro j acc M' hj ⟨rfl, rfl⟩
      have hget : ∀ P : D → Mem → Prop, P (.tup [.int rows[j].1, encE K rows[j].2]) M' → RR K (rIxL K) (.lst (rows.map (encR K))) (.int (j : Int)) M' P := fun P h => rr_ixL (d := .tup [.int rows[j].1, encE K rows[j].2]) lstD1 (Kp.atI_nat (by rw [List.getElem?_map, List.getElem?_eq_getElem hj]; rfl)) h
      refine rgc_name (by simp) ?_
      refine rt_yes ⟨fun _ => ?_, fun z => by cases z⟩
      walk_at "kp"
      refine hget _ ?_
      walk_at "kp"
      refine hget _ ?_
      walk_at "kp"
      rw [List.take_succ, itemsOf_get, List.getElem?_eq_getElem hj, List.map_append]
      exact ⟨rfl, rfl⟩
    · rintro acc M' hl ⟨rfl, rfl⟩
      rw [← itemsOf_len, List.take_length]
      walk_at "kp"
      refine ⟨by rw [itemsOf_len]; omega, fun it hit => ?_, fun M' fs h1 h2 => ?_⟩
      · obtain ⟨i, hi, _⟩ := itemsOf_mem hit
        exact (hro _ (List.mem_of_getElem? hi)).2.2.1
      · exact k M' fs h1 h2
def spc_Dated_breach (K : PySem.W.Frag) : Spc := fun ds M Pc => ∃ (fs : List (Str × D)) (d : D), ds = [.ins (He.ga K "Dated") fs] ∧ fs.lookup ("first" : Str) = some d ∧ Pc d M
theorem len_Dated_breach (ds : List D) (M : Mem) (Pc : D → Mem → Prop) (h : spc_Dated_breach K ds M Pc) : ds.length = 1 := by
  obtain ⟨_, _, rfl, _⟩ := h
  rfl
abbrev nm_Dated_breach : List Str := ["self"]
theorem sc_Dated_breach : FnScope nm_Dated_breach ["self"] (defScope s_Dated_breach) := ⟨rfl, rfl, rfl, by decide +kernel, rfl, by decide +kernel, by decide +kernel⟩
theorem ok_Dated_breach (TX : Txt K mg base) : Kept P w K mg base 1 (He.fAd K ("Dated", some "breach")) ["self"] (spc_Dated_breach K) := by
  refine okD (fn_Dated_breach TX) sc_Dated_breach (fun _ _ _ _ _ _ us hl => match us, hl with | [_], _ => rfl) len_Dated_breach fun cdv A outer s H E hr ds M Pc h => ?_
  obtain ⟨fs, d, rfl, h1, k⟩ := h
  refine ⟨_, (pss_one (ps_ret (pe_fld (pv 0) rfl))), ?_⟩
  walk_at "kp0"
  walk_at "kp"
  refine ⟨_, _, _, insD1, cl_Dated TX, na_Dated_first TX, h1, ?_⟩
  exact k


end
end Kp

set_option maxHeartbeats 4000000
namespace Kp
open PySem PySem.Spec PyProof.Rows L2
local macro_rules | `(tactic| walk_at "kp0") => `(tactic| try dsimp only [cxOf, Cx.nox, Cx.wish])
local macro_rules | `(tactic| walk_at "kp1") => `(tactic| first
  | with_reducible refine rs_seq ?_
  | with_reducible refine re_var rfl ?_
  | with_reducible refine re_int ?_
  | with_reducible refine re_str ?_
  | with_reducible refine re_op ?_
  | with_reducible refine re_cb ?_
  | with_reducible refine ra_cons ?_
  | ((with_reducible refine ra_nil ?_); first
      | refine Exists.intro _ ⟨rfl, ?_⟩
      | refine ⟨_, _, rfl, ?_⟩
      | refine ⟨_, _, _, rfl, ?_⟩
      | refine ⟨_, _, _, _, rfl, ?_⟩
      | refine ⟨_, _, _, _, _, rfl, ?_⟩
      | refine ⟨_, _, _, _, _, _, rfl, ?_⟩
      | refine And.intro rfl ?_)
  | with_reducible refine ra_nil ?_
  | with_reducible refine rs_ret ?_
  | with_reducible refine rs_asg ?_
  | with_reducible refine rg_name ?_
  | with_reducible refine rs_if ?_
  | with_reducible refine rt_test ?_
  | with_reducible refine rt_B ?_
  | with_reducible refine re_call ?_
  | with_reducible refine rr_int0 ?_
  | with_reducible refine rr_bl0 ?_
  | with_reducible refine rr_I0 rfl ?_
  | with_reducible refine re_bl ?_
  | with_reducible refine re_non ?_
  | with_reducible refine re_ty ?_
  | with_reducible refine re_ref ?_
  | with_reducible refine rs_drop ?_
  | with_reducible refine re_chain ?_
  | with_reducible refine re_andV ?_
  | with_reducible refine re_orV ?_
  | with_reducible refine re_notV ?_
  | with_reducible refine rt_not ?_
  | with_reducible refine rt_and ?_
  | with_reducible refine rt_or ?_
  | with_reducible refine rs_next ?_
  | with_reducible refine rs_cont ?_
  | with_reducible refine rs_break ?_
  | with_reducible refine rs_retN ?_
  | with_reducible refine rr_eq rfl ?_
  | with_reducible refine rr_ne rfl ?_
  | with_reducible refine rr_mulR (by omega) ?_
  | with_reducible refine rr_mulL (by omega) ?_
  | with_reducible refine rr_mod (by omega) ?_
  | with_reducible refine rr_fdiv (by omega) ?_
  | with_reducible refine ro_none ?_
  | with_reducible refine ro_some ?_
  | with_reducible refine re_tup ?_
  | with_reducible refine rg_tup tupD1 rfl ?_
  | with_reducible refine rgs_cons ?_
  | with_reducible refine rgs_nil ?_
  | with_reducible refine rr_ixT0 ?_
  | with_reducible refine rr_ixT1 ?_
  | with_reducible refine rr_ixT2 ?_
  | with_reducible refine rr_ixT3 ?_
  | with_reducible refine rr_ixT4 ?_
  | with_reducible refine rr_ixT5 ?_
  | with_reducible refine rr_isN ?_
  | with_reducible refine rr_notN ?_
  | with_reducible refine rcI1 ?_
  | with_reducible refine rcI2 ?_
  | with_reducible refine rcI3 ?_
  | with_reducible refine rcI4 ?_
  | with_reducible refine rcI5 ?_
  | with_reducible refine rc_listL ?_
  | with_reducible refine rc_lenL ?_
  | with_reducible refine rc_lenT ?_
  | with_reducible refine rc_min2 ?_
  | with_reducible refine rc_intB ?_
  | with_reducible refine re_strip ?_
  | with_reducible refine re_lst (tA := tCons _ _) ?_
  | with_reducible refine re_fld ?_
  | with_reducible refine rs_fld ?_
  | with_reducible refine re_meth ?_
  | with_reducible exact rfl
  | with_reducible refine andT ?_
  | with_reducible refine andF ?_
  | refine Exists.intro _ ⟨rfl, ?_⟩
  | refine andT ?_
  | refine andF ?_
  | assumption
  | refine And.intro rfl ?_
  | refine And.intro (by assumption) ?_
  | with_reducible refine And.intro (Nat.le_of_ble_eq_true rfl) ?_
  | with_reducible refine And.intro (by omega) ?_)
local macro_rules | `(tactic| walk_at "kp") => `(tactic| repeat (walk_at "kp1"))
section
variable {P : Program} {w : World} {K : PySem.W.Frag} {mg : Str → Option Value} {base : Heap}
def wellC (w : Int × Int × Int) : Cell := .lst [.int w.1, .int w.2.1, .int w.2.2]
def spc_l_cell_at (K : PySem.W.Frag) : Spc := fun ds M Pc => ∃ (ns : List Int) (k : Int), ds = [.rol (ns.map D.int), .int k] ∧ 0 ≤ k ∧ ∀ i, Pc (.int i) M
theorem len_l_cell_at (ds : List D) (M : Mem) (Pc : D → Mem → Prop) (h : spc_l_cell_at K ds M Pc) : ds.length = 2 := by
  obtain ⟨_, _, rfl, _⟩ := h
  rfl
abbrev nm_l_cell_at : List Str := ["_law_script", "_law_k"]
theorem sc_l_cell_at : FnScope nm_l_cell_at ["_law_script", "_law_k"] (defScope s_l_cell_at) := ⟨rfl, rfl, rfl, by decide +kernel, rfl, by decide +kernel, by decide +kernel⟩
theorem ok_l_cell_at (TX : Txt K mg base) : Kept P w K mg base 1 (He.fAd K ("_law_cell_at", none)) ["_law_script", "_law_k"] (spc_l_cell_at K) := by
  refine okD (fn_l_cell_at TX) sc_l_cell_at (fun _ _ _ _ _ _ us hl => match us, hl with | [_, _], _ => rfl) len_l_cell_at fun cdv A outer s H E hr ds M Pc h => ?_
  obtain ⟨ns, k0, rfl, hk, k⟩ := h
  refine ⟨_, (pss_cons (ps_if (pt_cmpR op_lt (pv 1) (pe_callB call_len rfl (n_len TX) PySem.boot_len (pa_cons (pv 0) pa_nil)) (nomark _)) (pss_one (ps_ret (pe_ix ix_list (pv 0) (pv 1) (fun _ _ => rfl)))) pss_nil)
    (pss_one (ps_ret pe_int))), ?_⟩
  walk_at "kp0"
  walk_at "kp"
  refine rc_len (n := ns.length) (.inl ⟨_, lstD2, by rw [List.length_map]⟩) ?_
  walk_at "kp"
  refine ⟨fun h1 => ?_, fun h1 => ?_⟩
  · have h1 := of_decide_eq_true h1
    walk_at "kp"
    have hn : k0.toNat < ns.length := by omega
    have e : k0 = (k0.toNat : Int) := by omega
    rw [e]
    exact rr_ixL (d := .int ns[k0.toNat]) lstD2 (Kp.atI_nat (by rw [List.getElem?_map, List.getElem?_eq_getElem hn]; rfl)) (k _)
  · walk_at "kp"
    exact k _
def spc_l_mixed (K : PySem.W.Frag) : Spc := fun ds M Pc => ∃ (c k : Int), ds = [.int c, .int k] ∧ ∀ i, Pc (.int i) M
theorem len_l_mixed (ds : List D) (M : Mem) (Pc : D → Mem → Prop) (h : spc_l_mixed K ds M Pc) : ds.length = 2 := by
  obtain ⟨_, _, rfl, _⟩ := h
  rfl
abbrev nm_l_mixed : List Str := ["_law_cell", "_law_k", "_law_number"]
theorem sc_l_mixed : FnScope nm_l_mixed ["_law_cell", "_law_k"] (defScope s_l_mixed) := ⟨rfl, rfl, rfl, by decide +kernel, rfl, by decide +kernel, by decide +kernel⟩
theorem ok_l_mixed (TX : Txt K mg base) : Kept P w K mg base 1 (He.fAd K ("_law_mixed", none)) ["_law_cell", "_law_k"] (spc_l_mixed K) := by
  refine okD (fn_l_mixed TX) sc_l_mixed (fun _ _ _ _ _ _ us hl => match us, hl with | [_, _], _ => rfl) len_l_mixed fun cdv A outer s H E hr ds M Pc h => ?_
  obtain ⟨c, k0, rfl, k⟩ := h
  refine ⟨_, (pss_cons (ps_set (i := 2) sc_l_mixed.nd rfl (Or.inl rfl) (pe_op op_mod (pe_op op_mul (pe_op op_add (pe_op op_add (pe_op op_mod (pv 0) pe_int) (pe_op op_mul pe_int (pv 1))) pe_int) pe_int) pe_int))
    (pss_cons (ps_set (i := 2) sc_l_mixed.nd rfl (Or.inl rfl) (pe_op op_mod (pe_op op_mul (pv 2) (pe_op op_add (pe_op op_add (pe_op op_fdivW (pv 2) pe_int) pe_int) (pv 1))) pe_int))
    (pss_cons (ps_set (i := 2) sc_l_mixed.nd rfl (Or.inl rfl) (pe_op op_mod (pe_op op_mul (pe_op op_add (pv 2) pe_int) (pe_op op_add (pe_op op_add (pe_op op_fdivW (pv 2) pe_int) pe_int) (pe_op op_mul pe_int (pv 1)))) pe_int))
    (pss_one (ps_ret (pe_op op_mod (pe_op op_mul (pe_op op_add (pe_op op_add (pv 2) (pv 1)) pe_int) (pe_op op_add (pe_op op_fdivW (pv 2) pe_int) pe_int)) pe_int)))))), ?_⟩
  walk_at "kp0"
  walk_at "kp"
  exact k _
def spc_l_well (K : PySem.W.Frag) : Spc := fun ds M Pc => ∃ (c : Int), ds = [.int c] ∧ ∀ p w, M p = none → Pc (.ref p) (mset M p (wellC w))
theorem len_l_well (ds : List D) (M : Mem) (Pc : D → Mem → Prop) (h : spc_l_well K ds M Pc) : ds.length = 1 := by
  obtain ⟨_, rfl, _⟩ := h
  rfl
abbrev nm_l_well : List Str := ["_law_cell"]
theorem sc_l_well : FnScope nm_l_well ["_law_cell"] (defScope s_l_well) := ⟨rfl, rfl, rfl, by decide +kernel, rfl, by decide +kernel, by decide +kernel⟩
theorem ok_l_well (TX : Txt K mg base) : Kept P w K mg base 1 (He.fAd K ("_law_well", none)) ["_law_cell"] (spc_l_well K) := by
  refine okD (fn_l_well TX) sc_l_well (fun _ _ _ _ _ _ us hl => match us, hl with | [_], _ => rfl) len_l_well fun cdv A outer s H E hr ds M Pc h => ?_
  obtain ⟨c, rfl, k⟩ := h
  refine ⟨_, (pss_one (ps_ret (pe_lst (pa_cons (pe_op op_mul (pe_op op_fdivW (pv 0) pe_int) (pe_op op_sub pe_int (pe_op op_mod (pv 0) pe_int))) (pa_cons (pv 0) (pa_cons pe_int pa_nil)))))), ?_⟩
  walk_at "kp0"
  refine rs_ret (re_lstM ?_)
  walk_at "kp"
  intro p hp
  exact k p (_, _, _) hp
def spc_l_draw (K : PySem.W.Frag) : Spc := fun ds M Pc => ∃ (a : Addr) (w : Int × Int × Int) (m : Int) (M0 : Mem), ds = [.ref a, .int m] ∧ M = mset M0 a (wellC w) ∧ (0 < m ∧ m < 2 ^ 60) ∧ ∀ r w', 0 ≤ r → r < m → Pc (.int r) (mset M0 a (wellC w'))
theorem len_l_draw (ds : List D) (M : Mem) (Pc : D → Mem → Prop) (h : spc_l_draw K ds M Pc) : ds.length = 2 := by
  obtain ⟨_, _, _, _, rfl, _⟩ := h
  rfl
abbrev nm_l_draw : List Str := ["_law_well_here", "_law_most", "_law_number"]
theorem sc_l_draw : FnScope nm_l_draw ["_law_well_here", "_law_most"] (defScope s_l_draw) := ⟨rfl, rfl, rfl, by decide +kernel, rfl, by decide +kernel, by decide +kernel⟩
theorem ok_l_draw (TX : Txt K mg base) : Kept P w K mg base 2 (He.fAd K ("_law_draw", none)) ["_law_well_here", "_law_most"] (spc_l_draw K) := by
  obtain ⟨fd_l_mixed, G_l_mixed, kp_l_mixed, b_l_mixed⟩ := ok_l_mixed (P := P) (w := w) TX
  refine okD (fn_l_draw TX) sc_l_draw (fun _ _ _ _ _ _ us hl => match us, hl with | [_, _], _ => rfl) len_l_draw fun cdv A outer s H E hr ds M Pc h => ?_
  obtain ⟨a, w, m, M0, rfl, rfl, ⟨hm1, hm2⟩, k⟩ := h
  refine ⟨_, (pss_cons (ps_if (pt_cmpR op_gt (pe_ix ix_list (pv 0) pe_int (fun _ _ => rfl)) pe_int (nomark _)) (pss_cons (ps_set (i := 2) sc_l_draw.nd rfl (Or.inl rfl) (pe_op op_mod (pe_ix ix_list (pv 0) pe_int (fun _ _ => rfl)) (pv 1)))
    (pss_cons (ps_asg (pe_op op_fdivW (pe_ix ix_list (pv 0) pe_int (fun _ _ => rfl)) (pv 1)) (pg_sub (pv 0) pe_int set_list))
    (pss_one (ps_ret (pv 2))))) pss_nil)
    (pss_cons (ps_asg (pe_op op_add (pe_ix ix_list (pv 0) pe_int (fun _ _ => rfl)) pe_int) (pg_sub (pv 0) pe_int set_list))
    (pss_one (ps_ret (pe_op op_mod (pe_call G_l_mixed (hr.mono (by decide)) rfl (g__law_mixed TX) kp_l_mixed b_l_mixed .nil pass0 (pa_cons (pe_ix ix_list (pv 0) pe_int (fun _ _ => rfl)) (pa_cons (pe_ix ix_list (pv 0) pe_int (fun _ _ => rfl)) pa_nil))) (pv 1)))))), ?_⟩
  walk_at "kp0"
  have g0 : ∀ {w : Int × Int × Int} {P : D → Mem → Prop}, P (.int w.1) (mset M0 a (wellC w)) → RR K (rIxL K) (.ref a) (.int 0) (mset M0 a (wellC w)) P := fun {w P} h => rr_ixL (d := .int w.1) (lstD3 (ds := [.int w.1, .int w.2.1, .int w.2.2]) mset_same) (Kp.atI_nat (n := 0) rfl) h
  have g1 : ∀ {w : Int × Int × Int} {P : D → Mem → Prop}, P (.int w.2.1) (mset M0 a (wellC w)) → RR K (rIxL K) (.ref a) (.int 1) (mset M0 a (wellC w)) P := fun {w P} h => rr_ixL (d := .int w.2.1) (lstD3 (ds := [.int w.1, .int w.2.1, .int w.2.2]) mset_same) (Kp.atI_nat (n := 1) rfl) h
  have g2 : ∀ {w : Int × Int × Int} {P : D → Mem → Prop}, P (.int w.2.2) (mset M0 a (wellC w)) → RR K (rIxL K) (.ref a) (.int 2) (mset M0 a (wellC w)) P := fun {w P} h => rr_ixL (d := .int w.2.2) (lstD3 (ds := [.int w.1, .int w.2.1, .int w.2.2]) mset_same) (Kp.atI_nat (n := 2) rfl) h
  walk_at "kp"
  refine g0 ?_
  walk_at "kp"
  refine ⟨fun h1 => ?_, fun h1 => ?_⟩
  · walk_at "kp"
    refine g0 ?_
    walk_at "kp"
    refine g0 ?_
    walk_at "kp"
    refine rg_setL ?_
    walk_at "kp"
    refine ⟨_, [.int w.1, .int w.2.1, .int w.2.2], 0, 0, rfl, rfl, mset_same, by rfl, ?_⟩
    rw [mset_mset]
    walk_at "kp"
    exact k _ (w.1 / m, w.2.1, w.2.2) (Int.emod_nonneg _ (by omega)) (Int.emod_lt_of_pos _ hm1)
  · walk_at "kp"
    refine g2 ?_
    walk_at "kp"
    refine rg_setL ?_
    walk_at "kp"
    refine ⟨_, [.int w.1, .int w.2.1, .int w.2.2], 2, 2, rfl, rfl, mset_same, by rfl, ?_⟩
    rw [mset_mset]
    refine rs_ret ?_
    have g1' := @g1 (w.1, w.2.1, w.2.2 + 1)
    have g2' := @g2 (w.1, w.2.1, w.2.2 + 1)
    walk_at "kp"
    refine g1' ?_
    walk_at "kp"
    refine g2' ?_
    walk_at "kp"
    intro i
    walk_at "kp"
    exact k _ (w.1, w.2.1, w.2.2 + 1) (Int.emod_nonneg _ (by omega)) (Int.emod_lt_of_pos _ hm1)


end
end Kp

set_option maxHeartbeats 4000000
namespace Kp
open PySem PySem.Spec PyProof.Rows L2
local macro_rules | `(tactic| walk_at "kp0") => `(tactic| try dsimp only [cxOf, Cx.nox, Cx.wish])
local macro_rules | `(tactic| walk_at "kp1") => `(tactic| first
  | with_reducible refine rs_seq ?_
  | with_reducible refine re_var rfl ?_
  | with_reducible refine re_int ?_
  | with_reducible refine re_str ?_
  | with_reducible refine re_op ?_
  | with_reducible refine re_cb ?_
  | with_reducible refine ra_cons ?_
  | ((with_reducible refine ra_nil ?_); first
      | refine Exists.intro _ ⟨rfl, ?_⟩
      | refine ⟨_, _, rfl, ?_⟩
      | refine ⟨_, _, _, rfl, ?_⟩
      | refine ⟨_, _, _, _, rfl, ?_⟩
      | refine ⟨_, _, _, _, _, rfl, ?_⟩
      | refine ⟨_, _, _, _, _, _, rfl, ?_⟩
      | refine And.intro rfl ?_)
  | with_reducible refine ra_nil ?_
  | with_reducible refine rs_ret ?_
  | with_reducible refine rs_asg ?_
  | with_reducible refine rg_name ?_
  | with_reducible refine rs_if ?_
  | with_reducible refine rt_test ?_
  | with_reducible refine rt_B ?_
  | with_reducible refine re_call ?_
  | with_reducible refine rr_int0 ?_
  | with_reducible refine rr_bl0 ?_
  | with_reducible refine rr_I0 rfl ?_
  | with_reducible refine re_bl ?_
  | with_reducible refine re_non ?_
  | with_reducible refine re_ty ?_
  | with_reducible refine re_ref ?_
  | with_reducible refine rs_drop ?_
  | with_reducible refine re_chain ?_
  | with_reducible refine re_andV ?_
  | with_reducible refine re_orV ?_
  | with_reducible refine re_notV ?_
  | with_reducible refine rt_not ?_
  | with_reducible refine rt_and ?_
  | with_reducible refine rt_or ?_
  | with_reducible refine rs_next ?_
  | with_reducible refine rs_cont ?_
  | with_reducible refine rs_break ?_
  | with_reducible refine rs_retN ?_
  | with_reducible refine rr_eq rfl ?_
  | with_reducible refine rr_ne rfl ?_
  | with_reducible refine rr_mulR (by omega) ?_
  | with_reducible refine rr_mulL (by omega) ?_
  | with_reducible refine rr_mod (by omega) ?_
  | with_reducible refine rr_fdiv (by omega) ?_
  | with_reducible refine ro_none ?_
  | with_reducible refine ro_some ?_
  | with_reducible refine re_tup ?_
  | with_reducible refine rg_tup tupD1 rfl ?_
  | with_reducible refine rgs_cons ?_
  | with_reducible refine rgs_nil ?_
  | with_reducible refine rr_ixT0 ?_
  | with_reducible refine rr_ixT1 ?_
  | with_reducible refine rr_ixT2 ?_
  | with_reducible refine rr_ixT3 ?_
  | with_reducible refine rr_ixT4 ?_
  | with_reducible refine rr_ixT5 ?_
  | with_reducible refine rr_isN ?_
  | with_reducible refine rr_notN ?_
  | with_reducible refine rcI1 ?_
  | with_reducible refine rcI2 ?_
  | with_reducible refine rcI3 ?_
  | with_reducible refine rcI4 ?_
  | with_reducible refine rcI5 ?_
  | with_reducible refine rc_listL ?_
  | with_reducible refine rc_lenL ?_
  | with_reducible refine rc_lenT ?_
  | with_reducible refine rc_min2 ?_
  | with_reducible refine rc_intB ?_
  | with_reducible refine re_strip ?_
  | with_reducible refine re_lst (tA := tCons _ _) ?_
  | with_reducible refine re_fld ?_
  | with_reducible refine rs_fld ?_
  | with_reducible refine re_meth ?_
  | with_reducible exact rfl
  | with_reducible refine andT ?_
  | with_reducible refine andF ?_
  | refine Exists.intro _ ⟨rfl, ?_⟩
  | refine andT ?_
  | refine andF ?_
  | assumption
  | refine And.intro rfl ?_
  | refine And.intro (by assumption) ?_
  | with_reducible refine And.intro (Nat.le_of_ble_eq_true rfl) ?_
  | with_reducible refine And.intro (by omega) ?_)
local macro_rules | `(tactic| walk_at "kp") => `(tactic| repeat (walk_at "kp1"))
section
variable {P : Program} {w : World} {K : PySem.W.Frag} {mg : Str → Option Value} {base : Heap}
def Low (s : Str) : Prop := ∀ c ∈ s.cps.toList, 97 ≤ c ∧ c ≤ 122
theorem low_has : ∀ c : Nat, 97 ≤ c → c ≤ 122 → v_LETTERS.cps.contains c = true := by
  have h : ∀ i : Fin 26, v_LETTERS.cps.contains (97 + i.val) = true := by decide +kernel
  intro c h1 h2
  have := h ⟨c - 97, by omega⟩
  rw [show 97 + (c - 97) = c by omega] at this
  exact this
theorem takeWhile_all {α : Type} {p : α → Bool} : ∀ {l : List α}, (∀ c ∈ l, p c = true) → l.takeWhile p = l
  | [], _ => rfl
  | x :: r, h => by rw [List.takeWhile_cons_of_pos (h x List.mem_cons_self), takeWhile_all fun c hc => h c (List.mem_cons_of_mem _ hc)]
theorem low_strip {s : Str} (h : Low s) : Txt.stripChars s v_LETTERS = "" := by
  unfold Txt.stripChars
  rw [PySem.W.stripBy_eq]
  have e : s.cps.toList.takeWhile v_LETTERS.cps.contains = s.cps.toList := by
    exact takeWhile_all fun c hc => low_has c (h c hc).1 (h c hc).2
  unfold PySem.W.stripped
  simp only [if_true]
  rw [e, List.drop_length]
  unfold PySem.Builtin.Str.strSub
  simp
  rfl
theorem low_ok {s : Str} (h : Low s) : PyData.strOk s = true := by
  unfold PyData.strOk
  rw [Array.all_eq_true']
  intro c hc
  have := h c (Array.mem_toList_iff.mpr hc)
  exact decide_eq_true (by omega)
theorem low_append {a b : Str} (h1 : Low a) (h2 : Low b) : Low (a ++ b) := by
  intro c hc
  rw [show (a ++ b).cps = a.cps ++ b.cps from rfl, Array.toList_append] at hc
  rcases List.mem_append.mp hc with hc | hc
  · exact h1 c hc
  · exact h2 c hc
theorem low_cut {a : Str} {lo hi : Option Int} (h : Low a) : Low (cutS a lo hi) := by
  intro c hc
  unfold cutS at hc
  exact h c (List.mem_of_mem_drop (List.mem_of_mem_take hc))
def letter (i : Nat) : Str := ⟨#[97 + i]⟩
theorem low_letter {i : Nat} (h : i < 26) : Low (letter i) := by
  intro c hc
  have : c = 97 + i := by simpa [letter] using hc
  omega
theorem letter_at {i : Nat} (h : i < 26) : atI v_LETTERS.cps.toList (i : Int) = some (97 + i) := by
  have k : ∀ i : Fin 26, v_LETTERS.cps.toList[i.val]? = some (97 + i.val) := by decide +kernel
  exact Kp.atI_nat (k ⟨i, h⟩)
theorem join_low : ∀ {ls : List Nat}, (∀ i ∈ ls, i < 26) → Low (Txt.join "" (ls.map letter)) ∧ (Txt.join "" (ls.map letter)).length = ls.length := by
  intro ls h
  show Low (PySem.Builtin.Str.glued "" (ls.map letter)) ∧ (PySem.Builtin.Str.glued "" (ls.map letter)).length = ls.length
  rw [StrLaws.glued_eq_join]
  induction ls with
  | nil => exact ⟨fun c hc => by simp [Str.join, Str.empty] at hc, rfl⟩
  | cons i r ih =>
    obtain ⟨h1, h2⟩ := ih fun j hj => h j (List.mem_cons_of_mem _ hj)
    have hi := h i List.mem_cons_self
    cases r with
    | nil => exact ⟨low_letter hi, rfl⟩
    | cons j r =>
      show Low (letter i ++ "" ++ Str.join "" ((j :: r).map letter)) ∧ (letter i ++ "" ++ Str.join "" ((j :: r).map letter)).length = _
      refine ⟨low_append (low_append (low_letter hi) (fun c hc => by cases hc)) h1, ?_⟩
      rw [Str.length_append, Str.length_append, h2]
      show 1 + 0 + _ = _
      simp
      omega
theorem name_of {p : Str} {i : Nat} (h : Low p) (hl : p.length ≤ 7) (hi : i < 26) : NameOk (p ++ letter i) := by
  have hlen : (p ++ letter i).length = p.length + 1 := by rw [Str.length_append]; rfl
  refine ⟨fun z => ?_, by omega, low_strip (low_append h (low_letter hi)), low_ok (low_append h (low_letter hi))⟩
  rw [z] at hlen
  have : (("" : Str)).length = 0 := rfl
  omega
theorem last_of {p q : Str} {i j : Nat} (h : p ++ letter i = q ++ letter j) : i = j := by
  have e : p.cps ++ #[97 + i] = q.cps ++ #[97 + j] := congrArg Str.cps h
  have e2 := congrArg Array.toList e
  rw [Array.toList_append, Array.toList_append] at e2
  have := (List.append_inj' e2 rfl).2
  have : 97 + i = 97 + j := by simpa using this
  omega


end
end Kp

set_option maxHeartbeats 4000000
namespace Kp
open PySem PySem.Spec PyProof.Rows L2
local macro_rules | `(tactic| walk_at "kp0") => `(tactic| try dsimp only [cxOf, Cx.nox, Cx.wish])
local macro_rules | `(tactic| walk_at "kp1") => `(tactic| first
  | with_reducible refine rs_seq ?_
  | with_reducible refine re_var rfl ?_
  | with_reducible refine re_int ?_
  | with_reducible refine re_str ?_
  | with_reducible refine re_op ?_
  | with_reducible refine re_cb ?_
  | with_reducible refine ra_cons ?_
  | ((with_reducible refine ra_nil ?_); first
      | refine Exists.intro _ ⟨rfl, ?_⟩
      | refine ⟨_, _, rfl, ?_⟩
      | refine ⟨_, _, _, rfl, ?_⟩
      | refine ⟨_, _, _, _, rfl, ?_⟩
      | refine ⟨_, _, _, _, _, rfl, ?_⟩
      | refine ⟨_, _, _, _, _, _, rfl, ?_⟩
      | refine And.intro rfl ?_)
  | with_reducible refine ra_nil ?_
  | with_reducible refine rs_ret ?_
  | with_reducible refine rs_asg ?_
  | with_reducible refine rg_name ?_
  | with_reducible refine rs_if ?_
  | with_reducible refine rt_test ?_
  | with_reducible refine rt_B ?_
  | with_reducible refine re_call ?_
  | with_reducible refine rr_int0 ?_
  | with_reducible refine rr_bl0 ?_
  | with_reducible refine rr_I0 rfl ?_
  | with_reducible refine re_bl ?_
  | with_reducible refine re_non ?_
  | with_reducible refine re_ty ?_
  | with_reducible refine re_ref ?_
  | with_reducible refine rs_drop ?_
  | with_reducible refine re_chain ?_
  | with_reducible refine re_andV ?_
  | with_reducible refine re_orV ?_
  | with_reducible refine re_notV ?_
  | with_reducible refine rt_not ?_
  | with_reducible refine rt_and ?_
  | with_reducible refine rt_or ?_
  | with_reducible refine rs_next ?_
  | with_reducible refine rs_cont ?_
  | with_reducible refine rs_break ?_
  | with_reducible refine rs_retN ?_
  | with_reducible refine rr_eq rfl ?_
  | with_reducible refine rr_ne rfl ?_
  | with_reducible refine rr_mulR (by omega) ?_
  | with_reducible refine rr_mulL (by omega) ?_
  | with_reducible refine rr_mod (by omega) ?_
  | with_reducible refine rr_fdiv (by omega) ?_
  | with_reducible refine ro_none ?_
  | with_reducible refine ro_some ?_
  | with_reducible refine re_tup ?_
  | with_reducible refine rg_tup tupD1 rfl ?_
  | with_reducible refine rgs_cons ?_
  | with_reducible refine rgs_nil ?_
  | with_reducible refine rr_ixT0 ?_
  | with_reducible refine rr_ixT1 ?_
  | with_reducible refine rr_ixT2 ?_
  | with_reducible refine rr_ixT3 ?_
  | with_reducible refine rr_ixT4 ?_
  | with_reducible refine rr_ixT5 ?_
  | with_reducible refine rr_isN ?_
  | with_reducible refine rr_notN ?_
  | with_reducible refine rcI1 ?_
  | with_reducible refine rcI2 ?_
  | with_reducible refine rcI3 ?_
  | with_reducible refine rcI4 ?_
  | with_reducible refine rcI5 ?_
  | with_reducible refine rc_listL ?_
  | with_reducible refine rc_lenL ?_
  | with_reducible refine rc_lenT ?_
  | with_reducible refine rc_min2 ?_
  | with_reducible refine rc_intB ?_
  | with_reducible refine re_strip ?_
  | with_reducible refine re_lst (tA := tCons _ _) ?_
  | with_reducible refine re_fld ?_
  | with_reducible refine rs_fld ?_
  | with_reducible refine re_meth ?_
  | with_reducible exact rfl
  | with_reducible refine andT ?_
  | with_reducible refine andF ?_
  | refine Exists.intro _ ⟨rfl, ?_⟩
  | refine andT ?_
  | refine andF ?_
  | assumption
  | refine And.intro rfl ?_
  | refine And.intro (by assumption) ?_
  | with_reducible refine And.intro (Nat.le_of_ble_eq_true rfl) ?_
  | with_reducible refine And.intro (by omega) ?_)
local macro_rules | `(tactic| walk_at "kp") => `(tactic| repeat (walk_at "kp1"))
section
variable {P : Program} {w : World} {K : PySem.W.Frag} {mg : Str → Option Value} {base : Heap}
theorem draw_spc {a : Addr} {w : Int × Int × Int} {m : Int} {M0 : Mem} {Pc : D → Mem → Prop} (hm : 0 < m ∧ m < 2 ^ 60) (k : ∀ r w', 0 ≤ r → r < m → Pc (.int r) (mset M0 a (wellC w'))) : spc_l_draw K [.ref a, .int m] (mset M0 a (wellC w)) Pc := ⟨a, w, m, M0, rfl, rfl, hm, k⟩
def spc_l_names (K : PySem.W.Frag) : Spc := fun ds M Pc => ∃ (a : Addr) (w : Int × Int × Int) (n : Nat) (M0 : Mem), ds = [.ref a, .int (n : Int)] ∧ M = mset M0 a (wellC w) ∧ n ≤ 8 ∧ ∀ (ns : List Str) w', ns.length = n → ns.Nodup → (∀ s ∈ ns, NameOk s) → Pc (.lst (ns.map D.str)) (mset M0 a (wellC w'))
theorem len_l_names (ds : List D) (M : Mem) (Pc : D → Mem → Prop) (h : spc_l_names K ds M Pc) : ds.length = 2 := by
  obtain ⟨_, _, _, _, rfl, _⟩ := h
  rfl
abbrev nm_l_names : List Str := ["_law_well_here", "_law_many", "_law_letters", "_law_start", "_law_stem", "_law_k"]
theorem sc_l_names : FnScope nm_l_names ["_law_well_here", "_law_many"] (defScope s_l_names) := ⟨rfl, rfl, rfl, by decide +kernel, rfl, by decide +kernel, by decide +kernel⟩
theorem ok_l_names (TX : Txt K mg base) : Kept P w K mg base 3 (He.fAd K ("_law_names", none)) ["_law_well_here", "_law_many"] (spc_l_names K) := by
  obtain ⟨fd_l_draw, G_l_draw, kp_l_draw, b_l_draw⟩ := ok_l_draw (P := P) (w := w) TX
  refine okD (fn_l_names TX) sc_l_names (fun _ _ _ _ _ _ us hl => match us, hl with | [_, _], _ => rfl) len_l_names fun cdv A outer s H E hr ds M Pc h => ?_
  obtain ⟨a, w, n, M0, rfl, rfl, hn, k⟩ := h
  refine ⟨_, (pss_cons (ps_set (i := 2) sc_l_names.nd rfl (Or.inr rfl) pe_str)
    (pss_cons (ps_set (i := 3) sc_l_names.nd rfl (Or.inr rfl) (pe_call G_l_draw (hr.mono (by decide)) rfl (g__law_draw TX) kp_l_draw b_l_draw .nil pass0 (pa_cons (pv 0) (pa_cons pe_int pa_nil))))
    (pss_cons (ps_set (i := 4) sc_l_names.nd rfl (Or.inr rfl) (pe_join pe_str (pe_lc (own := [("_law_k", 5)]) (g := gName 5) rfl sc_l_names.nd (pi_range1 rfl (n_range TX) (pa_cons pe_int pa_nil)) (blkOk_by (N := nm_l_names) (sc := defScope s_l_names) (by decide +kernel)) (fun _ _ _ _ _ => pg_name (i := 5) sc_l_names.nd rfl (Or.inl rfl)) (fun _ _ _ _ _ => pts_nil) (fun _ _ _ _ _ => (pe_ix ix_str (pv 2) (pe_call G_l_draw (hr.mono (by decide)) rfl (g__law_draw TX) kp_l_draw b_l_draw .nil pass0 (pa_cons (pv 0) (pa_cons pe_int pa_nil))) (fun _ _ => rfl))))))
    (pss_one (ps_ret (pe_lc (own := [("_law_k", 5)]) (g := gName 5) rfl sc_l_names.nd (pi_range1 rfl (n_range TX) (pa_cons (pv 1) pa_nil)) (blkOk_by (N := nm_l_names) (sc := defScope s_l_names) (by decide +kernel)) (fun _ _ _ _ _ => pg_name (i := 5) sc_l_names.nd rfl (Or.inl rfl)) (fun _ _ _ _ _ => pts_nil) (fun _ _ _ _ _ => (pe_op op_add_str (pe_slice sl_str (pv 4) po_none (po_some (pe_call G_l_draw (hr.mono (by decide)) rfl (g__law_draw TX) kp_l_draw b_l_draw .nil pass0 (pa_cons (pv 0) (pa_cons pe_int pa_nil))))) (pe_ix ix_str (pv 2) (pe_op op_mod (pe_op op_add (pv 3) (pe_op op_mul pe_int (pv 5))) pe_int) (fun _ _ => rfl)))))))))), ?_⟩
  walk_at "kp0"
  walk_at "kp"
  refine draw_spc (by omega) fun start w2 hs0 hs1 => ?_
  walk_at "kp"
  refine re_join ?_
  walk_at "kp"
  refine re_lcR 7 (fun j acc M' => ∃ (ls : List Nat) (w : Int × Int × Int), acc = ls.map (fun i => .str (letter i)) ∧ M' = mset M0 a (wellC w) ∧ ls.length = j ∧ ∀ i ∈ ls, i < 26) (by decide) ?_ ?_ ?_
  · walk_at "kp"
    exact ⟨[], w2, rfl, rfl, rfl, by simp⟩
  · rintro j acc M' hj ⟨ls, w, rfl, rfl, hl, hls⟩
    refine rgc_name (by simp) ?_
    refine rt_yes ⟨fun _ => ?_, fun z => by cases z⟩
    walk_at "kp"
    refine draw_spc (by omega) fun i w3 hi0 hi1 => ?_
    have e : i = (i.toNat : Int) := by omega
    rw [e]
    refine rr_ixS (c := 97 + i.toNat) (by decide) (letter_at (by omega)) ?_
    refine ⟨ls ++ [i.toNat], w3, by rw [List.map_append]; rfl, rfl, by rw [List.length_append, List.length_singleton, hl], fun x hx => ?_⟩
    rcases List.mem_append.mp hx with hx | hx
    · exact hls x hx
    · rw [List.mem_singleton.mp hx]
      omega
  · rintro acc M' _ ⟨ls, w, rfl, rfl, hl, hls⟩
    obtain ⟨hj1, hj2⟩ := join_low hls
    have hsum : ∀ ls : List Nat, ((ls.map letter).map (·.length)).sum = ls.length := by
      intro ls
      rw [List.map_map]
      induction ls with
      | nil => rfl
      | cons i r ih =>
        rw [List.map_cons, List.sum_cons, ih]
        show 1 + r.length = r.length + 1
        omega
    refine ⟨ls.map letter, .inl (by rw [List.map_map]; rfl), by rw [hsum]; show _ + _ * 0 ≤ _; omega, ?_⟩
    generalize Txt.join "" (ls.map letter) = stem at hj1 hj2
    have hstem : stem.length = 7 := hj2.trans hl
    walk_at "kp"
    refine re_lcR n (fun j acc M' => ∃ (ns : List Str) (w : Int × Int × Int), acc = ns.map D.str ∧ M' = mset M0 a (wellC w) ∧ ns.length = j ∧ ∀ (i : Nat) s, ns[i]? = some s → ∃ p : Str, Low p ∧ p.length ≤ 7 ∧ s = p ++ letter ((start + 7 * (i : Int)) % 26).toNat) (by omega) ?_ ?_ ?_
    · walk_at "kp"
      exact ⟨[], w, rfl, rfl, rfl, by simp⟩
    · rintro j acc M' hj ⟨ns, w, rfl, rfl, hl2, hns⟩
      refine rgc_name (by simp) ?_
      refine rt_yes ⟨fun _ => ?_, fun z => by cases z⟩
      walk_at "kp"
      refine re_slS ?_
      walk_at "kp"
      refine draw_spc (by omega) fun d w3 hd0 hd1 => ?_
      refine ⟨_, rfl, stem, rfl, by omega, ?_⟩
      have hc : (cutS stem none (some d)).length ≤ 7 := by rw [← hstem]; exact cutS_length ..
      walk_at "kp"
      have hidx : (start + 7 * (j : Int)) % 26 = (((start + 7 * (j : Int)) % 26).toNat : Int) := by omega
      rw [hidx]
      refine rr_ixS (c := 97 + ((start + 7 * (j : Int)) % 26).toNat) (by decide) (letter_at (by omega)) ?_
      refine rr_add_str (by show _ + 1 ≤ _; omega) ?_
      refine ⟨ns ++ [cutS stem none (some d) ++ letter ((start + 7 * (j : Int)) % 26).toNat], w3, by rw [List.map_append]; rfl, rfl, by rw [List.length_append, List.length_singleton, hl2], fun i s hs => ?_⟩
      by_cases hi : i < ns.length
      · rw [List.getElem?_append_left hi] at hs
        exact hns i s hs
      · rw [List.getElem?_append_right (by omega)] at hs
        have hi2 : i = j := by
          have := (List.getElem?_eq_some_iff.mp hs).1
          rw [List.length_singleton] at this
          omega
        subst hi2
        rw [show i - ns.length = 0 by omega] at hs
        cases (show some _ = some s from hs)
        exact ⟨_, low_cut hj1, hc, rfl⟩
    · rintro acc M' _ ⟨ns, w, rfl, rfl, hl2, hns⟩
      refine k ns w hl2 ?_ fun s hs => ?_
      · refine List.pairwise_iff_getElem.mpr fun i j hi hj hij e => ?_
        obtain ⟨p, _, _, e1⟩ := hns i _ (List.getElem?_eq_getElem hi)
        obtain ⟨q, _, _, e2⟩ := hns j _ (List.getElem?_eq_getElem hj)
        rw [e1, e2] at e
        have := last_of e
        omega
      · obtain ⟨i, hi⟩ := List.getElem?_of_mem hs
        obtain ⟨p, h1, h2, rfl⟩ := hns i s hi
        exact name_of h1 h2 (by omega)


end
end Kp

set_option maxHeartbeats 4000000
namespace Kp
open PySem PySem.Spec PyProof.Rows L2
local macro_rules | `(tactic| walk_at "kp0") => `(tactic| try dsimp only [cxOf, Cx.nox, Cx.wish])
local macro_rules | `(tactic| walk_at "kp1") => `(tactic| first
  | with_reducible refine rs_seq ?_
  | with_reducible refine re_var rfl ?_
  | with_reducible refine re_int ?_
  | with_reducible refine re_str ?_
  | with_reducible refine re_op ?_
  | with_reducible refine re_cb ?_
  | with_reducible refine ra_cons ?_
  | ((with_reducible refine ra_nil ?_); first
      | refine Exists.intro _ ⟨rfl, ?_⟩
      | refine ⟨_, _, rfl, ?_⟩
      | refine ⟨_, _, _, rfl, ?_⟩
      | refine ⟨_, _, _, _, rfl, ?_⟩
      | refine ⟨_, _, _, _, _, rfl, ?_⟩
      | refine ⟨_, _, _, _, _, _, rfl, ?_⟩
      | refine And.intro rfl ?_)
  | with_reducible refine ra_nil ?_
  | with_reducible refine rs_ret ?_
  | with_reducible refine rs_asg ?_
  | with_reducible refine rg_name ?_
  | with_reducible refine rs_if ?_
  | with_reducible refine rt_test ?_
  | with_reducible refine rt_B ?_
  | with_reducible refine re_call ?_
  | with_reducible refine rr_int0 ?_
  | with_reducible refine rr_bl0 ?_
  | with_reducible refine rr_I0 rfl ?_
  | with_reducible refine re_bl ?_
  | with_reducible refine re_non ?_
  | with_reducible refine re_ty ?_
  | with_reducible refine re_ref ?_
  | with_reducible refine rs_drop ?_
  | with_reducible refine re_chain ?_
  | with_reducible refine re_andV ?_
  | with_reducible refine re_orV ?_
  | with_reducible refine re_notV ?_
  | with_reducible refine rt_not ?_
  | with_reducible refine rt_and ?_
  | with_reducible refine rt_or ?_
  | with_reducible refine rs_next ?_
  | with_reducible refine rs_cont ?_
  | with_reducible refine rs_break ?_
  | with_reducible refine rs_retN ?_
  | with_reducible refine rr_eq rfl ?_
  | with_reducible refine rr_ne rfl ?_
  | with_reducible refine rr_mulR (by omega) ?_
  | with_reducible refine rr_mulL (by omega) ?_
  | with_reducible refine rr_mod (by omega) ?_
  | with_reducible refine rr_fdiv (by omega) ?_
  | with_reducible refine ro_none ?_
  | with_reducible refine ro_some ?_
  | with_reducible refine re_tup ?_
  | with_reducible refine rg_tup tupD1 rfl ?_
  | with_reducible refine rgs_cons ?_
  | with_reducible refine rgs_nil ?_
  | with_reducible refine rr_ixT0 ?_
  | with_reducible refine rr_ixT1 ?_
  | with_reducible refine rr_ixT2 ?_
  | with_reducible refine rr_ixT3 ?_
  | with_reducible refine rr_ixT4 ?_
  | with_reducible refine rr_ixT5 ?_
  | with_reducible refine rr_isN ?_
  | with_reducible refine rr_notN ?_
  | with_reducible refine rcI1 ?_
  | with_reducible refine rcI2 ?_
  | with_reducible refine rcI3 ?_
  | with_reducible refine rcI4 ?_
  | with_reducible refine rcI5 ?_
  | with_reducible refine rc_listL ?_
  | with_reducible refine rc_lenL ?_
  | with_reducible refine rc_lenT ?_
  | with_reducible refine rc_min2 ?_
  | with_reducible refine rc_intB ?_
  | with_reducible refine re_strip ?_
  | with_reducible refine re_lst (tA := tCons _ _) ?_
  | with_reducible refine re_fld ?_
  | with_reducible refine rs_fld ?_
  | with_reducible refine re_meth ?_
  | with_reducible exact rfl
  | with_reducible refine andT ?_
  | with_reducible refine andF ?_
  | refine Exists.intro _ ⟨rfl, ?_⟩
  | refine andT ?_
  | refine andF ?_
  | assumption
  | refine And.intro rfl ?_
  | refine And.intro (by assumption) ?_
  | with_reducible refine And.intro (Nat.le_of_ble_eq_true rfl) ?_
  | with_reducible refine And.intro (by omega) ?_)
local macro_rules | `(tactic| walk_at "kp") => `(tactic| repeat (walk_at "kp1"))
section
variable {P : Program} {w : World} {K : PySem.W.Frag} {mg : Str → Option Value} {base : Heap}
theorem rr_pow {M : Mem} {Pd : D → Mem → Prop} {i j : Int} (h : 0 ≤ j ∧ j ≤ 1000000 ∧ i.natAbs < 2 ^ 64) (p : Pd (.int (i ^ j.toNat)) M) : RR K (rI CPow fun i j => .int (i ^ j.toNat)) (.int i) (.int j) M Pd := rr_I h rfl p
theorem at_any {xs : List D} {Q : D → Prop} {r : Int} (h0 : 0 ≤ r) (h1 : r < xs.length) (h : ∀ d ∈ xs, Q d) : ∃ d, atI xs r = some d ∧ Q d := by
  have hr : r.toNat < xs.length := by omega
  have e : (r.toNat : Int) = r := by omega
  have h2 := Kp.atI_nat (List.getElem?_eq_getElem hr)
  rw [e] at h2
  exact ⟨xs[r.toNat], h2, h _ (List.getElem_mem hr)⟩
theorem at_name {ns : List Str} {r : Int} (h0 : 0 ≤ r) (h1 : r < ns.length) : ∃ s, atI (ns.map D.str) r = some (.str s) ∧ s ∈ ns := by
  have hr : r.toNat < ns.length := by omega
  have e : (r.toNat : Int) = r := by omega
  have h2 := Kp.atI_nat (xs := ns.map D.str) (x := .str ns[r.toNat]) (n := r.toNat) (by rw [List.getElem?_map, List.getElem?_eq_getElem hr]; rfl)
  rw [e] at h2
  exact ⟨ns[r.toNat], h2, List.getElem_mem hr⟩
theorem rr_pick {M : Mem} {Pd : D → Mem → Prop} {xs : List D} {Q : D → Prop} {r : Int} (h0 : 0 ≤ r) (h1 : r < xs.length) (h : ∀ d ∈ xs, Q d) (p : ∀ d, Q d → Pd d M) : RR K (rIxL K) (.lst xs) (.int r) M Pd := by
  obtain ⟨d, e, q⟩ := at_any h0 h1 h
  exact rr_ixL lstD1 e (p d q)
theorem rr_name {M : Mem} {Pd : D → Mem → Prop} {ns : List Str} {r : Int} (h0 : 0 ≤ r) (h1 : r < ns.length) (p : ∀ s ∈ ns, Pd (.str s) M) : RR K (rIxL K) (.lst (ns.map D.str)) (.int r) M Pd := by
  obtain ⟨s, e, q⟩ := at_name h0 h1
  exact rr_ixL lstD1 e (p s q)
theorem mset_mset2 {M : Mem} {a p : Addr} {c c1 c2 : Cell} (h : a ≠ p) : mset (mset (mset M p c1) a c) p c2 = mset (mset M p c2) a c := by
  rw [mset_comm h, mset_mset]
theorem mdel_mset2 {M : Mem} {a p : Addr} {c c1 : Cell} (h : a ≠ p) (hp : M p = none) : mdel (mset (mset M p c1) a c) p = mset M a c := by
  rw [mdel_comm h, mdel_mset hp]
theorem rs_forR1X {M : Mem} {δ : DEnv} {E : DE} {tA : TA} {g : TG} {ts : TS} (N : Nat) (hN : N ≤ 100000) (Inv : Nat → DEnv → Mem → Prop) (h : RA K tA δ M fun ds M1 => ∃ n : Nat, n ≤ N ∧ ds = [.int (n : Int)] ∧ Inv 0 δ M1)
    (hs : ∀ k δ' M', k < N → Inv k δ' M' → RG K g (.int (k : Int)) δ' M' fun δ2 M2 => RS K ts δ2 M2 { nx := Inv (k + 1), ct := Inv (k + 1), bk := E.nx, rt := E.rt })
    (hd : ∀ k δ' M', k ≤ N → Inv k δ' M' → E.nx δ' M') : RS K (tFor (iRng1 tA) g ts) δ M E := fun σ I F H he hs' Dn l =>
  h.use he hs' fun vs ds I1 M1 H1 e1 s1 r1 ⟨n, hn, eds, h0⟩ => by
    subst eds
    obtain ⟨v, rfl, rv⟩ := r1.one
    cases rv
    refine ⟨(n : Int), rfl, by omega, by omega, for_range (lo := 0) (n := ((n : Int)).toNat) (fun i => LiftN K I1 F (Inv i)) ⟨δ, I1, M1, Same.refl I1, s1, he.mono e1, h0⟩ ?_ ?_⟩
    · rintro i σ' H' hi ⟨δ', I', M', e', s', he', z⟩
      have hi2 : i < N := by omega
      have e0 : (0 : Int) + (i : Int) = (i : Int) := Int.zero_add _
      rw [e0]
      refine hs i δ' M' hi2 z _ σ' I' F H' (.int _) he' s' _ fun σ2 H2 ⟨δ2, I2, M2, e2, s2, he2, z2⟩ => z2 σ2 I2 F H2 he2 s2 _ ?_
      have up : Same I1 I2 := e'.trans e2
      exact ⟨fun σ3 H3 z3 => z3.up up, fun v3 H3 z3 => l.rt _ _ (z3.up (e1.trans up)), fun σ3 H3 z3 => l.nx _ _ (z3.up (e1.trans up)), fun σ3 H3 z3 => z3.up up⟩
    · rintro σ' H' ⟨δ', I', M', e', s', he', z⟩
      have e0 : ((n : Int)).toNat = n := by omega
      rw [e0] at z
      exact l.nx σ' H' ⟨δ', I', M', e1.trans e', s', he', hd n δ' M' hn z⟩
def sized (d : D) : Prop := ∃ m : Int, d = .int m ∧ 0 < m ∧ m ≤ 1000000000000001
def spc_l_limits (K : PySem.W.Frag) : Spc := fun ds M Pc => ∃ (a : Addr) (w : Int × Int × Int) (ns : List Str) (days : Int) (M0 : Mem), ds = [.ref a, .lst (ns.map D.str), .int days] ∧ M = mset M0 a (wellC w) ∧ (0 < ns.length ∧ ns.length ≤ 100) ∧ (1 ≤ days ∧ days ≤ 30) ∧ ∀ (ls : List Lim) w', ls.length ≤ 6 → (∀ l ∈ ls, LimOk days ns l) → Pc (.lst (ls.map encLm)) (mset M0 a (wellC w'))
theorem len_l_limits (ds : List D) (M : Mem) (Pc : D → Mem → Prop) (h : spc_l_limits K ds M Pc) : ds.length = 3 := by
  obtain ⟨_, _, _, _, _, rfl, _⟩ := h
  rfl
abbrev nm_l_limits : List Str := ["_law_well_here", "_law_names_here", "_law_days", "_law_limits_here", "_law_k", "_law_most", "_law_head", "_law_first"]
theorem sc_l_limits : FnScope nm_l_limits ["_law_well_here", "_law_names_here", "_law_days"] (defScope s_l_limits) := ⟨rfl, rfl, rfl, by decide +kernel, rfl, by decide +kernel, by decide +kernel⟩
theorem ok_l_limits (TX : Txt K mg base) : Kept P w K mg base 3 (He.fAd K ("_law_limits", none)) ["_law_well_here", "_law_names_here", "_law_days"] (spc_l_limits K) := by
  obtain ⟨fd_l_draw, G_l_draw, kp_l_draw, b_l_draw⟩ := ok_l_draw (P := P) (w := w) TX
  refine okD (fn_l_limits TX) sc_l_limits (fun _ _ _ _ _ _ us hl => match us, hl with | [_, _, _], _ => rfl) len_l_limits fun cdv A outer s H E hr ds M Pc h => ?_
  obtain ⟨a, w, ns, days, M0, rfl, rfl, ⟨hn0, hn1⟩, ⟨hd0, hd1⟩, k⟩ := h
  have hnl : ((ns.map D.str).length : Int) = ns.length := by rw [List.length_map]
  refine ⟨_, (pss_cons (ps_set (i := 3) sc_l_limits.nd rfl (Or.inl rfl) (pe_lst pa_nil))
    (pss_cons (ps_for PassesOwn.never rfl (pi_range1 rfl (n_range TX) (pa_cons (pe_call G_l_draw (hr.mono (by decide)) rfl (g__law_draw TX) kp_l_draw b_l_draw .nil pass0 (pa_cons (pv 0) (pa_cons pe_int pa_nil))) pa_nil)) (pg_name (i := 4) sc_l_limits.nd rfl (Or.inl rfl))
    (pss_cons (ps_set (i := 5) sc_l_limits.nd rfl (Or.inl rfl) (pe_ix ix_list (pe_lst (pa_cons pe_int (pa_cons (pe_op op_pow pe_int pe_int) (pa_cons (pe_op op_add (pe_op op_pow pe_int pe_int) pe_int) pa_nil)))) (pe_call G_l_draw (hr.mono (by decide)) rfl (g__law_draw TX) kp_l_draw b_l_draw .nil pass0 (pa_cons (pv 0) (pa_cons pe_int pa_nil))) (fun _ _ => rfl)))
    (pss_cons (ps_set (i := 6) sc_l_limits.nd rfl (Or.inl rfl) (pe_ix ix_list (pv 1) (pe_call G_l_draw (hr.mono (by decide)) rfl (g__law_draw TX) kp_l_draw b_l_draw .nil pass0 (pa_cons (pv 0) (pa_cons (pe_callB call_len rfl (n_len TX) PySem.boot_len (pa_cons (pv 1) pa_nil)) pa_nil))) (fun _ _ => rfl)))
    (pss_cons (ps_set (i := 7) sc_l_limits.nd rfl (Or.inl rfl) (pe_op op_add pe_int (pe_call G_l_draw (hr.mono (by decide)) rfl (g__law_draw TX) kp_l_draw b_l_draw .nil pass0 (pa_cons (pv 0) (pa_cons (pv 2) pa_nil)))))
    (pss_one (ps_expr (pe_bm PySem.F.plainAttrs_list PySem.F.slot_list_append PySem.F.type_list_append mt_append (pv 3) (pa_cons (pe_tup (pa_cons (pv 6) (pa_cons (pv 7) (pa_cons (pe_op op_add (pv 7) (pe_call G_l_draw (hr.mono (by decide)) rfl (g__law_draw TX) kp_l_draw b_l_draw .nil pass0 (pa_cons (pv 0) (pa_cons (pe_op op_add (pe_op op_sub (pv 2) (pv 7)) pe_int) pa_nil)))) (pa_cons (pe_call G_l_draw (hr.mono (by decide)) rfl (g__law_draw TX) kp_l_draw b_l_draw .nil pass0 (pa_cons (pv 0) (pa_cons (pv 5) pa_nil))) pa_nil))))) pa_nil))))))))
    (pss_one (ps_ret (pv 3))))), ?_⟩
  walk_at "kp0"
  walk_at "kp"
  refine re_lstM (ra_nil ⟨by decide, fun p hp => ?_⟩)
  have hap : a ≠ p := fun z => by rw [← z, mset_same] at hp; cases hp
  rw [mset_ne (fun z => hap z.symm)] at hp
  rw [mset_comm hap]
  walk_at "kp"
  refine rs_forR1X 6 (by decide) (fun j δ' M' => ∃ (ls : List Lim) (w : Int × Int × Int) (x1 x2 x3 x4 : Option D), δ' = [some (.ref a), some (.lst (ns.map D.str)), some (.int days), some (.ref p), x1, x2, x3, x4] ∧ M' = mset (mset M0 p (.lst (ls.map encLm))) a (wellC w) ∧ ls.length ≤ j ∧ ∀ l ∈ ls, LimOk days ns l) ?_ ?_ ?_
  · walk_at "kp"
    refine draw_spc (by omega) fun r w2 h0 h1 => ?_
    refine ra_nil ⟨r.toNat, by omega, by rw [show ((r.toNat : Nat) : Int) = r by omega], [], w2, _, _, _, _, rfl, rfl, Nat.le_refl 0, by simp⟩
  · rintro j δ' M' hj ⟨ls, w, x1, x2, x3, x4, rfl, rfl, hl, hls⟩
    walk_at "kp"
    refine rr_pow (by decide) ?_
    walk_at "kp"
    refine rr_pow (by decide) ?_
    walk_at "kp"
    refine draw_spc (by omega) fun r w2 h0 h1 => ?_
    refine rr_pick (Q := sized) h0 h1 (al_cons ⟨_, rfl, by decide, by decide⟩ (al_cons ⟨_, rfl, by decide, by decide⟩ (al_cons ⟨_, rfl, by decide, by decide⟩ al_nil))) ?_
    rintro d ⟨most, rfl, hm0, hm1⟩
    walk_at "kp"
    refine draw_spc (by omega) fun r2 w3 h20 h21 => ?_
    refine rr_name h20 (by omega) fun s hs => ?_
    walk_at "kp"
    refine draw_spc (by omega) fun r3 w4 h30 h31 => ?_
    walk_at "kp"
    have lp : ∀ (c : Cell) w, mset (mset M0 p c) a (wellC w) p = some c := fun c w => by rw [mset_ne (fun z => hap z.symm)]; exact mset_same
    refine re_append ?_
    walk_at "kp"
    refine ⟨⟨_, lp _ _⟩, ?_⟩
    walk_at "kp"
    refine draw_spc (by omega) fun r4 w5 h40 h41 => ?_
    walk_at "kp"
    refine draw_spc (by omega) fun r5 w6 h50 h51 => ?_
    walk_at "kp"
    refine ⟨_, lp _ _, by rw [List.length_map]; omega, ?_⟩
    rw [mset_mset2 hap]
    refine ⟨ls ++ [(s, 1 + r3, 1 + r3 + r4, r5)], w6, _, _, _, _, rfl, by rw [List.map_append]; rfl, by rw [List.length_append, List.length_singleton]; omega, fun l hl2 => ?_⟩
    rcases List.mem_append.mp hl2 with hl2 | hl2
    · exact hls l hl2
    · rw [List.mem_singleton.mp hl2]
      exact ⟨hs, ⟨by show 1 ≤ 1 + r3; omega, by show 1 + r3 ≤ days; omega⟩, ⟨by show 1 + r3 ≤ 1 + r3 + r4; omega, by show 1 + r3 + r4 ≤ days; omega⟩, h50, by show r5 ≤ _; omega⟩
  · rintro j δ' M' hj ⟨ls, w, x1, x2, x3, x4, rfl, rfl, hl, hls⟩
    refine rs_ret (re_frz (re_var rfl ⟨_, _, Frz.lst (by rw [mset_ne (fun z => hap z.symm)]; exact mset_same), ?_⟩))
    rw [mdel_mset2 hap hp]
    exact k ls w (by omega) hls


end
end Kp

set_option maxHeartbeats 4000000
namespace Kp
open PySem PySem.Spec PyProof.Rows L2
local macro_rules | `(tactic| walk_at "kp0") => `(tactic| try dsimp only [cxOf, Cx.nox, Cx.wish])
local macro_rules | `(tactic| walk_at "kp1") => `(tactic| first
  | with_reducible refine rs_seq ?_
  | with_reducible refine re_var rfl ?_
  | with_reducible refine re_int ?_
  | with_reducible refine re_str ?_
  | with_reducible refine re_op ?_
  | with_reducible refine re_cb ?_
  | with_reducible refine ra_cons ?_
  | ((with_reducible refine ra_nil ?_); first
      | refine Exists.intro _ ⟨rfl, ?_⟩
      | refine ⟨_, _, rfl, ?_⟩
      | refine ⟨_, _, _, rfl, ?_⟩
      | refine ⟨_, _, _, _, rfl, ?_⟩
      | refine ⟨_, _, _, _, _, rfl, ?_⟩
      | refine ⟨_, _, _, _, _, _, rfl, ?_⟩
      | refine And.intro rfl ?_)
  | with_reducible refine ra_nil ?_
  | with_reducible refine rs_ret ?_
  | with_reducible refine rs_asg ?_
  | with_reducible refine rg_name ?_
  | with_reducible refine rs_if ?_
  | with_reducible refine rt_test ?_
  | with_reducible refine rt_B ?_
  | with_reducible refine re_call ?_
  | with_reducible refine rr_int0 ?_
  | with_reducible refine rr_bl0 ?_
  | with_reducible refine rr_I0 rfl ?_
  | with_reducible refine re_bl ?_
  | with_reducible refine re_non ?_
  | with_reducible refine re_ty ?_
  | with_reducible refine re_ref ?_
  | with_reducible refine rs_drop ?_
  | with_reducible refine re_chain ?_
  | with_reducible refine re_andV ?_
  | with_reducible refine re_orV ?_
  | with_reducible refine re_notV ?_
  | with_reducible refine rt_not ?_
  | with_reducible refine rt_and ?_
  | with_reducible refine rt_or ?_
  | with_reducible refine rs_next ?_
  | with_reducible refine rs_cont ?_
  | with_reducible refine rs_break ?_
  | with_reducible refine rs_retN ?_
  | with_reducible refine rr_eq rfl ?_
  | with_reducible refine rr_ne rfl ?_
  | with_reducible refine rr_mulR (by omega) ?_
  | with_reducible refine rr_mulL (by omega) ?_
  | with_reducible refine rr_mod (by omega) ?_
  | with_reducible refine rr_fdiv (by omega) ?_
  | with_reducible refine ro_none ?_
  | with_reducible refine ro_some ?_
  | with_reducible refine re_tup ?_
  | with_reducible refine rg_tup tupD1 rfl ?_
  | with_reducible refine rgs_cons ?_
  | with_reducible refine rgs_nil ?_
  | with_reducible refine rr_ixT0 ?_
  | with_reducible refine rr_ixT1 ?_
  | with_reducible refine rr_ixT2 ?_
  | with_reducible refine rr_ixT3 ?_
  | with_reducible refine rr_ixT4 ?_
  | with_reducible refine rr_ixT5 ?_
  | with_reducible refine rr_isN ?_
  | with_reducible refine rr_notN ?_
  | with_reducible refine rcI1 ?_
  | with_reducible refine rcI2 ?_
  | with_reducible refine rcI3 ?_
  | with_reducible refine rcI4 ?_
  | with_reducible refine rcI5 ?_
  | with_reducible refine rc_listL ?_
  | with_reducible refine rc_lenL ?_
  | with_reducible refine rc_lenT ?_
  | with_reducible refine rc_min2 ?_
  | with_reducible refine rc_intB ?_
  | with_reducible refine re_strip ?_
  | with_reducible refine re_lst (tA := tCons _ _) ?_
  | with_reducible refine re_fld ?_
  | with_reducible refine rs_fld ?_
  | with_reducible refine re_meth ?_
  | with_reducible exact rfl
  | with_reducible refine andT ?_
  | with_reducible refine andF ?_
  | refine Exists.intro _ ⟨rfl, ?_⟩
  | refine andT ?_
  | refine andF ?_
  | assumption
  | refine And.intro rfl ?_
  | refine And.intro (by assumption) ?_
  | with_reducible refine And.intro (Nat.le_of_ble_eq_true rfl) ?_
  | with_reducible refine And.intro (by omega) ?_)
local macro_rules | `(tactic| walk_at "kp") => `(tactic| repeat (walk_at "kp1"))
section
variable {P : Program} {w : World} {K : PySem.W.Frag} {mg : Str → Option Value} {base : Heap}
def Fr (j : Nat) (tb : Int × Int) : Prop := 0 ≤ tb.1 ∧ tb.1 ≤ tb.2 ∧ 0 < tb.2 ∧ tb.2 ≤ (1000 : Int) ^ j
theorem Fr.up {j : Nat} {tb : Int × Int} (h : Fr j tb) : Fr (j + 1) tb := by
  obtain ⟨h1, h2, h3, h4⟩ := h
  refine ⟨h1, h2, h3, ?_⟩
  rw [Int.pow_succ]
  have : (0 : Int) ≤ 1000 ^ j := by omega
  omega
theorem Fr.le {j : Nat} {tb : Int × Int} (h : Fr j tb) (hj : j ≤ 4) : tb.2 ≤ 1000000000000 := by
  obtain ⟨h1, h2, h3, h4⟩ := h
  have e : ∀ j : Fin 5, (1000 : Int) ^ j.val ≤ 1000000000000 := by decide +kernel
  have := e ⟨j, by omega⟩
  exact Int.le_trans h4 this
theorem Fr.step {j : Nat} {tb : Int × Int} {w p : Int} (f : Fr j tb) (hw : 1 ≤ w ∧ w ≤ 1000) (hp : 0 ≤ p) (hle : tb.1 * w + p * tb.2 ≤ tb.2 * w) : Fr (j + 1) (tb.1 * w + p * tb.2, tb.2 * w) := by
  obtain ⟨h1, h2, h3, h4⟩ := f
  refine ⟨?_, hle, ?_, ?_⟩
  · exact Int.add_nonneg (Int.mul_nonneg h1 (by omega)) (Int.mul_nonneg hp (by omega))
  · exact Int.mul_pos h3 (by omega)
  · rw [Int.pow_succ]
    exact Int.mul_le_mul h4 hw.2 (by omega) (by omega)
theorem part_ok {j : Nat} {tb : Int × Int} {w : Int} (f : Fr j tb) (hw : 1 ≤ w ∧ w ≤ 1000) : (0 ≤ (tb.2 - tb.1) * w / tb.2 ∧ (tb.2 - tb.1) * w / tb.2 ≤ w) ∧ tb.1 * w + (tb.2 - tb.1) * w / tb.2 * tb.2 ≤ tb.2 * w := by
  obtain ⟨h1, h2, h3, h4⟩ := f
  have a1 : 0 ≤ (tb.2 - tb.1) * w := Int.mul_nonneg (by omega) (by omega)
  have a2 : (tb.2 - tb.1) * w ≤ w * tb.2 := by
    rw [Int.mul_comm w]
    exact Int.mul_le_mul_of_nonneg_right (by omega) (by omega)
  refine ⟨⟨Int.ediv_nonneg a1 (by omega), ?_⟩, ?_⟩
  · have := Int.ediv_le_ediv h3 a2
    rw [Int.mul_ediv_cancel _ (by omega)] at this
    exact this
  · have := Int.ediv_mul_le ((tb.2 - tb.1) * w) (b := tb.2) (by omega)
    have e : tb.1 * w + (tb.2 - tb.1) * w = tb.2 * w := by
      rw [← Int.add_mul]
      congr 1
      omega
    omega
def spc_l_rules (K : PySem.W.Frag) : Spc := fun ds M Pc => ∃ (a : Addr) (w : Int × Int × Int) (ns : List Str) (days : Int) (M0 : Mem), ds = [.ref a, .lst (ns.map D.str), .int days] ∧ M = mset M0 a (wellC w) ∧ (0 < ns.length ∧ ns.length ≤ 100) ∧ (1 ≤ days ∧ days ≤ 30) ∧ ∀ (ls : List Lim) w', ls.length ≤ 4 → (∀ l ∈ ls, RulOk days ns l) → (∀ h, (tbOf ls h).1 ≤ (tbOf ls h).2) → Pc (.lst (ls.map encLm)) (mset M0 a (wellC w'))
theorem len_l_rules (ds : List D) (M : Mem) (Pc : D → Mem → Prop) (h : spc_l_rules K ds M Pc) : ds.length = 3 := by
  obtain ⟨_, _, _, _, _, rfl, _⟩ := h
  rfl
abbrev nm_l_rules : List Str := ["_law_well_here", "_law_names_here", "_law_days", "_law_rules_here", "_law_sums_here", "_law_k", "_law_head", "_law_whole", "_law_part", "_law_top", "_law_bottom"]
theorem sc_l_rules : FnScope nm_l_rules ["_law_well_here", "_law_names_here", "_law_days"] (defScope s_l_rules) := ⟨rfl, rfl, rfl, by decide +kernel, rfl, by decide +kernel, by decide +kernel⟩
theorem ok_l_rules (TX : Txt K mg base) : Kept P w K mg base 3 (He.fAd K ("_law_rules", none)) ["_law_well_here", "_law_names_here", "_law_days"] (spc_l_rules K) := by
  obtain ⟨fd_l_draw, G_l_draw, kp_l_draw, b_l_draw⟩ := ok_l_draw (P := P) (w := w) TX
  refine okD (fn_l_rules TX) sc_l_rules (fun _ _ _ _ _ _ us hl => match us, hl with | [_, _, _], _ => rfl) len_l_rules fun cdv A outer s H E hr ds M Pc h => ?_
  obtain ⟨a, w, ns, days, M0, rfl, rfl, ⟨hn0, hn1⟩, ⟨hd0, hd1⟩, k⟩ := h
  have hnl : ((ns.map D.str).length : Int) = ns.length := by rw [List.length_map]
  refine ⟨_, (pss_cons (ps_set (i := 3) sc_l_rules.nd rfl (Or.inl rfl) (pe_lst pa_nil))
    (pss_cons (ps_set (i := 4) sc_l_rules.nd rfl (Or.inl rfl) pe_dnewK)
    (pss_cons (ps_for PassesOwn.never rfl (pi_range1 rfl (n_range TX) (pa_cons (pe_call G_l_draw (hr.mono (by decide)) rfl (g__law_draw TX) kp_l_draw b_l_draw .nil pass0 (pa_cons (pv 0) (pa_cons pe_int pa_nil))) pa_nil)) (pg_name (i := 5) sc_l_rules.nd rfl (Or.inl rfl))
    (pss_cons (ps_set (i := 6) sc_l_rules.nd rfl (Or.inl rfl) (pe_ix ix_list (pv 1) (pe_call G_l_draw (hr.mono (by decide)) rfl (g__law_draw TX) kp_l_draw b_l_draw .nil pass0 (pa_cons (pv 0) (pa_cons (pe_callB call_len rfl (n_len TX) PySem.boot_len (pa_cons (pv 1) pa_nil)) pa_nil))) (fun _ _ => rfl)))
    (pss_cons (ps_set (i := 7) sc_l_rules.nd rfl (Or.inl rfl) (pe_op op_add pe_int (pe_call G_l_draw (hr.mono (by decide)) rfl (g__law_draw TX) kp_l_draw b_l_draw .nil pass0 (pa_cons (pv 0) (pa_cons pe_int pa_nil)))))
    (pss_cons (ps_set (i := 8) sc_l_rules.nd rfl (Or.inl rfl) (pe_call G_l_draw (hr.mono (by decide)) rfl (g__law_draw TX) kp_l_draw b_l_draw .nil pass0 (pa_cons (pv 0) (pa_cons (pe_op op_add (pv 7) pe_int) pa_nil))))
    (pss_cons (ps_asg (pe_dget2 (hu_of hr) (pv 4) (pv 6) (pe_tup (pa_cons pe_int (pa_cons pe_int pa_nil))) ⟨by rfl, by rfl, by rfl, by rfl⟩) (pg_tup rfl (pgs_cons (pg_name (i := 9) sc_l_rules.nd rfl (Or.inl rfl)) (pgs_cons (pg_name (i := 10) sc_l_rules.nd rfl (Or.inl rfl)) pgs_nil))))
    (pss_cons (ps_if (pt_cmpR op_gt (pe_op op_add (pe_op op_mul (pv 9) (pv 7)) (pe_op op_mul (pv 8) (pv 10))) (pe_op op_mul (pv 10) (pv 7)) (nomark _)) (pss_one (ps_set (i := 8) sc_l_rules.nd rfl (Or.inl rfl) (pe_op op_fdivW (pe_op op_mul (pe_op op_sub (pv 10) (pv 9)) (pv 7)) (pv 10)))) pss_nil)
    (pss_cons (ps_dput (hu_of hr) (pv 4) (pv 6) (pe_tup (pa_cons (pe_op op_add (pe_op op_mul (pv 9) (pv 7)) (pe_op op_mul (pv 8) (pv 10))) (pa_cons (pe_op op_mul (pv 10) (pv 7)) pa_nil))) rfl)
    (pss_one (ps_expr (pe_bm PySem.F.plainAttrs_list PySem.F.slot_list_append PySem.F.type_list_append mt_append (pv 3) (pa_cons (pe_tup (pa_cons (pv 6) (pa_cons (pv 8) (pa_cons (pv 7) (pa_cons (pe_op op_add pe_int (pe_call G_l_draw (hr.mono (by decide)) rfl (g__law_draw TX) kp_l_draw b_l_draw .nil pass0 (pa_cons (pv 0) (pa_cons (pv 2) pa_nil)))) pa_nil))))) pa_nil)))))))))))
    (pss_one (ps_ret (pv 3)))))), ?_⟩
  walk_at "kp0"
  walk_at "kp"
  refine re_lstM (ra_nil ⟨by decide, fun p hp => ?_⟩)
  have hap : a ≠ p := fun z => by rw [← z, mset_same] at hp; cases hp
  rw [mset_ne (fun z => hap z.symm)] at hp
  rw [mset_comm hap]
  walk_at "kp"
  refine re_dnew fun q hq => ?_
  have haq : a ≠ q := fun z => by rw [← z, mset_same] at hq; cases hq
  rw [mset_ne (fun z => haq z.symm)] at hq
  have hqp : q ≠ p := fun z => by rw [z, mset_same] at hq; cases hq
  rw [mset_ne hqp] at hq
  rw [mset_comm haq]
  have lp : ∀ (c c' : Cell) w, mset (mset (mset M0 p c) q c') a (wellC w) p = some c := fun c c' w => by rw [mset_ne (fun z => hap z.symm), mset_ne (fun z => hqp z.symm)]; exact mset_same
  have lq : ∀ (c c' : Cell) w, mset (mset (mset M0 p c) q c') a (wellC w) q = some c' := fun c c' w => by rw [mset_ne (fun z => haq z.symm)]; exact mset_same
  walk_at "kp"
  refine rs_forR1X 4 (by decide) (fun j δ' M' => ∃ (ls : List Lim) (kd : List (Key × D)) (w : Int × Int × Int) (x1 x2 x3 x4 x5 x6 : Option D), δ' = [some (.ref a), some (.lst (ns.map D.str)), some (.int days), some (.ref p), some (.ref q), x1, x2, x3, x4, x5, x6] ∧ M' = mset (mset (mset M0 p (.lst (ls.map encLm))) q (.dic kd)) a (wellC w) ∧ ls.length ≤ j ∧ (∀ l ∈ ls, RulOk days ns l) ∧ FracD ls kd ∧ ∀ h, Fr j (tbOf ls h)) ?_ ?_ ?_
  · walk_at "kp"
    refine draw_spc (by omega) fun r w2 h0 h1 => ?_
    refine ra_nil ⟨r.toNat, by omega, by rw [show ((r.toNat : Nat) : Int) = r by omega], [], [], w2, _, _, _, _, _, _, rfl, rfl, Nat.le_refl 0, by simp, .nil, fun h => ⟨Int.le_refl 0, by show (0 : Int) ≤ 1; decide, by show (0 : Int) < 1; decide, by show (1 : Int) ≤ 1000 ^ 0; decide⟩⟩
  · rintro j δ' M' hj ⟨ls, kd, w, x1, x2, x3, x4, x5, x6, rfl, rfl, hl, hls, fr, hfr⟩
    walk_at "kp"
    refine draw_spc (by omega) fun r2 w3 h20 h21 => ?_
    refine rr_name h20 (by omega) fun s hs => ?_
    walk_at "kp"
    refine draw_spc (by omega) fun r3 w4 h30 h31 => ?_
    walk_at "kp"
    refine draw_spc (by omega) fun r4 w5 h40 h41 => ?_
    walk_at "kp"
    refine re_dget2 ?_
    walk_at "kp"
    refine ⟨⟨_, lq _ _ _⟩, ?_⟩
    walk_at "kp"
    refine ⟨_, Sum.inr s, lq _ _ _, rfl, ?_⟩
    rw [fr.orZ]
    have f := hfr s
    have fb := f.le (by omega)
    obtain ⟨f1, f2, f3, f4⟩ := id f
    refine rg_tup tupD1 rfl ?_
    walk_at "kp"
    have rulO : ∀ pt u : Int, 0 ≤ pt → pt ≤ 1 + r3 → 2 ≤ u → u ≤ days + 1 → ∀ l ∈ ls ++ [(s, pt, 1 + r3, u)], RulOk days ns l := by
      intro pt u p0 p1 u0 u1 l hl2
      rcases List.mem_append.mp hl2 with hl2 | hl2
      · exact hls l hl2
      · rw [List.mem_singleton.mp hl2]
        exact ⟨hs, ⟨by show 1 ≤ 1 + r3; omega, by show 1 + r3 ≤ 1000; omega⟩, ⟨p0, p1⟩, u0, u1⟩
    have frO : ∀ pt u : Int, 0 ≤ pt → (tbOf ls s).1 * (1 + r3) + pt * (tbOf ls s).2 ≤ (tbOf ls s).2 * (1 + r3) → ∀ h, Fr (j + 1) (tbOf (ls ++ [(s, pt, 1 + r3, u)]) h) := by
      intro pt u p0 hle h
      rw [tbOf_snoc]
      by_cases e : s = h
      · subst e
        rw [if_pos rfl]
        exact Fr.step (w := 1 + r3) (p := pt) f ⟨by omega, by omega⟩ p0 hle
      · rw [if_neg e]
        exact (hfr h).up
    refine ⟨fun h1 => ?_, fun h1 => ?_⟩
    · obtain ⟨⟨hp0, hp1⟩, hle⟩ := part_ok f (w := 1 + r3) ⟨by omega, by omega⟩
      walk_at "kp"
      refine rs_dput ?_
      walk_at "kp"
      refine ⟨_, _, Sum.inr s, rfl, lq _ _ _, rfl, by have := fr.len; omega, ?_⟩
      rw [mset_mset2 haq]
      walk_at "kp"
      refine re_append ?_
      walk_at "kp"
      refine ⟨⟨_, lp _ _ _⟩, ?_⟩
      walk_at "kp"
      refine draw_spc (by omega) fun r5 w6 h50 h51 => ?_
      walk_at "kp"
      refine ⟨_, lp _ _ _, by rw [List.length_map]; omega, ?_⟩
      rw [mset_comm hap, mset_mset2 hqp]
      exact ⟨ls ++ [(s, ((tbOf ls s).2 - (tbOf ls s).1) * (1 + r3) / (tbOf ls s).2, 1 + r3, 2 + r5)], _, w6, _, _, _, _, _, _, rfl, by rw [List.map_append]; rfl, by rw [List.length_append, List.length_singleton]; omega, rulO _ _ hp0 hp1 (by omega) (by omega), fr.snoc (s, ((tbOf ls s).2 - (tbOf ls s).1) * (1 + r3) / (tbOf ls s).2, 1 + r3, 2 + r5), frO _ _ hp0 hle⟩
    · have hle := Int.not_lt.mp (of_decide_eq_false h1)
      have hp0 : 0 ≤ r4 := h40
      have hp1 : r4 ≤ 1 + r3 := by omega
      walk_at "kp"
      refine rs_dput ?_
      walk_at "kp"
      refine ⟨_, _, Sum.inr s, rfl, lq _ _ _, rfl, by have := fr.len; omega, ?_⟩
      rw [mset_mset2 haq]
      walk_at "kp"
      refine re_append ?_
      walk_at "kp"
      refine ⟨⟨_, lp _ _ _⟩, ?_⟩
      walk_at "kp"
      refine draw_spc (by omega) fun r5 w6 h50 h51 => ?_
      walk_at "kp"
      refine ⟨_, lp _ _ _, by rw [List.length_map]; omega, ?_⟩
      rw [mset_comm hap, mset_mset2 hqp]
      exact ⟨ls ++ [(s, r4, 1 + r3, 2 + r5)], _, w6, _, _, _, _, _, _, rfl, by rw [List.map_append]; rfl, by rw [List.length_append, List.length_singleton]; omega, rulO _ _ hp0 hp1 (by omega) (by omega), fr.snoc (s, r4, 1 + r3, 2 + r5), frO _ _ hp0 hle⟩
  · rintro j δ' M' hj ⟨ls, kd, w, x1, x2, x3, x4, x5, x6, rfl, rfl, hl, hls, fr, hfr⟩
    refine rs_ret (re_less (re_frz (re_var rfl ⟨_, _, Frz.lst (lp _ _ _), mset M0 a (wellC w), ?_, k ls w (by omega) hls fun h => (hfr h).2.1⟩)))
    rw [mdel_comm hap, mdel_comm hqp, mdel_mset hp]
    intro x c e
    by_cases ex : x = a
    · rw [ex, mset_same] at e ⊢
      exact e
    · rw [mset_ne ex] at e ⊢
      exact mset_less hq _ _ e


end
end Kp

set_option maxHeartbeats 4000000
namespace Kp
open PySem PySem.Spec PyProof.Rows L2
local macro_rules | `(tactic| walk_at "kp0") => `(tactic| try dsimp only [cxOf, Cx.nox, Cx.wish])
local macro_rules | `(tactic| walk_at "kp1") => `(tactic| first
  | with_reducible refine rs_seq ?_
  | with_reducible refine re_var rfl ?_
  | with_reducible refine re_int ?_
  | with_reducible refine re_str ?_
  | with_reducible refine re_op ?_
  | with_reducible refine re_cb ?_
  | with_reducible refine ra_cons ?_
  | ((with_reducible refine ra_nil ?_); first
      | refine Exists.intro _ ⟨rfl, ?_⟩
      | refine ⟨_, _, rfl, ?_⟩
      | refine ⟨_, _, _, rfl, ?_⟩
      | refine ⟨_, _, _, _, rfl, ?_⟩
      | refine ⟨_, _, _, _, _, rfl, ?_⟩
      | refine ⟨_, _, _, _, _, _, rfl, ?_⟩
      | refine And.intro rfl ?_)
  | with_reducible refine ra_nil ?_
  | with_reducible refine rs_ret ?_
  | with_reducible refine rs_asg ?_
  | with_reducible refine rg_name ?_
  | with_reducible refine rs_if ?_
  | with_reducible refine rt_test ?_
  | with_reducible refine rt_B ?_
  | with_reducible refine re_call ?_
  | with_reducible refine rr_int0 ?_
  | with_reducible refine rr_bl0 ?_
  | with_reducible refine rr_I0 rfl ?_
  | with_reducible refine re_bl ?_
  | with_reducible refine re_non ?_
  | with_reducible refine re_ty ?_
  | with_reducible refine re_ref ?_
  | with_reducible refine rs_drop ?_
  | with_reducible refine re_chain ?_
  | with_reducible refine re_andV ?_
  | with_reducible refine re_orV ?_
  | with_reducible refine re_notV ?_
  | with_reducible refine rt_not ?_
  | with_reducible refine rt_and ?_
  | with_reducible refine rt_or ?_
  | with_reducible refine rs_next ?_
  | with_reducible refine rs_cont ?_
  | with_reducible refine rs_break ?_
  | with_reducible refine rs_retN ?_
  | with_reducible refine rr_eq rfl ?_
  | with_reducible refine rr_ne rfl ?_
  | with_reducible refine rr_mulR (by omega) ?_
  | with_reducible refine rr_mulL (by omega) ?_
  | with_reducible refine rr_mod (by omega) ?_
  | with_reducible refine rr_fdiv (by omega) ?_
  | with_reducible refine ro_none ?_
  | with_reducible refine ro_some ?_
  | with_reducible refine re_tup ?_
  | with_reducible refine rg_tup tupD1 rfl ?_
  | with_reducible refine rgs_cons ?_
  | with_reducible refine rgs_nil ?_
  | with_reducible refine rr_ixT0 ?_
  | with_reducible refine rr_ixT1 ?_
  | with_reducible refine rr_ixT2 ?_
  | with_reducible refine rr_ixT3 ?_
  | with_reducible refine rr_ixT4 ?_
  | with_reducible refine rr_ixT5 ?_
  | with_reducible refine rr_isN ?_
  | with_reducible refine rr_notN ?_
  | with_reducible refine rcI1 ?_
  | with_reducible refine rcI2 ?_
  | with_reducible refine rcI3 ?_
  | with_reducible refine rcI4 ?_
  | with_reducible refine rcI5 ?_
  | with_reducible refine rc_listL ?_
  | with_reducible refine rc_lenL ?_
  | with_reducible refine rc_lenT ?_
  | with_reducible refine rc_min2 ?_
  | with_reducible refine rc_intB ?_
  | with_reducible refine re_strip ?_
  | with_reducible refine re_lst (tA := tCons _ _) ?_
  | with_reducible refine re_fld ?_
  | with_reducible refine rs_fld ?_
  | with_reducible refine re_meth ?_
  | with_reducible exact rfl
  | with_reducible refine andT ?_
  | with_reducible refine andF ?_
  | refine Exists.intro _ ⟨rfl, ?_⟩
  | refine andT ?_
  | refine andF ?_
  | assumption
  | refine And.intro rfl ?_
  | refine And.intro (by assumption) ?_
  | with_reducible refine And.intro (Nat.le_of_ble_eq_true rfl) ?_
  | with_reducible refine And.intro (by omega) ?_)
local macro_rules | `(tactic| walk_at "kp") => `(tactic| repeat (walk_at "kp1"))
section
variable {P : Program} {w : World} {K : PySem.W.Frag} {mg : Str → Option Value} {base : Heap}
def encYL (Y : Yr) : D := .tup [.int Y.days, .lst (Y.heads.map encHd), .lst (Y.limits.map encLm), .lst (Y.rules.map encLm)]
theorem snoc_split {α : Type} {hs pre post : List α} {x y : α} (e : hs ++ [y] = pre ++ x :: post) : (pre = hs ∧ x = y) ∨ ∃ post', hs = pre ++ x :: post' := by
  rcases List.eq_nil_or_concat post with rfl | ⟨p, z, rfl⟩
  · have := List.append_inj' e rfl
    exact .inl ⟨this.1.symm, by have := this.2; cases this; rfl⟩
  · have e2 : hs ++ [y] = (pre ++ x :: p) ++ [z] := by rw [e]; simp
    have := List.append_inj' e2 rfl
    exact .inr ⟨p, this.1⟩
def spc_l_year (K : PySem.W.Frag) : Spc := fun ds M Pc => ∃ (a : Addr) (w : Int × Int × Int) (M0 : Mem), ds = [.ref a] ∧ M = mset M0 a (wellC w) ∧ ∀ Y w', YGood Y → Pc (encYL Y) (mset M0 a (wellC w'))
theorem len_l_year (ds : List D) (M : Mem) (Pc : D → Mem → Prop) (h : spc_l_year K ds M Pc) : ds.length = 1 := by
  obtain ⟨_, _, _, rfl, _⟩ := h
  rfl
abbrev nm_l_year : List Str := ["_law_well_here", "_law_days", "_law_many", "_law_names_here", "_law_heads", "_law_k"]
theorem sc_l_year : FnScope nm_l_year ["_law_well_here"] (defScope s_l_year) := ⟨rfl, rfl, rfl, by decide +kernel, rfl, by decide +kernel, by decide +kernel⟩
theorem ok_l_year (TX : Txt K mg base) : Kept P w K mg base 4 (He.fAd K ("_law_year", none)) ["_law_well_here"] (spc_l_year K) := by
  obtain ⟨fd_l_draw, G_l_draw, kp_l_draw, b_l_draw⟩ := ok_l_draw (P := P) (w := w) TX
  obtain ⟨fd_l_names, G_l_names, kp_l_names, b_l_names⟩ := ok_l_names (P := P) (w := w) TX
  obtain ⟨fd_l_rules, G_l_rules, kp_l_rules, b_l_rules⟩ := ok_l_rules (P := P) (w := w) TX
  obtain ⟨fd_l_limits, G_l_limits, kp_l_limits, b_l_limits⟩ := ok_l_limits (P := P) (w := w) TX
  refine okD (fn_l_year TX) sc_l_year (fun _ _ _ _ _ _ us hl => match us, hl with | [_], _ => rfl) len_l_year fun cdv A outer s H E hr ds M Pc h => ?_
  obtain ⟨a, w, M0, rfl, rfl, k⟩ := h
  refine ⟨_, (pss_cons (ps_set (i := 1) sc_l_year.nd rfl (Or.inl rfl) (pe_op op_add pe_int (pe_call G_l_draw (hr.mono (by decide)) rfl (g__law_draw TX) kp_l_draw b_l_draw .nil pass0 (pa_cons (pv 0) (pa_cons (pe_ix ix_list (pe_lst (pa_cons pe_int (pa_cons pe_int pa_nil))) (pe_call G_l_draw (hr.mono (by decide)) rfl (g__law_draw TX) kp_l_draw b_l_draw .nil pass0 (pa_cons (pv 0) (pa_cons pe_int pa_nil))) (fun _ _ => rfl)) pa_nil)))))
    (pss_cons (ps_set (i := 2) sc_l_year.nd rfl (Or.inl rfl) (pe_op op_add pe_int (pe_call G_l_draw (hr.mono (by decide)) rfl (g__law_draw TX) kp_l_draw b_l_draw .nil pass0 (pa_cons (pv 0) (pa_cons pe_int pa_nil)))))
    (pss_cons (ps_set (i := 3) sc_l_year.nd rfl (Or.inr rfl) (pe_call G_l_names (hr.mono (by decide)) rfl (g__law_names TX) kp_l_names b_l_names .nil pass0 (pa_cons (pv 0) (pa_cons (pv 2) pa_nil))))
    (pss_cons (ps_setLc (i := 4) (own := [("_law_k", 5)]) (g := gName 5) rfl sc_l_year.nd rfl rfl (sw_true rfl rfl rfl (by decide +kernel)) (pi_range1 rfl (n_range TX) (pa_cons (pv 2) pa_nil)) (blkOk_by (N := nm_l_year) (sc := defScope s_l_year) (by decide +kernel)) (fun _ _ _ _ _ => pg_name (i := 5) sc_l_year.nd rfl (Or.inl rfl)) (fun _ _ _ _ _ => pts_nil) (fun _ _ _ _ _ => (pe_tup (pa_cons (pe_ix (kx_list (K := K)) (pv 3) (pv 5) (fun _ _ => rfl)) (pa_cons (pe_ix (kx_list (K := K)) (pe_op op_cat (pe_lst (pa_cons pe_str pa_nil)) (pe_slice (ks_list (K := K)) (pv 3) po_none (po_some (pv 5)))) (pe_call G_l_draw (hr.mono (by decide)) rfl (g__law_draw TX) kp_l_draw b_l_draw .nil pass0 (pa_cons (pv 0) (pa_cons (pe_op op_add (pv 5) pe_int) pa_nil))) (fun _ _ => rfl)) pa_nil)))))
    (pss_one (ps_ret (pe_tup (pa_cons (pv 1) (pa_cons (pv 4) (pa_cons (pe_call G_l_limits (hr.mono (by decide)) rfl (g__law_limits TX) kp_l_limits b_l_limits .nil pass0 (pa_cons (pv 0) (pa_cons (pv 3) (pa_cons (pv 1) pa_nil)))) (pa_cons (pe_call G_l_rules (hr.mono (by decide)) rfl (g__law_rules TX) kp_l_rules b_l_rules .nil pass0 (pa_cons (pv 0) (pa_cons (pv 3) (pa_cons (pv 1) pa_nil)))) pa_nil))))))))))), ?_⟩
  walk_at "kp0"
  walk_at "kp"
  refine draw_spc (by omega) fun r w2 h0 h1 => ?_
  refine rr_pick (Q := fun d => ∃ m : Int, d = .int m ∧ 0 < m ∧ m ≤ 30) h0 h1 (al_cons ⟨_, rfl, by decide, by decide⟩ (al_cons ⟨_, rfl, by decide, by decide⟩ al_nil)) ?_
  rintro d ⟨dm, rfl, hm0, hm1⟩
  walk_at "kp"
  refine draw_spc (by omega) fun r2 w3 h20 h21 => ?_
  walk_at "kp"
  refine draw_spc (by omega) fun r3 w4 h30 h31 => ?_
  walk_at "kp"
  obtain ⟨N, hN⟩ : ∃ N : Nat, 1 + r3 = (N : Int) := ⟨(1 + r3).toNat, by omega⟩
  rw [hN]
  refine ⟨a, w4, N, M0, rfl, rfl, by omega, fun ns w5 hl nd hok => ?_⟩
  walk_at "kp"
  refine re_lcR N (fun j acc M' => ∃ (hs : List (Str × Str)) (w : Int × Int × Int), acc = hs.map encHd ∧ M' = mset M0 a (wellC w) ∧ hs.length = j ∧ hs.map (·.1) = ns.take j ∧ ∀ pre x post, hs = pre ++ x :: post → x.2 = ("" : Str) ∨ x.2 ∈ pre.map (·.1)) (by omega) ?_ ?_ ?_
  · walk_at "kp"
    exact ⟨[], w5, rfl, rfl, rfl, rfl, fun pre x post e => by simp at e⟩
  · rintro j acc M' hj ⟨hs, w, rfl, rfl, hlen, hns, hab⟩
    refine rgc_name (by simp) ?_
    refine rt_yes ⟨fun _ => ?_, fun z => by cases z⟩
    walk_at "kp"
    refine rr_ixL (d := .str ns[j]) lstD1 (Kp.atI_nat (by rw [List.getElem?_map, List.getElem?_eq_getElem (by omega)]; rfl)) ?_
    walk_at "kp"
    refine re_slL ?_
    walk_at "kp"
    refine ⟨ns.map D.str, lstD1, ?_⟩
    have ecut : cutD (ns.map D.str) none (some (j : Int)) = (ns.take j).map D.str := by
      unfold cutD
      rw [HT.sIx_none, HT.sIx_nat, List.drop_zero, Nat.sub_zero, List.length_map, Nat.min_eq_left (by omega), List.map_take]
    rw [ecut]
    have htl : (ns.take j).length = j := by rw [List.length_take]; omega
    refine rr_cat (by rw [List.length_map]; show 1 + _ ≤ _; omega) ?_
    walk_at "kp"
    refine draw_spc (by omega) fun r5 w6 h50 h51 => ?_
    refine rr_pick (Q := fun d => ∃ u, d = .str u ∧ (u = ("" : Str) ∨ u ∈ ns.take j)) h50 (by rw [List.length_append, List.length_map, htl]; show _ < ((1 + j : Nat) : Int); omega) ?_ ?_
    · intro d hd
      rcases List.mem_append.mp hd with hd | hd
      · exact ⟨_, List.mem_singleton.mp hd, .inl rfl⟩
      · obtain ⟨u, hu, rfl⟩ := List.mem_map.mp hd
        exact ⟨u, rfl, .inr hu⟩
    · rintro d ⟨u, rfl, hu⟩
      walk_at "kp"
      refine ⟨hs ++ [(ns[j], u)], w6, by rw [List.map_append]; rfl, rfl, by rw [List.length_append, List.length_singleton, hlen], ?_, fun pre x post e => ?_⟩
      · rw [List.map_append, hns, List.take_succ, List.getElem?_eq_getElem (by omega)]
        rfl
      · rcases snoc_split e with ⟨rfl, rfl⟩ | ⟨p', e'⟩
        · rw [hns]
          exact hu
        · exact hab _ _ _ e'
  · rintro acc M' _ ⟨hs, w, rfl, rfl, hlen, hns, hab⟩
    rw [← hl, List.take_length] at hns
    have hd : HeadsOk hs := by
      refine ⟨fun z => ?_, by omega, fun pre x post e => ⟨hok _ ?_, ?_, hab _ _ _ e⟩⟩
      · rw [z] at hlen
        have : (0 : Int) = N := by rw [← hlen]; rfl
        omega
      · rw [← hns, e, List.map_append]
        simp
      · rw [← hns, e, List.map_append, List.map_cons] at nd
        exact fun hx => (List.nodup_append.mp nd).2.2 _ hx _ List.mem_cons_self rfl
    walk_at "kp"
    refine ⟨a, w, ns, 1 + r2, M0, rfl, rfl, by omega, by omega, fun ls w7 hl6 hlm => ?_⟩
    walk_at "kp"
    refine ⟨a, w7, ns, 1 + r2, M0, rfl, rfl, by omega, by omega, fun rs w8 hl4 hrl htb => ?_⟩
    walk_at "kp"
    exact k ⟨1 + r2, hs, ls, rs⟩ w8 { d1 := by show 1 ≤ 1 + r2; omega, d2 := by show 1 + r2 ≤ 30; omega, hd := hd, ll := hl6, lm := fun l h => by show LimOk (1 + r2) (hs.map (·.1)) l; rw [hns]; exact hlm l h, lr := hl4, rl := fun l h => by show RulOk (1 + r2) (hs.map (·.1)) l; rw [hns]; exact hrl l h, tb := htb }


end
end Kp

set_option maxHeartbeats 4000000
namespace Kp
open PySem PySem.Spec PyProof.Rows L2
local macro_rules | `(tactic| walk_at "kp0") => `(tactic| try dsimp only [cxOf, Cx.nox, Cx.wish])
local macro_rules | `(tactic| walk_at "kp1") => `(tactic| first
  | with_reducible refine rs_seq ?_
  | with_reducible refine re_var rfl ?_
  | with_reducible refine re_int ?_
  | with_reducible refine re_str ?_
  | with_reducible refine re_op ?_
  | with_reducible refine re_cb ?_
  | with_reducible refine ra_cons ?_
  | ((with_reducible refine ra_nil ?_); first
      | refine Exists.intro _ ⟨rfl, ?_⟩
      | refine ⟨_, _, rfl, ?_⟩
      | refine ⟨_, _, _, rfl, ?_⟩
      | refine ⟨_, _, _, _, rfl, ?_⟩
      | refine ⟨_, _, _, _, _, rfl, ?_⟩
      | refine ⟨_, _, _, _, _, _, rfl, ?_⟩
      | refine And.intro rfl ?_)
  | with_reducible refine ra_nil ?_
  | with_reducible refine rs_ret ?_
  | with_reducible refine rs_asg ?_
  | with_reducible refine rg_name ?_
  | with_reducible refine rs_if ?_
  | with_reducible refine rt_test ?_
  | with_reducible refine rt_B ?_
  | with_reducible refine re_call ?_
  | with_reducible refine rr_int0 ?_
  | with_reducible refine rr_bl0 ?_
  | with_reducible refine rr_I0 rfl ?_
  | with_reducible refine re_bl ?_
  | with_reducible refine re_non ?_
  | with_reducible refine re_ty ?_
  | with_reducible refine re_ref ?_
  | with_reducible refine rs_drop ?_
  | with_reducible refine re_chain ?_
  | with_reducible refine re_andV ?_
  | with_reducible refine re_orV ?_
  | with_reducible refine re_notV ?_
  | with_reducible refine rt_not ?_
  | with_reducible refine rt_and ?_
  | with_reducible refine rt_or ?_
  | with_reducible refine rs_next ?_
  | with_reducible refine rs_cont ?_
  | with_reducible refine rs_break ?_
  | with_reducible refine rs_retN ?_
  | with_reducible refine rr_eq rfl ?_
  | with_reducible refine rr_ne rfl ?_
  | with_reducible refine rr_mulR (by omega) ?_
  | with_reducible refine rr_mulL (by omega) ?_
  | with_reducible refine rr_mod (by omega) ?_
  | with_reducible refine rr_fdiv (by omega) ?_
  | with_reducible refine ro_none ?_
  | with_reducible refine ro_some ?_
  | with_reducible refine re_tup ?_
  | with_reducible refine rg_tup tupD1 rfl ?_
  | with_reducible refine rgs_cons ?_
  | with_reducible refine rgs_nil ?_
  | with_reducible refine rr_ixT0 ?_
  | with_reducible refine rr_ixT1 ?_
  | with_reducible refine rr_ixT2 ?_
  | with_reducible refine rr_ixT3 ?_
  | with_reducible refine rr_ixT4 ?_
  | with_reducible refine rr_ixT5 ?_
  | with_reducible refine rr_isN ?_
  | with_reducible refine rr_notN ?_
  | with_reducible refine rcI1 ?_
  | with_reducible refine rcI2 ?_
  | with_reducible refine rcI3 ?_
  | with_reducible refine rcI4 ?_
  | with_reducible refine rcI5 ?_
  | with_reducible refine rc_listL ?_
  | with_reducible refine rc_lenL ?_
  | with_reducible refine rc_lenT ?_
  | with_reducible refine rc_min2 ?_
  | with_reducible refine rc_intB ?_
  | with_reducible refine re_strip ?_
  | with_reducible refine re_lst (tA := tCons _ _) ?_
  | with_reducible refine re_fld ?_
  | with_reducible refine rs_fld ?_
  | with_reducible refine re_meth ?_
  | with_reducible exact rfl
  | with_reducible refine andT ?_
  | with_reducible refine andF ?_
  | refine Exists.intro _ ⟨rfl, ?_⟩
  | refine andT ?_
  | refine andF ?_
  | assumption
  | refine And.intro rfl ?_
  | refine And.intro (by assumption) ?_
  | with_reducible refine And.intro (Nat.le_of_ble_eq_true rfl) ?_
  | with_reducible refine And.intro (by omega) ?_)
local macro_rules | `(tactic| walk_at "kp") => `(tactic| repeat (walk_at "kp1"))
section
variable {P : Program} {w : World} {K : PySem.W.Frag} {mg : Str → Option Value} {base : Heap}
def encRT (r : Row) : D := .tup [.int r.1, encT r.2]
theorem others_pos {ns : List Str} {h : Str} (nd : ns.Nodup) (hl : 1 < ns.length) : 0 < (ns.filter fun n => !decide (n = h)).length := by
  apply List.length_pos_iff.mpr
  intro z
  rw [List.filter_eq_nil_iff] at z
  have e : ∀ i (hi : i < ns.length), ns[i] = h := fun i hi => by
    have := z _ (List.getElem_mem hi)
    simpa using this
  have e0 := e 0 (by omega)
  have e1 := e 1 hl
  have := (List.pairwise_iff_getElem.mp nd) 0 1 (by omega) hl (by omega)
  exact this (e0.trans e1.symm)
def spc_l_row (K : PySem.W.Frag) : Spc := fun ds M Pc => ∃ (a : Addr) (w : Int × Int × Int) (Y : Yr) (ws : List Str) (M0 : Mem), ds = [.ref a, .lst (Y.names.map D.str), .lst (ws.map D.str), .int Y.days] ∧ M = mset M0 a (wellC w) ∧ YGood Y ∧ (0 < ws.length ∧ ws.length ≤ 100) ∧ (∀ s ∈ ws, NameOk s) ∧ ∀ r w', RowOk Y r → Pc (encRT r) (mset M0 a (wellC w'))
theorem len_l_row (ds : List D) (M : Mem) (Pc : D → Mem → Prop) (h : spc_l_row K ds M Pc) : ds.length = 4 := by
  obtain ⟨_, _, _, _, _, rfl, _⟩ := h
  rfl
abbrev nm_l_row : List Str := ["_law_well_here", "_law_names_here", "_law_words", "_law_days", "_law_way", "_law_size", "_law_date", "_law_head", "_law_word", "_law_note", "_law_coins", "_law_others", "_law_name"]
theorem sc_l_row : FnScope nm_l_row ["_law_well_here", "_law_names_here", "_law_words", "_law_days"] (defScope s_l_row) := ⟨rfl, rfl, rfl, by decide +kernel, rfl, by decide +kernel, by decide +kernel⟩
theorem ok_l_row (TX : Txt K mg base) : Kept P w K mg base 3 (He.fAd K ("_law_row", none)) ["_law_well_here", "_law_names_here", "_law_words", "_law_days"] (spc_l_row K) := by
  obtain ⟨fd_l_draw, G_l_draw, kp_l_draw, b_l_draw⟩ := ok_l_draw (P := P) (w := w) TX
  refine okD (fn_l_row TX) sc_l_row (fun _ _ _ _ _ _ us hl => match us, hl with | [_, _, _, _], _ => rfl) len_l_row fun cdv A outer s H E hr ds M Pc h => ?_
  obtain ⟨a, w, Y, ws, M0, rfl, rfl, y, ⟨hw0, hw1⟩, hws, k⟩ := h
  have hd0 := y.d1
  have hd1 := y.d2
  have hn0 : 0 < Y.names.length := by
    unfold Yr.names
    rw [List.length_map]
    exact List.length_pos_iff.mpr y.hd.ne
  have hn1 : Y.names.length ≤ 8 := by
    unfold Yr.names
    rw [List.length_map]
    exact y.hd.le
  have hnl : ((Y.names.map D.str).length : Int) = Y.names.length := by rw [List.length_map]
  have hwl : ((ws.map D.str).length : Int) = ws.length := by rw [List.length_map]
  have hnok : ∀ s ∈ Y.names, NameOk s := fun s hs => by
    obtain ⟨x, hx, rfl⟩ := List.mem_map.mp hs
    obtain ⟨pre, post, e⟩ := List.append_of_mem hx
    exact (y.hd.ok _ _ _ e).1
  refine ⟨_, (pss_cons (ps_set (i := 4) sc_l_row.nd rfl (Or.inl rfl) (pe_call G_l_draw (hr.mono (by decide)) rfl (g__law_draw TX) kp_l_draw b_l_draw .nil pass0 (pa_cons (pv 0) (pa_cons pe_int pa_nil))))
    (pss_cons (ps_set (i := 5) sc_l_row.nd rfl (Or.inl rfl) (pe_ix ix_list (pe_lst (pa_cons pe_int (pa_cons pe_int (pa_cons (pe_op op_pow pe_int pe_int) pa_nil)))) (pe_op op_fdivW (pe_call G_l_draw (hr.mono (by decide)) rfl (g__law_draw TX) kp_l_draw b_l_draw .nil pass0 (pa_cons (pv 0) (pa_cons pe_int pa_nil))) pe_int) (fun _ _ => rfl)))
    (pss_cons (ps_set (i := 6) sc_l_row.nd rfl (Or.inl rfl) (pe_op op_add pe_int (pe_call G_l_draw (hr.mono (by decide)) rfl (g__law_draw TX) kp_l_draw b_l_draw .nil pass0 (pa_cons (pv 0) (pa_cons (pv 3) pa_nil)))))
    (pss_cons (ps_set (i := 7) sc_l_row.nd rfl (Or.inr rfl) (pe_ix ix_list (pv 1) (pe_call G_l_draw (hr.mono (by decide)) rfl (g__law_draw TX) kp_l_draw b_l_draw .nil pass0 (pa_cons (pv 0) (pa_cons (pe_callB call_len rfl (n_len TX) PySem.boot_len (pa_cons (pv 1) pa_nil)) pa_nil))) (fun _ _ => rfl)))
    (pss_cons (ps_set (i := 8) sc_l_row.nd rfl (Or.inl rfl) (pe_ix ix_list (pv 2) (pe_call G_l_draw (hr.mono (by decide)) rfl (g__law_draw TX) kp_l_draw b_l_draw .nil pass0 (pa_cons (pv 0) (pa_cons (pe_callB call_len rfl (n_len TX) PySem.boot_len (pa_cons (pv 2) pa_nil)) pa_nil))) (fun _ _ => rfl)))
    (pss_cons (ps_set (i := 9) sc_l_row.nd rfl (Or.inl rfl) (pe_ix ix_list (pe_lst (pa_cons pe_str (pa_cons pe_str (pa_cons (pv 8) pa_nil)))) (pe_call G_l_draw (hr.mono (by decide)) rfl (g__law_draw TX) kp_l_draw b_l_draw .nil pass0 (pa_cons (pv 0) (pa_cons pe_int pa_nil))) (fun _ _ => rfl)))
    (pss_cons (ps_set (i := 10) sc_l_row.nd rfl (Or.inl rfl) (pe_op op_add pe_int (pe_call G_l_draw (hr.mono (by decide)) rfl (g__law_draw TX) kp_l_draw b_l_draw .nil pass0 (pa_cons (pv 0) (pa_cons (pv 5) pa_nil)))))
    (pss_cons (ps_if (pt_cmpR op_eq (pv 4) pe_int (nomark _)) (pss_one (ps_ret (pe_tup (pa_cons (pv 6) (pa_cons (pe_tup (pa_cons pe_str (pa_cons (pv 7) (pa_cons (pv 10) (pa_cons (pv 9) pa_nil))))) pa_nil))))) pss_nil)
    (pss_cons (ps_if (pt_cmpR op_eq (pv 4) pe_int (nomark _)) (pss_one (ps_ret (pe_tup (pa_cons (pv 6) (pa_cons (pe_tup (pa_cons pe_str (pa_cons (pv 7) (pa_cons (pv 10) (pa_cons (pe_op op_add (pe_op op_add (pv 6) pe_int) (pe_call G_l_draw (hr.mono (by decide)) rfl (g__law_draw TX) kp_l_draw b_l_draw .nil pass0 (pa_cons (pv 0) (pa_cons (pe_op op_add (pe_op op_sub (pv 3) (pv 6)) pe_int) pa_nil)))) (pa_cons (pv 9) pa_nil)))))) pa_nil))))) pss_nil)
    (pss_cons (ps_if (PW.pt (pw_and (pt_cmpR op_eq (pv 4) pe_int (nomark _)) (pw_and1 (pt_cmpR op_gt (pe_callB call_len rfl (n_len TX) PySem.boot_len (pa_cons (pv 1) pa_nil)) pe_int (nomark _))))) (pss_cons (ps_setLc (i := 11) (own := [("_law_name", 12)]) (g := gName 12) rfl sc_l_row.nd rfl rfl (sw_true rfl rfl rfl (by decide +kernel)) (pi_list (pv 1)) (blkOk_by (N := nm_l_row) (sc := defScope s_l_row) (by decide +kernel)) (fun _ _ _ _ _ => pg_name (i := 12) sc_l_row.nd rfl (Or.inl rfl)) (fun _ _ _ _ _ => pts_one (pt_cmpR op_ne (pv 12) (pv 7) (nomark _))) (fun _ _ _ _ _ => (pv 12)))
    (pss_one (ps_ret (pe_tup (pa_cons (pv 6) (pa_cons (pe_tup (pa_cons pe_str (pa_cons (pv 7) (pa_cons (pe_ix ix_list (pv 11) (pe_call G_l_draw (hr.mono (by decide)) rfl (g__law_draw TX) kp_l_draw b_l_draw .nil pass0 (pa_cons (pv 0) (pa_cons (pe_callB call_len rfl (n_len TX) PySem.boot_len (pa_cons (pv 11) pa_nil)) pa_nil))) (fun _ _ => rfl)) (pa_cons (pv 10) (pa_cons (pv 9) pa_nil)))))) pa_nil)))))) pss_nil)
    (pss_cons (ps_if (pt_cmpR op_lt (pv 4) pe_int (nomark _)) (pss_one (ps_ret (pe_tup (pa_cons (pv 6) (pa_cons (pe_tup (pa_cons pe_str (pa_cons (pv 8) (pa_cons (pv 7) (pa_cons (pv 10) (pa_cons (pv 9) pa_nil)))))) pa_nil))))) pss_nil)
    (pss_cons (ps_if (pt_cmpR op_lt (pv 4) pe_int (nomark _)) (pss_one (ps_ret (pe_tup (pa_cons (pv 6) (pa_cons (pe_ix ix_list (pe_lst (pa_cons (pe_tup (pa_cons pe_str (pa_cons (pv 8) (pa_cons (pv 10) (pa_cons (pv 9) pa_nil))))) (pa_cons (pe_tup (pa_cons pe_str (pa_cons (pv 8) (pa_cons (pv 10) (pa_cons (pv 9) pa_nil))))) pa_nil))) (pe_op op_sub (pv 4) pe_int) (fun _ _ => rfl)) pa_nil))))) pss_nil)
    (pss_one (ps_ret (pe_tup (pa_cons (pv 6) (pa_cons (pe_ix ix_list (pe_lst (pa_cons (pe_tup (pa_cons pe_str (pa_cons (pv 7) (pa_cons (pv 10) (pa_cons (pv 9) pa_nil))))) (pa_cons (pe_tup (pa_cons pe_str (pa_cons (pv 8) (pa_cons (pv 10) (pa_cons (pv 9) pa_nil))))) pa_nil))) (pe_op op_sub (pv 4) pe_int) (fun _ _ => rfl)) pa_nil))))))))))))))))), ?_⟩
  walk_at "kp0"
  walk_at "kp"
  refine draw_spc (by omega) fun way w1 hy0 hy1 => ?_
  walk_at "kp"
  refine rr_pow (by decide) ?_
  walk_at "kp"
  refine draw_spc (by omega) fun r1 w2 h10 h11 => ?_
  walk_at "kp"
  refine rr_pick (Q := fun d => ∃ m : Int, d = .int m ∧ 0 < m ∧ m ≤ 1000000000000) (by omega) (by show _ < (3 : Int); omega) (al_cons ⟨_, rfl, by decide, by decide⟩ (al_cons ⟨_, rfl, by decide, by decide⟩ (al_cons ⟨_, rfl, by decide, by decide⟩ al_nil))) ?_
  rintro d ⟨size, rfl, hs0, hs1⟩
  walk_at "kp"
  refine draw_spc (by omega) fun r2 w3 h20 h21 => ?_
  walk_at "kp"
  refine draw_spc (by omega) fun r3 w4 h30 h31 => ?_
  refine rr_name h30 (by omega) fun head hhd => ?_
  walk_at "kp"
  refine draw_spc (by omega) fun r4 w5 h40 h41 => ?_
  refine rr_name h40 (by omega) fun word hwd => ?_
  walk_at "kp"
  refine draw_spc (by omega) fun r5 w6 h50 h51 => ?_
  refine rr_pick (Q := fun d => ∃ t, d = .str t ∧ NoteOk t) h50 h51 (al_cons ⟨_, rfl, .inl rfl⟩ (al_cons ⟨_, rfl, .inl rfl⟩ (al_cons ⟨_, rfl, .inr (hws word hwd)⟩ al_nil))) ?_
  rintro d ⟨note, rfl, hnote⟩
  walk_at "kp"
  refine draw_spc (by omega) fun r6 w7 h60 h61 => ?_
  have hc : CoinsOk (1 + r6) := ⟨by omega, by omega⟩
  have hdate : 1 ≤ 1 + r2 ∧ 1 + r2 ≤ Y.days := ⟨by omega, by omega⟩
  have hhn : ∀ h ∈ [head], h ∈ Y.names := al_cons hhd al_nil
  walk_at "kp"
  refine ⟨fun e1 => ?_, fun e1 => ?_⟩
  · walk_at "kp"
    exact k (1 + r2, .give head (1 + r6) note) w7 ⟨hdate, ⟨hnok _ hhd, hc, hnote⟩, hhn, trivial⟩
  · have e1 := of_decide_eq_false e1
    walk_at "kp"
    refine ⟨fun e2 => ?_, fun e2 => ?_⟩
    · walk_at "kp"
      refine draw_spc (by omega) fun r7 w8 h70 h71 => ?_
      walk_at "kp"
      exact k (1 + r2, .hold head (1 + r6) (1 + r2 + 1 + r7) note) w8 ⟨hdate, ⟨hnok _ hhd, ⟨by omega, by omega⟩, hc, hnote⟩, hhn, ⟨by show 1 + r2 < 1 + r2 + 1 + r7; omega, by show 1 + r2 + 1 + r7 ≤ _; omega⟩⟩
    · have e2 := of_decide_eq_false e2
      walk_at "kp"
      refine ⟨fun e3 => ?_, fun e3 => ?_⟩
      · have e3 := of_decide_eq_true e3
        walk_at "kp"
        refine ⟨fun e4 => ?_, fun e4 => ?_⟩
        · have e4 := of_decide_eq_true e4
          walk_at "kp"
          refine re_lcF D.str Y.names D.str (fun n => !decide (n = head)) (by omega) ?_ ?_ ?_
          · walk_at "kp"
            exact ⟨.inl rfl, rfl⟩
          · intro x hx
            refine rgc_name (by simp) ?_
            walk_at "kp"
            first | exact ⟨rfl, fun _ => re_var rfl ⟨rfl, rfl⟩⟩ | exact ⟨rfl, rfl, fun _ => re_var rfl ⟨rfl, rfl⟩⟩ | exact fun _ => re_var rfl ⟨rfl, rfl⟩
          · have hop := others_pos (ns := Y.names) (h := head) (by unfold Yr.names; exact y.hd.nodup) (by omega)
            have hom : ∀ s ∈ Y.names.filter (fun n => !decide (n = head)), s ∈ Y.names ∧ head ≠ s := fun s hs => by
              obtain ⟨h1, h2⟩ := List.mem_filter.mp hs
              exact ⟨h1, fun z => by rw [z] at h2; simp at h2⟩
            have hlt : (Y.names.filter fun n => !decide (n = head)).length ≤ 8 := Nat.le_trans (List.length_filter_le _ _) hn1
            generalize Y.names.filter (fun n => !decide (n = head)) = others at hop hom hlt
            have hol : ((others.map D.str).length : Int) = others.length := by rw [List.length_map]
            walk_at "kp"
            refine draw_spc (by omega) fun r7 w8 h70 h71 => ?_
            refine rr_name h70 (by omega) fun other hot => ?_
            walk_at "kp"
            exact k (1 + r2, .move head other (1 + r6) note) w8 ⟨hdate, ⟨hnok _ hhd, hnok _ (hom _ hot).1, (hom _ hot).2, hc, hnote⟩, al_cons hhd (al_cons (hom _ hot).1 al_nil), trivial⟩
        · walk_at "kp"
          refine ⟨fun e5 => ?_, fun e5 => ?_⟩
          · walk_at "kp"
            exact k (1 + r2, .promise word head (1 + r6) note) w7 ⟨hdate, ⟨hws _ hwd, hnok _ hhd, hc, hnote⟩, hhn, trivial⟩
          · exact absurd (show way < 6 by omega) (of_decide_eq_false e5)
      · walk_at "kp"
        refine ⟨fun e5 => ?_, fun e5 => ?_⟩
        · walk_at "kp"
          exact k (1 + r2, .promise word head (1 + r6) note) w7 ⟨hdate, ⟨hws _ hwd, hnok _ hhd, hc, hnote⟩, hhn, trivial⟩
        · have e5 := of_decide_eq_false e5
          walk_at "kp"
          refine ⟨fun e6 => ?_, fun e6 => ?_⟩
          · have e6 := of_decide_eq_true e6
            walk_at "kp"
            refine rr_pick (Q := fun d => ∃ e, d = encT e ∧ RowOk Y (1 + r2, e)) (by omega) (by show _ < (2 : Int); omega) (al_cons ⟨.lessen word (1 + r6) note, rfl, hdate, ⟨hws _ hwd, hc, hnote⟩, al_nil, trivial⟩ (al_cons ⟨.out word (1 + r6) note, rfl, hdate, ⟨hws _ hwd, hc, hnote⟩, al_nil, trivial⟩ al_nil)) ?_
            rintro d ⟨e, rfl, ok⟩
            walk_at "kp"
            exact k (1 + r2, e) w7 ok
          · have e6 := of_decide_eq_false e6
            walk_at "kp"
            refine rr_pick (Q := fun d => ∃ e, d = encT e ∧ RowOk Y (1 + r2, e)) (by omega) (by show _ < (2 : Int); omega) (al_cons ⟨.spend head (1 + r6) note, rfl, hdate, ⟨hnok _ hhd, hc, hnote⟩, hhn, trivial⟩ (al_cons ⟨.out word (1 + r6) note, rfl, hdate, ⟨hws _ hwd, hc, hnote⟩, al_nil, trivial⟩ al_nil)) ?_
            rintro d ⟨e, rfl, ok⟩
            walk_at "kp"
            exact k (1 + r2, e) w7 ok


end
end Kp

set_option maxHeartbeats 4000000
namespace Kp
open PySem PySem.Spec PyProof.Rows L2
local macro_rules | `(tactic| walk_at "kp0") => `(tactic| try dsimp only [cxOf, Cx.nox, Cx.wish])
local macro_rules | `(tactic| walk_at "kp1") => `(tactic| first
  | with_reducible refine rr_strF (by decide +kernel) ?_
  | with_reducible refine rr_strT ?_
  | with_reducible refine rs_seq ?_
  | with_reducible refine re_var rfl ?_
  | with_reducible refine re_int ?_
  | with_reducible refine re_str ?_
  | with_reducible refine re_op ?_
  | with_reducible refine re_cb ?_
  | with_reducible refine ra_cons ?_
  | ((with_reducible refine ra_nil ?_); first
      | refine Exists.intro _ ⟨rfl, ?_⟩
      | refine ⟨_, _, rfl, ?_⟩
      | refine ⟨_, _, _, rfl, ?_⟩
      | refine ⟨_, _, _, _, rfl, ?_⟩
      | refine ⟨_, _, _, _, _, rfl, ?_⟩
      | refine ⟨_, _, _, _, _, _, rfl, ?_⟩
      | refine And.intro rfl ?_)
  | with_reducible refine ra_nil ?_
  | with_reducible refine rs_ret ?_
  | with_reducible refine rs_asg ?_
  | with_reducible refine rg_name ?_
  | with_reducible refine rs_if ?_
  | with_reducible refine rt_test ?_
  | with_reducible refine rt_B ?_
  | with_reducible refine re_call ?_
  | with_reducible refine rr_int0 ?_
  | with_reducible refine rr_bl0 ?_
  | with_reducible refine rr_I0 rfl ?_
  | with_reducible refine re_bl ?_
  | with_reducible refine re_non ?_
  | with_reducible refine re_ty ?_
  | with_reducible refine re_ref ?_
  | with_reducible refine rs_drop ?_
  | with_reducible refine re_chain ?_
  | with_reducible refine re_andV ?_
  | with_reducible refine re_orV ?_
  | with_reducible refine re_notV ?_
  | with_reducible refine rt_not ?_
  | with_reducible refine rt_and ?_
  | with_reducible refine rt_or ?_
  | with_reducible refine rs_next ?_
  | with_reducible refine rs_cont ?_
  | with_reducible refine rs_break ?_
  | with_reducible refine rs_retN ?_
  | with_reducible refine rr_eq rfl ?_
  | with_reducible refine rr_ne rfl ?_
  | with_reducible refine rr_mulR (by omega) ?_
  | with_reducible refine rr_mulL (by omega) ?_
  | with_reducible refine rr_mod (by omega) ?_
  | with_reducible refine rr_fdiv (by omega) ?_
  | with_reducible refine ro_none ?_
  | with_reducible refine ro_some ?_
  | with_reducible refine re_tup ?_
  | with_reducible refine rg_tup tupD1 rfl ?_
  | with_reducible refine rgs_cons ?_
  | with_reducible refine rgs_nil ?_
  | with_reducible refine rr_ixT0 ?_
  | with_reducible refine rr_ixT1 ?_
  | with_reducible refine rr_ixT2 ?_
  | with_reducible refine rr_ixT3 ?_
  | with_reducible refine rr_ixT4 ?_
  | with_reducible refine rr_ixT5 ?_
  | with_reducible refine rr_isN ?_
  | with_reducible refine rr_notN ?_
  | with_reducible refine rcI1 ?_
  | with_reducible refine rcI2 ?_
  | with_reducible refine rcI3 ?_
  | with_reducible refine rcI4 ?_
  | with_reducible refine rcI5 ?_
  | with_reducible refine rc_listL ?_
  | with_reducible refine rc_lenL ?_
  | with_reducible refine rc_lenT ?_
  | with_reducible refine rc_min2 ?_
  | with_reducible refine rc_intB ?_
  | with_reducible refine re_strip ?_
  | with_reducible refine re_lst (tA := tCons _ _) ?_
  | with_reducible refine re_fld ?_
  | with_reducible refine rs_fld ?_
  | with_reducible refine re_meth ?_
  | with_reducible exact rfl
  | with_reducible refine andT ?_
  | with_reducible refine andF ?_
  | refine Exists.intro _ ⟨rfl, ?_⟩
  | refine andT ?_
  | refine andF ?_
  | assumption
  | refine And.intro rfl ?_
  | refine And.intro (by assumption) ?_
  | with_reducible refine And.intro (Nat.le_of_ble_eq_true rfl) ?_
  | with_reducible refine And.intro (by omega) ?_)
local macro_rules | `(tactic| walk_at "kp") => `(tactic| repeat (walk_at "kp1"))
section
variable {P : Program} {w : World} {K : PySem.W.Frag} {mg : Str → Option Value} {base : Heap}
theorem rr_strT {M : Mem} {Pd : D → Mem → Prop} {s : Str} (p : Pd (.bl true) M) : RR K rEq (.str s) (.str s) M Pd := rr_eq (k := true) (by simp [scD]) p
theorem rr_strF {M : Mem} {Pd : D → Mem → Prop} {s z : Str} (h : s ≠ z) (p : Pd (.bl false) M) : RR K rEq (.str s) (.str z) M Pd := rr_eq (k := false) (by simp [scD, h]) p
def spc_l_entry (K : PySem.W.Frag) : Spc := fun ds M Pc => ∃ (e : Ent), ds = [encT e] ∧ EOk e ∧ Pc (encE K e) M
theorem len_l_entry (ds : List D) (M : Mem) (Pc : D → Mem → Prop) (h : spc_l_entry K ds M Pc) : ds.length = 1 := by
  obtain ⟨_, rfl, _⟩ := h
  rfl
abbrev nm_l_entry : List Str := ["_law_told", "_law_word"]
theorem sc_l_entry : FnScope nm_l_entry ["_law_told"] (defScope s_l_entry) := ⟨rfl, rfl, rfl, by decide +kernel, rfl, by decide +kernel, by decide +kernel⟩
theorem ok_l_entry (TX : Txt K mg base) : Kept P w K mg base 6 (He.fAd K ("_law_entry", none)) ["_law_told"] (spc_l_entry K) := by
  obtain ⟨fd_Give_init, G_Give_init, kp_Give_init, b_Give_init⟩ := ok_Give_init (P := P) (w := w) TX
  obtain ⟨fd_Hold_init, G_Hold_init, kp_Hold_init, b_Hold_init⟩ := ok_Hold_init (P := P) (w := w) TX
  obtain ⟨fd_Move_init, G_Move_init, kp_Move_init, b_Move_init⟩ := ok_Move_init (P := P) (w := w) TX
  obtain ⟨fd_Spend_init, G_Spend_init, kp_Spend_init, b_Spend_init⟩ := ok_Spend_init (P := P) (w := w) TX
  obtain ⟨fd_Promise_init, G_Promise_init, kp_Promise_init, b_Promise_init⟩ := ok_Promise_init (P := P) (w := w) TX
  obtain ⟨fd_Lessen_init, G_Lessen_init, kp_Lessen_init, b_Lessen_init⟩ := ok_Lessen_init (P := P) (w := w) TX
  obtain ⟨fd_Out_init, G_Out_init, kp_Out_init, b_Out_init⟩ := ok_Out_init (P := P) (w := w) TX
  refine okD (fn_l_entry TX) sc_l_entry (fun _ _ _ _ _ _ us hl => match us, hl with | [_], _ => rfl) len_l_entry fun cdv A outer s H E hr ds M Pc h => ?_
  obtain ⟨e, rfl, ok, kk⟩ := h
  refine ⟨_, (pss_cons (ps_set (i := 1) sc_l_entry.nd rfl (Or.inl rfl) (pe_ix ix_tup (pv 0) pe_int (fun _ _ => rfl)))
    (pss_cons (ps_if (pt_cmpR op_eq (pv 1) pe_str (nomark _)) (pss_one (ps_ret (pe_make (mk_Give TX) G_Give_init (hr.mono (by decide)) rfl (g_Give TX) b_Give_init .nil pass0 (pa_cons (pe_ix ix_tup (pv 0) pe_int (fun _ _ => rfl)) (pa_cons (pe_ix ix_tup (pv 0) pe_int (fun _ _ => rfl)) (pa_cons (pe_ix ix_tup (pv 0) pe_int (fun _ _ => rfl)) pa_nil)))))) pss_nil)
    (pss_cons (ps_if (pt_cmpR op_eq (pv 1) pe_str (nomark _)) (pss_one (ps_ret (pe_make (mk_Hold TX) G_Hold_init (hr.mono (by decide)) rfl (g_Hold TX) b_Hold_init .nil pass0 (pa_cons (pe_ix ix_tup (pv 0) pe_int (fun _ _ => rfl)) (pa_cons (pe_ix ix_tup (pv 0) pe_int (fun _ _ => rfl)) (pa_cons (pe_ix ix_tup (pv 0) pe_int (fun _ _ => rfl)) (pa_cons (pe_ix ix_tup (pv 0) pe_int (fun _ _ => rfl)) pa_nil))))))) pss_nil)
    (pss_cons (ps_if (pt_cmpR op_eq (pv 1) pe_str (nomark _)) (pss_one (ps_ret (pe_make (mk_Move TX) G_Move_init (hr.mono (by decide)) rfl (g_Move TX) b_Move_init .nil pass0 (pa_cons (pe_ix ix_tup (pv 0) pe_int (fun _ _ => rfl)) (pa_cons (pe_ix ix_tup (pv 0) pe_int (fun _ _ => rfl)) (pa_cons (pe_ix ix_tup (pv 0) pe_int (fun _ _ => rfl)) (pa_cons (pe_ix ix_tup (pv 0) pe_int (fun _ _ => rfl)) pa_nil))))))) pss_nil)
    (pss_cons (ps_if (pt_cmpR op_eq (pv 1) pe_str (nomark _)) (pss_one (ps_ret (pe_make (mk_Spend TX) G_Spend_init (hr.mono (by decide)) rfl (g_Spend TX) b_Spend_init .nil pass0 (pa_cons (pe_ix ix_tup (pv 0) pe_int (fun _ _ => rfl)) (pa_cons (pe_ix ix_tup (pv 0) pe_int (fun _ _ => rfl)) (pa_cons (pe_ix ix_tup (pv 0) pe_int (fun _ _ => rfl)) pa_nil)))))) pss_nil)
    (pss_cons (ps_if (pt_cmpR op_eq (pv 1) pe_str (nomark _)) (pss_one (ps_ret (pe_make (mk_Promise TX) G_Promise_init (hr.mono (by decide)) rfl (g_Promise TX) b_Promise_init .nil pass0 (pa_cons (pe_ix ix_tup (pv 0) pe_int (fun _ _ => rfl)) (pa_cons (pe_ix ix_tup (pv 0) pe_int (fun _ _ => rfl)) (pa_cons (pe_ix ix_tup (pv 0) pe_int (fun _ _ => rfl)) (pa_cons (pe_ix ix_tup (pv 0) pe_int (fun _ _ => rfl)) pa_nil))))))) pss_nil)
    (pss_cons (ps_if (pt_cmpR op_eq (pv 1) pe_str (nomark _)) (pss_one (ps_ret (pe_make (mk_Lessen TX) G_Lessen_init (hr.mono (by decide)) rfl (g_Lessen TX) b_Lessen_init .nil pass0 (pa_cons (pe_ix ix_tup (pv 0) pe_int (fun _ _ => rfl)) (pa_cons (pe_ix ix_tup (pv 0) pe_int (fun _ _ => rfl)) (pa_cons (pe_ix ix_tup (pv 0) pe_int (fun _ _ => rfl)) pa_nil)))))) pss_nil)
    (pss_one (ps_ret (pe_make (mk_Out TX) G_Out_init (hr.mono (by decide)) rfl (g_Out TX) b_Out_init .nil pass0 (pa_cons (pe_ix ix_tup (pv 0) pe_int (fun _ _ => rfl)) (pa_cons (pe_ix ix_tup (pv 0) pe_int (fun _ _ => rfl)) (pa_cons (pe_ix ix_tup (pv 0) pe_int (fun _ _ => rfl)) pa_nil))))))))))))), ?_⟩
  cases e with
  | give h c n =>
    unfold encT
    walk_at "kp0"
    walk_at "kp"
    refine re_frz (re_make ?_)
    walk_at "kp"
    intro p hp
    refine ⟨p, h, c, n, rfl, mset_same, ok.1, ok.2.1, ok.2.2, rfl, ?_⟩
    rw [mset_mset]
    refine ⟨_, _, Frz.ins mset_same, ?_⟩
    rw [mdel_mset hp]
    exact kk
  | hold h c u n =>
    unfold encT
    walk_at "kp0"
    walk_at "kp"
    refine re_frz (re_make ?_)
    walk_at "kp"
    intro p hp
    refine ⟨p, h, c, u, n, rfl, mset_same, ok.1, ok.2.1, ok.2.2.1, ok.2.2.2, rfl, ?_⟩
    rw [mset_mset]
    refine ⟨_, _, Frz.ins mset_same, ?_⟩
    rw [mdel_mset hp]
    exact kk
  | move h o c n =>
    unfold encT
    walk_at "kp0"
    walk_at "kp"
    refine re_frz (re_make ?_)
    walk_at "kp"
    intro p hp
    refine ⟨p, h, o, c, n, rfl, mset_same, ok.1, ok.2.1, ok.2.2.1, ok.2.2.2.1, ok.2.2.2.2, rfl, ?_⟩
    rw [mset_mset]
    refine ⟨_, _, Frz.ins mset_same, ?_⟩
    rw [mdel_mset hp]
    exact kk
  | spend h c n =>
    unfold encT
    walk_at "kp0"
    walk_at "kp"
    refine re_frz (re_make ?_)
    walk_at "kp"
    intro p hp
    refine ⟨p, h, c, n, rfl, mset_same, ok.1, ok.2.1, ok.2.2, rfl, ?_⟩
    rw [mset_mset]
    refine ⟨_, _, Frz.ins mset_same, ?_⟩
    rw [mdel_mset hp]
    exact kk
  | promise w h c n =>
    unfold encT
    walk_at "kp0"
    walk_at "kp"
    refine re_frz (re_make ?_)
    walk_at "kp"
    intro p hp
    refine ⟨p, w, h, c, n, rfl, mset_same, ok.1, ok.2.1, ok.2.2.1, ok.2.2.2, rfl, ?_⟩
    rw [mset_mset]
    refine ⟨_, _, Frz.ins mset_same, ?_⟩
    rw [mdel_mset hp]
    exact kk
  | lessen w c n =>
    unfold encT
    walk_at "kp0"
    walk_at "kp"
    refine re_frz (re_make ?_)
    walk_at "kp"
    intro p hp
    refine ⟨p, w, c, n, rfl, mset_same, ok.1, ok.2.1, ok.2.2, rfl, ?_⟩
    rw [mset_mset]
    refine ⟨_, _, Frz.ins mset_same, ?_⟩
    rw [mdel_mset hp]
    exact kk
  | out w c n =>
    unfold encT
    walk_at "kp0"
    walk_at "kp"
    refine re_frz (re_make ?_)
    walk_at "kp"
    intro p hp
    refine ⟨p, w, c, n, rfl, mset_same, ok.1, ok.2.1, ok.2.2, rfl, ?_⟩
    rw [mset_mset]
    refine ⟨_, _, Frz.ins mset_same, ?_⟩
    rw [mdel_mset hp]
    exact kk


end
end Kp

set_option maxHeartbeats 4000000
namespace Kp
open PySem PySem.Spec PyProof.Rows L2
local macro_rules | `(tactic| walk_at "kp0") => `(tactic| try dsimp only [cxOf, Cx.nox, Cx.wish])
local macro_rules | `(tactic| walk_at "kp1") => `(tactic| first
  | with_reducible refine rs_seq ?_
  | with_reducible refine re_var rfl ?_
  | with_reducible refine re_int ?_
  | with_reducible refine re_str ?_
  | with_reducible refine re_op ?_
  | with_reducible refine re_cb ?_
  | with_reducible refine ra_cons ?_
  | ((with_reducible refine ra_nil ?_); first
      | refine Exists.intro _ ⟨rfl, ?_⟩
      | refine ⟨_, _, rfl, ?_⟩
      | refine ⟨_, _, _, rfl, ?_⟩
      | refine ⟨_, _, _, _, rfl, ?_⟩
      | refine ⟨_, _, _, _, _, rfl, ?_⟩
      | refine ⟨_, _, _, _, _, _, rfl, ?_⟩
      | refine And.intro rfl ?_)
  | with_reducible refine ra_nil ?_
  | with_reducible refine rs_ret ?_
  | with_reducible refine rs_asg ?_
  | with_reducible refine rg_name ?_
  | with_reducible refine rs_if ?_
  | with_reducible refine rt_test ?_
  | with_reducible refine rt_B ?_
  | with_reducible refine re_call ?_
  | with_reducible refine rr_int0 ?_
  | with_reducible refine rr_bl0 ?_
  | with_reducible refine rr_I0 rfl ?_
  | with_reducible refine re_bl ?_
  | with_reducible refine re_non ?_
  | with_reducible refine re_ty ?_
  | with_reducible refine re_ref ?_
  | with_reducible refine rs_drop ?_
  | with_reducible refine re_chain ?_
  | with_reducible refine re_andV ?_
  | with_reducible refine re_orV ?_
  | with_reducible refine re_notV ?_
  | with_reducible refine rt_not ?_
  | with_reducible refine rt_and ?_
  | with_reducible refine rt_or ?_
  | with_reducible refine rs_next ?_
  | with_reducible refine rs_cont ?_
  | with_reducible refine rs_break ?_
  | with_reducible refine rs_retN ?_
  | with_reducible refine rr_eq rfl ?_
  | with_reducible refine rr_ne rfl ?_
  | with_reducible refine rr_mulR (by omega) ?_
  | with_reducible refine rr_mulL (by omega) ?_
  | with_reducible refine rr_mod (by omega) ?_
  | with_reducible refine rr_fdiv (by omega) ?_
  | with_reducible refine ro_none ?_
  | with_reducible refine ro_some ?_
  | with_reducible refine re_tup ?_
  | with_reducible refine rg_tup tupD1 rfl ?_
  | with_reducible refine rgs_cons ?_
  | with_reducible refine rgs_nil ?_
  | with_reducible refine rr_ixT0 ?_
  | with_reducible refine rr_ixT1 ?_
  | with_reducible refine rr_ixT2 ?_
  | with_reducible refine rr_ixT3 ?_
  | with_reducible refine rr_ixT4 ?_
  | with_reducible refine rr_ixT5 ?_
  | with_reducible refine rr_isN ?_
  | with_reducible refine rr_notN ?_
  | with_reducible refine rcI1 ?_
  | with_reducible refine rcI2 ?_
  | with_reducible refine rcI3 ?_
  | with_reducible refine rcI4 ?_
  | with_reducible refine rcI5 ?_
  | with_reducible refine rc_listL ?_
  | with_reducible refine rc_lenL ?_
  | with_reducible refine rc_lenT ?_
  | with_reducible refine rc_min2 ?_
  | with_reducible refine rc_intB ?_
  | with_reducible refine re_strip ?_
  | with_reducible refine re_lst (tA := tCons _ _) ?_
  | with_reducible refine re_fld ?_
  | with_reducible refine rs_fld ?_
  | with_reducible refine re_meth ?_
  | with_reducible exact rfl
  | with_reducible refine andT ?_
  | with_reducible refine andF ?_
  | refine Exists.intro _ ⟨rfl, ?_⟩
  | refine andT ?_
  | refine andF ?_
  | assumption
  | refine And.intro rfl ?_
  | refine And.intro (by assumption) ?_
  | with_reducible refine And.intro (Nat.le_of_ble_eq_true rfl) ?_
  | with_reducible refine And.intro (by omega) ?_)
local macro_rules | `(tactic| walk_at "kp") => `(tactic| repeat (walk_at "kp1"))
section
variable {P : Program} {w : World} {K : PySem.W.Frag} {mg : Str → Option Value} {base : Heap}
def spc_l_made (K : PySem.W.Frag) : Spc := fun ds M Pc => ∃ (Y : Yr) (rows : List Row), ds = [encYL Y, .lst (rows.map encRT)] ∧ YGood Y ∧ rows.length ≤ 40 ∧ (∀ r ∈ rows, RowOk Y r) ∧ ∀ fs, DateF fs (encB (breachS Y rows)) → Pc (.ins (He.ga K "Dated") fs) m0
theorem len_l_made (ds : List D) (M : Mem) (Pc : D → Mem → Prop) (h : spc_l_made K ds M Pc) : ds.length = 2 := by
  obtain ⟨_, _, rfl, _⟩ := h
  rfl
abbrev nm_l_made : List Str := ["_law_year_here", "_law_rows_here", "_law_days", "_law_heads", "_law_limits_here", "_law_rules_here", "_law_one", "_law_date", "_law_told"]
theorem sc_l_made : FnScope nm_l_made ["_law_year_here", "_law_rows_here"] (defScope s_l_made) := ⟨rfl, rfl, rfl, by decide +kernel, rfl, by decide +kernel, by decide +kernel⟩
theorem ok_l_made (TX : Txt K mg base) : Kept P w K mg base 9 (He.fAd K ("_law_made", none)) ["_law_year_here", "_law_rows_here"] (spc_l_made K) := by
  obtain ⟨fd_Year_init, G_Year_init, kp_Year_init, b_Year_init⟩ := ok_Year_init (P := P) (w := w) TX
  obtain ⟨fd_Dated_init, G_Dated_init, kp_Dated_init, b_Dated_init⟩ := ok_Dated_init (P := P) (w := w) TX
  obtain ⟨fd_l_entry, G_l_entry, kp_l_entry, b_l_entry⟩ := ok_l_entry (P := P) (w := w) TX
  refine okD (fn_l_made TX) sc_l_made (fun _ _ _ _ _ _ us hl => match us, hl with | [_, _], _ => rfl) len_l_made fun cdv A outer s H E hr ds M Pc h => ?_
  obtain ⟨Y, rows, rfl, y, hlen, hro, k⟩ := h
  refine ⟨_, (pss_cons (ps_asg (pv 0) (pg_tup rfl (pgs_cons (pg_name (i := 2) sc_l_made.nd rfl (Or.inl rfl)) (pgs_cons (pg_name (i := 3) sc_l_made.nd rfl (Or.inl rfl)) (pgs_cons (pg_name (i := 4) sc_l_made.nd rfl (Or.inl rfl)) (pgs_cons (pg_name (i := 5) sc_l_made.nd rfl (Or.inl rfl)) pgs_nil))))))
    (pss_cons (ps_set (i := 6) sc_l_made.nd rfl (Or.inl rfl) (pe_make (mk_Year TX) G_Year_init (hr.mono (by decide)) rfl (g_Year TX) b_Year_init .nil pass0 (pa_cons (pv 2) (pa_cons (pe_callTy call_list_of rfl (n_list TX) (by decide +kernel) (pa_cons (pv 3) pa_nil)) (pa_cons (pe_callTy call_list_of rfl (n_list TX) (by decide +kernel) (pa_cons (pv 4) pa_nil)) (pa_cons (pe_callTy call_list_of rfl (n_list TX) (by decide +kernel) (pa_cons (pv 5) pa_nil)) pa_nil))))))
    (pss_one (ps_ret (pe_make (mk_Dated TX) G_Dated_init (hr.mono (by decide)) rfl (g_Dated TX) b_Dated_init .nil pass0 (pa_cons (pv 6) (pa_cons (pe_lc (own := [("_law_date", 7), ("_law_told", 8)]) (g := gTup K 2 (gCons (gName 7) (gCons (gName 8) gNil))) rfl sc_l_made.nd (pi_list (pv 1)) (blkOk_by (N := nm_l_made) (sc := defScope s_l_made) (by decide +kernel)) (fun _ _ _ _ _ => pg_tup rfl (pgs_cons (pg_name (i := 7) sc_l_made.nd rfl (Or.inl rfl)) (pgs_cons (pg_name (i := 8) sc_l_made.nd rfl (Or.inl rfl)) pgs_nil))) (fun _ _ _ _ _ => pts_nil) (fun _ _ _ _ _ => (pe_tup (pa_cons (pv 7) (pa_cons (pe_call G_l_entry (hr.mono (by decide)) rfl (g__law_entry TX) kp_l_entry b_l_entry .nil pass0 (pa_cons (pv 8) pa_nil)) pa_nil))))) pa_nil))))))), ?_⟩
  unfold encYL
  walk_at "kp0"
  walk_at "kp"
  refine re_frz (re_make ?_)
  walk_at "kp"
  intro p hp
  refine ⟨p, Y, rfl, mset_same, y, rfl, ?_⟩
  rw [mset_mset]
  refine ⟨_, _, Frz.ins mset_same, ?_⟩
  rw [mdel_mset hp]
  walk_at "kp"
  refine re_less (re_frz (re_make ?_))
  walk_at "kp"
  refine re_lcM encRT rows (encR K) (by omega) ?_ ?_ ?_
  · walk_at "kp"
    exact ⟨.inl rfl, rfl⟩
  · intro r hr
    refine rgc_pair (by simp) (by simp) tupD1 ?_
    walk_at "kp"
    refine ⟨(hro r hr).2.1, ?_⟩
    walk_at "kp"
    try exact ⟨rfl, rfl⟩
  · walk_at "kp"
    intro a ha
    refine ⟨a, Y, rows, rfl, mset_same, y, hlen, hro, fun M' fs h1 h2 => ⟨rfl, _, _, Frz.ins h1, m0, fun a c z => (by cases z), k fs h2⟩⟩


end
end Kp

set_option maxHeartbeats 4000000
namespace Kp
open PySem PySem.Spec PyProof.Rows L2
local macro_rules | `(tactic| walk_at "kp0") => `(tactic| try dsimp only [cxOf, Cx.nox, Cx.wish])
local macro_rules | `(tactic| walk_at "kp1") => `(tactic| first
  | with_reducible refine rs_seq ?_
  | with_reducible refine re_var rfl ?_
  | with_reducible refine re_int ?_
  | with_reducible refine re_str ?_
  | with_reducible refine re_op ?_
  | with_reducible refine re_cb ?_
  | with_reducible refine ra_cons ?_
  | ((with_reducible refine ra_nil ?_); first
      | refine Exists.intro _ ⟨rfl, ?_⟩
      | refine ⟨_, _, rfl, ?_⟩
      | refine ⟨_, _, _, rfl, ?_⟩
      | refine ⟨_, _, _, _, rfl, ?_⟩
      | refine ⟨_, _, _, _, _, rfl, ?_⟩
      | refine ⟨_, _, _, _, _, _, rfl, ?_⟩
      | refine And.intro rfl ?_)
  | with_reducible refine ra_nil ?_
  | with_reducible refine rs_ret ?_
  | with_reducible refine rs_asg ?_
  | with_reducible refine rg_name ?_
  | with_reducible refine rs_if ?_
  | with_reducible refine rt_test ?_
  | with_reducible refine rt_B ?_
  | with_reducible refine re_call ?_
  | with_reducible refine rr_int0 ?_
  | with_reducible refine rr_bl0 ?_
  | with_reducible refine rr_I0 rfl ?_
  | with_reducible refine re_bl ?_
  | with_reducible refine re_non ?_
  | with_reducible refine re_ty ?_
  | with_reducible refine re_ref ?_
  | with_reducible refine rs_drop ?_
  | with_reducible refine re_chain ?_
  | with_reducible refine re_andV ?_
  | with_reducible refine re_orV ?_
  | with_reducible refine re_notV ?_
  | with_reducible refine rt_not ?_
  | with_reducible refine rt_and ?_
  | with_reducible refine rt_or ?_
  | with_reducible refine rs_next ?_
  | with_reducible refine rs_cont ?_
  | with_reducible refine rs_break ?_
  | with_reducible refine rs_retN ?_
  | with_reducible refine rr_eq rfl ?_
  | with_reducible refine rr_ne rfl ?_
  | with_reducible refine rr_mulR (by omega) ?_
  | with_reducible refine rr_mulL (by omega) ?_
  | with_reducible refine rr_mod (by omega) ?_
  | with_reducible refine rr_fdiv (by omega) ?_
  | with_reducible refine ro_none ?_
  | with_reducible refine ro_some ?_
  | with_reducible refine re_tup ?_
  | with_reducible refine rg_tup tupD1 rfl ?_
  | with_reducible refine rgs_cons ?_
  | with_reducible refine rgs_nil ?_
  | with_reducible refine rr_ixT0 ?_
  | with_reducible refine rr_ixT1 ?_
  | with_reducible refine rr_ixT2 ?_
  | with_reducible refine rr_ixT3 ?_
  | with_reducible refine rr_ixT4 ?_
  | with_reducible refine rr_ixT5 ?_
  | with_reducible refine rr_isN ?_
  | with_reducible refine rr_notN ?_
  | with_reducible refine rcI1 ?_
  | with_reducible refine rcI2 ?_
  | with_reducible refine rcI3 ?_
  | with_reducible refine rcI4 ?_
  | with_reducible refine rcI5 ?_
  | with_reducible refine rc_listL ?_
  | with_reducible refine rc_lenL ?_
  | with_reducible refine rc_lenT ?_
  | with_reducible refine rc_min2 ?_
  | with_reducible refine rc_intB ?_
  | with_reducible refine re_strip ?_
  | with_reducible refine re_lst (tA := tCons _ _) ?_
  | with_reducible refine re_fld ?_
  | with_reducible refine rs_fld ?_
  | with_reducible refine re_meth ?_
  | with_reducible exact rfl
  | with_reducible refine andT ?_
  | with_reducible refine andF ?_
  | refine Exists.intro _ ⟨rfl, ?_⟩
  | refine andT ?_
  | refine andF ?_
  | assumption
  | refine And.intro rfl ?_
  | refine And.intro (by assumption) ?_
  | with_reducible refine And.intro (Nat.le_of_ble_eq_true rfl) ?_
  | with_reducible refine And.intro (by omega) ?_)
local macro_rules | `(tactic| walk_at "kp") => `(tactic| repeat (walk_at "kp1"))
section
variable {P : Program} {w : World} {K : PySem.W.Frag} {mg : Str → Option Value} {base : Heap}
section
variable {I I' I1 F F' H H' : Hp} {M M' m r : Mem} {p : Addr} {d : D} {vs : List V} {ds : List D} {σ : L2.St} {δ : DEnv} {P : D → Mem → Prop} {tA : TA} {te tl : TE} {g : TG} {t : TT}
/-- [e for x in xs if t], the list a cell -/
theorem re_lcCI {X : Type} {ws : List Nat} (enc : X → D) (xs : List X) (Inv : List X → List D → Mem → Prop) (hz : xs.length ≤ 100000) (h : RE K tl δ M fun d M1 => LstI d (xs.map enc) ∧ Inv [] [] M1)
    (hs : ∀ pre x post acc M', xs = pre ++ x :: post → Inv pre acc M' → RGc K ws g (enc x) (wipeD δ ws) M' fun δ2 M2 => RT K t δ2 M2 fun b M3 => (b = true → RE K te δ2 M3 fun y M4 => Inv (pre ++ [x]) (acc ++ [y]) M4) ∧ (b = false → Inv (pre ++ [x]) acc M3))
    (hd : ∀ acc M' p, acc.length ≤ xs.length → Inv xs acc M' → M' p = none → P (.ref p) (mset M' p (.lst acc))) : RE K (tLc (iList K tl) g t te ws) δ M P := fun σ I F H he hs' Q q =>
  h.use he hs' fun v d I1 M1 H1 e1 s1 r1 ⟨hl, h0⟩ => by
    obtain ⟨a, vs, rfl, hq, kk⟩ := hl.get r1
    have len : vs.length = xs.length := by rw [kk.length, List.length_map]
    refine ⟨a, rfl, ⟨vs, sameL s1.sub hq⟩, fun p hp => lc_list (fun i => Mid K I1 F p i (Inv (xs.take i))) (mid_start s1 hp (by rw [List.take_zero]; exact h0)) (fun i H' _ ⟨I', M', acc, av, e', s', _⟩ => sameL (e'.trans s'.sub) hq) ?_ ?_⟩
    · intro i w H' hi m
      have hi2 : i < xs.length := by rw [← len]; exact (List.getElem?_eq_some_iff.mp hi).1
      obtain ⟨q1, q2⟩ := split_at (List.getElem?_eq_getElem hi2)
      have hw : ∀ I', Same I1 I' → Is K I' w (enc xs[i]) := fun I' e' => by
        obtain ⟨w2, hw2, r2⟩ := kk.get (i := i) (d := enc xs[i]) (by rw [List.getElem?_map, List.getElem?_eq_getElem hi2]; rfl)
        rw [hi] at hw2
        cases hw2
        exact r2.mono e'
      rw [q2]
      exact mid_turn (by omega) (he.mono e1) m hw fun acc M' z => hs _ _ _ acc M' q1 z
    · intro H' m
      rw [len, List.take_length] at m
      exact mid_endC m (fun acc M' la z mp => hd acc M' p la z mp) fun v H' z => q v H' (z.up e1)
end
theorem cutD_map {α β : Type} (f : α → β) (xs : List α) (lo hi : Option Int) : cutD (xs.map f) lo hi = (cutD xs lo hi).map f := by
  unfold cutD
  rw [List.length_map, List.map_take, List.map_drop]
theorem cutD_len (xs : List Int) : (cutD xs (some 2) (some 34)).length ≤ 32 := by
  unfold cutD
  rw [List.length_take]
  have e1 := HT.sIx_nat xs.length xs.length 34
  have e2 := HT.sIx_nat xs.length 0 2
  rw [show ((34 : Nat) : Int) = 34 from rfl] at e1
  rw [show ((2 : Nat) : Int) = 2 from rfl] at e2
  rw [e1, e2]
  omega
def spc_l_rows (K : PySem.W.Frag) : Spc := fun ds M Pc => ∃ (ns : List Int) (Y : Yr), ds = [.rol (ns.map D.int), encYL Y, .int 1, .int 32] ∧ YGood Y ∧ ∀ rows : List Row, rows.length ≤ 40 → (∀ r ∈ rows, RowOk Y r) → Pc (.lst (rows.map encRT)) m0
theorem len_l_rows (ds : List D) (M : Mem) (Pc : D → Mem → Prop) (h : spc_l_rows K ds M Pc) : ds.length = 4 := by
  obtain ⟨_, _, rfl, _⟩ := h
  rfl
abbrev nm_l_rows : List Str := ["_law_script", "_law_year_here", "_law_first", "_law_most", "_law_well_here", "_law_rich", "_law_names_here", "_law_words", "_law_rows_here", "_law_cell", "_law_head", "_law_above", "_law_name"]
theorem sc_l_rows : FnScope nm_l_rows ["_law_script", "_law_year_here", "_law_first", "_law_most"] (defScope s_l_rows) := ⟨rfl, rfl, rfl, by decide +kernel, rfl, by decide +kernel, by decide +kernel⟩
theorem ok_l_rows (TX : Txt K mg base) : Kept P w K mg base 4 (He.fAd K ("_law_rows", none)) ["_law_script", "_law_year_here", "_law_first", "_law_most"] (spc_l_rows K) := by
  obtain ⟨fd_l_well, G_l_well, kp_l_well, b_l_well⟩ := ok_l_well (P := P) (w := w) TX
  obtain ⟨fd_l_cell_at, G_l_cell_at, kp_l_cell_at, b_l_cell_at⟩ := ok_l_cell_at (P := P) (w := w) TX
  obtain ⟨fd_l_draw, G_l_draw, kp_l_draw, b_l_draw⟩ := ok_l_draw (P := P) (w := w) TX
  obtain ⟨fd_l_names, G_l_names, kp_l_names, b_l_names⟩ := ok_l_names (P := P) (w := w) TX
  obtain ⟨fd_l_row, G_l_row, kp_l_row, b_l_row⟩ := ok_l_row (P := P) (w := w) TX
  refine okD (fn_l_rows TX) sc_l_rows (fun _ _ _ _ _ _ us hl => match us, hl with | [_, _, _, _], _ => rfl) len_l_rows fun cdv A outer s H E hr ds M Pc h => ?_
  obtain ⟨ns, Y, rfl, y, k⟩ := h
  have hn1 : Y.names.length ≤ 8 := by
    unfold Yr.names
    rw [List.length_map]
    exact y.hd.le
  have hnok : ∀ s ∈ Y.names, NameOk s := fun s hs => by
    obtain ⟨x, hx, rfl⟩ := List.mem_map.mp hs
    obtain ⟨pre, post, e⟩ := List.append_of_mem hx
    exact (y.hd.ok _ _ _ e).1
  refine ⟨_, (pss_cons (ps_set (i := 4) sc_l_rows.nd rfl (Or.inr rfl) (pe_call G_l_well (hr.mono (by decide)) rfl (g__law_well TX) kp_l_well b_l_well .nil pass0 (pa_cons (pe_call G_l_cell_at (hr.mono (by decide)) rfl (g__law_cell_at TX) kp_l_cell_at b_l_cell_at .nil pass0 (pa_cons (pv 0) (pa_cons (pv 2) pa_nil))) pa_nil)))
    (pss_cons (ps_set (i := 5) sc_l_rows.nd rfl (Or.inl rfl) (pe_cmpR op_gt (pe_call G_l_draw (hr.mono (by decide)) rfl (g__law_draw TX) kp_l_draw b_l_draw .nil pass0 (pa_cons (pv 4) (pa_cons pe_int pa_nil))) pe_int (nomark _)))
    (pss_cons (ps_setLc (i := 6) (own := [("_law_head", 10), ("_law_above", 11)]) (g := gTup K 2 (gCons (gName 10) (gCons (gName 11) gNil))) rfl sc_l_rows.nd rfl rfl (sw_true rfl rfl rfl (by decide +kernel)) (pi_list (pe_ix ix_tup (pv 1) pe_int (fun _ _ => rfl))) (blkOk_by (N := nm_l_rows) (sc := defScope s_l_rows) (by decide +kernel)) (fun _ _ _ _ _ => pg_tup rfl (pgs_cons (pg_name (i := 10) sc_l_rows.nd rfl (Or.inl rfl)) (pgs_cons (pg_name (i := 11) sc_l_rows.nd rfl (Or.inl rfl)) pgs_nil))) (fun _ _ _ _ _ => pts_nil) (fun _ _ _ _ _ => (pv 10)))
    (pss_cons (ps_set (i := 7) sc_l_rows.nd rfl (Or.inl rfl) (pe_call G_l_names (hr.mono (by decide)) rfl (g__law_names TX) kp_l_names b_l_names .nil pass0 (pa_cons (pv 4) (pa_cons (pe_op op_add pe_int (pe_call G_l_draw (hr.mono (by decide)) rfl (g__law_draw TX) kp_l_draw b_l_draw .nil pass0 (pa_cons (pv 4) (pa_cons pe_int pa_nil)))) pa_nil))))
    (pss_cons (ps_setLc (i := 8) (own := [("_law_name", 12)]) (g := gName 12) rfl sc_l_rows.nd rfl rfl (sw_true rfl rfl rfl (by decide +kernel)) (pi_list (pe_op op_rep (pv 6) (pe_callTy call_int1 rfl (n_int TX) (by decide +kernel) (pa_cons (pv 5) pa_nil)))) (blkOk_by (N := nm_l_rows) (sc := defScope s_l_rows) (by decide +kernel)) (fun _ _ _ _ _ => pg_name (i := 12) sc_l_rows.nd rfl (Or.inl rfl)) (fun _ _ _ _ _ => pts_nil) (fun _ _ _ _ _ => (pe_tup (pa_cons pe_int (pa_cons (pe_tup (pa_cons pe_str (pa_cons (pv 12) (pa_cons (pe_ix (kx_list (K := K)) (pe_lst (pa_cons (pe_op op_pow pe_int pe_int) (pa_cons (pe_op op_pow pe_int pe_int) pa_nil))) (pe_call G_l_draw (hr.mono (by decide)) rfl (g__law_draw TX) kp_l_draw b_l_draw .nil pass0 (pa_cons (pv 4) (pa_cons pe_int pa_nil))) (fun _ _ => rfl)) (pa_cons pe_str pa_nil))))) pa_nil)))))
    (pss_cons (ps_for PassesOwn.never rfl (pi_list (pe_slice sl_list (pv 0) (po_some (pe_op op_add (pv 2) pe_int)) (po_some (pe_op op_add (pe_op op_add (pv 2) pe_int) (pv 3))))) (pg_name (i := 9) sc_l_rows.nd rfl (Or.inl rfl))
    (pss_one (ps_expr (pe_bm PySem.F.plainAttrs_list PySem.F.slot_list_append PySem.F.type_list_append mt_append (pv 8) (pa_cons (pe_call G_l_row (hr.mono (by decide)) rfl (g__law_row TX) kp_l_row b_l_row .nil pass0 (pa_cons (pe_call G_l_well (hr.mono (by decide)) rfl (g__law_well TX) kp_l_well b_l_well .nil pass0 (pa_cons (pv 9) pa_nil)) (pa_cons (pv 6) (pa_cons (pv 7) (pa_cons (pe_ix ix_tup (pv 1) pe_int (fun _ _ => rfl)) pa_nil))))) pa_nil)))))
    (pss_one (ps_ret (pv 8))))))))), ?_⟩
  unfold encYL
  walk_at "kp0"
  walk_at "kp"
  intro i
  walk_at "kp"
  intro a w ha
  walk_at "kp"
  refine draw_spc (by omega) fun r1 w2 h10 h11 => ?_
  walk_at "kp"
  refine re_lcM encHd Y.heads (fun h => .str h.1) (by have := y.hd.le; omega) ?_ ?_ ?_
  · walk_at "kp"
    exact ⟨.inl rfl, rfl⟩
  · intro x hx
    refine rgc_pair (by simp) (by simp) tupD1 ?_
    walk_at "kp"
  rw [show Y.heads.map (fun h => D.str h.1) = Y.names.map D.str by unfold Yr.names; rw [List.map_map]; rfl]
  walk_at "kp"
  refine draw_spc (by omega) fun r2 w3 h20 h21 => ?_
  walk_at "kp"
  obtain ⟨N, hN⟩ : ∃ N : Nat, 1 + r2 = (N : Int) := ⟨(1 + r2).toNat, by omega⟩
  rw [hN]
  refine ⟨a, w3, N, M, rfl, rfl, by omega, fun ws w5 hl nd hok => ?_⟩
  have hN1 : (1 : Int) ≤ N := by omega
  have hN5 : N ≤ 5 := by omega
  walk_at "kp"
  obtain ⟨ns2, hns2, hm2, hl2⟩ : ∃ ns2 : List Str, (List.replicate ((if decide (0 < r1) = true then 1 else 0 : Int)).toNat (Y.names.map D.str)).flatten = ns2.map D.str ∧ (∀ s ∈ ns2, s ∈ Y.names) ∧ ns2.length ≤ 8 := by
    cases decide (0 < r1) with
    | true => exact ⟨Y.names, by simp, fun s h => h, hn1⟩
    | false => exact ⟨[], by simp, by simp, by simp⟩
  refine re_lcCI D.str ns2 (fun pre acc M' => ∃ (rows : List Row) (w : Int × Int × Int), acc = rows.map encRT ∧ M' = mset M a (wellC w) ∧ rows.length = pre.length ∧ ∀ r ∈ rows, RowOk Y r) (by omega) ?_ ?_ ?_
  · walk_at "kp"
    refine rr_rep (by split <;> decide) (by rw [List.length_map]; split <;> simp <;> omega) ?_
    rw [hns2]
    exact ⟨.inl rfl, [], w5, rfl, rfl, rfl, by simp⟩
  · rintro pre x post acc M' e ⟨rows, w, rfl, rfl, hlen, hro⟩
    have hx : x ∈ Y.names := hm2 x (by rw [e]; simp)
    refine rgc_name (by simp) ?_
    refine rt_yes ⟨fun _ => ?_, fun z => by cases z⟩
    walk_at "kp"
    refine rr_pow (by decide) ?_
    walk_at "kp"
    refine rr_pow (by decide) ?_
    walk_at "kp"
    refine draw_spc (by omega) fun r3 w6 h30 h31 => ?_
    refine rr_pick (Q := fun d => ∃ c : Int, d = .int c ∧ CoinsOk c) h30 h31 (al_cons ⟨_, rfl, by unfold CoinsOk; decide⟩ (al_cons ⟨_, rfl, by unfold CoinsOk; decide⟩ al_nil)) ?_
    rintro d ⟨c, rfl, hc⟩
    walk_at "kp"
    refine ⟨rows ++ [(1, .give x c "")], w6, by rw [List.map_append]; rfl, rfl, by rw [List.length_append, List.length_append, hlen]; rfl, fun r hr => ?_⟩
    rcases List.mem_append.mp hr with hr | hr
    · exact hro r hr
    · rw [List.mem_singleton.mp hr]
      exact ⟨⟨by show (1 : Int) ≤ 1; decide, y.d1⟩, ⟨hnok x hx, hc, .inl rfl⟩, al_cons hx al_nil, trivial⟩
  · rintro acc M' p _ ⟨rows, w, rfl, rfl, hlen, hro⟩ hp
    walk_at "kp"
    have hx : (cutD ns (some (1 + 1)) (some (1 + 1 + 32))).length ≤ 32 := cutD_len ns
    refine rs_for D.int (cutD ns (some (1 + 1)) (some (1 + 1 + 32))) (fun pre δ' M' => (∃ x1 x2 x3 : Option D, δ' = [some (.rol (ns.map D.int)), some (.tup [.int Y.days, .lst (Y.heads.map encHd), .lst (Y.limits.map encLm), .lst (Y.rules.map encLm)]), some (.int 1), some (.int 32), x1, x2, some (.lst (Y.names.map D.str)), some (.lst (ws.map D.str)), some (.ref p), x3, none, none, none]) ∧ ∃ rows : List Row, M' p = some (.lst (rows.map encRT)) ∧ rows.length ≤ 8 + pre.length ∧ ∀ r ∈ rows, RowOk Y r) ?_ ?_ ?_
    · refine re_slL ?_
      walk_at "kp"
      exact ⟨ns.map D.int, lstD2, .inl (by rw [cutD_map]), ⟨_, _, _, rfl⟩, rows, mset_same, by show _ ≤ 8; omega, hro⟩
    · rintro pre x post δ' M' e ⟨⟨x1, x2, x3, rfl⟩, rows, hp2, hl3, hro⟩
      have hpl : pre.length ≤ 31 := by
        have := congrArg List.length e
        rw [List.length_append, List.length_cons] at this
        omega
      walk_at "kp"
      refine re_append ?_
      walk_at "kp"
      refine ⟨⟨_, hp2⟩, ?_⟩
      walk_at "kp"
      intro a2 w2 ha2
      have hpa : p ≠ a2 := fun z => by rw [z, ha2] at hp2; cases hp2
      walk_at "kp"
      refine ⟨a2, w2, Y, ws, M', rfl, rfl, y, ⟨by omega, by omega⟩, hok, fun r w' hr => ?_⟩
      walk_at "kp"
      refine ⟨_, by rw [mset_ne hpa]; exact hp2, by rw [List.length_map]; omega, ⟨_, _, _, rfl⟩, rows ++ [r], by rw [mset_same, List.map_append]; rfl, by rw [List.length_append, List.length_append, List.length_singleton, List.length_singleton]; omega, fun r2 hr2 => ?_⟩
      rcases List.mem_append.mp hr2 with hr2 | hr2
      · exact hro r2 hr2
      · rw [List.mem_singleton.mp hr2]
        exact hr
    · rintro δ' M' ⟨⟨x1, x2, x3, rfl⟩, rows, hp2, hl3, hro⟩
      exact rs_ret (re_less (re_frz (re_var rfl ⟨_, _, Frz.lst hp2, m0, fun a c z => (by cases z), k rows (by omega) hro⟩)))


end
end Kp

set_option maxHeartbeats 4000000
namespace Kp
open PySem PySem.Spec PyProof.Rows L2
local macro_rules | `(tactic| walk_at "kp0") => `(tactic| try dsimp only [cxOf, Cx.nox, Cx.wish])
local macro_rules | `(tactic| walk_at "kp1") => `(tactic| first
  | with_reducible refine rs_seq ?_
  | with_reducible refine re_var rfl ?_
  | with_reducible refine re_int ?_
  | with_reducible refine re_str ?_
  | with_reducible refine re_op ?_
  | with_reducible refine re_cb ?_
  | with_reducible refine ra_cons ?_
  | ((with_reducible refine ra_nil ?_); first
      | refine Exists.intro _ ⟨rfl, ?_⟩
      | refine ⟨_, _, rfl, ?_⟩
      | refine ⟨_, _, _, rfl, ?_⟩
      | refine ⟨_, _, _, _, rfl, ?_⟩
      | refine ⟨_, _, _, _, _, rfl, ?_⟩
      | refine ⟨_, _, _, _, _, _, rfl, ?_⟩
      | refine And.intro rfl ?_)
  | with_reducible refine ra_nil ?_
  | with_reducible refine rs_ret ?_
  | with_reducible refine rs_asg ?_
  | with_reducible refine rg_name ?_
  | with_reducible refine rs_if ?_
  | with_reducible refine rt_test ?_
  | with_reducible refine rt_B ?_
  | with_reducible refine re_call ?_
  | with_reducible refine rr_int0 ?_
  | with_reducible refine rr_bl0 ?_
  | with_reducible refine rr_I0 rfl ?_
  | with_reducible refine re_bl ?_
  | with_reducible refine re_non ?_
  | with_reducible refine re_ty ?_
  | with_reducible refine re_ref ?_
  | with_reducible refine rs_drop ?_
  | with_reducible refine re_chain ?_
  | with_reducible refine re_andV ?_
  | with_reducible refine re_orV ?_
  | with_reducible refine re_notV ?_
  | with_reducible refine rt_not ?_
  | with_reducible refine rt_and ?_
  | with_reducible refine rt_or ?_
  | with_reducible refine rs_next ?_
  | with_reducible refine rs_cont ?_
  | with_reducible refine rs_break ?_
  | with_reducible refine rs_retN ?_
  | with_reducible refine rr_eq rfl ?_
  | with_reducible refine rr_ne rfl ?_
  | with_reducible refine rr_mulR (by omega) ?_
  | with_reducible refine rr_mulL (by omega) ?_
  | with_reducible refine rr_mod (by omega) ?_
  | with_reducible refine rr_fdiv (by omega) ?_
  | with_reducible refine ro_none ?_
  | with_reducible refine ro_some ?_
  | with_reducible refine re_tup ?_
  | with_reducible refine rg_tup tupD1 rfl ?_
  | with_reducible refine rgs_cons ?_
  | with_reducible refine rgs_nil ?_
  | with_reducible refine rr_ixT0 ?_
  | with_reducible refine rr_ixT1 ?_
  | with_reducible refine rr_ixT2 ?_
  | with_reducible refine rr_ixT3 ?_
  | with_reducible refine rr_ixT4 ?_
  | with_reducible refine rr_ixT5 ?_
  | with_reducible refine rr_isN ?_
  | with_reducible refine rr_notN ?_
  | with_reducible refine rcI1 ?_
  | with_reducible refine rcI2 ?_
  | with_reducible refine rcI3 ?_
  | with_reducible refine rcI4 ?_
  | with_reducible refine rcI5 ?_
  | with_reducible refine rc_listL ?_
  | with_reducible refine rc_lenL ?_
  | with_reducible refine rc_lenT ?_
  | with_reducible refine rc_min2 ?_
  | with_reducible refine rc_intB ?_
  | with_reducible refine re_strip ?_
  | with_reducible refine re_lst (tA := tCons _ _) ?_
  | with_reducible refine re_fld ?_
  | with_reducible refine rs_fld ?_
  | with_reducible refine re_meth ?_
  | with_reducible exact rfl
  | with_reducible refine andT ?_
  | with_reducible refine andF ?_
  | refine Exists.intro _ ⟨rfl, ?_⟩
  | refine andT ?_
  | refine andF ?_
  | assumption
  | refine And.intro rfl ?_
  | refine And.intro (by assumption) ?_
  | with_reducible refine And.intro (Nat.le_of_ble_eq_true rfl) ?_
  | with_reducible refine And.intro (by omega) ?_)
local macro_rules | `(tactic| walk_at "kp") => `(tactic| repeat (walk_at "kp1"))
section
variable {P : Program} {w : World} {K : PySem.W.Frag} {mg : Str → Option Value} {base : Heap}
theorem rg_unl {M : Mem} {δ : DEnv} {d : D} {ds : List D} {gs : TGs} {PN' : DEnv → Mem → Prop} {n : Nat} (ht : LstD M d ds) (hn : ds.length = n) (h : RGs K gs ds δ M PN') : RG K (gUnl K n gs) d δ M PN' := fun v σ I F H hv he hs Q q => by
  obtain ⟨a, vs, rfl, hq, k⟩ := ht.get hs hv
  exact ⟨a, vs, rfl, hq, by rw [k.length]; exact hn, h vs σ I F H k he hs Q q⟩
def encTri (t : Tri) : D := .tup [.int t.1, .int t.2.1, .int t.2.2]
theorem iss_each {I : Hp} : ∀ {vs : List V} {ts : List Tri}, Iss K I vs (ts.map encTri) → PySem.W.EachIs (fun v t => Is K I v (encTri t)) vs ts
  | _, [], .nil => .nil
  | _, t :: r, .cons h k => .cons h (iss_each (ts := r) k)
theorem each_iss {I : Hp} {vs : List V} {ts : List Tri} (h : PySem.W.EachIs (fun v t => Is K I v (encTri t)) vs ts) : Iss K I vs (ts.map encTri) := by
  induction h with
  | nil => exact .nil
  | cons h _ ih => exact .cons h ih
theorem rc_sortT {M : Mem} {Pd : D → Mem → Prop} {d : D} {ts : List Tri} (h : LstD M d (ts.map encTri)) (p : Pd (.lst ((ts.mergeSort leT).map encTri)) M) : RC K (rSortT K) [d] M Pd := fun vs I F H r hs Q q => by
  obtain ⟨v, rfl, rv⟩ := r.one
  obtain ⟨a, ws, rfl, hq, k⟩ := h.get hs rv
  refine ⟨a, ws, ts, fun v t => Is K I v (encTri t), rfl, hq, iss_each k, fun v t hv => ?_, fun vs' p' hs' hp => ?_⟩
  · cases hv with
    | tup ht hk =>
      cases hk with
      | cons h1 hk =>
        obtain ⟨u1, u2, rfl, h2, h3⟩ := hk.two
        cases h1; cases h2; cases h3
        exact ⟨_, rfl, SqT.of (hs.sub _ _ ht)⟩
  · obtain ⟨e2, s2⟩ := hs.still (o := .lst vs') hp
    exact q _ _ ⟨_, _, M, e2, s2, .lst upd_same ((each_iss hs').mono e2), p⟩


end
end Kp

set_option maxHeartbeats 4000000
namespace Kp
open PySem PySem.Spec PyProof.Rows L2
local macro_rules | `(tactic| walk_at "kp0") => `(tactic| try dsimp only [cxOf, Cx.nox, Cx.wish])
local macro_rules | `(tactic| walk_at "kp1") => `(tactic| first
  | with_reducible refine rr_strF (by decide +kernel) ?_
  | with_reducible refine rr_strT ?_
  | with_reducible refine rs_seq ?_
  | with_reducible refine re_var rfl ?_
  | with_reducible refine re_int ?_
  | with_reducible refine re_str ?_
  | with_reducible refine re_op ?_
  | with_reducible refine re_cb ?_
  | with_reducible refine ra_cons ?_
  | ((with_reducible refine ra_nil ?_); first
      | refine Exists.intro _ ⟨rfl, ?_⟩
      | refine ⟨_, _, rfl, ?_⟩
      | refine ⟨_, _, _, rfl, ?_⟩
      | refine ⟨_, _, _, _, rfl, ?_⟩
      | refine ⟨_, _, _, _, _, rfl, ?_⟩
      | refine ⟨_, _, _, _, _, _, rfl, ?_⟩
      | refine And.intro rfl ?_)
  | with_reducible refine ra_nil ?_
  | with_reducible refine rs_ret ?_
  | with_reducible refine rs_asg ?_
  | with_reducible refine rg_name ?_
  | with_reducible refine rs_if ?_
  | with_reducible refine rt_test ?_
  | with_reducible refine rt_B ?_
  | with_reducible refine re_call ?_
  | with_reducible refine rr_int0 ?_
  | with_reducible refine rr_bl0 ?_
  | with_reducible refine rr_I0 rfl ?_
  | with_reducible refine re_bl ?_
  | with_reducible refine re_non ?_
  | with_reducible refine re_ty ?_
  | with_reducible refine re_ref ?_
  | with_reducible refine rs_drop ?_
  | with_reducible refine re_chain ?_
  | with_reducible refine re_andV ?_
  | with_reducible refine re_orV ?_
  | with_reducible refine re_notV ?_
  | with_reducible refine rt_not ?_
  | with_reducible refine rt_and ?_
  | with_reducible refine rt_or ?_
  | with_reducible refine rs_next ?_
  | with_reducible refine rs_cont ?_
  | with_reducible refine rs_break ?_
  | with_reducible refine rs_retN ?_
  | with_reducible refine rr_eq rfl ?_
  | with_reducible refine rr_ne rfl ?_
  | with_reducible refine rr_mulR (by omega) ?_
  | with_reducible refine rr_mulL (by omega) ?_
  | with_reducible refine rr_mod (by omega) ?_
  | with_reducible refine rr_fdiv (by omega) ?_
  | with_reducible refine ro_none ?_
  | with_reducible refine ro_some ?_
  | with_reducible refine re_tup ?_
  | with_reducible refine rg_tup tupD1 rfl ?_
  | with_reducible refine rgs_cons ?_
  | with_reducible refine rgs_nil ?_
  | with_reducible refine rr_ixT0 ?_
  | with_reducible refine rr_ixT1 ?_
  | with_reducible refine rr_ixT2 ?_
  | with_reducible refine rr_ixT3 ?_
  | with_reducible refine rr_ixT4 ?_
  | with_reducible refine rr_ixT5 ?_
  | with_reducible refine rr_isN ?_
  | with_reducible refine rr_notN ?_
  | with_reducible refine rcI1 ?_
  | with_reducible refine rcI2 ?_
  | with_reducible refine rcI3 ?_
  | with_reducible refine rcI4 ?_
  | with_reducible refine rcI5 ?_
  | with_reducible refine rc_listL ?_
  | with_reducible refine rc_lenL ?_
  | with_reducible refine rc_lenT ?_
  | with_reducible refine rc_min2 ?_
  | with_reducible refine rc_intB ?_
  | with_reducible refine re_strip ?_
  | with_reducible refine re_lst (tA := tCons _ _) ?_
  | with_reducible refine re_fld ?_
  | with_reducible refine rs_fld ?_
  | with_reducible refine re_meth ?_
  | with_reducible exact rfl
  | with_reducible refine andT ?_
  | with_reducible refine andF ?_
  | refine Exists.intro _ ⟨rfl, ?_⟩
  | refine andT ?_
  | refine andF ?_
  | assumption
  | refine And.intro rfl ?_
  | refine And.intro (by assumption) ?_
  | with_reducible refine And.intro (Nat.le_of_ble_eq_true rfl) ?_
  | with_reducible refine And.intro (by omega) ?_)
local macro_rules | `(tactic| walk_at "kp") => `(tactic| repeat (walk_at "kp1"))
section
variable {P : Program} {w : World} {K : PySem.W.Frag} {mg : Str → Option Value} {base : Heap}
abbrev Wd := Str → Option (Str × Int)
structure Wk where
  date : Int
  k : Int
  e : Ent
  head : Str
  gone : Int
  fault : Bool
def encW (w : Wk) : D := .tup [.int w.date, .int w.k, encT w.e, .str w.head, .int w.gone, .bl w.fault]
def wset (wd : Wd) (w : Str) (x : Str × Int) : Wd := fun z => if z = w then some x else wd z
def Ent.head1 : Ent → Str
  | .give h _ _ => h
  | .hold h _ _ _ => h
  | .move h _ _ _ => h
  | .spend h _ _ => h
  | .promise w _ _ _ => w
  | .lessen w _ _ => w
  | .out w _ _ => w
def stepW (wd : Wd) (it : Itm) : Wd × Wk := match it.2.2 with
  | .promise w h c t => match wd w with
    | none => (wset wd w (h, c), ⟨it.2.1, it.1, it.2.2, h, 0, false⟩)
    | some _ => (wd, ⟨it.2.1, it.1, it.2.2, h, 0, true⟩)
  | .lessen w c t => match wd w with
    | none => (wd, ⟨it.2.1, it.1, it.2.2, "", 0, true⟩)
    | some q => if q.2 < c then (wd, ⟨it.2.1, it.1, it.2.2, q.1, 0, true⟩) else (wset wd w (q.1, q.2 - gonV c q.2), ⟨it.2.1, it.1, it.2.2, q.1, gonV c q.2, false⟩)
  | .out w c t => match wd w with
    | none => (wd, ⟨it.2.1, it.1, it.2.2, "", 0, true⟩)
    | some q => (wset wd w (q.1, q.2 - gonV c q.2), ⟨it.2.1, it.1, it.2.2, q.1, gonV c q.2, false⟩)
  | e => (wd, ⟨it.2.1, it.1, it.2.2, e.head1, 0, false⟩)
def walkW : Wd → List Itm → List Wk
  | _, [] => []
  | wd, it :: r => (stepW wd it).2 :: walkW (stepW wd it).1 r
def wdAfter : Wd → List Itm → Wd
  | wd, [] => wd
  | wd, it :: r => wdAfter (stepW wd it).1 r
theorem walkW_snoc (it : Itm) : ∀ (wd : Wd) (l : List Itm), walkW wd (l ++ [it]) = walkW wd l ++ [(stepW (wdAfter wd l) it).2]
  | _, [] => rfl
  | wd, x :: r => by
    show _ :: walkW _ (r ++ [it]) = _ :: walkW _ r ++ _
    rw [walkW_snoc it _ r]
    rfl
theorem wdAfter_snoc (it : Itm) : ∀ (wd : Wd) (l : List Itm), wdAfter wd (l ++ [it]) = (stepW (wdAfter wd l) it).1
  | _, [] => rfl
  | wd, x :: r => wdAfter_snoc it _ r
theorem walkW_len : ∀ (wd : Wd) (l : List Itm), (walkW wd l).length = l.length
  | _, [] => rfl
  | wd, x :: r => congrArg (· + 1) (walkW_len _ r)
def wd0 : Wd := fun _ => none
def walkR (rows : List Row) : List Wk := walkW wd0 ((itemsOf rows).mergeSort leI)
def encHL (q : Str × Int) : D := .lst [.str q.1, .int q.2]
theorem hsetg (wd : Wd) (kw : List (Key × D)) (w : Str) (x : Str × Int) (z : Str) (hget : ∀ w, getD kw (.inr w) = (wd w).map encHL) : getD (setD kw (.inr w) (encHL x)) (.inr z) = (wset wd w x z).map encHL := by
  rw [getD_set, hget]
  unfold wset
  by_cases e : z = w
  · rw [if_pos e, e, if_pos rfl]
    rfl
  · rw [if_neg e, if_neg (fun q => e (Sum.inr.inj q))]
def encKey (it : Itm) : D := encTri (keyI it)
def Ent.wordT : Ent → Str
  | .give .. => "give"
  | .hold .. => "hold"
  | .move .. => "move"
  | .spend .. => "spend"
  | .promise .. => "promise"
  | .lessen .. => "lessen"
  | .out .. => "out"
theorem encT_eq (e : Ent) : ∃ r, encT e = .tup (.str e.wordT :: r) := by
  cases e <;> exact ⟨_, rfl⟩
def turnsK : List (Key × D) := [(.inr "promise", .int 0), (.inr "lessen", .int 1), (.inr "out", .int 2)]
theorem turn_get (e : Ent) : (getD turnsK (.inr e.wordT)).getD (.int 3) = .int e.turn := by
  cases e <;> rfl
def spc_l_walked (K : PySem.W.Frag) : Spc := fun ds M Pc => ∃ (rows : List Row), ds = [.lst (rows.map encRT)] ∧ rows.length ≤ 40 ∧ Pc (.lst ((walkR rows).map encW)) m0
theorem len_l_walked (ds : List D) (M : Mem) (Pc : D → Mem → Prop) (h : spc_l_walked K ds M Pc) : ds.length = 1 := by
  obtain ⟨_, rfl, _⟩ := h
  rfl
abbrev nm_l_walked : List Str := ["_law_rows_here", "_law_words", "_law_found", "_law_turns", "_law_date", "_law_turn", "_law_k", "_law_told", "_law_head", "_law_gone", "_law_fault", "_law_left"]
theorem sc_l_walked : FnScope nm_l_walked ["_law_rows_here"] (defScope s_l_walked) := ⟨rfl, rfl, rfl, by decide +kernel, rfl, by decide +kernel, by decide +kernel⟩
theorem ok_l_walked (TX : Txt K mg base) : Kept P w K mg base 1 (He.fAd K ("_law_walked", none)) ["_law_rows_here"] (spc_l_walked K) := by
  refine okD (fn_l_walked TX) sc_l_walked (fun _ _ _ _ _ _ us hl => match us, hl with | [_], _ => rfl) len_l_walked fun cdv A outer s H E hr ds M Pc h => ?_
  obtain ⟨rows, rfl, hlen, k⟩ := h
  refine ⟨_, (pss_cons (ps_set (i := 1) sc_l_walked.nd rfl (Or.inl rfl) pe_dnewK)
    (pss_cons (ps_set (i := 2) sc_l_walked.nd rfl (Or.inl rfl) (pe_lst pa_nil))
    (pss_cons (ps_set (i := 3) sc_l_walked.nd rfl (Or.inr rfl) (pe_disp (pps_cons pe_str pe_int (pps_cons pe_str pe_int (pps_cons pe_str pe_int pps_nil))) (by rfl) (by rfl) (fun z => by cases z) (by decide)))
    (pss_cons (ps_for PassesOwn.never rfl (pi_list (pe_callB (cr_sortT hr.units) rfl (n_sorted TX) (by decide +kernel) (pa_cons (pe_lc (own := [("_law_k", 6)]) (g := gName 6) rfl sc_l_walked.nd (pi_range1 rfl (n_range TX) (pa_cons (pe_callB call_len rfl (n_len TX) PySem.boot_len (pa_cons (pv 0) pa_nil)) pa_nil)) (blkOk_by (N := nm_l_walked) (sc := defScope s_l_walked) (by decide +kernel)) (fun _ _ _ _ _ => pg_name (i := 6) sc_l_walked.nd rfl (Or.inl rfl)) (fun _ _ _ _ _ => pts_nil) (fun _ _ _ _ _ => (pe_tup (pa_cons (pe_ix (kx_tup (K := K)) (pe_ix (kx_list (K := K)) (pv 0) (pv 6) (fun _ _ => rfl)) pe_int (fun _ _ => rfl)) (pa_cons (pe_dget2 (hu_of hr) (pv 3) (pe_ix (kx_tup (K := K)) (pe_ix (kx_tup (K := K)) (pe_ix (kx_list (K := K)) (pv 0) (pv 6) (fun _ _ => rfl)) pe_int (fun _ _ => rfl)) pe_int (fun _ _ => rfl)) pe_int ⟨by rfl, by rfl, by rfl, by rfl⟩) (pa_cons (pv 6) pa_nil)))))) pa_nil))) (pg_tup rfl (pgs_cons (pg_name (i := 4) sc_l_walked.nd rfl (Or.inl rfl)) (pgs_cons (pg_name (i := 5) sc_l_walked.nd rfl (Or.inl rfl)) (pgs_cons (pg_name (i := 6) sc_l_walked.nd rfl (Or.inl rfl)) pgs_nil))))
    (pss_cons (ps_set (i := 7) sc_l_walked.nd rfl (Or.inl rfl) (pe_ix ix_tup (pe_ix ix_list (pv 0) (pv 6) (fun _ _ => rfl)) pe_int (fun _ _ => rfl)))
    (pss_cons (ps_set (i := 8) sc_l_walked.nd rfl (Or.inl rfl) (pe_ix ix_tup (pv 7) pe_int (fun _ _ => rfl)))
    (pss_cons (ps_set (i := 9) sc_l_walked.nd rfl (Or.inl rfl) pe_int)
    (pss_cons (ps_set (i := 10) sc_l_walked.nd rfl (Or.inl rfl) pe_bl)
    (pss_cons (ps_if (pt_cmpR op_eq (pv 5) pe_int (nomark _)) (pss_cons (ps_set (i := 8) sc_l_walked.nd rfl (Or.inl rfl) (pe_ix ix_tup (pv 7) pe_int (fun _ _ => rfl)))
    (pss_cons (ps_set (i := 10) sc_l_walked.nd rfl (Or.inl rfl) (pe_cmp (pc_din (hu_of hr) (pe_ix ix_tup (pv 7) pe_int (fun _ _ => rfl)) (pv 1)) rfl))
    (pss_one (ps_expr (pe_dsetd (pv 1) (pe_ix ix_tup (pv 7) pe_int (fun _ _ => rfl)) (pe_lst (pa_cons (pv 8) (pa_cons (pe_ix ix_tup (pv 7) pe_int (fun _ _ => rfl)) pa_nil))) ⟨by rfl, by rfl, by rfl, by rfl⟩))))) (pss_one (ps_if (pt_cmpR op_lt (pv 5) pe_int (nomark _)) (pss_cons (ps_asg (pe_dget2 (hu_of hr) (pv 1) (pe_ix ix_tup (pv 7) pe_int (fun _ _ => rfl)) (pe_lst (pa_cons pe_str (pa_cons pe_non pa_nil))) ⟨by rfl, by rfl, by rfl, by rfl⟩) (pg_unl rfl (pgs_cons (pg_name (i := 8) sc_l_walked.nd rfl (Or.inl rfl)) (pgs_cons (pg_name (i := 11) sc_l_walked.nd rfl (Or.inl rfl)) pgs_nil))))
    (pss_cons (ps_set (i := 10) sc_l_walked.nd rfl (Or.inl rfl) (pe_or (pe_cmpR op_isN (pv 11) pe_non (nomark _)) (pe_one (pe_and (pe_cmpR op_eq (pv 5) pe_int (nomark _)) (pe_one (pe_cmpR op_gt (pe_ix ix_tup (pv 7) pe_int (fun _ _ => rfl)) (pv 11) (nomark _)))))))
    (pss_one (ps_if (pt_not (pt_val (pv 10))) (pss_cons (ps_set (i := 9) sc_l_walked.nd rfl (Or.inl rfl) (pe_callB (call_min2 rfl) rfl (n_min TX) (by decide +kernel) (pa_cons (pe_ix ix_tup (pv 7) pe_int (fun _ _ => rfl)) (pa_cons (pv 11) pa_nil))))
    (pss_one (ps_dput (hu_of hr) (pv 1) (pe_ix ix_tup (pv 7) pe_int (fun _ _ => rfl)) (pe_lst (pa_cons (pv 8) (pa_cons (pe_op op_sub (pv 11) (pv 9)) pa_nil))) rfl))) pss_nil)))) pss_nil)))
    (pss_one (ps_expr (pe_bm PySem.F.plainAttrs_list PySem.F.slot_list_append PySem.F.type_list_append mt_append (pv 2) (pa_cons (pe_tup (pa_cons (pv 4) (pa_cons (pv 6) (pa_cons (pv 7) (pa_cons (pv 8) (pa_cons (pv 9) (pa_cons (pv 10) pa_nil))))))) pa_nil))))))))))
    (pss_one (ps_ret (pv 2))))))), ?_⟩
  walk_at "kp0"
  walk_at "kp"
  refine re_dnew fun pw hpw => ?_
  walk_at "kp"
  refine re_lstM (ra_nil ⟨by decide, fun pf hpf => ?_⟩)
  walk_at "kp"
  refine re_disp fun pt hpt => ?_
  walk_at "kp"
  refine re_str (re_int (re_str (re_int (re_str (re_int ⟨mset_same, turnsK, rfl, by decide, ?_⟩)))))
  rw [mset_mset, show mergeD [] turnsK = turnsK from rfl]
  have hpw2 : pw ≠ pt := fun z => by
    rw [← z] at hpt
    by_cases e : pw = pf
    · rw [e, mset_same] at hpt; cases hpt
    · rw [mset_ne e, mset_same] at hpt; cases hpt
  have hpf2 : pf ≠ pt := fun z => by rw [← z, mset_same] at hpt; cases hpt
  have hwf : pw ≠ pf := fun z => by rw [← z, mset_same] at hpf; cases hpf
  generalize hM2 : mset (mset (mset M pw (.dic [])) pf (.lst [])) pt (.dic turnsK) = M2
  have ht : M2 pt = some (.dic turnsK) := by rw [← hM2]; exact mset_same
  have hf : M2 pf = some (.lst []) := by rw [← hM2, mset_ne hpf2]; exact mset_same
  have hw : M2 pw = some (.dic []) := by rw [← hM2, mset_ne hpw2, mset_ne hwf]; exact mset_same
  clear hM2
  walk_at "kp"
  have hrow : ∀ (j : Nat) (hj : j < rows.length) (M : Mem) (P : D → Mem → Prop), P (.tup [.int rows[j].1, encT rows[j].2]) M → RR K (rIxL K) (.lst (rows.map encRT)) (.int (j : Int)) M P := fun j hj M P h => rr_ixL (d := .tup [.int rows[j].1, encT rows[j].2]) lstD1 (Kp.atI_nat (by rw [List.getElem?_map, List.getElem?_eq_getElem hj]; rfl)) h
  have hperm : ∀ it ∈ (itemsOf rows).mergeSort leI, ∃ (i : Nat) (hi : i < rows.length), it = ((i : Int), rows[i].1, rows[i].2) := fun it hit => by
    obtain ⟨i, h1, h2⟩ := itemsOf_mem (List.mem_mergeSort.mp hit)
    obtain ⟨hi, h3⟩ := List.getElem?_eq_some_iff.mp h1
    refine ⟨i, hi, ?_⟩
    rw [h3, ← h2]
  refine rs_for encKey ((itemsOf rows).mergeSort leI) (fun pre δ' M' => (∃ x1 x2 x3 x4 x5 x6 x7 x8 : Option D, δ' = [some (.lst (rows.map encRT)), some (.ref pw), some (.ref pf), some (.ref pt), x1, x2, x3, x4, x5, x6, x7, x8]) ∧ ∃ kw, M' pw = some (.dic kw) ∧ (∀ w, getD kw (.inr w) = (wdAfter wd0 pre w).map encHL) ∧ kw.length ≤ pre.length ∧ M' pf = some (.lst ((walkW wd0 pre).map encW))) ?_ ?_ ?_
  · walk_at "kp"
    refine re_lcR rows.length (fun j acc M' => acc = ((itemsOf rows).take j).map encKey ∧ M' = M2) (by omega) ?_ ?_ ?_
    · walk_at "kp"
      exact ⟨by rw [List.length_map], rfl, rfl⟩
    · rintro j acc M' hj ⟨rfl, rfl⟩
      refine rgc_name (by simp) ?_
      refine rt_yes ⟨fun _ => ?_, fun z => by cases z⟩
      walk_at "kp"
      refine hrow j hj _ _ ?_
      walk_at "kp"
      refine re_dget2 ?_
      walk_at "kp"
      refine ⟨⟨_, ht⟩, ?_⟩
      walk_at "kp"
      refine hrow j hj _ _ ?_
      walk_at "kp"
      obtain ⟨rr, er⟩ := encT_eq rows[j].2
      rw [er]
      walk_at "kp"
      refine ⟨_, Sum.inr rows[j].2.wordT, ht, rfl, ?_⟩
      rw [turn_get]
      walk_at "kp"
      rw [List.take_succ, itemsOf_get, List.getElem?_eq_getElem hj, List.map_append]
      exact ⟨rfl, rfl⟩
    · rintro acc M' _ ⟨rfl, rfl⟩
      rw [← itemsOf_len, List.take_length]
      refine ra_nil (rc_sortT (ts := (itemsOf rows).map keyI) (.inl (by rw [List.map_map]; rfl)) ?_)
      have srt : ((itemsOf rows).mergeSort leI).map keyI = ((itemsOf rows).map keyI).mergeSort leT := PySem.W.sort_maps keyI fun a _ b _ => rfl
      rw [← srt, List.map_map]
      exact ⟨.inl rfl, ⟨_, _, _, _, _, _, _, _, rfl⟩, [], hw, fun w => rfl, Nat.le_refl 0, hf⟩
  · rintro pre x post δ' M' e ⟨⟨x1, x2, x3, x4, x5, x6, x7, x8, rfl⟩, kw, hkw, hget, hkl, hfo⟩
    obtain ⟨i, hi, ex⟩ := hperm x (by rw [e]; simp)
    have hpl : pre.length ≤ 40 := by
      have := congrArg List.length e
      rw [List.length_mergeSort, itemsOf_len, List.length_append] at this
      omega
    obtain ⟨date, en, ex, hr⟩ : ∃ date en, x = ((i : Int), date, en) ∧ ∀ (M : Mem) (P : D → Mem → Prop), P (.tup [.int date, encT en]) M → RR K (rIxL K) (.lst (rows.map encRT)) (.int (i : Int)) M P := ⟨_, _, ex, hrow i hi⟩
    subst ex
    have hfl : ((walkW wd0 pre).map encW).length ≤ 40 := by rw [List.length_map, walkW_len]; omega
    rw [wdAfter_snoc, walkW_snoc]
    unfold encKey encTri keyI
    refine rg_tup tupD1 rfl ?_
    generalize hwd : wdAfter wd0 pre = wd at hget
    cases en
    · dsimp only [Ent.turn]
      walk_at "kp"
      refine hr _ _ ?_
      dsimp only [encT]
      walk_at "kp"
      refine re_append ?_
      walk_at "kp"
      refine ⟨⟨_, hfo⟩, ?_⟩
      walk_at "kp"
      refine ⟨_, hfo, by omega, ⟨_, _, _, _, _, _, _, _, rfl⟩, kw, by rw [mset_ne hwf]; exact hkw, hget, by rw [List.length_append, List.length_singleton]; omega, by rw [mset_same, List.map_append]; rfl⟩
    · dsimp only [Ent.turn]
      walk_at "kp"
      refine hr _ _ ?_
      dsimp only [encT]
      walk_at "kp"
      refine re_append ?_
      walk_at "kp"
      refine ⟨⟨_, hfo⟩, ?_⟩
      walk_at "kp"
      refine ⟨_, hfo, by omega, ⟨_, _, _, _, _, _, _, _, rfl⟩, kw, by rw [mset_ne hwf]; exact hkw, hget, by rw [List.length_append, List.length_singleton]; omega, by rw [mset_same, List.map_append]; rfl⟩
    · dsimp only [Ent.turn]
      walk_at "kp"
      refine hr _ _ ?_
      dsimp only [encT]
      walk_at "kp"
      refine re_append ?_
      walk_at "kp"
      refine ⟨⟨_, hfo⟩, ?_⟩
      walk_at "kp"
      refine ⟨_, hfo, by omega, ⟨_, _, _, _, _, _, _, _, rfl⟩, kw, by rw [mset_ne hwf]; exact hkw, hget, by rw [List.length_append, List.length_singleton]; omega, by rw [mset_same, List.map_append]; rfl⟩
    · dsimp only [Ent.turn]
      walk_at "kp"
      refine hr _ _ ?_
      dsimp only [encT]
      walk_at "kp"
      refine re_append ?_
      walk_at "kp"
      refine ⟨⟨_, hfo⟩, ?_⟩
      walk_at "kp"
      refine ⟨_, hfo, by omega, ⟨_, _, _, _, _, _, _, _, rfl⟩, kw, by rw [mset_ne hwf]; exact hkw, hget, by rw [List.length_append, List.length_singleton]; omega, by rw [mset_same, List.map_append]; rfl⟩
    · rename_i w h c t
      dsimp only [Ent.turn]
      walk_at "kp"
      refine hr _ _ ?_
      dsimp only [encT]
      walk_at "kp"
      refine re_din ?_
      walk_at "kp"
      refine ⟨_, _, Sum.inr w, rfl, hkw, rfl, ?_⟩
      rw [hget, isSome_map]
      cases hq : wd w with
      | none =>
        rw [show stepW wd ((i : Int), date, .promise w h c t) = (wset wd w (h, c), ⟨date, i, .promise w h c t, h, 0, false⟩) by simp only [stepW, hq]]
        have hget2 : ∀ z, getD (setD kw (.inr w) (encHL (h, c))) (.inr z) = (wset wd w (h, c) z).map encHL := fun z => hsetg wd kw w (h, c) z hget
        have hfo2 : mset M' pw (.dic (setD kw (.inr w) (encHL (h, c)))) pf = some (.lst ((walkW wd0 pre).map encW)) := by rw [mset_ne (fun z => hwf z.symm)]; exact hfo
        walk_at "kp"
        refine re_dsetd ?_
        walk_at "kp"
        refine ⟨⟨_, hkw⟩, ?_⟩
        walk_at "kp"
        refine ⟨kw, Sum.inr w, hkw, rfl, by omega, fun d hd => ?_, fun hn => ?_⟩
        · rw [hget, hq] at hd
          cases hd
        · walk_at "kp"
          refine re_append ?_
          walk_at "kp"
          refine ⟨⟨_, hfo2⟩, ?_⟩
          walk_at "kp"
          refine ⟨_, hfo2, by omega, ⟨_, _, _, _, _, _, _, _, rfl⟩, _, by rw [mset_ne hwf]; exact mset_same, hget2, by have := setD_length kw (.inr w) (encHL (h, c)); rw [List.length_append, List.length_singleton]; omega, by rw [mset_same, List.map_append]; rfl⟩
      | some q =>
        rw [show stepW wd ((i : Int), date, .promise w h c t) = (wd, ⟨date, i, .promise w h c t, h, 0, true⟩) by simp only [stepW, hq]]
        walk_at "kp"
        refine re_dsetd ?_
        walk_at "kp"
        refine ⟨⟨_, hkw⟩, ?_⟩
        walk_at "kp"
        refine ⟨kw, Sum.inr w, hkw, rfl, by omega, fun d hd => ?_, fun hn => ?_⟩
        · walk_at "kp"
          refine re_append ?_
          walk_at "kp"
          refine ⟨⟨_, hfo⟩, ?_⟩
          walk_at "kp"
          refine ⟨_, hfo, by omega, ⟨_, _, _, _, _, _, _, _, rfl⟩, kw, by rw [mset_ne hwf]; exact hkw, hget, by rw [List.length_append, List.length_singleton]; omega, by rw [mset_same, List.map_append]; rfl⟩
        · rw [hget, hq] at hn
          cases hn
    · rename_i w c t
      dsimp only [Ent.turn]
      walk_at "kp"
      refine hr _ _ ?_
      dsimp only [encT]
      walk_at "kp"
      refine re_dget2 ?_
      walk_at "kp"
      refine ⟨⟨_, hkw⟩, ?_⟩
      walk_at "kp"
      refine ⟨kw, Sum.inr w, hkw, rfl, ?_⟩
      rw [hget]
      cases hq : wd w with
      | none =>
        rw [show stepW wd ((i : Int), date, .lessen w c t) = (wd, ⟨date, i, .lessen w c t, "", 0, true⟩) by simp only [stepW, hq]]
        refine rg_unl lstD1 rfl ?_
        walk_at "kp"
        refine re_append ?_
        walk_at "kp"
        refine ⟨⟨_, hfo⟩, ?_⟩
        walk_at "kp"
        refine ⟨_, hfo, by omega, ⟨_, _, _, _, _, _, _, _, rfl⟩, kw, by rw [mset_ne hwf]; exact hkw, hget, by rw [List.length_append, List.length_singleton]; omega, by rw [mset_same, List.map_append]; rfl⟩
      | some q =>
        refine rg_unl lstD1 rfl ?_
        by_cases hlt : q.2 < c
        · rw [show stepW wd ((i : Int), date, .lessen w c t) = (wd, ⟨date, i, .lessen w c t, q.1, 0, true⟩) by simp only [stepW, hq, if_pos hlt]]
          walk_at "kp"
          rw [decide_eq_true hlt]
          walk_at "kp"
          refine re_append ?_
          walk_at "kp"
          refine ⟨⟨_, hfo⟩, ?_⟩
          walk_at "kp"
          refine ⟨_, hfo, by omega, ⟨_, _, _, _, _, _, _, _, rfl⟩, kw, by rw [mset_ne hwf]; exact hkw, hget, by rw [List.length_append, List.length_singleton]; omega, by rw [mset_same, List.map_append]; rfl⟩
        · rw [show stepW wd ((i : Int), date, .lessen w c t) = (wset wd w (q.1, q.2 - gonV c q.2), ⟨date, i, .lessen w c t, q.1, gonV c q.2, false⟩) by simp only [stepW, hq, if_neg hlt]]
          walk_at "kp"
          rw [decide_eq_false hlt]
          have hget2 : ∀ z, getD (setD kw (.inr w) (encHL (q.1, q.2 - gonV c q.2))) (.inr z) = (wset wd w (q.1, q.2 - gonV c q.2) z).map encHL := fun z => hsetg wd kw w (q.1, q.2 - gonV c q.2) z hget
          have hfo2 : mset M' pw (.dic (setD kw (.inr w) (encHL (q.1, q.2 - gonV c q.2)))) pf = some (.lst ((walkW wd0 pre).map encW)) := by rw [mset_ne (fun z => hwf z.symm)]; exact hfo
          walk_at "kp"
          refine rs_dput ?_
          walk_at "kp"
          refine ⟨_, _, Sum.inr w, rfl, hkw, rfl, by omega, ?_⟩
          walk_at "kp"
          refine re_append ?_
          walk_at "kp"
          refine ⟨⟨_, hfo2⟩, ?_⟩
          walk_at "kp"
          refine ⟨_, hfo2, by omega, ⟨_, _, _, _, _, _, _, _, rfl⟩, _, by rw [mset_ne hwf]; exact mset_same, hget2, by have := setD_length kw (.inr w) (encHL (q.1, q.2 - gonV c q.2)); rw [List.length_append, List.length_singleton]; omega, by rw [mset_same, List.map_append]; rfl⟩
    · rename_i w c t
      dsimp only [Ent.turn]
      walk_at "kp"
      refine hr _ _ ?_
      dsimp only [encT]
      walk_at "kp"
      refine re_dget2 ?_
      walk_at "kp"
      refine ⟨⟨_, hkw⟩, ?_⟩
      walk_at "kp"
      refine ⟨kw, Sum.inr w, hkw, rfl, ?_⟩
      rw [hget]
      cases hq : wd w with
      | none =>
        rw [show stepW wd ((i : Int), date, .out w c t) = (wd, ⟨date, i, .out w c t, "", 0, true⟩) by simp only [stepW, hq]]
        refine rg_unl lstD1 rfl ?_
        walk_at "kp"
        refine re_append ?_
        walk_at "kp"
        refine ⟨⟨_, hfo⟩, ?_⟩
        walk_at "kp"
        refine ⟨_, hfo, by omega, ⟨_, _, _, _, _, _, _, _, rfl⟩, kw, by rw [mset_ne hwf]; exact hkw, hget, by rw [List.length_append, List.length_singleton]; omega, by rw [mset_same, List.map_append]; rfl⟩
      | some q =>
        refine rg_unl lstD1 rfl ?_
        rw [show stepW wd ((i : Int), date, .out w c t) = (wset wd w (q.1, q.2 - gonV c q.2), ⟨date, i, .out w c t, q.1, gonV c q.2, false⟩) by simp only [stepW, hq]]
        have hget2 : ∀ z, getD (setD kw (.inr w) (encHL (q.1, q.2 - gonV c q.2))) (.inr z) = (wset wd w (q.1, q.2 - gonV c q.2) z).map encHL := fun z => hsetg wd kw w (q.1, q.2 - gonV c q.2) z hget
        have hfo2 : mset M' pw (.dic (setD kw (.inr w) (encHL (q.1, q.2 - gonV c q.2)))) pf = some (.lst ((walkW wd0 pre).map encW)) := by rw [mset_ne (fun z => hwf z.symm)]; exact hfo
        walk_at "kp"
        refine rs_dput ?_
        walk_at "kp"
        refine ⟨_, _, Sum.inr w, rfl, hkw, rfl, by omega, ?_⟩
        walk_at "kp"
        refine re_append ?_
        walk_at "kp"
        refine ⟨⟨_, hfo2⟩, ?_⟩
        walk_at "kp"
        refine ⟨_, hfo2, by omega, ⟨_, _, _, _, _, _, _, _, rfl⟩, _, by rw [mset_ne hwf]; exact mset_same, hget2, by have := setD_length kw (.inr w) (encHL (q.1, q.2 - gonV c q.2)); rw [List.length_append, List.length_singleton]; omega, by rw [mset_same, List.map_append]; rfl⟩
  · rintro δ' M' ⟨⟨x1, x2, x3, x4, x5, x6, x7, x8, rfl⟩, kw, hkw, hget, hkl, hfo⟩
    exact rs_ret (re_less (re_frz (re_var rfl ⟨_, _, Frz.lst hfo, m0, fun a c z => (by cases z), k⟩)))


end
end Kp

set_option maxHeartbeats 4000000
namespace Kp
open PySem PySem.Spec PyProof.Rows L2
local macro_rules | `(tactic| walk_at "kp0") => `(tactic| try dsimp only [cxOf, Cx.nox, Cx.wish])
local macro_rules | `(tactic| walk_at "kp1") => `(tactic| first
  | with_reducible refine rs_seq ?_
  | with_reducible refine re_var rfl ?_
  | with_reducible refine re_int ?_
  | with_reducible refine re_str ?_
  | with_reducible refine re_op ?_
  | with_reducible refine re_cb ?_
  | with_reducible refine ra_cons ?_
  | ((with_reducible refine ra_nil ?_); first
      | refine Exists.intro _ ⟨rfl, ?_⟩
      | refine ⟨_, _, rfl, ?_⟩
      | refine ⟨_, _, _, rfl, ?_⟩
      | refine ⟨_, _, _, _, rfl, ?_⟩
      | refine ⟨_, _, _, _, _, rfl, ?_⟩
      | refine ⟨_, _, _, _, _, _, rfl, ?_⟩
      | refine And.intro rfl ?_)
  | with_reducible refine ra_nil ?_
  | with_reducible refine rs_ret ?_
  | with_reducible refine rs_asg ?_
  | with_reducible refine rg_name ?_
  | with_reducible refine rs_if ?_
  | with_reducible refine rt_test ?_
  | with_reducible refine rt_B ?_
  | with_reducible refine re_call ?_
  | with_reducible refine rr_int0 ?_
  | with_reducible refine rr_bl0 ?_
  | with_reducible refine rr_I0 rfl ?_
  | with_reducible refine re_bl ?_
  | with_reducible refine re_non ?_
  | with_reducible refine re_ty ?_
  | with_reducible refine re_ref ?_
  | with_reducible refine rs_drop ?_
  | with_reducible refine re_chain ?_
  | with_reducible refine re_andV ?_
  | with_reducible refine re_orV ?_
  | with_reducible refine re_notV ?_
  | with_reducible refine rt_not ?_
  | with_reducible refine rt_and ?_
  | with_reducible refine rt_or ?_
  | with_reducible refine rs_next ?_
  | with_reducible refine rs_cont ?_
  | with_reducible refine rs_break ?_
  | with_reducible refine rs_retN ?_
  | with_reducible refine rr_eq rfl ?_
  | with_reducible refine rr_ne rfl ?_
  | with_reducible refine rr_mulR (by omega) ?_
  | with_reducible refine rr_mulL (by omega) ?_
  | with_reducible refine rr_mod (by omega) ?_
  | with_reducible refine rr_fdiv (by omega) ?_
  | with_reducible refine ro_none ?_
  | with_reducible refine ro_some ?_
  | with_reducible refine re_tup ?_
  | with_reducible refine rg_tup tupD1 rfl ?_
  | with_reducible refine rgs_cons ?_
  | with_reducible refine rgs_nil ?_
  | with_reducible refine rr_ixT0 ?_
  | with_reducible refine rr_ixT1 ?_
  | with_reducible refine rr_ixT2 ?_
  | with_reducible refine rr_ixT3 ?_
  | with_reducible refine rr_ixT4 ?_
  | with_reducible refine rr_ixT5 ?_
  | with_reducible refine rr_isN ?_
  | with_reducible refine rr_notN ?_
  | with_reducible refine rcI1 ?_
  | with_reducible refine rcI2 ?_
  | with_reducible refine rcI3 ?_
  | with_reducible refine rcI4 ?_
  | with_reducible refine rcI5 ?_
  | with_reducible refine rc_listL ?_
  | with_reducible refine rc_lenL ?_
  | with_reducible refine rc_lenT ?_
  | with_reducible refine rc_min2 ?_
  | with_reducible refine rc_intB ?_
  | with_reducible refine re_strip ?_
  | with_reducible refine re_lst (tA := tCons _ _) ?_
  | with_reducible refine re_fld ?_
  | with_reducible refine rs_fld ?_
  | with_reducible refine re_meth ?_
  | with_reducible exact rfl
  | with_reducible refine andT ?_
  | with_reducible refine andF ?_
  | refine Exists.intro _ ⟨rfl, ?_⟩
  | refine andT ?_
  | refine andF ?_
  | assumption
  | refine And.intro rfl ?_
  | refine And.intro (by assumption) ?_
  | with_reducible refine And.intro (Nat.le_of_ble_eq_true rfl) ?_
  | with_reducible refine And.intro (by omega) ?_)
local macro_rules | `(tactic| walk_at "kp") => `(tactic| repeat (walk_at "kp1"))
section
variable {P : Program} {w : World} {K : PySem.W.Frag} {mg : Str → Option Value} {base : Heap}
def heldR (rs : List Lim) (h : Str) (date c : Int) : Int := (rs.map fun r => if r.1 = h ∧ date < r.2.2.2 then c * r.2.1 / r.2.2.1 else 0).sum
def sumE (Y : Yr) (h : Str) (date : Int) (x : Sums) (w : Wk) : Ent → Sums
  | .give _ c _ => if w.head = h then { x with g := x.g + c, h := x.h + heldR Y.rules h date c } else x
  | .hold _ c u _ => if w.head = h ∧ date < u then { x with h := x.h + c } else x
  | .move _ o c _ => { x with m := x.m + c * ((if o = h then 1 else 0) - (if w.head = h then 1 else 0)) }
  | .spend _ c _ => if w.head = h then { x with s := x.s + c, p := x.p - w.gone } else x
  | .promise _ _ c _ => if w.head = h then { x with p := x.p + c } else x
  | .lessen _ _ _ => if w.head = h then { x with p := x.p - w.gone } else x
  | .out _ c _ => if w.head = h then { x with s := x.s + c, p := x.p - w.gone } else x
def sumW (Y : Yr) (h : Str) (date : Int) (x : Sums) (w : Wk) : Sums := if date < w.date ∨ w.fault = true then x else sumE Y h date x w w.e
def lawSums (Y : Yr) (W : List Wk) (h : Str) (date : Int) : Sums := W.foldl (sumW Y h date) zS
def leftL (x : Sums) : Int := x.g + x.m - (x.s + x.p + x.h)
def undL (hs : List (Str × Str)) (h : Str) : List Str := hs.foldl (fun f x => if x.2 ∈ f then f ++ [x.1] else f) [h]
def takE (a : Int) (w : Wk) : Ent → Int
  | .promise _ _ c _ => a + c
  | .spend _ c _ => a + c
  | .out _ c _ => a + (c - w.gone)
  | .lessen _ _ _ => a - w.gone
  | _ => a
def takW (Y : Yr) (l : Lim) (date a : Int) (w : Wk) : Int := if (l.2.1 ≤ w.date ∧ w.date ≤ date) ∧ w.head ∈ undL Y.heads l.1 ∧ w.fault = false then takE a w w.e else a
def takL (Y : Yr) (W : List Wk) (l : Lim) (date : Int) : Int := W.foldl (takW Y l date) 0
def passHL (Y : Yr) (W : List Wk) (day : Int) : List Str → Option Place
  | [] => none
  | h :: r => if leftL (lawSums Y W h day) < 0 then some (.left h) else passHL Y W day r
def passLL (Y : Yr) (W : List Wk) (day : Int) : List Lim → Int → Option Place
  | [], _ => none
  | l :: r, k => if (l.2.1 ≤ day ∧ day ≤ l.2.2.1) ∧ l.2.2.2 < takL Y W l day then some (.limit k) else passLL Y W day r (k + 1)
def faultsL (W : List Wk) (day : Int) : List Int := (W.filter fun w => decide (w.date = day) && w.fault).map (·.k)
def placeL (Y : Yr) (W : List Wk) (day : Int) : Option Place := if faultsL W day = [] then (match passHL Y W day Y.names with
  | some p => some p
  | none => passLL Y W day Y.limits 0) else some (.promise (minL (faultsL W day)))
def breachL (Y : Yr) (W : List Wk) : Nat → Int → Option (Int × Place)
  | 0, _ => none
  | n + 1, day => match placeL Y W day with
    | some p => some (day, p)
    | none => breachL Y W n (day + 1)
section
variable {Y : Yr}
theorem kno_mem {hs : List (Str × Str)} (H : HeadsOk hs) {h : Str} (hh : h ≠ "") : ∀ (n : Nat) (pre post : List (Str × Str)) (x : Str × Str), pre.length = n → hs = pre ++ x :: post → ∀ f, n < f →
    (h ∈ kno hs f x.1 x.2 ↔ x.1 = h ∨ (x.2 ≠ "" ∧ ∃ p2 y q2, hs = p2 ++ y :: q2 ∧ p2.length < n ∧ y.1 = x.2 ∧ h ∈ kno hs (f - 1) y.1 y.2)) := by
  intro n pre post x hn e f hf
  obtain ⟨f, rfl⟩ : ∃ g, f = g + 1 := ⟨f - 1, by omega⟩
  obtain ⟨_, _, ha⟩ := H.ok _ _ _ e
  show h ∈ x.1 :: (if x.2 = "" then [] else kno hs f x.2 ((abv hs x.2).getD "")) ↔ _
  rw [List.mem_cons]
  by_cases e0 : x.2 = ""
  · rw [if_pos e0]
    constructor
    · rintro (r | r)
      · exact .inl r.symm
      · cases r
    · rintro (r | ⟨r, _⟩)
      · exact .inl r.symm
      · exact absurd e0 r
  · rw [if_neg e0]
    have ha := ha.resolve_left e0
    obtain ⟨y, hy, ey⟩ := List.mem_map.mp ha
    obtain ⟨p2, q2, ep⟩ := List.append_of_mem hy
    have e2 : hs = p2 ++ y :: (q2 ++ x :: post) := by rw [e, ep]; simp
    have hl : p2.length < n := by rw [← hn, ep, List.length_append, List.length_cons]; omega
    obtain ⟨_, hnp, _⟩ := H.ok _ _ _ e2
    have ev : abv hs x.2 = some y.2 := by
      rw [e2, abv_skip (fun z hz w => hnp (by rw [ey, ← w]; exact List.mem_map.mpr ⟨z, hz, rfl⟩)), if_pos ey]
    rw [ev]
    constructor
    · rintro (r | r)
      · exact .inl r.symm
      · exact .inr ⟨e0, p2, y, _, e2, hl, ey, by rw [ey]; exact r⟩
    · rintro (r | ⟨_, p3, y3, q3, e3, _, ey3, r⟩)
      · exact .inl r.symm
      · refine .inr ?_
        obtain ⟨_, hnp3, _⟩ := H.ok _ _ _ e3
        have ev3 : abv hs x.2 = some y3.2 := by
          rw [e3, abv_skip (fun z hz w => hnp3 (by rw [ey3, ← w]; exact List.mem_map.mpr ⟨z, hz, rfl⟩)), if_pos ey3]
        rw [ev] at ev3
        rw [Option.some.inj ev3, ← ey3]
        exact r
def undF (f : List Str) (x : Str × Str) : List Str := if x.2 ∈ f then f ++ [x.1] else f
theorem undF_pos {f : List Str} {x : Str × Str} (h : x.2 ∈ f) : undF f x = f ++ [x.1] := if_pos h
theorem undF_neg {f : List Str} {x : Str × Str} (h : x.2 ∉ f) : undF f x = f := if_neg h
theorem undF_grow {z : Str} : ∀ (hs : List (Str × Str)) (f : List Str), z ∈ f → z ∈ hs.foldl undF f
  | [], _, h => h
  | x :: r, f, h => undF_grow r (undF f x) (by unfold undF; split <;> simp [h])
theorem undF_old {z : Str} : ∀ (hs : List (Str × Str)) (f : List Str), z ∉ hs.map (·.1) → z ∈ hs.foldl undF f → z ∈ f
  | [], _, _, h => h
  | x :: r, f, n, h => by
    rw [List.map_cons, List.mem_cons, not_or] at n
    have h2 := undF_old r (undF f x) n.2 h
    unfold undF at h2
    split at h2
    · rcases List.mem_append.mp h2 with h2 | h2
      · exact h2
      · exact absurd (List.mem_singleton.mp h2) n.1
    · exact h2
theorem undF_at {hs pre post : List (Str × Str)} {x : Str × Str} (H : HeadsOk hs) (e : hs = pre ++ x :: post) {h : Str} (hh : h ≠ "") : x.1 ∈ hs.foldl undF [h] ↔ x.1 = h ∨ (x.2 ≠ "" ∧ x.2 ∈ hs.foldl undF [h]) := by
  obtain ⟨hx, hnp, ha⟩ := H.ok _ _ _ e
  have h0 : ∀ (l : List (Str × Str)), (∀ y ∈ l, y ∈ hs) → ("" : Str) ∉ l.foldl undF [h] := fun l hl z => by
    have := undF_old l [h] (fun w => by
      obtain ⟨y, hy, ey⟩ := List.mem_map.mp w
      obtain ⟨p2, q2, ep⟩ := List.append_of_mem (hl y hy)
      exact (H.ok _ _ _ ep).1.1 ey) z
    exact hh (List.mem_singleton.mp this).symm
  have hpost : x.1 ∉ post.map (·.1) := fun w => by
    obtain ⟨y, hy, ey⟩ := List.mem_map.mp w
    obtain ⟨p2, q2, ep⟩ := List.append_of_mem hy
    have := (H.ok (pre ++ x :: p2) y q2 (by rw [e, ep]; simp)).2.1
    exact this (by rw [ey]; simp)
  have hpst2 : x.2 ≠ "" → x.2 ∉ (x :: post).map (·.1) := fun hne w => by
    have hin := ha.resolve_left hne
    obtain ⟨y, hy, ey⟩ := List.mem_map.mp w
    obtain ⟨p2, q2, ep⟩ := List.append_of_mem hy
    have := (H.ok (pre ++ p2) y q2 (by rw [e, ep]; simp)).2.1
    exact this (by rw [ey, List.map_append]; exact List.mem_append_left _ hin)
  have step : hs.foldl undF [h] = post.foldl undF (undF (pre.foldl undF [h]) x) := by rw [e, List.foldl_append, List.foldl_cons]
  constructor
  · intro z
    rw [step] at z
    have z2 := undF_old post _ hpost z
    by_cases q : x.2 ∈ pre.foldl undF [h]
    · refine .inr ⟨fun w => h0 pre (fun y hy => by rw [e]; exact List.mem_append_left _ hy) (by rw [← w]; exact q), ?_⟩
      rw [step]
      exact undF_grow _ _ (by rw [undF_pos q]; exact List.mem_append_left _ q)
    · rw [undF_neg q] at z2
      exact .inl (List.mem_singleton.mp (undF_old pre [h] hnp z2))
  · rintro (z | ⟨z1, z2⟩)
    · rw [z]
      exact undF_grow _ _ (by simp)
    · have hq : x.2 ∈ pre.foldl undF [h] := by
        rw [e, List.foldl_append] at z2
        exact undF_old (x :: post) _ (hpst2 z1) z2
      rw [step]
      refine undF_grow _ _ ?_
      rw [undF_pos hq]
      simp
theorem und_all {hs : List (Str × Str)} (H : HeadsOk hs) {h : Str} (hh : h ≠ "") : ∀ (n : Nat) (pre post : List (Str × Str)) (x : Str × Str), pre.length = n → hs = pre ++ x :: post → ∀ f, n < f → (h ∈ kno hs f x.1 x.2 ↔ x.1 ∈ hs.foldl undF [h]) := by
  intro n
  induction n using Nat.strongRecOn with
  | _ n ih =>
    intro pre post x hn e f hf
    rw [kno_mem H hh n pre post x hn e f hf, undF_at H e hh]
    constructor
    · rintro (z | ⟨z1, p2, y, q2, e2, hl, ey, z⟩)
      · exact .inl z
      · exact .inr ⟨z1, by rw [← ey]; exact (ih _ hl p2 q2 y rfl e2 (f - 1) (by omega)).mp z⟩
    · rintro (z | ⟨z1, z⟩)
      · exact .inl z
      · obtain ⟨y, hy, ey⟩ := List.mem_map.mp (((H.ok _ _ _ e).2.2).resolve_left z1)
        obtain ⟨p2, q2, ep⟩ := List.append_of_mem hy
        have e2 : hs = p2 ++ y :: (q2 ++ x :: post) := by rw [e, ep]; simp
        have hl : p2.length < n := by rw [← hn, ep, List.length_append, List.length_cons]; omega
        refine .inr ⟨z1, p2, y, _, e2, hl, ey, (ih _ hl p2 _ y rfl e2 (f - 1) (by omega)).mpr ?_⟩
        rw [ey]
        exact z
theorem und_same (y : YGood Y) {h z : Str} (hh : h ∈ Y.names) (hz : z ∈ Y.names) : z ∈ undY Y h ↔ z ∈ undL Y.heads h := by
  have H := y.hd
  have hne : h ≠ "" := by
    obtain ⟨x, hx, ex⟩ := List.mem_map.mp hh
    obtain ⟨p2, q2, ep⟩ := List.append_of_mem hx
    rw [← ex]
    exact (H.ok _ _ _ ep).1.1
  obtain ⟨x, hx, ex⟩ := List.mem_map.mp hz
  obtain ⟨p2, q2, ep⟩ := List.append_of_mem hx
  have hnp := (H.ok _ _ _ ep).2.1
  have ev : abv Y.heads z = some x.2 := by
    rw [ep, abv_skip (fun w hw e => hnp (by rw [ex, ← e]; exact List.mem_map.mpr ⟨w, hw, rfl⟩)), if_pos ex]
  have key := und_all H hne p2.length p2 q2 x rfl ep Y.heads.length (by rw [ep, List.length_append, List.length_cons]; omega)
  unfold undY
  rw [List.mem_filter, decide_eq_true_eq]
  unfold knoY
  rw [ev, Option.getD_some, ← ex]
  show _ ∧ _ ↔ x.1 ∈ Y.heads.foldl undF [h]
  rw [← key]
  exact ⟨fun w => w.2, fun w => ⟨by rw [ex]; exact hz, w⟩⟩
def endSum (h : Str) (l : List (Str × Int)) : Int := (l.map fun q => if q.1 = h then q.2 else 0).sum
theorem endSum_snoc (h : Str) (l : List (Str × Int)) (q : Str × Int) : endSum h (l ++ [q]) = endSum h l + if q.1 = h then q.2 else 0 := by
  unfold endSum
  rw [List.map_append, List.sum_append]
  simp
structure Cor (Y : Yr) (st : Cst) (wd : Wd) (W : List Wk) (d : Int) : Prop where
  words : ∀ w, st.words w = wd w
  whd : ∀ w h c, wd w = some (h, c) → h ∈ Y.names
  money : ∀ h, st.money h = lawSums Y W h d
  ends : ∀ u h, d < u → endSum h (st.ends u) = (lawSums Y W h (u - 1)).h - (lawSums Y W h u).h
  loads : st.loads = Y.limits.map fun l => takL Y W l l.2.2.1
theorem lawSums_snoc {W : List Wk} {w : Wk} {h : Str} {d : Int} : lawSums Y (W ++ [w]) h d = sumW Y h d (lawSums Y W h d) w := by
  unfold lawSums
  rw [List.foldl_append]
  rfl
theorem takL_snoc {W : List Wk} {w : Wk} {l : Lim} {d : Int} : takL Y (W ++ [w]) l d = takW Y l d (takL Y W l d) w := by
  unfold takL
  rw [List.foldl_append]
  rfl
theorem sums_ext {x z : Sums} (a : x.g = z.g) (b : x.m = z.m) (c : x.s = z.s) (d : x.p = z.p) (e : x.h = z.h) : x = z := by
  cases x; cases z
  cases a; cases b; cases c; cases d; cases e
  rfl
theorem heldR_cons (r : Lim) (rs : List Lim) (h : Str) (date c : Int) : heldR (r :: rs) h date c = (if r.1 = h ∧ date < r.2.2.2 then c * r.2.1 / r.2.2.1 else 0) + heldR rs h date c := by
  unfold heldR
  rw [List.map_cons, List.sum_cons]
theorem rules_fold (h : Str) (d c : Int) : ∀ (rs : List Lim) (st : Cst),
    (∀ z, z ≠ h → (rs.foldl (ruleS1 h d c) st).money z = st.money z) ∧ (rs.foldl (ruleS1 h d c) st).money h = { st.money h with h := (st.money h).h + heldR rs h d c } ∧
    (rs.foldl (ruleS1 h d c) st).words = st.words ∧ (rs.foldl (ruleS1 h d c) st).loads = st.loads ∧
    ∀ u z, d < u → endSum z ((rs.foldl (ruleS1 h d c) st).ends u) = endSum z (st.ends u) + if h = z then heldR rs h (u - 1) c - heldR rs h u c else 0
  | [], st => ⟨fun _ _ => rfl, by unfold heldR; simp, rfl, rfl, fun u z _ => by unfold heldR; simp⟩
  | r :: rs, st => by
    obtain ⟨a1, a2, a3, a4, a5⟩ := rules_fold h d c rs (ruleS1 h d c st r)
    rw [List.foldl_cons]
    refine ⟨fun z hz => ?_, ?_, ?_, ?_, fun u z hu => ?_⟩
    · rw [a1 z hz]
      unfold ruleS1
      split
      · rename_i q
        show (if z = r.1 then _ else st.money z) = _
        rw [if_neg (fun e => hz (e.trans q.1))]
      · rfl
    · rw [a2]
      have : (ruleS1 h d c st r).money h = { st.money h with h := (st.money h).h + if r.1 = h ∧ d < r.2.2.2 then c * r.2.1 / r.2.2.1 else 0 } := by
        unfold ruleS1
        by_cases q : r.1 = h ∧ d < r.2.2.2
        · rw [if_pos q, if_pos q]
          show (if h = r.1 then _ else st.money h) = _
          rw [if_pos q.1.symm, q.1]
        · rw [if_neg q, if_neg q]
          simp
      rw [this, heldR_cons]
      refine sums_ext rfl rfl rfl rfl ?_
      show _ + _ + _ = _ + (_ + _)
      rw [Int.add_assoc]
    · rw [a3]
      unfold ruleS1
      split <;> rfl
    · rw [a4]
      unfold ruleS1
      split <;> rfl
    · rw [a5 u z hu, heldR_cons, heldR_cons]
      have : endSum z ((ruleS1 h d c st r).ends u) = endSum z (st.ends u) + if h = z ∧ r.1 = h ∧ r.2.2.2 = u then c * r.2.1 / r.2.2.1 else 0 := by
        unfold ruleS1
        by_cases q : r.1 = h ∧ d < r.2.2.2
        · rw [if_pos q]
          show endSum z (if u = r.2.2.2 then st.ends u ++ [(r.1, _)] else st.ends u) = _
          by_cases q2 : u = r.2.2.2
          · rw [if_pos q2, endSum_snoc]
            congr 1
            by_cases q3 : h = z
            · rw [if_pos (q.1.trans q3), if_pos ⟨q3, q.1, q2.symm⟩]
            · rw [if_neg (fun w => q3 (q.1.symm.trans w)), if_neg (fun w => q3 w.1)]
          · rw [if_neg q2, if_neg (fun w => q2 w.2.2.symm)]
            simp
        · rw [if_neg q, if_neg (fun w => q ⟨w.2.1, by have := w.2.2; omega⟩)]
          simp
      rw [this]
      by_cases q3 : h = z
      · simp only [q3, true_and, if_true]
        by_cases q1 : r.1 = z
        · simp only [q1, true_and]
          by_cases q4 : r.2.2.2 = u
          · rw [if_pos q4, if_pos (show u - 1 < r.2.2.2 by omega), if_neg (show ¬ u < r.2.2.2 by omega)]
            omega
          · rw [if_neg q4]
            by_cases q5 : u < r.2.2.2
            · rw [if_pos q5, if_pos (show u - 1 < r.2.2.2 by omega)]
              omega
            · rw [if_neg q5, if_neg (show ¬ u - 1 < r.2.2.2 by omega)]
              omega
        · simp only [q1, false_and, if_false]
          omega
      · simp only [q3, false_and, if_false]
        omega
theorem zip_map (f : Lim → Int → Int) (g : Lim → Int) : ∀ ls : List Lim, List.zipWith f ls (ls.map g) = ls.map fun l => f l (g l)
  | [] => rfl
  | l :: r => by
    rw [List.map_cons, List.map_cons, List.zipWith_cons_cons, zip_map f g r]
theorem Cor.keep {st : Cst} {wd : Wd} {W : List Wk} {d : Int} (C : Cor Y st wd W d) {w : Wk} (hs : ∀ h x u, sumW Y h u x w = x) (ht : ∀ l x u, takW Y l u x w = x) : Cor Y st wd (W ++ [w]) d where
  words := C.words
  whd := C.whd
  money := fun h => by rw [lawSums_snoc, hs]; exact C.money h
  ends := fun u h hu => by rw [lawSums_snoc, lawSums_snoc, hs, hs]; exact C.ends u h hu
  loads := by
    rw [C.loads]
    refine List.map_congr_left fun l _ => ?_
    rw [takL_snoc, ht]
theorem wset_hd {wd : Wd} {w : Str} {x : Str × Int} (hw : ∀ w h c, wd w = some (h, c) → h ∈ Y.names) (hx : x.1 ∈ Y.names) : ∀ z h c, wset wd w x z = some (h, c) → h ∈ Y.names := fun z h c e => by
  unfold wset at e
  by_cases q : z = w
  · rw [if_pos q] at e
    cases e
    exact hx
  · rw [if_neg q] at e
    exact hw _ _ _ e
/-- a load of what a head has more -/
theorem loads_ok (y : YGood Y) {W : List Wk} {w : Wk} {more : Int} (hf : w.fault = false) (hh : w.head ∈ Y.names) (hm : ∀ a, takE a w w.e = a + more) :
    loadL Y w.head w.date more (Y.limits.map fun l => takL Y W l l.2.2.1) = Y.limits.map fun l => takL Y (W ++ [w]) l l.2.2.1 := by
  unfold loadL
  rw [zip_map]
  refine List.map_congr_left fun l hl => ?_
  rw [takL_snoc]
  unfold loadV takW
  rw [hm]
  by_cases q1 : l.2.1 ≤ w.date ∧ w.date ≤ l.2.2.1
  · have := und_same y (y.lm l hl).1 hh
    by_cases q2 : w.head ∈ undY Y l.1
    · rw [if_pos ⟨q1, q2⟩, if_pos ⟨q1, this.mp q2, hf⟩]
    · rw [if_neg (fun z => q2 z.2), if_neg (fun z => q2 (this.mpr z.2.1))]
  · rw [if_neg (fun z => q1 z.1), if_neg (fun z => q1 z.1)]
/-- what a fault, and what comes later, adds -/
theorem fault_sum {w : Wk} (h : w.fault = true) : (∀ h x u, sumW Y h u x w = x) ∧ ∀ l x u, takW Y l u x w = x := by
  refine ⟨fun z x u => ?_, fun l x u => ?_⟩
  · unfold sumW
    rw [if_pos (.inr h)]
  · unfold takW
    rw [if_neg (fun z => by rw [h] at z; exact absurd z.2.2 (by decide))]
theorem putS_ok (y : YGood Y) {st : Cst} {wd : Wd} {W : List Wk} {d k : Int} {e : Ent} (C : Cor Y st wd W d) (hn : ∀ h ∈ e.names, h ∈ Y.names) (hl : e.lasts Y d) :
    (putS Y st d e).1 = (stepW wd (k, d, e)).2.fault ∧ Cor Y (putS Y st d e).2 (stepW wd (k, d, e)).1 (W ++ [(stepW wd (k, d, e)).2]) d := by
  cases e with
  | give h c n =>
    have hh : h ∈ Y.names := hn h (by simp [Ent.names])
    refine ⟨rfl, ?_⟩
    show Cor Y (Y.rules.foldl (ruleS1 h d c) (setM st h { st.money h with g := (st.money h).g + c })) wd (W ++ [⟨d, k, .give h c n, h, 0, false⟩]) d
    obtain ⟨a1, a2, a3, a4, a5⟩ := rules_fold h d c Y.rules (setM st h { st.money h with g := (st.money h).g + c })
    generalize Y.rules.foldl (ruleS1 h d c) (setM st h { st.money h with g := (st.money h).g + c }) = st2 at a1 a2 a3 a4 a5
    have hs : ∀ z x u, d ≤ u → sumW Y z u x ⟨d, k, .give h c n, h, 0, false⟩ = if h = z then { x with g := x.g + c, h := x.h + heldR Y.rules z u c } else x := fun z x u hu => by
      unfold sumW
      rw [if_neg (by simp; omega)]
      rfl
    refine ⟨fun w => by rw [a3]; exact C.words w, C.whd, fun z => ?_, fun u z hu => ?_, ?_⟩
    · rw [lawSums_snoc, hs z _ d (Int.le_refl d), ← C.money z]
      by_cases q : h = z
      · subst q
        rw [if_pos rfl, a2]
        show _ = _
        unfold setM
        simp
      · rw [if_neg q, a1 z (fun w => q w.symm)]
        show (if z = h then _ else st.money z) = _
        rw [if_neg (fun w => q w.symm)]
    · rw [a5 u z hu, lawSums_snoc, lawSums_snoc, hs z _ _ (by omega), hs z _ _ (by omega)]
      have := C.ends u z hu
      show endSum z (st.ends u) + _ = _
      rw [this]
      by_cases q : h = z
      · subst q
        simp only [if_true]
        omega
      · simp only [if_neg q]
        omega
    · rw [a4]
      show st.loads = _
      rw [C.loads]
      refine List.map_congr_left fun l _ => ?_
      rw [takL_snoc]
      unfold takW takE
      simp
  | hold h c u0 n =>
    have hh : h ∈ Y.names := hn h (by simp [Ent.names])
    refine ⟨rfl, ?_⟩
    have hd : d < u0 := hl.1
    show Cor Y (holdS st h c u0) wd (W ++ [⟨d, k, .hold h c u0 n, h, 0, false⟩]) d
    have hs : ∀ z x u, d ≤ u → sumW Y z u x ⟨d, k, .hold h c u0 n, h, 0, false⟩ = if h = z ∧ u < u0 then { x with h := x.h + c } else x := fun z x u hu => by
      unfold sumW
      rw [if_neg (by simp; omega)]
      rfl
    refine ⟨C.words, C.whd, fun z => ?_, fun u z hu => ?_, ?_⟩
    · rw [lawSums_snoc, hs z _ d (Int.le_refl d), ← C.money z]
      show (if z = h then _ else st.money z) = _
      by_cases q : h = z
      · subst q
        rw [if_pos rfl, if_pos ⟨rfl, hd⟩]
      · rw [if_neg (fun w => q w.symm), if_neg (fun w => q w.1)]
    · rw [lawSums_snoc, lawSums_snoc, hs z _ _ (by omega), hs z _ _ (by omega)]
      have := C.ends u z hu
      show endSum z (if u = u0 then st.ends u ++ [(h, c)] else st.ends u) = _
      by_cases q : h = z
      · subst q
        simp only [true_and]
        by_cases q2 : u = u0
        · rw [if_pos q2, endSum_snoc, if_pos rfl, if_pos (show u - 1 < u0 by omega), if_neg (show ¬ u < u0 by omega), this]
          show _ + c = _ + c - _
          omega
        · rw [if_neg q2, this]
          by_cases q3 : u < u0
          · rw [if_pos (show u - 1 < u0 by omega), if_pos q3]
            show _ = _ + c - (_ + c)
            omega
          · rw [if_neg (show ¬ u - 1 < u0 by omega), if_neg q3]
      · rw [if_neg (show ¬ (h = z ∧ u - 1 < u0) from fun w => q w.1), if_neg (show ¬ (h = z ∧ u < u0) from fun w => q w.1), ← this]
        split
        · rw [endSum_snoc, if_neg q]
          omega
        · rfl
    · show st.loads = _
      rw [C.loads]
      refine List.map_congr_left fun l _ => ?_
      rw [takL_snoc]
      unfold takW takE
      simp
  | move h o c n =>
    refine ⟨rfl, ?_⟩
    show Cor Y (putOS Y st d (.move h o c n)) wd (W ++ [⟨d, k, .move h o c n, h, 0, false⟩]) d
    have hs : ∀ z x u, d ≤ u → sumW Y z u x ⟨d, k, .move h o c n, h, 0, false⟩ = { x with m := x.m + c * ((if o = z then 1 else 0) - (if h = z then 1 else 0)) } := fun z x u hu => by
      unfold sumW
      rw [if_neg (by simp; omega)]
      rfl
    refine ⟨C.words, C.whd, fun z => ?_, fun u z hu => ?_, ?_⟩
    · rw [lawSums_snoc, hs z _ d (Int.le_refl d), ← C.money z]
      show (if z = o then _ else if z = h then _ else st.money z) = _
      by_cases q : o = z
      · subst q
        rw [if_pos rfl, if_pos rfl]
        by_cases q2 : h = o
        · subst q2
          rw [if_pos rfl]
          refine sums_ext ?_ ?_ ?_ ?_ ?_ <;> simp [setM] <;> omega
        · rw [if_neg q2]
          have q3 : ¬ o = h := fun w => q2 w.symm
          refine sums_ext ?_ ?_ ?_ ?_ ?_ <;> simp [setM, q3] <;> omega
      · rw [if_neg (fun w => q w.symm), if_neg q]
        by_cases q2 : h = z
        · subst q2
          rw [if_pos rfl, if_pos rfl]
          refine sums_ext rfl ?_ rfl rfl rfl
          simp
          omega
        · rw [if_neg (fun w => q2 w.symm), if_neg q2]
          refine sums_ext rfl ?_ rfl rfl rfl
          simp
    · rw [lawSums_snoc, lawSums_snoc, hs z _ _ (by omega), hs z _ _ (by omega)]
      exact C.ends u z hu
    · show st.loads = _
      rw [C.loads]
      refine List.map_congr_left fun l _ => ?_
      rw [takL_snoc]
      unfold takW takE
      simp
  | spend h c n =>
    have hh : h ∈ Y.names := hn h (by simp [Ent.names])
    refine ⟨rfl, ?_⟩
    show Cor Y (loadS Y (setM st h { st.money h with s := (st.money h).s + c }) h d c) wd (W ++ [⟨d, k, .spend h c n, h, 0, false⟩]) d
    have hs : ∀ z x u, d ≤ u → sumW Y z u x ⟨d, k, .spend h c n, h, 0, false⟩ = if h = z then { x with s := x.s + c, p := x.p - 0 } else x := fun z x u hu => by
      unfold sumW
      rw [if_neg (by simp; omega)]
      rfl
    refine ⟨C.words, C.whd, fun z => ?_, fun u z hu => ?_, ?_⟩
    · rw [lawSums_snoc, hs z _ d (Int.le_refl d), ← C.money z]
      show (if z = h then _ else st.money z) = _
      by_cases q : h = z
      · subst q
        rw [if_pos rfl, if_pos rfl, Int.sub_zero]
      · rw [if_neg (fun w => q w.symm), if_neg q]
    · rw [lawSums_snoc, lawSums_snoc, hs z _ _ (by omega), hs z _ _ (by omega)]
      by_cases q : h = z
      · rw [if_pos q, if_pos q]
        exact C.ends u z hu
      · rw [if_neg q, if_neg q]
        exact C.ends u z hu
    · show loadL Y h d c st.loads = _
      rw [C.loads]
      exact loads_ok y (w := ⟨d, k, .spend h c n, h, 0, false⟩) rfl hh fun a => rfl
  | promise w h c n =>
    have hh : h ∈ Y.names := hn h (by simp [Ent.names])
    cases hq : wd w with
    | some q =>
      have e1 : stepW wd (k, d, .promise w h c n) = (wd, ⟨d, k, .promise w h c n, h, 0, true⟩) := by simp only [stepW, hq]
      have e2 : putS Y st d (.promise w h c n) = (true, st) := by
        unfold putS
        rw [if_pos (show isWd (.promise w h c n) = true from rfl), if_pos (show faultS st (.promise w h c n) = true by show (st.words w).isSome = true; rw [C.words, hq]; rfl)]
      rw [e1, e2]
      obtain ⟨f1, f2⟩ := fault_sum (Y := Y) (w := ⟨d, k, .promise w h c n, h, 0, true⟩) rfl
      exact ⟨rfl, C.keep f1 f2⟩
    | none =>
      have e1 : stepW wd (k, d, .promise w h c n) = (wset wd w (h, c), ⟨d, k, .promise w h c n, h, 0, false⟩) := by simp only [stepW, hq]
      have e2 : putS Y st d (.promise w h c n) = (false, putWS Y st d (.promise w h c n)) := by
        unfold putS
        rw [if_pos (show isWd (.promise w h c n) = true from rfl), if_neg (show ¬ faultS st (.promise w h c n) = true by show ¬ (st.words w).isSome = true; rw [C.words, hq]; exact Bool.false_ne_true)]
      rw [e1, e2]
      refine ⟨rfl, ?_⟩
      have hs : ∀ z x u, d ≤ u → sumW Y z u x ⟨d, k, .promise w h c n, h, 0, false⟩ = if h = z then { x with p := x.p + c } else x := fun z x u hu => by
        unfold sumW
        rw [if_neg (by simp; omega)]
        rfl
      refine ⟨fun z => ?_, wset_hd C.whd hh, fun z => ?_, fun u z hu => ?_, ?_⟩
      · show (if z = w then _ else st.words z) = wset wd w (h, c) z
        unfold wset
        rw [C.words]
      · rw [lawSums_snoc, hs z _ d (Int.le_refl d), ← C.money z]
        show (if z = h then _ else st.money z) = _
        by_cases q : h = z
        · subst q
          exact (if_pos rfl).trans (if_pos rfl).symm
        · rw [if_neg (fun w => q w.symm), if_neg q]
      · rw [lawSums_snoc, lawSums_snoc, hs z _ _ (by omega), hs z _ _ (by omega)]
        by_cases q : h = z
        · rw [if_pos q, if_pos q]
          exact C.ends u z hu
        · rw [if_neg q, if_neg q]
          exact C.ends u z hu
      · show loadL Y h d c st.loads = _
        rw [C.loads]
        exact loads_ok y (w := ⟨d, k, .promise w h c n, h, 0, false⟩) rfl hh fun a => rfl
  | lessen w c n =>
    cases hq : wd w with
    | none =>
      have e1 : stepW wd (k, d, .lessen w c n) = (wd, ⟨d, k, .lessen w c n, "", 0, true⟩) := by simp only [stepW, hq]
      have hq2 : st.words w = none := by rw [C.words, hq]
      have e2 : putS Y st d (.lessen w c n) = (true, st) := by
        unfold putS
        rw [if_pos (show isWd (.lessen w c n) = true from rfl), if_pos (by simp only [faultS, hq2])]
      rw [e1, e2]
      obtain ⟨f1, f2⟩ := fault_sum (Y := Y) (w := ⟨d, k, .lessen w c n, "", 0, true⟩) rfl
      exact ⟨rfl, C.keep f1 f2⟩
    | some q =>
      have hq2 : st.words w = some q := by rw [C.words, hq]
      have hh : q.1 ∈ Y.names := C.whd w q.1 q.2 hq
      by_cases hlt : q.2 < c
      · have e1 : stepW wd (k, d, .lessen w c n) = (wd, ⟨d, k, .lessen w c n, q.1, 0, true⟩) := by simp only [stepW, hq, if_pos hlt]
        have e2 : putS Y st d (.lessen w c n) = (true, st) := by
          unfold putS
          rw [if_pos (show isWd (.lessen w c n) = true from rfl), if_pos (by simp only [faultS, hq2]; exact decide_eq_true hlt)]
        rw [e1, e2]
        obtain ⟨f1, f2⟩ := fault_sum (Y := Y) (w := ⟨d, k, .lessen w c n, q.1, 0, true⟩) rfl
        exact ⟨rfl, C.keep f1 f2⟩
      · have e1 : stepW wd (k, d, .lessen w c n) = (wset wd w (q.1, q.2 - gonV c q.2), ⟨d, k, .lessen w c n, q.1, gonV c q.2, false⟩) := by simp only [stepW, hq, if_neg hlt]
        have e2 : putS Y st d (.lessen w c n) = (false, loadS Y (setM (setW st w (q.1, q.2 - gonV c q.2)) q.1 { st.money q.1 with p := (st.money q.1).p - gonV c q.2 }) q.1 d (0 - gonV c q.2)) := by
          unfold putS
          rw [if_pos (show isWd (.lessen w c n) = true from rfl), if_neg (by simp only [faultS, hq2]; rw [decide_eq_false hlt]; exact Bool.false_ne_true)]
          simp only [putWS, hq2]
        rw [e1, e2]
        generalize gonV c q.2 = gn
        refine ⟨rfl, ?_⟩
        have hs : ∀ z x u, d ≤ u → sumW Y z u x ⟨d, k, .lessen w c n, q.1, gn, false⟩ = if q.1 = z then { x with p := x.p - gn } else x := fun z x u hu => by
          unfold sumW
          rw [if_neg (by simp; omega)]
          rfl
        refine ⟨fun z => ?_, wset_hd C.whd hh, fun z => ?_, fun u z hu => ?_, ?_⟩
        · show (if z = w then _ else st.words z) = wset wd w (q.1, q.2 - gn) z
          unfold wset
          rw [C.words]
        · rw [lawSums_snoc, hs z _ d (Int.le_refl d), ← C.money z]
          show (if z = q.1 then _ else st.money z) = _
          by_cases e : q.1 = z
          · subst e
            exact (if_pos rfl).trans (if_pos rfl).symm
          · rw [if_neg (fun w => e w.symm), if_neg e]
        · rw [lawSums_snoc, lawSums_snoc, hs z _ _ (by omega), hs z _ _ (by omega)]
          by_cases e : q.1 = z
          · rw [if_pos e, if_pos e]
            exact C.ends u z hu
          · rw [if_neg e, if_neg e]
            exact C.ends u z hu
        · show loadL Y q.1 d (0 - gn) st.loads = _
          rw [C.loads]
          exact loads_ok y (w := ⟨d, k, .lessen w c n, q.1, gn, false⟩) rfl hh fun a => by show a - gn = a + (0 - gn); omega
  | out w c n =>
    cases hq : wd w with
    | none =>
      have e1 : stepW wd (k, d, .out w c n) = (wd, ⟨d, k, .out w c n, "", 0, true⟩) := by simp only [stepW, hq]
      have hq2 : st.words w = none := by rw [C.words, hq]
      have e2 : putS Y st d (.out w c n) = (true, st) := by
        unfold putS
        rw [if_pos (show isWd (.out w c n) = true from rfl), if_pos (show faultS st (.out w c n) = true by show (st.words w).isNone = true; rw [hq2]; rfl)]
      rw [e1, e2]
      obtain ⟨f1, f2⟩ := fault_sum (Y := Y) (w := ⟨d, k, .out w c n, "", 0, true⟩) rfl
      exact ⟨rfl, C.keep f1 f2⟩
    | some q =>
      have hq2 : st.words w = some q := by rw [C.words, hq]
      have hh : q.1 ∈ Y.names := C.whd w q.1 q.2 hq
      have e1 : stepW wd (k, d, .out w c n) = (wset wd w (q.1, q.2 - gonV c q.2), ⟨d, k, .out w c n, q.1, gonV c q.2, false⟩) := by simp only [stepW, hq]
      have e2 : putS Y st d (.out w c n) = (false, loadS Y (setM (setW st w (q.1, q.2 - gonV c q.2)) q.1 { st.money q.1 with p := (st.money q.1).p - gonV c q.2, s := (st.money q.1).s + c }) q.1 d (c - gonV c q.2)) := by
        unfold putS
        rw [if_pos (show isWd (.out w c n) = true from rfl), if_neg (show ¬ faultS st (.out w c n) = true by show ¬ (st.words w).isNone = true; rw [hq2]; exact Bool.false_ne_true)]
        simp only [putWS, hq2]
      rw [e1, e2]
      generalize gonV c q.2 = gn
      refine ⟨rfl, ?_⟩
      have hs : ∀ z x u, d ≤ u → sumW Y z u x ⟨d, k, .out w c n, q.1, gn, false⟩ = if q.1 = z then { x with s := x.s + c, p := x.p - gn } else x := fun z x u hu => by
        unfold sumW
        rw [if_neg (by simp; omega)]
        rfl
      refine ⟨fun z => ?_, wset_hd C.whd hh, fun z => ?_, fun u z hu => ?_, ?_⟩
      · show (if z = w then _ else st.words z) = wset wd w (q.1, q.2 - gn) z
        unfold wset
        rw [C.words]
      · rw [lawSums_snoc, hs z _ d (Int.le_refl d), ← C.money z]
        show (if z = q.1 then _ else st.money z) = _
        by_cases e : q.1 = z
        · subst e
          exact (if_pos rfl).trans (if_pos rfl).symm
        · rw [if_neg (fun w => e w.symm), if_neg e]
      · rw [lawSums_snoc, lawSums_snoc, hs z _ _ (by omega), hs z _ _ (by omega)]
        by_cases e : q.1 = z
        · rw [if_pos e, if_pos e]
          exact C.ends u z hu
        · rw [if_neg e, if_neg e]
          exact C.ends u z hu
      · show loadL Y q.1 d (c - gn) st.loads = _
        rw [C.loads]
        exact loads_ok y (w := ⟨d, k, .out w c n, q.1, gn, false⟩) rfl hh fun a => rfl
theorem popS_words : ∀ (l : List (Str × Int)) (st : Cst), (popS st l).words = st.words ∧ (popS st l).loads = st.loads ∧ (popS st l).ends = st.ends ∧ ∀ h, (popS st l).money h = { st.money h with h := (st.money h).h - endSum h l }
  | [], st => ⟨rfl, rfl, rfl, fun h => by unfold endSum; simp [popS]⟩
  | q :: r, st => by
    obtain ⟨a1, a2, a3, a4⟩ := popS_words r (setM st q.1 { st.money q.1 with h := (st.money q.1).h - q.2 })
    refine ⟨a1, a2, a3, fun h => ?_⟩
    show (popS (setM st q.1 _) r).money h = _
    rw [a4]
    have e1 : endSum h (q :: r) = (if q.1 = h then q.2 else 0) + endSum h r := by
      unfold endSum
      rw [List.map_cons, List.sum_cons]
    rw [e1]
    show ({ (if h = q.1 then _ else st.money h) with h := (if h = q.1 then _ else st.money h).h - _ } : Sums) = _
    by_cases e : q.1 = h
    · subst e
      rw [if_pos rfl, if_pos rfl]
      refine sums_ext rfl rfl rfl rfl ?_
      show _ - _ - _ = _ - (_ + _)
      omega
    · rw [if_neg e, if_neg (fun w => e w.symm), Int.zero_add]
theorem lawSums_day {d : Int} {h : Str} : ∀ (W : List Wk) (x z : Sums), (∀ w ∈ W, w.date ≤ d) → x.g = z.g → x.m = z.m → x.s = z.s → x.p = z.p →
    (W.foldl (sumW Y h d) x).g = (W.foldl (sumW Y h (d + 1)) z).g ∧ (W.foldl (sumW Y h d) x).m = (W.foldl (sumW Y h (d + 1)) z).m ∧ (W.foldl (sumW Y h d) x).s = (W.foldl (sumW Y h (d + 1)) z).s ∧ (W.foldl (sumW Y h d) x).p = (W.foldl (sumW Y h (d + 1)) z).p
  | [], _, _, _, a, b, c, e => ⟨a, b, c, e⟩
  | w :: r, x, z, hw, a, b, c, e => by
    rw [List.foldl_cons, List.foldl_cons]
    have hd := hw w List.mem_cons_self
    have key : (sumW Y h d x w).g = (sumW Y h (d + 1) z w).g ∧ (sumW Y h d x w).m = (sumW Y h (d + 1) z w).m ∧ (sumW Y h d x w).s = (sumW Y h (d + 1) z w).s ∧ (sumW Y h d x w).p = (sumW Y h (d + 1) z w).p := by
      unfold sumW
      by_cases q : w.fault = true
      · rw [if_pos (.inr q), if_pos (.inr q)]
        exact ⟨a, b, c, e⟩
      · rw [if_neg (fun y => y.elim (fun _ => by omega) q), if_neg (fun y => y.elim (fun _ => by omega) q)]
        unfold sumE
        cases w.e <;> dsimp only <;> (repeat' split) <;> refine ⟨?_, ?_, ?_, ?_⟩ <;> simp_all
    exact lawSums_day r _ _ (fun v hv => hw v (List.mem_cons_of_mem _ hv)) key.1 key.2.1 key.2.2.1 key.2.2.2
theorem begin_ok {st : Cst} {wd : Wd} {W : List Wk} {d : Int} (C : Cor Y st wd W d) (hd : ∀ w ∈ W, w.date ≤ d) : Cor Y (beginS st (d + 1)) wd W (d + 1) := by
  obtain ⟨a1, a2, a3, a4⟩ := popS_words (st.ends (d + 1)) (delE st (d + 1))
  refine ⟨fun w => ?_, C.whd, fun h => ?_, fun u h hu => ?_, ?_⟩
  · show (popS (delE st (d + 1)) (st.ends (d + 1))).words w = _
    rw [a1]
    exact C.words w
  · show (popS (delE st (d + 1)) (st.ends (d + 1))).money h = _
    rw [a4]
    show ({ st.money h with h := (st.money h).h - _ } : Sums) = _
    have e1 := C.ends (d + 1) h (by omega)
    rw [show d + 1 - 1 = d by omega] at e1
    rw [e1, C.money]
    obtain ⟨b1, b2, b3, b4⟩ := lawSums_day (Y := Y) (h := h) W zS zS hd rfl rfl rfl rfl
    refine sums_ext b1 b2 b3 b4 ?_
    show (lawSums Y W h d).h - _ = (lawSums Y W h (d + 1)).h
    omega
  · show endSum h ((popS (delE st (d + 1)) (st.ends (d + 1))).ends u) = _
    rw [a3]
    show endSum h (if u = d + 1 then [] else st.ends u) = _
    rw [if_neg (by omega)]
    exact C.ends u h (by omega)
  · show (popS (delE st (d + 1)) (st.ends (d + 1))).loads = _
    rw [a2]
    exact C.loads
theorem stepW_date (wd : Wd) (it : Itm) : (stepW wd it).2.date = it.2.1 ∧ (stepW wd it).2.k = it.1 := by
  unfold stepW
  split
  · split <;> exact ⟨rfl, rfl⟩
  · split
    · exact ⟨rfl, rfl⟩
    · split <;> exact ⟨rfl, rfl⟩
  · split <;> exact ⟨rfl, rfl⟩
  · exact ⟨rfl, rfl⟩
theorem walkW_dates {p : Int → Prop} : ∀ (l : List Itm) (wd : Wd), (∀ it ∈ l, p it.2.1) → ∀ w ∈ walkW wd l, p w.date
  | [], _, _, w, h => by cases h
  | it :: r, wd, hp, w, h => by
    rcases List.mem_cons.mp h with h | h
    · rw [h, (stepW_date wd it).1]
      exact hp it List.mem_cons_self
    · exact walkW_dates r _ (fun x hx => hp x (List.mem_cons_of_mem _ hx)) w h
theorem walkW_app : ∀ (l m : List Itm) (wd : Wd), walkW wd (l ++ m) = walkW wd l ++ walkW (wdAfter wd l) m
  | [], _, _ => rfl
  | it :: r, m, wd => by
    show _ :: walkW _ (r ++ m) = _ :: walkW _ r ++ _
    rw [walkW_app r m]
    rfl
theorem faultsL_app (W V : List Wk) (d : Int) : faultsL (W ++ V) d = faultsL W d ++ faultsL V d := by
  unfold faultsL
  rw [List.filter_append, List.map_append]
theorem faultsL_no {W : List Wk} {d : Int} (h : ∀ w ∈ W, w.date ≠ d) : faultsL W d = [] := by
  unfold faultsL
  rw [List.map_eq_nil_iff, List.filter_eq_nil_iff]
  intro w hw
  simp [h w hw]
def ItOk (Y : Yr) (it : Itm) : Prop := (∀ h ∈ it.2.2.names, h ∈ Y.names) ∧ it.2.2.lasts Y it.2.1
theorem day_ok (y : YGood Y) {d : Int} : ∀ (today : List Itm) (st : Cst) (done : List Itm) (fl : List Int), Cor Y st (wdAfter wd0 done) (walkW wd0 done) d → (∀ it ∈ today, it.2.1 = d ∧ ItOk Y it) →
    (putAll Y st today fl).1 = fl ++ faultsL (walkW (wdAfter wd0 done) today) d ∧ Cor Y (putAll Y st today fl).2 (wdAfter wd0 (done ++ today)) (walkW wd0 (done ++ today)) d
  | [], st, done, fl, C, _ => by
    rw [List.append_nil]
    exact ⟨by simp [putAll, walkW, faultsL], C⟩
  | it :: r, st, done, fl, C, hd => by
    obtain ⟨hd1, hd2, hd3⟩ := hd it List.mem_cons_self
    obtain ⟨k, date, e⟩ := it
    obtain rfl : date = d := hd1
    obtain ⟨f1, C2⟩ := putS_ok y (k := k) C hd2 hd3
    have e1 : done ++ (k, date, e) :: r = (done ++ [(k, date, e)]) ++ r := by simp
    rw [← wdAfter_snoc, ← walkW_snoc] at C2
    obtain ⟨g1, g2⟩ := day_ok y r _ (done ++ [(k, date, e)]) (if (putS Y st date e).1 = true then fl ++ [k] else fl) C2 (fun x hx => hd x (List.mem_cons_of_mem _ hx))
    rw [e1]
    refine ⟨g1.trans ?_, g2⟩
    obtain ⟨s1, s2⟩ := stepW_date (wdAfter wd0 done) (k, date, e)
    show _ = fl ++ faultsL ((stepW (wdAfter wd0 done) (k, date, e)).2 :: walkW (stepW (wdAfter wd0 done) (k, date, e)).1 r) date
    rw [wdAfter_snoc, f1, show (stepW (wdAfter wd0 done) (k, date, e)).2 :: walkW (stepW (wdAfter wd0 done) (k, date, e)).1 r = [(stepW (wdAfter wd0 done) (k, date, e)).2] ++ walkW (stepW (wdAfter wd0 done) (k, date, e)).1 r from rfl, faultsL_app, ← List.append_assoc]
    congr 1
    unfold faultsL
    cases hf : (stepW (wdAfter wd0 done) (k, date, e)).2.fault with
    | true =>
      rw [if_pos rfl, List.filter_cons, if_pos (by rw [s1, hf]; simp), List.filter_nil]
      show fl ++ [k] = fl ++ [(stepW (wdAfter wd0 done) (k, date, e)).2.k]
      rw [s2]
    | false =>
      rw [if_neg Bool.false_ne_true, List.filter_cons, if_neg (by rw [hf]; simp), List.filter_nil]
      simp
theorem lawSums_later {W V : List Wk} {h : Str} {d : Int} (hv : ∀ w ∈ V, d < w.date) : lawSums Y (W ++ V) h d = lawSums Y W h d := by
  unfold lawSums
  rw [List.foldl_append]
  generalize W.foldl (sumW Y h d) zS = x
  induction V generalizing x with
  | nil => rfl
  | cons w r ih =>
    rw [List.foldl_cons, show sumW Y h d x w = x by unfold sumW; rw [if_pos (.inl (hv w List.mem_cons_self))]]
    exact ih (fun v hv' => hv v (List.mem_cons_of_mem _ hv')) x
theorem takL_later {W V : List Wk} {l : Lim} {d : Int} (hv : ∀ w ∈ V, d < w.date) : takL Y (W ++ V) l d = takL Y W l d := by
  unfold takL
  rw [List.foldl_append]
  generalize W.foldl (takW Y l d) 0 = x
  induction V generalizing x with
  | nil => rfl
  | cons w r ih =>
    rw [List.foldl_cons, show takW Y l d x w = x by unfold takW; rw [if_neg (fun z => by have := z.1.2; have := hv w List.mem_cons_self; omega)]]
    exact ih (fun v hv' => hv v (List.mem_cons_of_mem _ hv')) x
theorem takL_last {W : List Wk} {l : Lim} {d : Int} (hw : ∀ w ∈ W, w.date ≤ d) (hl : d ≤ l.2.2.1) : takL Y W l l.2.2.1 = takL Y W l d := by
  unfold takL
  generalize (0 : Int) = x
  induction W generalizing x with
  | nil => rfl
  | cons w r ih =>
    rw [List.foldl_cons, List.foldl_cons]
    have hd := hw w List.mem_cons_self
    rw [show takW Y l l.2.2.1 x w = takW Y l d x w by
      unfold takW
      by_cases q : l.2.1 ≤ w.date
      · simp only [q, true_and, hd, show w.date ≤ l.2.2.1 by omega]
      · simp only [q, false_and]]
    exact ih (fun v hv' => hw v (List.mem_cons_of_mem _ hv')) _
theorem left_same (x : Sums) : leftS x = leftL x := by
  unfold leftS leftL
  omega
theorem passH_ok {st : Cst} {W : List Wk} {d : Int} (hm : ∀ h, st.money h = lawSums Y W h d) : ∀ ns, passH st ns = passHL Y W d ns
  | [] => rfl
  | h :: r => by
    show (if leftS (st.money h) < 0 then _ else passH st r) = (if leftL (lawSums Y W h d) < 0 then _ else passHL Y W d r)
    rw [passH_ok hm r, hm, left_same]
theorem passL_ok {W V : List Wk} {d : Int} (hw : ∀ w ∈ W, w.date ≤ d) (hv : ∀ w ∈ V, d < w.date) : ∀ (ls : List Lim) (k : Int), passL d ls (ls.map fun l => takL Y W l l.2.2.1) k = passLL Y (W ++ V) d ls k
  | [], k => rfl
  | l :: r, k => by
    rw [List.map_cons]
    show (if (l.2.1 ≤ d ∧ d ≤ l.2.2.1) ∧ l.2.2.2 < takL Y W l l.2.2.1 then _ else passL d r _ (k + 1)) = (if (l.2.1 ≤ d ∧ d ≤ l.2.2.1) ∧ l.2.2.2 < takL Y (W ++ V) l d then _ else passLL Y (W ++ V) d r (k + 1))
    rw [passL_ok hw hv r, takL_later hv]
    by_cases q : l.2.1 ≤ d ∧ d ≤ l.2.2.1
    · rw [takL_last hw q.2]
    · rw [if_neg (fun z => q z.1), if_neg (fun z => q z.1)]
theorem passHL_later {W V : List Wk} {d : Int} (hv : ∀ w ∈ V, d < w.date) : ∀ ns, passHL Y (W ++ V) d ns = passHL Y W d ns
  | [] => rfl
  | h :: r => by
    show (if leftL (lawSums Y (W ++ V) h d) < 0 then _ else passHL Y (W ++ V) d r) = (if leftL (lawSums Y W h d) < 0 then _ else passHL Y W d r)
    rw [passHL_later hv r, lawSums_later hv]
theorem place_ok {st : Cst} {wd : Wd} {W V : List Wk} {d : Int} (C : Cor Y st wd W d) (hw : ∀ w ∈ W, w.date ≤ d) (hv : ∀ w ∈ V, d < w.date) {fl : List Int} (hf : fl = faultsL (W ++ V) d) : placeS Y st d fl = placeL Y (W ++ V) d := by
  unfold placeS placeL
  rw [← hf]
  unfold passS
  rw [passH_ok C.money, passHL_later hv, C.loads, passL_ok hw hv]
  all_goals rfl
theorem settle_ok (y : YGood Y) : ∀ (k : Nat) (d : Int) (st : Cst) (done w : List Itm), Cor Y st (wdAfter wd0 done) (walkW wd0 done) d → (∀ it ∈ done, it.2.1 ≤ d) → (∀ it ∈ w, d < it.2.1 ∧ ItOk Y it) → w.Pairwise (fun a b => a.2.1 ≤ b.2.1) →
    settleS Y k (d + 1) st w = breachL Y (walkW wd0 (done ++ w)) k (d + 1)
  | 0, _, _, _, _, _, _, _, _ => rfl
  | k + 1, d, st, done, w, C, hd, hw, hp => by
    have C1 := begin_ok C (walkW_dates (p := fun z => z ≤ d) done wd0 hd)
    have split : w.takeWhile (onDay (d + 1)) ++ w.dropWhile (onDay (d + 1)) = w := List.takeWhile_append_dropWhile
    have ht : ∀ it ∈ w.takeWhile (onDay (d + 1)), it.2.1 = d + 1 ∧ ItOk Y it := fun it hit => by
      refine ⟨?_, (hw it (by rw [← split]; exact List.mem_append_left _ hit)).2⟩
      have : onDay (d + 1) it = true := by
        have := List.all_takeWhile (p := onDay (d + 1)) (l := w)
        exact List.all_eq_true.mp this it hit
      exact of_decide_eq_true this
    have hr : ∀ it ∈ w.dropWhile (onDay (d + 1)), d + 1 < it.2.1 := by
      have hp2 : (w.dropWhile (onDay (d + 1))).Pairwise (fun a b => a.2.1 ≤ b.2.1) := hp.sublist (List.dropWhile_sublist _)
      have hall : ∀ it ∈ w.dropWhile (onDay (d + 1)), d < it.2.1 := fun it hit => (hw it (by rw [← split]; exact List.mem_append_right _ hit)).1
      cases hx : w.dropWhile (onDay (d + 1)) with
      | nil => intro it hit; cases hit
      | cons x r =>
        rw [hx] at hp2 hall
        have hx1 : ¬ x.2.1 = d + 1 := fun z => by
          have := List.head?_dropWhile_not (onDay (d + 1)) w
          rw [hx] at this
          simp [onDay, z] at this
        have hx2 := hall x List.mem_cons_self
        intro it hit
        rcases List.mem_cons.mp hit with rfl | hit
        · omega
        · have := (List.pairwise_cons.mp hp2).1 it hit
          omega
    obtain ⟨f1, C2⟩ := day_ok y (w.takeWhile (onDay (d + 1))) _ done [] C1 ht
    have hW : walkW wd0 (done ++ w) = walkW wd0 (done ++ w.takeWhile (onDay (d + 1))) ++ walkW (wdAfter wd0 (done ++ w.takeWhile (onDay (d + 1)))) (w.dropWhile (onDay (d + 1))) := by
      rw [← walkW_app, List.append_assoc, split]
    have hdone : ∀ it ∈ done ++ w.takeWhile (onDay (d + 1)), it.2.1 ≤ d + 1 := fun it hit => by
      rcases List.mem_append.mp hit with h | h
      · have := hd it h; omega
      · have := (ht it h).1; omega
    have hv := walkW_dates (p := fun z => d + 1 < z) (w.dropWhile (onDay (d + 1))) (wdAfter wd0 (done ++ w.takeWhile (onDay (d + 1)))) hr
    have hfl : (putAll Y (beginS st (d + 1)) (w.takeWhile (onDay (d + 1))) []).1 = faultsL (walkW wd0 (done ++ w.takeWhile (onDay (d + 1))) ++ walkW (wdAfter wd0 (done ++ w.takeWhile (onDay (d + 1)))) (w.dropWhile (onDay (d + 1)))) (d + 1) := by
      have n1 : faultsL (walkW wd0 done) (d + 1) = [] := faultsL_no fun v hv' => by have := walkW_dates (p := fun z => z ≤ d) done wd0 hd v hv'; omega
      have n2 : faultsL (walkW (wdAfter wd0 (done ++ w.takeWhile (onDay (d + 1)))) (w.dropWhile (onDay (d + 1)))) (d + 1) = [] := faultsL_no fun v hv' => by have := hv v hv'; omega
      rw [f1, faultsL_app, n2, walkW_app, faultsL_app, n1]
      simp
    have hpl := place_ok C2 (walkW_dates (p := fun z => z ≤ d + 1) _ wd0 hdone) hv hfl
    show (match placeS Y (putAll Y (beginS st (d + 1)) (w.takeWhile (onDay (d + 1))) []).2 (d + 1) (putAll Y (beginS st (d + 1)) (w.takeWhile (onDay (d + 1))) []).1 with
      | some p => some (d + 1, p)
      | none => settleS Y k (d + 1 + 1) (putAll Y (beginS st (d + 1)) (w.takeWhile (onDay (d + 1))) []).2 (w.dropWhile (onDay (d + 1)))) = (match placeL Y (walkW wd0 (done ++ w)) (d + 1) with
      | some p => some (d + 1, p)
      | none => breachL Y (walkW wd0 (done ++ w)) k (d + 1 + 1))
    rw [hpl, hW]
    have ih := settle_ok y k (d + 1) _ (done ++ w.takeWhile (onDay (d + 1))) (w.dropWhile (onDay (d + 1))) C2 hdone (fun it hit => ⟨hr it hit, (hw it (by rw [← split]; exact List.mem_append_right _ hit)).2⟩) (hp.sublist (List.dropWhile_sublist _))
    rw [ih, ← hW, List.append_assoc, split]
theorem leI_trans (a b c : Itm) (h1 : leI a b = true) (h2 : leI b c = true) : leI a c = true := leT_total.trans _ _ _ h1 h2
theorem leI_tot (a b : Itm) : (leI a b || leI b a) = true := Bool.or_eq_true_iff.mpr (leT_total.total _ _)
/-- the program's breach is the law's -/
theorem breach_same (y : YGood Y) {rows : List Row} (hr : ∀ r ∈ rows, RowOk Y r) : breachS Y rows = breachL Y (walkR rows) Y.days.toNat 1 := by
  have C0 : Cor Y (st0 Y) (wdAfter wd0 []) (walkW wd0 []) 0 := ⟨fun w => rfl, fun w h c z => (by cases z), fun h => rfl, fun u h hu => rfl, rfl⟩
  have hit : ∀ it ∈ (itemsOf rows).mergeSort leI, 0 < it.2.1 ∧ ItOk Y it := fun it hit => by
    obtain ⟨i, hi, _⟩ := itemsOf_mem (List.mem_mergeSort.mp hit)
    have := hr _ (List.mem_of_getElem? hi)
    exact ⟨by have := this.1.1; show 0 < it.2.1; omega, this.2.2⟩
  have hp : ((itemsOf rows).mergeSort leI).Pairwise (fun a b => a.2.1 ≤ b.2.1) := (List.pairwise_mergeSort leI_trans leI_tot (itemsOf rows)).imp fun {a b} h => leT_fst h
  exact settle_ok y Y.days.toNat 0 (st0 Y) [] _ C0 (fun it h => by cases h) hit hp
end


end
end Kp

set_option maxHeartbeats 4000000
namespace Kp
open PySem PySem.Spec PyProof.Rows L2
local macro_rules | `(tactic| walk_at "kp0") => `(tactic| try dsimp only [cxOf, Cx.nox, Cx.wish])
local macro_rules | `(tactic| walk_at "kp1") => `(tactic| first
  | with_reducible refine rs_seq ?_
  | with_reducible refine re_var rfl ?_
  | with_reducible refine re_int ?_
  | with_reducible refine re_str ?_
  | with_reducible refine re_op ?_
  | with_reducible refine re_cb ?_
  | with_reducible refine ra_cons ?_
  | ((with_reducible refine ra_nil ?_); first
      | refine Exists.intro _ ⟨rfl, ?_⟩
      | refine ⟨_, _, rfl, ?_⟩
      | refine ⟨_, _, _, rfl, ?_⟩
      | refine ⟨_, _, _, _, rfl, ?_⟩
      | refine ⟨_, _, _, _, _, rfl, ?_⟩
      | refine ⟨_, _, _, _, _, _, rfl, ?_⟩
      | refine And.intro rfl ?_)
  | with_reducible refine ra_nil ?_
  | with_reducible refine rs_ret ?_
  | with_reducible refine rs_asg ?_
  | with_reducible refine rg_name ?_
  | with_reducible refine rs_if ?_
  | with_reducible refine rt_test ?_
  | with_reducible refine rt_B ?_
  | with_reducible refine re_call ?_
  | with_reducible refine rr_int0 ?_
  | with_reducible refine rr_bl0 ?_
  | with_reducible refine rr_I0 rfl ?_
  | with_reducible refine re_bl ?_
  | with_reducible refine re_non ?_
  | with_reducible refine re_ty ?_
  | with_reducible refine re_ref ?_
  | with_reducible refine rs_drop ?_
  | with_reducible refine re_chain ?_
  | with_reducible refine re_andV ?_
  | with_reducible refine re_orV ?_
  | with_reducible refine re_notV ?_
  | with_reducible refine rt_not ?_
  | with_reducible refine rt_and ?_
  | with_reducible refine rt_or ?_
  | with_reducible refine rs_next ?_
  | with_reducible refine rs_cont ?_
  | with_reducible refine rs_break ?_
  | with_reducible refine rs_retN ?_
  | with_reducible refine rr_eq rfl ?_
  | with_reducible refine rr_ne rfl ?_
  | with_reducible refine rr_mulR (by omega) ?_
  | with_reducible refine rr_mulL (by omega) ?_
  | with_reducible refine rr_mod (by omega) ?_
  | with_reducible refine rr_fdiv (by omega) ?_
  | with_reducible refine ro_none ?_
  | with_reducible refine ro_some ?_
  | with_reducible refine re_tup ?_
  | with_reducible refine rg_tup tupD1 rfl ?_
  | with_reducible refine rgs_cons ?_
  | with_reducible refine rgs_nil ?_
  | with_reducible refine rr_ixT0 ?_
  | with_reducible refine rr_ixT1 ?_
  | with_reducible refine rr_ixT2 ?_
  | with_reducible refine rr_ixT3 ?_
  | with_reducible refine rr_ixT4 ?_
  | with_reducible refine rr_ixT5 ?_
  | with_reducible refine rr_isN ?_
  | with_reducible refine rr_notN ?_
  | with_reducible refine rcI1 ?_
  | with_reducible refine rcI2 ?_
  | with_reducible refine rcI3 ?_
  | with_reducible refine rcI4 ?_
  | with_reducible refine rcI5 ?_
  | with_reducible refine rc_listL ?_
  | with_reducible refine rc_lenL ?_
  | with_reducible refine rc_lenT ?_
  | with_reducible refine rc_min2 ?_
  | with_reducible refine rc_intB ?_
  | with_reducible refine re_strip ?_
  | with_reducible refine re_lst (tA := tCons _ _) ?_
  | with_reducible refine re_fld ?_
  | with_reducible refine rs_fld ?_
  | with_reducible refine re_meth ?_
  | with_reducible exact rfl
  | with_reducible refine andT ?_
  | with_reducible refine andF ?_
  | refine Exists.intro _ ⟨rfl, ?_⟩
  | refine andT ?_
  | refine andF ?_
  | assumption
  | refine And.intro rfl ?_
  | refine And.intro (by assumption) ?_
  | with_reducible refine And.intro (Nat.le_of_ble_eq_true rfl) ?_
  | with_reducible refine And.intro (by omega) ?_)
local macro_rules | `(tactic| walk_at "kp") => `(tactic| repeat (walk_at "kp1"))
section
variable {P : Program} {w : World} {K : PySem.W.Frag} {mg : Str → Option Value} {base : Heap}
theorem undL_snoc (pre : List (Str × Str)) (x : Str × Str) (h : Str) : undL (pre ++ [x]) h = if x.2 ∈ undL pre h then undL pre h ++ [x.1] else undL pre h := by
  unfold undL
  rw [List.foldl_append]
  rfl
theorem undL_len (h : Str) : ∀ (hs : List (Str × Str)), (undL hs h).length ≤ hs.length + 1 := fun hs => by
  unfold undL
  suffices ∀ (f : List Str), (hs.foldl (fun f x => if x.2 ∈ f then f ++ [x.1] else f) f).length ≤ hs.length + f.length by
    have := this [h]
    simpa using this
  induction hs with
  | nil => intro f; simp
  | cons x r ih =>
    intro f
    rw [List.foldl_cons, List.length_cons]
    have := ih (if x.2 ∈ f then f ++ [x.1] else f)
    split at this
    · rename_i q
      rw [if_pos q]
      rw [List.length_append, List.length_singleton] at this
      omega
    · rename_i q
      rw [if_neg q]
      omega
def spc_l_under (K : PySem.W.Frag) : Spc := fun ds M Pc => ∃ (Y : Yr) (h : Str), ds = [encYL Y, .str h] ∧ YGood Y ∧ Pc (.lst ((undL Y.heads h).map D.str)) M
theorem len_l_under (ds : List D) (M : Mem) (Pc : D → Mem → Prop) (h : spc_l_under K ds M Pc) : ds.length = 2 := by
  obtain ⟨_, _, rfl, _⟩ := h
  rfl
abbrev nm_l_under : List Str := ["_law_year_here", "_law_head", "_law_found", "_law_name", "_law_above"]
theorem sc_l_under : FnScope nm_l_under ["_law_year_here", "_law_head"] (defScope s_l_under) := ⟨rfl, rfl, rfl, by decide +kernel, rfl, by decide +kernel, by decide +kernel⟩
theorem ok_l_under (TX : Txt K mg base) : Kept P w K mg base 1 (He.fAd K ("_law_under", none)) ["_law_year_here", "_law_head"] (spc_l_under K) := by
  refine okD (fn_l_under TX) sc_l_under (fun _ _ _ _ _ _ us hl => match us, hl with | [_, _], _ => rfl) len_l_under fun cdv A outer s H E hr ds M Pc h => ?_
  obtain ⟨Y, h, rfl, y, k⟩ := h
  refine ⟨_, (pss_cons (ps_set (i := 2) sc_l_under.nd rfl (Or.inl rfl) (pe_lst (pa_cons (pv 1) pa_nil)))
    (pss_cons (ps_for PassesOwn.never rfl (pi_list (pe_ix ix_tup (pv 0) pe_int (fun _ _ => rfl))) (pg_tup rfl (pgs_cons (pg_name (i := 3) sc_l_under.nd rfl (Or.inl rfl)) (pgs_cons (pg_name (i := 4) sc_l_under.nd rfl (Or.inl rfl)) pgs_nil)))
    (pss_one (ps_if (pt_cmpR op_in_seq (pv 4) (pv 2) rfl) (pss_one (ps_expr (pe_bm PySem.F.plainAttrs_list PySem.F.slot_list_append PySem.F.type_list_append mt_append (pv 2) (pa_cons (pv 3) pa_nil)))) pss_nil)))
    (pss_one (ps_ret (pv 2))))), ?_⟩
  unfold encYL
  walk_at "kp0"
  refine rs_seq (rs_asg (re_lstM ?_))
  walk_at "kp"
  intro p hp
  walk_at "kp"
  refine rs_for encHd Y.heads (fun pre δ' M' => (∃ x1 x2 : Option D, δ' = [some (encYL Y), some (.str h), some (.ref p), x1, x2]) ∧ M' = mset M p (.lst ((undL pre h).map D.str))) ?_ ?_ ?_
  · walk_at "kp"
    exact ⟨.inl rfl, ⟨_, _, rfl⟩, rfl⟩
  · rintro pre x post δ' M' e ⟨⟨x1, x2, rfl⟩, rfl⟩
    have hl := undL_len h pre
    have hl2 : pre.length ≤ 8 := by
      have := y.hd.le
      rw [e, List.length_append] at this
      omega
    rw [undL_snoc]
    refine rg_tup tupD1 rfl ?_
    walk_at "kp"
    refine rr_in (.inl (lstD3 mset_same)) ?_
    walk_at "kp"
    refine ⟨fun h1 => ?_, fun h1 => ?_⟩
    · rw [if_pos (of_decide_eq_true h1)]
      walk_at "kp"
      refine re_append ?_
      walk_at "kp"
      refine ⟨⟨_, mset_same⟩, ?_⟩
      walk_at "kp"
      refine ⟨_, mset_same, by rw [List.length_map]; omega, ⟨_, _, rfl⟩, ?_⟩
      rw [mset_mset, List.map_append]
      rfl
    · rw [if_neg (of_decide_eq_false h1)]
      walk_at "kp"
      exact ⟨⟨_, _, rfl⟩, rfl⟩
  · rintro δ' M' ⟨⟨x1, x2, rfl⟩, rfl⟩
    exact rs_ret (re_frz (re_var rfl ⟨_, _, Frz.lst mset_same, by rw [mdel_mset hp]; exact k⟩))


end
end Kp

set_option maxHeartbeats 4000000
namespace Kp
open PySem PySem.Spec PyProof.Rows L2
local macro_rules | `(tactic| walk_at "kp0") => `(tactic| try dsimp only [cxOf, Cx.nox, Cx.wish])
local macro_rules | `(tactic| walk_at "kp1") => `(tactic| first
  | with_reducible refine rr_strF (by assumption) ?_
  | with_reducible refine rr_strF (by decide +kernel) ?_
  | with_reducible refine rr_strT ?_
  | with_reducible refine rs_seq ?_
  | with_reducible refine re_var rfl ?_
  | with_reducible refine re_int ?_
  | with_reducible refine re_str ?_
  | with_reducible refine re_op ?_
  | with_reducible refine re_cb ?_
  | with_reducible refine ra_cons ?_
  | ((with_reducible refine ra_nil ?_); first
      | refine Exists.intro _ ⟨rfl, ?_⟩
      | refine ⟨_, _, rfl, ?_⟩
      | refine ⟨_, _, _, rfl, ?_⟩
      | refine ⟨_, _, _, _, rfl, ?_⟩
      | refine ⟨_, _, _, _, _, rfl, ?_⟩
      | refine ⟨_, _, _, _, _, _, rfl, ?_⟩
      | refine And.intro rfl ?_)
  | with_reducible refine ra_nil ?_
  | with_reducible refine rs_ret ?_
  | with_reducible refine rs_asg ?_
  | with_reducible refine rg_name ?_
  | with_reducible refine rs_if ?_
  | with_reducible refine rt_test ?_
  | with_reducible refine rt_B ?_
  | with_reducible refine re_call ?_
  | with_reducible refine rr_int0 ?_
  | with_reducible refine rr_bl0 ?_
  | with_reducible refine rr_I0 rfl ?_
  | with_reducible refine re_bl ?_
  | with_reducible refine re_non ?_
  | with_reducible refine re_ty ?_
  | with_reducible refine re_ref ?_
  | with_reducible refine rs_drop ?_
  | with_reducible refine re_chain ?_
  | with_reducible refine re_andV ?_
  | with_reducible refine re_orV ?_
  | with_reducible refine re_notV ?_
  | with_reducible refine rt_not ?_
  | with_reducible refine rt_and ?_
  | with_reducible refine rt_or ?_
  | with_reducible refine rs_next ?_
  | with_reducible refine rs_cont ?_
  | with_reducible refine rs_break ?_
  | with_reducible refine rs_retN ?_
  | with_reducible refine rr_eq rfl ?_
  | with_reducible refine rr_ne rfl ?_
  | with_reducible refine rr_mulR (by omega) ?_
  | with_reducible refine rr_mulL (by omega) ?_
  | with_reducible refine rr_mod (by omega) ?_
  | with_reducible refine rr_fdiv (by omega) ?_
  | with_reducible refine ro_none ?_
  | with_reducible refine ro_some ?_
  | with_reducible refine re_tup ?_
  | with_reducible refine rg_tup tupD1 rfl ?_
  | with_reducible refine rgs_cons ?_
  | with_reducible refine rgs_nil ?_
  | with_reducible refine rr_ixT0 ?_
  | with_reducible refine rr_ixT1 ?_
  | with_reducible refine rr_ixT2 ?_
  | with_reducible refine rr_ixT3 ?_
  | with_reducible refine rr_ixT4 ?_
  | with_reducible refine rr_ixT5 ?_
  | with_reducible refine rr_isN ?_
  | with_reducible refine rr_notN ?_
  | with_reducible refine rcI1 ?_
  | with_reducible refine rcI2 ?_
  | with_reducible refine rcI3 ?_
  | with_reducible refine rcI4 ?_
  | with_reducible refine rcI5 ?_
  | with_reducible refine rc_listL ?_
  | with_reducible refine rc_lenL ?_
  | with_reducible refine rc_lenT ?_
  | with_reducible refine rc_min2 ?_
  | with_reducible refine rc_intB ?_
  | with_reducible refine re_strip ?_
  | with_reducible refine re_lst (tA := tCons _ _) ?_
  | with_reducible refine re_fld ?_
  | with_reducible refine rs_fld ?_
  | with_reducible refine re_meth ?_
  | with_reducible exact rfl
  | with_reducible refine andT ?_
  | with_reducible refine andF ?_
  | refine Exists.intro _ ⟨rfl, ?_⟩
  | refine andT ?_
  | refine andF ?_
  | assumption
  | refine And.intro rfl ?_
  | refine And.intro (by assumption) ?_
  | with_reducible refine And.intro (Nat.le_of_ble_eq_true rfl) ?_
  | with_reducible refine And.intro (by omega) ?_)
local macro_rules | `(tactic| walk_at "kp") => `(tactic| repeat (walk_at "kp1"))
section
variable {P : Program} {w : World} {K : PySem.W.Frag} {mg : Str → Option Value} {base : Heap}
theorem rr_so {M : Mem} {P : D → Mem → Prop} {s : Str} {b : Bool} (hb : decide (s ∈ ([("spend" : Str), "out"])) = b) (k : P (.bl b) M) : RR K (rIn K false) (.str s) (.tup [.str "spend", .str "out"]) M P :=
  rr_in (ys := ["spend", "out"]) (.inr (.inl rfl)) (by rw [if_neg Bool.false_ne_true, hb]; exact k)
theorem re_sumG {M : Mem} {δ : DEnv} {P : D → Mem → Prop} {n : Nat} {p : Addr} {wd : Str} {x : Sums} {i : Int} (hv : δ[n]? = some (some (.ref p))) (hM : M p = some (.dic (sumsK x))) (g1 : getD (sumsK x) (.inr wd) = some (.int i)) (k : P (.int i) M) : RE K (tDGet (tVar n) (tC (.str wd))) δ M P :=
  re_dget (re_var hv (re_str ⟨p, _, .inr wd, _, rfl, hM, rfl, g1, k⟩))
theorem re_late {M : Mem} {δ : DEnv} {P : D → Mem → Prop} {a b c : Nat} {i j : Int} {f : Bool} (h1 : δ[a]? = some (some (.int i))) (h2 : δ[b]? = some (some (.int j))) (h3 : δ[c]? = some (some (.bl f))) (k : P (.bl (decide (j < i) || f)) M) :
    RE K (tOrV (tOp (rI0 fun i j => .bl (decide (j < i))) (tVar a) (tVar b)) (tVar c)) δ M P := by
  refine re_orV (re_op (re_var h1 (re_var h2 (rr_bl0 ⟨_, rfl, fun z => ?_, fun z => re_var h3 ?_⟩))))
  · rw [z] at k
    exact k
  · rw [z] at k
    exact k
theorem rr_word {M : Mem} {P : D → Mem → Prop} {a b : D} {c : Bool} (k : P (if c = true then b else a) M) : RR K (rIxL K) (.lst [a, b]) (.int (if c = true then 1 else 0)) M P := by
  cases c with
  | true => exact rr_ixL lstD1 (Kp.atI_nat (n := 1) rfl) k
  | false => exact rr_ixL lstD1 (Kp.atI_nat (n := 0) rfl) k
theorem rs_sumA {M : Mem} {δ : DEnv} {E : DE} {n : Nat} {tv : TE} {rd : V → V → Hp → VK → Prop} {g : Int → Int → Int} {p : Addr} {wd : Str} {x x' : Sums} {i j : Int} (hrd : ∀ i j H Q, Q (.int (g i j)) H → rd (.int i) (.int j) H Q)
    (hv : δ[n]? = some (some (.ref p))) (hM : M p = some (.dic (sumsK x))) (g1 : getD (sumsK x) (.inr wd) = some (.int i)) (g2 : setD (sumsK x) (.inr wd) (.int (g i j)) = sumsK x') (ht : RE K tv δ M fun z M3 => z = .int j ∧ M3 = M)
    (k : E.nx δ (mset M p (.dic (sumsK x')))) : RS K (sDAug (tVar n) (tC (.str wd)) tv rd) δ M E := by
  refine rs_daug hrd (re_var hv (re_str ⟨p, sumsK x, .inr wd, i, rfl, hM, rfl, g1, ht.imp fun z M3 h => ?_⟩))
  obtain ⟨rfl, rfl⟩ := h
  refine ⟨j, sumsK x, rfl, hM, (by show 5 < 100000; decide), ?_⟩
  rw [g2]
  exact k
theorem late_of {a b : Int} {f : Bool} (h : (decide (b < a) || f) = true) : b < a ∨ f = true := by
  rcases Bool.or_eq_true_iff.mp h with h | h
  · exact .inl (of_decide_eq_true h)
  · exact .inr h
theorem of_late {a b : Int} {f : Bool} (h : b < a ∨ f = true) : (decide (b < a) || f) = true := by
  rcases h with h | h
  · exact Bool.or_eq_true_iff.mpr (.inl (decide_eq_true h))
  · exact Bool.or_eq_true_iff.mpr (.inr h)
theorem heldR_snoc (pre : List Lim) (r : Lim) (h : Str) (date c : Int) : heldR (pre ++ [r]) h date c = heldR pre h date c + if r.1 = h ∧ date < r.2.2.2 then c * r.2.1 / r.2.2.1 else 0 := by
  unfold heldR
  rw [List.map_append, List.sum_append]
  simp
def spc_l_sums (K : PySem.W.Frag) : Spc := fun ds M Pc => ∃ (Y : Yr) (W : List Wk) (h : Str) (date : Int), ds = [encYL Y, .lst (W.map encW), .str h, .int date] ∧ YGood Y ∧ ∀ p, M p = none → Pc (.ref p) (mset M p (.dic (setD (sumsK (lawSums Y W h date)) (.inr "left") (.int (leftL (lawSums Y W h date))))))
theorem len_l_sums (ds : List D) (M : Mem) (Pc : D → Mem → Prop) (h : spc_l_sums K ds M Pc) : ds.length = 4 := by
  obtain ⟨_, _, _, _, rfl, _⟩ := h
  rfl
abbrev nm_l_sums : List Str := ["_law_year_here", "_law_walked_here", "_law_head", "_law_date", "_law_sums_here", "_law_when", "_law_k", "_law_told", "_law_where", "_law_gone", "_law_fault", "_law_word", "_law_name", "_law_part", "_law_whole", "_law_until", "_law_way"]
theorem sc_l_sums : FnScope nm_l_sums ["_law_year_here", "_law_walked_here", "_law_head", "_law_date"] (defScope s_l_sums) := ⟨rfl, rfl, rfl, by decide +kernel, rfl, by decide +kernel, by decide +kernel⟩
theorem ok_l_sums (TX : Txt K mg base) : Kept P w K mg base 1 (He.fAd K ("_law_sums", none)) ["_law_year_here", "_law_walked_here", "_law_head", "_law_date"] (spc_l_sums K) := by
  refine okD (fn_l_sums TX) sc_l_sums (fun _ _ _ _ _ _ us hl => match us, hl with | [_, _, _, _], _ => rfl) len_l_sums fun cdv A outer s H E hr ds M Pc h => ?_
  obtain ⟨Y, W, h, date, rfl, y, k⟩ := h
  refine ⟨_, (pss_cons (ps_set (i := 4) sc_l_sums.nd rfl (Or.inl rfl) (pe_disp (pps_cons pe_str pe_int (pps_cons pe_str pe_int (pps_cons pe_str pe_int (pps_cons pe_str pe_int (pps_cons pe_str pe_int pps_nil))))) (by rfl) (by rfl) (fun z => by cases z) (by decide)))
    (pss_cons (ps_for PassesOwn.never rfl (pi_list (pv 1)) (pg_tup rfl (pgs_cons (pg_name (i := 5) sc_l_sums.nd rfl (Or.inl rfl)) (pgs_cons (pg_name (i := 6) sc_l_sums.nd rfl (Or.inl rfl)) (pgs_cons (pg_name (i := 7) sc_l_sums.nd rfl (Or.inl rfl)) (pgs_cons (pg_name (i := 8) sc_l_sums.nd rfl (Or.inl rfl)) (pgs_cons (pg_name (i := 9) sc_l_sums.nd rfl (Or.inl rfl)) (pgs_cons (pg_name (i := 10) sc_l_sums.nd rfl (Or.inl rfl)) pgs_nil)))))))
    (pss_cons (ps_set (i := 11) sc_l_sums.nd rfl (Or.inl rfl) (pe_ix ix_list (pe_lst (pa_cons (pe_ix ix_tup (pv 7) pe_int (fun _ _ => rfl)) (pa_cons pe_str pa_nil))) (pe_callTy call_int1 rfl (n_int TX) (by decide +kernel) (pa_cons (pe_or (pe_cmpR op_gt (pv 5) (pv 3) (nomark _)) (pe_one (pv 10))) pa_nil)) (fun _ _ => rfl)))
    (pss_one (ps_if (PW.pt (pw_and (pt_cmpR op_eq (pv 8) (pv 2) (nomark _)) (pw_and1 (pt_cmpR op_eq (pv 11) pe_str (nomark _))))) (pss_cons (ps_daug (hu_of hr) (pv 4) pe_str (pe_ix ix_tup (pv 7) pe_int (fun _ _ => rfl)) in_add (fun _ _ _ => rfl))
    (pss_one (ps_for PassesOwn.never rfl (pi_list (pe_ix ix_tup (pv 0) pe_int (fun _ _ => rfl))) (pg_tup rfl (pgs_cons (pg_name (i := 12) sc_l_sums.nd rfl (Or.inl rfl)) (pgs_cons (pg_name (i := 13) sc_l_sums.nd rfl (Or.inl rfl)) (pgs_cons (pg_name (i := 14) sc_l_sums.nd rfl (Or.inl rfl)) (pgs_cons (pg_name (i := 15) sc_l_sums.nd rfl (Or.inl rfl)) pgs_nil)))))
    (pss_one (ps_if (PW.pt (pw_and (pt_cmpR op_eq (pv 12) (pv 2) (nomark _)) (pw_and1 (pt_cmpR op_gt (pv 15) (pv 3) (nomark _))))) (pss_one (ps_daug (hu_of hr) (pv 4) pe_str (pe_op op_fdivW (pe_op op_mul (pe_ix ix_tup (pv 7) pe_int (fun _ _ => rfl)) (pv 13)) (pv 14)) in_add (fun _ _ _ => rfl))) pss_nil))))) (pss_one (ps_if (PW.pt (pw_and (pt_cmpR op_eq (pv 8) (pv 2) (nomark _)) (pw_and (pt_cmpR op_eq (pv 11) pe_str (nomark _)) (pw_and1 (pt_cmpR op_gt (pe_ix ix_tup (pv 7) pe_int (fun _ _ => rfl)) (pv 3) (nomark _)))))) (pss_one (ps_daug (hu_of hr) (pv 4) pe_str (pe_ix ix_tup (pv 7) pe_int (fun _ _ => rfl)) in_add (fun _ _ _ => rfl))) (pss_one (ps_if (pt_cmpR op_eq (pv 11) pe_str (nomark _)) (pss_cons (ps_set (i := 16) sc_l_sums.nd rfl (Or.inl rfl) (pe_op op_sub (pe_callTy call_int1 rfl (n_int TX) (by decide +kernel) (pa_cons (pe_cmpR op_eq (pe_ix ix_tup (pv 7) pe_int (fun _ _ => rfl)) (pv 2) (nomark _)) pa_nil)) (pe_callTy call_int1 rfl (n_int TX) (by decide +kernel) (pa_cons (pe_cmpR op_eq (pv 8) (pv 2) (nomark _)) pa_nil))))
    (pss_one (ps_daug (hu_of hr) (pv 4) pe_str (pe_op op_mul (pe_ix ix_tup (pv 7) pe_int (fun _ _ => rfl)) (pv 16)) in_add (fun _ _ _ => rfl)))) (pss_one (ps_if (PW.pt (pw_and (pt_cmpR op_eq (pv 8) (pv 2) (nomark _)) (pw_and1 (pt_cmpR op_in_seq (pv 11) (pe_tup (pa_cons pe_str (pa_cons pe_str pa_nil))) rfl)))) (pss_cons (ps_daug (hu_of hr) (pv 4) pe_str (pe_ix ix_tup (pv 7) pe_int (fun _ _ => rfl)) in_add (fun _ _ _ => rfl))
    (pss_one (ps_daug (hu_of hr) (pv 4) pe_str (pv 9) in_sub (fun _ _ _ => rfl)))) (pss_one (ps_if (PW.pt (pw_and (pt_cmpR op_eq (pv 8) (pv 2) (nomark _)) (pw_and1 (pt_cmpR op_eq (pv 11) pe_str (nomark _))))) (pss_one (ps_daug (hu_of hr) (pv 4) pe_str (pe_ix ix_tup (pv 7) pe_int (fun _ _ => rfl)) in_add (fun _ _ _ => rfl))) (pss_one (ps_if (PW.pt (pw_and (pt_cmpR op_eq (pv 8) (pv 2) (nomark _)) (pw_and1 (pt_cmpR op_eq (pv 11) pe_str (nomark _))))) (pss_one (ps_daug (hu_of hr) (pv 4) pe_str (pv 9) in_sub (fun _ _ _ => rfl))) pss_nil))))))))))))))
    (pss_cons (ps_set (i := 9) sc_l_sums.nd rfl (Or.inl rfl) (pe_op op_add (pe_op op_add (pe_dget (hu_of hr) (pv 4) pe_str (fun _ _ => rfl)) (pe_dget (hu_of hr) (pv 4) pe_str (fun _ _ => rfl))) (pe_dget (hu_of hr) (pv 4) pe_str (fun _ _ => rfl))))
    (pss_cons (ps_dput (hu_of hr) (pv 4) pe_str (pe_op op_sub (pe_op op_add (pe_dget (hu_of hr) (pv 4) pe_str (fun _ _ => rfl)) (pe_dget (hu_of hr) (pv 4) pe_str (fun _ _ => rfl))) (pv 9)) rfl)
    (pss_one (ps_ret (pv 4))))))), ?_⟩
  unfold encYL
  walk_at "kp0"
  walk_at "kp"
  refine re_disp fun p hp => ?_
  refine re_str (re_int (re_str (re_int (re_str (re_int (re_str (re_int (re_str (re_int ⟨mset_same, sumsK zS, rfl, by decide, ?_⟩)))))))))
  rw [mset_mset, show mergeD [] (sumsK zS) = sumsK zS from rfl]
  walk_at "kp"
  refine rs_for encW W (fun pre δ' M' => (∃ x1 x2 x3 x4 x5 x6 x7 x8 x9 x10 x11 x12 : Option D, δ' = [some (encYL Y), some (.lst (W.map encW)), some (.str h), some (.int date), some (.ref p), x1, x2, x3, x4, x5, x6, x7, x8, x9, x10, x11, x12]) ∧ M' = mset M p (.dic (sumsK (lawSums Y pre h date)))) ?_ ?_ ?_
  · walk_at "kp"
    exact ⟨.inl rfl, ⟨_, _, _, _, _, _, _, _, _, _, _, _, rfl⟩, rfl⟩
  · rintro pre w post δ' M' e ⟨⟨x1, x2, x3, x4, x5, x6, x7, x8, x9, x10, x11, x12, rfl⟩, rfl⟩
    rw [lawSums_snoc]
    generalize lawSums Y pre h date = x
    obtain ⟨wdate, wk, we, whead, wgone, wfault⟩ := w
    refine rg_tup (d := encW ⟨wdate, wk, we, whead, wgone, wfault⟩) (ds := [.int wdate, .int wk, encT we, .str whead, .int wgone, .bl wfault]) (.inl rfl) rfl ?_
    walk_at "kp"
    cases we with
    | give c1 c2 c3 =>
      by_cases hlate : (decide (date < wdate) || wfault) = true
      · rw [show sumW Y h date x ⟨wdate, wk, .give c1 c2 c3, whead, wgone, wfault⟩ = x from if_pos (late_of hlate)]
        dsimp only [encT]
        refine rr_ixT0 (ra_cons (re_str (ra_nil ⟨by decide, re_cb (ra_cons (re_late (i := wdate) (j := date) (f := wfault) rfl rfl rfl (ra_nil (rc_intB (rr_word ?_)))))⟩)))
        rw [hlate, if_pos rfl]
        by_cases hh : whead = h
        · subst hh
          walk_at "kp"
          refine rr_so (b := false) (by decide +kernel) ?_
          walk_at "kp"
          exact ⟨⟨_, _, _, _, _, _, _, _, _, _, _, _, rfl⟩, rfl⟩
        · walk_at "kp"
          exact ⟨⟨_, _, _, _, _, _, _, _, _, _, _, _, rfl⟩, rfl⟩
      · rw [show sumW Y h date x ⟨wdate, wk, .give c1 c2 c3, whead, wgone, wfault⟩ = sumE Y h date x ⟨wdate, wk, .give c1 c2 c3, whead, wgone, wfault⟩ (.give c1 c2 c3) from if_neg fun z => hlate (of_late z)]
        dsimp only [encT]
        refine rr_ixT0 (ra_cons (re_str (ra_nil ⟨by decide, re_cb (ra_cons (re_late (i := wdate) (j := date) (f := wfault) rfl rfl rfl (ra_nil (rc_intB (rr_word ?_)))))⟩)))
        rw [Bool.eq_false_iff.mpr hlate, if_neg Bool.false_ne_true]
        by_cases hh : whead = h
        · subst hh
          rw [show sumE Y whead date x ⟨wdate, wk, .give c1 c2 c3, whead, wgone, wfault⟩ (.give c1 c2 c3) = { x with g := x.g + c2, h := x.h + heldR Y.rules whead date c2 } from if_pos rfl]
          walk_at "kp"
          refine rs_sumA (x := x) (x' := { x with g := x.g + c2 }) rdAdd rfl mset_same sums_get_g sums_set_g (re_op (re_var rfl (re_int (rr_ixT2 ⟨rfl, rfl⟩)))) ?_
          rw [mset_mset]
          refine rs_for encLm Y.rules (fun pre2 δ' M' => (∃ y1 y2 y4 y5 y6 y7 y8 y9 y10 y11 y12 : Option D, δ' = [some (encYL Y), some (.lst (W.map encW)), some (.str whead), some (.int date), some (.ref p), y1, y2, some (.tup [.str "give", .str c1, .int c2, .str c3]), y4, y5, y6, y7, y8, y9, y10, y11, y12]) ∧ M' = mset M p (.dic (sumsK { x with g := x.g + c2, h := x.h + heldR pre2 whead date c2 }))) ?_ ?_ ?_
          · unfold encYL
            walk_at "kp"
            exact ⟨.inl rfl, ⟨_, _, _, _, _, _, _, _, _, _, _, rfl⟩, by rw [show heldR [] whead date c2 = 0 from rfl, Int.add_zero]⟩
          · rintro pre2 r post2 δ' M' e2 ⟨⟨y1, y2, y4, y5, y6, y7, y8, y9, y10, y11, y12, rfl⟩, rfl⟩
            obtain ⟨r1, r2, r3, r4⟩ := y.rl r (by rw [e2]; simp)
            obtain ⟨rh, rp, rw_, ru⟩ := r
            rw [heldR_snoc]
            refine rg_tup (d := encLm (rh, rp, rw_, ru)) (ds := [.str rh, .int rp, .int rw_, .int ru]) (.inl rfl) rfl ?_
            dsimp only at r1 r2 r3 r4 ⊢
            by_cases hr : rh = whead
            · subst hr
              walk_at "kp"
              refine ⟨fun h1 => ?_, fun h1 => ?_⟩
              · rw [if_pos ⟨rfl, of_decide_eq_true h1⟩]
                refine rs_sumA (x := { x with g := x.g + c2, h := x.h + heldR pre2 rh date c2 }) (x' := { x with g := x.g + c2, h := x.h + heldR pre2 rh date c2 + c2 * rp / rw_ }) rdAdd rfl mset_same sums_get_h sums_set_h (re_op (re_op (re_op (re_var rfl (re_int (rr_ixT2 (re_var rfl (rr_mulR (by omega) (re_var rfl (rr_fdiv (by omega) ⟨rfl, rfl⟩)))))))))) ?_
                rw [mset_mset]
                exact ⟨⟨_, _, _, _, _, _, _, _, _, _, _, rfl⟩, by rw [Int.add_assoc]⟩
              · rw [if_neg fun z => of_decide_eq_false h1 z.2, Int.add_zero]
                walk_at "kp"
                exact ⟨⟨_, _, _, _, _, _, _, _, _, _, _, rfl⟩, rfl⟩
            · rw [if_neg fun z => hr z.1, Int.add_zero]
              walk_at "kp"
              exact ⟨⟨_, _, _, _, _, _, _, _, _, _, _, rfl⟩, rfl⟩
          · rintro δ' M' ⟨⟨y1, y2, y4, y5, y6, y7, y8, y9, y10, y11, y12, rfl⟩, rfl⟩
            exact ⟨⟨_, _, _, _, _, _, _, _, _, _, _, _, rfl⟩, rfl⟩
        · rw [show sumE Y h date x ⟨wdate, wk, .give c1 c2 c3, whead, wgone, wfault⟩ (.give c1 c2 c3) = x from if_neg hh]
          walk_at "kp"
          exact ⟨⟨_, _, _, _, _, _, _, _, _, _, _, _, rfl⟩, rfl⟩
    | hold c1 c2 c3 c4 =>
      by_cases hlate : (decide (date < wdate) || wfault) = true
      · rw [show sumW Y h date x ⟨wdate, wk, .hold c1 c2 c3 c4, whead, wgone, wfault⟩ = x from if_pos (late_of hlate)]
        dsimp only [encT]
        refine rr_ixT0 (ra_cons (re_str (ra_nil ⟨by decide, re_cb (ra_cons (re_late (i := wdate) (j := date) (f := wfault) rfl rfl rfl (ra_nil (rc_intB (rr_word ?_)))))⟩)))
        rw [hlate, if_pos rfl]
        by_cases hh : whead = h
        · subst hh
          walk_at "kp"
          refine rr_so (b := false) (by decide +kernel) ?_
          walk_at "kp"
          exact ⟨⟨_, _, _, _, _, _, _, _, _, _, _, _, rfl⟩, rfl⟩
        · walk_at "kp"
          exact ⟨⟨_, _, _, _, _, _, _, _, _, _, _, _, rfl⟩, rfl⟩
      · rw [show sumW Y h date x ⟨wdate, wk, .hold c1 c2 c3 c4, whead, wgone, wfault⟩ = sumE Y h date x ⟨wdate, wk, .hold c1 c2 c3 c4, whead, wgone, wfault⟩ (.hold c1 c2 c3 c4) from if_neg fun z => hlate (of_late z)]
        dsimp only [encT]
        refine rr_ixT0 (ra_cons (re_str (ra_nil ⟨by decide, re_cb (ra_cons (re_late (i := wdate) (j := date) (f := wfault) rfl rfl rfl (ra_nil (rc_intB (rr_word ?_)))))⟩)))
        rw [Bool.eq_false_iff.mpr hlate, if_neg Bool.false_ne_true]
        by_cases hh : whead = h
        · subst hh
          walk_at "kp"
          refine ⟨fun h1 => ?_, fun h1 => ?_⟩
          · rw [show sumE Y whead date x ⟨wdate, wk, .hold c1 c2 c3 c4, whead, wgone, wfault⟩ (.hold c1 c2 c3 c4) = { x with h := x.h + c2 } from if_pos ⟨rfl, of_decide_eq_true h1⟩]
            refine rs_sumA (x := x) (x' := { x with h := x.h + c2 }) rdAdd rfl mset_same sums_get_h sums_set_h (re_op (re_var rfl (re_int (rr_ixT2 ⟨rfl, rfl⟩)))) ?_
            rw [mset_mset]
            exact ⟨⟨_, _, _, _, _, _, _, _, _, _, _, _, rfl⟩, rfl⟩
          · rw [show sumE Y whead date x ⟨wdate, wk, .hold c1 c2 c3 c4, whead, wgone, wfault⟩ (.hold c1 c2 c3 c4) = x from if_neg fun z => of_decide_eq_false h1 z.2]
            walk_at "kp"
            refine rr_so (b := false) (by decide +kernel) ?_
            walk_at "kp"
            exact ⟨⟨_, _, _, _, _, _, _, _, _, _, _, _, rfl⟩, rfl⟩
        · rw [show sumE Y h date x ⟨wdate, wk, .hold c1 c2 c3 c4, whead, wgone, wfault⟩ (.hold c1 c2 c3 c4) = x from if_neg fun z => hh z.1]
          walk_at "kp"
          exact ⟨⟨_, _, _, _, _, _, _, _, _, _, _, _, rfl⟩, rfl⟩
    | move c1 c2 c3 c4 =>
      by_cases hlate : (decide (date < wdate) || wfault) = true
      · rw [show sumW Y h date x ⟨wdate, wk, .move c1 c2 c3 c4, whead, wgone, wfault⟩ = x from if_pos (late_of hlate)]
        dsimp only [encT]
        refine rr_ixT0 (ra_cons (re_str (ra_nil ⟨by decide, re_cb (ra_cons (re_late (i := wdate) (j := date) (f := wfault) rfl rfl rfl (ra_nil (rc_intB (rr_word ?_)))))⟩)))
        rw [hlate, if_pos rfl]
        by_cases hh : whead = h
        · subst hh
          walk_at "kp"
          refine rr_so (b := false) (by decide +kernel) ?_
          walk_at "kp"
          exact ⟨⟨_, _, _, _, _, _, _, _, _, _, _, _, rfl⟩, rfl⟩
        · walk_at "kp"
          exact ⟨⟨_, _, _, _, _, _, _, _, _, _, _, _, rfl⟩, rfl⟩
      · rw [show sumW Y h date x ⟨wdate, wk, .move c1 c2 c3 c4, whead, wgone, wfault⟩ = sumE Y h date x ⟨wdate, wk, .move c1 c2 c3 c4, whead, wgone, wfault⟩ (.move c1 c2 c3 c4) from if_neg fun z => hlate (of_late z)]
        dsimp only [encT]
        refine rr_ixT0 (ra_cons (re_str (ra_nil ⟨by decide, re_cb (ra_cons (re_late (i := wdate) (j := date) (f := wfault) rfl rfl rfl (ra_nil (rc_intB (rr_word ?_)))))⟩)))
        rw [Bool.eq_false_iff.mpr hlate, if_neg Bool.false_ne_true]
        by_cases hh : whead = h
        · subst hh
          by_cases hc : c2 = whead
          · rw [show sumE Y whead date x ⟨wdate, wk, .move c1 c2 c3 c4, whead, wgone, wfault⟩ (.move c1 c2 c3 c4) = { x with m := x.m + c3 * (0) } from by unfold sumE; simp [hc]]
            subst hc
            walk_at "kp"
            refine rs_sumA (x := x) (x' := { x with m := x.m + c3 * (0) }) rdAdd rfl mset_same sums_get_m sums_set_m (re_op (re_op (re_var rfl (re_int (rr_ixT3 (re_var rfl (rr_mulR (by decide) ⟨rfl, rfl⟩))))))) ?_
            rw [mset_mset]
            exact ⟨⟨_, _, _, _, _, _, _, _, _, _, _, _, rfl⟩, rfl⟩
          · rw [show sumE Y whead date x ⟨wdate, wk, .move c1 c2 c3 c4, whead, wgone, wfault⟩ (.move c1 c2 c3 c4) = { x with m := x.m + c3 * (-1) } from by unfold sumE; simp [hc]]
            skip
            walk_at "kp"
            refine rs_sumA (x := x) (x' := { x with m := x.m + c3 * (-1) }) rdAdd rfl mset_same sums_get_m sums_set_m (re_op (re_op (re_var rfl (re_int (rr_ixT3 (re_var rfl (rr_mulR (by decide) ⟨rfl, rfl⟩))))))) ?_
            rw [mset_mset]
            exact ⟨⟨_, _, _, _, _, _, _, _, _, _, _, _, rfl⟩, rfl⟩
        · by_cases hc : c2 = h
          · rw [show sumE Y h date x ⟨wdate, wk, .move c1 c2 c3 c4, whead, wgone, wfault⟩ (.move c1 c2 c3 c4) = { x with m := x.m + c3 * (1) } from by unfold sumE; simp [hh, hc]]
            subst hc
            walk_at "kp"
            refine rs_sumA (x := x) (x' := { x with m := x.m + c3 * (1) }) rdAdd rfl mset_same sums_get_m sums_set_m (re_op (re_op (re_var rfl (re_int (rr_ixT3 (re_var rfl (rr_mulR (by decide) ⟨rfl, rfl⟩))))))) ?_
            rw [mset_mset]
            exact ⟨⟨_, _, _, _, _, _, _, _, _, _, _, _, rfl⟩, rfl⟩
          · rw [show sumE Y h date x ⟨wdate, wk, .move c1 c2 c3 c4, whead, wgone, wfault⟩ (.move c1 c2 c3 c4) = { x with m := x.m + c3 * (0) } from by unfold sumE; simp [hh, hc]]
            skip
            walk_at "kp"
            refine rs_sumA (x := x) (x' := { x with m := x.m + c3 * (0) }) rdAdd rfl mset_same sums_get_m sums_set_m (re_op (re_op (re_var rfl (re_int (rr_ixT3 (re_var rfl (rr_mulR (by decide) ⟨rfl, rfl⟩))))))) ?_
            rw [mset_mset]
            exact ⟨⟨_, _, _, _, _, _, _, _, _, _, _, _, rfl⟩, rfl⟩
    | spend c1 c2 c3 =>
      by_cases hlate : (decide (date < wdate) || wfault) = true
      · rw [show sumW Y h date x ⟨wdate, wk, .spend c1 c2 c3, whead, wgone, wfault⟩ = x from if_pos (late_of hlate)]
        dsimp only [encT]
        refine rr_ixT0 (ra_cons (re_str (ra_nil ⟨by decide, re_cb (ra_cons (re_late (i := wdate) (j := date) (f := wfault) rfl rfl rfl (ra_nil (rc_intB (rr_word ?_)))))⟩)))
        rw [hlate, if_pos rfl]
        by_cases hh : whead = h
        · subst hh
          walk_at "kp"
          refine rr_so (b := false) (by decide +kernel) ?_
          walk_at "kp"
          exact ⟨⟨_, _, _, _, _, _, _, _, _, _, _, _, rfl⟩, rfl⟩
        · walk_at "kp"
          exact ⟨⟨_, _, _, _, _, _, _, _, _, _, _, _, rfl⟩, rfl⟩
      · rw [show sumW Y h date x ⟨wdate, wk, .spend c1 c2 c3, whead, wgone, wfault⟩ = sumE Y h date x ⟨wdate, wk, .spend c1 c2 c3, whead, wgone, wfault⟩ (.spend c1 c2 c3) from if_neg fun z => hlate (of_late z)]
        dsimp only [encT]
        refine rr_ixT0 (ra_cons (re_str (ra_nil ⟨by decide, re_cb (ra_cons (re_late (i := wdate) (j := date) (f := wfault) rfl rfl rfl (ra_nil (rc_intB (rr_word ?_)))))⟩)))
        rw [Bool.eq_false_iff.mpr hlate, if_neg Bool.false_ne_true]
        by_cases hh : whead = h
        · subst hh
          rw [show sumE Y whead date x ⟨wdate, wk, .spend c1 c2 c3, whead, wgone, wfault⟩ (.spend c1 c2 c3) = { x with s := x.s + c2, p := x.p - wgone } from if_pos rfl]
          walk_at "kp"
          refine rr_so (b := true) (by decide +kernel) ?_
          walk_at "kp"
          refine rs_sumA (x := x) (x' := { x with s := x.s + c2 }) rdAdd rfl mset_same sums_get_s sums_set_s (re_op (re_var rfl (re_int (rr_ixT2 ⟨rfl, rfl⟩)))) ?_
          rw [mset_mset]
          walk_at "kp"
          refine rs_sumA (x := { x with s := x.s + c2 }) (x' := { x with s := x.s + c2, p := x.p - wgone }) rdSub rfl mset_same sums_get_p sums_set_p (re_var rfl ⟨rfl, rfl⟩) ?_
          rw [mset_mset]
          exact ⟨⟨_, _, _, _, _, _, _, _, _, _, _, _, rfl⟩, rfl⟩
        · rw [show sumE Y h date x ⟨wdate, wk, .spend c1 c2 c3, whead, wgone, wfault⟩ (.spend c1 c2 c3) = x from if_neg hh]
          walk_at "kp"
          exact ⟨⟨_, _, _, _, _, _, _, _, _, _, _, _, rfl⟩, rfl⟩
    | promise c1 c2 c3 c4 =>
      by_cases hlate : (decide (date < wdate) || wfault) = true
      · rw [show sumW Y h date x ⟨wdate, wk, .promise c1 c2 c3 c4, whead, wgone, wfault⟩ = x from if_pos (late_of hlate)]
        dsimp only [encT]
        refine rr_ixT0 (ra_cons (re_str (ra_nil ⟨by decide, re_cb (ra_cons (re_late (i := wdate) (j := date) (f := wfault) rfl rfl rfl (ra_nil (rc_intB (rr_word ?_)))))⟩)))
        rw [hlate, if_pos rfl]
        by_cases hh : whead = h
        · subst hh
          walk_at "kp"
          refine rr_so (b := false) (by decide +kernel) ?_
          walk_at "kp"
          exact ⟨⟨_, _, _, _, _, _, _, _, _, _, _, _, rfl⟩, rfl⟩
        · walk_at "kp"
          exact ⟨⟨_, _, _, _, _, _, _, _, _, _, _, _, rfl⟩, rfl⟩
      · rw [show sumW Y h date x ⟨wdate, wk, .promise c1 c2 c3 c4, whead, wgone, wfault⟩ = sumE Y h date x ⟨wdate, wk, .promise c1 c2 c3 c4, whead, wgone, wfault⟩ (.promise c1 c2 c3 c4) from if_neg fun z => hlate (of_late z)]
        dsimp only [encT]
        refine rr_ixT0 (ra_cons (re_str (ra_nil ⟨by decide, re_cb (ra_cons (re_late (i := wdate) (j := date) (f := wfault) rfl rfl rfl (ra_nil (rc_intB (rr_word ?_)))))⟩)))
        rw [Bool.eq_false_iff.mpr hlate, if_neg Bool.false_ne_true]
        by_cases hh : whead = h
        · subst hh
          rw [show sumE Y whead date x ⟨wdate, wk, .promise c1 c2 c3 c4, whead, wgone, wfault⟩ (.promise c1 c2 c3 c4) = { x with p := x.p + c3 } from if_pos rfl]
          walk_at "kp"
          refine rr_so (b := false) (by decide +kernel) ?_
          walk_at "kp"
          refine rs_sumA (x := x) (x' := { x with p := x.p + c3 }) rdAdd rfl mset_same sums_get_p sums_set_p (re_op (re_var rfl (re_int (rr_ixT3 ⟨rfl, rfl⟩)))) ?_
          rw [mset_mset]
          exact ⟨⟨_, _, _, _, _, _, _, _, _, _, _, _, rfl⟩, rfl⟩
        · rw [show sumE Y h date x ⟨wdate, wk, .promise c1 c2 c3 c4, whead, wgone, wfault⟩ (.promise c1 c2 c3 c4) = x from if_neg hh]
          walk_at "kp"
          exact ⟨⟨_, _, _, _, _, _, _, _, _, _, _, _, rfl⟩, rfl⟩
    | lessen c1 c2 c3 =>
      by_cases hlate : (decide (date < wdate) || wfault) = true
      · rw [show sumW Y h date x ⟨wdate, wk, .lessen c1 c2 c3, whead, wgone, wfault⟩ = x from if_pos (late_of hlate)]
        dsimp only [encT]
        refine rr_ixT0 (ra_cons (re_str (ra_nil ⟨by decide, re_cb (ra_cons (re_late (i := wdate) (j := date) (f := wfault) rfl rfl rfl (ra_nil (rc_intB (rr_word ?_)))))⟩)))
        rw [hlate, if_pos rfl]
        by_cases hh : whead = h
        · subst hh
          walk_at "kp"
          refine rr_so (b := false) (by decide +kernel) ?_
          walk_at "kp"
          exact ⟨⟨_, _, _, _, _, _, _, _, _, _, _, _, rfl⟩, rfl⟩
        · walk_at "kp"
          exact ⟨⟨_, _, _, _, _, _, _, _, _, _, _, _, rfl⟩, rfl⟩
      · rw [show sumW Y h date x ⟨wdate, wk, .lessen c1 c2 c3, whead, wgone, wfault⟩ = sumE Y h date x ⟨wdate, wk, .lessen c1 c2 c3, whead, wgone, wfault⟩ (.lessen c1 c2 c3) from if_neg fun z => hlate (of_late z)]
        dsimp only [encT]
        refine rr_ixT0 (ra_cons (re_str (ra_nil ⟨by decide, re_cb (ra_cons (re_late (i := wdate) (j := date) (f := wfault) rfl rfl rfl (ra_nil (rc_intB (rr_word ?_)))))⟩)))
        rw [Bool.eq_false_iff.mpr hlate, if_neg Bool.false_ne_true]
        by_cases hh : whead = h
        · subst hh
          rw [show sumE Y whead date x ⟨wdate, wk, .lessen c1 c2 c3, whead, wgone, wfault⟩ (.lessen c1 c2 c3) = { x with p := x.p - wgone } from if_pos rfl]
          walk_at "kp"
          refine rr_so (b := false) (by decide +kernel) ?_
          walk_at "kp"
          refine rs_sumA (x := x) (x' := { x with p := x.p - wgone }) rdSub rfl mset_same sums_get_p sums_set_p (re_var rfl ⟨rfl, rfl⟩) ?_
          rw [mset_mset]
          exact ⟨⟨_, _, _, _, _, _, _, _, _, _, _, _, rfl⟩, rfl⟩
        · rw [show sumE Y h date x ⟨wdate, wk, .lessen c1 c2 c3, whead, wgone, wfault⟩ (.lessen c1 c2 c3) = x from if_neg hh]
          walk_at "kp"
          exact ⟨⟨_, _, _, _, _, _, _, _, _, _, _, _, rfl⟩, rfl⟩
    | out c1 c2 c3 =>
      by_cases hlate : (decide (date < wdate) || wfault) = true
      · rw [show sumW Y h date x ⟨wdate, wk, .out c1 c2 c3, whead, wgone, wfault⟩ = x from if_pos (late_of hlate)]
        dsimp only [encT]
        refine rr_ixT0 (ra_cons (re_str (ra_nil ⟨by decide, re_cb (ra_cons (re_late (i := wdate) (j := date) (f := wfault) rfl rfl rfl (ra_nil (rc_intB (rr_word ?_)))))⟩)))
        rw [hlate, if_pos rfl]
        by_cases hh : whead = h
        · subst hh
          walk_at "kp"
          refine rr_so (b := false) (by decide +kernel) ?_
          walk_at "kp"
          exact ⟨⟨_, _, _, _, _, _, _, _, _, _, _, _, rfl⟩, rfl⟩
        · walk_at "kp"
          exact ⟨⟨_, _, _, _, _, _, _, _, _, _, _, _, rfl⟩, rfl⟩
      · rw [show sumW Y h date x ⟨wdate, wk, .out c1 c2 c3, whead, wgone, wfault⟩ = sumE Y h date x ⟨wdate, wk, .out c1 c2 c3, whead, wgone, wfault⟩ (.out c1 c2 c3) from if_neg fun z => hlate (of_late z)]
        dsimp only [encT]
        refine rr_ixT0 (ra_cons (re_str (ra_nil ⟨by decide, re_cb (ra_cons (re_late (i := wdate) (j := date) (f := wfault) rfl rfl rfl (ra_nil (rc_intB (rr_word ?_)))))⟩)))
        rw [Bool.eq_false_iff.mpr hlate, if_neg Bool.false_ne_true]
        by_cases hh : whead = h
        · subst hh
          rw [show sumE Y whead date x ⟨wdate, wk, .out c1 c2 c3, whead, wgone, wfault⟩ (.out c1 c2 c3) = { x with s := x.s + c2, p := x.p - wgone } from if_pos rfl]
          walk_at "kp"
          refine rr_so (b := true) (by decide +kernel) ?_
          walk_at "kp"
          refine rs_sumA (x := x) (x' := { x with s := x.s + c2 }) rdAdd rfl mset_same sums_get_s sums_set_s (re_op (re_var rfl (re_int (rr_ixT2 ⟨rfl, rfl⟩)))) ?_
          rw [mset_mset]
          walk_at "kp"
          refine rs_sumA (x := { x with s := x.s + c2 }) (x' := { x with s := x.s + c2, p := x.p - wgone }) rdSub rfl mset_same sums_get_p sums_set_p (re_var rfl ⟨rfl, rfl⟩) ?_
          rw [mset_mset]
          exact ⟨⟨_, _, _, _, _, _, _, _, _, _, _, _, rfl⟩, rfl⟩
        · rw [show sumE Y h date x ⟨wdate, wk, .out c1 c2 c3, whead, wgone, wfault⟩ (.out c1 c2 c3) = x from if_neg hh]
          walk_at "kp"
          exact ⟨⟨_, _, _, _, _, _, _, _, _, _, _, _, rfl⟩, rfl⟩
  · rintro δ' M' ⟨⟨x1, x2, x3, x4, x5, x6, x7, x8, x9, x10, x11, x12, rfl⟩, rfl⟩
    generalize lawSums Y W h date = x at k
    walk_at "kp"
    refine re_sumG rfl mset_same sums_get_s ?_
    refine re_sumG rfl mset_same sums_get_p ?_
    walk_at "kp"
    refine re_sumG rfl mset_same sums_get_h ?_
    walk_at "kp"
    refine rs_dput ?_
    walk_at "kp"
    refine re_sumG rfl mset_same sums_get_g ?_
    refine re_sumG rfl mset_same sums_get_m ?_
    walk_at "kp"
    refine ⟨_, _, Sum.inr "left", rfl, mset_same, rfl, (by show 5 < 100000; decide), ?_⟩
    rw [mset_mset]
    walk_at "kp"
    exact k p hp


end
end Kp

set_option maxHeartbeats 4000000
namespace Kp
open PySem PySem.Spec PyProof.Rows L2
local macro_rules | `(tactic| walk_at "kp0") => `(tactic| try dsimp only [cxOf, Cx.nox, Cx.wish])
local macro_rules | `(tactic| walk_at "kp1") => `(tactic| first
  | with_reducible refine rr_strF (by decide +kernel) ?_
  | with_reducible refine rr_strT ?_
  | with_reducible refine rs_seq ?_
  | with_reducible refine re_var rfl ?_
  | with_reducible refine re_int ?_
  | with_reducible refine re_str ?_
  | with_reducible refine re_op ?_
  | with_reducible refine re_cb ?_
  | with_reducible refine ra_cons ?_
  | ((with_reducible refine ra_nil ?_); first
      | refine Exists.intro _ ⟨rfl, ?_⟩
      | refine ⟨_, _, rfl, ?_⟩
      | refine ⟨_, _, _, rfl, ?_⟩
      | refine ⟨_, _, _, _, rfl, ?_⟩
      | refine ⟨_, _, _, _, _, rfl, ?_⟩
      | refine ⟨_, _, _, _, _, _, rfl, ?_⟩
      | refine And.intro rfl ?_)
  | with_reducible refine ra_nil ?_
  | with_reducible refine rs_ret ?_
  | with_reducible refine rs_asg ?_
  | with_reducible refine rg_name ?_
  | with_reducible refine rs_if ?_
  | with_reducible refine rt_test ?_
  | with_reducible refine rt_B ?_
  | with_reducible refine re_call ?_
  | with_reducible refine rr_int0 ?_
  | with_reducible refine rr_bl0 ?_
  | with_reducible refine rr_I0 rfl ?_
  | with_reducible refine re_bl ?_
  | with_reducible refine re_non ?_
  | with_reducible refine re_ty ?_
  | with_reducible refine re_ref ?_
  | with_reducible refine rs_drop ?_
  | with_reducible refine re_chain ?_
  | with_reducible refine re_andV ?_
  | with_reducible refine re_orV ?_
  | with_reducible refine re_notV ?_
  | with_reducible refine rt_not ?_
  | with_reducible refine rt_and ?_
  | with_reducible refine rt_or ?_
  | with_reducible refine rs_next ?_
  | with_reducible refine rs_cont ?_
  | with_reducible refine rs_break ?_
  | with_reducible refine rs_retN ?_
  | with_reducible refine rr_eq rfl ?_
  | with_reducible refine rr_ne rfl ?_
  | with_reducible refine rr_mulR (by omega) ?_
  | with_reducible refine rr_mulL (by omega) ?_
  | with_reducible refine rr_mod (by omega) ?_
  | with_reducible refine rr_fdiv (by omega) ?_
  | with_reducible refine ro_none ?_
  | with_reducible refine ro_some ?_
  | with_reducible refine re_tup ?_
  | with_reducible refine rg_tup tupD1 rfl ?_
  | with_reducible refine rgs_cons ?_
  | with_reducible refine rgs_nil ?_
  | with_reducible refine rr_ixT0 ?_
  | with_reducible refine rr_ixT1 ?_
  | with_reducible refine rr_ixT2 ?_
  | with_reducible refine rr_ixT3 ?_
  | with_reducible refine rr_ixT4 ?_
  | with_reducible refine rr_ixT5 ?_
  | with_reducible refine rr_isN ?_
  | with_reducible refine rr_notN ?_
  | with_reducible refine rcI1 ?_
  | with_reducible refine rcI2 ?_
  | with_reducible refine rcI3 ?_
  | with_reducible refine rcI4 ?_
  | with_reducible refine rcI5 ?_
  | with_reducible refine rc_listL ?_
  | with_reducible refine rc_lenL ?_
  | with_reducible refine rc_lenT ?_
  | with_reducible refine rc_min2 ?_
  | with_reducible refine rc_intB ?_
  | with_reducible refine re_strip ?_
  | with_reducible refine re_lst (tA := tCons _ _) ?_
  | with_reducible refine re_fld ?_
  | with_reducible refine rs_fld ?_
  | with_reducible refine re_meth ?_
  | with_reducible exact rfl
  | with_reducible refine andT ?_
  | with_reducible refine andF ?_
  | refine Exists.intro _ ⟨rfl, ?_⟩
  | refine andT ?_
  | refine andF ?_
  | assumption
  | refine And.intro rfl ?_
  | refine And.intro (by assumption) ?_
  | with_reducible refine And.intro (Nat.le_of_ble_eq_true rfl) ?_
  | with_reducible refine And.intro (by omega) ?_)
local macro_rules | `(tactic| walk_at "kp") => `(tactic| repeat (walk_at "kp1"))
section
variable {P : Program} {w : World} {K : PySem.W.Frag} {mg : Str → Option Value} {base : Heap}
theorem rs_aug {M : Mem} {δ : DEnv} {E : DE} {n : Nat} {te : TE} {f : Int → Int → Int} {i : Int} (hv : δ[n]? = some (some (.int i))) (h : RE K te δ M fun d M1 => ∃ j, d = .int j ∧ E.nx (δ.set n (some (.int (f i j)))) M1) : RS K (tAug n te (ipI f)) δ M E := fun σ I F H he hs Dn l => by
  obtain ⟨v, hv1, hv2⟩ := he.2 n _ hv
  cases hv2
  refine ⟨_, hv1, h.use he hs fun v d I1 M1 H1 e1 s1 r1 ⟨j, ej, k⟩ => ?_⟩
  subst ej
  cases r1
  exact ⟨i, j, rfl, rfl, l.nx _ H1 ⟨_, I1, M1, e1, s1, (he.mono e1).set (.int _), k⟩⟩
def spc_l_taken (K : PySem.W.Frag) : Spc := fun ds M Pc => ∃ (Y : Yr) (W : List Wk) (k : Nat) (l : Lim) (date : Int), ds = [encYL Y, .lst (W.map encW), .int (k : Int), .int date] ∧ YGood Y ∧ Y.limits[k]? = some l ∧ Pc (.int (takL Y W l date)) M
theorem len_l_taken (ds : List D) (M : Mem) (Pc : D → Mem → Prop) (h : spc_l_taken K ds M Pc) : ds.length = 4 := by
  obtain ⟨_, _, _, _, _, rfl, _⟩ := h
  rfl
abbrev nm_l_taken : List Str := ["_law_year_here", "_law_walked_here", "_law_k", "_law_date", "_law_name", "_law_first", "_law_last", "_law_most", "_law_under_here", "_law_found", "_law_when", "_law_number", "_law_told", "_law_head", "_law_gone", "_law_fault"]
theorem sc_l_taken : FnScope nm_l_taken ["_law_year_here", "_law_walked_here", "_law_k", "_law_date"] (defScope s_l_taken) := ⟨rfl, rfl, rfl, by decide +kernel, rfl, by decide +kernel, by decide +kernel⟩
theorem ok_l_taken (TX : Txt K mg base) : Kept P w K mg base 2 (He.fAd K ("_law_taken", none)) ["_law_year_here", "_law_walked_here", "_law_k", "_law_date"] (spc_l_taken K) := by
  obtain ⟨fd_l_under, G_l_under, kp_l_under, b_l_under⟩ := ok_l_under (P := P) (w := w) TX
  refine okD (fn_l_taken TX) sc_l_taken (fun _ _ _ _ _ _ us hl => match us, hl with | [_, _, _, _], _ => rfl) len_l_taken fun cdv A outer s H E hr ds M Pc h => ?_
  obtain ⟨Y, W, k, l, date, rfl, y, hk, kk⟩ := h
  refine ⟨_, (pss_cons (ps_asg (pe_ix ix_list (pe_ix ix_tup (pv 0) pe_int (fun _ _ => rfl)) (pv 2) (fun _ _ => rfl)) (pg_tup rfl (pgs_cons (pg_name (i := 4) sc_l_taken.nd rfl (Or.inl rfl)) (pgs_cons (pg_name (i := 5) sc_l_taken.nd rfl (Or.inl rfl)) (pgs_cons (pg_name (i := 6) sc_l_taken.nd rfl (Or.inl rfl)) (pgs_cons (pg_name (i := 7) sc_l_taken.nd rfl (Or.inl rfl)) pgs_nil))))))
    (pss_cons (ps_set (i := 8) sc_l_taken.nd rfl (Or.inl rfl) (pe_call G_l_under (hr.mono (by decide)) rfl (g__law_under TX) kp_l_under b_l_under .nil pass0 (pa_cons (pv 0) (pa_cons (pv 4) pa_nil))))
    (pss_cons (ps_set (i := 9) sc_l_taken.nd rfl (Or.inl rfl) pe_int)
    (pss_cons (ps_for PassesOwn.never rfl (pi_list (pv 1)) (pg_tup rfl (pgs_cons (pg_name (i := 10) sc_l_taken.nd rfl (Or.inl rfl)) (pgs_cons (pg_name (i := 11) sc_l_taken.nd rfl (Or.inl rfl)) (pgs_cons (pg_name (i := 12) sc_l_taken.nd rfl (Or.inl rfl)) (pgs_cons (pg_name (i := 13) sc_l_taken.nd rfl (Or.inl rfl)) (pgs_cons (pg_name (i := 14) sc_l_taken.nd rfl (Or.inl rfl)) (pgs_cons (pg_name (i := 15) sc_l_taken.nd rfl (Or.inl rfl)) pgs_nil)))))))
    (pss_one (ps_if (PW.pt (pw_and (pt_chain op_le op_le (pv 5) (pv 10) (pv 3)) (pw_and (pt_cmpR op_in_seq (pv 13) (pv 8) rfl) (pw_and1 (pt_not (pt_val (pv 15))))))) (pss_one (ps_if (pt_cmpR op_eq (pe_ix ix_tup (pv 12) pe_int (fun _ _ => rfl)) pe_str (nomark _)) (pss_one (ps_aug (i := 9) sc_l_taken.nd rfl (Or.inl rfl) (pe_ix ix_tup (pv 12) pe_int (fun _ _ => rfl)) ip_add)) (pss_one (ps_if (pt_cmpR op_eq (pe_ix ix_tup (pv 12) pe_int (fun _ _ => rfl)) pe_str (nomark _)) (pss_one (ps_aug (i := 9) sc_l_taken.nd rfl (Or.inl rfl) (pe_ix ix_tup (pv 12) pe_int (fun _ _ => rfl)) ip_add)) (pss_one (ps_if (pt_cmpR op_eq (pe_ix ix_tup (pv 12) pe_int (fun _ _ => rfl)) pe_str (nomark _)) (pss_one (ps_aug (i := 9) sc_l_taken.nd rfl (Or.inl rfl) (pe_op op_sub (pe_ix ix_tup (pv 12) pe_int (fun _ _ => rfl)) (pv 14)) ip_add)) (pss_one (ps_if (pt_cmpR op_eq (pe_ix ix_tup (pv 12) pe_int (fun _ _ => rfl)) pe_str (nomark _)) (pss_one (ps_aug (i := 9) sc_l_taken.nd rfl (Or.inl rfl) (pv 14) ip_sub)) pss_nil)))))))) pss_nil)))
    (pss_one (ps_ret (pv 9))))))), ?_⟩
  unfold encYL
  walk_at "kp0"
  walk_at "kp"
  refine rr_ixL (d := encLm l) lstD1 (Kp.atI_nat (by rw [List.getElem?_map, hk]; rfl)) ?_
  refine rg_tup (d := encLm l) (ds := [.str l.1, .int l.2.1, .int l.2.2.1, .int l.2.2.2]) (.inl rfl) rfl ?_
  walk_at "kp"
  refine rs_for encW W (fun pre δ' M' => (∃ x10 x11 x12 x13 x14 x15 : Option D, δ' = [some (encYL Y), some (.lst (W.map encW)), some (.int (k : Int)), some (.int date), some (.str l.1), some (.int l.2.1), some (.int l.2.2.1), some (.int l.2.2.2), some (.lst ((undL Y.heads l.1).map D.str)), some (.int (takL Y pre l date)), x10, x11, x12, x13, x14, x15]) ∧ M' = M) ?_ ?_ ?_
  · walk_at "kp"
    exact ⟨.inl rfl, ⟨_, _, _, _, _, _, rfl⟩, rfl⟩
  · rintro pre w post δ' M' e ⟨⟨x10, x11, x12, x13, x14, x15, rfl⟩, rfl⟩
    rw [takL_snoc]
    generalize takL Y pre l date = x
    obtain ⟨wdate, wk, we, whead, wgone, wfault⟩ := w
    refine rg_tup (d := encW ⟨wdate, wk, we, whead, wgone, wfault⟩) (ds := [.int wdate, .int wk, encT we, .str whead, .int wgone, .bl wfault]) (.inl rfl) rfl ?_
    walk_at "kp"
    refine ⟨fun h1 => ?_, fun h1 => ?_⟩
    · have h1 := of_decide_eq_true h1
      walk_at "kp"
      refine ⟨fun h2 => ?_, fun h2 => ?_⟩
      · have h2 := of_decide_eq_true h2
        walk_at "kp"
        refine rr_in (.inl lstD1) ?_
        walk_at "kp"
        refine ⟨fun h3 => ?_, fun h3 => ?_⟩
        · have h3 := of_decide_eq_true h3
          cases wfault with
          | true =>
            rw [show takW Y l date x ⟨wdate, wk, we, whead, wgone, true⟩ = x from if_neg fun z => by have := z.2.2; cases this]
            walk_at "kp"
            exact ⟨⟨_, _, _, _, _, _, rfl⟩, rfl⟩
          | false =>
            rw [show takW Y l date x ⟨wdate, wk, we, whead, wgone, false⟩ = takE x ⟨wdate, wk, we, whead, wgone, false⟩ we from if_pos ⟨⟨h1, h2⟩, h3, rfl⟩]
            walk_at "kp"
            cases we with
            | give c1 c2 c3 =>
              dsimp only [encT, takE]
              walk_at "kp"
              exact ⟨⟨_, _, _, _, _, _, rfl⟩, rfl⟩
            | hold c1 c2 c3 c4 =>
              dsimp only [encT, takE]
              walk_at "kp"
              exact ⟨⟨_, _, _, _, _, _, rfl⟩, rfl⟩
            | move c1 c2 c3 c4 =>
              dsimp only [encT, takE]
              walk_at "kp"
              exact ⟨⟨_, _, _, _, _, _, rfl⟩, rfl⟩
            | spend c1 c2 c3 =>
              dsimp only [encT, takE]
              walk_at "kp"
              refine rs_aug rfl (re_op (re_var rfl (re_int (rr_ixT2 ⟨_, rfl, ?_⟩))))
              exact ⟨⟨_, _, _, _, _, _, rfl⟩, rfl⟩
            | promise c1 c2 c3 c4 =>
              dsimp only [encT, takE]
              walk_at "kp"
              refine rs_aug rfl (re_op (re_var rfl (re_int (rr_ixT3 ⟨_, rfl, ?_⟩))))
              exact ⟨⟨_, _, _, _, _, _, rfl⟩, rfl⟩
            | lessen c1 c2 c3 =>
              dsimp only [encT, takE]
              walk_at "kp"
              refine rs_aug rfl (re_var rfl ⟨_, rfl, ?_⟩)
              exact ⟨⟨_, _, _, _, _, _, rfl⟩, rfl⟩
            | out c1 c2 c3 =>
              dsimp only [encT, takE]
              walk_at "kp"
              refine rs_aug rfl (re_op (re_op (re_var rfl (re_int (rr_ixT2 (re_var rfl (rr_int0 ⟨_, rfl, ?_⟩)))))))
              exact ⟨⟨_, _, _, _, _, _, rfl⟩, rfl⟩
        · have h3 := of_decide_eq_false h3
          rw [show takW Y l date x ⟨wdate, wk, we, whead, wgone, wfault⟩ = x from if_neg fun z => h3 z.2.1]
          walk_at "kp"
          exact ⟨⟨_, _, _, _, _, _, rfl⟩, rfl⟩
      · have h2 := of_decide_eq_false h2
        rw [show takW Y l date x ⟨wdate, wk, we, whead, wgone, wfault⟩ = x from if_neg fun z => h2 z.1.2]
        walk_at "kp"
        exact ⟨⟨_, _, _, _, _, _, rfl⟩, rfl⟩
    · have h1 := of_decide_eq_false h1
      rw [show takW Y l date x ⟨wdate, wk, we, whead, wgone, wfault⟩ = x from if_neg fun z => h1 z.1.1]
      walk_at "kp"
      exact ⟨⟨_, _, _, _, _, _, rfl⟩, rfl⟩
  · rintro δ' M' ⟨⟨x10, x11, x12, x13, x14, x15, rfl⟩, rfl⟩
    walk_at "kp"


end
end Kp

set_option maxHeartbeats 4000000
namespace Kp
open PySem PySem.Spec PyProof.Rows L2
local macro_rules | `(tactic| walk_at "kp0") => `(tactic| try dsimp only [cxOf, Cx.nox, Cx.wish])
local macro_rules | `(tactic| walk_at "kp1") => `(tactic| first
  | with_reducible refine rr_strF (by decide +kernel) ?_
  | with_reducible refine rr_strT ?_
  | with_reducible refine rs_seq ?_
  | with_reducible refine re_var rfl ?_
  | with_reducible refine re_int ?_
  | with_reducible refine re_str ?_
  | with_reducible refine re_op ?_
  | with_reducible refine re_cb ?_
  | with_reducible refine ra_cons ?_
  | ((with_reducible refine ra_nil ?_); first
      | refine Exists.intro _ ⟨rfl, ?_⟩
      | refine ⟨_, _, rfl, ?_⟩
      | refine ⟨_, _, _, rfl, ?_⟩
      | refine ⟨_, _, _, _, rfl, ?_⟩
      | refine ⟨_, _, _, _, _, rfl, ?_⟩
      | refine ⟨_, _, _, _, _, _, rfl, ?_⟩
      | refine And.intro rfl ?_)
  | with_reducible refine ra_nil ?_
  | with_reducible refine rs_ret ?_
  | with_reducible refine rs_asg ?_
  | with_reducible refine rg_name ?_
  | with_reducible refine rs_if ?_
  | with_reducible refine rt_test ?_
  | with_reducible refine rt_B ?_
  | with_reducible refine re_call ?_
  | with_reducible refine rr_int0 ?_
  | with_reducible refine rr_bl0 ?_
  | with_reducible refine rr_I0 rfl ?_
  | with_reducible refine re_bl ?_
  | with_reducible refine re_non ?_
  | with_reducible refine re_ty ?_
  | with_reducible refine re_ref ?_
  | with_reducible refine rs_drop ?_
  | with_reducible refine re_chain ?_
  | with_reducible refine re_andV ?_
  | with_reducible refine re_orV ?_
  | with_reducible refine re_notV ?_
  | with_reducible refine rt_not ?_
  | with_reducible refine rt_and ?_
  | with_reducible refine rt_or ?_
  | with_reducible refine rs_next ?_
  | with_reducible refine rs_cont ?_
  | with_reducible refine rs_break ?_
  | with_reducible refine rs_retN ?_
  | with_reducible refine rr_eq rfl ?_
  | with_reducible refine rr_ne rfl ?_
  | with_reducible refine rr_mulR (by omega) ?_
  | with_reducible refine rr_mulL (by omega) ?_
  | with_reducible refine rr_mod (by omega) ?_
  | with_reducible refine rr_fdiv (by omega) ?_
  | with_reducible refine ro_none ?_
  | with_reducible refine ro_some ?_
  | with_reducible refine re_tup ?_
  | with_reducible refine rg_tup tupD1 rfl ?_
  | with_reducible refine rgs_cons ?_
  | with_reducible refine rgs_nil ?_
  | with_reducible refine rr_ixT0 ?_
  | with_reducible refine rr_ixT1 ?_
  | with_reducible refine rr_ixT2 ?_
  | with_reducible refine rr_ixT3 ?_
  | with_reducible refine rr_ixT4 ?_
  | with_reducible refine rr_ixT5 ?_
  | with_reducible refine rr_isN ?_
  | with_reducible refine rr_notN ?_
  | with_reducible refine rcI1 ?_
  | with_reducible refine rcI2 ?_
  | with_reducible refine rcI3 ?_
  | with_reducible refine rcI4 ?_
  | with_reducible refine rcI5 ?_
  | with_reducible refine rc_listL ?_
  | with_reducible refine rc_lenL ?_
  | with_reducible refine rc_lenT ?_
  | with_reducible refine rc_min2 ?_
  | with_reducible refine rc_intB ?_
  | with_reducible refine re_strip ?_
  | with_reducible refine re_lst (tA := tCons _ _) ?_
  | with_reducible refine re_fld ?_
  | with_reducible refine rs_fld ?_
  | with_reducible refine re_meth ?_
  | with_reducible exact rfl
  | with_reducible refine andT ?_
  | with_reducible refine andF ?_
  | refine Exists.intro _ ⟨rfl, ?_⟩
  | refine andT ?_
  | refine andF ?_
  | assumption
  | refine And.intro rfl ?_
  | refine And.intro (by assumption) ?_
  | with_reducible refine And.intro (Nat.le_of_ble_eq_true rfl) ?_
  | with_reducible refine And.intro (by omega) ?_)
local macro_rules | `(tactic| walk_at "kp") => `(tactic| repeat (walk_at "kp1"))
section
variable {P : Program} {w : World} {K : PySem.W.Frag} {mg : Str → Option Value} {base : Heap}
section
variable {Y : Yr} {W : List Wk} {day : Int}
theorem passHL_skip {pre post : List Str} {h : Str} (e : ∀ x ∈ pre, ¬ leftL (lawSums Y W x day) < 0) : passHL Y W day (pre ++ h :: post) = if leftL (lawSums Y W h day) < 0 then some (.left h) else passHL Y W day post := by
  induction pre with
  | nil => rfl
  | cons y r ih =>
    show (if leftL (lawSums Y W y day) < 0 then _ else passHL Y W day (r ++ h :: post)) = _
    rw [if_neg (e y List.mem_cons_self), ih fun z hz => e z (List.mem_cons_of_mem _ hz)]
theorem passHL_none {ns : List Str} (e : ∀ x ∈ ns, ¬ leftL (lawSums Y W x day) < 0) : passHL Y W day ns = none := by
  induction ns with
  | nil => rfl
  | cons y r ih =>
    show (if leftL (lawSums Y W y day) < 0 then _ else passHL Y W day r) = _
    rw [if_neg (e y List.mem_cons_self), ih fun z hz => e z (List.mem_cons_of_mem _ hz)]
def limL (Y : Yr) (W : List Wk) (day : Int) (l : Lim) : Prop := (l.2.1 ≤ day ∧ day ≤ l.2.2.1) ∧ l.2.2.2 < takL Y W l day
theorem passLL_at : ∀ {ls : List Lim} (k : Int) (j : Nat) {l : Lim}, ls[j]? = some l → (∀ i, i < j → ∀ l', ls[i]? = some l' → ¬ limL Y W day l') → limL Y W day l → passLL Y W day ls k = some (.limit (k + j))
  | [], _, _, _, e, _, _ => by simp at e
  | x :: r, k, 0, l, e, _, h => by
    cases (show some x = some l from e)
    show (if (x.2.1 ≤ day ∧ day ≤ x.2.2.1) ∧ x.2.2.2 < takL Y W x day then _ else _) = _
    rw [if_pos (show (x.2.1 ≤ day ∧ day ≤ x.2.2.1) ∧ x.2.2.2 < takL Y W x day from h)]
    simp
  | x :: r, k, j + 1, l, e, n, h => by
    show (if (x.2.1 ≤ day ∧ day ≤ x.2.2.1) ∧ x.2.2.2 < takL Y W x day then _ else passLL Y W day r (k + 1)) = _
    rw [if_neg (show ¬ ((x.2.1 ≤ day ∧ day ≤ x.2.2.1) ∧ x.2.2.2 < takL Y W x day) from n 0 (by omega) x rfl), passLL_at (k + 1) j (show r[j]? = some l from e) (fun i hi l' e' => n (i + 1) (by omega) l' e') h]
    congr 2
    omega
theorem passLL_no : ∀ {ls : List Lim} (k : Int), (∀ (i : Nat) l', ls[i]? = some l' → ¬ limL Y W day l') → passLL Y W day ls k = none
  | [], _, _ => rfl
  | x :: r, k, n => by
    show (if (x.2.1 ≤ day ∧ day ≤ x.2.2.1) ∧ x.2.2.2 < takL Y W x day then _ else passLL Y W day r (k + 1)) = _
    rw [if_neg (show ¬ ((x.2.1 ≤ day ∧ day ≤ x.2.2.1) ∧ x.2.2.2 < takL Y W x day) from n 0 x rfl)]
    exact passLL_no (k + 1) fun i l' e' => n (i + 1) l' e'
end
def spc_l_breach (K : PySem.W.Frag) : Spc := fun ds M Pc => ∃ (Y : Yr) (W : List Wk), ds = [encYL Y, .lst (W.map encW)] ∧ YGood Y ∧ W.length ≤ 1000 ∧ Pc (encB (breachL Y W Y.days.toNat 1)) m0
theorem len_l_breach (ds : List D) (M : Mem) (Pc : D → Mem → Prop) (h : spc_l_breach K ds M Pc) : ds.length = 2 := by
  obtain ⟨_, _, rfl, _⟩ := h
  rfl
abbrev nm_l_breach : List Str := ["_law_year_here", "_law_walked_here", "_law_day", "_law_faults", "_law_head", "_law_above", "_law_k", "_law_name", "_law_first", "_law_last", "_law_most", "_law_one"]
theorem sc_l_breach : FnScope nm_l_breach ["_law_year_here", "_law_walked_here"] (defScope s_l_breach) := ⟨rfl, rfl, rfl, by decide +kernel, rfl, by decide +kernel, by decide +kernel⟩
theorem ok_l_breach (TX : Txt K mg base) : Kept P w K mg base 3 (He.fAd K ("_law_breach", none)) ["_law_year_here", "_law_walked_here"] (spc_l_breach K) := by
  obtain ⟨fd_l_sums, G_l_sums, kp_l_sums, b_l_sums⟩ := ok_l_sums (P := P) (w := w) TX
  obtain ⟨fd_l_taken, G_l_taken, kp_l_taken, b_l_taken⟩ := ok_l_taken (P := P) (w := w) TX
  refine okD (fn_l_breach TX) sc_l_breach (fun _ _ _ _ _ _ us hl => match us, hl with | [_, _], _ => rfl) len_l_breach fun cdv A outer s H E hr ds M Pc h => ?_
  obtain ⟨Y, W, rfl, y, hW, k⟩ := h
  have hd1 := y.d1
  have hd2 := y.d2
  refine ⟨_, (pss_cons (ps_for PassesOwn.never rfl (pi_range2 rfl (n_range TX) (pa_cons pe_int (pa_cons (pe_op op_add (pe_ix ix_tup (pv 0) pe_int (fun _ _ => rfl)) pe_int) pa_nil))) (pg_name (i := 2) sc_l_breach.nd rfl (Or.inr rfl))
    (pss_cons (ps_setLc (i := 3) (own := [("_law_one", 11)]) (g := gName 11) rfl sc_l_breach.nd rfl rfl (sw_true rfl rfl rfl (by decide +kernel)) (pi_list (pv 1)) (blkOk_by (N := nm_l_breach) (sc := defScope s_l_breach) (by decide +kernel)) (fun _ _ _ _ _ => pg_name (i := 11) sc_l_breach.nd rfl (Or.inl rfl)) (fun _ _ _ _ _ => pts_one (PW.pt (pw_and (pt_cmpR op_eq (pe_ix (kx_tup (K := K)) (pv 11) pe_int (fun _ _ => rfl)) (pv 2) (nomark _)) (pw_and1 (pt_val (pe_ix (kx_tup (K := K)) (pv 11) pe_int (fun _ _ => rfl))))))) (fun _ _ _ _ _ => (pe_ix (kx_tup (K := K)) (pv 11) pe_int (fun _ _ => rfl))))
    (pss_cons (ps_if (pt_cmpR (op_neE hr.units) (pv 3) (pe_lst pa_nil) (nomark _)) (pss_one (ps_ret (pe_tup (pa_cons (pv 2) (pa_cons (pe_tup (pa_cons pe_str (pa_cons (pe_callB (cr_min rfl) rfl (n_min TX) (by decide +kernel) (pa_cons (pv 3) pa_nil)) pa_nil))) pa_nil))))) pss_nil)
    (pss_cons (ps_for PassesOwn.never rfl (pi_list (pe_ix ix_tup (pv 0) pe_int (fun _ _ => rfl))) (pg_tup rfl (pgs_cons (pg_name (i := 4) sc_l_breach.nd rfl (Or.inl rfl)) (pgs_cons (pg_name (i := 5) sc_l_breach.nd rfl (Or.inl rfl)) pgs_nil)))
    (pss_one (ps_if (pt_cmpR op_lt (pe_dget (hu_of hr) (pe_call G_l_sums (hr.mono (by decide)) rfl (g__law_sums TX) kp_l_sums b_l_sums .nil pass0 (pa_cons (pv 0) (pa_cons (pv 1) (pa_cons (pv 4) (pa_cons (pv 2) pa_nil))))) pe_str (fun _ _ => rfl)) pe_int (nomark _)) (pss_one (ps_ret (pe_tup (pa_cons (pv 2) (pa_cons (pe_tup (pa_cons pe_str (pa_cons (pv 4) pa_nil))) pa_nil))))) pss_nil)))
    (pss_one (ps_for PassesOwn.never rfl (pi_range1 rfl (n_range TX) (pa_cons (pe_callB call_len rfl (n_len TX) PySem.boot_len (pa_cons (pe_ix ix_tup (pv 0) pe_int (fun _ _ => rfl)) pa_nil)) pa_nil)) (pg_name (i := 6) sc_l_breach.nd rfl (Or.inl rfl))
    (pss_cons (ps_asg (pe_ix ix_list (pe_ix ix_tup (pv 0) pe_int (fun _ _ => rfl)) (pv 6) (fun _ _ => rfl)) (pg_tup rfl (pgs_cons (pg_name (i := 7) sc_l_breach.nd rfl (Or.inl rfl)) (pgs_cons (pg_name (i := 8) sc_l_breach.nd rfl (Or.inl rfl)) (pgs_cons (pg_name (i := 9) sc_l_breach.nd rfl (Or.inl rfl)) (pgs_cons (pg_name (i := 10) sc_l_breach.nd rfl (Or.inl rfl)) pgs_nil))))))
    (pss_one (ps_if (PW.pt (pw_and (pt_chain op_le op_le (pv 8) (pv 2) (pv 9)) (pw_and1 (pt_cmpR op_gt (pe_call G_l_taken (hr.mono (by decide)) rfl (g__law_taken TX) kp_l_taken b_l_taken .nil pass0 (pa_cons (pv 0) (pa_cons (pv 1) (pa_cons (pv 6) (pa_cons (pv 2) pa_nil))))) (pv 10) (nomark _))))) (pss_one (ps_ret (pe_tup (pa_cons (pv 2) (pa_cons (pe_tup (pa_cons pe_str (pa_cons (pv 6) pa_nil))) pa_nil))))) pss_nil)))))))))
    (pss_one (ps_ret pe_non))), ?_⟩
  unfold encYL
  walk_at "kp0"
  generalize htg : breachL Y W Y.days.toNat 1 = tg at k
  have fin : ∀ (M' : Mem) (d : D), d = encB tg → ∀ (δ : DEnv) (te : TE), RE K te δ M' (fun z M2 => z = d) → RE K te δ M' Pc := fun M' d ed δ te h => re_less (h.imp fun z M2 ez => ⟨m0, fun a c z => (by cases z), by rw [ez, ed]; exact k⟩)
  walk_at "kp"
  refine rs_forR2 1 Y.days.toNat (fun j δ' M' => (∃ x2 x3 x4 x5 x6 x7 x8 x9 x10 x11 : Option D, δ' = [some (encYL Y), some (.lst (W.map encW)), x2, x3, x4, x5, x6, x7, x8, x9, x10, x11]) ∧ breachL Y W (Y.days.toNat - j) (1 + j) = tg) ?_ ?_ ?_
  · walk_at "kp"
    exact ⟨by rw [show Y.days + 1 = 1 + (Y.days.toNat : Int) by omega], by omega, by decide, by decide, ⟨_, _, _, _, _, _, _, _, _, _, rfl⟩, htg⟩
  · rintro j δ' M' hj ⟨⟨x2, x3, x4, x5, x6, x7, x8, x9, x10, x11, rfl⟩, hb⟩
    rw [show Y.days.toNat - j = (Y.days.toNat - (j + 1)) + 1 by omega] at hb
    generalize hday : (1 : Int) + (j : Int) = day at hb
    have hday2 : 1 ≤ day ∧ day ≤ 30 := by omega
    replace hb : (match placeL Y W day with
      | some p => some (day, p)
      | none => breachL Y W (Y.days.toNat - (j + 1)) (day + 1)) = tg := hb
    walk_at "kp"
    refine re_lcF encW W (fun w => .int w.k) (fun w => decide (w.date = day) && w.fault) (by omega) ?_ ?_ ?_
    · walk_at "kp"
      exact ⟨.inl rfl, rfl⟩
    · intro w hw
      refine rgc_name (by simp) ?_
      unfold encW
      walk_at "kp"
      refine ⟨fun h1 => ?_, fun h1 => ?_⟩
      · walk_at "kp"
        refine ⟨by rw [h1]; rfl, rfl, fun _ => ?_⟩
        walk_at "kp"
      · exact ⟨by rw [h1]; rfl, rfl, fun z => by cases z⟩
    · rw [show (W.filter fun w => decide (w.date = day) && w.fault).map (fun w => D.int w.k) = (faultsL W day).map D.int by unfold faultsL; rw [List.map_map]; rfl]
      walk_at "kp"
      refine re_lst (ra_nil ⟨by decide, ?_⟩)
      refine rr_eqE lstD1 lstD1 ?_
      cases hfl : faultsL W day with
      | cons x fl =>
        have hpl : placeL Y W day = some (.promise (minL (x :: fl))) := by unfold placeL; rw [hfl]; rfl
        rw [hpl] at hb
        walk_at "kp0"
        refine ⟨_, rfl, fun _ => ?_, fun z => by cases z⟩
        refine rs_ret (fin _ (.tup [.int day, .tup [.str "promise", .int (minL (x :: fl))]]) (by rw [← hb]; rfl) _ _ ?_)
        walk_at "kp"
        refine rc_min (ns := x :: fl) (.inl rfl) (Nat.succ_pos _) fun m hm hle => ?_
        obtain rfl := minL_is hm hle
        walk_at "kp"
      | nil =>
        have hpl : placeL Y W day = (match passHL Y W day Y.names with
          | some p => some p
          | none => passLL Y W day Y.limits 0) := by unfold placeL; rw [if_pos hfl]; all_goals rfl
        rw [hpl] at hb
        walk_at "kp0"
        refine ⟨_, rfl, fun z => absurd z Bool.false_ne_true, fun _ => ?_⟩
        walk_at "kp"
        refine rs_for encHd Y.heads (fun pre δ' M' => (∃ x4 x5 x6 x7 x8 x9 x10 x11 : Option D, δ' = [some (encYL Y), some (.lst (W.map encW)), some (.int day), some (.lst []), x4, x5, x6, x7, x8, x9, x10, x11]) ∧ ∀ x ∈ pre.map (·.1), ¬ leftL (lawSums Y W x day) < 0) ?_ ?_ ?_
        · unfold encYL
          walk_at "kp"
          exact ⟨.inl rfl, ⟨_, _, _, _, _, _, _, _, rfl⟩, fun x hx => by cases hx⟩
        · rintro pre x post δ' M' e ⟨⟨x4, x5, x6, x7, x8, x9, x10, x11, rfl⟩, hn⟩
          refine rg_tup tupD1 rfl ?_
          walk_at "kp"
          refine re_dget ?_
          walk_at "kp"
          intro p hp
          walk_at "kp"
          refine ⟨p, _, .inr "left", _, rfl, mset_same, rfl, (by rw [getD_set, if_pos rfl]), ?_⟩
          walk_at "kp"
          refine ⟨fun h1 => ?_, fun h1 => ?_⟩
          · have h1 := of_decide_eq_true h1
            have hps : passHL Y W day Y.names = some (.left x.1) := by
              unfold Yr.names
              rw [e, List.map_append, List.map_cons, passHL_skip hn, if_pos h1]
            rw [hps] at hb
            refine rs_ret (fin _ (.tup [.int day, .tup [.str "left", .str x.1]]) (by rw [← hb]; rfl) _ _ ?_)
            walk_at "kp"
          · have h1 := of_decide_eq_false h1
            walk_at "kp"
            refine ⟨⟨_, _, _, _, _, _, _, _, rfl⟩, fun z hz => ?_⟩
            rw [List.map_append] at hz
            rcases List.mem_append.mp hz with hz | hz
            · exact hn z hz
            · rw [List.mem_singleton.mp hz]
              exact h1
        · rintro δ' M' ⟨⟨x4, x5, x6, x7, x8, x9, x10, x11, rfl⟩, hn⟩
          have hps : passHL Y W day Y.names = none := passHL_none hn
          rw [hps] at hb
          walk_at "kp"
          refine rs_forR1 Y.limits.length (fun i δ' M' => (∃ x4 x5 x6 x7 x8 x9 x10 x11 : Option D, δ' = [some (encYL Y), some (.lst (W.map encW)), some (.int day), some (.lst []), x4, x5, x6, x7, x8, x9, x10, x11]) ∧ ∀ n, n < i → ∀ l', Y.limits[n]? = some l' → ¬ limL Y W day l') ?_ ?_ ?_
          · unfold encYL
            walk_at "kp"
            exact ⟨by rw [List.length_map], by have := y.ll; omega, ⟨_, _, _, _, _, _, _, _, rfl⟩, fun n hn => by omega⟩
          · rintro i δ' M' hi ⟨⟨x4, x5, x6, x7, x8, x9, x10, x11, rfl⟩, hn2⟩
            obtain ⟨l, hl⟩ : ∃ l, Y.limits[i]? = some l := ⟨_, List.getElem?_eq_getElem hi⟩
            walk_at "kp"
            unfold encYL
            walk_at "kp"
            refine rr_ixL (d := encLm l) lstD1 (Kp.atI_nat (by rw [List.getElem?_map, hl]; rfl)) ?_
            refine rg_tup (d := encLm l) (ds := [.str l.1, .int l.2.1, .int l.2.2.1, .int l.2.2.2]) (.inl rfl) rfl ?_
            have next : ∀ (x4 x5 x6 x7 x8 x9 x10 x11 : Option D), ¬ limL Y W day l → (∃ y4 y5 y6 y7 y8 y9 y10 y11 : Option D, ([some (encYL Y), some (.lst (W.map encW)), some (.int day), some (.lst []), x4, x5, x6, x7, x8, x9, x10, x11] : DEnv) = [some (encYL Y), some (.lst (W.map encW)), some (.int day), some (.lst []), y4, y5, y6, y7, y8, y9, y10, y11]) ∧ ∀ n, n < i + 1 → ∀ l', Y.limits[n]? = some l' → ¬ limL Y W day l' := fun x4 x5 x6 x7 x8 x9 x10 x11 hno => ⟨⟨_, _, _, _, _, _, _, _, rfl⟩, fun n hn l' e' => by
              by_cases q : n = i
              · subst q
                rw [hl] at e'
                cases e'
                exact hno
              · exact hn2 n (by omega) l' e'⟩
            walk_at "kp"
            refine ⟨fun h1 => ?_, fun h1 => ?_⟩
            · have h1 := of_decide_eq_true h1
              walk_at "kp"
              refine ⟨fun h2 => ?_, fun h2 => ?_⟩
              · have h2 := of_decide_eq_true h2
                walk_at "kp"
                refine ⟨Y, W, i, l, day, rfl, y, hl, ?_⟩
                walk_at "kp"
                refine ⟨fun h3 => ?_, fun h3 => ?_⟩
                · have h3 := of_decide_eq_true h3
                  have hpl2 : passLL Y W day Y.limits 0 = some (.limit i) := by
                    have := passLL_at (Y := Y) (W := W) (day := day) 0 i hl hn2 ⟨⟨h1, h2⟩, h3⟩
                    rw [Int.zero_add] at this
                    exact this
                  rw [hpl2] at hb
                  refine rs_ret (fin _ (.tup [.int day, .tup [.str "limit", .int (i : Int)]]) (by rw [← hb]; rfl) _ _ ?_)
                  walk_at "kp"
                · have h3 := of_decide_eq_false h3
                  walk_at "kp"
                  exact next _ _ _ _ _ _ _ _ fun z => h3 z.2
              · have h2 := of_decide_eq_false h2
                walk_at "kp"
                exact next _ _ _ _ _ _ _ _ fun z => h2 z.1.2
            · have h1 := of_decide_eq_false h1
              walk_at "kp"
              exact next _ _ _ _ _ _ _ _ fun z => h1 z.1.1
          · rintro δ' M' ⟨⟨x4, x5, x6, x7, x8, x9, x10, x11, rfl⟩, hn2⟩
            have hpl2 : passLL Y W day Y.limits 0 = none := passLL_no 0 fun n l' e' => hn2 n (List.getElem?_eq_some_iff.mp e').1 l' e'
            rw [hpl2] at hb
            refine ⟨⟨_, _, _, _, _, _, _, _, _, _, rfl⟩, ?_⟩
            rw [← hb]
            show breachL Y W _ (1 + ((j + 1 : Nat) : Int)) = breachL Y W _ (day + 1)
            rw [show (1 + ((j + 1 : Nat) : Int)) = day + 1 by omega]
  · rintro δ' M' ⟨⟨x2, x3, x4, x5, x6, x7, x8, x9, x10, x11, rfl⟩, hb⟩
    rw [Nat.sub_self] at hb
    refine rs_less ⟨m0, fun a c z => (by cases z), rs_retN ?_⟩
    rw [← hb] at k
    exact k


end
end Kp

set_option maxHeartbeats 4000000
namespace Kp
open PySem PySem.Spec PyProof.Rows L2
local macro_rules | `(tactic| walk_at "kp0") => `(tactic| try dsimp only [cxOf, Cx.nox, Cx.wish])
local macro_rules | `(tactic| walk_at "kp1") => `(tactic| first
  | with_reducible refine rs_seq ?_
  | with_reducible refine re_var rfl ?_
  | with_reducible refine re_int ?_
  | with_reducible refine re_str ?_
  | with_reducible refine re_op ?_
  | with_reducible refine re_cb ?_
  | with_reducible refine ra_cons ?_
  | ((with_reducible refine ra_nil ?_); first
      | refine Exists.intro _ ⟨rfl, ?_⟩
      | refine ⟨_, _, rfl, ?_⟩
      | refine ⟨_, _, _, rfl, ?_⟩
      | refine ⟨_, _, _, _, rfl, ?_⟩
      | refine ⟨_, _, _, _, _, rfl, ?_⟩
      | refine ⟨_, _, _, _, _, _, rfl, ?_⟩
      | refine And.intro rfl ?_)
  | with_reducible refine ra_nil ?_
  | with_reducible refine rs_ret ?_
  | with_reducible refine rs_asg ?_
  | with_reducible refine rg_name ?_
  | with_reducible refine rs_if ?_
  | with_reducible refine rt_test ?_
  | with_reducible refine rt_B ?_
  | with_reducible refine re_call ?_
  | with_reducible refine rr_int0 ?_
  | with_reducible refine rr_bl0 ?_
  | with_reducible refine rr_I0 rfl ?_
  | with_reducible refine re_bl ?_
  | with_reducible refine re_non ?_
  | with_reducible refine re_ty ?_
  | with_reducible refine re_ref ?_
  | with_reducible refine rs_drop ?_
  | with_reducible refine re_chain ?_
  | with_reducible refine re_andV ?_
  | with_reducible refine re_orV ?_
  | with_reducible refine re_notV ?_
  | with_reducible refine rt_not ?_
  | with_reducible refine rt_and ?_
  | with_reducible refine rt_or ?_
  | with_reducible refine rs_next ?_
  | with_reducible refine rs_cont ?_
  | with_reducible refine rs_break ?_
  | with_reducible refine rs_retN ?_
  | with_reducible refine rr_eq rfl ?_
  | with_reducible refine rr_ne rfl ?_
  | with_reducible refine rr_mulR (by omega) ?_
  | with_reducible refine rr_mulL (by omega) ?_
  | with_reducible refine rr_mod (by omega) ?_
  | with_reducible refine rr_fdiv (by omega) ?_
  | with_reducible refine ro_none ?_
  | with_reducible refine ro_some ?_
  | with_reducible refine re_tup ?_
  | with_reducible refine rg_tup tupD1 rfl ?_
  | with_reducible refine rgs_cons ?_
  | with_reducible refine rgs_nil ?_
  | with_reducible refine rr_ixT0 ?_
  | with_reducible refine rr_ixT1 ?_
  | with_reducible refine rr_ixT2 ?_
  | with_reducible refine rr_ixT3 ?_
  | with_reducible refine rr_ixT4 ?_
  | with_reducible refine rr_ixT5 ?_
  | with_reducible refine rr_isN ?_
  | with_reducible refine rr_notN ?_
  | with_reducible refine rcI1 ?_
  | with_reducible refine rcI2 ?_
  | with_reducible refine rcI3 ?_
  | with_reducible refine rcI4 ?_
  | with_reducible refine rcI5 ?_
  | with_reducible refine rc_listL ?_
  | with_reducible refine rc_lenL ?_
  | with_reducible refine rc_lenT ?_
  | with_reducible refine rc_min2 ?_
  | with_reducible refine rc_intB ?_
  | with_reducible refine re_strip ?_
  | with_reducible refine re_lst (tA := tCons _ _) ?_
  | with_reducible refine re_fld ?_
  | with_reducible refine rs_fld ?_
  | with_reducible refine re_meth ?_
  | with_reducible exact rfl
  | with_reducible refine andT ?_
  | with_reducible refine andF ?_
  | refine Exists.intro _ ⟨rfl, ?_⟩
  | refine andT ?_
  | refine andF ?_
  | assumption
  | refine And.intro rfl ?_
  | refine And.intro (by assumption) ?_
  | with_reducible refine And.intro (Nat.le_of_ble_eq_true rfl) ?_
  | with_reducible refine And.intro (by omega) ?_)
local macro_rules | `(tactic| walk_at "kp") => `(tactic| repeat (walk_at "kp1"))
section
variable {P : Program} {w : World} {K : PySem.W.Frag} {mg : Str → Option Value} {base : Heap}
theorem strs_ok {ns : List Str} (h : ∀ s ∈ ns, NameOk s) {s : Str} (hs : s ∈ ns) : PyData.strOk s = true := (h s hs).ok
theorem YGood.nok {Y : Yr} (y : YGood Y) : ∀ s ∈ Y.names, NameOk s := fun s hs => by
  obtain ⟨x, hx, rfl⟩ := List.mem_map.mp hs
  obtain ⟨pre, post, e⟩ := List.append_of_mem hx
  exact (y.hd.ok _ _ _ e).1
theorem YGood.aok {Y : Yr} (y : YGood Y) : ∀ x ∈ Y.heads, PyData.strOk x.1 = true ∧ PyData.strOk x.2 = true := fun x hx => by
  obtain ⟨pre, post, e⟩ := List.append_of_mem hx
  obtain ⟨h1, _, h2⟩ := y.hd.ok _ _ _ e
  refine ⟨h1.ok, ?_⟩
  rcases h2 with h2 | h2
  · rw [h2]
    decide +kernel
  · refine (y.nok x.2 ?_).ok
    unfold Yr.names
    rw [e, List.map_append]
    exact List.mem_append_left _ h2
theorem shp_year {Y : Yr} (y : YGood Y) : Shp 3 (encYL Y) := by
  have lm : ∀ l : Lim, PyData.strOk l.1 = true → Shp 1 (encLm l) := fun l h => .tup (al_cons (.str h) (al_cons (.int _ _) (al_cons (.int _ _) (al_cons (.int _ _) al_nil))))
  refine .tup (al_cons (.int _ _) (al_cons (.lst fun d hd => ?_) (al_cons (.lst fun d hd => ?_) (al_cons (.lst fun d hd => ?_) al_nil))))
  · obtain ⟨x, hx, rfl⟩ := List.mem_map.mp hd
    obtain ⟨h1, h2⟩ := y.aok x hx
    exact .tup (al_cons (.str h1) (al_cons (.str h2) al_nil))
  · obtain ⟨x, hx, rfl⟩ := List.mem_map.mp hd
    exact lm x (y.nok _ (y.lm x hx).1).ok
  · obtain ⟨x, hx, rfl⟩ := List.mem_map.mp hd
    exact lm x (y.nok _ (y.rl x hx).1).ok
theorem passHL_in {Y : Yr} {W : List Wk} {day : Int} : ∀ {ns : List Str} {p : Place}, passHL Y W day ns = some p → ∃ h ∈ ns, p = .left h
  | [], p, e => by cases e
  | x :: r, p, e => by
    replace e : (if leftL (lawSums Y W x day) < 0 then some (Place.left x) else passHL Y W day r) = some p := e
    split at e
    · exact ⟨x, List.mem_cons_self, (Option.some.inj e).symm⟩
    · obtain ⟨h, hh, e2⟩ := passHL_in e
      exact ⟨h, List.mem_cons_of_mem _ hh, e2⟩
theorem passLL_in {Y : Yr} {W : List Wk} {day : Int} : ∀ {ls : List Lim} {k : Int} {p : Place}, passLL Y W day ls k = some p → ∃ n, p = .limit n
  | [], k, p, e => by cases e
  | x :: r, k, p, e => by
    replace e : (if (x.2.1 ≤ day ∧ day ≤ x.2.2.1) ∧ x.2.2.2 < takL Y W x day then some (Place.limit k) else passLL Y W day r (k + 1)) = some p := e
    split at e
    · exact ⟨k, (Option.some.inj e).symm⟩
    · exact passLL_in e
theorem placeL_shp {Y : Yr} (y : YGood Y) {W : List Wk} {day : Int} {p : Place} (e : placeL Y W day = some p) : Shp 1 (encP p) := by
  unfold placeL at e
  split at e
  · cases hq : passHL Y W day Y.names with
    | some q =>
      rw [hq] at e
      obtain ⟨h, hh, e2⟩ := passHL_in hq
      cases e
      rw [e2]
      exact .tup (al_cons (.str (by decide +kernel)) (al_cons (.str (y.nok h hh).ok) al_nil))
    | none =>
      rw [hq] at e
      obtain ⟨n, e2⟩ := passLL_in e
      rw [e2]
      exact .tup (al_cons (.str (by decide +kernel)) (al_cons (.int _ _) al_nil))
  · cases e
    exact .tup (al_cons (.str (by decide +kernel)) (al_cons (.int _ _) al_nil))
theorem shp_breach {Y : Yr} (y : YGood Y) {W : List Wk} : ∀ (n : Nat) (day : Int), Shp 2 (encB (breachL Y W n day))
  | 0, _ => .non _
  | n + 1, day => by
    show Shp 2 (encB (match placeL Y W day with
      | some p => some (day, p)
      | none => breachL Y W n (day + 1)))
    cases hp : placeL Y W day with
    | some p => exact .tup (al_cons (.int _ _) (al_cons (placeL_shp y hp) al_nil))
    | none => exact shp_breach y n (day + 1)
theorem eqv_self {n : Nat} {d : D} (h : Shp n d) : PyData.eqv (toPy d) (toPy d) = true := SeqAt.eqv_refl _ h.ok.2.1
theorem rr_neX {M : Mem} {Pd : D → Mem → Prop} {d : D} {n : Nat} (h : Shp n d) (p : Pd (.bl false) M) (hn : n ≤ 64 := by decide) : RR K (rNeD K) d d M Pd := rr_neS h h (by rw [eqv_self h]; exact p) hn hn
theorem rr_eqX {M : Mem} {Pd : D → Mem → Prop} {d : D} {n : Nat} (h : Shp n d) (p : Pd (.bl true) M) (hn : n ≤ 64 := by decide) : RR K (rEqD K) d d M Pd := rr_eqS h h (by rw [eqv_self h]; exact p) hn hn
theorem okDf {x qual : Str} {st : Stmt} {f : Addr} {fd : FuncData} {N ps : List Str} {k : Nat} {S : Spc} (F : FunD K x qual (defArgs st) (defBody st) (defScope st) [] [] f fd) (Sc : FnScope N ps (defScope st))
    (len : ∀ ds M Pc, S ds M Pc → ds.length = ps.length)
    (body : ∀ (cdv : Value) (A : Around) (outer : List PySem.Env) (s : Shared) (H : Hp) (E : XK), Room k (A.deeper (envOfC qual (defScope st) s.heap.objs.size f cdv)) → ∀ ds M Pc, S ds M Pc →
      ∃ t, PSs (cxOf CX0 P w K mg base N qual (defScope st) f cdv A outer s H E).nox (defBody st) t ∧ RS K t (startD N ds) M { nx := fun _ M' => Pc .non M', rt := Pc }) : FnOk P w K mg base CX0 (k + 1) f fd ps (spL K S) := by
  refine F.ok Sc (fun vs H Q E h => ?_) (fun cdv A outer s H vs Q E hr h => ?_)
  · obtain ⟨ds, I, F', M, Pc, iss, _, hs, _⟩ := h
    rw [iss.length]
    exact len ds M Pc hs
  · obtain ⟨ds, I, F', M, Pc, iss, sta, hs, cl⟩ := h
    obtain ⟨t, ht, hrs⟩ := body cdv A outer s H E hr ds M Pc hs
    refine ⟨t, ht.nox, hrs _ I F' H (env_start N iss) sta _ ⟨fun σ' H' z => ?_, fun v H' z => cl v H' z, fun _ _ z => ?_, fun _ _ z => ?_⟩⟩
    · obtain ⟨δ', I', M', e, s', _, p⟩ := z
      exact cl _ _ ⟨.non, I', M', e, s', .non, p⟩
    · obtain ⟨_, _, _, _, _, _, p⟩ := z
      exact p.elim
    · obtain ⟨_, _, _, _, _, _, p⟩ := z
      exact p.elim
def spc_law (K : PySem.W.Frag) : Spc := fun ds M Pc => ∃ (ns : List Int), ds = [.rol (ns.map D.int)] ∧ Pc (.bl true) m0
theorem len_law (ds : List D) (M : Mem) (Pc : D → Mem → Prop) (h : spc_law K ds M Pc) : ds.length = 1 := by
  obtain ⟨_, rfl, _⟩ := h
  rfl
abbrev nm_law : List Str := ["_law_script", "_law_year_here", "_law_rows_here", "_law_handed", "_law_dated", "_law_due"]
theorem sc_law : FnScope nm_law ["_law_script"] (defScope s_law) := ⟨rfl, rfl, rfl, by decide +kernel, rfl, by decide +kernel, by decide +kernel⟩
theorem ok_law (TX : Txt K mg base) {fd : FuncData} (F : FunD K "law" "law" (defArgs s_law) (defBody s_law) (defScope s_law) [] [] (He.fAd K ("law", none)) fd) : FnOk P w K mg base CX0 10 (He.fAd K ("law", none)) fd ["_law_script"] (spL K (spc_law K)) := by
  obtain ⟨fd_l_year, G_l_year, kp_l_year, b_l_year⟩ := ok_l_year (P := P) (w := w) TX
  obtain ⟨fd_l_well, G_l_well, kp_l_well, b_l_well⟩ := ok_l_well (P := P) (w := w) TX
  obtain ⟨fd_l_cell_at, G_l_cell_at, kp_l_cell_at, b_l_cell_at⟩ := ok_l_cell_at (P := P) (w := w) TX
  obtain ⟨fd_l_rows, G_l_rows, kp_l_rows, b_l_rows⟩ := ok_l_rows (P := P) (w := w) TX
  obtain ⟨fd_l_made, G_l_made, kp_l_made, b_l_made⟩ := ok_l_made (P := P) (w := w) TX
  obtain ⟨fd_l_breach, G_l_breach, kp_l_breach, b_l_breach⟩ := ok_l_breach (P := P) (w := w) TX
  obtain ⟨fd_l_walked, G_l_walked, kp_l_walked, b_l_walked⟩ := ok_l_walked (P := P) (w := w) TX
  obtain ⟨fd_Dated_breach, G_Dated_breach, kp_Dated_breach, b_Dated_breach⟩ := ok_Dated_breach (P := P) (w := w) TX
  refine okDf F sc_law len_law fun cdv A outer s H E hr ds M Pc h => ?_
  obtain ⟨ns, rfl, k⟩ := h
  refine ⟨_, (pss_cons (ps_set (i := 1) sc_law.nd rfl (Or.inl rfl) (pe_call G_l_year (hr.mono (by decide)) rfl (g__law_year TX) kp_l_year b_l_year .nil pass0 (pa_cons (pe_call G_l_well (hr.mono (by decide)) rfl (g__law_well TX) kp_l_well b_l_well .nil pass0 (pa_cons (pe_call G_l_cell_at (hr.mono (by decide)) rfl (g__law_cell_at TX) kp_l_cell_at b_l_cell_at .nil pass0 (pa_cons (pv 0) (pa_cons pe_int pa_nil))) pa_nil)) pa_nil)))
    (pss_cons (ps_set (i := 2) sc_law.nd rfl (Or.inl rfl) (pe_call G_l_rows (hr.mono (by decide)) rfl (g__law_rows TX) kp_l_rows b_l_rows .nil pass0 (pa_cons (pv 0) (pa_cons (pv 1) (pa_cons pe_int (pa_cons pe_int pa_nil))))))
    (pss_cons (ps_set (i := 3) sc_law.nd rfl (Or.inl rfl) (pe_tup (pa_cons (pe_ix ix_tup (pv 1) pe_int (fun _ _ => rfl)) (pa_cons (pe_callTy call_list_of rfl (n_list TX) (by decide +kernel) (pa_cons (pe_ix ix_tup (pv 1) pe_int (fun _ _ => rfl)) pa_nil)) (pa_cons (pe_callTy call_list_of rfl (n_list TX) (by decide +kernel) (pa_cons (pe_ix ix_tup (pv 1) pe_int (fun _ _ => rfl)) pa_nil)) (pa_cons (pe_callTy call_list_of rfl (n_list TX) (by decide +kernel) (pa_cons (pe_ix ix_tup (pv 1) pe_int (fun _ _ => rfl)) pa_nil)) pa_nil))))))
    (pss_cons (ps_set (i := 4) sc_law.nd rfl (Or.inl rfl) (pe_call G_l_made (hr.mono (by decide)) rfl (g__law_made TX) kp_l_made b_l_made .nil pass0 (pa_cons (pv 3) (pa_cons (pe_callTy call_list_of rfl (n_list TX) (by decide +kernel) (pa_cons (pv 2) pa_nil)) pa_nil))))
    (pss_cons (ps_set (i := 5) sc_law.nd rfl (Or.inl rfl) (pe_call G_l_breach (hr.mono (by decide)) rfl (g__law_breach TX) kp_l_breach b_l_breach .nil pass0 (pa_cons (pv 1) (pa_cons (pe_call G_l_walked (hr.mono (by decide)) rfl (g__law_walked TX) kp_l_walked b_l_walked .nil pass0 (pa_cons (pv 2) pa_nil)) pa_nil))))
    (pss_cons (ps_if (PW.pt (pw_or (pt_cmpR (op_neD hr.units) (pv 3) (pv 1) (nomark _)) (pw_or1 (pt_cmpR (op_neD hr.units) (pe_meth0 (pv 4) (cl_Dated TX) (me_Dated_breach TX) G_Dated_breach (hr.mono (by decide)) b_Dated_breach .nil pass0) (pv 5) (nomark _))))) (pss_one (ps_ret pe_bl)) pss_nil)
    (pss_one (ps_ret (pe_and (pe_cmpR (op_eqD hr.units) (pe_meth0 (pv 4) (cl_Dated TX) (me_Dated_breach TX) G_Dated_breach (hr.mono (by decide)) b_Dated_breach .nil pass0) (pv 5) (nomark _)) (pe_one (pe_cmpR (op_eqD hr.units) (pe_meth0 (pe_call G_l_made (hr.mono (by decide)) rfl (g__law_made TX) kp_l_made b_l_made .nil pass0 (pa_cons (pv 1) (pa_cons (pv 2) pa_nil))) (cl_Dated TX) (me_Dated_breach TX) G_Dated_breach (hr.mono (by decide)) b_Dated_breach .nil pass0) (pv 5) (nomark _)))))))))))), ?_⟩
  walk_at "kp0"
  walk_at "kp"
  intro i
  walk_at "kp"
  intro a w ha
  walk_at "kp"
  refine ⟨a, w, M, rfl, rfl, fun Y w' y => ?_⟩
  walk_at "kp"
  intro rows hl hro
  have same := breach_same y hro
  have sb := shp_breach y (W := walkR rows) Y.days.toNat 1
  walk_at "kp"
  unfold encYL
  walk_at "kp"
  intro fs hf
  rw [same] at hf
  have hwl : (walkR rows).length ≤ 1000 := by
    unfold walkR
    rw [walkW_len, List.length_mergeSort, itemsOf_len]
    omega
  have sy : Shp 3 (.tup [.int Y.days, .lst (Y.heads.map encHd), .lst (Y.limits.map encLm), .lst (Y.rules.map encLm)]) := shp_year y
  walk_at "kp"
  refine rr_neX sy ?_
  walk_at "kp"
  refine ⟨fs, insD1, hf.2, ?_⟩
  walk_at "kp"
  refine ⟨fs, _, rfl, hf.1, ?_⟩
  walk_at "kp"
  refine rr_neX sb ?_
  walk_at "kp"
  refine ⟨fs, insD1, hf.2, ?_⟩
  walk_at "kp"
  refine ⟨fs, _, rfl, hf.1, ?_⟩
  walk_at "kp"
  refine rr_eqX sb ?_
  walk_at "kp"
  intro fs2 hf2
  rw [same] at hf2
  walk_at "kp"
  refine ⟨fs2, insD1, hf2.2, ?_⟩
  walk_at "kp"
  refine ⟨fs2, _, rfl, hf2.1, ?_⟩
  walk_at "kp"
  refine rr_eqX sb ?_
  walk_at "kp"


end
end Kp

set_option maxHeartbeats 4000000
namespace Kp
open PySem PySem.Spec PyProof.Rows L2
theorem Iss.intsR {K : PySem.W.Frag} {I : Hp} : ∀ ns : List Int, Iss K I (ns.map V.int) (ns.map D.int)
  | [] => .nil
  | n :: r => .cons (.int n) (Iss.intsR r)
theorem law_spec {K : PySem.W.Frag} {H : Hp} {a : Addr} {ns : List Int} (hT : H (tabP K) = some (.tbl #[])) (hS : SqL K H a (ns.map V.int)) : spL K (spc_law K) [.ref a] H (fun v _ => v = .bl true) (fun _ _ _ => False) := by
  have key : ∀ I : Hp, Same I H → NoT I → SqL K I a (ns.map V.int) → spL K (spc_law K) [.ref a] H (fun v _ => v = .bl true) (fun _ _ _ => False) := fun I hI hN hq => by
    refine ⟨[.rol (ns.map D.int)], I, fun _ => none, m0, fun d _ => d = .bl true, .cons (.rol hq (Iss.intsR ns)) .nil, ⟨hI, fun b o z => (by cases z), fun b o z => (by cases z), fun b c z => (by cases z), ⟨#[], hT, trivial, fun pos cv z => ?_⟩, hN, fun b o z => (by cases z)⟩, ⟨ns, rfl, rfl⟩, fun v H' z => ?_⟩
    · have z' : codeAmong pos [] = some cv := z
      simp [codeAmong] at z'
    · obtain ⟨d, I', M', _, _, r, rfl⟩ := z
      cases r
      rfl
  rcases hS with (h | ⟨o, h⟩) | h
  · refine key (fun b => if b = a then some (.lst (ns.map V.int)) else none) (fun b u z => ?_) (fun b ps z => ?_) (.inl (.inl (if_pos rfl)))
    · dsimp only at z
      by_cases e : b = a
      · rw [if_pos e] at z
        rw [e, h]
        exact z
      · rw [if_neg e] at z
        cases z
    · dsimp only at z
      by_cases e : b = a
      · rw [if_pos e] at z
        cases z
      · rw [if_neg e] at z
        cases z
  · refine key (fun b => if b = a then some (.frz o (.lst (ns.map V.int))) else none) (fun b u z => ?_) (fun b ps z => ?_) (.inl (.inr ⟨o, if_pos rfl⟩))
    · dsimp only at z
      by_cases e : b = a
      · rw [if_pos e] at z
        rw [e, h]
        exact z
      · rw [if_neg e] at z
        cases z
    · dsimp only at z
      by_cases e : b = a
      · rw [if_pos e] at z
        cases z
      · rw [if_neg e] at z
        cases z
  · exact key (fun _ => none) (fun b u z => by cases z) (fun b ps z => by cases z) (.inr h)
theorem law_at {w : World} {h : Heap} {mg : Str → Option Value} {fa' : Addr} (Y : hk.says w h) (G : h.Ns mainGlobals mg) (hfa : mg ("law" : Str) = some (.ref fa')) :
    ∃ K : PySem.W.Frag, K.In h ∧ LamX.LawAtS PySem.Challenge.rw_knotpurse_k20_whole_breaches w K CX0 10 63 "_law_script" mg fa' h := by
  obtain ⟨K, KX, c⟩ := Y
  have tx : ∀ base : Heap, K.In base → base.Ns mainGlobals mg → (∀ p ∈ [He.cT K ("gone_through", none)], LamX.TabB base mg p.1 p.2) → Txt K mg base := fun base hK hN hT => ⟨hK, hN, c.t.d, c.more, hT _ (List.mem_singleton.mpr rfl)⟩
  obtain ⟨fd, F⟩ : ∃ fd, FunD K "law" "law" (defArgs s_law) (defBody s_law) (defScope s_law) [] [] (He.fAd K ("law", none)) fd := c.t.d.def_ 72 (d := d_law) rfl
  have e : mg ("law" : Str) = some (.ref (He.ga K "law")) := He.glo_ok KX G (c.t.d.fact 30 (f := .glo "law") rfl)
  have e2 := hfa.symm.trans e
  cases e2
  refine ⟨K, KX, fd, [He.cT K ("gone_through", none)], spL K (spc_law K), fun p hp => ?_, fun p hp => ?_, fun p hp => ?_, fun s u => ?_, fun H a ns _ _ hT hS => ?_, fun base hK hN hT => ?_⟩
  · rw [List.mem_singleton.mp hp]
    exact c.empty _ (List.mem_singleton.mpr rfl)
  · rw [List.mem_singleton.mp hp]
    exact c.out _ (List.mem_singleton.mpr rfl)
  · rw [List.mem_singleton.mp hp]
    exact PySem.W.codeHd_of_K KX (c.hd _ (List.mem_singleton.mpr rfl))
  · exact F.bindsA (ps := ["_law_script"]) (fun _ _ _ _ _ _ us hl => match us, hl with | [_], _ => rfl) s [u] rfl
  · exact law_spec (hT _ (List.mem_singleton.mpr rfl)) hS
  · exact ok_law (tx base hK hN hT) F
end Kp
open PySem PySem.W PySem.Calls PyProof.Rows
theorem PySem.Challenge.cw_knotpurse_k20_whole_breaches_holds : PySem.Challenge.rw_knotpurse_k20_whole_breaches.Holds := by
  refine Kp.head_of (LamX.walk_ofTsE (l := PySem.Challenge.rw_knotpurse_k20_whole_breaches) (n := 63) (k := 10) (x := "_law_script") (CX := fun _ => L2.CX0) rfl (by decide) Kp.top_dflt ⟨rfl, by decide, by decide⟩ ?F (fun _ _ _ _ _ z => z))
  intro w mg fa h Y G hmg0
  rw [Kp.top_name] at hmg0
  exact Kp.law_at Y G hmg0
