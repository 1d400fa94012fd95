import PyProof.Rows.All
import Wide.All
import OpenK.AllK
import Wide.FinOn
import KE.KStateDown
import KE.DatumOrd
import HandS.ForMost
import HandS.TupAny
import HandS.Deep
import HandS.Strs
import HandS.FStr
import HandS.StrMore
import HandS.Steps
import HandS.CallLocal
import HandS.TupLe
import HandS.Defaults
import HandS.Evl
import HandS.HeadHook2
import KE.KxField
import HandS.NoneIn
import KE.DataEq
import PySem.Challenge.RW_ownanswer_k72_whole_keeper_before_any_or
import HandS.Base
import HandS.Call
import HandS.Ends
import HandS.More
import HandS.Words
import HandS.WordsExc
import HandS.Head0
import HandS.Head1
import HandS.Head2
import HandS.HeadEnd
import HandS.HeadHook1
import HandS.HeadHook4
import KE.IntTextLaws
import HandS.JoinGen
set_option Elab.async false
set_option linter.all false
set_option maxRecDepth 100000
set_option maxHeartbeats 0
namespace Ow
open PySem L2
abbrev top (i : Nat) : Stmt := PySem.Challenge.pw_ownanswer_k72_whole_keeper_before_any_or.main.body.getD i (.Pass ⟨0, 0, 0, 0⟩)
def fns : List He.DefD := [⟨("_law_draw", none), "_law_draw", "_law_draw", defArgs (top 95), defBody (top 95), defScope (top 95), [], []⟩,
  ⟨("Told", some "__init__"), "__init__", "Told.__init__", defArgs (inClass (top 92) 0), defBody (inClass (top 92) 0), defScope (inClass (top 92) 0), [], []⟩,
  ⟨("_law_take", none), "_law_take", "_law_take", defArgs (top 96), defBody (top 96), defScope (top 96), [], []⟩,
  ⟨("Shelf", some "__init__"), "__init__", "Shelf.__init__", defArgs (inClass (top 79) 0), defBody (inClass (top 79) 0), defScope (inClass (top 79) 0), [], []⟩,
  ⟨("Keeper", some "__init__"), "__init__", "Keeper.__init__", defArgs (inClass (top 93) 0), defBody (inClass (top 93) 0), defScope (inClass (top 93) 0), [], []⟩,
  ⟨("date_of", none), "date_of", "date_of", defArgs (top 27), defBody (top 27), defScope (top 27), [], []⟩,
  ⟨("weekday_of", none), "weekday_of", "weekday_of", defArgs (top 29), defBody (top 29), defScope (top 29), [], []⟩,
  ⟨("write_date", none), "write_date", "write_date", defArgs (top 30), defBody (top 30), defScope (top 30), [], []⟩,
  ⟨("_law_response", none), "_law_response", "_law_response", defArgs (top 99), defBody (top 99), defScope (top 99), [], []⟩,
  ⟨("_law_ask", none), "_law_ask", "_law_ask", defArgs (top 100), defBody (top 100), defScope (top 100), [], []⟩,
  ⟨("values", none), "values", "values", defArgs (top 13), defBody (top 13), defScope (top 13), [], []⟩,
  ⟨("cut", none), "cut", "cut", defArgs (top 18), defBody (top 18), defScope (top 18), [], []⟩,
  ⟨("trimmed", none), "trimmed", "trimmed", defArgs (top 12), defBody (top 12), defScope (top 12), [], []⟩,
  ⟨("split_list", none), "split_list", "split_list", defArgs (top 19), defBody (top 19), defScope (top 19), [], []⟩,
  ⟨("lower", none), "lower", "lower", defArgs (top 11), defBody (top 11), defScope (top 11), [], []⟩,
  ⟨("vary_names", none), "vary_names", "vary_names", defArgs (top 68), defBody (top 68), defScope (top 68), [], []⟩,
  ⟨("join_values", none), "join_values", "join_values", defArgs (top 20), defBody (top 20), defScope (top 20), [], []⟩,
  ⟨("evened", none), "evened", "evened", defArgs (top 69), defBody (top 69), defScope (top 69), [], []⟩,
  ⟨("fits", none), "fits", "fits", defArgs (top 70), defBody (top 70), defScope (top 70), [], []⟩,
  ⟨("are_digits", none), "are_digits", "are_digits", defArgs (top 21), defBody (top 21), defScope (top 21), [], []⟩,
  ⟨("number", none), "number", "number", defArgs (top 31), defBody (top 31), defScope (top 31), [], []⟩,
  ⟨("read_clock", none), "read_clock", "read_clock", defArgs (top 32), defBody (top 32), defScope (top 32), [], []⟩,
  ⟨("days_of", none), "days_of", "days_of", defArgs (top 26), defBody (top 26), defScope (top 26), [], []⟩,
  ⟨("length_of_month", none), "length_of_month", "length_of_month", defArgs (top 28), defBody (top 28), defScope (top 28), [], []⟩,
  ⟨("made", none), "made", "made", defArgs (top 33), defBody (top 33), defScope (top 33), [], []⟩,
  ⟨("long_name", none), "long_name", "long_name", defArgs (top 34), defBody (top 34), defScope (top 34), [], []⟩,
  ⟨("read_short", none), "read_short", "read_short", defArgs (top 36), defBody (top 36), defScope (top 36), [], []⟩,
  ⟨("full_year", none), "full_year", "full_year", defArgs (top 35), defBody (top 35), defScope (top 35), [], []⟩,
  ⟨("read_long", none), "read_long", "read_long", defArgs (top 37), defBody (top 37), defScope (top 37), [], []⟩,
  ⟨("read_old", none), "read_old", "read_old", defArgs (top 38), defBody (top 38), defScope (top 38), [], []⟩,
  ⟨("read_date", none), "read_date", "read_date", defArgs (top 39), defBody (top 39), defScope (top 39), [], []⟩,
  ⟨("_law_rank", none), "_law_rank", "_law_rank", defArgs (top 102), defBody (top 102), defScope (top 102), [], []⟩,
  ⟨("_law_find", none), "_law_find", "_law_find", defArgs (top 103), defBody (top 103), defScope (top 103), [], []⟩,
  ⟨("_law_has", none), "_law_has", "_law_has", defArgs (top 110), defBody (top 110), defScope (top 110), [], []⟩,
  ⟨("date_of_field", none), "date_of_field", "date_of_field", defArgs (top 61), defBody (top 61), defScope (top 61), [], []⟩,
  ⟨("seconds", none), "seconds", "seconds", defArgs (top 58), defBody (top 58), defScope (top 58), [], []⟩,
  ⟨("age_when_come", none), "age_when_come", "age_when_come", defArgs (top 64), defBody (top 64), defScope (top 64), [], []⟩,
  ⟨("age", none), "age", "age", defArgs (top 65), defBody (top 65), defScope (top 65), [], []⟩,
  ⟨("directive", none), "directive", "directive", defArgs (top 57), defBody (top 57), defScope (top 57), [], []⟩,
  ⟨("is_digit", none), "is_digit", "is_digit", defArgs (top 7), defBody (top 7), defScope (top 7), [], []⟩,
  ⟨("is_letter", none), "is_letter", "is_letter", defArgs (top 8), defBody (top 8), defScope (top 8), [], []⟩,
  ⟨("is_value_sign", none), "is_value_sign", "is_value_sign", defArgs (top 5), defBody (top 5), defScope (top 5), [], []⟩,
  ⟨("sign_of", none), "sign_of", "sign_of", defArgs (top 6), defBody (top 6), defScope (top 6), [], []⟩,
  ⟨("is_token_sign", none), "is_token_sign", "is_token_sign", defArgs (top 9), defBody (top 9), defScope (top 9), [], []⟩,
  ⟨("is_token", none), "is_token", "is_token", defArgs (top 10), defBody (top 10), defScope (top 10), [], []⟩,
  ⟨("read_quoted", none), "read_quoted", "read_quoted", defArgs (top 17), defBody (top 17), defScope (top 17), [], []⟩,
  ⟨("read_directive", none), "read_directive", "read_directive", defArgs (top 55), defBody (top 55), defScope (top 55), [], []⟩,
  ⟨("read_directives", none), "read_directives", "read_directives", defArgs (top 56), defBody (top 56), defScope (top 56), [], []⟩,
  ⟨("told_lifetime", none), "told_lifetime", "told_lifetime", defArgs (top 62), defBody (top 62), defScope (top 62), [], []⟩,
  ⟨("lifetime", none), "lifetime", "lifetime", defArgs (top 63), defBody (top 63), defScope (top 63), [], []⟩,
  ⟨("_law_rule", none), "_law_rule", "_law_rule", defArgs (top 104), defBody (top 104), defScope (top 104), [], []⟩,
  ⟨("_law_limit", none), "_law_limit", "_law_limit", defArgs (top 105), defBody (top 105), defScope (top 105), [], []⟩,
  ⟨("_law_usable", none), "_law_usable", "_law_usable", defArgs (top 106), defBody (top 106), defScope (top 106), [], []⟩,
  ⟨("read_tag", none), "read_tag", "read_tag", defArgs (top 41), defBody (top 41), defScope (top 41), [], []⟩,
  ⟨("_law_tag", none), "_law_tag", "_law_tag", defArgs (top 107), defBody (top 107), defScope (top 107), [], []⟩,
  ⟨("_law_modified", none), "_law_modified", "_law_modified", defArgs (top 108), defBody (top 108), defScope (top 108), [], []⟩,
  ⟨("_law_plan", none), "_law_plan", "_law_plan", defArgs (top 112), defBody (top 112), defScope (top 112), [], []⟩,
  ⟨("_law_sent", none), "_law_sent", "_law_sent", defArgs (top 113), defBody (top 113), defScope (top 113), [], []⟩,
  ⟨("without", none), "without", "without", defArgs (top 14), defBody (top 14), defScope (top 14), [], []⟩,
  ⟨("freshened", none), "freshened", "freshened", defArgs (top 77), defBody (top 77), defScope (top 77), [], []⟩,
  ⟨("_law_put", none), "_law_put", "_law_put", defArgs (top 101), defBody (top 101), defScope (top 101), [], []⟩,
  ⟨("_law_same_tag", none), "_law_same_tag", "_law_same_tag", defArgs (top 111), defBody (top 111), defScope (top 111), [], []⟩,
  ⟨("tag_value", none), "tag_value", "tag_value", defArgs (top 74), defBody (top 74), defScope (top 74), [], []⟩,
  ⟨("modified_value", none), "modified_value", "modified_value", defArgs (top 75), defBody (top 75), defScope (top 75), [], []⟩,
  ⟨("may_keep", none), "may_keep", "may_keep", defArgs (top 76), defBody (top 76), defScope (top 76), [], []⟩,
  ⟨("date_value", none), "date_value", "date_value", defArgs (top 46), defBody (top 46), defScope (top 46), [], []⟩,
  ⟨("read_tags", none), "read_tags", "read_tags", defArgs (top 42), defBody (top 42), defScope (top 42), [], []⟩,
  ⟨("tags_of", none), "tags_of", "tags_of", defArgs (top 48), defBody (top 48), defScope (top 48), [], []⟩,
  ⟨("strong_match", none), "strong_match", "strong_match", defArgs (top 43), defBody (top 43), defScope (top 43), [], []⟩,
  ⟨("weak_match", none), "weak_match", "weak_match", defArgs (top 44), defBody (top 44), defScope (top 44), [], []⟩,
  ⟨("matches", none), "matches", "matches", defArgs (top 47), defBody (top 47), defScope (top 47), [], []⟩,
  ⟨("fails", none), "fails", "fails", defArgs (top 49), defBody (top 49), defScope (top 49), [], []⟩,
  ⟨("is_known", none), "is_known", "is_known", defArgs (top 50), defBody (top 50), defScope (top 50), [], []⟩,
  ⟨("wants_whole", none), "wants_whole", "wants_whole", defArgs (top 51), defBody (top 51), defScope (top 51), [], []⟩,
  ⟨("judge", none), "judge", "judge", defArgs (top 52), defBody (top 52), defScope (top 52), [], []⟩,
  ⟨("_law_shown", none), "_law_shown", "_law_shown", defArgs (top 109), defBody (top 109), defScope (top 109), [], []⟩,
  ⟨("_law_done", none), "_law_done", "_law_done", defArgs (top 114), defBody (top 114), defScope (top 114), [], []⟩,
  ⟨("has_one", none), "has_one", "has_one", defArgs (top 84), defBody (top 84), defScope (top 84), [], []⟩,
  ⟨("is_passed_on", none), "is_passed_on", "is_passed_on", defArgs (top 85), defBody (top 85), defScope (top 85), [], []⟩,
  ⟨("date_rank", none), "date_rank", "date_rank", defArgs (top 78), defBody (top 78), defScope (top 78), [], []⟩,
  ⟨("Shelf", some "find"), "find", "Shelf.find", defArgs (inClass (top 79) 3), defBody (inClass (top 79) 3), defScope (inClass (top 79) 3), [], []⟩,
  ⟨("Told", some "answer"), "answer", "Told.answer", defArgs (inClass (top 92) 1), defBody (inClass (top 92) 1), defScope (inClass (top 92) 1), [], []⟩,
  ⟨("agree", none), "agree", "agree", defArgs (top 91), defBody (top 91), defScope (top 91), [], []⟩,
  ⟨("Shelf", some "put"), "put", "Shelf.put", defArgs (inClass (top 79) 2), defBody (inClass (top 79) 2), defScope (inClass (top 79) 2), [], []⟩,
  ⟨("Keeper", some "keep"), "keep", "Keeper.keep", defArgs (inClass (top 93) 5), defBody (inClass (top 93) 5), defScope (inClass (top 93) 5), [], []⟩,
  ⟨("Shelf", some "drop"), "drop", "Shelf.drop", defArgs (inClass (top 79) 4), defBody (inClass (top 79) 4), defScope (inClass (top 79) 4), [], []⟩,
  ⟨("Keeper", some "pass_on"), "pass_on", "Keeper.pass_on", defArgs (inClass (top 93) 3), defBody (inClass (top 93) 3), defScope (inClass (top 93) 3), [], []⟩,
  ⟨("limit_of", none), "limit_of", "limit_of", defArgs (top 86), defBody (top 86), defScope (top 86), [], []⟩,
  ⟨("entry_lifetime", none), "entry_lifetime", "entry_lifetime", defArgs (top 66), defBody (top 66), defScope (top 66), [], []⟩,
  ⟨("allows_stale", none), "allows_stale", "allows_stale", defArgs (top 87), defBody (top 87), defScope (top 87), [], []⟩,
  ⟨("is_usable", none), "is_usable", "is_usable", defArgs (top 88), defBody (top 88), defScope (top 88), [], []⟩,
  ⟨("shown", none), "shown", "shown", defArgs (top 89), defBody (top 89), defScope (top 89), [], []⟩,
  ⟨("checking", none), "checking", "checking", defArgs (top 90), defBody (top 90), defScope (top 90), [], []⟩,
  ⟨("Keeper", some "check"), "check", "Keeper.check", defArgs (inClass (top 93) 4), defBody (inClass (top 93) 4), defScope (inClass (top 93) 4), [], []⟩,
  ⟨("Keeper", some "ask"), "ask", "Keeper.ask", defArgs (inClass (top 93) 2), defBody (inClass (top 93) 2), defScope (inClass (top 93) 2), [], []⟩,
  ⟨("Shelf", some "entries"), "entries", "Shelf.entries", defArgs (inClass (top 79) 1), defBody (inClass (top 79) 1), defScope (inClass (top 79) 1), [], []⟩,
  ⟨("Keeper", some "entries"), "entries", "Keeper.entries", defArgs (inClass (top 93) 1), defBody (inClass (top 93) 1), defScope (inClass (top 93) 1), [], []⟩,
  ⟨("Told", some "asked"), "asked", "Told.asked", defArgs (inClass (top 92) 2), defBody (inClass (top 92) 2), defScope (inClass (top 92) 2), [], []⟩,
  ⟨("law", none), "law", "law", defArgs (top 115), defBody (top 115), defScope (top 115), [], []⟩]
end Ow
namespace Ow
open PySem PySem.Spec PyProof.Rows L2
def fa_ : List He.Fa := [(.glo "is_value_sign" : He.Fa),
  (.glo "sign_of" : He.Fa),
  (.glo "is_digit" : He.Fa),
  (.glo "is_letter" : He.Fa),
  (.glo "is_token_sign" : He.Fa),
  (.glo "is_token" : He.Fa),
  (.glo "lower" : He.Fa),
  (.glo "trimmed" : He.Fa),
  (.glo "values" : He.Fa),
  (.glo "without" : He.Fa),
  (.glo "read_quoted" : He.Fa),
  (.glo "cut" : He.Fa),
  (.glo "split_list" : He.Fa),
  (.glo "join_values" : He.Fa),
  (.glo "are_digits" : He.Fa),
  (.glo "days_of" : He.Fa),
  (.glo "date_of" : He.Fa),
  (.glo "length_of_month" : He.Fa),
  (.glo "weekday_of" : He.Fa),
  (.glo "write_date" : He.Fa),
  (.glo "number" : He.Fa),
  (.glo "read_clock" : He.Fa),
  (.glo "made" : He.Fa),
  (.glo "long_name" : He.Fa),
  (.glo "full_year" : He.Fa),
  (.glo "read_short" : He.Fa),
  (.glo "read_long" : He.Fa),
  (.glo "read_old" : He.Fa),
  (.glo "read_date" : He.Fa),
  (.glo "read_tag" : He.Fa),
  (.glo "read_tags" : He.Fa),
  (.glo "strong_match" : He.Fa),
  (.glo "weak_match" : He.Fa),
  (.glo "date_value" : He.Fa),
  (.glo "matches" : He.Fa),
  (.glo "tags_of" : He.Fa),
  (.glo "fails" : He.Fa),
  (.glo "is_known" : He.Fa),
  (.glo "wants_whole" : He.Fa),
  (.glo "judge" : He.Fa),
  (.glo "read_directive" : He.Fa),
  (.glo "read_directives" : He.Fa),
  (.glo "directive" : He.Fa),
  (.glo "seconds" : He.Fa),
  (.glo "date_of_field" : He.Fa),
  (.glo "told_lifetime" : He.Fa),
  (.glo "lifetime" : He.Fa),
  (.glo "age_when_come" : He.Fa),
  (.glo "age" : He.Fa),
  (.glo "entry_lifetime" : He.Fa),
  (.glo "vary_names" : He.Fa),
  (.glo "evened" : He.Fa),
  (.glo "fits" : He.Fa),
  (.glo "tag_value" : He.Fa),
  (.glo "modified_value" : He.Fa),
  (.glo "may_keep" : He.Fa),
  (.glo "freshened" : He.Fa),
  (.glo "date_rank" : He.Fa),
  (.glo "has_one" : He.Fa),
  (.glo "is_passed_on" : He.Fa),
  (.glo "limit_of" : He.Fa),
  (.glo "allows_stale" : He.Fa),
  (.glo "is_usable" : He.Fa),
  (.glo "shown" : He.Fa),
  (.glo "checking" : He.Fa),
  (.glo "agree" : He.Fa),
  (.glo "_law_draw" : He.Fa),
  (.glo "_law_take" : He.Fa),
  (.glo "_law_response" : He.Fa),
  (.glo "_law_ask" : He.Fa),
  (.glo "_law_put" : He.Fa),
  (.glo "_law_rank" : He.Fa),
  (.glo "_law_find" : He.Fa),
  (.glo "_law_rule" : He.Fa),
  (.glo "_law_limit" : He.Fa),
  (.glo "_law_usable" : He.Fa),
  (.glo "_law_tag" : He.Fa),
  (.glo "_law_modified" : He.Fa),
  (.glo "_law_shown" : He.Fa),
  (.glo "_law_has" : He.Fa),
  (.glo "_law_same_tag" : He.Fa),
  (.glo "_law_plan" : He.Fa),
  (.glo "_law_sent" : He.Fa),
  (.glo "_law_done" : He.Fa),
  (.glo "law" : He.Fa),
  (.glo "Shelf" : He.Fa),
  (.glo "Told" : He.Fa),
  (.glo "Keeper" : He.Fa),
  (.free "len" : He.Fa),
  (.free "max" : He.Fa),
  (.free "min" : He.Fa),
  (.free "abs" : He.Fa),
  (.free "int" : He.Fa),
  (.free "str" : He.Fa),
  (.free "ord" : He.Fa),
  (.free "list" : He.Fa),
  (.free "tuple" : He.Fa),
  (.free "range" : He.Fa),
  (.str "SIGNS" " !\"#$&'()*+,-./0123456789:;<=>?@ABCDEFGHIJKLMNOPQRSTUVWXYZ[\\]^_`abcdefghijklmnopqrstuvwxyz{|}~" : He.Fa),
  (.str "TOKEN_MARKS" "!#$&'*+-.^_|~`" : He.Fa),
  (.int "PERCENT" 37 : He.Fa),
  (.int "TAB" 9 : He.Fa),
  (.str "DIGITS" "0123456789" : He.Fa),
  (.glo "WEEKDAYS" : He.Fa),
  (.glo "MONTHS" : He.Fa),
  (.int "DAY" 86400 : He.Fa),
  (.int "MOST_SECONDS" 2147483648 : He.Fa),
  (.glo "LASTING" : He.Fa),
  (.glo "KEPT" : He.Fa),
  (.glo "STAYING" : He.Fa),
  (.glo "PASSING" : He.Fa),
  (.glo "KNOWING" : He.Fa),
  (.glo "TOLD" : He.Fa),
  (.cls "Shelf" : He.Fa),
  (.cls "Told" : He.Fa),
  (.cls "Keeper" : He.Fa),
  (.mkr "Shelf" : He.Fa),
  (.mkr "Told" : He.Fa),
  (.mkr "Keeper" : He.Fa),
  (.noat "Shelf" "_room" : He.Fa),
  (.noat "Shelf" "_rows" : He.Fa),
  (.noat "Told" "_asked" : He.Fa),
  (.noat "Told" "_responses" : He.Fa),
  (.noat "Keeper" "_origin" : He.Fa),
  (.noat "Keeper" "_shelf" : He.Fa),
  (.meth "Told" "__init__" : He.Fa),
  (.meth "Shelf" "__init__" : He.Fa),
  (.meth "Keeper" "__init__" : He.Fa),
  (.meth "Shelf" "find" : He.Fa),
  (.meth "Told" "answer" : He.Fa),
  (.meth "Shelf" "put" : He.Fa),
  (.meth "Keeper" "keep" : He.Fa),
  (.meth "Shelf" "drop" : He.Fa),
  (.meth "Keeper" "pass_on" : He.Fa),
  (.meth "Keeper" "check" : He.Fa),
  (.meth "Keeper" "ask" : He.Fa),
  (.meth "Shelf" "entries" : He.Fa),
  (.meth "Keeper" "entries" : He.Fa),
  (.meth "Told" "asked" : He.Fa)]
def ex_ (K : PySem.W.Frag) : Bool := He.tupB K "WEEKDAYS" [.str "Monday", .str "Tuesday", .str "Wednesday", .str "Thursday", .str "Friday", .str "Saturday", .str "Sunday"] && (He.tupB K "MONTHS" [.str "Jan", .str "Feb", .str "Mar", .str "Apr", .str "May", .str "Jun", .str "Jul", .str "Aug", .str "Sep", .str "Oct", .str "Nov", .str "Dec"] && (He.tupB K "LASTING" [.int 200, .int 203, .int 204, .int 300, .int 301, .int 404, .int 405, .int 410, .int 414, .int 501] && (He.tupB K "KEPT" [.int 200, .int 203, .int 300, .int 301, .int 404, .int 410] && (He.tupB K "STAYING" [.str "content-length", .str "content-range", .str "content-encoding", .str "content-type"] && (He.tupB K "PASSING" [.str "range", .str "if-range", .str "if-match", .str "if-unmodified-since"] && (He.tupB K "KNOWING" [.str "if-none-match", .str "if-modified-since"] && (He.tupB K "TOLD" [.str "date", .str "etag", .str "last-modified", .str "cache-control", .str "vary", .str "expires", .str "age"] && (match K.lookup (He.ga K "MONTHS") with
  | some ⟨.type c, none, _, _⟩ => decide (c = "tuple")
  | _ => false))))))))
abbrev R_ : PySem.W.OpenRow := PySem.W.OpenLaw.row PySem.Challenge.rw_ownanswer_k72_whole_keeper_before_any_or
def frL {α : Type} : List Addr → (List Addr → α) → α
  | [], k => k []
  | a :: r, k => HandSHeadRun.frNat a fun a => frL r fun r => k (a :: r)
theorem frL_eq {α : Type} : ∀ (l : List Addr) (k : List Addr → α), frL l k = k l
  | [], k => rfl
  | a :: r, k => by
    show HandSHeadRun.frNat a (fun a => frL r fun r => k (a :: r)) = _
    rw [HandSHeadRun.frNat_eq, frL_eq r]
def frK {α : Type} : PySem.W.Frag → (PySem.W.Frag → α) → α
  | [], k => k []
  | (a, o) :: r, k => HandSHeadRun.frNat a fun a => frK r fun r => k ((a, o) :: r)
theorem frK_eq {α : Type} : ∀ (l : PySem.W.Frag) (k : PySem.W.Frag → α), frK l k = k l
  | [], k => rfl
  | (a, o) :: r, k => by
    show HandSHeadRun.frNat a (fun a => frK r fun r => k ((a, o) :: r)) = _
    rw [HandSHeadRun.frNat_eq, frK_eq r]
def rfs (g : Addr → Option Obj) (as : List Addr) : List Addr := as.flatMap fun a => match g a with
  | some o => He.refsO o
  | none => []
abbrev AlQ : Type := He.AlD × Bool
def obsK (K : PySem.W.Frag) : AlQ := (He.obsD fa_ fns K, ex_ K)
def kOf (g : Addr → Option Obj) : PySem.W.Frag := He.frG g (mainGlobals :: (rfs g [mainGlobals] ++ (rfs g (rfs g [mainGlobals]) ++ (rfs g (rfs g (rfs g [mainGlobals])) ++ rfs g (rfs g (rfs g (rfs g [mainGlobals])))))))
def obsF (g : Addr → Option Obj) : AlQ := frL (rfs g [mainGlobals]) fun f1 => frL (rfs g f1) fun f2 => frL (rfs g f2) fun f3 => frL (rfs g f3) fun f4 => frK (He.frG g (mainGlobals :: (f1 ++ (f2 ++ (f3 ++ f4))))) obsK
theorem obsF_eq (g : Addr → Option Obj) : obsF g = obsK (kOf g) := by
  unfold obsF kOf
  rw [frL_eq, frL_eq, frL_eq, frL_eq, frK_eq]
def SaysQ (K : PySem.W.Frag) : Prop := obsK K = (He.valD fns, true)
def hk_ : PySem.W.Hook where
  α := AlQ
  obs := fun s => obsK (kOf s.heap.get?)
  val := fun _ => (He.valD fns, true)
  says := fun _ h => ∃ K : PySem.W.Frag, K.In h ∧ SaysQ K
  of := fun _ _ e => ⟨_, He.frG_in, e⟩
  keeps := fun _ _ _ ⟨K, hK, c⟩ k => ⟨K, PySem.W.Frag.In.keeps hK k, c⟩
def ob_ (s : PySem.W.SharedT) : AlQ := obsF (HandSHeadRun.getT s)
theorem ob_eq (s : PySem.W.SharedT) : ob_ s = hk_.obs s.abs := by
  have e : HandSHeadRun.getT s = s.abs.heap.get? := funext (HandSHeadRun.getT_eq s)
  show obsF (HandSHeadRun.getT s) = obsK (kOf s.abs.heap.get?)
  rw [obsF_eq, e]
abbrev loose_ : List Str := [("__name__" : Str), ("SIGNS" : Str), ("TOKEN_MARKS" : Str), ("PERCENT" : Str), ("TAB" : Str), ("DIGITS" : Str), ("WEEKDAYS" : Str), ("MONTHS" : Str), ("DAY" : Str), ("MOST_SECONDS" : Str), ("LASTING" : Str), ("KEPT" : Str), ("STAYING" : Str), ("PASSING" : Str), ("KNOWING" : Str), ("TOLD" : Str), ("is_value_sign" : Str), ("sign_of" : Str), ("is_digit" : Str), ("is_letter" : Str), ("is_token_sign" : Str), ("is_token" : Str), ("lower" : Str), ("trimmed" : Str), ("values" : Str), ("without" : Str), ("read_quoted" : Str), ("cut" : Str), ("split_list" : Str), ("join_values" : Str), ("are_digits" : Str), ("days_of" : Str), ("date_of" : Str), ("length_of_month" : Str), ("weekday_of" : Str), ("write_date" : Str), ("number" : Str), ("read_clock" : Str), ("made" : Str), ("long_name" : Str), ("full_year" : Str), ("read_short" : Str), ("read_long" : Str), ("read_old" : Str), ("read_date" : Str), ("read_tag" : Str), ("read_tags" : Str), ("strong_match" : Str), ("weak_match" : Str), ("date_value" : Str), ("matches" : Str), ("tags_of" : Str), ("fails" : Str), ("is_known" : Str), ("wants_whole" : Str), ("judge" : Str), ("read_directive" : Str), ("read_directives" : Str), ("directive" : Str), ("seconds" : Str), ("date_of_field" : Str), ("told_lifetime" : Str), ("lifetime" : Str), ("age_when_come" : Str), ("age" : Str), ("entry_lifetime" : Str), ("vary_names" : Str), ("evened" : Str), ("fits" : Str), ("tag_value" : Str), ("modified_value" : Str), ("may_keep" : Str), ("freshened" : Str), ("date_rank" : Str), ("has_one" : Str), ("is_passed_on" : Str), ("limit_of" : Str), ("allows_stale" : Str), ("is_usable" : Str), ("shown" : Str), ("checking" : Str), ("agree" : Str), ("_law_draw" : Str), ("_law_take" : Str), ("_law_date" : Str), ("_law_values" : Str), ("_law_response" : Str), ("_law_ask" : Str), ("_law_put" : Str), ("_law_rank" : Str), ("_law_find" : Str), ("_law_rule" : Str), ("_law_limit" : Str), ("_law_usable" : Str), ("_law_tag" : Str), ("_law_modified" : Str), ("_law_shown" : Str), ("_law_has" : Str), ("_law_same_tag" : Str), ("_law_plan" : Str), ("_law_sent" : Str), ("_law_done" : Str), ("Shelf" : Str), ("Told" : Str), ("Keeper" : Str)]
theorem run_ (w : World) : HandSHeadRun.RunEq R_ (PySem.W.view R_.prog [115]) hk_ ob_ 20000 loose_ w := by
  intro os
  kernel_rfl
end Ow
section
open PySem PySem.W PySem.Calls PyProof.Rows
namespace Ow
theorem q1 : opening R_.prog = plainProg R_.prog.main.scope.names := by kernel_rfl
theorem q2 (s) : fenceModules? R_.prog s = some s := by kernel_rfl
theorem q3 : defOf (PySem.W.view R_.prog [115]) R_.name = some (HandSHeadRun.topDef R_.prog 115, []) := by kernel_rfl
theorem q4 : R_.prog.theDef R_.name = some ((HandSHeadRun.topDef R_.prog 115).params, (HandSHeadRun.topDef R_.prog 115).body, (HandSHeadRun.topDef R_.prog 115).scope) := by kernel_rfl
theorem q5 : kwWritten? (HandSHeadRun.topDef R_.prog 115).params.kwonlyargs (HandSHeadRun.topDef R_.prog 115).params.kw_defaults = some [] := by kernel_rfl
theorem q6 : (!R_.writes || R_.records.isEmpty) = true := by rfl
theorem q8 : (chainsOk (PySem.W.view R_.prog [115]) && opensWell R_.prog && (PySem.W.frees R_.toRowW && R_.within.isEmpty)) = true := by decide +kernel
theorem q9 : R_.prog.bare := ⟨rfl, rfl, rfl, rfl, rfl, by decide +kernel⟩
theorem q10 : (HandSHeadRun.topDef R_.prog 115).name = ("law" : PySem.Str) := by kernel_rfl
end Ow
theorem Ow.head_ (walk : PySem.W.WalkO (PySem.W.view Ow.R_.prog [115]) Ow.loose_ (PySem.W.XL (PySem.W.view Ow.R_.prog [115]) []) Ow.hk_.says Ow.R_.toRowW (HandSHeadRun.topDef Ow.R_.prog 115) [] (fun f vs => PySem.call f vs)) : PySem.Challenge.rw_ownanswer_k72_whole_keeper_before_any_or.Holds := by
  w_on; o_law
  refine HandSHeadRun.head_any (r := OpenLaw.row PySem.Challenge.rw_ownanswer_k72_whole_keeper_before_any_or) (q := PySem.W.view Ow.R_.prog [115]) (H := Ow.hk_) (ob := Ow.ob_) (M := 20000) (loose := Ow.loose_) (d := HandSHeadRun.topDef Ow.R_.prog 115) (kwd := []) Ow.ob_eq Ow.q1 Ow.q2 Ow.run_ Ow.q3 Ow.q4 Ow.q5 Ow.q6 (by assumption) Ow.q8 Ow.q9 ?hw walk
  case hw => w_witness2
end
set_option Elab.async false
set_option linter.all false
set_option maxRecDepth 100000
set_option maxHeartbeats 4000000
/-! Data over the layer: values as data, a store of objects that change. -/
namespace Ow
open PySem L2

/-- the greatest size that the readings allow -/
abbrev lim : Nat := 1000000
theorem lim_line {n : Nat} (h : n ≤ lim) : n ≤ sizeLine := Nat.le_trans h (by decide)
theorem lim_lt {n : Nat} (h : n < lim) : n < sizeLine := Nat.lt_of_lt_of_le h (by decide)

/-! ### data that never changes -/
mutual
def Dd (K : PySem.W.Frag) (H : Hp) : PyData → V → Prop
  | .none, v => v = .non
  | .bool b, v => v = .bl b
  | .int i, v => v = .int i
  | .str x, v => v = .str x
  | .list ds, v => ∃ a xs, v = .ref a ∧ H a = some (.lst xs) ∧ DdAll K H ds xs
  | .tuple ds, v => ∃ a xs, v = .ref a ∧ SqT K H a xs ∧ DdAll K H ds xs
  | .dict _, _ => False
def DdAll (K : PySem.W.Frag) (H : Hp) : List PyData → List V → Prop
  | [], xs => xs = []
  | d :: ds, xs => ∃ v vs, xs = v :: vs ∧ Dd K H d v ∧ DdAll K H ds vs
end
abbrev Ex (H H' : Hp) : Prop := Evl.Ex H H'
abbrev Ex.refl := Evl.Ex.refl
theorem Ex.trans {H H1 H2 : Hp} (a : Ex H H1) (b : Ex H1 H2) : Ex H H2 := Evl.Ex.trans a b
theorem Ex.new {H : Hp} {p : Addr} {o : HO} (h : H p = none) : Ex H (upd H p o) := Evl.Ex.new h
theorem Ex.free {H H' : Hp} {p : Addr} (e : Ex H H') (h : H' p = none) : H p = none := Evl.fresh_back e h
section
variable {K : PySem.W.Frag} {H H' : Hp}
theorem sqT_mono {a : Addr} {xs : List V} (e : Ex H H') (h : SqT K H a xs) : SqT K H' a xs := Evl.ex_t e h
theorem sqL_mono {a : Addr} {xs : List V} (e : Ex H H') (h : SqL K H a xs) : SqL K H' a xs := Evl.ex_l e h
mutual
theorem Dd.mono (e : Ex H H') : ∀ (d : PyData) (v : V), Dd K H d v → Dd K H' d v
  | .none, _, h => h
  | .bool _, _, h => h
  | .int _, _, h => h
  | .str _, _, h => h
  | .list ds, _, ⟨a, xs, e1, h1, h2⟩ => ⟨a, xs, e1, e _ _ h1, DdAll.mono e ds xs h2⟩
  | .tuple ds, _, ⟨a, xs, e1, h1, h2⟩ => ⟨a, xs, e1, sqT_mono e h1, DdAll.mono e ds xs h2⟩
  | .dict _, _, h => h
theorem DdAll.mono (e : Ex H H') : ∀ (ds : List PyData) (xs : List V), DdAll K H ds xs → DdAll K H' ds xs
  | [], _, h => h
  | d :: ds, _, ⟨v, vs, e1, h1, h2⟩ => ⟨v, vs, e1, Dd.mono e d v h1, DdAll.mono e ds vs h2⟩
end
mutual
theorem Dd.dp : ∀ (d : PyData) (v : V), Dd K H d v → Dp K H v d
  | .none, _, h => by cases (show _ = _ from h); exact .non
  | .bool b, _, h => by cases (show _ = _ from h); exact .bl b
  | .int i, _, h => by cases (show _ = _ from h); exact .int i
  | .str x, _, h => by cases (show _ = _ from h); exact .str x
  | .list ds, _, ⟨a, xs, e1, h1, h2⟩ => by subst e1; exact .lst (.inl (.inl h1)) (DdAll.dp ds xs h2)
  | .tuple ds, _, ⟨a, xs, e1, h1, h2⟩ => by subst e1; exact .tup h1 (DdAll.dp ds xs h2)
  | .dict _, _, h => False.elim h
theorem DdAll.dp : ∀ (ds : List PyData) (xs : List V), DdAll K H ds xs → DpAll K H xs ds
  | [], _, h => by cases (show _ = _ from h); exact .nil
  | d :: ds, _, ⟨v, vs, e1, h1, h2⟩ => by subst e1; exact .cons (Dd.dp d v h1) (DdAll.dp ds vs h2)
end
theorem DdAll.length : ∀ {ds : List PyData} {xs : List V}, DdAll K H ds xs → xs.length = ds.length
  | [], xs, h => by
    have e : xs = [] := h
    rw [e]; rfl
  | d :: ds, _, ⟨v, vs, e1, h1, h2⟩ => by rw [e1, List.length_cons, List.length_cons, DdAll.length h2]
theorem DdAll.get : ∀ {ds : List PyData} {xs : List V}, DdAll K H ds xs → ∀ {i : Nat} {d : PyData}, ds[i]? = some d → ∃ v, xs[i]? = some v ∧ Dd K H d v
  | [], _, _, i, d, e => by simp at e
  | d :: ds, _, ⟨v, vs, e1, h1, h2⟩, 0, d', e => by
    simp at e
    subst e e1
    exact ⟨v, rfl, h1⟩
  | d :: ds, _, ⟨v, vs, e1, h1, h2⟩, i + 1, d', e => by
    subst e1
    obtain ⟨w, q1, q2⟩ := DdAll.get h2 (i := i) (d := d') (by simpa using e)
    exact ⟨w, by simpa using q1, q2⟩
theorem DdAll.get' : ∀ {ds : List PyData} {xs : List V}, DdAll K H ds xs → ∀ {i : Nat} {v : V}, xs[i]? = some v → ∃ d, ds[i]? = some d ∧ Dd K H d v
  | [], _, h, i, d, e => by rw [show _ = _ from h] at e; simp at e
  | d :: ds, _, ⟨v, vs, e1, h1, h2⟩, 0, v', e => by
    subst e1
    simp at e
    subst e
    exact ⟨d, rfl, h1⟩
  | d :: ds, _, ⟨v, vs, e1, h1, h2⟩, i + 1, v', e => by
    subst e1
    obtain ⟨w, q1, q2⟩ := DdAll.get' h2 (i := i) (v := v') (by simpa using e)
    exact ⟨w, by simpa using q1, q2⟩
theorem DdAll.append : ∀ {ds es : List PyData} {xs ys : List V}, DdAll K H ds xs → DdAll K H es ys → DdAll K H (ds ++ es) (xs ++ ys)
  | [], _, _, _, h, q => by rw [show _ = _ from h]; exact q
  | d :: ds, _, _, _, ⟨v, vs, e1, h1, h2⟩, q => ⟨v, vs ++ _, by rw [e1]; rfl, h1, DdAll.append h2 q⟩
theorem DdAll.take : ∀ {ds : List PyData} {xs : List V} (n : Nat), DdAll K H ds xs → DdAll K H (ds.take n) (xs.take n)
  | _, _, 0, _ => rfl
  | [], _, n + 1, h => by rw [show _ = _ from h]; rfl
  | d :: ds, _, n + 1, ⟨v, vs, e1, h1, h2⟩ => ⟨v, vs.take n, by rw [e1]; rfl, h1, DdAll.take n h2⟩
theorem DdAll.drop : ∀ {ds : List PyData} {xs : List V} (n : Nat), DdAll K H ds xs → DdAll K H (ds.drop n) (xs.drop n)
  | _, _, 0, h => h
  | [], _, n + 1, h => by rw [show _ = _ from h]; rfl
  | d :: ds, _, n + 1, ⟨v, vs, e1, h1, h2⟩ => by rw [e1]; exact DdAll.drop n h2
theorem DdAll.set : ∀ {ds : List PyData} {xs : List V} (n : Nat) {d : PyData} {v : V}, DdAll K H ds xs → Dd K H d v → DdAll K H (ds.set n d) (xs.set n v)
  | [], _, _, _, _, h, _ => by rw [show _ = _ from h]; rfl
  | d :: ds, _, 0, d', v', ⟨v, vs, e1, h1, h2⟩, q => ⟨v', vs, by rw [e1]; rfl, q, h2⟩
  | d :: ds, _, n + 1, d', v', ⟨v, vs, e1, h1, h2⟩, q => ⟨v, vs.set n v', by rw [e1]; rfl, h1, DdAll.set n h2 q⟩
theorem DdAll.one {d : PyData} {v : V} (h : Dd K H d v) : DdAll K H [d] [v] := ⟨v, [], rfl, h, rfl⟩
end

/-! ### values, objects -/
inductive DV where
  | d (x : PyData)
  | r (n : Nat)
  | a (x : Str)
  | s (xs : List PyData)
inductive MO where
  | lst (xs : List PyData)
  | dic (kvs : List (Str × PyData))
  | ins (x : Str) (fs : List (Str × DV))
abbrev Mem := List MO
abbrev DS := List (Option DV)

def RelD (K : PySem.W.Frag) (th : List Addr) (H0 : Hp) : DV → V → Prop
  | .d x, v => Dd K H0 x v
  | .r n, v => ∃ a, th[n]? = some a ∧ v = .ref a
  | .a x, v => v = .ref (He.ga K x)
  | .s xs, v => ∃ a vs, v = .ref a ∧ SqL K H0 a vs ∧ DdAll K H0 xs vs
def RelDs (K : PySem.W.Frag) (th : List Addr) (H0 : Hp) : List DV → List V → Prop
  | [], vs => vs = []
  | d :: ds, vs => ∃ v r, vs = v :: r ∧ RelD K th H0 d v ∧ RelDs K th H0 ds r
def FldD (K : PySem.W.Frag) (th : List Addr) (H0 : Hp) : List (Str × DV) → List (Str × V) → Prop
  | [], ps => ps = []
  | (f, d) :: fs, ps => ∃ v r, ps = (f, v) :: r ∧ RelD K th H0 d v ∧ FldD K th H0 fs r
def KvsD (K : PySem.W.Frag) (H0 : Hp) : List (Str × PyData) → List (Key × V) → Prop
  | [], ps => ps = []
  | (k, d) :: fs, ps => ∃ v r, ps = (Sum.inr k, v) :: r ∧ Dd K H0 d v ∧ KvsD K H0 fs r
def ObjD (K : PySem.W.Frag) (th : List Addr) (H0 H : Hp) (a : Addr) : MO → Prop
  | .lst xs => ∃ vs, H a = some (.lst vs) ∧ DdAll K H0 xs vs
  | .dic kvs => ∃ ps, H a = some (.dK ps) ∧ KvsD K H0 kvs ps
  | .ins x fs => ∃ dx ps, H a = some (.ins (He.ga K x) dx ps) ∧ FldD K th H0 fs ps
structure Abs (K : PySem.W.Frag) (th : List Addr) (H0 H : Hp) (M : Mem) : Prop where
  ex : Ex H0 H
  len : th.length = M.length
  nd : th.Nodup
  at_ : ∀ (n : Nat) a, th[n]? = some a → H0 a = none ∧ ∃ o, M[n]? = some o ∧ ObjD K th H0 H a o
structure Stp (H0 H : Hp) (th : List Addr) (H0' H' : Hp) (th' : List Addr) : Prop where
  ex : Ex H0 H0'
  tt : ∀ (n : Nat) a, th[n]? = some a → th'[n]? = some a
  fr : ∀ a o, H a = some o → a ∉ th → H' a = some o ∧ a ∉ th'
  out : ∀ a o, H a = some o → a ∉ th → H0 a = none → H0' a = none
structure Slots (K : PySem.W.Frag) (th : List Addr) (H0 : Hp) (σ : St) (ds : DS) : Prop where
  len : σ.length = ds.length
  at_ : ∀ (i : Nat) (d : DV), ds[i]? = some (some d) → ∃ v, σ[i]? = some (some v) ∧ RelD K th H0 d v
structure Sta (K : PySem.W.Frag) (σ : St) (ds : DS) (H0 H : Hp) (th : List Addr) (M : Mem) : Prop where
  abs : Abs K th H0 H M
  sl : Slots K th H0 σ ds

section
variable {K : PySem.W.Frag} {th th' th'' : List Addr} {H0 H H0' H' H0'' H'' : Hp} {M M' : Mem} {σ : St} {ds : DS}
theorem Stp.refl : Stp H0 H th H0 H th := ⟨Ex.refl _, fun _ _ h => h, fun _ _ h q => ⟨h, q⟩, fun _ _ _ _ h => h⟩
theorem Stp.trans (a : Stp H0 H th H0' H' th') (b : Stp H0' H' th' H0'' H'' th'') : Stp H0 H th H0'' H'' th'' :=
  ⟨a.ex.trans b.ex, fun n x h => b.tt n x (a.tt n x h), fun x o h q => let ⟨h1, q1⟩ := a.fr x o h q; b.fr x o h1 q1,
   fun x o h q z => let ⟨h1, q1⟩ := a.fr x o h q; b.out x o h1 q1 (a.out x o h q z)⟩
theorem RelD.mono (e : Ex H0 H0') (t : ∀ (n : Nat) a, th[n]? = some a → th'[n]? = some a) : ∀ {d : DV} {v : V}, RelD K th H0 d v → RelD K th' H0' d v
  | .d x, v, h => Dd.mono e x v h
  | .r n, v, ⟨a, h, q⟩ => ⟨a, t n a h, q⟩
  | .a x, v, h => h
  | .s xs, v, ⟨a, vs, h1, h2, h3⟩ => ⟨a, vs, h1, sqL_mono e h2, DdAll.mono e _ _ h3⟩
theorem RelDs.mono (e : Ex H0 H0') (t : ∀ (n : Nat) a, th[n]? = some a → th'[n]? = some a) : ∀ {d : List DV} {v : List V}, RelDs K th H0 d v → RelDs K th' H0' d v
  | [], _, h => h
  | d :: ds, _, ⟨v, r, e1, h1, h2⟩ => ⟨v, r, e1, h1.mono e t, RelDs.mono e t h2⟩
theorem FldD.mono (e : Ex H0 H0') (t : ∀ (n : Nat) a, th[n]? = some a → th'[n]? = some a) : ∀ {d : List (Str × DV)} {v : List (Str × V)}, FldD K th H0 d v → FldD K th' H0' d v
  | [], _, h => h
  | (f, d) :: ds, _, ⟨v, r, e1, h1, h2⟩ => ⟨v, r, e1, h1.mono e t, FldD.mono e t h2⟩
theorem KvsD.mono (e : Ex H0 H0') : ∀ {d : List (Str × PyData)} {v : List (Key × V)}, KvsD K H0 d v → KvsD K H0' d v
  | [], _, h => h
  | (f, d) :: ds, _, ⟨v, r, e1, h1, h2⟩ => ⟨v, r, e1, Dd.mono e d v h1, KvsD.mono e h2⟩
theorem RelDs.length : ∀ {d : List DV} {v : List V}, RelDs K th H0 d v → v.length = d.length
  | [], xs, h => by
    have e : xs = [] := h
    rw [e]; rfl
  | d :: ds, _, ⟨v, r, e1, h1, h2⟩ => by rw [e1, List.length_cons, List.length_cons, RelDs.length h2]
theorem ObjD.mono {a : Addr} {o : MO} (e : Ex H0 H0') (t : ∀ (n : Nat) a, th[n]? = some a → th'[n]? = some a) (k : ∀ o, H a = some o → H' a = some o) (h : ObjD K th H0 H a o) : ObjD K th' H0' H' a o := by
  cases o with
  | lst xs => obtain ⟨vs, h1, h2⟩ := h; exact ⟨vs, k _ h1, DdAll.mono e _ _ h2⟩
  | dic xs => obtain ⟨vs, h1, h2⟩ := h; exact ⟨vs, k _ h1, h2.mono e⟩
  | ins x xs => obtain ⟨dx, vs, h1, h2⟩ := h; exact ⟨dx, vs, k _ h1, h2.mono e t⟩
theorem ObjD.some {a : Addr} {o : MO} (h : ObjD K th H0 H a o) : ∃ u, H a = some u := by
  cases o with
  | lst xs => obtain ⟨vs, h1, h2⟩ := h; exact ⟨_, h1⟩
  | dic xs => obtain ⟨vs, h1, h2⟩ := h; exact ⟨_, h1⟩
  | ins x xs => obtain ⟨dx, vs, h1, h2⟩ := h; exact ⟨_, h1⟩
theorem Slots.mono (e : Ex H0 H0') (t : ∀ (n : Nat) a, th[n]? = some a → th'[n]? = some a) (h : Slots K th H0 σ ds) : Slots K th' H0' σ ds :=
  ⟨h.len, fun i d q => let ⟨v, h1, h2⟩ := h.at_ i d q; ⟨v, h1, h2.mono e t⟩⟩
theorem Slots.step (s : Stp H0 H th H0' H' th') (h : Slots K th H0 σ ds) : Slots K th' H0' σ ds := h.mono s.ex s.tt
theorem RelD.step (s : Stp H0 H th H0' H' th') {d : DV} {v : V} (h : RelD K th H0 d v) : RelD K th' H0' d v := h.mono s.ex s.tt
theorem RelDs.step (s : Stp H0 H th H0' H' th') {d : List DV} {v : List V} (h : RelDs K th H0 d v) : RelDs K th' H0' d v := h.mono s.ex s.tt
theorem Slots.set {d : DV} {v : V} {i : Nat} (h : Slots K th H0 σ ds) (r : RelD K th H0 d v) : Slots K th H0 (σ.set i (some v)) (ds.set i (some d)) := by
  refine ⟨by rw [List.length_set, List.length_set, h.len], fun j e q => ?_⟩
  by_cases hj : i = j
  · subst hj
    have hl : i < ds.length := by
      rcases Nat.lt_or_ge i ds.length with z | z
      · exact z
      · rw [List.getElem?_eq_none (by rw [List.length_set]; exact z)] at q
        cases q
    rw [List.getElem?_set_self hl] at q
    cases q
    exact ⟨v, List.getElem?_set_self (by rw [h.len]; exact hl), r⟩
  · rw [List.getElem?_set_ne hj] at q
    obtain ⟨w, h1, h2⟩ := h.at_ j e q
    exact ⟨w, by rw [List.getElem?_set_ne hj]; exact h1, h2⟩
theorem nodup_at {l : List Addr} (h : l.Nodup) {i j : Nat} {a : Addr} (h1 : l[i]? = some a) (h2 : l[j]? = some a) : i = j := nd_ix h h1 h2

/-- a new thing of pure data, or none -/
structure Gro (H0 H H0' H' : Hp) : Prop where
  ex : Ex H0 H0'
  ex' : Ex H0' H'
  old : ∀ a o, H a = some o → H' a = some o ∧ (H0 a = none → H0' a = none)
theorem Gro.refl (e : Ex H0 H) : Gro H0 H H0 H := ⟨Ex.refl _, e, fun _ _ h => ⟨h, fun q => q⟩⟩
theorem Gro.new {p : Addr} {o : HO} (e : Ex H0 H) (h : H p = none) : Gro H0 H (upd H0 p o) (upd H p o) := by
  refine ⟨Ex.new (e.free h), fun a u q => ?_, fun a u q => ?_⟩
  · by_cases ha : a = p
    · subst ha; rw [upd_same] at q ⊢; exact q
    · rw [upd_ne ha] at q ⊢; exact e _ _ q
  · have ha : a ≠ p := ne_of_none q h
    rw [upd_ne ha, upd_ne ha]
    exact ⟨q, fun z => z⟩
theorem Gro.stp (g : Gro H0 H H0' H') : Stp H0 H th H0' H' th := ⟨g.ex, fun _ _ h => h, fun a o h q => ⟨(g.old a o h).1, q⟩, fun a o h _ z => (g.old a o h).2 z⟩
theorem Gro.abs (g : Gro H0 H H0' H') (h : Abs K th H0 H M) : Abs K th H0' H' M := by
  refine ⟨g.ex', h.len, h.nd, fun n a q => ?_⟩
  obtain ⟨h0, o, h1, h2⟩ := h.at_ n a q
  obtain ⟨u, hu⟩ := h2.some
  exact ⟨(g.old a u hu).2 h0, o, h1, h2.mono g.ex (fun _ _ z => z) fun o' z => (g.old a o' z).1⟩
theorem Gro.sta (g : Gro H0 H H0' H') (h : Sta K σ ds H0 H th M) : Sta K σ ds H0' H' th M := ⟨g.abs h.abs, h.sl.mono g.ex fun _ _ z => z⟩
theorem Gro.trans (a : Gro H0 H H0' H') (b : Gro H0' H' H0'' H'') : Gro H0 H H0'' H'' :=
  ⟨a.ex.trans b.ex, b.ex', fun x o h => ⟨(b.old x o (a.old x o h).1).1, fun z => (b.old x o (a.old x o h).1).2 ((a.old x o h).2 z)⟩⟩

/-- what a value is as data, now -/
def view (M : Mem) : DV → Option PyData
  | .d x => some x
  | .r n => match M[n]? with
    | some (.lst xs) => some (.list xs)
    | _ => none
  | .a _ => none
  | .s _ => none
def asD : DV → Option PyData
  | .d x => some x
  | _ => none
/-- data whose outermost list may be one that changes -/
def Dq (K : PySem.W.Frag) (H0 H : Hp) : PyData → V → Prop
  | .list ds, v => ∃ a xs, v = .ref a ∧ H a = some (.lst xs) ∧ DdAll K H0 ds xs
  | d, v => Dd K H0 d v
theorem Dq.of (e : Ex H0 H) {d : PyData} {v : V} (h : Dd K H0 d v) : Dq K H0 H d v := by
  cases d with
  | list ds => obtain ⟨a, xs, h1, h2, h3⟩ := h; exact ⟨a, xs, h1, e _ _ h2, h3⟩
  | _ => exact h
theorem Dq.full (e : Ex H0 H) {d : PyData} {v : V} (h : Dq K H0 H d v) : Dd K H d v := by
  cases d with
  | list ds => obtain ⟨a, xs, h1, h2, h3⟩ := h; exact ⟨a, xs, h1, h2, DdAll.mono e _ _ h3⟩
  | _ => exact Dd.mono e _ _ h
theorem Abs.view (A : Abs K th H0 H M) {x : DV} {v : V} {d : PyData} (r : RelD K th H0 x v) (h : view M x = some d) : Dq K H0 H d v := by
  cases x with
  | d x => cases h; exact Dq.of A.ex r
  | r n =>
    obtain ⟨a, h1, rfl⟩ := r
    obtain ⟨h0, o, h2, h3⟩ := A.at_ n a h1
    have h : (match M[n]? with
      | some (.lst xs) => some (PyData.list xs)
      | _ => none) = some d := h
    rw [h2] at h
    cases o with
    | lst xs =>
      cases h
      obtain ⟨vs, q1, q2⟩ := h3
      exact ⟨a, vs, rfl, q1, q2⟩
    | dic _ => cases h
    | ins _ _ => cases h
  | a x => cases h
  | s x => cases h
theorem asD_view {x : DV} {d : PyData} (h : asD x = some d) : view M x = some d := by
  cases x with
  | d x => exact h
  | _ => cases h
end
end Ow
set_option Elab.async false
set_option linter.all false
set_option maxRecDepth 100000
set_option maxHeartbeats 4000000
namespace Ow
open PySem L2

/-! ### the canonical readings -/
abbrev SE := DS → Mem → Option (DV × Mem)
abbrev ST := DS → Mem → Option (Bool × Mem)
abbrev SA := DS → Mem → Option (List DV × Mem)
abbrev SL := DS → Mem → Option (List PyData × Mem)
abbrev SO := DS → Mem → Option (Option Int × Mem)
inductive Fl where
  | nx (ds : DS) (M : Mem)
  | ct (ds : DS) (M : Mem)
  | rt (r : DV) (M : Mem)
abbrev SS := DS → Mem → Option Fl
abbrev DF := List DV → Mem → Option (DV × Mem)

def tE (K : PySem.W.Frag) (f : SE) : TE := fun σ H Q => ∃ H0 th ds M r M', Sta K σ ds H0 H th M ∧ f ds M = some (r, M') ∧
  ∀ v H0' H' th', Stp H0 H th H0' H' th' → Abs K th' H0' H' M' → RelD K th' H0' r v → Q v H'
def tT (K : PySem.W.Frag) (f : ST) : TT := fun σ H Q => ∃ H0 th ds M b M', Sta K σ ds H0 H th M ∧ f ds M = some (b, M') ∧
  ∀ H0' H' th', Stp H0 H th H0' H' th' → Abs K th' H0' H' M' → Q b H'
def tA (K : PySem.W.Frag) (f : SA) : TA := fun σ H Q => ∃ H0 th ds M r M', Sta K σ ds H0 H th M ∧ f ds M = some (r, M') ∧
  ∀ v H0' H' th', Stp H0 H th H0' H' th' → Abs K th' H0' H' M' → RelDs K th' H0' r v → Q v H'
/-- a new list, nobody's yet -/
def tL (K : PySem.W.Frag) (f : SL) : TE := fun σ H Q => ∃ H0 th ds M xs M', Sta K σ ds H0 H th M ∧ f ds M = some (xs, M') ∧
  ∀ p vs H0' H' th', Stp H0 H th H0' H' th' → Abs K th' H0' H' M' → H p = none → H0' p = none → p ∉ th' → H' p = some (.lst vs) → DdAll K H0' xs vs → Q (.ref p) H'
def tO (K : PySem.W.Frag) (f : SO) : TO := fun σ H Q => ∃ H0 th ds M r M', Sta K σ ds H0 H th M ∧ f ds M = some (r, M') ∧
  ∀ H0' H' th', Stp H0 H th H0' H' th' → Abs K th' H0' H' M' → Q r H'
def FlOk (K : PySem.W.Frag) (H0 H : Hp) (th : List Addr) (D : Ends) : Fl → Prop
  | .nx ds M => ∀ σ H0' H' th', Stp H0 H th H0' H' th' → Sta K σ ds H0' H' th' M → D.nx σ H'
  | .ct ds M => ∀ σ H0' H' th', Stp H0 H th H0' H' th' → Sta K σ ds H0' H' th' M → D.ct σ H'
  | .rt r M => ∀ v H0' H' th', Stp H0 H th H0' H' th' → Abs K th' H0' H' M → RelD K th' H0' r v → D.rt v H'
def tS (K : PySem.W.Frag) (g : SS) : TS := fun D σ H => ∃ H0 th ds M fl, Sta K σ ds H0 H th M ∧ g ds M = some fl ∧ FlOk K H0 H th D fl
abbrev DE (X : Cx) (e : Expr) (f : SE) : Prop := PE X e (tE X.K f)
abbrev DT (X : Cx) (e : Expr) (f : ST) : Prop := PT X e (tT X.K f)
abbrev DW (X : Cx) (e : Expr) (f : ST) : Prop := PW X e (tT X.K f)
abbrev DA (X : Cx) (es : List Expr) (f : SA) : Prop := PA X es (tA X.K f)
abbrev DL (X : Cx) (e : Expr) (f : SL) : Prop := PE X e (tL X.K f)
abbrev DSt (X : Cx) (s : Stmt) (g : SS) : Prop := PS X s (tS X.K g)
abbrev DSs (X : Cx) (s : List Stmt) (g : SS) : Prop := PSs X s (tS X.K g)

section
variable {X : Cx}
theorem PE.imp {e : Expr} {t t' : TE} (h : PE X e t) (i : ∀ σ H Q, t' σ H Q → t σ H Q) : PE X e t' := ⟨fun pins s σ H Q I q => h.run pins s σ H Q I (i _ _ _ q)⟩
theorem PT.imp {e : Expr} {t t' : TT} (h : PT X e t) (i : ∀ σ H Q, t' σ H Q → t σ H Q) : PT X e t' := ⟨fun pins s σ H Q I q => h.run pins s σ H Q I (i _ _ _ q)⟩
theorem PW.imp {e : Expr} {t t' : TT} (h : PW X e t) (i : ∀ σ H Q, t' σ H Q → t σ H Q) : PW X e t' := ⟨fun wh pins s σ H Q I q => h.run wh pins s σ H Q I (i _ _ _ q)⟩
theorem PA.imp {e : List Expr} {t t' : TA} (h : PA X e t) (i : ∀ σ H Q, t' σ H Q → t σ H Q) : PA X e t' := ⟨fun pos pins s σ H Q I q => h.run pos pins s σ H Q I (i _ _ _ q)⟩
theorem PS.imp {e : Stmt} {t t' : TS} (h : PS X e t) (i : ∀ D σ H, t' D σ H → t D σ H) : PS X e t' := ⟨fun pins s σ H D I q => h.run pins s σ H D I (i _ _ _ q)⟩
theorem PSs.imp {e : List Stmt} {t t' : TS} (h : PSs X e t) (i : ∀ D σ H, t' D σ H → t D σ H) : PSs X e t' := ⟨fun pins s σ H D I q => h.run pins s σ H D I (i _ _ _ q)⟩
end

section
variable {K : PySem.W.Frag} {σ : St} {ds : DS} {H0 H H0' H' : Hp} {th th' : List Addr} {M M' : Mem} {Q : VK} {f g : SE} {r : DV}
theorem Sta.step {M' : Mem} (S : Sta K σ ds H0 H th M) (s : Stp H0 H th H0' H' th') (A : Abs K th' H0' H' M') : Sta K σ ds H0' H' th' M' := ⟨A, S.sl.step s⟩
/-- what follows a value is shown from its state -/
theorem tE.run (S : Sta K σ ds H0 H th M) (h : f ds M = some (r, M')) (k : ∀ v H0' H' th', Stp H0 H th H0' H' th' → Sta K σ ds H0' H' th' M' → RelD K th' H0' r v → Q v H') : tE K f σ H Q :=
  ⟨H0, th, ds, M, r, M', S, h, fun v H0' H' th' s A q => k v H0' H' th' s (S.step s A) q⟩
theorem tA.run {f : SA} {r : List DV} {Q : List V → Hp → Prop} (S : Sta K σ ds H0 H th M) (h : f ds M = some (r, M')) (k : ∀ v H0' H' th', Stp H0 H th H0' H' th' → Sta K σ ds H0' H' th' M' → RelDs K th' H0' r v → Q v H') : tA K f σ H Q :=
  ⟨H0, th, ds, M, r, M', S, h, fun v H0' H' th' s A q => k v H0' H' th' s (S.step s A) q⟩
theorem tT.run {f : ST} {b : Bool} {Q : Bool → Hp → Prop} (S : Sta K σ ds H0 H th M) (h : f ds M = some (b, M')) (k : ∀ H0' H' th', Stp H0 H th H0' H' th' → Sta K σ ds H0' H' th' M' → Q b H') : tT K f σ H Q :=
  ⟨H0, th, ds, M, b, M', S, h, fun H0' H' th' s A => k H0' H' th' s (S.step s A)⟩
theorem tO.run {f : SO} {b : Option Int} {Q : Option Int → Hp → Prop} (S : Sta K σ ds H0 H th M) (h : f ds M = some (b, M')) (k : ∀ H0' H' th', Stp H0 H th H0' H' th' → Sta K σ ds H0' H' th' M' → Q b H') : tO K f σ H Q :=
  ⟨H0, th, ds, M, b, M', S, h, fun H0' H' th' s A => k H0' H' th' s (S.step s A)⟩
theorem tL.run {f : SL} {xs : List PyData} (S : Sta K σ ds H0 H th M) (h : f ds M = some (xs, M')) (k : ∀ p vs H0' H' th', Stp H0 H th H0' H' th' → Sta K σ ds H0' H' th' M' → H p = none → H0' p = none → p ∉ th' → H' p = some (.lst vs) → DdAll K H0' xs vs → Q (.ref p) H') : tL K f σ H Q :=
  ⟨H0, th, ds, M, xs, M', S, h, fun p vs H0' H' th' s A => k p vs H0' H' th' s (S.step s A)⟩
end

theorem ob {α β : Type} {o : Option α} {f : α → Option β} {b : β} (h : o.bind f = some b) : ∃ a, o = some a ∧ f a = some b := Option.bind_eq_some_iff.mp h

/-! ### names, constants -/
def sVar (i : Nat) : SE := fun ds M => match ds[i]? with
  | some (some d) => some (d, M)
  | _ => none
def sC (x : PyData) : SE := fun _ M => some (.d x, M)
def sGf (x : Str) : SE := fun _ M => some (.a x, M)
section
variable {X : Cx} {e a b c : Expr} {pos : Pos} {f g : SE}
theorem de_var (i : Nat) {x : Str} (hN : X.N[i]? = some x := by rfl) (hv : Vis X.env.scope x := by first | exact Or.inl rfl | exact Or.inr (Or.inl rfl) | exact Or.inr (Or.inr rfl)) (hd : (x == ("__debug__" : Str)) = false := by decide)
    (hcd : (x == ("__classdict__" : Str)) = false := by decide) : DE X (.Name x pos) (sVar i) := PE.imp (pe_var hN hv hd hcd) fun σ H Q ⟨H0, th, ds, M, r, M', S, h, k⟩ => by
  have h : (match ds[i]? with
    | some (some d) => some (d, M)
    | _ => none) = some (r, M') := h
  cases e : ds[i]? with
  | none => rw [e] at h; cases h
  | some o =>
    rw [e] at h
    cases o with
    | none => cases h
    | some d =>
      cases h
      obtain ⟨v, h1, h2⟩ := S.sl.at_ i _ e
      exact ⟨v, h1, k v H0 H th .refl S.abs h2⟩
theorem de_c {t : TE} {v : V} {x : PyData} (h : PE X e (tC v)) (hd : ∀ H, Dd X.K H x v) : DE X e (sC x) := PE.imp h fun σ H Q ⟨H0, th, ds, M, r, M', S, h, k⟩ => by
  cases h
  exact k v H0 H th .refl S.abs (hd H0)
theorem de_int {i : Int} {j : Nat} : DE X (.Constant (.int i) j pos) (sC (.int i)) := de_c (t := tC (.int i)) pe_int fun _ => rfl
theorem de_bl {i : Bool} {j : Nat} : DE X (.Constant (.bool i) j pos) (sC (.bool i)) := de_c (t := tC (.bl i)) pe_bl fun _ => rfl
theorem de_str {i : Str} {j : Nat} : DE X (.Constant (.str i) j pos) (sC (.str i)) := de_c (t := tC (.str i)) pe_str fun _ => rfl
theorem de_non {j : Nat} : DE X (.Constant .none j pos) (sC .none) := de_c (t := tC .non) pe_non fun _ => rfl
/-- a module's constant -/
def GlD (K : PySem.W.Frag) (mg : Str → Option Value) (x : Str) (d : PyData) : Prop := ∃ v u, mg x = some u ∧ RelV v u ∧ ∀ H, Dd K H d v
theorem de_glob {x : Str} {d : PyData} (h : GlD X.K X.mg x d) (hg : Gl X x) (hd : (x == ("__debug__" : Str)) = false := by decide) : DE X (.Name x pos) (sC d) := by
  obtain ⟨v, u, h1, h2, h3⟩ := h
  exact de_c (t := tC v) (pe_glob hg h1 h2 hd) h3
/-- a def as a value -/
theorem de_gf {x : Str} (h : X.mg x = some (.ref (He.ga X.K x))) (hg : Gl X x) (hd : (x == ("__debug__" : Str)) = false := by decide) : DE X (.Name x pos) (sGf x) :=
  PE.imp (pe_glob (v := .ref (He.ga X.K x)) hg h rfl hd) fun σ H Q ⟨H0, th, ds, M, r, M', S, h, k⟩ => by
    cases h
    exact k _ H0 H th .refl S.abs rfl

/-! ### operations on data -/
def UnP (K : PySem.W.Frag) (r : V → Hp → VK → Prop) (f : PyData → Option PyData) : Prop :=
  ∀ {H0 H : Hp} {d z : PyData} {v : V} {Q : VK}, Ex H0 H → Dq K H0 H d v → f d = some z → (∀ w H0' H', Gro H0 H H0' H' → Dd K H0' z w → Q w H') → r v H Q
def OpP (K : PySem.W.Frag) (r : R2) (f : PyData → PyData → Option PyData) : Prop :=
  ∀ {H0 H : Hp} {d e z : PyData} {v u : V} {Q : VK}, Ex H0 H → Dq K H0 H d v → Dq K H0 H e u → f d e = some z → (∀ w H0' H', Gro H0 H H0' H' → Dd K H0' z w → Q w H') → r v u H Q
def DqAll (K : PySem.W.Frag) (H0 H : Hp) : List PyData → List V → Prop
  | [], vs => vs = []
  | d :: ds, vs => ∃ v r, vs = v :: r ∧ Dq K H0 H d v ∧ DqAll K H0 H ds r
def CallP (K : PySem.W.Frag) (r : List V → Hp → VK → Prop) (f : List PyData → Option PyData) : Prop :=
  ∀ {H0 H : Hp} {ds : List PyData} {z : PyData} {vs : List V} {Q : VK}, Ex H0 H → DqAll K H0 H ds vs → f ds = some z → (∀ w H0' H', Gro H0 H H0' H' → Dd K H0' z w → Q w H') → r vs H Q
def views (M : Mem) : List DV → Option (List PyData)
  | [] => some []
  | d :: ds => (view M d).bind fun x => (views M ds).bind fun xs => some (x :: xs)
theorem views_ok {K : PySem.W.Frag} {H0 H : Hp} {th : List Addr} {M : Mem} (A : Abs K th H0 H M) : ∀ {ds : List DV} {xs : List PyData} {vs : List V}, views M ds = some xs → RelDs K th H0 ds vs → DqAll K H0 H xs vs
  | [], xs, vs, h, r => by cases h; exact r
  | d :: ds, xs, vs, h, ⟨v, w, e, r1, r2⟩ => by
    obtain ⟨x, h1, h2⟩ := ob h
    obtain ⟨ys, h3, h4⟩ := ob h2
    cases h4
    exact ⟨v, w, e, A.view r1 h1, views_ok A h3 r2⟩
def sOp (o : PyData → PyData → Option PyData) (f g : SE) : SE := fun ds M => (f ds M).bind fun x => (g ds x.2).bind fun y => (view y.2 x.1).bind fun dx => (view y.2 y.1).bind fun dy => (o dx dy).bind fun z => some (.d z, y.2)
def sUn (o : PyData → Option PyData) (f : SE) : SE := fun ds M => (f ds M).bind fun x => (view x.2 x.1).bind fun dx => (o dx).bind fun z => some (.d z, x.2)
def sCB (o : List PyData → Option PyData) (f : SA) : SE := fun ds M => (f ds M).bind fun x => (views x.2 x.1).bind fun dx => (o dx).bind fun z => some (.d z, x.2)
theorem op_read {r : R2} {o : PyData → PyData → Option PyData} {K : PySem.W.Frag} (hp : OpP K r o) : ∀ σ H Q, tE K (sOp o f g) σ H Q → tOp r (tE K f) (tE K g) σ H Q := fun σ H Q ⟨H0, th, ds, M, z, M', S, h, k⟩ => by
  obtain ⟨⟨x, M1⟩, h1, h⟩ := ob h
  obtain ⟨⟨y, M2⟩, h2, h⟩ := ob h
  obtain ⟨dx, h3, h⟩ := ob h
  obtain ⟨dy, h4, h⟩ := ob h
  obtain ⟨dz, h5, h⟩ := ob h
  cases h
  refine tE.run S h1 fun v H1 H1' th1 s1 S1 r1 => ?_
  refine tE.run S1 h2 fun u H2 H2' th2 s2 S2 r2 => ?_
  refine hp S2.abs.ex (S2.abs.view (r1.step s2) h3) (S2.abs.view r2 h4) h5 fun w H3 H3' g q => ?_
  exact k w H3 H3' th2 ((s1.trans s2).trans g.stp) (g.abs S2.abs) q
theorem de_op {op : Operator} {r : R2} {o : PyData → PyData → Option PyData} (ho : OpR X (binaryOp op) r) (hp : OpP X.K r o) (ha : DE X a f) (hb : DE X b g) : DE X (.BinOp a op b pos) (sOp o f g) := PE.imp (pe_op ho ha hb) (op_read hp)
theorem de_cmp {op : CmpOp} {r : R2} {o : PyData → PyData → Option PyData} (ho : OpR X (compareOp op) r) (hp : OpP X.K r o) (ha : DE X a f) (hb : DE X b g) (hm : behindInMarks op b = false := by first | exact nomark _ | rfl | with_unfolding_all rfl) :
    DE X (.Compare a [op] [b] pos) (sOp o f g) := PE.imp (pe_cmpR ho ha hb hm) (op_read hp)
def isB (f : SE) : ST := fun ds M => (f ds M).bind fun x => match x.1 with
  | .d (.bool b) => some (b, x.2)
  | _ => none
theorem isB_read {K : PySem.W.Frag} {t : TE} (h : ∀ σ H Q, tE K f σ H Q → t σ H Q) : ∀ σ H Q, tT K (isB f) σ H Q → tTest t σ H Q := fun σ H Q ⟨H0, th, ds, M, z, M', S, e, k⟩ => by
  obtain ⟨⟨x, M1⟩, h1, e⟩ := ob e
  refine h σ H _ (tE.run S h1 fun v H1 H1' th1 s1 S1 r1 => ?_)
  cases x with
  | d x =>
    cases x with
    | bool b =>
      cases e
      exact ⟨z, r1, k H1 H1' th1 s1 S1.abs⟩
    | _ => cases e
  | _ => cases e
theorem dt_cmp {op : CmpOp} {r : R2} {o : PyData → PyData → Option PyData} (ho : OpR X (compareOp op) r) (hp : OpP X.K r o) (ha : DE X a f) (hb : DE X b g) (hm : behindInMarks op b = false := by first | exact nomark _ | rfl | with_unfolding_all rfl) :
    DT X (.Compare a [op] [b] pos) (isB (sOp o f g)) := PT.imp (pt_cmpR ho ha hb hm) (isB_read (op_read hp))
theorem de_un {op : UnaryOp} {r : V → Hp → VK → Prop} {o : PyData → Option PyData} (ho : UnR X (unaryOp op) r) (hp : UnP X.K r o) (ha : DE X a f) : DE X (.UnaryOp op a pos) (sUn o f) := PE.imp (pe_un ho ha) fun σ H Q ⟨H0, th, ds, M, z, M', S, h, k⟩ => by
  obtain ⟨⟨x, M1⟩, h1, h⟩ := ob h
  obtain ⟨dx, h3, h⟩ := ob h
  obtain ⟨dz, h5, h⟩ := ob h
  cases h
  refine tE.run S h1 fun v H1 H1' th1 s1 S1 r1 => ?_
  refine hp S1.abs.ex (S1.abs.view r1 h3) h5 fun w H3 H3' g q => ?_
  exact k w H3 H3' th1 (s1.trans g.stp) (g.abs S1.abs) q
/-- a chain of two comparisons -/
def sChain (o o' : PyData → PyData → Option PyData) (f g h : SE) : SE := fun ds M => (f ds M).bind fun x => (g ds x.2).bind fun y => (view y.2 x.1).bind fun dx => (view y.2 y.1).bind fun dy => (o dx dy).bind fun z => match z with
  | .bool true => (h ds y.2).bind fun w => (view w.2 y.1).bind fun dy' => (view w.2 w.1).bind fun dw => (o' dy' dw).bind fun z' => some (.d z', w.2)
  | .bool false => some (.d (.bool false), y.2)
  | _ => none
theorem chain_read {r r' : R2} {o o' : PyData → PyData → Option PyData} {K : PySem.W.Frag} {h' : SE} (hp : OpP K r o) (hp' : OpP K r' o') : ∀ σ H Q, tE K (sChain o o' f g h') σ H Q → tChain r r' (tE K f) (tE K g) (tE K h') σ H Q := fun σ H Q ⟨H0, th, ds, M, z, M', S, h, k⟩ => by
  obtain ⟨⟨x, M1⟩, h1, h⟩ := ob h
  obtain ⟨⟨y, M2⟩, h2, h⟩ := ob h
  obtain ⟨dx, h3, h⟩ := ob h
  obtain ⟨dy, h4, h⟩ := ob h
  obtain ⟨dz, h5, h⟩ := ob h
  refine tE.run S h1 fun v H1 H1' th1 s1 S1 r1 => ?_
  refine tE.run S1 h2 fun u H2 H2' th2 s2 S2 r2 => ?_
  refine hp S2.abs.ex (S2.abs.view (r1.step s2) h3) (S2.abs.view r2 h4) h5 fun w H3 H3' g q => ?_
  have S3 := g.sta (th := th2) S2
  cases dz with
  | bool b =>
    refine ⟨b, q, ?_⟩
    cases b with
    | true =>
      show tE K h' σ H3' _
      obtain ⟨⟨w2, M3⟩, h6, h⟩ := ob h
      obtain ⟨dy', h7, h⟩ := ob h
      obtain ⟨dw, h8, h⟩ := ob h
      obtain ⟨dz', h9, h⟩ := ob h
      cases h
      refine tE.run S3 h6 fun u' H4 H4' th4 s4 S4 r4 => ?_
      refine hp' S4.abs.ex (S4.abs.view ((r2.step g.stp).step s4) h7) (S4.abs.view r4 h8) h9 fun w5 H5 H5' g5 q5 => ?_
      exact k w5 H5 H5' th4 ((((s1.trans s2).trans g.stp).trans s4).trans g5.stp) (g5.abs S4.abs) q5
    | false =>
      show Q (.bl false) H3'
      cases h
      exact k _ H3 H3' th2 ((s1.trans s2).trans g.stp) S3.abs rfl
  | _ => cases h
theorem de_chain {op op' : CmpOp} {r r' : R2} {o o' : PyData → PyData → Option PyData} {h : SE} (ho : OpR X (compareOp op) r) (hp : OpP X.K r o) (ho' : OpR X (compareOp op') r') (hp' : OpP X.K r' o') (ha : DE X a f) (hb : DE X b g) (hc : DE X c h)
    (hm : lastMarks [op, op'] [b, c] = false := by with_unfolding_all rfl) : DE X (.Compare a [op, op'] [b, c] pos) (sChain o o' f g h) := PE.imp (pe_chain ho ho' ha hb hc hm) (chain_read hp hp')
theorem dt_chain {op op' : CmpOp} {r r' : R2} {o o' : PyData → PyData → Option PyData} {h : SE} (ho : OpR X (compareOp op) r) (hp : OpP X.K r o) (ho' : OpR X (compareOp op') r') (hp' : OpP X.K r' o') (ha : DE X a f) (hb : DE X b g) (hc : DE X c h)
    (hm : lastMarks [op, op'] [b, c] = false := by with_unfolding_all rfl) : DT X (.Compare a [op, op'] [b, c] pos) (isB (sChain o o' f g h)) := PT.imp (pt_chain ho ho' ha hb hc hm) (isB_read (chain_read hp hp'))

/-! ### and, or, not, a test of a value -/
def sAnd (t u : ST) : ST := fun ds M => (t ds M).bind fun x => match x.1 with
  | true => u ds x.2
  | false => some (false, x.2)
def sOr (t u : ST) : ST := fun ds M => (t ds M).bind fun x => match x.1 with
  | true => some (true, x.2)
  | false => u ds x.2
def sNot (t : ST) : ST := fun ds M => (t ds M).bind fun x => some (!x.1, x.2)
def ofT (t : ST) : SE := fun ds M => (t ds M).bind fun x => some (.d (.bool x.1), x.2)
theorem dw_and1 {t : ST} (ha : DT X a t) : DW X (.BoolOp .And [a] pos) t := pw_and1 ha
theorem dw_or1 {t : ST} (ha : DT X a t) : DW X (.BoolOp .Or [a] pos) t := pw_or1 ha
theorem dw_and {t u : ST} {rest : List Expr} (ha : DT X a t) (hb : DW X (.BoolOp .And (b :: rest) pos) u) : DW X (.BoolOp .And (a :: b :: rest) pos) (sAnd t u) := PW.imp (pw_and ha hb) fun σ H Q ⟨H0, th, ds, M, z, M', S, h, k⟩ => by
  obtain ⟨⟨x, M1⟩, h1, h⟩ := ob h
  refine tT.run S h1 fun H1 H1' th1 s1 S1 => ?_
  cases x with
  | true =>
    show tT X.K u σ H1' Q
    exact tT.run S1 h fun H2 H2' th2 s2 S2 => k H2 H2' th2 (s1.trans s2) S2.abs
  | false =>
    show Q false H1'
    cases h
    exact k H1 H1' th1 s1 S1.abs
theorem dw_or {t u : ST} {rest : List Expr} (ha : DT X a t) (hb : DW X (.BoolOp .Or (b :: rest) pos) u) : DW X (.BoolOp .Or (a :: b :: rest) pos) (sOr t u) := PW.imp (pw_or ha hb) fun σ H Q ⟨H0, th, ds, M, z, M', S, h, k⟩ => by
  obtain ⟨⟨x, M1⟩, h1, h⟩ := ob h
  refine tT.run S h1 fun H1 H1' th1 s1 S1 => ?_
  cases x with
  | false =>
    show tT X.K u σ H1' Q
    exact tT.run S1 h fun H2 H2' th2 s2 S2 => k H2 H2' th2 (s1.trans s2) S2.abs
  | true =>
    show Q true H1'
    cases h
    exact k H1 H1' th1 s1 S1.abs
theorem dt_w {t : ST} (h : DW X a t) : DT X a t := PW.pt h
theorem dt_not {t : ST} (ha : DT X a t) : DT X (.UnaryOp .Not a pos) (sNot t) := PT.imp (pt_not ha) fun σ H Q ⟨H0, th, ds, M, z, M', S, h, k⟩ => by
  obtain ⟨⟨x, M1⟩, h1, h⟩ := ob h
  cases h
  exact tT.run S h1 fun H1 H1' th1 s1 S1 => k H1 H1' th1 s1 S1.abs
/-- a value that is True or False, as a test -/
theorem dt_val (h : DE X e f) (he : ∀ whole, isTrue e X.env whole = (do let v ← whole; standAt e.pos; holding [v] (truthy v)) := by intro _; rfl) : DT X e (isB f) := PT.imp (pt_val h he) fun σ H Q ⟨H0, th, ds, M, z, M', S, e, k⟩ => by
  obtain ⟨⟨x, M1⟩, h1, e⟩ := ob e
  refine tE.run S h1 fun v H1 H1' th1 s1 S1 r1 => ?_
  cases x with
  | d x =>
    cases x with
    | bool b =>
      cases e
      exact ⟨z, r1, k H1 H1' th1 s1 S1.abs⟩
    | _ => cases e
  | _ => cases e
def sAndV (f g : SE) : SE := fun ds M => (f ds M).bind fun x => match x.1 with
  | .d (.bool true) => g ds x.2
  | .d (.bool false) => some (.d (.bool false), x.2)
  | _ => none
def sOrV (f g : SE) : SE := fun ds M => (f ds M).bind fun x => match x.1 with
  | .d (.bool false) => g ds x.2
  | .d (.bool true) => some (.d (.bool true), x.2)
  | _ => none
def sNotV (f : SE) : SE := fun ds M => (f ds M).bind fun x => match x.1 with
  | .d (.bool b) => some (.d (.bool (!b)), x.2)
  | _ => none
theorem de_one {op : BoolOp} (h : DE X a f) : DE X (.BoolOp op [a] pos) f := pe_one h
theorem de_and {rest : List Expr} (ha : DE X a f) (hb : DE X (.BoolOp .And (b :: rest) pos) g) : DE X (.BoolOp .And (a :: b :: rest) pos) (sAndV f g) := PE.imp (pe_and ha hb) fun σ H Q ⟨H0, th, ds, M, z, M', S, h, k⟩ => by
  obtain ⟨⟨x, M1⟩, h1, h⟩ := ob h
  refine tE.run S h1 fun v H1 H1' th1 s1 S1 r1 => ?_
  cases x with
  | d x =>
    cases x with
    | bool b =>
      refine ⟨b, r1, ?_⟩
      cases b with
      | true =>
        show tE X.K g σ H1' Q
        exact tE.run S1 h fun v2 H2 H2' th2 s2 S2 r2 => k v2 H2 H2' th2 (s1.trans s2) S2.abs r2
      | false =>
        show Q (.bl false) H1'
        cases h
        exact k _ H1 H1' th1 s1 S1.abs rfl
    | _ => cases h
  | _ => cases h
theorem de_or {rest : List Expr} (ha : DE X a f) (hb : DE X (.BoolOp .Or (b :: rest) pos) g) : DE X (.BoolOp .Or (a :: b :: rest) pos) (sOrV f g) := PE.imp (pe_or ha hb) fun σ H Q ⟨H0, th, ds, M, z, M', S, h, k⟩ => by
  obtain ⟨⟨x, M1⟩, h1, h⟩ := ob h
  refine tE.run S h1 fun v H1 H1' th1 s1 S1 r1 => ?_
  cases x with
  | d x =>
    cases x with
    | bool b =>
      refine ⟨b, r1, ?_⟩
      cases b with
      | false =>
        show tE X.K g σ H1' Q
        exact tE.run S1 h fun v2 H2 H2' th2 s2 S2 r2 => k v2 H2 H2' th2 (s1.trans s2) S2.abs r2
      | true =>
        show Q (.bl true) H1'
        cases h
        exact k _ H1 H1' th1 s1 S1.abs rfl
    | _ => cases h
  | _ => cases h
theorem de_not (ha : DE X a f) : DE X (.UnaryOp .Not a pos) (sNotV f) := PE.imp (pe_not ha) fun σ H Q ⟨H0, th, ds, M, z, M', S, h, k⟩ => by
  obtain ⟨⟨x, M1⟩, h1, h⟩ := ob h
  refine tE.run S h1 fun v H1 H1' th1 s1 S1 r1 => ?_
  cases x with
  | d x =>
    cases x with
    | bool b =>
      cases h
      exact ⟨b, r1, k _ H1 H1' th1 s1 S1.abs rfl⟩
    | _ => cases h
  | _ => cases h
def sIfE (t : ST) (f g : SE) : SE := fun ds M => (t ds M).bind fun x => match x.1 with
  | true => f ds x.2
  | false => g ds x.2
theorem de_if {t : ST} (hc : DT X c t) (ha : DE X a f) (hb : DE X b g) : DE X (.IfExp c a b pos) (sIfE t f g) := PE.imp (pe_ifExp hc ha hb) fun σ H Q ⟨H0, th, ds, M, z, M', S, h, k⟩ => by
  obtain ⟨⟨x, M1⟩, h1, h⟩ := ob h
  refine tT.run S h1 fun H1 H1' th1 s1 S1 => ?_
  cases x with
  | true =>
    show tE X.K f σ H1' Q
    exact tE.run S1 h fun v2 H2 H2' th2 s2 S2 r2 => k v2 H2 H2' th2 (s1.trans s2) S2.abs r2
  | false =>
    show tE X.K g σ H1' Q
    exact tE.run S1 h fun v2 H2 H2' th2 s2 S2 r2 => k v2 H2 H2' th2 (s1.trans s2) S2.abs r2

/-! ### argument lists, displays, calls of built-ins -/
def sNil : SA := fun _ M => some ([], M)
def sCons (f : SE) (g : SA) : SA := fun ds M => (f ds M).bind fun x => (g ds x.2).bind fun y => some (x.1 :: y.1, y.2)
theorem da_nil : DA X [] sNil := PA.imp pa_nil fun σ H Q ⟨H0, th, ds, M, z, M', S, h, k⟩ => by
  cases h
  exact k [] H0 H th .refl S.abs rfl
theorem da_cons {es : List Expr} {g : SA} (ha : DE X e f) (hr : DA X es g) (hs : starEach (e :: es) X.env = (false, eval e X.env) :: starEach es X.env := by rfl) : DA X (e :: es) (sCons f g) :=
  PA.imp (pa_cons ha hr hs) fun σ H Q ⟨H0, th, ds, M, z, M', S, h, k⟩ => by
    obtain ⟨⟨x, M1⟩, h1, h⟩ := ob h
    obtain ⟨⟨xs, M2⟩, h2, h⟩ := ob h
    cases h
    refine tE.run S h1 fun v H1 H1' th1 s1 S1 r1 => ?_
    exact tA.run S1 h2 fun vs H2 H2' th2 s2 S2 r2 => k _ H2 H2' th2 (s1.trans s2) S2.abs ⟨v, vs, rfl, r1.step s2, r2⟩
def asDs : List DV → Option (List PyData)
  | [] => some []
  | d :: ds => (asD d).bind fun x => (asDs ds).bind fun xs => some (x :: xs)
theorem asDs_ok {K : PySem.W.Frag} {H0 : Hp} {th : List Addr} : ∀ {ds : List DV} {xs : List PyData} {vs : List V}, asDs ds = some xs → RelDs K th H0 ds vs → DdAll K H0 xs vs
  | [], xs, vs, h, r => by cases h; exact r
  | d :: ds, xs, vs, h, ⟨v, w, e, r1, r2⟩ => by
    obtain ⟨x, h1, h2⟩ := ob h
    obtain ⟨ys, h3, h4⟩ := ob h2
    cases h4
    cases d with
    | d y => cases h1; exact ⟨v, w, e, r1, asDs_ok h3 r2⟩
    | _ => cases h1
theorem asDs_len : ∀ {ds : List DV} {xs : List PyData}, asDs ds = some xs → xs.length = ds.length
  | [], xs, h => by cases h; rfl
  | d :: ds, xs, h => by
    obtain ⟨x, h1, h2⟩ := ob h
    obtain ⟨ys, h3, h4⟩ := ob h2
    cases h4
    rw [List.length_cons, List.length_cons, asDs_len h3]
def sTup (f : SA) : SE := fun ds M => (f ds M).bind fun x => (asDs x.1).bind fun xs => if xs.length ≤ lim then some (.d (.tuple xs), x.2) else none
def sLst (f : SA) : SL := fun ds M => (f ds M).bind fun x => (asDs x.1).bind fun xs => if xs.length ≤ lim then some (xs, x.2) else none
theorem de_tup {es : List Expr} {k : Nat} {g : SA} (h : DA X es g) : DE X (.Tuple es k pos) (sTup g) := PE.imp (pe_tup h) fun σ H Q ⟨H0, th, ds, M, z, M', S, h, k⟩ => by
  obtain ⟨⟨xs, M1⟩, h1, h⟩ := ob h
  obtain ⟨ys, h2, h⟩ := ob h
  refine tA.run S h1 fun vs H1 H1' th1 s1 S1 r1 => ?_
  by_cases hl : ys.length ≤ lim
  · rw [if_pos hl] at h
    cases h
    refine ⟨by rw [r1.length, ← asDs_len h2]; exact lim_line hl, fun p hp => ?_⟩
    have g := Gro.new (o := .tup vs) S1.abs.ex hp
    exact k _ _ _ th1 (s1.trans g.stp) (g.abs S1.abs) ⟨p, vs, rfl, .inl (.inl upd_same), DdAll.mono g.ex _ _ (asDs_ok h2 r1)⟩
  · rw [if_neg hl] at h
    cases h
theorem Abs.there {K : PySem.W.Frag} {th : List Addr} {H0 H : Hp} {M : Mem} (A : Abs K th H0 H M) {p : Addr} (h : p ∈ th) : ∃ o, H p = some o := by
  obtain ⟨n, e⟩ := List.mem_iff_getElem?.mp h
  obtain ⟨_, o, _, q⟩ := A.at_ n p e
  exact q.some
theorem Abs.notin {K : PySem.W.Frag} {th : List Addr} {H0 H : Hp} {M : Mem} (A : Abs K th H0 H M) {p : Addr} (h : H p = none) : p ∉ th := fun q => by
  obtain ⟨o, e⟩ := A.there q
  rw [h] at e
  cases e
theorem Stp.fresh {H0 H H0' H' : Hp} {th th' : List Addr} (s : Stp H0 H th H0' H' th') {K : PySem.W.Frag} {M : Mem} (A : Abs K th' H0' H' M) {p : Addr} (h : H' p = none) : H p = none := by
  cases e : H p with
  | none => rfl
  | some o =>
    by_cases q : p ∈ th
    · obtain ⟨n, e⟩ := List.mem_iff_getElem?.mp q
      exact absurd (List.mem_iff_getElem?.mpr ⟨n, s.tt n p e⟩) (A.notin h)
    · rw [(s.fr p o e q).1] at h; cases h
/-- a private thing at p -/
theorem Abs.priv {K : PySem.W.Frag} {th : List Addr} {H0 H : Hp} {M : Mem} (A : Abs K th H0 H M) {p : Addr} {o : HO} (h0 : H0 p = none) (h : p ∉ th) : Abs K th H0 (upd H p o) M := by
  refine ⟨fun a u q => ?_, A.len, A.nd, fun n a q => ?_⟩
  · rw [upd_ne (ne_of_none q h0)]
    exact A.ex a u q
  · obtain ⟨q0, mo, q1, q2⟩ := A.at_ n a q
    have ha : a ≠ p := fun z => h (by rw [← z]; exact List.mem_iff_getElem?.mpr ⟨n, q⟩)
    exact ⟨q0, mo, q1, q2.mono (Ex.refl _) (fun _ _ z => z) fun u z => by rw [upd_ne ha]; exact z⟩
theorem Stp.priv {H0 H : Hp} {th : List Addr} {p : Addr} {o : HO} (h : H p = none) : Stp H0 H th H0 (upd H p o) th :=
  ⟨Ex.refl _, fun _ _ z => z, fun a u q z => ⟨by rw [upd_ne (ne_of_none q h)]; exact q, z⟩, fun _ _ _ _ z => z⟩
theorem dl_lst {es : List Expr} {g : SA} (h : DA X es g) : DL X (.List es pos) (sLst g) := PE.imp (pe_lst h) fun σ H Q ⟨H0, th, ds, M, z, M', S, h, k⟩ => by
  obtain ⟨⟨xs, M1⟩, h1, h⟩ := ob h
  obtain ⟨ys, h2, h⟩ := ob h
  refine tA.run S h1 fun vs H1 H1' th1 s1 S1 r1 => ?_
  by_cases hl : ys.length ≤ lim
  · rw [if_pos hl] at h
    cases h
    refine ⟨by rw [r1.length, ← asDs_len h2]; exact lim_line hl, fun p hp => ?_⟩
    have e0 := S1.abs.ex.free hp
    have e1 := S1.abs.notin hp
    exact k p vs H1 _ th1 (s1.trans (.priv hp)) (S1.abs.priv e0 e1) (s1.fresh S1.abs hp) e0 e1 upd_same (asDs_ok h2 r1)
  · rw [if_neg hl] at h
    cases h
/-- a new list, from now on data -/
def sFrz (f : SL) : SE := fun ds M => (f ds M).bind fun x => some (.d (.list x.1), x.2)
/-- a new list, from now on an object that may change -/
def sNew (f : SL) : SE := fun ds M => (f ds M).bind fun x => some (.r x.2.length, x.2 ++ [.lst x.1])
theorem Abs.freeze {K : PySem.W.Frag} {th : List Addr} {H0 H : Hp} {M : Mem} (A : Abs K th H0 H M) {p : Addr} {o : HO} (h : H p = some o) (h0 : H0 p = none) (hn : p ∉ th) : Abs K th (upd H0 p o) H M := by
  refine ⟨fun a u q => ?_, A.len, A.nd, fun n a q => ?_⟩
  · by_cases ha : a = p
    · subst ha; rw [upd_same] at q; cases q; exact h
    · rw [upd_ne ha] at q; exact A.ex a u q
  · obtain ⟨q0, mo, q1, q2⟩ := A.at_ n a q
    have ha : a ≠ p := fun z => hn (by rw [← z]; exact List.mem_iff_getElem?.mpr ⟨n, q⟩)
    exact ⟨by rw [upd_ne ha]; exact q0, mo, q1, q2.mono (Ex.new h0) (fun _ _ z => z) fun u z => z⟩
theorem Abs.alloc {K : PySem.W.Frag} {th : List Addr} {H0 H : Hp} {M : Mem} {mo : MO} (A : Abs K th H0 H M) {p : Addr} (h0 : H0 p = none) (hn : p ∉ th) (q : ObjD K (th ++ [p]) H0 H p mo) : Abs K (th ++ [p]) H0 H (M ++ [mo]) := by
  have tt : ∀ (n : Nat) a, th[n]? = some a → (th ++ [p])[n]? = some a := fun n a z => by
    rw [List.getElem?_append_left (List.getElem?_eq_some_iff.mp z).1]; exact z
  refine ⟨A.ex, by rw [List.length_append, List.length_append, A.len]; rfl, List.nodup_append.mpr ⟨A.nd, by simp, fun a ha b hb => ?_⟩, fun n a e => ?_⟩
  · have z : b = p := by simpa using hb
    rw [z]
    exact fun y => hn (y ▸ ha)
  · rcases Nat.lt_or_ge n th.length with hl | hl
    · rw [List.getElem?_append_left hl] at e
      obtain ⟨q0, o, q1, q2⟩ := A.at_ n a e
      exact ⟨q0, o, by rw [List.getElem?_append_left (by rw [← A.len]; exact hl)]; exact q1, q2.mono (Ex.refl _) tt fun _ z => z⟩
    · rw [List.getElem?_append_right hl] at e
      have hn : n - th.length = 0 := by
        have := (List.getElem?_eq_some_iff.mp e).1
        simp at this
        omega
      rw [hn] at e
      have ea : p = a := by simpa using e
      subst ea
      refine ⟨h0, mo, ?_, q⟩
      rw [List.getElem?_append_right (by rw [← A.len]; exact hl), ← A.len, hn]
      rfl
theorem de_frz {f : SL} (h : DL X e f) : DE X e (sFrz f) := PE.imp h fun σ H Q ⟨H0, th, ds, M, z, M', S, h, k⟩ => by
  obtain ⟨⟨xs, M1⟩, h1, h⟩ := ob h
  cases h
  refine tL.run S h1 fun p vs H1 H1' th1 s1 S1 q1 q2 q3 q4 q5 => ?_
  refine k _ (upd H1 p (.lst vs)) H1' th1 ⟨s1.ex.trans (Ex.new q2), s1.tt, s1.fr, fun a o h q z => ?_⟩ (S1.abs.freeze q4 q2 q3) ⟨p, vs, rfl, upd_same, DdAll.mono (Ex.new q2) _ _ q5⟩
  rw [upd_ne (ne_of_none h q1)]
  exact s1.out a o h q z
theorem de_new {f : SL} (h : DL X e f) : DE X e (sNew f) := PE.imp h fun σ H Q ⟨H0, th, ds, M, z, M', S, h, k⟩ => by
  obtain ⟨⟨xs, M1⟩, h1, h⟩ := ob h
  cases h
  refine tL.run S h1 fun p vs H1 H1' th1 s1 S1 q1 q2 q3 q4 q5 => ?_
  refine k _ H1 H1' (th1 ++ [p]) ⟨s1.ex, fun n a z => ?_, fun a o h q => ⟨(s1.fr a o h q).1, fun z => ?_⟩, s1.out⟩ (S1.abs.alloc q2 q3 ⟨vs, q4, q5⟩) ⟨p, ?_, rfl⟩
  · have := s1.tt n a z
    rw [List.getElem?_append_left (List.getElem?_eq_some_iff.mp this).1]; exact this
  · rcases List.mem_append.mp z with z | z
    · exact (s1.fr a o h q).2 z
    · have z : a = p := by simpa using z
      rw [z, q1] at h; cases h
  · have el : th1.length = M1.length := S1.abs.len
    rw [List.getElem?_append_right (by rw [el]; exact Nat.le_refl _), el, Nat.sub_self]
    rfl

/-! ### built-ins -/
section
variable {x : Str} {p : Pos} {es : List Expr} {id T : String} {r : List V → Hp → VK → Prop} {o : List PyData → Option PyData} {fa : SA}
theorem cb_read {K : PySem.W.Frag} (hp : CallP K r o) : ∀ σ H Q, tE K (sCB o fa) σ H Q → tCB r (tA K fa) σ H Q := fun σ H Q ⟨H0, th, ds, M, z, M', S, h, k⟩ => by
  obtain ⟨⟨x, M1⟩, h1, h⟩ := ob h
  obtain ⟨dx, h3, h⟩ := ob h
  obtain ⟨dz, h5, h⟩ := ob h
  cases h
  refine tA.run S h1 fun v H1 H1' th1 s1 S1 r1 => ?_
  exact hp S1.abs.ex (views_ok S1.abs h3 r1) h5 fun w H3 H3' g q => k w H3 H3' th1 (s1.trans g.stp) (g.abs S1.abs) q
theorem de_callB (hc : CallR X (.builtin id) r) (hp : CallP X.K r o) (hg : Gl X x) (hm : X.mg x = none) (hv : bootBuiltins x = some (.builtin id)) (ha : DA X (e :: es) fa) (hn : x ≠ "__name__" := by decide) (hdb : (x == ("__debug__" : Str)) = false := by decide)
    (he : starEach (e :: es) X.env = (false, eval e X.env) :: starEach es X.env := by rfl) (hpl : (backTo pos (starEach es X.env)).any (·.1) = false := by rfl) : DE X (.Call (.Name x p) (e :: es) [] pos) (sCB o fa) :=
  PE.imp (pe_callB hc hg hm hv ha hn hdb he hpl) (cb_read hp)
theorem de_callTy (hc : CallR X (.type T) r) (hp : CallP X.K r o) (hg : Gl X x) (hm : X.mg x = none) (hv : bootBuiltins x = some (.type T)) (ha : DA X (e :: es) fa) (hn : x ≠ "__name__" := by decide) (hdb : (x == ("__debug__" : Str)) = false := by decide)
    (he : starEach (e :: es) X.env = (false, eval e X.env) :: starEach es X.env := by rfl) (hpl : (backTo pos (starEach es X.env)).any (·.1) = false := by rfl) : DE X (.Call (.Name x p) (e :: es) [] pos) (sCB o fa) :=
  PE.imp (pe_callTy hc hg hm hv ha hn hdb he hpl) (cb_read hp)
end

/-! ### subscripts, slices -/
def sIx (o : PyData → PyData → Option PyData) (f g : SE) : SE := sOp o f g
theorem de_ix {r : R2} {o : PyData → PyData → Option PyData} (hr : IxR X r) (hp : OpP X.K r o) (ha : DE X a f) (hb : DE X b g) (hs : PlainIx b := by intro _ _; rfl) : DE X (.Subscript a b pos) (sOp o f g) := PE.imp (pe_ix hr ha hb hs) (op_read hp)
def sNoP : SO := fun _ M => some (none, M)
def sPart (f : SE) : SO := fun ds M => (f ds M).bind fun x => match x.1 with
  | .d (.int i) => some (some i, x.2)
  | _ => none
structure DO (X : Cx) (e : Option Expr) (f : SO) : Prop where
  h : PO X e (tO X.K f)
theorem PO.imp {e : Option Expr} {t t' : TO} (h : PO X e t) (i : ∀ σ H Q, t' σ H Q → t σ H Q) : PO X e t' := ⟨fun pins s σ H Q I q => h.run pins s σ H Q I (i _ _ _ q)⟩
theorem do_none : DO X none sNoP := ⟨PO.imp po_none fun σ H Q ⟨H0, th, ds, M, z, M', S, h, k⟩ => by
  cases h
  exact k H0 H th .refl S.abs⟩
theorem do_some (h : DE X e f) : DO X (some e) (sPart f) := ⟨PO.imp (po_some h) fun σ H Q ⟨H0, th, ds, M, z, M', S, h, k⟩ => by
  obtain ⟨⟨x, M1⟩, h1, h⟩ := ob h
  refine tE.run S h1 fun v H1 H1' th1 s1 S1 r1 => ?_
  cases x with
  | d x =>
    cases x with
    | int i =>
      cases h
      exact ⟨i, r1, k H1 H1' th1 s1 S1.abs⟩
    | _ => cases h
  | _ => cases h⟩
def SlP (K : PySem.W.Frag) (r : V → Option Int → Option Int → Hp → VK → Prop) (f : PyData → Option Int → Option Int → Option PyData) : Prop :=
  ∀ {H0 H : Hp} {d z : PyData} {v : V} {lo hi : Option Int} {Q : VK}, Ex H0 H → Dq K H0 H d v → f d lo hi = some z → (∀ w H0' H', Gro H0 H H0' H' → Dd K H0' z w → Q w H') → r v lo hi H Q
def sSl (o : PyData → Option Int → Option Int → Option PyData) (f : SE) (l u : SO) : SE := fun ds M => (f ds M).bind fun x => (l ds x.2).bind fun y => (u ds y.2).bind fun w => (view w.2 x.1).bind fun dx => (o dx y.1 w.1).bind fun z => some (.d z, w.2)
theorem de_slice {r : V → Option Int → Option Int → Hp → VK → Prop} {o : PyData → Option Int → Option Int → Option PyData} {lo hi : Option Expr} {p2 : Pos} {l u : SO} (hr : SlR X r) (hp : SlP X.K r o) (he : DE X e f) (hl : DO X lo l) (hu : DO X hi u) :
    DE X (.Subscript e (.Slice lo hi none p2) pos) (sSl o f l u) := PE.imp (pe_slice hr he hl.h hu.h) fun σ H Q ⟨H0, th, ds, M, z, M', S, h, k⟩ => by
  obtain ⟨⟨x, M1⟩, h1, h⟩ := ob h
  obtain ⟨⟨y, M2⟩, h2, h⟩ := ob h
  obtain ⟨⟨w, M3⟩, h3, h⟩ := ob h
  obtain ⟨dx, h4, h⟩ := ob h
  obtain ⟨dz, h5, h⟩ := ob h
  cases h
  refine tE.run S h1 fun v H1 H1' th1 s1 S1 r1 => ?_
  refine tO.run S1 h2 fun H2 H2' th2 s2 S2 => ?_
  refine tO.run S2 h3 fun H3 H3' th3 s3 S3 => ?_
  exact hp S3.abs.ex (S3.abs.view ((r1.step s2).step s3) h4) h5 fun w H4 H4' g q => k w H4 H4' th3 (((s1.trans s2).trans s3).trans g.stp) (g.abs S3.abs) q
end
end Ow
set_option Elab.async false
set_option linter.all false
set_option maxRecDepth 100000
set_option maxHeartbeats 4000000
namespace Ow
open PySem L2

/-! ### statements -/
def sSkip : SS := fun ds M => some (.nx ds M)
def sSeq (g1 g2 : SS) : SS := fun ds M => (g1 ds M).bind fun fl => match fl with
  | .nx ds' M' => g2 ds' M'
  | fl => some fl
def sSet (i : Nat) (f : SE) : SS := fun ds M => (f ds M).bind fun x => some (.nx (ds.set i (some x.1)) x.2)
def sRet (f : SE) : SS := fun ds M => (f ds M).bind fun x => some (.rt x.1 x.2)
def sDrop (f : SE) : SS := fun ds M => (f ds M).bind fun x => some (.nx ds x.2)
def sCont : SS := fun ds M => some (.ct ds M)
def sIf (t : ST) (g h : SS) : SS := fun ds M => (t ds M).bind fun x => match x.1 with
  | true => g ds x.2
  | false => h ds x.2
theorem FlOk.step {K : PySem.W.Frag} {H0 H H0' H' : Hp} {th th' : List Addr} {D : Ends} (s : Stp H0 H th H0' H' th') : ∀ {fl : Fl}, FlOk K H0 H th D fl → FlOk K H0' H' th' D fl
  | .nx _ _, h => fun σ H0'' H'' th'' s' S => h σ H0'' H'' th'' (s.trans s') S
  | .ct _ _, h => fun σ H0'' H'' th'' s' S => h σ H0'' H'' th'' (s.trans s') S
  | .rt _ _, h => fun v H0'' H'' th'' s' S => h v H0'' H'' th'' (s.trans s') S
section
variable {X : Cx} {e a b c : Expr} {pos : Pos} {f g : SE} {st : Stmt} {rest sa sb : List Stmt} {g1 g2 : SS} {t : ST}
theorem dss_nil : DSs X [] sSkip := PSs.imp pss_nil fun D σ H ⟨H0, th, ds, M, fl, S, h, k⟩ => by
  cases h
  exact k σ H0 H th .refl S
theorem tS.run {K : PySem.W.Frag} {g : SS} {D : Ends} {σ : St} {ds : DS} {H0 H : Hp} {th : List Addr} {M : Mem} {fl : Fl} (S : Sta K σ ds H0 H th M) (h : g ds M = some fl) (k : FlOk K H0 H th D fl) : tS K g D σ H := ⟨H0, th, ds, M, fl, S, h, k⟩
theorem dss_cons (h1 : DSt X st g1) (h2 : DSs X rest g2) : DSs X (st :: rest) (sSeq g1 g2) := PSs.imp (pss_cons h1 h2) fun D σ H ⟨H0, th, ds, M, fl, S, h, k⟩ => by
  obtain ⟨fl1, e1, h⟩ := ob h
  refine tS.run S e1 ?_
  cases fl1 with
  | nx ds1 M1 => exact fun σ1 H1 H1' th1 s1 S1 => tS.run S1 h (k.step s1)
  | ct ds1 M1 => cases h; exact k
  | rt r M1 => cases h; exact k
theorem dss_one (h1 : DSt X st g1) : DSs X [st] g1 := pss_one h1
theorem dst_drop (he : DE X e f) (hs : swapsWith e none pos.line X.env = pure false := by rfl) : DSt X (.Expr e pos) (sDrop f) := PS.imp (ps_expr he hs) fun D σ H ⟨H0, th, ds, M, fl, S, h, k⟩ => by
  obtain ⟨⟨x, M1⟩, h1, h⟩ := ob h
  cases h
  exact tE.run S h1 fun v H1 H1' th1 s1 S1 r1 => k σ H1 H1' th1 s1 S1
theorem dst_ret (he : DE X e f) : DSt X (.Return (some e) pos) (sRet f) := PS.imp (ps_ret he) fun D σ H ⟨H0, th, ds, M, fl, S, h, k⟩ => by
  obtain ⟨⟨x, M1⟩, h1, h⟩ := ob h
  cases h
  exact tE.run S h1 fun v H1 H1' th1 s1 S1 r1 => k v H1 H1' th1 s1 S1.abs r1
theorem dst_cont : DSt X (.Continue pos) sCont := PS.imp ps_continue fun D σ H ⟨H0, th, ds, M, fl, S, h, k⟩ => by
  cases h
  exact k σ H0 H th .refl S
theorem dst_if (hc : DT X c t) (ha : DSs X sa g1) (hb : DSs X sb g2) : DSt X (.If c sa sb pos) (sIf t g1 g2) := PS.imp (ps_if hc ha hb) fun D σ H ⟨H0, th, ds, M, fl, S, h, k⟩ => by
  obtain ⟨⟨x, M1⟩, h1, h⟩ := ob h
  refine tT.run S h1 fun H1 H1' th1 s1 S1 => ?_
  cases x with
  | true =>
    show tS X.K g1 D σ H1'
    exact tS.run S1 h (k.step s1)
  | false =>
    show tS X.K g2 D σ H1'
    exact tS.run S1 h (k.step s1)
theorem dst_set (i : Nat) {x : Str} {pos' : Pos} (hN : X.N.Nodup) (he : DE X e f) (hi : X.N[i]? = some x := by rfl) (hx : Loc X.env.scope x := by first | exact Or.inl rfl | exact Or.inr rfl) (hs : swapsWith e (some (.Name x pos')) pos.line X.env = pure false := by rfl)
    (hf : X.fn x = true ∨ X.env.scope.names.lookup x = some .local := by first | exact .inl rfl | exact .inr rfl) : DSt X (.Assign [.Name x pos'] e pos) (sSet i f) := PS.imp (ps_set hN hi hx he hs hf) fun D σ H ⟨H0, th, ds, M, fl, S, h, k⟩ => by
  obtain ⟨⟨x, M1⟩, h1, h⟩ := ob h
  cases h
  exact tE.run S h1 fun v H1 H1' th1 s1 S1 r1 => k _ H1 H1' th1 s1 ⟨S1.abs, S1.sl.set r1⟩

/-! ### patterns -/
inductive Pat where
  | n (i : Nat)
  | t (is : List Nat)
def gNs : List Nat → TGs
  | [] => gNil
  | i :: is => gCons (gName i) (gNs is)
def patG (K : PySem.W.Frag) : Pat → TG
  | .n i => gName i
  | .t is => gTup K is.length (gNs is)
def bindNs : List Nat → List PyData → DS → Option DS
  | [], [], ds => some ds
  | i :: is, x :: xs, ds => bindNs is xs (ds.set i (some (.d x)))
  | _, _, _ => none
def bindP : Pat → PyData → DS → Option DS
  | .n i, x, ds => some (ds.set i (some (.d x)))
  | .t is, .tuple xs, ds => bindNs is xs ds
  | _, _, _ => none
structure DG (X : Cx) (tg : Expr) (p : Pat) : Prop where
  h : PG X tg (patG X.K p)
structure DGs (X : Cx) (tg : List Expr) (is : List Nat) : Prop where
  h : PGs X tg (gNs is)
theorem dg_n (i : Nat) {x : Str} (hN : X.N.Nodup) (hi : X.N[i]? = some x := by rfl) (hx : Loc X.env.scope x := by first | exact Or.inl rfl | exact Or.inr rfl) (hf : X.fn x = true ∨ X.env.scope.names.lookup x = some .local := by first | exact .inl rfl | exact .inr rfl) :
    DG X (.Name x pos) (.n i) := ⟨pg_name hN hi hx hf⟩
theorem dgs_nil : DGs X [] [] := ⟨pgs_nil⟩
theorem dgs_cons (i : Nat) {x : Str} {es : List Expr} {is : List Nat} (hN : X.N.Nodup) (h2 : DGs X es is) (hi : X.N[i]? = some x := by rfl) (hx : Loc X.env.scope x := by first | exact Or.inl rfl | exact Or.inr rfl)
    (hf : X.fn x = true ∨ X.env.scope.names.lookup x = some .local := by first | exact .inl rfl | exact .inr rfl)
    (hs : (assignEach (.Name x pos :: es) X.env).map (·.2) = assign (.Name x pos) X.env :: (assignEach es X.env).map (·.2) := by rfl) : DGs X (.Name x pos :: es) (i :: is) := ⟨pgs_cons (pg_name hN hi hx hf) h2.h hs⟩
theorem dg_t {es : List Expr} {k : Nat} {is : List Nat} (h : DGs X es is) (hc : X.calm = true := by rfl) (hn : (assignEach es X.env).length = is.length := by rfl) (hst : (assignEach es X.env).findIdx? (·.1) = none := by rfl) : DG X (.Tuple es k pos) (.t is) :=
  ⟨pg_tup hc h.h hn hst⟩
theorem gNs_read {K : PySem.W.Frag} {th : List Addr} {H0 H : Hp} {Q : St → Hp → Prop} : ∀ {is : List Nat} {xs : List PyData} {vs : List V} {σ : St} {ds ds' : DS}, bindNs is xs ds = some ds' → DdAll K H0 xs vs → Slots K th H0 σ ds → (∀ σ', Slots K th H0 σ' ds' → Q σ' H) → gNs is vs σ H Q
  | [], [], vs, σ, ds, ds', h, r, S, k => by
    cases h
    exact ⟨r, k σ S⟩
  | i :: is, x :: xs, vs, σ, ds, ds', h, ⟨v, w, e, r1, r2⟩, S, k => ⟨v, w, e, gNs_read (show bindNs is xs (ds.set i (some (.d x))) = some ds' from h) r2 (S.set (d := .d x) r1) k⟩
  | [], _ :: _, _, _, _, _, h, _, _, _ => by cases h
  | _ :: _, [], _, _, _, _, h, _, _, _ => by cases h
theorem bindNs_len : ∀ {is : List Nat} {xs : List PyData} {ds ds' : DS}, bindNs is xs ds = some ds' → xs.length = is.length ∧ ds'.length = ds.length
  | [], [], ds, ds', h => by cases h; exact ⟨rfl, rfl⟩
  | i :: is, x :: xs, ds, ds', h => by
    obtain ⟨h1, h2⟩ := bindNs_len (show bindNs is xs (ds.set i (some (.d x))) = some ds' from h)
    exact ⟨by rw [List.length_cons, List.length_cons, h1], by rw [h2, List.length_set]⟩
  | [], _ :: _, _, _, h => by cases h
  | _ :: _, [], _, _, h => by cases h
theorem patG_read {K : PySem.W.Frag} {th : List Addr} {H0 H : Hp} (ex : Ex H0 H) {Q : St → Hp → Prop} {p : Pat} {x : PyData} {v : V} {σ : St} {ds ds' : DS} (h : bindP p x ds = some ds') (r : Dd K H0 x v) (S : Slots K th H0 σ ds) (k : ∀ σ', Slots K th H0 σ' ds' → Q σ' H) : patG K p v σ H Q := by
  cases p with
  | n i => cases h; exact k _ (S.set (d := .d x) r)
  | t is =>
    cases x with
    | tuple xs =>
      obtain ⟨a, vs, e, r1, r2⟩ := r
      have h : bindNs is xs ds = some ds' := h
      exact ⟨a, vs, e, sqT_mono ex r1, by rw [r2.length]; exact (bindNs_len h).1, gNs_read h r2 S k⟩
    | _ => cases h
def sSetP (p : Pat) (f : SE) : SS := fun ds M => (f ds M).bind fun x => (asD x.1).bind fun d => (bindP p d ds).bind fun ds' => some (.nx ds' x.2)
theorem dst_setP {tg : Expr} {p : Pat} (he : DE X e f) (hg : DG X tg p) (hs : swapsWithSole [tg] e pos.line X.env = pure false := by rfl) (hw : swappedStores [tg] e X.env = pure none := by rfl)
    (h1 : (assignEach [tg] X.env).map (·.2) = [assign tg X.env] := by rfl) : DSt X (.Assign [tg] e pos) (sSetP p f) := PS.imp (ps_asg he hg.h hs hw h1) fun D σ H ⟨H0, th, ds, M, fl, S, h, k⟩ => by
  obtain ⟨⟨x, M1⟩, h1, h⟩ := ob h
  obtain ⟨d, h2, h⟩ := ob h
  obtain ⟨ds', h3, h⟩ := ob h
  cases h
  refine tE.run S h1 fun v H1 H1' th1 s1 S1 r1 => ?_
  cases x with
  | d x =>
    cases h2
    exact patG_read S1.abs.ex h3 r1 S1.sl fun σ' q => k σ' H1 H1' th1 s1 ⟨S1.abs, q⟩
  | _ => cases h2
/-- a, b = e1, e2 -/
def sPar (i j : Nat) (f : SA) : SS := fun ds M => (f ds M).bind fun x => match x.1 with
  | [u, v] => some (.nx ((ds.set i (some u)).set j (some v)) x.2)
  | _ => none
theorem dst_par (i j : Nat) {x y : Str} {px py pt : Pos} {kt k2 pt2} {fa : SA} (hN : X.N.Nodup) (ha : DA X [a, b] fa) (hc : X.calm = true := by rfl) (hi : X.N[i]? = some x := by rfl) (hj : X.N[j]? = some y := by rfl) (hij : i ≠ j := by decide)
    (hx : X.env.scope.names.lookup x = some .local := by rfl) (hy : X.env.scope.names.lookup y = some .local := by rfl)
    (hw : swappedStores [.Tuple [.Name x px, .Name y py] kt pt] (.Tuple [a, b] k2 pt2) X.env = pure (some [x, y]) := by rfl)
    (hs : swapsWithSole [.Tuple [.Name x px, .Name y py] kt pt] (.Tuple [a, b] k2 pt2) pos.line X.env = pure false := by rfl) :
    DSt X (.Assign [.Tuple [.Name x px, .Name y py] kt pt] (.Tuple [a, b] k2 pt2) pos) (sPar i j fa) := PS.imp (ps_par hc hN hi hj hij hx hy ha hw hs) fun D σ H ⟨H0, th, ds, M, fl, S, h, k⟩ => by
  obtain ⟨⟨x, M1⟩, h1, h⟩ := ob h
  refine tA.run S h1 fun v H1 H1' th1 s1 S1 r1 => ?_
  cases x with
  | nil => cases h
  | cons u xr =>
    cases xr with
    | nil => cases h
    | cons w xr2 =>
      cases xr2 with
      | cons _ _ => cases h
      | nil =>
        cases h
        obtain ⟨v1, r, e1, q1, r2⟩ := r1
        obtain ⟨v2, r', e2, q2, e3⟩ := r2
        have e3 : r' = [] := e3
        subst e3 e2 e1
        exact ⟨v1, v2, rfl, k _ H1 H1' th1 s1 ⟨S1.abs, (S1.sl.set q1).set q2⟩⟩
/-- name op= e -/
def sAug (i : Nat) (o : PyData → PyData → Option PyData) (f : SE) : SS := fun ds M => match ds[i]? with
  | some (some (.d x)) => (f ds M).bind fun y => (view y.2 y.1).bind fun dy => (o x dy).bind fun z => some (.nx (ds.set i (some (.d z))) y.2)
  | _ => none
theorem dst_aug (i : Nat) {x : Str} {op : Operator} {ti : TIp} {o : PyData → PyData → Option PyData} {pos' : Pos} (ho : PIp X op ti) (hp : OpP X.K ti o) (hN : X.N.Nodup) (he : DE X e f) (hi : X.N[i]? = some x := by rfl) (hx : Loc X.env.scope x := by first | exact Or.inl rfl | exact Or.inr rfl)
    (hf : X.fn x = true ∨ X.env.scope.names.lookup x = some .local := by first | exact .inl rfl | exact .inr rfl) : DSt X (.AugAssign (.Name x pos') op e pos) (sAug i o f) := PS.imp (ps_aug hN hi hx he ho hf) fun D σ H ⟨H0, th, ds, M, fl, S, h, k⟩ => by
  have h : (match ds[i]? with
    | some (some (.d x)) => (f ds M).bind fun y => (view y.2 y.1).bind fun dy => (o x dy).bind fun z => some (Fl.nx (ds.set i (some (.d z))) y.2)
    | _ => none) = some fl := h
  cases e1 : ds[i]? with
  | none => rw [e1] at h; cases h
  | some od =>
    rw [e1] at h
    cases od with
    | none => cases h
    | some d =>
      cases d with
      | d x =>
        obtain ⟨⟨y, M1⟩, h1, h⟩ := ob h
        obtain ⟨dy, h2, h⟩ := ob h
        obtain ⟨dz, h3, h⟩ := ob h
        cases h
        obtain ⟨v, q1, q2⟩ := S.sl.at_ i _ e1
        refine ⟨v, q1, tE.run S h1 fun w H1 H1' th1 s1 S1 r1 => ?_⟩
        refine hp S1.abs.ex (Dq.of S1.abs.ex (Dd.mono s1.ex _ _ q2)) (S1.abs.view r1 h2) h3 fun u H2 H2' g q => ?_
        exact k _ H2 H2' th1 (s1.trans g.stp) ⟨g.abs S1.abs, (S1.sl.mono g.ex fun _ _ z => z).set (d := .d dz) q⟩
      | _ => cases h

/-! ### what a loop walks -/
/-- the walked thing w (data, or an object that stands as xs), its items -/
abbrev SI := DS → Mem → Option ((DV × List PyData) × Mem)
def live (M : Mem) : DV → List PyData → Prop
  | .d _, _ => True
  | .r n, xs => M[n]? = some (.lst xs)
  | .a _, _ => False
  | .s _, _ => True
structure Wlk (K : PySem.W.Frag) (J : It) (Hb : Hp) (thb : List Addr) (w : DV) (xs : List PyData) : Prop where
  go : ∀ (i : Nat) (H0 H : Hp) (th : List Addr) (M : Mem) (x : PyData), Ex Hb H0 → (∀ (n : Nat) a, thb[n]? = some a → th[n]? = some a) → Abs K th H0 H M → live M w xs → xs[i]? = some x → J.go i H ∧ ∀ v H', J.yld i H v H' → H' = H ∧ Dd K H0 x v
  stop : ∀ (i : Nat) (H0 H : Hp) (th : List Addr) (M : Mem), Ex Hb H0 → (∀ (n : Nat) a, thb[n]? = some a → th[n]? = some a) → Abs K th H0 H M → live M w xs → xs.length ≤ i → J.stop i H
def tI (K : PySem.W.Frag) (f : SI) : TI := fun σ H R => ∃ H0 th ds M w xs M', Sta K σ ds H0 H th M ∧ f ds M = some ((w, xs), M') ∧
  ∀ J H0' H' th', Stp H0 H th H0' H' th' → Abs K th' H0' H' M' → Wlk K J H0' th' w xs → R J H'
structure DI (X : Cx) (tg e : Expr) (f : SI) : Prop where
  h : PI X tg e (tI X.K f)
theorem PI.imp {tg e : Expr} {t t' : TI} (h : PI X tg e t) (i : ∀ σ H Q, t' σ H Q → t σ H Q) : PI X tg e t' := ⟨fun pins s σ H Q I q => h.run pins s σ H Q I (i _ _ _ q)⟩
def iL (f : SE) : SI := fun ds M => (f ds M).bind fun x => match x.1 with
  | .s xs => some ((.s xs, xs), x.2)
  | y => match view x.2 y with
    | some (.list xs) => some ((y, xs), x.2)
    | _ => none
def iT (f : SE) : SI := fun ds M => (f ds M).bind fun x => match x.1 with
  | .d (.tuple xs) => some ((x.1, xs), x.2)
  | _ => none
def signs (x : Str) : List PyData := x.cps.toList.map fun c => .str ⟨#[c]⟩
def iS (f : SE) : SI := fun ds M => (f ds M).bind fun x => match x.1 with
  | .d (.str z) => some ((x.1, signs z), x.2)
  | _ => none
def iR (f : SA) : SI := fun ds M => (f ds M).bind fun x => match x.1 with
  | [.d (.int j)] => if 0 ≤ j ∧ j ≤ 1000000 then some ((.d .none, (List.range j.toNat).map fun i => .int (i : Nat)), x.2) else none
  | _ => none
theorem wlk_list {K : PySem.W.Frag} {Hb : Hp} {thb : List Addr} {w : DV} {xs : List PyData} {a : Addr} (h : ∀ (H0 H : Hp) (th : List Addr) (M : Mem), Ex Hb H0 → (∀ (n : Nat) a, thb[n]? = some a → th[n]? = some a) → Abs K th H0 H M → live M w xs → ∃ us, SqL K H a us ∧ DdAll K H0 xs us) : Wlk K (Itl K a) Hb thb w xs := by
  refine ⟨fun i H0 H th M x ex tt A lv hx => ?_, fun i H0 H th M ex tt A lv hl => ?_⟩
  · obtain ⟨us, q3, q4⟩ := h H0 H th M ex tt A lv
    obtain ⟨u, q5, q6⟩ := q4.get hx
    exact ⟨⟨us, u, q3, q5⟩, fun v H' ⟨e1, e2⟩ => ⟨e1, by
      have := e2 us q3
      rw [q5] at this
      cases this
      exact q6⟩⟩
  · obtain ⟨us, q3, q4⟩ := h H0 H th M ex tt A lv
    exact ⟨us, q3, by rw [q4.length]; exact hl⟩
theorem di_list {tg : Expr} (h : DE X e f) : DI X tg e (iL f) := ⟨PI.imp (pi_list h) fun σ H R ⟨H0, th, ds, M, w, xs, M', S, h, k⟩ => by
  obtain ⟨⟨x, M1⟩, h1, h⟩ := ob h
  refine tE.run S h1 fun v H1 H1' th1 s1 S1 r1 => ?_
  cases x with
  | s ys =>
    cases h
    obtain ⟨a, vs, rfl, q1, q2⟩ := r1
    exact ⟨a, rfl, ⟨vs, sqL_mono S1.abs.ex q1⟩, k _ H1 H1' th1 s1 S1.abs (wlk_list fun H0 H th M ex tt A lv => ⟨vs, sqL_mono A.ex (sqL_mono ex q1), DdAll.mono ex _ _ q2⟩)⟩
  | a x => cases h
  | d x =>
    cases x with
    | list ys =>
      cases h
      obtain ⟨a, vs, rfl, q1, q2⟩ := r1
      exact ⟨a, rfl, ⟨vs, .inl (.inl (S1.abs.ex _ _ q1))⟩, k _ H1 H1' th1 s1 S1.abs (wlk_list fun H0 H th M ex tt A lv => ⟨vs, .inl (.inl (A.ex _ _ (ex _ _ q1))), DdAll.mono ex _ _ q2⟩)⟩
    | _ => cases h
  | r n =>
    cases hv : view M1 (.r n) with
    | none =>
      have h : (match view M1 (.r n) with
        | some (.list xs) => some ((DV.r n, xs), M1)
        | _ => none) = some ((w, xs), M') := h
      rw [hv] at h; cases h
    | some d =>
      have h : (match view M1 (.r n) with
        | some (.list xs) => some ((DV.r n, xs), M1)
        | _ => none) = some ((w, xs), M') := h
      rw [hv] at h
      cases d with
      | list ys =>
        cases h
        obtain ⟨a, vs, rfl, q1, q2⟩ := S1.abs.view r1 hv
        refine ⟨a, rfl, ⟨vs, .inl (.inl q1)⟩, k _ H1 H1' th1 s1 S1.abs (wlk_list fun H0 H th M ex tt A lv => ?_)⟩
        obtain ⟨a', e1, e2⟩ := r1
        cases e2
        obtain ⟨_, o, e3, e4⟩ := A.at_ n a (tt n a e1)
        have lv : M[n]? = some (.lst xs) := lv
        rw [lv] at e3
        cases e3
        obtain ⟨us, e5, e6⟩ := e4
        exact ⟨us, .inl (.inl e5), e6⟩
      | _ => cases h⟩
end
end Ow
set_option Elab.async false
set_option linter.all false
set_option maxRecDepth 100000
set_option maxHeartbeats 4000000
namespace Ow
open PySem L2
section
variable {X : Cx} {e a b c : Expr} {pos : Pos} {f g : SE} {st : Stmt} {rest sa sb : List Stmt} {g1 g2 : SS} {t : ST}

theorem di_tup {tg : Expr} (h : DE X e f) : DI X tg e (iT f) := ⟨PI.imp (pi_tup h) fun σ H R ⟨H0, th, ds, M, w, xs, M', S, h, k⟩ => by
  obtain ⟨⟨x, M1⟩, h1, h⟩ := ob h
  cases x with
  | d x =>
    cases x with
    | tuple ys =>
      cases h
      refine tE.run S h1 fun v H1 H1' th1 s1 S1 r1 => ?_
      obtain ⟨a, vs, rfl, q1, q2⟩ := r1
      refine ⟨a, rfl, ⟨vs, sqT_mono S1.abs.ex q1⟩, k _ H1 H1' th1 s1 S1.abs ?_⟩
      refine ⟨fun i H0 H th M x ex tt A lv hx => ?_, fun i H0 H th M ex tt A lv hl => ?_⟩
      · have q3 := sqT_mono A.ex (sqT_mono ex q1)
        obtain ⟨u, q5, q6⟩ := (DdAll.mono ex _ _ q2).get hx
        exact ⟨⟨vs, u, q3, q5⟩, fun v H' ⟨e1, e2⟩ => ⟨e1, by
          have := e2 vs q3
          rw [q5] at this
          cases this
          exact q6⟩⟩
      · exact ⟨vs, sqT_mono A.ex (sqT_mono ex q1), by rw [q2.length]; exact hl⟩
    | _ => cases h
  | _ => cases h⟩
theorem di_str {tg : Expr} (h : DE X e f) : DI X tg e (iS f) := ⟨PI.imp (pi_str h) fun σ H R ⟨H0, th, ds, M, w, xs, M', S, h, k⟩ => by
  obtain ⟨⟨x, M1⟩, h1, h⟩ := ob h
  cases x with
  | d x =>
    cases x with
    | str z =>
      cases h
      refine tE.run S h1 fun v H1 H1' th1 s1 S1 r1 => ?_
      refine ⟨z, r1, k _ H1 H1' th1 s1 S1.abs ?_⟩
      have hz : (signs z).length = z.cps.size := by unfold signs; rw [List.length_map, Array.length_toList]
      refine ⟨fun i H0 H th M x ex tt A lv hx => ?_, fun i H0 H th M ex tt A lv hl => ?_⟩
      · unfold signs at hx
        rw [List.getElem?_map, Array.getElem?_toList] at hx
        cases hc : z.cps[i]? with
        | none => rw [hc] at hx; cases hx
        | some c =>
          rw [hc] at hx
          cases hx
          refine ⟨(Array.getElem?_eq_some_iff.mp hc).1, fun v H' ⟨e1, c', e2, e3⟩ => ⟨e1, ?_⟩⟩
          rw [hc] at e2
          cases e2
          exact e3
      · show z.cps.size ≤ i
        rw [← hz]; exact hl
    | _ => cases h
  | _ => cases h⟩
theorem di_range {tg : Expr} {p : Pos} {fa : SA} (hm : X.mg "range" = none) (ha : DA X [a] fa) (hg : Gl X "range" := by rfl) (hs : starEach [a] X.env = [(false, eval a X.env)] := by rfl) : DI X tg (.Call (.Name "range" p) [a] [] pos) (iR fa) :=
  ⟨PI.imp (pi_range1 hg hm ha hs) fun σ H R ⟨H0, th, ds, M, w, xs, M', S, h, k⟩ => by
    obtain ⟨⟨x, M1⟩, h1, h⟩ := ob h
    refine tA.run S h1 fun v H1 H1' th1 s1 S1 r1 => ?_
    cases x with
    | nil => cases h
    | cons u xr =>
      cases xr with
      | cons _ _ => cases u <;> (rename_i z; cases z <;> cases h)
      | nil =>
        cases u with
        | d u =>
          cases u with
          | int j =>
            have h : (if 0 ≤ j ∧ j ≤ 1000000 then some ((DV.d .none, (List.range j.toNat).map fun i => PyData.int (i : Nat)), M1) else none) = some ((w, xs), M') := h
            by_cases hj : 0 ≤ j ∧ j ≤ 1000000
            · rw [if_pos hj] at h
              cases h
              obtain ⟨v1, r, e1, q1, e2⟩ := r1
              have e2 : r = [] := e2
              subst e2 e1
              refine ⟨j, by rw [show v1 = .int j from q1], by omega, by omega, k _ H1 H1' th1 s1 S1.abs ?_⟩
              refine ⟨fun i H0 H th M x ex tt A lv hx => ?_, fun i H0 H th M ex tt A lv hl => ?_⟩
              · rw [List.getElem?_map] at hx
                cases hc : (List.range j.toNat)[i]? with
                | none => rw [hc] at hx; cases hx
                | some c =>
                  rw [hc] at hx
                  cases hx
                  obtain ⟨l1, l2⟩ := List.getElem?_eq_some_iff.mp hc
                  rw [List.length_range] at l1
                  rw [List.getElem_range] at l2
                  subst l2
                  refine ⟨l1, fun v H' ⟨e1, e2⟩ => ⟨e1, ?_⟩⟩
                  rw [Int.zero_add] at e2
                  exact e2
              · rw [List.length_map, List.length_range] at hl
                exact hl
            · rw [if_neg hj] at h; cases h
          | _ => cases h
        | _ => cases h⟩

/-! ### for -/
open Classical in
noncomputable def forD (p : Pat) (gb : SS) (w : DV) (full : List PyData) : List PyData → SS
  | [] => fun ds M => if live M w full then some (.nx ds M) else none
  | x :: rest => fun ds M => if live M w full then (bindP p x ds).bind fun ds1 => (gb ds1 M).bind fun fl => match fl with
    | .nx ds2 M2 => forD p gb w full rest ds2 M2
    | .ct ds2 M2 => forD p gb w full rest ds2 M2
    | .rt r M2 => some (.rt r M2) else none
noncomputable def sFor (p : Pat) (fi : SI) (gb : SS) : SS := fun ds M => (fi ds M).bind fun x => forD p gb x.1.1 x.1.2 x.1.2 ds x.2
theorem forD_nil {p : Pat} {gb : SS} {w : DV} {full : List PyData} {ds : DS} {M : Mem} {fl : Fl} (h : forD p gb w full [] ds M = some fl) : live M w full ∧ fl = .nx ds M := by
  unfold forD at h
  split at h
  · rename_i q; cases h; exact ⟨q, rfl⟩
  · cases h
theorem forD_cons {p : Pat} {gb : SS} {w : DV} {full rest : List PyData} {x : PyData} {ds : DS} {M : Mem} {fl : Fl} (h : forD p gb w full (x :: rest) ds M = some fl) : live M w full ∧ ∃ ds1 fl1, bindP p x ds = some ds1 ∧ gb ds1 M = some fl1 ∧ (match fl1 with
    | .nx ds2 M2 => forD p gb w full rest ds2 M2
    | .ct ds2 M2 => forD p gb w full rest ds2 M2
    | .rt r M2 => some (.rt r M2)) = some fl := by
  unfold forD at h
  split at h
  · rename_i q
    obtain ⟨ds1, h1, h⟩ := ob h
    obtain ⟨fl1, h2, h⟩ := ob h
    exact ⟨q, ds1, fl1, h1, h2, h⟩
  · cases h
theorem dst_for {tg iter : Expr} {body : List Stmt} {p : Pat} {fi : SI} {gb : SS} (hi : DI X tg iter fi) (hg : DG X tg p) (hb : DSs X body gb) (hp : PassesOwn (model X.prog X.w) X.A X.env X.xe := by exact PassesOwn.never) (hc : X.calm = true := by rfl)
    (hs : ∀ x, foldedSetIterable iter X.env x = pure x := by intro _; rfl) : DSt X (.For tg iter body [] pos) (sFor p fi gb) := PS.imp (ps_for hp hc hi.h hg.h hb hs) fun D σ H ⟨H0, th, ds, M, fl, S, h, k⟩ => by
  obtain ⟨⟨⟨w, xs⟩, M1⟩, h1, h⟩ := ob h
  have h : forD p gb w xs xs ds M1 = some fl := h
  refine ⟨H0, th, ds, M, w, xs, M1, S, h1, fun J H1 H1' th1 s1 A1 wk => ?_⟩
  refine ⟨fun i m σ' H' => m = xs.length - i ∧ i ≤ xs.length ∧ ∃ H0' th' ds' M', Stp H1 H1' th1 H0' H' th' ∧ Sta X.K σ' ds' H0' H' th' M' ∧ forD p gb w xs (xs.drop i) ds' M' = some fl,
    ⟨xs.length, by simp, Nat.zero_le _, H1, th1, ds, M1, .refl, S.step s1 A1, h⟩, ?_⟩
  rintro i m σ' H' ⟨rfl, hi, H2, th2, ds2, M2, s2, S2, e2⟩
  by_cases hlt : i < xs.length
  · rw [List.drop_eq_getElem_cons hlt] at e2
    obtain ⟨lv, ds3, fl3, e3, e4, e5⟩ := forD_cons e2
    obtain ⟨go, yl⟩ := wk.go i H2 H' th2 M2 xs[i] s2.ex s2.tt S2.abs lv (by simp [hlt])
    refine .inr ⟨go, fun σ4 H4 => ∃ H0' th' ds' M', Stp H1 H1' th1 H0' H4 th' ∧ Sta X.K σ4 ds' H0' H4 th' M' ∧ forD p gb w xs (xs.drop (i + 1)) ds' M' = some fl,
      fun σ4 H4 q => ⟨xs.length - (i + 1), by omega, rfl, hlt, q⟩, fun v H4 y => ?_⟩
    obtain ⟨rfl, rv⟩ := yl v H4 y
    refine patG_read S2.abs.ex e3 rv S2.sl fun σ3 S3 => ?_
    refine tS.run ⟨S2.abs, S3⟩ e4 ?_
    cases fl3 with
    | nx ds4 M4 => exact fun σ5 H5 H5' th5 s5 S5 => ⟨H5, th5, ds4, M4, s2.trans s5, S5, e5⟩
    | ct ds4 M4 => exact fun σ5 H5 H5' th5 s5 S5 => ⟨H5, th5, ds4, M4, s2.trans s5, S5, e5⟩
    | rt r M4 =>
      cases e5
      exact fun v5 H5 H5' th5 s5 A5 r5 => k v5 H5 H5' th5 ((s1.trans s2).trans s5) A5 r5
  · have ei : i = xs.length := by omega
    subst ei
    rw [List.drop_length] at e2
    obtain ⟨lv, rfl⟩ := forD_nil e2
    exact .inl ⟨wk.stop xs.length H2 H' th2 M2 s2.ex s2.tt S2.abs lv (Nat.le_refl _), k σ' H2 H' th2 (s1.trans s2) S2⟩

/-! ### while -/
def whD (t : ST) (gb : SS) : Nat → SS
  | 0 => fun _ _ => none
  | n + 1 => fun ds M => (t ds M).bind fun x => match x.1 with
    | true => (gb ds x.2).bind fun fl => match fl with
      | .nx ds2 M2 => whD t gb n ds2 M2
      | .ct ds2 M2 => whD t gb n ds2 M2
      | .rt r M2 => some (.rt r M2)
    | false => some (.nx ds x.2)
def sWhile (n : Nat) (t : ST) (gb : SS) : SS := whD t gb n
theorem dst_while (n : Nat) {body : List Stmt} {gb : SS} (hc : DT X c t) (hb : DSs X body gb) (hp : PassesOwn (model X.prog X.w) X.A X.env X.xe := by exact PassesOwn.never) : DSt X (.While c body [] pos) (sWhile n t gb) :=
  PS.imp (ps_while hp hc hb) fun D σ H ⟨H0, th, ds, M, fl, S, h, k⟩ => by
    refine ⟨fun m σ' H' => ∃ H0' th' ds' M', Stp H0 H th H0' H' th' ∧ Sta X.K σ' ds' H0' H' th' M' ∧ whD t gb m ds' M' = some fl, ⟨n, H0, th, ds, M, .refl, S, h⟩, ?_⟩
    rintro m σ' H' ⟨H2, th2, ds2, M2, s2, S2, e2⟩
    cases m with
    | zero => cases e2
    | succ m =>
      obtain ⟨⟨x, M3⟩, e3, e4⟩ := ob (show ((t ds2 M2).bind fun x => match x.1 with
        | true => (gb ds2 x.2).bind fun fl => match fl with
          | .nx ds2 M2 => whD t gb m ds2 M2
          | .ct ds2 M2 => whD t gb m ds2 M2
          | .rt r M2 => some (Fl.rt r M2)
        | false => some (Fl.nx ds2 x.2)) = some fl from e2)
      refine tT.run S2 e3 fun H3 H3' th3 s3 S3 => ?_
      cases x with
      | true =>
        show ∃ N, _
        obtain ⟨fl4, e5, e6⟩ := ob e4
        refine ⟨fun σ4 H4 => ∃ H0' th' ds' M', Stp H0 H th H0' H4 th' ∧ Sta X.K σ4 ds' H0' H4 th' M' ∧ whD t gb m ds' M' = some fl, fun σ4 H4 q => ⟨m, Nat.lt_succ_self _, q⟩, ?_⟩
        refine tS.run S3 e5 ?_
        cases fl4 with
        | nx ds4 M4 => exact fun σ5 H5 H5' th5 s5 S5 => ⟨H5, th5, ds4, M4, (s2.trans s3).trans s5, S5, e6⟩
        | ct ds4 M4 => exact fun σ5 H5 H5' th5 s5 S5 => ⟨H5, th5, ds4, M4, (s2.trans s3).trans s5, S5, e6⟩
        | rt r M4 =>
          cases e6
          exact fun v5 H5 H5' th5 s5 A5 r5 => k v5 H5 H5' th5 ((s2.trans s3).trans s5) A5 r5
      | false =>
        show D.nx σ' H3'
        cases e4
        exact k σ' H3 H3' th3 (s2.trans s3) S3

/-! ### comprehensions -/
def wipeD (ds : DS) : List Nat → DS
  | [] => ds
  | v :: vs => (wipeD ds vs).set v none
theorem wipeD_len (ds : DS) : ∀ vs : List Nat, (wipeD ds vs).length = ds.length
  | [] => rfl
  | v :: vs => by unfold wipeD; rw [List.length_set, wipeD_len ds vs]
theorem wipeD_some {ds : DS} {i : Nat} {d : DV} : ∀ {vs : List Nat}, (wipeD ds vs)[i]? = some (some d) → ds[i]? = some (some d) ∧ i ∉ vs
  | [], h => ⟨h, by simp⟩
  | v :: vs, h => by
    unfold wipeD at h
    by_cases e : v = i
    · subst e
      by_cases hl : v < (wipeD ds vs).length
      · rw [List.getElem?_set_self hl] at h; cases h
      · rw [List.getElem?_eq_none (by rw [List.length_set]; omega)] at h; cases h
    · rw [List.getElem?_set_ne e] at h
      obtain ⟨h1, h2⟩ := wipeD_some h
      exact ⟨h1, fun z => (List.mem_cons.mp z).elim (fun y => e y.symm) h2⟩
theorem wipe_in {σ : St} {i : Nat} : ∀ {vs : List Nat}, i ∈ vs → i < σ.length → (wipe σ vs)[i]? = some none
  | v :: vs, h, hl => by
    unfold wipe
    by_cases e : v = i
    · subst e
      rw [List.getElem?_set_self (by rw [wipe_length]; exact hl)]
    · rw [List.getElem?_set_ne e]
      exact wipe_in ((List.mem_cons.mp h).resolve_left fun z => e z.symm) hl
theorem wipe_eq {σ σ' : St} {vs : List Nat} (hl : σ'.length = σ.length) (h : ∀ i : Nat, i ∉ vs → σ'[i]? = σ[i]?) : wipe σ' vs = wipe σ vs := by
  refine List.ext_getElem? fun i => ?_
  by_cases e : i ∈ vs
  · by_cases q : i < σ.length
    · rw [wipe_in e q, wipe_in e (by rw [hl]; exact q)]
    · rw [List.getElem?_eq_none (by rw [wipe_length]; omega), List.getElem?_eq_none (by rw [wipe_length]; omega)]
  · rw [wipe_out e, wipe_out e, h i e]
theorem Slots.wipe {K : PySem.W.Frag} {th : List Addr} {H0 : Hp} {σ : St} {ds : DS} (S : Slots K th H0 σ ds) (vs : List Nat) : Slots K th H0 (L2.wipe σ vs) (wipeD ds vs) :=
  ⟨by rw [wipe_length, wipeD_len, S.len], fun i d h => by
    obtain ⟨h1, h2⟩ := wipeD_some h
    rw [wipe_out h2]
    exact S.at_ i d h1⟩
def Pat.ix : Pat → List Nat
  | .n i => [i]
  | .t is => is
theorem gNs_read2 {K : PySem.W.Frag} {th : List Addr} {H0 H : Hp} {Q : St → Hp → Prop} : ∀ {is : List Nat} {xs : List PyData} {vs : List V} {σ : St} {ds ds' : DS}, bindNs is xs ds = some ds' → DdAll K H0 xs vs → Slots K th H0 σ ds →
    (∀ σ', Slots K th H0 σ' ds' → σ'.length = σ.length → (∀ i : Nat, i ∉ is → σ'[i]? = σ[i]?) → Q σ' H) → gNs is vs σ H Q
  | [], [], vs, σ, ds, ds', h, r, S, k => by
    cases h
    exact ⟨r, k σ S rfl fun _ _ => rfl⟩
  | i :: is, x :: xs, vs, σ, ds, ds', h, ⟨v, w, e, r1, r2⟩, S, k => ⟨v, w, e, gNs_read2 (show bindNs is xs (ds.set i (some (.d x))) = some ds' from h) r2 (S.set (d := .d x) r1) fun σ' S' hl ho =>
    k σ' S' (by rw [hl, List.length_set]) fun j hj => by
      rw [ho j fun z => hj (List.mem_cons_of_mem _ z), List.getElem?_set_ne (show i ≠ j from fun z => hj (by rw [z]; exact List.mem_cons_self))]⟩
  | [], _ :: _, _, _, _, _, h, _, _, _ => by cases h
  | _ :: _, [], _, _, _, _, h, _, _, _ => by cases h
theorem patG_read2 {K : PySem.W.Frag} {th : List Addr} {H0 H : Hp} (ex : Ex H0 H) {Q : St → Hp → Prop} {p : Pat} {x : PyData} {v : V} {σ : St} {ds ds' : DS} (h : bindP p x ds = some ds') (r : Dd K H0 x v) (S : Slots K th H0 σ ds)
    (k : ∀ σ', Slots K th H0 σ' ds' → σ'.length = σ.length → (∀ i : Nat, i ∉ p.ix → σ'[i]? = σ[i]?) → Q σ' H) : patG K p v σ H Q := by
  cases p with
  | n i =>
    cases h
    refine k _ (S.set (d := .d x) r) (by rw [List.length_set]) fun j hj => ?_
    rw [List.getElem?_set_ne fun z => hj (by rw [z]; exact List.mem_singleton.mpr rfl)]
  | t is =>
    cases x with
    | tuple xs =>
      obtain ⟨a, vs, e, r1, r2⟩ := r
      have h : bindNs is xs ds = some ds' := h
      exact ⟨a, vs, e, sqT_mono ex r1, by rw [r2.length]; exact (bindNs_len h).1, gNs_read2 h r2 S k⟩
    | _ => cases h
open Classical in
noncomputable def lcD (p : Pat) (t : ST) (f : SE) (vs : List Nat) (w : DV) (full : List PyData) (ds : DS) : List PyData → Mem → Option (List PyData × Mem)
  | [], M => if live M w full then some ([], M) else none
  | x :: rest, M => if live M w full then (bindP p x (wipeD ds vs)).bind fun ds1 => (t ds1 M).bind fun b => match b.1 with
    | true => (f ds1 b.2).bind fun y => (asD y.1).bind fun d => (lcD p t f vs w full ds rest y.2).bind fun r => some (d :: r.1, r.2)
    | false => lcD p t f vs w full ds rest b.2 else none
noncomputable def sLc (p : Pat) (fi : SI) (t : ST) (f : SE) (vs : List Nat) : SL := fun ds M => (fi ds M).bind fun x => if x.1.2.length ≤ lim then lcD p t f vs x.1.1 x.1.2 ds x.1.2 x.2 else none
def sYes : ST := fun _ M => some (true, M)
structure DTs (X : Cx) (ifs : List Expr) (t : ST) : Prop where
  h : PTs X ifs (tT X.K t)
theorem PTs.imp {e : List Expr} {t t' : TT} (h : PTs X e t) (i : ∀ σ H Q, t' σ H Q → t σ H Q) : PTs X e t' := ⟨fun pins s σ H Q I q => h.run pins s σ H Q I (i _ _ _ q)⟩
theorem dts_nil : DTs X [] sYes := ⟨PTs.imp pts_nil fun σ H Q ⟨H0, th, ds, M, z, M', S, h, k⟩ => by
  cases h
  exact k H0 H th .refl S.abs⟩
theorem dts_one (h : DT X c t) : DTs X [c] t := ⟨pts_one h⟩
theorem lc_read {K : PySem.W.Frag} {p : Pat} {fi : SI} {vs : List Nat} (hv : ∀ i ∈ p.ix, i ∈ vs) : ∀ σ H Q, tL K (sLc p fi t f vs) σ H Q → tLc (tI K fi) (patG K p) (tT K t) (tE K f) vs σ H Q := fun σ H Q ⟨H0, th, ds, M, ys, M', S, h, k⟩ => by
  obtain ⟨⟨⟨w, xs⟩, M1⟩, h1, h⟩ := ob h
  have h : (if xs.length ≤ lim then lcD p t f vs w xs ds xs M1 else none) = some (ys, M') := h
  by_cases hz : xs.length ≤ lim
  · rw [if_pos hz] at h
    refine ⟨H0, th, ds, M, w, xs, M1, S, h1, fun J H1 H1' th1 s1 A1 wk => fun L hL => ?_⟩
    have S1 := S.step s1 A1
    refine ⟨fun i m H' => m = xs.length - i ∧ i ≤ xs.length ∧ ∃ H0' th' M2 acc accd zs, Stp H1 H1' th1 H0' H' th' ∧ Abs K th' H0' H' M2 ∧ H' L = some (.lst acc) ∧ H0' L = none ∧ L ∉ th' ∧ DdAll K H0' accd acc ∧ accd.length ≤ i ∧ lcD p t f vs w xs ds (xs.drop i) M2 = some (zs, M') ∧ ys = accd ++ zs,
      ⟨xs.length, by simp, Nat.zero_le _, H1, th1, M1, [], [], ys, .priv hL, A1.priv (A1.ex.free hL) (A1.notin hL), upd_same, A1.ex.free hL, A1.notin hL, rfl, Nat.le_refl _, h, rfl⟩, ?_⟩
    rintro i m H' ⟨rfl, hi, H2, th2, M2, acc, accd, zs, s2, A2, q1, q2, q3, q4, q5, e2, e3⟩
    have Sl2 : Slots K th2 H2 σ ds := S1.sl.step s2
    by_cases hlt : i < xs.length
    · rw [List.drop_eq_getElem_cons hlt] at e2
      unfold lcD at e2
      by_cases lv : live M2 w xs
      · rw [if_pos lv] at e2
        obtain ⟨ds3, e4, e2⟩ := ob e2
        obtain ⟨⟨bb, M3⟩, e5, e2⟩ := ob e2
        obtain ⟨go, yl⟩ := wk.go i H2 H' th2 M2 xs[i] s2.ex s2.tt A2 lv (by simp [hlt])
        refine .inr ⟨go, fun H4 => ∃ H0' th' M2 acc accd zs, Stp H1 H1' th1 H0' H4 th' ∧ Abs K th' H0' H4 M2 ∧ H4 L = some (.lst acc) ∧ H0' L = none ∧ L ∉ th' ∧ DdAll K H0' accd acc ∧ accd.length ≤ i + 1 ∧ lcD p t f vs w xs ds (xs.drop (i + 1)) M2 = some (zs, M') ∧ ys = accd ++ zs,
          fun H4 q => ⟨xs.length - (i + 1), by omega, rfl, hlt, q⟩, fun v H4 y => ?_⟩
        obtain ⟨rfl, rv⟩ := yl v H4 y
        refine patG_read2 A2.ex e4 rv (Sl2.wipe vs) fun σ3 S3 hl3 ho3 => ⟨?_, ?_⟩
        · have z1 : wipe σ3 vs = wipe (wipe σ vs) vs := wipe_eq hl3 fun j hj => ho3 j fun z => hj (hv j z)
          rw [z1]
          exact wipe_eq (wipe_length _ _) fun j hj => wipe_out hj
        · refine tT.run ⟨A2, S3⟩ e5 fun H5 H5' th5 s5 S5 => ?_
          obtain ⟨f1, f2⟩ := s2.trans s5 |>.fr |> fun z => s5.fr L _ q1 q3
          have f3 := s5.out L _ q1 q3 q2
          cases bb with
          | true =>
            show tE K f σ3 H5' _
            obtain ⟨⟨y1, M6⟩, e6, e2⟩ := ob e2
            obtain ⟨d1, e7, e2⟩ := ob e2
            obtain ⟨⟨r1, M7⟩, e8, e2⟩ := ob e2
            cases e2
            refine tE.run S5 e6 fun v6 H6 H6' th6 s6 S6 r6 => ?_
            obtain ⟨g1, g2⟩ := s6.fr L _ f1 f2
            have g3 := s6.out L _ f1 f2 f3
            refine ⟨acc, g1, ?_, H6, th6, M6, acc ++ [v6], accd ++ [d1], r1, ?_, S6.abs.priv g3 g2, upd_same, g3, g2, ?_, ?_, e8, ?_⟩
            · rw [q4.length]
              exact lim_lt (by omega)
            · have st := (s2.trans s5).trans s6
              exact ⟨st.ex, st.tt, fun a o h q => ⟨by rw [upd_ne (ne_of_none h hL)]; exact (st.fr a o h q).1, (st.fr a o h q).2⟩, st.out⟩
            · cases y1 with
              | d x1 => cases e7; exact (DdAll.mono (s5.ex.trans s6.ex) _ _ q4).append (.one r6)
              | _ => cases e7
            · rw [List.length_append, List.length_singleton]; omega
            · rw [e3, List.append_assoc]; rfl
          | false =>
            show ∃ H0', _
            exact ⟨H5, th5, M3, acc, accd, zs, s2.trans s5, S5.abs, f1, f3, f2, DdAll.mono s5.ex _ _ q4, by omega, e2, e3⟩
      · rw [if_neg lv] at e2; cases e2
    · have ei : i = xs.length := by omega
      subst ei
      rw [List.drop_length] at e2
      unfold lcD at e2
      by_cases lv : live M2 w xs
      · rw [if_pos lv] at e2
        cases e2
        rw [List.append_nil] at e3
        subst e3
        refine .inl ⟨wk.stop xs.length H2 H' th2 M' s2.ex s2.tt A2 lv (Nat.le_refl _), k L acc H2 H' th2 (s1.trans s2) A2 (s1.fresh A1 hL) q2 q3 q1 q4⟩
      · rw [if_neg lv] at e2; cases e2
  · rw [if_neg hz] at h; cases h
theorem dl_lc {tg iter : Expr} {ifs : List Expr} {scope : Scope} {p : Pat} {fi : SI} (own : List (Str × Nat)) (hN : X.N.Nodup) (hi : DI X tg iter fi) (ok : BlkOk X.N X.env.scope scope own)
    (hg : ∀ (s : Shared) (H : Hp) (C : Addr) (cl : List (Str × Addr)) (fp : List Addr), DG (X.blk s H scope (compEnvC scope cl C X.env) fp) tg p) (ht : ∀ (s : Shared) (H : Hp) (C : Addr) (cl : List (Str × Addr)) (fp : List Addr), DTs (X.blk s H scope (compEnvC scope cl C X.env) fp) ifs t)
    (he : ∀ (s : Shared) (H : Hp) (C : Addr) (cl : List (Str × Addr)) (fp : List Addr), DE (X.blk s H scope (compEnvC scope cl C X.env) fp) e f) (hv : ∀ i ∈ p.ix, i ∈ own.map (·.2) := by decide) (hc : X.calm = true := by rfl)
    (hs : ∀ x, foldedSetIterable iter X.env x = pure x := by intro _; rfl) : DL X (.ListComp e [⟨tg, iter, ifs, 0⟩] scope pos) (sLc p fi t f (own.map (·.2))) :=
  PE.imp (pe_lc hc hN hi.h ok (fun s H C cl fp => (hg s H C cl fp).h) (fun s H C cl fp => (ht s H C cl fp).h) he hs) (lc_read hv)
/-- name = [..] on one line -/
theorem dst_setLc (i : Nat) {y : Str} {py : Pos} {tg iter : Expr} {ifs : List Expr} {scope : Scope} {p : Pat} {fi : SI} {spos : Pos} (own : List (Str × Nat)) (hN : X.N.Nodup) (hi : DI X tg iter fi) (ok : BlkOk X.N X.env.scope scope own)
    (hg : ∀ (s : Shared) (H : Hp) (C : Addr) (cl : List (Str × Addr)) (fp : List Addr), DG (X.blk s H scope (compEnvC scope cl C X.env) fp) tg p) (ht : ∀ (s : Shared) (H : Hp) (C : Addr) (cl : List (Str × Addr)) (fp : List Addr), DTs (X.blk s H scope (compEnvC scope cl C X.env) fp) ifs t)
    (he : ∀ (s : Shared) (H : Hp) (C : Addr) (cl : List (Str × Addr)) (fp : List Addr), DE (X.blk s H scope (compEnvC scope cl C X.env) fp) e f) (hy : X.N[i]? = some y := by rfl) (hyl : X.env.scope.names.lookup y = some .local := by rfl)
    (hsw : swapsWith (.ListComp e [⟨tg, iter, ifs, 0⟩] scope pos) (some (.Name y py)) spos.line X.env = pure true := by exact sw_true rfl rfl rfl (by decide +kernel)) (hv : ∀ i ∈ p.ix, i ∈ own.map (·.2) := by decide) (hc : X.calm = true := by rfl)
    (hs : ∀ x, foldedSetIterable iter X.env x = pure x := by intro _; rfl) : DSt X (.Assign [.Name y py] (.ListComp e [⟨tg, iter, ifs, 0⟩] scope pos) spos) (sSet i (sFrz (sLc p fi t f (own.map (·.2))))) :=
  PS.imp (ps_setLc hc hN hy hyl hsw hi.h ok (fun s H C cl fp => (hg s H C cl fp).h) (fun s H C cl fp => (ht s H C cl fp).h) he hs) fun D σ H ⟨H0, th, ds, M, fl, S, h, k⟩ => by
    obtain ⟨⟨x, M1⟩, h1, h⟩ := ob h
    cases h
    -- the new list is data from here on
    obtain ⟨⟨ys, M2⟩, h2, h3⟩ := ob h1
    cases h3
    refine lc_read hv σ H _ (tL.run S h2 fun q vs H1 H1' th1 s1 S1 q1 q2 q3 q4 q5 => ?_)
    have s2 : Stp H0 H th (upd H1 q (.lst vs)) H1' th1 := ⟨s1.ex.trans (Ex.new q2), s1.tt, s1.fr, fun a o h q' z => by
      rw [upd_ne (ne_of_none h q1)]
      exact s1.out a o h q' z⟩
    exact k _ (upd H1 q (.lst vs)) H1' th1 s2 ⟨S1.abs.freeze q4 q2 q3, (S1.sl.mono (Ex.new q2) fun _ _ z => z).set (d := .d (.list ys)) ⟨q, vs, rfl, upd_same, DdAll.mono (Ex.new q2) _ _ q5⟩⟩
end
end Ow
set_option Elab.async false
set_option linter.all false
set_option maxRecDepth 100000
set_option maxHeartbeats 4000000
namespace Ow
open PySem L2

/-! ### objects that change -/
section
variable {K : PySem.W.Frag} {th : List Addr} {H0 H : Hp} {M : Mem} {n : Nat} {a : Addr}
theorem Abs.mut {mo : MO} {o : HO} (A : Abs K th H0 H M) (hn : th[n]? = some a) (q : ObjD K th H0 (upd H a o) a mo) : Abs K th H0 (upd H a o) (M.set n mo) := by
  obtain ⟨h0, _⟩ := A.at_ n a hn
  refine ⟨fun b u z => by rw [upd_ne (ne_of_none z h0)]; exact A.ex b u z, by rw [List.length_set]; exact A.len, A.nd, fun m b hb => ?_⟩
  by_cases e : n = m
  · subst e
    rw [hn] at hb
    cases hb
    refine ⟨h0, mo, List.getElem?_set_self ?_, q⟩
    rw [← A.len]
    exact (List.getElem?_eq_some_iff.mp hn).1
  · obtain ⟨q0, mo', q1, q2⟩ := A.at_ m b hb
    have hab : b ≠ a := fun z => e (nodup_at A.nd hn (by rw [← z]; exact hb))
    exact ⟨q0, mo', by rw [List.getElem?_set_ne e]; exact q1, q2.mono (Ex.refl _) (fun _ _ z => z) fun u z => by rw [upd_ne hab]; exact z⟩
theorem Stp.mut {o : HO} (hn : th[n]? = some a) : Stp H0 H th H0 (upd H a o) th :=
  ⟨Ex.refl _, fun _ _ z => z, fun b u q z => ⟨by rw [upd_ne (fun e => z (by rw [e]; exact List.mem_iff_getElem?.mpr ⟨n, hn⟩))]; exact q, z⟩, fun _ _ _ _ z => z⟩
def ref : DV → Option Nat
  | .r n => some n
  | _ => none
def lstAt (M : Mem) (n : Nat) : Option (List PyData) := match M[n]? with
  | some (.lst xs) => some xs
  | _ => none
def dicAt (M : Mem) (n : Nat) : Option (List (Str × PyData)) := match M[n]? with
  | some (.dic xs) => some xs
  | _ => none
def insAt (x : Str) (M : Mem) (n : Nat) : Option (List (Str × DV)) := match M[n]? with
  | some (.ins y fs) => if y = x then some fs else none
  | _ => none
theorem lstAt_ok {xs : List PyData} (h : lstAt M n = some xs) : M[n]? = some (.lst xs) := by
  unfold lstAt at h
  split at h
  · cases h; assumption
  · cases h
theorem dicAt_ok {xs : List (Str × PyData)} (h : dicAt M n = some xs) : M[n]? = some (.dic xs) := by
  unfold dicAt at h
  split at h
  · cases h; assumption
  · cases h
theorem insAt_ok {x : Str} {xs : List (Str × DV)} (h : insAt x M n = some xs) : M[n]? = some (.ins x xs) := by
  unfold insAt at h
  split at h
  · split at h
    · rename_i e1 e2
      cases h
      subst e2
      exact e1
    · cases h
  · cases h
theorem ref_ok {x : DV} {v : V} (h : ref x = some n) (r : RelD K th H0 x v) : ∃ a, th[n]? = some a ∧ v = .ref a := by
  cases x with
  | r m => cases h; exact r
  | _ => cases h
theorem Abs.lst {xs : List PyData} (A : Abs K th H0 H M) (hn : th[n]? = some a) (h : lstAt M n = some xs) : ∃ vs, H a = some (.lst vs) ∧ DdAll K H0 xs vs := by
  obtain ⟨_, o, h1, h2⟩ := A.at_ n a hn
  rw [lstAt_ok h] at h1
  cases h1
  exact h2
theorem Abs.dic {xs : List (Str × PyData)} (A : Abs K th H0 H M) (hn : th[n]? = some a) (h : dicAt M n = some xs) : ∃ vs, H a = some (.dK vs) ∧ KvsD K H0 xs vs := by
  obtain ⟨_, o, h1, h2⟩ := A.at_ n a hn
  rw [dicAt_ok h] at h1
  cases h1
  exact h2
theorem Abs.ins {x : Str} {xs : List (Str × DV)} (A : Abs K th H0 H M) (hn : th[n]? = some a) (h : insAt x M n = some xs) : ∃ dx vs, H a = some (.ins (He.ga K x) dx vs) ∧ FldD K th H0 xs vs := by
  obtain ⟨_, o, h1, h2⟩ := A.at_ n a hn
  rw [insAt_ok h] at h1
  cases h1
  exact h2
theorem FldD.look {f : Str} {d : DV} : ∀ {fs : List (Str × DV)} {ps : List (Str × V)}, FldD K th H0 fs ps → fs.lookup f = some d → ∃ v, ps.lookup f = some v ∧ RelD K th H0 d v
  | (g, e) :: fs, _, ⟨v, r, e1, r1, r2⟩, h => by
    subst e1
    have h : (match f == g with
      | true => some e
      | false => fs.lookup f) = some d := h
    show ∃ w, (match f == g with
      | true => some v
      | false => r.lookup f) = some w ∧ _
    cases q : f == g with
    | true => rw [q] at h; cases h; exact ⟨v, rfl, r1⟩
    | false => rw [q] at h; exact FldD.look r2 h
  | [], _, _, h => by cases h
theorem FldD.no {f : Str} : ∀ {fs : List (Str × DV)} {ps : List (Str × V)}, FldD K th H0 fs ps → fs.lookup f = none → ps.lookup f = none
  | (g, e) :: fs, _, ⟨v, r, e1, r1, r2⟩, h => by
    subst e1
    have h : (match f == g with
      | true => some e
      | false => fs.lookup f) = none := h
    show (match f == g with
      | true => some v
      | false => r.lookup f) = none
    cases q : f == g with
    | true => rw [q] at h; cases h
    | false => rw [q] at h; exact FldD.no r2 h
  | [], _, h, _ => by rw [show _ = _ from h]; rfl
def putD (f : Str) (d : DV) : List (Str × DV) → List (Str × DV)
  | [] => [(f, d)]
  | (g, x) :: r => if g = f then (g, d) :: r else (g, x) :: putD f d r
theorem FldD.put {f : Str} {d : DV} {v : V} (q : RelD K th H0 d v) : ∀ {fs : List (Str × DV)} {ps : List (Str × V)}, FldD K th H0 fs ps → FldD K th H0 (putD f d fs) (putF f v ps)
  | [], ps, h => by
    have e : ps = [] := h
    subst e
    exact ⟨v, [], rfl, q, rfl⟩
  | (g, e) :: fs, _, ⟨w, r, e1, r1, r2⟩ => by
    subst e1
    show FldD K th H0 (if g = f then (g, d) :: fs else (g, e) :: putD f d fs) (if g = f then (g, v) :: r else (g, w) :: putF f v r)
    by_cases z : g = f
    · rw [if_pos z, if_pos z]; exact ⟨v, r, rfl, q, r2⟩
    · rw [if_neg z, if_neg z]; exact ⟨w, _, rfl, r1, FldD.put q r2⟩
theorem FldD.length : ∀ {fs : List (Str × DV)} {ps : List (Str × V)}, FldD K th H0 fs ps → ps.length = fs.length
  | [], ps, h => by
    have e : ps = [] := h
    rw [e]; rfl
  | (g, e) :: fs, _, ⟨w, r, e1, r1, r2⟩ => by rw [e1, List.length_cons, List.length_cons, FldD.length r2]
def lookK (kvs : List (Str × PyData)) (k : Str) : Option PyData := match kvs with
  | [] => none
  | (g, x) :: r => if g = k then some x else lookK r k
theorem KvsD.look {k : Str} {d : PyData} : ∀ {fs : List (Str × PyData)} {ps : List (Key × V)}, KvsD K H0 fs ps → lookK fs k = some d → ∃ v, valV ps (Sum.inr k) = some v ∧ Dd K H0 d v
  | (g, e) :: fs, _, ⟨v, r, e1, r1, r2⟩, h => by
    subst e1
    have h : (if g = k then some e else lookK fs k) = some d := h
    by_cases z : g = k
    · rw [if_pos z] at h
      cases h
      exact ⟨v, valV_pos (p := (Sum.inr g, v)) (congrArg Sum.inr z), r1⟩
    · rw [if_neg z] at h
      obtain ⟨w, q1, q2⟩ := KvsD.look r2 h
      exact ⟨w, by rw [valV_neg (p := (Sum.inr g, v)) fun y => z (Sum.inr.inj y)]; exact q1, q2⟩
  | [], _, _, h => by cases h
def putKD (kvs : List (Str × PyData)) (k : Str) (d : PyData) : List (Str × PyData) :=
  if (kvs.any fun p => decide (p.1 = k)) = true then kvs.map (fun p => if p.1 = k then (p.1, d) else p) else kvs ++ [(k, d)]
theorem KvsD.any {k : Str} : ∀ {fs : List (Str × PyData)} {ps : List (Key × V)}, KvsD K H0 fs ps → (ps.any fun p => decide (p.1 = Sum.inr k)) = fs.any fun p => decide (p.1 = k)
  | [], ps, h => by
    have e : ps = [] := h
    rw [e]; rfl
  | (g, e) :: fs, _, ⟨v, r, e1, r1, r2⟩ => by
    subst e1
    rw [List.any_cons, List.any_cons, KvsD.any r2]
    congr 1
    show decide ((Sum.inr g : Key) = Sum.inr k) = decide (g = k)
    by_cases z : g = k
    · rw [decide_eq_true z, decide_eq_true (congrArg Sum.inr z)]
    · rw [decide_eq_false z, decide_eq_false fun y => z (Sum.inr.inj y)]
theorem KvsD.map {k : Str} {d : PyData} {v : V} (q : Dd K H0 d v) : ∀ {fs : List (Str × PyData)} {ps : List (Key × V)}, KvsD K H0 fs ps → KvsD K H0 (fs.map fun p => if p.1 = k then (p.1, d) else p) (ps.map fun p => if p.1 = Sum.inr k then (p.1, v) else p)
  | [], ps, h => by
    have e : ps = [] := h
    rw [e]; rfl
  | (g, e) :: fs, _, ⟨w, r, e1, r1, r2⟩ => by
    subst e1
    rw [List.map_cons, List.map_cons]
    by_cases z : g = k
    · rw [if_pos (show (g, e).1 = k from z), if_pos (show ((Sum.inr g, w) : Key × V).1 = Sum.inr k from congrArg Sum.inr z)]
      exact ⟨v, _, rfl, q, KvsD.map q r2⟩
    · rw [if_neg (show ¬ (g, e).1 = k from z), if_neg (show ¬ ((Sum.inr g, w) : Key × V).1 = Sum.inr k from fun y => z (Sum.inr.inj y))]
      exact ⟨w, _, rfl, r1, KvsD.map q r2⟩
theorem KvsD.snoc {k : Str} {d : PyData} {v : V} (q : Dd K H0 d v) : ∀ {fs : List (Str × PyData)} {ps : List (Key × V)}, KvsD K H0 fs ps → KvsD K H0 (fs ++ [(k, d)]) (ps ++ [(Sum.inr k, v)])
  | [], ps, h => by
    have e : ps = [] := h
    subst e
    exact ⟨v, [], rfl, q, rfl⟩
  | (g, e) :: fs, _, ⟨w, r, e1, r1, r2⟩ => ⟨w, _, by rw [e1]; rfl, r1, KvsD.snoc q r2⟩
theorem KvsD.put {k : Str} {d : PyData} {v : V} (q : Dd K H0 d v) {fs : List (Str × PyData)} {ps : List (Key × V)} (h : KvsD K H0 fs ps) : KvsD K H0 (putKD fs k d) (putK ps (Sum.inr k) v) := by
  unfold putKD putK
  rw [h.any]
  split
  · exact KvsD.map q h
  · exact KvsD.snoc q h
theorem KvsD.length : ∀ {fs : List (Str × PyData)} {ps : List (Key × V)}, KvsD K H0 fs ps → ps.length = fs.length
  | [], ps, h => by
    have e : ps = [] := h
    rw [e]; rfl
  | (g, e) :: fs, _, ⟨w, r, e1, r1, r2⟩ => by rw [e1, List.length_cons, List.length_cons, KvsD.length r2]
end

/-! ### attributes -/
def sFld (x f : Str) (fe : SE) : SE := fun ds M => (fe ds M).bind fun r => (ref r.1).bind fun n => (insAt x r.2 n).bind fun fs => (fs.lookup f).bind fun d => some (d, r.2)
def sFldSet (x f : Str) (fo fv : SE) : SS := fun ds M => (fv ds M).bind fun v => (fo ds v.2).bind fun r => (ref r.1).bind fun n => (insAt x r.2 n).bind fun fs => if fs.length < 100 then some (.nx ds (r.2.set n (.ins x (putD f v.1 fs)))) else none
section
variable {X : Cx} {e o a b c : Expr} {pos pos' : Pos} {f g fo fv : SE} {x m : Str}
theorem de_fld {fl : Str} (cl : Cls X.K (He.ga X.K x)) (na : NoAttr X.K (He.ga X.K x) fl) (he : DE X e f) (hb : attributeBase e fl X.env (eval e X.env) = eval e X.env := by rfl) : DE X (.Attribute e fl pos) (sFld x fl f) := PE.imp (pe_fld he hb) fun σ H Q ⟨H0, th, ds, M, z, M', S, h, k⟩ => by
  obtain ⟨⟨r, M1⟩, h1, h⟩ := ob h
  obtain ⟨n, h2, h⟩ := ob h
  obtain ⟨fs, h3, h⟩ := ob h
  obtain ⟨d, h4, h⟩ := ob h
  cases h
  refine tE.run S h1 fun v H1 H1' th1 s1 S1 r1 => ?_
  obtain ⟨a, q1, rfl⟩ := ref_ok h2 r1
  obtain ⟨dx, ps, q2, q3⟩ := S1.abs.ins q1 h3
  obtain ⟨v, q4, q5⟩ := q3.look h4
  exact ⟨a, He.ga X.K x, dx, ps, v, rfl, q2, cl, na, q4, k v H1 H1' th1 s1 S1.abs q5⟩
theorem dst_fld {fl : Str} (cl : Cls X.K (He.ga X.K x)) (na : NoAttr X.K (He.ga X.K x) fl) (ha : DE X o fo) (hv : DE X e fv) (hs : swapsWith e (some (.Attribute o fl pos')) pos.line X.env = pure false := by rfl) : DSt X (.Assign [.Attribute o fl pos'] e pos) (sFldSet x fl fo fv) :=
  PS.imp (ps_fld ha hv hs) fun D σ H ⟨H0, th, ds, M, fl', S, h, k⟩ => by
    obtain ⟨⟨v, M1⟩, h1, h⟩ := ob h
    obtain ⟨⟨r, M2⟩, h2, h⟩ := ob h
    obtain ⟨n, h3, h⟩ := ob h
    obtain ⟨fs, h4, h⟩ := ob h
    refine tE.run S h1 fun u H1 H1' th1 s1 S1 r1 => ?_
    refine tE.run S1 h2 fun w H2 H2' th2 s2 S2 r2 => ?_
    by_cases hl : fs.length < 100
    · have h : (if fs.length < 100 then some (Fl.nx ds (M2.set n (.ins x (putD fl v fs)))) else none) = some fl' := h
      rw [if_pos hl] at h
      cases h
      obtain ⟨a, q1, rfl⟩ := ref_ok h3 r2
      obtain ⟨dx, ps, q2, q3⟩ := S2.abs.ins q1 h4
      refine ⟨a, He.ga X.K x, dx, ps, rfl, q2, cl, na, by rw [q3.length]; omega, ?_⟩
      exact k σ H2 _ th2 ((s1.trans s2).trans (.mut q1)) ⟨S2.abs.mut q1 ⟨dx, _, upd_same, q3.put (r1.step s2)⟩, S2.sl⟩
    · have h : (if fs.length < 100 then some (Fl.nx ds (M2.set n (.ins x (putD fl v fs)))) else none) = some fl' := h
      rw [if_neg hl] at h
      cases h

/-! ### lists by their methods -/
def sApp (fo : SE) (fa : SA) : SE := fun ds M => (fo ds M).bind fun r => (ref r.1).bind fun n => (lstAt r.2 n).bind fun _ => (fa ds r.2).bind fun u => match u.1 with
  | [x] => (asD x).bind fun d => (lstAt u.2 n).bind fun xs => if xs.length < lim then some (.d .none, u.2.set n (.lst (xs ++ [d]))) else none
  | _ => none
theorem de_app {es : List Expr} {fa : SA} {apos cpos : Pos} (ho : DE X o fo) (ha : DA X (e :: es) fa) (hbase : attributeBase o "append" X.env (eval o X.env) = eval o X.env := by rfl)
    (hfew : ((backTo cpos (starEach (e :: es) X.env)).all (fun x => !x.1) && (backToKw cpos (keywordEach [] X.env)).all (fun x => x.1.isSome)
      && decide ((e :: es).length + ([] : List Keyword).length + (if ([] : List Keyword).isEmpty then 0 else 1) < 30)) = true := by rfl)
    (hline : (apos.endLine == cpos.line) = true := by rfl) (hs : starEach (e :: es) X.env = (false, eval e X.env) :: starEach es X.env := by rfl) (hplain : (backTo cpos (starEach es X.env)).any (·.1) = false := by rfl) :
    DE X (.Call (.Attribute o "append" apos) (e :: es) [] cpos) (sApp fo fa) :=
  PE.imp (pe_bm PySem.F.plainAttrs_list PySem.F.slot_list_append PySem.F.type_list_append mt_append ho ha hbase hfew hline hs hplain) fun σ H Q ⟨H0, th, ds, M, z, M', S, h, k⟩ => by
    obtain ⟨⟨r, M1⟩, h1, h⟩ := ob h
    obtain ⟨n, h2, h⟩ := ob h
    obtain ⟨xs0, h3, h⟩ := ob h
    obtain ⟨⟨u, M2⟩, h4, h⟩ := ob h
    cases u with
    | nil => cases h
    | cons x ur =>
      cases ur with
      | cons _ _ => cases h
      | nil =>
        obtain ⟨d, h5, h⟩ := ob h
        obtain ⟨xs, h6, h⟩ := ob h
        have h : (if xs.length < lim then some (DV.d .none, M2.set n (.lst (xs ++ [d]))) else none) = some (z, M') := h
        refine tE.run S h1 fun v H1 H1' th1 s1 S1 r1 => ?_
        obtain ⟨a, q1, rfl⟩ := ref_ok h2 r1
        obtain ⟨vs0, q2, q3⟩ := S1.abs.lst q1 h3
        refine ⟨.inl ⟨rfl, _, SqL.of q2⟩, tA.run S1 h4 fun w H2 H2' th2 s2 S2 r2 => ?_⟩
        have q1' := s2.tt _ _ q1
        obtain ⟨vs, q4, q5⟩ := S2.abs.lst q1' h6
        obtain ⟨y, r', e1, r3, e2⟩ := r2
        have e2 : r' = [] := e2
        subst e2 e1
        by_cases hl : xs.length < lim
        · rw [if_pos hl] at h
          cases h
          refine ⟨a, vs, y, rfl, rfl, q4, by rw [q5.length]; exact lim_lt hl, ?_⟩
          refine k _ H2 _ th2 ((s1.trans s2).trans (.mut q1')) (S2.abs.mut q1' ⟨_, upd_same, q5.append (.one ?_)⟩) rfl
          cases x with
          | d x => cases h5; exact r3
          | _ => cases h5
        · rw [if_neg hl] at h
          cases h
/-- xs.extend(a list just made) -/
def sExt (fo : SE) (fa : SL) : SE := fun ds M => (fo ds M).bind fun r => (ref r.1).bind fun n => (lstAt r.2 n).bind fun _ => (fa ds r.2).bind fun u => (lstAt u.2 n).bind fun xs => if xs.length + u.1.length ≤ lim then some (.d .none, u.2.set n (.lst (xs ++ u.1))) else none
theorem de_ext {fa : SL} {apos cpos : Pos} (ho : DE X o fo) (ha : DL X e fa) (hbase : attributeBase o "extend" X.env (eval o X.env) = eval o X.env := by rfl)
    (hfew : ((backTo cpos (starEach [e] X.env)).all (fun x => !x.1) && (backToKw cpos (keywordEach [] X.env)).all (fun x => x.1.isSome)
      && decide ([e].length + ([] : List Keyword).length + (if ([] : List Keyword).isEmpty then 0 else 1) < 30)) = true := by rfl)
    (hline : (apos.endLine == cpos.line) = true := by rfl) (hs : starEach [e] X.env = (false, eval e X.env) :: starEach [] X.env := by rfl) (hplain : (backTo cpos (starEach [] X.env)).any (·.1) = false := by rfl) :
    DE X (.Call (.Attribute o "extend" apos) [e] [] cpos) (sExt fo fa) :=
  PE.imp (pe_bm PySem.F.plainAttrs_list PySem.F.slot_list_extend PySem.F.type_list_extend mt_extend ho (pa_cons ha pa_nil hs) hbase hfew hline hs hplain) fun σ H Q ⟨H0, th, ds, M, z, M', S, h, k⟩ => by
    obtain ⟨⟨r, M1⟩, h1, h⟩ := ob h
    obtain ⟨n, h2, h⟩ := ob h
    obtain ⟨xs0, h3, h⟩ := ob h
    obtain ⟨⟨u, M2⟩, h4, h⟩ := ob h
    obtain ⟨xs, h6, h⟩ := ob h
    have h : (if xs.length + u.length ≤ lim then some (DV.d .none, M2.set n (.lst (xs ++ u))) else none) = some (z, M') := h
    refine tE.run S h1 fun v H1 H1' th1 s1 S1 r1 => ?_
    obtain ⟨a, q1, rfl⟩ := ref_ok h2 r1
    obtain ⟨vs0, q2, q3⟩ := S1.abs.lst q1 h3
    refine ⟨.inl ⟨rfl, _, SqL.of q2⟩, tL.run S1 h4 fun p ws H2 H2' th2 s2 S2 p1 p2 p3 p4 p5 => ?_⟩
    have q1' := s2.tt _ _ q1
    obtain ⟨vs, q4, q5⟩ := S2.abs.lst q1' h6
    by_cases hl : xs.length + u.length ≤ lim
    · rw [if_pos hl] at h
      cases h
      refine ⟨a, p, vs, ws, rfl, rfl, q4, p4, by rw [q5.length, p5.length]; exact lim_line hl, ?_⟩
      exact k _ H2 _ th2 ((s1.trans s2).trans (.mut q1')) (S2.abs.mut q1' ⟨_, upd_same, q5.append p5⟩) rfl
    · rw [if_neg hl] at h
      cases h
/-- xs[i] = e -/
def sLSet (fo fi fv : SE) : SS := fun ds M => (fv ds M).bind fun v => (asD v.1).bind fun d => (fo ds v.2).bind fun r => (ref r.1).bind fun n => (fi ds r.2).bind fun i => match i.1 with
  | .d (.int j) => (lstAt i.2 n).bind fun xs => (ixN xs.length j).bind fun m => some (.nx ds (i.2.set n (.lst (xs.set m d))))
  | _ => none
theorem dst_lset {fi : SE} {tpos : Pos} (ho : DE X o fo) (hi : DE X a fi) (hv : DE X e fv) (hs : swapsWithSole [.Subscript o a tpos] e pos.line X.env = pure false := by rfl) (hw : swappedStores [.Subscript o a tpos] e X.env = pure none := by rfl)
    (h1 : (assignEach [.Subscript o a tpos] X.env).map (·.2) = [assign (.Subscript o a tpos) X.env] := by rfl)
    (ha : ∀ v, assign (.Subscript o a tpos) X.env v = (do
      let ov ← holding [v] (eval o X.env)
      let iv ← holding [v, ov] (eval a X.env)
      standAt tpos
      holding [v, ov, iv] (setItem ov iv v)
      release [v, ov, iv] []) := by intro _; rfl) : DSt X (.Assign [.Subscript o a tpos] e pos) (sLSet fo fi fv) :=
  PS.imp (ps_asg hv (pg_sub ho hi set_list ha) hs hw h1) fun D σ H ⟨H0, th, ds, M, fl, S, h, k⟩ => by
    obtain ⟨⟨v, M1⟩, h1, h⟩ := ob h
    obtain ⟨d, h2, h⟩ := ob h
    obtain ⟨⟨r, M2⟩, h3, h⟩ := ob h
    obtain ⟨n, h4, h⟩ := ob h
    obtain ⟨⟨i, M3⟩, h5, h⟩ := ob h
    refine tE.run S h1 fun u1 H1 H1' th1 s1 S1 r1 => ?_
    refine tE.run S1 h3 fun u2 H2 H2' th2 s2 S2 r2 => ?_
    refine tE.run S2 h5 fun u3 H3 H3' th3 s3 S3 r3 => ?_
    cases i with
    | d i =>
      cases i with
      | int j =>
        obtain ⟨xs, h6, h⟩ := ob h
        obtain ⟨m, h7, h⟩ := ob h
        cases h
        obtain ⟨a, q1, rfl⟩ := ref_ok h4 r2
        have q1' := s3.tt _ _ q1
        obtain ⟨vs, q4, q5⟩ := S3.abs.lst q1' h6
        refine ⟨a, vs, j, m, rfl, r3, q4, by rw [q5.length]; exact h7, ?_⟩
        refine k σ H3 _ th3 (((s1.trans s2).trans s3).trans (.mut q1')) ⟨S3.abs.mut q1' ⟨_, upd_same, q5.set m ?_⟩, S3.sl⟩
        cases v with
        | d x => cases h2; exact Dd.mono (s2.ex.trans s3.ex) _ _ r1
        | _ => cases h2
      | _ => cases h
    | _ => cases h
/-- the item of a list, by values -/
def rGet (K : PySem.W.Frag) : V → V → Hp → VK → Prop := fun o i H Q => ∃ p xs k j y, o = .ref p ∧ i = .int k ∧ SqL K H p xs ∧ ixN xs.length k = some j ∧ xs[j]? = some y ∧ Q y H
theorem pg_list : PGet X (rGet X.K) := fun pins s σ H o i ov iv Q I ro ri ⟨p, xs, k, j, y, e1, e2, hq, hj, hy, q⟩ => by
  subst e1 e2
  cases ro
  obtain ⟨t, rfl⟩ := ri
  obtain ⟨its, r, pl, hz⟩ := I.list hq
  obtain ⟨w, ew, rw'⟩ := r.get hy
  have hl := r.length
  have hn := line63
  have hs : its.toArray.size = xs.length := by rw [List.size_toArray, hl]
  have fin : EP X pins σ Q w s := ⟨y, H, I, rw', q⟩
  unfold ixN at hj
  by_cases h0 : 0 ≤ k
  · rw [if_pos h0] at hj
    by_cases h1 : k < (xs.length : Int)
    · rw [if_pos h1] at hj
      cases hj
      exact wpAny_getItem_list pl.isList h0 (by omega) (by simpa using ew) fin
    · rw [if_neg h1] at hj; cases hj
  · rw [if_neg h0] at hj
    by_cases h1 : -(xs.length : Int) ≤ k
    · rw [if_pos h1] at hj
      cases hj
      exact wpAny_getItem_list_neg pl.isList (by omega) (by rw [hs]; exact h1) (by omega) (by rw [hs]; simpa using ew) fin
    · rw [if_neg h1] at hj; cases hj
/-- xs[i] op= e -/
def sLAug (o : PyData → PyData → Option PyData) (fo fi fv : SE) : SS := fun ds M => (fo ds M).bind fun r => (ref r.1).bind fun n => (fi ds r.2).bind fun i => match i.1 with
  | .d (.int j) => (lstAt i.2 n).bind fun xs => (ixN xs.length j).bind fun m => (xs[m]?).bind fun x => (fv ds i.2).bind fun y => (view y.2 y.1).bind fun dy => (o x dy).bind fun z => (lstAt y.2 n).bind fun ys => (ixN ys.length j).bind fun m' =>
      some (.nx ds (y.2.set n (.lst (ys.set m' z))))
  | _ => none
theorem dst_laug {fi : SE} {tpos : Pos} {op : Operator} {ti : TIp} {opd : PyData → PyData → Option PyData} (hp : PIp X op ti) (hd : OpP X.K ti opd) (ho : DE X o fo) (hi : DE X a fi) (hv : DE X e fv)
    (ha : ∀ ov iv new, augStore a ov iv new = (do holding [new, ov, iv] (setItem ov iv new); release [new, ov, iv] []; pure .next) := by intros; rfl) : DSt X (.AugAssign (.Subscript o a tpos) op e pos) (sLAug opd fo fi fv) :=
  PS.imp (ps_augS ho hi pg_list hv hp set_list ha) fun D σ H ⟨H0, th, ds, M, fl, S, h, k⟩ => by
    obtain ⟨⟨r, M1⟩, h1, h⟩ := ob h
    obtain ⟨n, h2, h⟩ := ob h
    obtain ⟨⟨i, M2⟩, h3, h⟩ := ob h
    refine tE.run S h1 fun u1 H1 H1' th1 s1 S1 r1 => ?_
    refine tE.run S1 h3 fun u2 H2 H2' th2 s2 S2 r2 => ?_
    cases i with
    | d i =>
      cases i with
      | int j =>
        obtain ⟨xs, h4, h⟩ := ob h
        obtain ⟨m, h5, h⟩ := ob h
        obtain ⟨x, h6, h⟩ := ob h
        obtain ⟨⟨y, M3⟩, h7, h⟩ := ob h
        obtain ⟨dy, h8, h⟩ := ob h
        obtain ⟨z, h9, h⟩ := ob h
        obtain ⟨ys, h10, h⟩ := ob h
        obtain ⟨m', h11, h⟩ := ob h
        cases h
        obtain ⟨a, q1, rfl⟩ := ref_ok h2 r1
        have q1' := s2.tt _ _ q1
        obtain ⟨vs, q2, q3⟩ := S2.abs.lst q1' h4
        obtain ⟨w, q4, q5⟩ := q3.get h6
        refine ⟨a, vs, j, m, w, rfl, r2, SqL.of q2, by rw [q3.length]; exact h5, q4, ?_⟩
        refine tE.run S2 h7 fun u3 H3 H3' th3 s3 S3 r3 => ?_
        refine hd S3.abs.ex (Dq.of S3.abs.ex (Dd.mono s3.ex _ _ q5)) (S3.abs.view r3 h8) h9 fun u4 H4 H4' g q6 => ?_
        have A4 := g.abs S3.abs
        have q1'' := s3.tt _ _ q1'
        obtain ⟨ws, q7, q8⟩ := A4.lst q1'' h10
        refine ⟨a, ws, j, m', rfl, r2, q7, by rw [q8.length]; exact h11, ?_⟩
        exact k σ H4 _ th3 ((((s1.trans s2).trans s3).trans g.stp).trans (.mut q1'')) ⟨A4.mut q1'' ⟨_, upd_same, q8.set m' q6⟩, S3.sl.mono g.ex fun _ _ z => z⟩
      | _ => cases h
    | _ => cases h

/-! ### dicts with written keys -/
def sDGet (k : Str) (fo : SE) : SE := fun ds M => (fo ds M).bind fun r => (ref r.1).bind fun n => (dicAt r.2 n).bind fun kvs => (lookK kvs k).bind fun d => some (.d d, r.2)
theorem de_dget {k : Str} {j : Nat} {ip : Pos} (hu : X.A.units + 1 < cLine) (ho : DE X o fo) (hs : NoSl (.Constant (.str k) j ip) := by intro _ _; rfl) : DE X (.Subscript o (.Constant (.str k) j ip) pos) (sDGet k fo) :=
  PE.imp (pe_dget hu ho pe_str hs) fun σ H Q ⟨H0, th, ds, M, z, M', S, h, kk⟩ => by
    obtain ⟨⟨r, M1⟩, h1, h⟩ := ob h
    obtain ⟨n, h2, h⟩ := ob h
    obtain ⟨kvs, h3, h⟩ := ob h
    obtain ⟨d, h4, h⟩ := ob h
    cases h
    refine tE.run S h1 fun v H1 H1' th1 s1 S1 r1 => ?_
    obtain ⟨a, q1, rfl⟩ := ref_ok h2 r1
    obtain ⟨ps, q2, q3⟩ := S1.abs.dic q1 h3
    obtain ⟨v, q4, q5⟩ := q3.look h4
    exact ⟨a, v, rfl, (by rw [← q4]; exact DGet.k (k := Sum.inr k) q2), kk v H1 H1' th1 s1 S1.abs q5⟩
def sDSet (k : Str) (fo fv : SE) : SS := fun ds M => (fv ds M).bind fun v => (asD v.1).bind fun d => (fo ds v.2).bind fun r => (ref r.1).bind fun n => (dicAt r.2 n).bind fun kvs => if kvs.length < 100 then some (.nx ds (r.2.set n (.dic (putKD kvs k d)))) else none
theorem dst_dset {k : Str} {j : Nat} {ip : Pos} (hu : X.A.units + 1 < cLine) (ho : DE X o fo) (hv : DE X e fv) (hs : swapsWith e (some (.Subscript o (.Constant (.str k) j ip) pos')) pos.line X.env = pure false := by rfl) : DSt X (.Assign [.Subscript o (.Constant (.str k) j ip) pos'] e pos) (sDSet k fo fv) :=
  PS.imp (ps_dput hu ho pe_str hv hs) fun D σ H ⟨H0, th, ds, M, fl, S, h, kk⟩ => by
    obtain ⟨⟨v, M1⟩, h1, h⟩ := ob h
    obtain ⟨d, h2, h⟩ := ob h
    obtain ⟨⟨r, M2⟩, h3, h⟩ := ob h
    obtain ⟨n, h4, h⟩ := ob h
    obtain ⟨kvs, h5, h⟩ := ob h
    have h : (if kvs.length < 100 then some (Fl.nx ds (M2.set n (.dic (putKD kvs k d)))) else none) = some fl := h
    by_cases hl : kvs.length < 100
    · rw [if_pos hl] at h
      cases h
      refine tE.run S h1 fun u1 H1 H1' th1 s1 S1 r1 => ?_
      refine tE.run S1 h3 fun u2 H2 H2' th2 s2 S2 r2 => ?_
      obtain ⟨a, q1, rfl⟩ := ref_ok h4 r2
      obtain ⟨ps, q2, q3⟩ := S2.abs.dic q1 h5
      refine ⟨a, _, rfl, DPut.k (k := Sum.inr k) q2 (by rw [q3.length]; exact Nat.lt_of_lt_of_le hl (by decide)), ?_⟩
      refine kk σ H2 _ th2 ((s1.trans s2).trans (.mut q1)) ⟨S2.abs.mut q1 ⟨_, upd_same, q3.put ?_⟩, S2.sl⟩
      cases v with
      | d x => cases h2; exact Dd.mono s2.ex _ _ r1
      | _ => cases h2
    · rw [if_neg hl] at h; cases h
/-- a display with written keys -/
def sPairs : List (Str × SE) → DS → Mem → Option (List (Str × PyData) × Mem)
  | [], _, M => some ([], M)
  | (k, f) :: r, ds, M => (f ds M).bind fun x => (asD x.1).bind fun d => (sPairs r ds x.2).bind fun y => some ((k, d) :: y.1, y.2)
def sDict (l : List (Str × SE)) : SE := fun ds M => (sPairs l ds M).bind fun x => some (.r x.2.length, x.2 ++ [.dic (x.1.foldl (fun acc p => putKD acc p.1 p.2) [])])
structure DPs (X : Cx) (pos : Pos) (keys : List (Option Expr)) (values : List Expr) (l : List (Str × SE)) : Prop where
  h : PPs X pos keys values (l.map fun p => (tC (.str p.1), tE X.K p.2))
theorem dps_nil : DPs X pos [] [] [] := ⟨pps_nil⟩
theorem dps_cons {k : Str} {j : Nat} {ip : Pos} {ks : List (Option Expr)} {vs : List Expr} {l : List (Str × SE)} (h : DE X e f) (hr : DPs X pos ks vs l) : DPs X pos (some (.Constant (.str k) j ip) :: ks) (e :: vs) ((k, f) :: l) := ⟨pps_cons pe_str h hr.h⟩
theorem pairs_read {K : PySem.W.Frag} {σ : St} {ds : DS} : ∀ {l : List (Str × SE)} {H0 H : Hp} {th : List Addr} {M M' : Mem} {xs : List (Str × PyData)} {Q : List (V × V) → Hp → Prop}, Sta K σ ds H0 H th M → sPairs l ds M = some (xs, M') →
    (∀ (kvs : List (Key × V)) H0' H' th', Stp H0 H th H0' H' th' → Sta K σ ds H0' H' th' M' → KvsD K H0' xs kvs → kvs.length = l.length → Q (kvs.map fun kv => (kV kv.1, kv.2)) H') → tPairs (l.map fun p => (tC (.str p.1), tE K p.2)) σ H Q
  | [], H0, H, th, M, M', xs, Q, S, h, k => by
    cases h
    exact k [] H0 H th .refl S rfl rfl
  | (key, f) :: l, H0, H, th, M, M', xs, Q, S, h, k => by
    obtain ⟨⟨x, M1⟩, h1, h⟩ := ob h
    obtain ⟨d, h2, h⟩ := ob h
    obtain ⟨⟨ys, M2⟩, h3, h⟩ := ob h
    cases h
    refine tE.run S h1 fun v H1 H1' th1 s1 S1 r1 => ?_
    refine pairs_read S1 h3 fun kvs H2 H2' th2 s2 S2 r2 hl => ?_
    refine k ((Sum.inr key, v) :: kvs) H2 H2' th2 (s1.trans s2) S2 ⟨v, kvs, rfl, ?_, r2⟩ (by rw [List.length_cons, List.length_cons, hl])
    cases x with
    | d x => cases h2; exact Dd.mono s2.ex _ _ r1
    | _ => cases h2
theorem KvsD.merge {K : PySem.W.Frag} {H0 : Hp} : ∀ {xs acc : List (Str × PyData)} {kvs ps : List (Key × V)}, KvsD K H0 xs kvs → KvsD K H0 acc ps → KvsD K H0 (xs.foldl (fun acc p => putKD acc p.1 p.2) acc) (mergeK ps kvs)
  | [], acc, kvs, ps, h, q => by
    have e : kvs = [] := h
    rw [e]; exact q
  | (k, d) :: xs, acc, kvs, ps, ⟨v, r, e, r1, r2⟩, q => by
    rw [e]
    show KvsD K H0 (xs.foldl (fun acc p => putKD acc p.1 p.2) (putKD acc k d)) (mergeK (putK ps (Sum.inr k) v) r)
    exact KvsD.merge r2 (q.put r1)
theorem de_dict {keys : List (Option Expr)} {values : List Expr} {l : List (Str × SE)} (h : DPs X pos keys values l) (hz : l.length ≤ 15 := by decide) (hall : keys.all (·.isSome) = true := by rfl) (hl : keys.length = values.length := by rfl) (h0 : keys ≠ [] := by exact fun z => nomatch z)
    (h15 : keys.length ≤ 15 := by decide) : DE X (.Dict keys values pos) (sDict l) :=
  PE.imp (pe_disp h.h hall hl h0 h15) fun σ H Q ⟨H0, th, ds, M, z, M', S, h, k⟩ => by
    obtain ⟨⟨xs, M1⟩, h1, h⟩ := ob h
    cases h
    intro p hp
    have e0 := S.abs.ex.free hp
    have en := S.abs.notin hp
    refine pairs_read ⟨S.abs.priv e0 en, S.sl⟩ h1 fun kvs H1 H1' th1 s1 S1 r1 hlen => ?_
    obtain ⟨f1, f2⟩ := s1.fr p _ upd_same en
    have f3 := s1.out p _ upd_same en e0
    refine ⟨f1, kvs, rfl, by omega, ?_⟩
    have A2 : Abs X.K th1 H1 (upd H1' p (.dK (mergeK [] kvs))) M1 := S1.abs.priv f3 f2
    have el : th1.length = M1.length := S1.abs.len
    refine k _ H1 _ (th1 ++ [p]) ⟨s1.ex, fun n a q => ?_, fun a o q q' => ?_, fun a o q q' z => ?_⟩ (A2.alloc f3 f2 ⟨_, upd_same, r1.merge rfl⟩) ⟨p, ?_, rfl⟩
    · have := s1.tt n a q
      rw [List.getElem?_append_left (List.getElem?_eq_some_iff.mp this).1]; exact this
    · have ha : a ≠ p := ne_of_none q hp
      obtain ⟨g1, g2⟩ := s1.fr a o (by rw [upd_ne ha]; exact q) q'
      exact ⟨by rw [upd_ne ha]; exact g1, fun z => (List.mem_append.mp z).elim g2 fun y => ha (by simpa using y)⟩
    · have ha : a ≠ p := ne_of_none q hp
      exact s1.out a o (by rw [upd_ne ha]; exact q) q' z
    · rw [List.getElem?_append_right (by rw [el]; exact Nat.le_refl _), el, Nat.sub_self]
      rfl
end
end Ow
set_option Elab.async false
set_option linter.all false
set_option maxRecDepth 100000
set_option maxHeartbeats 4000000
namespace Ow
open PySem L2

/-! ### defs -/
def spD (K : PySem.W.Frag) (F : DF) : Sp := fun vs H Q _ => ∃ H0 th M dvs r M', Abs K th H0 H M ∧ RelDs K th H0 dvs vs ∧ F dvs M = some (r, M') ∧
  ∀ v H0' H' th', Stp H0 H th H0' H' th' → Abs K th' H0' H' M' → RelD K th' H0' r v → Q v H'
def fnD (n m : Nat) (g : SS) : DF := fun dvs M => if dvs.length = n then (g (dvs.map some ++ List.replicate (m - n) none) M).bind fun fl => match fl with
  | .rt r M' => some (r, M')
  | .nx _ M' => some (.d .none, M')
  | .ct _ _ => none else none
structure Fd (P : Program) (w : World) (K : PySem.W.Frag) (mg : Str → Option Value) (base : Heap) (k : Nat) (x : Str) (F : DF) : Prop where
  mgx : mg x = some (.ref (He.ga K x))
  kp : PySem.W.keepIn K (.ref (He.ga K x)) = true
  ex : ∃ fd ps, Binds K fd ps [] ∧ FnOk P w K mg base CX0 k (He.ga K x) fd ps (spD K F)
structure Md (P : Program) (w : World) (K : PySem.W.Frag) (mg : Str → Option Value) (base : Heap) (k : Nat) (x m : Str) (F : DF) : Prop where
  me : Meth K (He.ga K x) m (He.ma K (He.ga K x) m)
  ex : ∃ fd ps, Binds K fd ps [] ∧ FnOk P w K mg base CX0 k (He.ma K (He.ga K x) m) fd ps (spD K F)
theorem start_slots {K : PySem.W.Frag} {th : List Addr} {H0 : Hp} {N : List Str} {dvs : List DV} {vs : List V} (r : RelDs K th H0 dvs vs) : Slots K th H0 (L2.start N vs) (dvs.map some ++ List.replicate (N.length - dvs.length) none) := by
  have hl : vs.length = dvs.length := r.length
  refine ⟨by unfold L2.start; simp [hl], fun i d h => ?_⟩
  rcases Nat.lt_or_ge i dvs.length with q | q
  · rw [List.getElem?_append_left (by rw [List.length_map]; exact q), List.getElem?_map] at h
    have : dvs[i]? = some d := by
      cases e : dvs[i]? with
      | none => rw [e] at h; cases h
      | some z => rw [e] at h; cases h; rfl
    have look : ∀ {ds : List DV} {vs : List V} {i : Nat} {d : DV}, RelDs K th H0 ds vs → ds[i]? = some d → ∃ v, vs[i]? = some v ∧ RelD K th H0 d v := by
      intro ds
      induction ds with
      | nil => intro vs i d _ z; simp at z
      | cons e es ih =>
        intro vs i d ⟨v, w, e1, r1, r2⟩ z
        subst e1
        cases i with
        | zero => simp at z; subst z; exact ⟨v, rfl, r1⟩
        | succ i =>
          obtain ⟨u, q1, q2⟩ := ih r2 (by simpa using z)
          exact ⟨u, by simpa using q1, q2⟩
    obtain ⟨v, q1, q2⟩ := look r this
    refine ⟨v, ?_, q2⟩
    unfold L2.start
    rw [List.getElem?_append_left (by rw [List.length_map, hl]; exact q), List.getElem?_map, q1]
    rfl
  · rw [List.getElem?_append_right (by rw [List.length_map]; exact q), List.getElem?_replicate] at h
    split at h <;> cases h
section
variable {P : Program} {w : World} {K : PySem.W.Frag} {mg : Str → Option Value} {base : Heap} {x qual : Str} {params : Arguments} {body : List Stmt} {scope : Scope} {f : Addr} {fd : FuncData}
theorem fn_body {N ps : List Str} {k : Nat} {g : SS} (F : FunD K x qual params body scope [] [] f fd) (S : FnScope N ps scope)
    (h : ∀ (cdv : Value) (A : Around) (outer : List Env) (s : Shared) (H : Hp) (E : XK), Room k (A.deeper (PyProof.Rows.envOfC qual scope s.heap.objs.size f cdv)) → DSs (cxOf CX0 P w K mg base N qual scope f cdv A outer s H E).nox body g) :
    FnOk P w K mg base CX0 (k + 1) f fd ps (spD K (fnD ps.length N.length g)) := by
  refine F.ok S (fun vs H Q E hs => ?_) (fun cdv A outer s H vs Q E hr hs => ?_)
  · obtain ⟨H0, th, M, dvs, r, M', A, rd, e, _⟩ := hs
    unfold fnD at e
    split at e
    · rename_i hl
      rw [rd.length, hl]
    · cases e
  · obtain ⟨H0, th, M, dvs, r, M', Ab, rd, e, k2⟩ := hs
    refine ⟨_, PSs.nox (h cdv A outer s H E hr), ?_⟩
    unfold fnD at e
    split at e
    · rename_i hl
      obtain ⟨fl, h1, h2⟩ := ob e
      refine ⟨H0, th, _, M, fl, ⟨Ab, start_slots rd⟩, by rw [hl]; exact h1, ?_⟩
      cases fl with
      | nx ds M2 =>
        cases h2
        exact fun σ' H1 H1' th1 s1 S1 => k2 .non H1 H1' th1 s1 S1.abs rfl
      | ct ds M2 => cases h2
      | rt r2 M2 =>
        cases h2
        exact fun v H1 H1' th1 s1 A1 r1 => k2 v H1 H1' th1 s1 A1 r1
    · cases e
theorem spD_mono {F F' : DF} (h : ∀ vs M r, F' vs M = some r → F vs M = some r) {k : Nat} {ps : List Str} (o : FnOk P w K mg base CX0 k f fd ps (spD K F)) : FnOk P w K mg base CX0 k f fd ps (spD K F') :=
  o.imp fun vs H Q E ⟨H0, th, M, dvs, r, M', A, rd, e, k2⟩ => ⟨H0, th, M, dvs, r, M', A, rd, h _ _ _ e, k2⟩
end

/-! ### calls -/
def noRef : DV → Bool
  | .r _ => false
  | _ => true
theorem noRef_any {K : PySem.W.Frag} {th th' : List Addr} {H0 : Hp} {d : DV} {v : V} (h : noRef d = true) (r : RelD K th H0 d v) : RelD K th' H0 d v := by
  cases d with
  | r n => cases h
  | _ => exact r
theorem noRefs_any {K : PySem.W.Frag} {th th' : List Addr} {H0 : Hp} : ∀ {ds : List DV} {vs : List V}, ds.all noRef = true → RelDs K th H0 ds vs → RelDs K th' H0 ds vs
  | [], _, _, r => r
  | d :: ds, _, h, ⟨v, w, e, r1, r2⟩ => by
    rw [List.all_cons, Bool.and_eq_true] at h
    exact ⟨v, w, e, noRef_any h.1 r1, noRefs_any h.2 r2⟩
/-- a def that makes its answer out of data alone -/
def pf (F : DF) (vs : List DV) : Option PyData := if vs.all noRef = true then (F vs []).bind fun r => view r.2 r.1 else none
def flat : MO → Bool
  | .ins _ _ => false
  | _ => true
def sCall (F : DF) (fa : SA) : SE := fun ds M => (fa ds M).bind fun x => F x.1 x.2
def sPure (F : DF) (fa : SA) : SE := fun ds M => (fa ds M).bind fun x => (pf F x.1).bind fun z => some (.d z, x.2)
/-- a def that changes its first argument alone -/
def one (F : DF) (vs : List DV) (M : Mem) : Option (PyData × Mem) := match vs with
  | .r n :: rest => if rest.all noRef = true then (M[n]?).bind fun o => if flat o = true then (F (.r 0 :: rest) [o]).bind fun r => (asD r.1).bind fun z => (r.2[0]?).bind fun o' => if flat o' = true then some (z, M.set n o') else none else none else none
  | _ => none
def sOne (F : DF) (fa : SA) : SE := fun ds M => (fa ds M).bind fun x => (one F x.1 x.2).bind fun z => some (.d z.1, z.2)
section
variable {K : PySem.W.Frag} {th : List Addr} {H0 H : Hp} {M : Mem}
theorem Abs.none (A : Abs K th H0 H M) : Abs K [] H0 H [] := ⟨A.ex, rfl, List.nodup_nil, fun n a z => by simp at z⟩
theorem pf_sp {F : DF} {vs : List V} {dvs : List DV} {z : PyData} {Q : VK} {E : XK} (A : Abs K th H0 H M) (rd : RelDs K th H0 dvs vs) (h : pf F dvs = some z) (k : ∀ v H0' H', Stp H0 H th H0' H' th → Abs K th H0' H' M → Dd K H0' z v → Q v H') : spD K F vs H Q E := by
  unfold pf at h
  split at h
  · rename_i hn
    obtain ⟨⟨r, M'⟩, h1, h2⟩ := ob h
    refine ⟨H0, [], [], dvs, r, M', A.none, noRefs_any hn rd, h1, fun v H1 H1' th1 s1 A1 r1 => ?_⟩
    have f1 : ∀ a o, H a = some o → H1' a = some o ∧ a ∉ th1 := fun a o q => s1.fr a o q (by simp)
    have f2 : ∀ a o, H a = some o → H0 a = none → H1 a = none := fun a o q => s1.out a o q (by simp)
    have keep : ∀ {G : Hp}, Ex H1 G → Ex G H1' → (∀ a o, H a = some o → H0 a = none → G a = none) → Stp H0 H th G H1' th ∧ Abs K th G H1' M := fun {G} e1 e2 e3 => by
      refine ⟨⟨s1.ex.trans e1, fun _ _ q => q, fun a o q q' => ⟨(f1 a o q).1, q'⟩, fun a o q _ q2 => e3 a o q q2⟩, ⟨e2, A.len, A.nd, fun n a q => ?_⟩⟩
      obtain ⟨q0, mo, q1, q2⟩ := A.at_ n a q
      obtain ⟨u, hu⟩ := q2.some
      exact ⟨e3 a u hu q0, mo, q1, q2.mono (s1.ex.trans e1) (fun _ _ z => z) fun o z => (f1 a o z).1⟩
    cases r with
    | d x =>
      cases h2
      obtain ⟨k1, k2⟩ := keep (Ex.refl _) A1.ex f2
      exact k v H1 H1' k1 k2 r1
    | r n =>
      obtain ⟨a, q1, q2⟩ := r1
      obtain ⟨q0, mo, q3, q4⟩ := A1.at_ n a q1
      have h2 : (match M'[n]? with
        | some (.lst xs) => some (PyData.list xs)
        | _ => none) = some z := h2
      rw [q3] at h2
      cases mo with
      | lst xs =>
        cases h2
        obtain ⟨us, q5, q6⟩ := q4
        obtain ⟨k1, k2⟩ := keep (G := upd H1 a (.lst us)) (Ex.new q0) (fun b u q => by
          by_cases hb : b = a
          · subst hb; rw [upd_same] at q; cases q; exact q5
          · rw [upd_ne hb] at q; exact A1.ex b u q) fun b u q q' => by
            have hb : b ≠ a := fun e => (f1 b u q).2 (by rw [e]; exact List.mem_iff_getElem?.mpr ⟨n, q1⟩)
            rw [upd_ne hb]
            exact f2 b u q q'
        exact k v _ H1' k1 k2 ⟨a, us, q2, upd_same, DdAll.mono (Ex.new q0) _ _ q6⟩
      | dic _ => cases h2
      | ins _ _ => cases h2
    | a x => cases h2
    | s x => cases h2
  · cases h
theorem ObjD.flat {th' : List Addr} {a : Addr} {o : MO} (hf : Ow.flat o = true) (h : ObjD K th H0 H a o) : ObjD K th' H0 H a o := by
  cases o with
  | ins _ _ => cases hf
  | _ => exact h
theorem one_sp {F : DF} {vs : List V} {dvs : List DV} {z : PyData} {M' : Mem} {Q : VK} {E : XK} (A : Abs K th H0 H M) (rd : RelDs K th H0 dvs vs) (h : one F dvs M = some (z, M')) (k : ∀ v H0' H', Stp H0 H th H0' H' th → Abs K th H0' H' M' → Dd K H0' z v → Q v H') : spD K F vs H Q E := by
  unfold one at h
  split at h
  · rename_i n rest
    split at h
    · rename_i hn
      obtain ⟨o, h1, h⟩ := ob h
      split at h
      · rename_i hf
        obtain ⟨⟨r, M2⟩, h2, h⟩ := ob h
        obtain ⟨y, h3, h⟩ := ob h
        obtain ⟨o', h4, h⟩ := ob h
        split at h
        · rename_i hf'
          cases h
          obtain ⟨v0, vr, e1, ⟨a, q1, q2⟩, r2⟩ := rd
          obtain ⟨q0, mo, q3, q4⟩ := A.at_ n a q1
          rw [h1] at q3
          cases q3
          have A1 : Abs K [a] H0 H [o] := ⟨A.ex, rfl, by simp, fun m b hb => by
            cases m with
            | zero => simp at hb; subst hb; exact ⟨q0, o, rfl, q4.flat hf⟩
            | succ m => simp at hb⟩
          refine ⟨H0, [a], [o], .r 0 :: rest, r, M2, A1, ⟨v0, vr, e1, ⟨a, rfl, q2⟩, noRefs_any hn r2⟩, h2, fun v H1 H1' th1 s1 A2 r1 => ?_⟩
          have t0 : th1[0]? = some a := s1.tt 0 a rfl
          obtain ⟨p0, mo', p1, p2⟩ := A2.at_ 0 a t0
          rw [h4] at p1
          cases p1
          have f1 : ∀ b u, H b = some u → b ≠ a → H1' b = some u ∧ b ∉ th1 := fun b u q hb => s1.fr b u q (by simpa using hb)
          refine k v H1 H1' ⟨s1.ex, fun _ _ q => q, fun b u q q' => ⟨(f1 b u q fun e => q' (by rw [e]; exact List.mem_iff_getElem?.mpr ⟨n, q1⟩)).1, q'⟩, fun b u q q' z => s1.out b u q (by
            intro hb
            have hb : b = a := by simpa using hb
            exact q' (by rw [hb]; exact List.mem_iff_getElem?.mpr ⟨n, q1⟩)) z⟩ ⟨A2.ex, by rw [List.length_set]; exact A.len, A.nd, fun m b hb => ?_⟩ ?_
          · by_cases e : n = m
            · subst e
              rw [q1] at hb
              cases hb
              refine ⟨p0, o', List.getElem?_set_self ?_, p2.flat hf'⟩
              exact (List.getElem?_eq_some_iff.mp h1).1
            · obtain ⟨z0, mo, z1, z2⟩ := A.at_ m b hb
              have hab : b ≠ a := fun z => e (nodup_at A.nd q1 (by rw [← z]; exact hb))
              obtain ⟨u, hu⟩ := z2.some
              refine ⟨s1.out b u hu (by simpa using hab) z0, mo, by rw [List.getElem?_set_ne e]; exact z1, z2.mono s1.ex (fun _ _ z => z) fun o z => (f1 b o z hab).1⟩
          · cases r with
            | d x => cases h3; exact r1
            | _ => cases h3
        · cases h
      · cases h
    · cases h
  · cases h
end
section
variable {X : Cx} {e o a b c : Expr} {es : List Expr} {pos p apos : Pos} {f g fo : SE} {x m : Str} {fa : SA} {k : Nat} {F : DF}
theorem call_gen {t : SE} (D : Fd X.prog X.w X.K X.mg X.base k x F) (hr : Room k X.A) (hg : Gl X x) (ha : DA X (e :: es) fa) (ht : ∀ σ H Q, tE X.K t σ H Q → tCall (spD X.K F) [] E0 (tA X.K fa) σ H Q) (hdb : (x == ("__debug__" : Str)) = false)
    (he : starEach (e :: es) X.env = (false, eval e X.env) :: starEach es X.env) (hpl : (backTo pos (starEach es X.env)).any (·.1) = false) : DE X (.Call (.Name x p) (e :: es) [] pos) t := by
  obtain ⟨fd, ps, hb, ho⟩ := D.ex
  exact PE.imp (pe_call ho hr hg D.mgx D.kp hb .nil pass0 ha hdb he hpl) ht
theorem de_call (D : Fd X.prog X.w X.K X.mg X.base k x F) (hr : Room k X.A) (ha : DA X (e :: es) fa) (hg : Gl X x := by rfl) (hdb : (x == ("__debug__" : Str)) = false := by decide) (he : starEach (e :: es) X.env = (false, eval e X.env) :: starEach es X.env := by rfl)
    (hpl : (backTo pos (starEach es X.env)).any (·.1) = false := by rfl) : DE X (.Call (.Name x p) (e :: es) [] pos) (sCall F fa) := call_gen D hr hg ha (fun σ H Q ⟨H0, th, ds, M, z, M', S, h, k⟩ => by
  obtain ⟨⟨vs, M1⟩, h1, h⟩ := ob h
  refine tA.run S h1 fun us H1 H1' th1 s1 S1 r1 => ?_
  refine ⟨H1, th1, M1, vs, z, M', S1.abs, by rw [List.append_nil]; exact r1, h, fun v H2 H2' th2 s2 A2 r2 => k v H2 H2' th2 (s1.trans s2) A2 r2⟩) hdb he hpl
theorem de_pure (D : Fd X.prog X.w X.K X.mg X.base k x F) (hr : Room k X.A) (ha : DA X (e :: es) fa) (hg : Gl X x := by rfl) (hdb : (x == ("__debug__" : Str)) = false := by decide) (he : starEach (e :: es) X.env = (false, eval e X.env) :: starEach es X.env := by rfl)
    (hpl : (backTo pos (starEach es X.env)).any (·.1) = false := by rfl) : DE X (.Call (.Name x p) (e :: es) [] pos) (sPure F fa) := call_gen D hr hg ha (fun σ H Q ⟨H0, th, ds, M, z, M', S, h, k⟩ => by
  obtain ⟨⟨vs, M1⟩, h1, h⟩ := ob h
  obtain ⟨y, h2, h⟩ := ob h
  cases h
  refine tA.run S h1 fun us H1 H1' th1 s1 S1 r1 => ?_
  show spD X.K F (us ++ []) H1' _ _
  rw [List.append_nil]
  exact pf_sp S1.abs r1 h2 fun v H2 H2' s2 A2 r2 => k v H2 H2' th1 (s1.trans s2) A2 r2) hdb he hpl
theorem de_one' (D : Fd X.prog X.w X.K X.mg X.base k x F) (hr : Room k X.A) (ha : DA X (e :: es) fa) (hg : Gl X x := by rfl) (hdb : (x == ("__debug__" : Str)) = false := by decide) (he : starEach (e :: es) X.env = (false, eval e X.env) :: starEach es X.env := by rfl)
    (hpl : (backTo pos (starEach es X.env)).any (·.1) = false := by rfl) : DE X (.Call (.Name x p) (e :: es) [] pos) (sOne F fa) := call_gen D hr hg ha (fun σ H Q ⟨H0, th, ds, M, z, M', S, h, k⟩ => by
  obtain ⟨⟨vs, M1⟩, h1, h⟩ := ob h
  obtain ⟨⟨y, M2⟩, h2, h⟩ := ob h
  cases h
  refine tA.run S h1 fun us H1 H1' th1 s1 S1 r1 => ?_
  show spD X.K F (us ++ []) H1' _ _
  rw [List.append_nil]
  exact one_sp S1.abs r1 h2 fun v H2 H2' s2 A2 r2 => k v H2 H2' th1 (s1.trans s2) A2 r2) hdb he hpl
/-- o.m(..) -/
def sMeth (x m : Str) (F : DF) (fo : SE) (fa : SA) : SE := fun ds M => (fo ds M).bind fun r => (ref r.1).bind fun n => (insAt x r.2 n).bind fun fs => match fs.lookup m with
  | none => (fa ds r.2).bind fun y => F (.r n :: y.1) y.2
  | some _ => none
theorem meth_read {C : Addr} (hC : C = He.ga X.K x) : ∀ σ H Q, tE X.K (sMeth x m F fo fa) σ H Q → tMeth C m (spD X.K F) [] E0 (tE X.K fo) (tA X.K fa) σ H Q := fun σ H Q ⟨H0, th, ds, M, z, M', S, h, k⟩ => by
  subst hC
  obtain ⟨⟨r, M1⟩, h1, h⟩ := ob h
  obtain ⟨n, h2, h⟩ := ob h
  obtain ⟨fs, h3, h⟩ := ob h
  cases hl : fs.lookup m with
  | some d =>
    have h : (match fs.lookup m with
      | none => (fa ds M1).bind fun y => F (.r n :: y.1) y.2
      | some _ => none) = some (z, M') := h
    rw [hl] at h; cases h
  | none =>
    have h : (match fs.lookup m with
      | none => (fa ds M1).bind fun y => F (.r n :: y.1) y.2
      | some _ => none) = some (z, M') := h
    rw [hl] at h
    obtain ⟨⟨ys, M2⟩, h4, h⟩ := ob h
    refine tE.run S h1 fun v H1 H1' th1 s1 S1 r1 => ?_
    obtain ⟨a, q1, rfl⟩ := ref_ok h2 r1
    obtain ⟨dx, ps, q2, q3⟩ := S1.abs.ins q1 h3
    refine ⟨a, dx, ps, rfl, q2, q3.no hl, tA.run S1 h4 fun us H2 H2' th2 s2 S2 r2 => ?_⟩
    exact ⟨H2, th2, M2, .r n :: ys, z, M', S2.abs, by rw [List.append_nil]; exact ⟨_, _, rfl, ⟨a, s2.tt _ _ q1, rfl⟩, r2⟩, h, fun v H3 H3' th3 s3 A3 r3 => k v H3 H3' th3 ((s1.trans s2).trans s3) A3 r3⟩
theorem de_meth {pl : Sem Bool} (cl : Cls X.K (He.ga X.K x)) (D : Md X.prog X.w X.K X.mg X.base k x m F) (hr : Room k X.A) (ho : DE X o fo) (ha : DA X (e :: es) fa)
    (hst : starEach (e :: es) X.env = (false, eval e X.env) :: starEach es X.env := by rfl) (hpl : (backTo pos (starEach es X.env)).any (·.1) = false := by rfl)
    (ht : eval (.Call (.Attribute o m apos) (e :: es) [] pos) X.env = (do
      let ov ← eval o X.env
      standAt apos.atName
      let (f, first) ← holding [ov] (getMethod ov m pl)
      callWith pos f first (backTo pos (starEach (e :: es) X.env)) (backToKw pos (keywordEach [] X.env))) := by rfl) : DE X (.Call (.Attribute o m apos) (e :: es) [] pos) (sMeth x m F fo fa) := by
  obtain ⟨fd, ps, hb, hf⟩ := D.ex
  exact PE.imp (pe_meth ho cl D.me hf hr hb .nil pass0 ha hst hpl ht) (meth_read rfl)
theorem de_meth0 {pl : Sem Bool} (cl : Cls X.K (He.ga X.K x)) (D : Md X.prog X.w X.K X.mg X.base k x m F) (hr : Room k X.A) (ho : DE X o fo)
    (ht : eval (.Call (.Attribute o m apos) [] [] pos) X.env = (do
      let ov ← eval o X.env
      standAt apos.atName
      let (f, first) ← holding [ov] (getMethod ov m pl)
      callWith pos f first (backTo pos (starEach [] X.env)) (backToKw pos (keywordEach [] X.env))) := by rfl) : DE X (.Call (.Attribute o m apos) [] [] pos) (sMeth x m F fo sNil) := by
  obtain ⟨fd, ps, hb, hf⟩ := D.ex
  refine PE.imp (pe_meth0 ho cl D.me hf hr hb .nil pass0 ht) fun σ H Q q => ?_
  have z := meth_read (X := X) (C := He.ga X.K x) rfl σ H Q q
  obtain ⟨H0, th, ds, M, r, M', S, h, k⟩ := q
  obtain ⟨⟨r1, M1⟩, h1, h⟩ := ob h
  obtain ⟨n, h2, h⟩ := ob h
  obtain ⟨fs, h3, h⟩ := ob h
  cases hl : fs.lookup m with
  | some d =>
    have h : (match fs.lookup m with
      | none => (sNil ds M1).bind fun y => F (.r n :: y.1) y.2
      | some _ => none) = some (r, M') := h
    rw [hl] at h; cases h
  | none =>
    have h : (match fs.lookup m with
      | none => (sNil ds M1).bind fun y => F (.r n :: y.1) y.2
      | some _ => none) = some (r, M') := h
    rw [hl] at h
    refine tE.run S h1 fun v H1 H1' th1 s1 S1 r1 => ?_
    obtain ⟨a, q1, rfl⟩ := ref_ok h2 r1
    obtain ⟨dx, ps, q2, q3⟩ := S1.abs.ins q1 h3
    refine ⟨a, dx, ps, rfl, q2, q3.no hl, ?_⟩
    exact ⟨H1, th1, M1, [.r n], r, M', S1.abs, ⟨_, _, rfl, ⟨a, q1, rfl⟩, rfl⟩, h, fun v H3 H3' th3 s3 A3 r3 => k v H3 H3' th3 (s1.trans s3) A3 r3⟩
/-- C(..) -/
def sMake (x : Str) (F : DF) (fa : SA) : SE := fun ds M => (fa ds M).bind fun y => (F (.r y.2.length :: y.1) (y.2 ++ [.ins x []])).bind fun r => match r.1 with
  | .d .none => some (.r y.2.length, r.2)
  | _ => none
theorem make_read : ∀ σ H Q, tE X.K (sMake x F fa) σ H Q → tMake (He.ga X.K x) (spD X.K F) [] E0 (tA X.K fa) σ H Q := fun σ H Q ⟨H0, th, ds, M, z, M', S, h, k⟩ => by
  obtain ⟨⟨ys, M1⟩, h1, h⟩ := ob h
  obtain ⟨⟨r, M2⟩, h2, h⟩ := ob h
  refine tA.run S h1 fun us H1 H1' th1 s1 S1 r1 => fun p dx hp hdx hne => ?_
  cases r with
  | d r =>
    cases r with
    | none =>
      cases h
      have e0 := S1.abs.ex.free hp
      have en := S1.abs.notin hp
      have A2 : Abs X.K th1 H1 (upd (upd H1' dx (.own p)) p (.ins (He.ga X.K x) dx [])) M1 := (S1.abs.priv (S1.abs.ex.free hdx) (S1.abs.notin hdx)).priv e0 en
      have A3 := A2.alloc (mo := .ins x []) e0 en ⟨dx, [], upd_same, rfl⟩
      have el : th1.length = M1.length := S1.abs.len
      have at_ : (th1 ++ [p])[M1.length]? = some p := by
        rw [List.getElem?_append_right (by rw [el]; exact Nat.le_refl _), el, Nat.sub_self]
        rfl
      have tt : ∀ (n : Nat) a, th1[n]? = some a → (th1 ++ [p])[n]? = some a := fun n a q => by
        rw [List.getElem?_append_left (List.getElem?_eq_some_iff.mp q).1]; exact q
      have s2 : Stp H1 H1' th1 H1 (upd (upd H1' dx (.own p)) p (.ins (He.ga X.K x) dx [])) (th1 ++ [p]) :=
        ⟨Ex.refl _, tt, fun a o q q' => ⟨by rw [upd_ne (ne_of_none q hp), upd_ne (ne_of_none q hdx)]; exact q, fun z => (List.mem_append.mp z).elim q' fun y => ne_of_none q hp (by simpa using y)⟩, fun _ _ _ _ z => z⟩
      refine ⟨H1, th1 ++ [p], M1 ++ [.ins x []], .r M1.length :: ys, .d .none, M2, A3, by rw [List.append_nil]; exact ⟨_, _, rfl, ⟨p, at_, rfl⟩, r1.step s2⟩, h2, fun v H3 H3' th3 s3 A3 r3 => ⟨r3, ?_⟩⟩
      exact k _ H3 H3' th3 ((s1.trans s2).trans s3) A3 ⟨p, s3.tt _ _ at_, rfl⟩
    | _ => cases h
  | _ => cases h
theorem de_make (M : Mk X.K (He.ga X.K x) (He.ma X.K (He.ga X.K x) "__init__")) (D : Md X.prog X.w X.K X.mg X.base k x "__init__" F) (hr : Room (k + 1) X.A) (hm : X.mg x = some (.ref (He.ga X.K x))) (ha : DA X (e :: es) fa) (hg : Gl X x := by rfl)
    (hdb : (x == ("__debug__" : Str)) = false := by decide) (he : starEach (e :: es) X.env = (false, eval e X.env) :: starEach es X.env := by rfl) (hpl : (backTo pos (starEach es X.env)).any (·.1) = false := by rfl) :
    DE X (.Call (.Name x p) (e :: es) [] pos) (sMake x F fa) := by
  obtain ⟨fd, ps, hb, hf⟩ := D.ex
  exact PE.imp (pe_make M hf hr hg hm hb .nil pass0 ha hdb he hpl) make_read
/-- a local name that holds a def of data -/
def sLoc (i : Nat) (S : Str → Option DF) (fa : SA) : SE := fun ds M => match ds[i]? with
  | some (some (.a x)) => (S x).bind fun F => (fa ds M).bind fun y => (pf F y.1).bind fun z => some (.d z, y.2)
  | _ => none
theorem de_loc (i : Nat) {S : Str → Option DF} (D : ∀ x F, S x = some F → Fd X.prog X.w X.K X.mg X.base k x F) (hr : Room k X.A) (ha : DA X (e :: es) fa) (hN : X.N[i]? = some x := by rfl) (hv : Vis X.env.scope x := by first | exact Or.inl rfl | exact Or.inr (Or.inl rfl))
    (hdb : (x == ("__debug__" : Str)) = false := by decide) (hcd : (x == ("__classdict__" : Str)) = false := by decide) (he : starEach (e :: es) X.env = (false, eval e X.env) :: starEach es X.env := by rfl) (hpl : (backTo pos (starEach es X.env)).any (·.1) = false := by rfl) :
    DE X (.Call (.Name x p) (e :: es) [] pos) (sLoc i S fa) := ⟨fun pins s σ H Q I ⟨H0, th, ds, M, z, M', St, h, kk⟩ => by
  have h : (match ds[i]? with
    | some (some (.a x)) => (S x).bind fun F => (fa ds M).bind fun y => (pf F y.1).bind fun z => some (DV.d z, y.2)
    | _ => none) = some (z, M') := h
  cases e1 : ds[i]? with
  | none => rw [e1] at h; cases h
  | some od =>
    rw [e1] at h
    cases od with
    | none => cases h
    | some d =>
      cases d with
      | a y =>
        obtain ⟨F, h1, h⟩ := ob h
        obtain ⟨⟨vs, M1⟩, h2, h⟩ := ob h
        obtain ⟨w, h3, h⟩ := ob h
        cases h
        obtain ⟨v, q1, q2⟩ := St.sl.at_ i _ e1
        have q2 : v = .ref (He.ga X.K y) := q2
        subst q2
        have Dy := D y F h1
        obtain ⟨fd, ps, hb, ho⟩ := Dy.ex
        refine (pe_callL (i := i) (E := E0) ho hr hN hv Dy.kp hb .nil pass0 ha hdb hcd he hpl).run pins s σ H Q I ⟨q1, tA.run St h2 fun us H1 H1' th1 s1 S1 r1 => ?_⟩
        show spD X.K F (us ++ []) H1' _ _
        rw [List.append_nil]
        exact pf_sp S1.abs r1 h3 fun v H2 H2' s2 A2 r2 => kk v H2 H2' th1 (s1.trans s2) A2 r2
      | _ => cases h⟩
end
end Ow
set_option Elab.async false
set_option linter.all false
set_option maxRecDepth 100000
set_option maxHeartbeats 4000000
namespace Ow
open PySem L2

/-! ### operators on data -/
def addF : PyData → PyData → Option PyData
  | .int i, .int j => some (.int (i + j))
  | .str x, .str y => if x.length + y.length ≤ lim then some (.str (x ++ y)) else none
  | .list xs, .list ys => if xs.length + ys.length ≤ lim then some (.list (xs ++ ys)) else none
  | .tuple xs, .tuple ys => if xs.length + ys.length ≤ lim then some (.tuple (xs ++ ys)) else none
  | _, _ => none
def subF : PyData → PyData → Option PyData
  | .int i, .int j => some (.int (i - j))
  | _, _ => none
def mulF : PyData → PyData → Option PyData
  | .int i, .int j => if (-(2 ^ 64) < i ∧ i < 2 ^ 64) ∨ (-(2 ^ 64) < j ∧ j < 2 ^ 64) then some (.int (i * j)) else none
  | _, _ => none
def divF : PyData → PyData → Option PyData
  | .int i, .int j => if 0 < j ∧ j < 1073741824 then some (.int (i / j)) else none
  | _, _ => none
def modF : PyData → PyData → Option PyData
  | .int i, .int j => if 0 < j then some (.int (i % j)) else none
  | _, _ => none
def powF : PyData → PyData → Option PyData
  | .int i, .int j => if 0 ≤ j ∧ j ≤ 1000000 ∧ i.natAbs < 2 ^ 64 then some (.int (i ^ j.toNat)) else none
  | _, _ => none
def negF : PyData → Option PyData
  | .int i => some (.int (-i))
  | _ => none
section
variable {X : Cx} {K : PySem.W.Frag}
abbrev rAdd4 (K : PySem.W.Frag) : R2 := fun x y H Q => (∃ i j, x = .int i ∧ y = .int j ∧ Q (.int (i + j)) H) ∨ (∃ i j, x = .str i ∧ y = .str j ∧ i.length + j.length ≤ sizeLine ∧ Q (.str (i ++ j)) H) ∨ rCat x y H Q ∨ rCatA K x y H Q
theorem or_add : OpR X (binaryOp .Add) (rAdd4 X.K) := OpR.or (r := rI0 fun i j => .int (i + j)) op_add (op_add_str.or (op_cat.or op_catA))
theorem op_addP : OpP K (rAdd4 K) addF := fun {H0 H d e z v u Q} ex hd he h k => by
  cases d with
  | int i =>
    cases e with
    | int j =>
      cases h
      exact .inl ⟨i, j, hd, he, k _ H0 H (.refl ex) rfl⟩
    | _ => cases h
  | str x =>
    cases e with
    | str y =>
      have h : (if x.length + y.length ≤ lim then some (PyData.str (x ++ y)) else none) = some z := h
      split at h
      · cases h
        rename_i hl
        exact .inr (.inl ⟨x, y, hd, he, lim_line hl, k _ H0 H (.refl ex) rfl⟩)
      · cases h
    | _ => cases h
  | list xs =>
    cases e with
    | list ys =>
      have h : (if xs.length + ys.length ≤ lim then some (PyData.list (xs ++ ys)) else none) = some z := h
      split at h
      · cases h
        rename_i hl
        obtain ⟨a, us, rfl, q1, q2⟩ := hd
        obtain ⟨b, ws, rfl, q3, q4⟩ := he
        refine .inr (.inr (.inl ⟨a, b, us, ws, rfl, rfl, q1, q3, by rw [q2.length, q4.length]; exact lim_line hl, fun p hp => ?_⟩))
        have g := Gro.new (o := .lst (us ++ ws)) ex hp
        exact k _ _ _ g ⟨p, _, rfl, upd_same, DdAll.mono g.ex _ _ (q2.append q4)⟩
      · cases h
    | _ => cases h
  | tuple xs =>
    cases e with
    | tuple ys =>
      have h : (if xs.length + ys.length ≤ lim then some (PyData.tuple (xs ++ ys)) else none) = some z := h
      split at h
      · cases h
        rename_i hl
        obtain ⟨a, us, rfl, q1, q2⟩ := hd
        obtain ⟨b, ws, rfl, q3, q4⟩ := he
        refine .inr (.inr (.inr ⟨a, b, us, ws, rfl, rfl, sqT_mono ex q1, sqT_mono ex q3, by rw [q2.length, q4.length]; exact lim_line hl, fun e => ?_, fun _ e => ?_, fun _ _ p hp => ?_⟩))
        · subst e
          exact k _ H0 H (.refl ex) ⟨b, ws, rfl, q3, by simpa using q2.append q4⟩
        · subst e
          exact k _ H0 H (.refl ex) ⟨a, us, rfl, q1, by simpa using q2.append q4⟩
        · have g := Gro.new (o := .tup (us ++ ws)) ex hp
          exact k _ _ _ g ⟨p, _, rfl, .inl (.inl upd_same), DdAll.mono g.ex _ _ (q2.append q4)⟩
      · cases h
    | _ => cases h
  | _ => cases h
theorem opI_P {C : Int → Int → Prop} [∀ i j, Decidable (C i j)] {g : Int → Int → Int} {f : PyData → PyData → Option PyData} (hf : ∀ i j, f (.int i) (.int j) = if C i j then some (.int (g i j)) else none) (hn : ∀ d e z, f d e = some z → ∃ i j, d = .int i ∧ e = .int j) : OpP K (rI C fun i j => .int (g i j)) f := fun {H0 H d e z v u Q} ex hd he h k => by
  obtain ⟨i, j, rfl, rfl⟩ := hn d e z h
  rw [hf] at h
  split at h
  · rename_i hc
    cases h
    exact ⟨i, j, hd, he, hc, k _ H0 H (.refl ex) rfl⟩
  · cases h
theorem op_subP : OpP K (rI0 fun i j => .int (i - j)) subF := fun {H0 H d e z v u Q} ex hd he h k => by
  cases d with
  | int i =>
    cases e with
    | int j =>
      cases h
      exact ⟨i, j, hd, he, k _ H0 H (.refl ex) rfl⟩
    | _ => cases h
  | _ => cases h
instance (i j : Int) : Decidable (CMul i j) := inferInstanceAs (Decidable (_ ∨ _))
instance (i j : Int) : Decidable (CDiv i j) := inferInstanceAs (Decidable (_ ∧ _))
instance (i j : Int) : Decidable (CPow i j) := inferInstanceAs (Decidable (_ ∧ _))
theorem two_ints {f : PyData → PyData → Option PyData} (h1 : ∀ d e, (∀ i, d ≠ .int i) → f d e = none) (h2 : ∀ i e, (∀ j, e ≠ .int j) → f (.int i) e = none) : ∀ d e z, f d e = some z → ∃ i j, d = .int i ∧ e = .int j := fun d e z h => by
  cases d with
  | int i =>
    cases e with
    | int j => exact ⟨i, j, rfl, rfl⟩
    | _ => rw [h2 i _ (by intro j; exact fun q => nomatch q)] at h; cases h
  | _ => rw [h1 _ _ (by intro j; exact fun q => nomatch q)] at h; cases h
theorem op_mulP : OpP K (rI CMul fun i j => .int (i * j)) mulF := opI_P (fun i j => rfl) (two_ints (fun d e h => by cases d <;> first | rfl | exact absurd rfl (h _)) fun i e h => by cases e <;> first | rfl | exact absurd rfl (h _))
theorem op_divP : OpP K (rI CDiv fun i j => .int (i / j)) divF := opI_P (fun i j => rfl) (two_ints (fun d e h => by cases d <;> first | rfl | exact absurd rfl (h _)) fun i e h => by cases e <;> first | rfl | exact absurd rfl (h _))
theorem op_modP : OpP K (rI (fun _ j => 0 < j) fun i j => .int (i % j)) modF := opI_P (fun i j => rfl) (two_ints (fun d e h => by cases d <;> first | rfl | exact absurd rfl (h _)) fun i e h => by cases e <;> first | rfl | exact absurd rfl (h _))
theorem op_powP : OpP K (rI CPow fun i j => .int (i ^ j.toNat)) powF := opI_P (fun i j => rfl) (two_ints (fun d e h => by cases d <;> first | rfl | exact absurd rfl (h _)) fun i e h => by cases e <;> first | rfl | exact absurd rfl (h _))
theorem un_negP : UnP K (rU fun i => .int (-i)) negF := fun {H0 H d z v Q} ex hd h k => by
  cases d with
  | int i => cases h; exact ⟨i, hd, k _ H0 H (.refl ex) rfl⟩
  | _ => cases h

/-! ### comparisons -/
def shp (d : PyData) : Bool := d.plain && decide (d.depth ≤ 60)
theorem shp_1 {d : PyData} (h : shp d = true) : d.plain = true := (Bool.and_eq_true_iff.mp h).1
theorem shp_2 {d : PyData} (h : shp d = true) : d.depth ≤ 60 := of_decide_eq_true (Bool.and_eq_true_iff.mp h).2
def rEqP (K : PySem.W.Frag) : R2 := fun x y H Q => ∃ d e, Dp K H x d ∧ Dp K H y e ∧ shp d = true ∧ shp e = true ∧ Q (.bl (PyData.eqv d e)) H
def rNeP (K : PySem.W.Frag) : R2 := fun x y H Q => ∃ d e, Dp K H x d ∧ Dp K H y e ∧ shp d = true ∧ shp e = true ∧ Q (.bl (!PyData.eqv d e)) H
theorem or_eq (hu : X.A.units + 64 < cLine) : OpR X (compareOp .Eq) (rEqP X.K) := by
  intro pins s σ H x y v u Q I rx ry h
  obtain ⟨d, e, hd, he, sd, se, q⟩ := h
  obtain ⟨as, r1⟩ := Dp.reads I d x v hd rx
  obtain ⟨bs, r2⟩ := Dp.reads I e y u he ry
  refine SeqAt.eq_plain r1 r2 (shp_1 sd) (shp_1 se) ?_ ⟨.bl _, H, I, rfl, q⟩
  have := shp_2 sd
  omega
theorem or_ne (hu : X.A.units + 64 < cLine) : OpR X (compareOp .NotEq) (rNeP X.K) := by
  intro pins s σ H x y v u Q I rx ry h
  obtain ⟨d, e, hd, he, sd, se, q⟩ := h
  obtain ⟨as, r1⟩ := Dp.reads I d x v hd rx
  obtain ⟨bs, r2⟩ := Dp.reads I e y u he ry
  refine SeqAt.ne_plain r1 r2 (shp_1 sd) (shp_1 se) ?_ ⟨.bl _, H, I, rfl, q⟩
  have := shp_2 sd
  omega
def eqF (d e : PyData) : Option PyData := if shp d = true ∧ shp e = true then some (.bool (PyData.eqv d e)) else none
def neF (d e : PyData) : Option PyData := if shp d = true ∧ shp e = true then some (.bool (!PyData.eqv d e)) else none
theorem op_eqP : OpP K (rEqP K) eqF := fun {H0 H d e z v u Q} ex hd he h k => by
  unfold eqF at h
  split at h
  · rename_i hs
    cases h
    exact ⟨d, e, Dd.dp _ _ (hd.full ex), Dd.dp _ _ (he.full ex), hs.1, hs.2, k _ H0 H (.refl ex) rfl⟩
  · cases h
theorem op_neP : OpP K (rNeP K) neF := fun {H0 H d e z v u Q} ex hd he h k => by
  unfold neF at h
  split at h
  · rename_i hs
    cases h
    exact ⟨d, e, Dd.dp _ _ (hd.full ex), Dd.dp _ _ (he.full ex), hs.1, hs.2, k _ H0 H (.refl ex) rfl⟩
  · cases h
def ltF : PyData → PyData → Option PyData
  | .int i, .int j => some (.bool (decide (i < j)))
  | _, _ => none
def leF : PyData → PyData → Option PyData
  | .int i, .int j => some (.bool (decide (i ≤ j)))
  | .str i, .str j => some (.bool (!decide (j.cps.toList < i.cps.toList)))
  | _, _ => none
def geF : PyData → PyData → Option PyData
  | .int i, .int j => some (.bool (decide (j ≤ i)))
  | _, _ => none
def gtF : PyData → PyData → Option PyData
  | .int i, .int j => some (.bool (decide (j < i)))
  | .tuple [.int a, .int b], .tuple [.int c, .int d] => some (.bool (if c = a then decide (d < b) else decide (c < a)))
  | _, _ => none
theorem op_ltP : OpP K (rI0 fun i j => .bl (decide (i < j))) ltF := fun {H0 H d e z v u Q} ex hd he h k => by
  cases d with
  | int i =>
    cases e with
    | int j =>
      cases h
      exact ⟨i, j, hd, he, k _ H0 H (.refl ex) rfl⟩
    | _ => cases h
  | _ => cases h
theorem op_geP : OpP K (rI0 fun i j => .bl (decide (j ≤ i))) geF := fun {H0 H d e z v u Q} ex hd he h k => by
  cases d with
  | int i =>
    cases e with
    | int j =>
      cases h
      exact ⟨i, j, hd, he, k _ H0 H (.refl ex) rfl⟩
    | _ => cases h
  | _ => cases h
abbrev rLe2 : R2 := fun x y H Q => (∃ i j, x = .int i ∧ y = .int j ∧ Q (.bl (decide (i ≤ j))) H) ∨ (∃ i j, x = .str i ∧ y = .str j ∧ Q (.bl (!decide (j.cps.toList < i.cps.toList))) H)
theorem or_le : OpR X (compareOp .LtE) rLe2 := OpR.or (r := rI0 fun i j => .bl (decide (i ≤ j))) op_le op_le_str
theorem op_leP : OpP K rLe2 leF := fun {H0 H d e z v u Q} ex hd he h k => by
  cases d with
  | int i =>
    cases e with
    | int j =>
      cases h
      exact .inl ⟨i, j, hd, he, k _ H0 H (.refl ex) rfl⟩
    | _ => cases h
  | str i =>
    cases e with
    | str j =>
      cases h
      exact .inr ⟨i, j, hd, he, k _ H0 H (.refl ex) rfl⟩
    | _ => cases h
  | _ => cases h
def rGtP (K : PySem.W.Frag) : R2 := fun x y H Q => ∃ p q a b c d, x = .ref p ∧ y = .ref q ∧ SqT K H p [.int a, .int b] ∧ SqT K H q [.int c, .int d] ∧ Q (.bl (if c = a then decide (d < b) else decide (c < a))) H
theorem or_gtT {k : Nat} (hr : Room k X.A) : OpR X (compareOp .Gt) (rGtP X.K) := fun pins s σ H x y v u Q I rx ry ⟨p, q, a, b, c, d, e1, e2, h1, h2, h⟩ => by
  subst e1 e2
  cases rx
  cases ry
  obtain ⟨its, r1, p1, _⟩ := I.tuple h1
  obtain ⟨its2, r2, p2, _⟩ := I.tuple h2
  cases r1 with
  | cons ra rr =>
    cases rr with
    | cons rb rr2 =>
      cases rr2
      cases r2 with
      | cons rc rs =>
        cases rs with
        | cons rd rs2 =>
          cases rs2
          obtain ⟨ta, rfl⟩ := ra
          obtain ⟨tb, rfl⟩ := rb
          obtain ⟨tc, rfl⟩ := rc
          obtain ⟨td, rfl⟩ := rd
          refine PySem.W.gt_datum (α := Int × Int) (x := (a, b)) (y := (c, d)) (PySem.W.holds_pair (by exact p1) (PySem.W.holds_int _ _) (PySem.W.holds_int _ _)) (PySem.W.holds_pair (by exact p2) (PySem.W.holds_int _ _) (PySem.W.holds_int _ _)) ?_ ?_
          · have := hr.units
            show X.A.units + (max 0 0 + 1) < cLine
            omega
          · exact ⟨.bl (if c = a then decide (d < b) else decide (c < a)), H, I, rfl, h⟩
abbrev rGt2 (K : PySem.W.Frag) : R2 := fun x y H Q => (∃ i j, x = .int i ∧ y = .int j ∧ Q (.bl (decide (j < i))) H) ∨ rGtP K x y H Q
theorem or_gt {k : Nat} (hr : Room k X.A) : OpR X (compareOp .Gt) (rGt2 X.K) := OpR.or (r := rI0 fun i j => .bl (decide (j < i))) op_gt (or_gtT hr)
theorem op_gtP : OpP K (rGt2 K) gtF := fun {H0 H d e z v u Q} ex hd he h k => by
  unfold gtF at h
  split at h
  · cases h
    exact .inl ⟨_, _, hd, he, k _ H0 H (.refl ex) rfl⟩
  · cases h
    obtain ⟨p, us, rfl, q1, v1, r1, e1, w1, v2, r2, e2, w2, e3⟩ := hd
    obtain ⟨q, ws, rfl, q3, v3, r3, e4, w3, v4, r4, e5, w4, e6⟩ := he
    have e3 : r2 = [] := e3
    have e6 : r4 = [] := e6
    have w1 : v1 = _ := w1
    have w2 : v2 = _ := w2
    have w3 : v3 = _ := w3
    have w4 : v4 = _ := w4
    subst e3 e6 w1 w2 w3 w4 e2 e5 e1 e4
    exact .inr ⟨p, q, _, _, _, _, rfl, rfl, sqT_mono ex q1, sqT_mono ex q3, k _ H0 H (.refl ex) rfl⟩
  · cases h
/-- is None -/
def isNb : PyData → Bool
  | .none => true
  | _ => false
def isNF (d e : PyData) : Option PyData := match e with
  | .none => some (.bool (isNb d))
  | _ => none
def notNF (d e : PyData) : Option PyData := match e with
  | .none => some (.bool (!isNb d))
  | _ => none
theorem isN_dec {H0 H : Hp} {d : PyData} {v : V} (h : Dq K H0 H d v) : decide (v = .non) = isNb d := by
  cases d with
  | none => rw [show v = .non from h]; rfl
  | bool b => rw [show v = .bl b from h]; rfl
  | int b => rw [show v = .int b from h]; rfl
  | str b => rw [show v = .str b from h]; rfl
  | list b => obtain ⟨a, xs, rfl, _⟩ := h; rfl
  | tuple b => obtain ⟨a, xs, rfl, _⟩ := h; rfl
  | dict b => exact False.elim h
theorem op_isNP : OpP K rIsN isNF := fun {H0 H d e z v u Q} ex hd he h k => by
  cases e with
  | none =>
    cases h
    refine ⟨he, ?_⟩
    rw [isN_dec hd]
    exact k _ H0 H (.refl ex) rfl
  | _ => cases h
theorem op_notNP : OpP K rNotN notNF := fun {H0 H d e z v u Q} ex hd he h k => by
  cases e with
  | none =>
    cases h
    refine ⟨he, ?_⟩
    rw [isN_dec hd]
    exact k _ H0 H (.refl ex) rfl
  | _ => cases h
/-- in -/
def rInP (K : PySem.W.Frag) (n : Bool) : R2 := fun x y H Q => ∃ d c ds, Dp K H x d ∧ Dp K H y c ∧ (c = .list ds ∨ c = .tuple ds) ∧ shp d = true ∧ shp c = true ∧ Q (.bl (xor n (ds.any fun z => PyData.eqv z d))) H
theorem plain_list {ds : List PyData} (h : PyData.plain (.list ds) = true) : PyData.plainAll ds = true := h
theorem plain_tuple {ds : List PyData} (h : PyData.plain (.tuple ds) = true) : PyData.plainAll ds = true := h
theorem or_inP (hu : X.A.units + 65 < cLine) : OpR X (compareOp .In) (rInP X.K false) := by
  intro pins s σ H x y v u Q I rx ry h
  obtain ⟨d, c, ds, hd, he, hc, sd, se, q⟩ := h
  obtain ⟨as, r1⟩ := Dp.reads I d x v hd rx
  obtain ⟨bs, r2⟩ := Dp.reads I c y u he ry
  have h1 := shp_2 sd
  rw [Bool.false_xor] at q
  rcases hc with rfl | rfl
  · exact SeqAt.in_list_data r2 r1 (plain_list (shp_1 se)) (shp_1 sd) (by omega) ⟨.bl _, H, I, rfl, q⟩
  · exact SeqAt.in_tuple_data r2 r1 (plain_tuple (shp_1 se)) (shp_1 sd) (by omega) ⟨.bl _, H, I, rfl, q⟩
theorem or_ninP (hu : X.A.units + 65 < cLine) : OpR X (compareOp .NotIn) (rInP X.K true) := by
  intro pins s σ H x y v u Q I rx ry h
  obtain ⟨d, c, ds, hd, he, hc, sd, se, q⟩ := h
  obtain ⟨as, r1⟩ := Dp.reads I d x v hd rx
  obtain ⟨bs, r2⟩ := Dp.reads I c y u he ry
  have h1 := shp_2 sd
  rw [Bool.true_xor] at q
  rcases hc with rfl | rfl
  · exact SeqAt.notIn_list_data r2 r1 (plain_list (shp_1 se)) (shp_1 sd) (by omega) ⟨.bl _, H, I, rfl, q⟩
  · exact SeqAt.notIn_tuple_data r2 r1 (plain_tuple (shp_1 se)) (shp_1 sd) (by omega) ⟨.bl _, H, I, rfl, q⟩
def inB (d e : PyData) : Option Bool := match e with
  | .str z => match d with
    | .str x => match x.cps.toList with
      | [c] => some (decide (c ∈ z.cps.toList))
      | _ => none
    | _ => none
  | .list es => if shp d = true ∧ shp (.list es) = true then some (es.any fun z => PyData.eqv z d) else none
  | .tuple es => if shp d = true ∧ shp (.tuple es) = true then some (es.any fun z => PyData.eqv z d) else none
  | _ => none
def inF (d e : PyData) : Option PyData := (inB d e).bind fun b => some (.bool b)
def ninF (d e : PyData) : Option PyData := (inB d e).bind fun b => some (.bool (!b))
abbrev rIn3 (K : PySem.W.Frag) : R2 := fun x y H Q => rInS x y H Q ∨ rInP K false x y H Q
abbrev rNotIn3 (K : PySem.W.Frag) : R2 := fun x y H Q => rNotInS x y H Q ∨ rInP K true x y H Q
theorem or_in (hu : X.A.units + 65 < cLine) : OpR X (compareOp .In) (rIn3 X.K) := OpR.or op_inS (or_inP hu)
theorem or_nin (hu : X.A.units + 65 < cLine) : OpR X (compareOp .NotIn) (rNotIn3 X.K) := OpR.or op_notInS (or_ninP hu)
theorem inB_read {H0 H : Hp} {d e : PyData} {v u : V} {b : Bool} (ex : Ex H0 H) (hd : Dq K H0 H d v) (he : Dq K H0 H e u) (h : inB d e = some b) :
    (∃ (c : Nat) (z : Str), v = .str ⟨#[c]⟩ ∧ u = .str z ∧ b = decide (c ∈ z.cps.toList)) ∨ (∃ d c ds, Dp K H v d ∧ Dp K H u c ∧ (c = .list ds ∨ c = .tuple ds) ∧ shp d = true ∧ shp c = true ∧ b = ds.any fun z => PyData.eqv z d) := by
  cases e with
  | str z =>
    cases d with
    | str x =>
      have h : (match x.cps.toList with
        | [c] => some (decide (c ∈ z.cps.toList))
        | _ => none) = some b := h
      split at h
      · rename_i c hc
        cases h
        refine .inl ⟨c, z, ?_, he, rfl⟩
        have hx : x = ⟨#[c]⟩ := by
          cases x with
          | mk cps =>
            have : cps = #[c] := by
              apply Array.toList_inj.mp
              exact hc
            rw [this]
        rw [← hx]
        exact hd
      · cases h
    | _ => cases h
  | list es =>
    have h : (if shp d = true ∧ shp (.list es) = true then some (es.any fun z => PyData.eqv z d) else none) = some b := h
    split at h
    · rename_i hs
      cases h
      exact .inr ⟨d, .list es, es, Dd.dp _ _ (hd.full ex), Dd.dp _ _ (he.full ex), .inl rfl, hs.1, hs.2, rfl⟩
    · cases h
  | tuple es =>
    have h : (if shp d = true ∧ shp (.tuple es) = true then some (es.any fun z => PyData.eqv z d) else none) = some b := h
    split at h
    · rename_i hs
      cases h
      exact .inr ⟨d, .tuple es, es, Dd.dp _ _ (hd.full ex), Dd.dp _ _ (he.full ex), .inr rfl, hs.1, hs.2, rfl⟩
    · cases h
  | _ => cases h
theorem op_inP : OpP K (rIn3 K) inF := fun {H0 H d e z v u Q} ex hd he h k => by
  obtain ⟨b, h1, h⟩ := ob h
  cases h
  have q := k (.bl b) H0 H (.refl ex) rfl
  rcases inB_read ex hd he h1 with ⟨c, z, e1, e2, e3⟩ | ⟨d, c, ds, q1, q2, q3, q4, q5, e3⟩
  · subst e3; exact .inl ⟨c, z, e1, e2, q⟩
  · subst e3; exact .inr ⟨d, c, ds, q1, q2, q3, q4, q5, by rw [Bool.false_xor]; exact q⟩
theorem op_ninP : OpP K (rNotIn3 K) ninF := fun {H0 H d e z v u Q} ex hd he h k => by
  obtain ⟨b, h1, h⟩ := ob h
  cases h
  have q := k (.bl (!b)) H0 H (.refl ex) rfl
  rcases inB_read ex hd he h1 with ⟨c, z, e1, e2, e3⟩ | ⟨d, c, ds, q1, q2, q3, q4, q5, e3⟩
  · subst e3; exact .inl ⟨c, z, e1, e2, q⟩
  · subst e3; exact .inr ⟨d, c, ds, q1, q2, q3, q4, q5, by rw [Bool.true_xor]; exact q⟩

/-! ### subscripts, slices -/
def ixF (d e : PyData) : Option PyData := match e with
  | .int i => match d with
    | .list xs => (ixN xs.length i).bind fun j => xs[j]?
    | .tuple xs => (ixN xs.length i).bind fun j => xs[j]?
    | .str x => if x.length ≤ lim then (atI x.cps.toList i).bind fun c => some (.str ⟨#[c]⟩) else none
    | _ => none
  | _ => none
theorem op_ixP : OpP K (rIx K) ixF := fun {H0 H d e z v u Q} ex hd he h k => by
  cases e with
  | int i =>
    cases d with
    | list xs =>
      obtain ⟨j, h1, h2⟩ := ob (show ((ixN xs.length i).bind fun j => xs[j]?) = some z from h)
      obtain ⟨a, us, rfl, q1, q2⟩ := hd
      obtain ⟨w, q3, q4⟩ := q2.get h2
      refine .inl ⟨a, us, i, w, rfl, he, SqL.of q1, ?_, k _ H0 H (.refl ex) q4⟩
      unfold atI
      rw [q2.length, h1]
      exact q3
    | tuple xs =>
      obtain ⟨j, h1, h2⟩ := ob (show ((ixN xs.length i).bind fun j => xs[j]?) = some z from h)
      obtain ⟨a, us, rfl, q1, q2⟩ := hd
      obtain ⟨w, q3, q4⟩ := q2.get h2
      refine .inr (.inl ⟨a, us, i, w, rfl, he, sqT_mono ex q1, ?_, k _ H0 H (.refl ex) q4⟩)
      unfold atI
      rw [q2.length, h1]
      exact q3
    | str x =>
      have h : (if x.length ≤ lim then (atI x.cps.toList i).bind fun c => some (PyData.str ⟨#[c]⟩) else none) = some z := h
      split at h
      · rename_i hl
        obtain ⟨c, h1, h2⟩ := ob h
        cases h2
        exact .inr (.inr ⟨x, i, c, hd, he, lim_line hl, h1, k _ H0 H (.refl ex) rfl⟩)
      · cases h
    | _ => cases h
  | _ => cases h
def slF (d : PyData) (lo hi : Option Int) : Option PyData := match d with
  | .list xs => some (.list ((xs.drop (HT.sIx xs.length 0 lo)).take (HT.sIx xs.length xs.length hi - HT.sIx xs.length 0 lo)))
  | .str x => if x.length ≤ lim then some (.str (cutS x lo hi)) else none
  | _ => none
abbrev rSl2 (K : PySem.W.Frag) : V → Option Int → Option Int → Hp → VK → Prop := fun x lo hi H Q => rSlL K x lo hi H Q ∨ rSlS x lo hi H Q
theorem or_sl : SlR X (rSl2 X.K) := SlR.or sl_list sl_str
theorem sl_P : SlP K (rSl2 K) slF := fun {H0 H d z v lo hi Q} ex hd h k => by
  cases d with
  | list xs =>
    cases h
    obtain ⟨a, us, rfl, q1, q2⟩ := hd
    refine .inl ⟨a, us, rfl, SqL.of q1, fun p hp => ?_⟩
    have g := Gro.new (o := .lst (cutV us lo hi)) ex hp
    refine k _ _ _ g ⟨p, _, rfl, upd_same, DdAll.mono g.ex _ _ ?_⟩
    unfold cutV
    rw [q2.length]
    exact (q2.drop _).take _
  | str x =>
    have h : (if x.length ≤ lim then some (PyData.str (cutS x lo hi)) else none) = some z := h
    split at h
    · rename_i hl
      cases h
      exact .inr ⟨x, hd, lim_line hl, k _ H0 H (.refl ex) rfl⟩
    · cases h
  | _ => cases h

/-! ### built-ins -/
def lenF : List PyData → Option PyData
  | [.list xs] => some (.int xs.length)
  | [.tuple xs] => some (.int xs.length)
  | [.str x] => if x.length ≤ lim then some (.int x.length) else none
  | _ => none
abbrev rLenA (K : PySem.W.Frag) : List V → Hp → VK → Prop := fun xs H Q => ∃ x n, xs = [x] ∧ LenV K x H n ∧ Q (.int n) H
theorem len_P : CallP K (rLenA K) lenF := fun {H0 H ds z vs Q} ex hd h k => by
  unfold lenF at h
  split at h
  · cases h
    obtain ⟨v, r, e1, ⟨a, us, rfl, q1, q2⟩, e2⟩ := hd
    have e2 : r = [] := e2
    subst e2 e1
    refine ⟨_, us.length, rfl, .inl ⟨us, SqL.of q1, rfl⟩, ?_⟩
    rw [q2.length]
    exact k _ H0 H (.refl ex) rfl
  · cases h
    obtain ⟨v, r, e1, ⟨a, us, rfl, q1, q2⟩, e2⟩ := hd
    have e2 : r = [] := e2
    subst e2 e1
    refine ⟨_, us.length, rfl, .inr ⟨us, sqT_mono ex q1, rfl⟩, ?_⟩
    rw [q2.length]
    exact k _ H0 H (.refl ex) rfl
  · split at h
    · rename_i hl
      cases h
      obtain ⟨v, r, e1, q1, e2⟩ := hd
      have e2 : r = [] := e2
      have q1 : v = _ := q1
      subst e2 e1 q1
      exact ⟨_, _, rfl, ⟨lim_line hl, rfl⟩, k _ H0 H (.refl ex) rfl⟩
    · cases h
  · cases h
def min2F : List PyData → Option PyData
  | [.int i, .int j] => some (.int (if j < i then j else i))
  | _ => none
def max2F : List PyData → Option PyData
  | [.int i, .int j] => some (.int (if j > i then j else i))
  | _ => none
theorem min2_P : CallP K (fun xs H Q => ∃ i j, xs = [.int i, .int j] ∧ Q (.int (if j < i then j else i)) H) min2F := fun {H0 H ds z vs Q} ex hd h k => by
  unfold min2F at h
  split at h
  · cases h
    obtain ⟨v, r, e1, q1, w, r2, e2, q2, e3⟩ := hd
    have e3 : r2 = [] := e3
    have q1 : v = _ := q1
    have q2 : w = _ := q2
    subst e3 q1 q2 e2 e1
    exact ⟨_, _, rfl, k _ H0 H (.refl ex) rfl⟩
  · cases h
theorem max2_P : CallP K (fun xs H Q => ∃ i j, xs = [.int i, .int j] ∧ Q (.int (if j > i then j else i)) H) max2F := fun {H0 H ds z vs Q} ex hd h k => by
  unfold max2F at h
  split at h
  · cases h
    obtain ⟨v, r, e1, q1, w, r2, e2, q2, e3⟩ := hd
    have e3 : r2 = [] := e3
    have q1 : v = _ := q1
    have q2 : w = _ := q2
    subst e3 q1 q2 e2 e1
    exact ⟨_, _, rfl, k _ H0 H (.refl ex) rfl⟩
  · cases h
def absF : List PyData → Option PyData
  | [.int i] => some (.int (if i < 0 then -i else i))
  | _ => none
theorem abs_P : CallP K (fun xs H Q => ∃ i, xs = [.int i] ∧ Q (.int (if i < 0 then -i else i)) H) absF := fun {H0 H ds z vs Q} ex hd h k => by
  unfold absF at h
  split at h
  · cases h
    obtain ⟨v, r, e1, q1, e3⟩ := hd
    have e3 : r = [] := e3
    have q1 : v = _ := q1
    subst e3 q1 e1
    exact ⟨_, rfl, k _ H0 H (.refl ex) rfl⟩
  · cases h
def intF : List PyData → Option PyData
  | [.int i] => some (.int i)
  | [.str x] => if x.length ≤ 640 then (PySem.intText? x).bind fun n => some (.int n) else none
  | _ => none
abbrev rInt2 : List V → Hp → VK → Prop := fun xs H Q => ((∃ i, xs = [.int i] ∧ Q (.int i) H) ∨ ∃ k, xs = [.bl k] ∧ Q (.int (if k then 1 else 0)) H) ∨ ∃ a n, xs = [.str a] ∧ PySem.intText? a = some n ∧ a.length ≤ 640 ∧ Q (.int n) H
theorem or_int : CallR X (.type "int") rInt2 := CallR.or call_int1 call_int_str
theorem int_P : CallP K rInt2 intF := fun {H0 H ds z vs Q} ex hd h k => by
  unfold intF at h
  split at h
  · cases h
    obtain ⟨v, r, e1, q1, e3⟩ := hd
    have e3 : r = [] := e3
    have q1 : v = _ := q1
    subst e3 q1 e1
    exact .inl (.inl ⟨_, rfl, k _ H0 H (.refl ex) rfl⟩)
  · split at h
    · rename_i hl
      obtain ⟨n, h1, h2⟩ := ob h
      cases h2
      obtain ⟨v, r, e1, q1, e3⟩ := hd
      have e3 : r = [] := e3
      have q1 : v = _ := q1
      subst e3 q1 e1
      exact .inr ⟨_, _, rfl, h1, hl, k _ H0 H (.refl ex) rfl⟩
    · cases h
  · cases h
def strF : List PyData → Option PyData
  | [.int i] => if i.natAbs.log2 < 1920 then some (.str (toString i)) else none
  | _ => none
theorem str_P : CallP K (fun xs H Q => ∃ i, xs = [.int i] ∧ i.natAbs.log2 < 1920 ∧ Q (.str (toString i)) H) strF := fun {H0 H ds z vs Q} ex hd h k => by
  unfold strF at h
  split at h
  · split at h
    · rename_i hl
      cases h
      obtain ⟨v, r, e1, q1, e3⟩ := hd
      have e3 : r = [] := e3
      have q1 : v = _ := q1
      subst e3 q1 e1
      exact ⟨_, rfl, hl, k _ H0 H (.refl ex) rfl⟩
    · cases h
  · cases h
def ordF : List PyData → Option PyData
  | [.str x] => if x.length = 1 then some (.int (x.cps.getD 0 0 : Nat)) else none
  | _ => none
theorem ord_P : CallP K (fun xs H Q => ∃ x, xs = [.str x] ∧ x.length = 1 ∧ Q (.int (x.cps.getD 0 0 : Nat)) H) ordF := fun {H0 H ds z vs Q} ex hd h k => by
  unfold ordF at h
  split at h
  · split at h
    · rename_i hl
      cases h
      obtain ⟨v, r, e1, q1, e3⟩ := hd
      have e3 : r = [] := e3
      have q1 : v = _ := q1
      subst e3 q1 e1
      exact ⟨_, rfl, hl, k _ H0 H (.refl ex) rfl⟩
    · cases h
  · cases h
def listF : List PyData → Option PyData
  | [.list xs] => some (.list xs)
  | _ => none
theorem list_P : CallP K (fun xs H Q => ∃ p ys, xs = [.ref p] ∧ (SqL K H p ys ∨ SqT K H p ys) ∧ ∀ l, H l = none → Q (.ref l) (upd H l (.lst ys))) listF := fun {H0 H ds z vs Q} ex hd h k => by
  unfold listF at h
  split at h
  · cases h
    obtain ⟨v, r, e1, ⟨a, us, rfl, q1, q2⟩, e3⟩ := hd
    have e3 : r = [] := e3
    subst e3 e1
    refine ⟨a, us, rfl, .inl (SqL.of q1), fun p hp => ?_⟩
    have g := Gro.new (o := .lst us) ex hp
    exact k _ _ _ g ⟨p, _, rfl, upd_same, DdAll.mono g.ex _ _ q2⟩
  · cases h
def tupF : List PyData → Option PyData
  | [.list xs] => some (.tuple xs)
  | [.tuple xs] => some (.tuple xs)
  | _ => none
theorem tup_P : CallP K (fun xs H Q => ∃ p ys, xs = [.ref p] ∧ ((SqL K H p ys ∧ ∀ l, H l = none → Q (.ref l) (upd H l (.tup ys))) ∨ (SqT K H p ys ∧ Q (.ref p) H))) tupF := fun {H0 H ds z vs Q} ex hd h k => by
  unfold tupF at h
  split at h
  · cases h
    obtain ⟨v, r, e1, ⟨a, us, rfl, q1, q2⟩, e3⟩ := hd
    have e3 : r = [] := e3
    subst e3 e1
    refine ⟨a, us, rfl, .inl ⟨SqL.of q1, fun p hp => ?_⟩⟩
    have g := Gro.new (o := .tup us) ex hp
    exact k _ _ _ g ⟨p, _, rfl, .inl (.inl upd_same), DdAll.mono g.ex _ _ q2⟩
  · cases h
    obtain ⟨v, r, e1, ⟨a, us, rfl, q1, q2⟩, e3⟩ := hd
    have e3 : r = [] := e3
    subst e3 e1
    exact ⟨a, us, rfl, .inr ⟨sqT_mono ex q1, k _ H0 H (.refl ex) ⟨a, us, rfl, q1, q2⟩⟩⟩
  · cases h
end
end Ow
set_option Elab.async false
set_option linter.all false
set_option maxRecDepth 100000
set_option maxHeartbeats 4000000
namespace Ow
open PySem L2

/-! ### operators at a store -/
def iaddF : PyData → PyData → Option PyData
  | .int i, .int j => some (.int (i + j))
  | .str x, .str y => if x.length + y.length ≤ lim then some (.str (x ++ y)) else none
  | _, _ => none
section
variable {X : Cx} {K : PySem.W.Frag}
abbrev rIadd2 : R2 := fun x y H Q => (∃ i j, x = .int i ∧ y = .int j ∧ Q (.int (i + j)) H) ∨ (∃ i j, x = .str i ∧ y = .str j ∧ i.length + j.length ≤ sizeLine ∧ Q (.str (i ++ j)) H)
theorem or_iadd : PIp X .Add rIadd2 := OpR.or (r := rI0 fun i j => .int (i + j)) iop_add iop_add_str
theorem op_iaddP : OpP K rIadd2 iaddF := fun {H0 H d e z v u Q} ex hd he h k => by
  cases d with
  | int i =>
    cases e with
    | int j =>
      cases h
      exact .inl ⟨i, j, hd, he, k _ H0 H (.refl ex) rfl⟩
    | _ => cases h
  | str x =>
    cases e with
    | str y =>
      have h : (if x.length + y.length ≤ lim then some (PyData.str (x ++ y)) else none) = some z := h
      split at h
      · cases h
        rename_i hl
        exact .inr ⟨x, y, hd, he, lim_line hl, k _ H0 H (.refl ex) rfl⟩
      · cases h
    | _ => cases h
  | _ => cases h
theorem or_isub : PIp X .Sub (rI0 fun i j => .int (i - j)) := iop_sub
end

/-! ### methods of texts and tuples -/
def sM0 (o : Str → Option PyData) (f : SE) : SE := fun ds M => (f ds M).bind fun x => match x.1 with
  | .d (.str a) => (o a).bind fun z => some (.d z, x.2)
  | _ => none
def sM1 (o : Str → PyData → Option PyData) (f g : SE) : SE := fun ds M => (f ds M).bind fun x => match x.1 with
  | .d (.str a) => (g ds x.2).bind fun y => (view y.2 y.1).bind fun dy => (o a dy).bind fun z => some (.d z, y.2)
  | _ => none
def M0P (K : PySem.W.Frag) (r : V → List V → Hp → VK → Prop) (o : Str → Option PyData) : Prop := ∀ {H0 H : Hp} {a : Str} {z : PyData} {Q : VK}, Ex H0 H → o a = some z → (∀ w H0' H', Gro H0 H H0' H' → Dd K H0' z w → Q w H') → r (.str a) [] H Q
def M1P (K : PySem.W.Frag) (r : V → List V → Hp → VK → Prop) (o : Str → PyData → Option PyData) : Prop := ∀ {H0 H : Hp} {a : Str} {d z : PyData} {v : V} {Q : VK}, Ex H0 H → Dq K H0 H d v → o a d = some z → (∀ w H0' H', Gro H0 H H0' H' → Dd K H0' z w → Q w H') → r (.str a) [v] H Q
section
variable {X : Cx} {e o : Expr} {f g : SE} {apos pos : Pos} {id : String} {name : Str} {r : V → List V → Hp → VK → Prop}
theorem m0_read {K : PySem.W.Frag} {op : Str → Option PyData} (hp : M0P K r op) : ∀ σ H Q, tE K (sM0 op f) σ H Q → tM0 r (tE K f) σ H Q := fun σ H Q ⟨H0, th, ds, M, z, M', S, h, k⟩ => by
  obtain ⟨⟨x, M1⟩, h1, h⟩ := ob h
  refine tE.run S h1 fun v H1 H1' th1 s1 S1 r1 => ?_
  cases x with
  | d x =>
    cases x with
    | str a =>
      obtain ⟨y, h2, h⟩ := ob h
      cases h
      have r1 : v = .str a := r1
      subst r1
      exact ⟨⟨a, rfl⟩, hp S1.abs.ex h2 fun w H2 H2' g q => k w H2 H2' th1 (s1.trans g.stp) (g.abs S1.abs) q⟩
    | _ => cases h
  | _ => cases h
theorem m1_read {K : PySem.W.Frag} {op : Str → PyData → Option PyData} (hp : M1P K r op) : ∀ σ H Q, tE K (sM1 op f g) σ H Q → tM1 r (tE K f) (tE K g) σ H Q := fun σ H Q ⟨H0, th, ds, M, z, M', S, h, k⟩ => by
  obtain ⟨⟨x, M1⟩, h1, h⟩ := ob h
  refine tE.run S h1 fun v H1 H1' th1 s1 S1 r1 => ?_
  cases x with
  | d x =>
    cases x with
    | str a =>
      obtain ⟨⟨y, M2⟩, h2, h⟩ := ob h
      obtain ⟨dy, h3, h⟩ := ob h
      obtain ⟨dz, h4, h⟩ := ob h
      cases h
      have r1 : v = .str a := r1
      subst r1
      refine ⟨⟨a, rfl⟩, tE.run S1 h2 fun u H2 H2' th2 s2 S2 r2 => ?_⟩
      exact hp S2.abs.ex (S2.abs.view r2 h3) h4 fun w H3 H3' g q => k w H3 H3' th2 ((s1.trans s2).trans g.stp) (g.abs S2.abs) q
    | _ => cases h
  | _ => cases h
def lowF (a : Str) : Option PyData := if a.length ≤ lim then some (.str (Txt.lower a)) else none
theorem de_lower (ho : DE X o f) (hbase : attributeBase o "lower" X.env (eval o X.env) = eval o X.env := by rfl) (hline : (apos.endLine == pos.line) = true := by rfl) : DE X (.Call (.Attribute o "lower" apos) [] [] pos) (sM0 lowF f) :=
  PE.imp (pe_lower ho hbase hline) (m0_read fun {H0 H a z Q} ex h k => by
    unfold lowF at h
    split at h
    · rename_i hl
      cases h
      exact ⟨a, rfl, rfl, Nat.le_trans hl (by decide), k _ H0 H (.refl ex) rfl⟩
    · cases h)
def findF (a : Str) : PyData → Option PyData
  | .str b => some (.int (Txt.find a b))
  | _ => none
theorem de_find (ho : DE X o f) (he : DE X e g) (hs : starEach [e] X.env = [(false, eval e X.env)] := by rfl) (hbase : attributeBase o "find" X.env (eval o X.env) = eval o X.env := by rfl) (hline : (apos.endLine == pos.line) = true := by rfl) :
    DE X (.Call (.Attribute o "find" apos) [e] [] pos) (sM1 findF f g) :=
  PE.imp (pe_m1 PySem.F.slot_str_find PySem.F.type_str_find mt_find ho he hs hbase hline) (m1_read fun {H0 H a d z v Q} ex hd h k => by
    cases d with
    | str b => cases h; exact ⟨a, b, rfl, by rw [show v = .str b from hd], k _ H0 H (.refl ex) rfl⟩
    | _ => cases h)
def stripF (a : Str) : PyData → Option PyData
  | .str b => if a.length ≤ lim then some (.str (Txt.stripChars a b)) else none
  | _ => none
theorem de_strip (ho : DE X o f) (he : DE X e g) (hs : starEach [e] X.env = [(false, eval e X.env)] := by rfl) (hbase : attributeBase o "strip" X.env (eval o X.env) = eval o X.env := by rfl) (hline : (apos.endLine == pos.line) = true := by rfl) :
    DE X (.Call (.Attribute o "strip" apos) [e] [] pos) (sM1 stripF f g) :=
  PE.imp (pe_m1 PySem.F.slot_str_strip PySem.F.type_str_strip mt_stripChars ho he hs hbase hline) (m1_read fun {H0 H a d z v Q} ex hd h k => by
    cases d with
    | str b =>
      have h : (if a.length ≤ lim then some (PyData.str (Txt.stripChars a b)) else none) = some z := h
      split at h
      · rename_i hl
        cases h
        exact ⟨a, b, rfl, by rw [show v = .str b from hd], lim_line hl, k _ H0 H (.refl ex) rfl⟩
      · cases h
    | _ => cases h)
def strsO : List PyData → Option (List Str)
  | [] => some []
  | .str x :: r => (strsO r).bind fun ys => some (x :: ys)
  | _ => none
theorem strs_ok {K : PySem.W.Frag} {H0 : Hp} : ∀ {ds : List PyData} {ys : List Str} {vs : List V}, strsO ds = some ys → DdAll K H0 ds vs → vs = ys.map V.str
  | [], ys, vs, h, r => by cases h; exact r
  | d :: ds, ys, vs, h, ⟨v, w, e, r1, r2⟩ => by
    cases d with
    | str x =>
      obtain ⟨zs, h1, h2⟩ := ob (show ((strsO ds).bind fun ys => some (x :: ys)) = some ys from h)
      cases h2
      rw [e, strs_ok h1 r2, show v = .str x from r1]
      rfl
    | _ => cases h
def joinF (a : Str) : PyData → Option PyData
  | .list xs => (strsO xs).bind fun ys => if (ys.map (·.length)).sum + ys.length * a.length ≤ lim then some (.str (Txt.join a ys)) else none
  | _ => none
theorem de_join (ho : DE X o f) (he : DE X e g) (hs : starEach [e] X.env = [(false, eval e X.env)] := by rfl) (hbase : attributeBase o "join" X.env (eval o X.env) = eval o X.env := by rfl) (hline : (apos.endLine == pos.line) = true := by rfl) :
    DE X (.Call (.Attribute o "join" apos) [e] [] pos) (sM1 joinF f g) :=
  PE.imp (pe_join ho he hs hbase hline) (m1_read fun {H0 H a d z v Q} ex hd h k => by
    cases d with
    | list xs =>
      obtain ⟨ys, h1, h⟩ := ob (show ((strsO xs).bind fun ys => if (ys.map (·.length)).sum + ys.length * a.length ≤ lim then some (PyData.str (Txt.join a ys)) else none) = some z from h)
      split at h
      · rename_i hl
        cases h
        obtain ⟨p, us, rfl, q1, q2⟩ := hd
        have e := strs_ok h1 q2
        subst e
        exact ⟨a, p, ys, rfl, rfl, .inl (SqL.of q1), Nat.le_trans hl (by decide), k _ H0 H (.refl ex) rfl⟩
      · cases h
    | _ => cases h)
/-- a table of texts of the module: its place -/
structure GlT (K : PySem.W.Frag) (mg : Str → Option Value) (x : Str) (ys : List Str) : Prop where
  mgx : mg x = some (.ref (He.ga K x))
  sq : ∀ H, SqT K H (He.ga K x) (ys.map V.str)
  ob : ∃ o, K.lookup (He.ga K x) = some o ∧ o.cls = .type "tuple" ∧ o.dict = none
def sIndex (ys : List Str) (fa : SE) : SE := fun ds M => (fa ds M).bind fun x => match x.1 with
  | .d (.str z) => (ys.findIdx? fun y => decide (y = z)).bind fun j => some (.d (.int (j : Nat)), x.2)
  | _ => none
theorem de_index {x : Str} {ys : List Str} {p : Pos} (T : GlT X.K X.mg x ys) (ha : DE X e f) (hg : Gl X x := by rfl) (hd : (x == ("__debug__" : Str)) = false := by decide) (hbase : attributeBase (.Name x p) "index" X.env (eval (.Name x p) X.env) = eval (.Name x p) X.env := by rfl)
    (hfew : ((backTo pos (starEach [e] X.env)).all (fun x => !x.1) && (backToKw pos (keywordEach [] X.env)).all (fun x => x.1.isSome)
      && decide ([e].length + ([] : List Keyword).length + (if ([] : List Keyword).isEmpty then 0 else 1) < 30)) = true := by rfl)
    (hline : (apos.endLine == pos.line) = true := by rfl) (hs : starEach [e] X.env = (false, eval e X.env) :: starEach [] X.env := by rfl) (hplain : (backTo pos (starEach [] X.env)).any (·.1) = false := by rfl) :
    DE X (.Call (.Attribute (.Name x p) "index" apos) [e] [] pos) (sIndex ys f) :=
  PE.imp (pe_bm PySem.F.plainAttrs_tuple PySem.F.slot_tuple_index PySem.F.type_tuple_index mt_tup_index (pe_glob (v := .ref (He.ga X.K x)) hg T.mgx rfl hd) (pa_cons ha pa_nil hs) hbase hfew hline hs hplain) fun σ H Q ⟨H0, th, ds, M, z, M', S, h, k⟩ => by
    obtain ⟨⟨y, M1⟩, h1, h⟩ := ob h
    refine ⟨.inr (.inl ⟨rfl, T.ob⟩), tE.run S h1 fun v H1 H1' th1 s1 S1 r1 => ?_⟩
    cases y with
    | d y =>
      cases y with
      | str c =>
        obtain ⟨j, h2, h⟩ := Ow.ob (show ((ys.findIdx? fun y => decide (y = c)).bind fun j => some (DV.d (.int (j : Nat)), M1)) = some (z, M') from h)
        cases h
        obtain ⟨hj, q1, q2⟩ := List.findIdx?_eq_some_iff_getElem.mp h2
        have e1 : ys[j] = c := of_decide_eq_true q1
        refine ⟨He.ga X.K x, ys, c, j, rfl, by rw [show v = .str c from r1], T.sq _, by rw [List.getElem?_eq_getElem hj, e1], fun m hm hq => ?_, k _ H1 H1' th1 s1 S1.abs rfl⟩
        have hml : m < ys.length := Nat.lt_trans hm hj
        rw [List.getElem?_eq_getElem hml] at hq
        have := q2 m hm
        rw [decide_eq_true (Option.some.inj hq)] at this
        exact absurd this (by simp)
      | _ => cases h
    | _ => cases h
end

/-! ### max(.., default=0) -/
def intsO : List PyData → Option (List Int)
  | [] => some []
  | .int x :: r => (intsO r).bind fun ys => some (x :: ys)
  | _ => none
theorem ints_ok {K : PySem.W.Frag} {H0 : Hp} : ∀ {ds : List PyData} {ys : List Int} {vs : List V}, intsO ds = some ys → DdAll K H0 ds vs → vs = ys.map V.int
  | [], ys, vs, h, r => by cases h; exact r
  | d :: ds, ys, vs, h, ⟨v, w, e, r1, r2⟩ => by
    cases d with
    | int x =>
      obtain ⟨zs, h1, h2⟩ := ob (show ((intsO ds).bind fun ys => some (x :: ys)) = some ys from h)
      cases h2
      rw [e, ints_ok h1 r2, show v = .int x from r1]
      rfl
    | _ => cases h
def maxI (dflt : Int) : List Int → Int
  | [] => dflt
  | y :: ys => ys.foldl (fun a z => if a < z then z else a) y
def sMaxD (f g : SE) : SE := fun ds M => (f ds M).bind fun x => (g ds x.2).bind fun y => (view y.2 x.1).bind fun dx => match dx, y.1 with
  | .list xs, .d (.int d) => (intsO xs).bind fun ns => some (.d (.int (maxI d ns)), y.2)
  | _, _ => none
theorem de_maxD {X : Cx} {e e2 : Expr} {f g : SE} {p kp pos : Pos} {k : Nat} (hr : Room k X.A) (hm : X.mg "max" = none) (ha : DE X e f) (hb : DE X e2 g) (hc : X.calm = true := by rfl) (hg : Gl X "max" := by rfl) (hs : starEach [e] X.env = (false, eval e X.env) :: starEach [] X.env := by rfl)
    (he : backTo pos (starEach [e] X.env) = (false, eval e X.env) :: backTo pos (starEach [] X.env) := by rfl) (hplain : (backTo pos (starEach [e] X.env)).any (·.1) = false := by rfl) (hall : (backToKw pos (keywordEach [⟨some "default", e2, kp⟩] X.env)).all (·.1.isSome) = true := by rfl)
    (hkw : (backToKw pos (keywordEach [⟨some "default", e2, kp⟩] X.env)).any (·.1.isNone) = false := by rfl) (hks : (backToKw pos (keywordEach [⟨some "default", e2, kp⟩] X.env)).filterMap (·.1) = [("default" : Str)] := by rfl) :
    DE X (.Call (.Name "max" p) [e] [⟨some "default", e2, kp⟩] pos) (sMaxD f g) := ⟨fun pins s σ H Q I ⟨H0, th, ds, M, z, M', St, h, kk⟩ => by
  obtain ⟨⟨x, M1⟩, h1, h⟩ := ob h
  obtain ⟨⟨y, M2⟩, h2, h⟩ := ob h
  obtain ⟨dx, h3, h⟩ := ob h
  refine PySem.wpAny_Call_Name_kw (ld_blt I hg hm (by decide +kernel : PySem.bootBuiltins "max" = some (.builtin "max")) ?_)
  refine PyProof.Rows.callWith_kw ?_ he hplain hall hkw
  rw [hks]
  refine thn ((da_cons ha da_nil hs).run pos pins s σ H (fun vs H' => ∃ H1 th1 v, Stp H0 H th H1 H' th1 ∧ Sta X.K σ ds H1 H' th1 M1 ∧ RelD X.K th1 H1 x v ∧ vs = [v]) I (tA.run (r := [x]) (M' := M1) St (by unfold sCons sNil; rw [h1]; rfl) fun us H1 H1' th1 s1 S1 r1 => ?_)) fun us s1 ⟨vs, H1', I1, rv, q1⟩ => ?_
  · obtain ⟨v, w, e1, q1, q2⟩ := r1
    have q2 : w = [] := q2
    subst q2
    exact ⟨H1, th1, v, s1, S1, q1, e1⟩
  · obtain ⟨H1, th1, v, st1, S1, r1, rfl⟩ := q1
    obtain ⟨u, rfl, ru⟩ := vals1 rv
    refine thn ((pk_cons hb pk_nil).run pos pins s1 σ H1' (fun vs H' => ∃ H2 th2 v2, Stp H1 H1' th1 H2 H' th2 ∧ Sta X.K σ ds H2 H' th2 M2 ∧ RelD X.K th2 H2 y v2 ∧ vs = [v2]) I1 ?_) fun ws s2 ⟨zs, H2', I2, rz, q2⟩ => ?_
    · refine tE.run S1 h2 fun v2 H2 H2' th2 s2 S2 r2 => ?_
      exact ⟨H2, th2, v2, s2, S2, r2, rfl⟩
    · obtain ⟨H2, th2, v2, st2, S2, r2, rfl⟩ := q2
      obtain ⟨u2, rfl, ru2⟩ := vals1 rz
      cases dx with
      | list xs =>
        cases y with
        | d y =>
          cases y with
          | int d =>
            obtain ⟨ns, h4, h⟩ := ob (show ((intsO xs).bind fun ns => some (DV.d (.int (maxI d ns)), M2)) = some (z, M') from h)
            cases h
            obtain ⟨a, us, rfl, q3, q4⟩ := S2.abs.view (r1.step st2) h3
            have e4 := ints_ok h4 q4
            subst e4
            cases ru
            have r2 : v2 = .int d := r2
            subst r2
            obtain ⟨t, rfl⟩ := ru2
            obtain ⟨its, rits, pl, hz⟩ := I2.list (SqL.of q3)
            show wpAny _ _ (call (.builtin "max") [.ref a] [(Str.ofString "default", .int d t)]) _ _ s2
            refine PySem.W.max_list_datum_default (α := Int) (xs := ns) (I2.ok.hd hc) pl.isList (PySem.W.HoldAll.of_ints (by simpa using intsAre_of rits)) ?_ (fun e h' tk k => ?_) fun y ys i v h' tk e hi hv k => ?_
            · have := hr.units
              show X.A.units + 1 + 0 < cLine
              omega
            · subst e
              exact ⟨.int d, H2', I2.kept k, ⟨_, rfl⟩, kk _ H2 H2' th2 (st1.trans st2) S2.abs rfl⟩
            · subst e
              obtain ⟨t2, rfl⟩ := PySem.W.int_of_holds hv
              refine ⟨.int (maxI d (y :: ys)), H2', I2.kept k, ⟨t2, ?_⟩, kk _ H2 H2' th2 (st1.trans st2) S2.abs rfl⟩
              have : PySem.W.maxOf y ys = maxI d (y :: ys) := by
                show ys.foldl (fun a y => if decide (a < y) = true then y else a) y = ys.foldl (fun a z => if a < z then z else a) y
                congr 1
                funext a y
                by_cases q : a < y
                · rw [if_pos q, if_pos (decide_eq_true q)]
                · rw [if_neg q, if_neg (by rw [decide_eq_false q]; exact Bool.false_ne_true)]
              rw [this]
          | _ => cases h
        | _ => cases h
      | _ => cases h⟩
end Ow
set_option Elab.async false
set_option linter.all false
set_option maxRecDepth 100000
set_option maxHeartbeats 4000000
namespace Ow
open PySem PySem.W L2 PyProof.Rows
def two (n : Nat) : Str := ⟨#[48 + n / 10, 48 + n % 10]⟩
abbrev Fmts (i : Int) (sp y : Str) : Prop := ∀ (t u : Tok), Meets (Builtin.«int.__format__» ⟨[.int i t, .str sp u], []⟩) (fun _ R s => ∀ t' k, R (.ok (.ret (.str y t'))) { s with toks := k })
theorem f02_0 : Fmts 0 "02d" ⟨#[48, 48]⟩ := by
  intro t u
  kxf_run_i
theorem f02_1 : Fmts 1 "02d" ⟨#[48, 49]⟩ := by
  intro t u
  kxf_run_i
theorem f02_2 : Fmts 2 "02d" ⟨#[48, 50]⟩ := by
  intro t u
  kxf_run_i
theorem f02_3 : Fmts 3 "02d" ⟨#[48, 51]⟩ := by
  intro t u
  kxf_run_i
theorem f02_4 : Fmts 4 "02d" ⟨#[48, 52]⟩ := by
  intro t u
  kxf_run_i
theorem f02_5 : Fmts 5 "02d" ⟨#[48, 53]⟩ := by
  intro t u
  kxf_run_i
theorem f02_6 : Fmts 6 "02d" ⟨#[48, 54]⟩ := by
  intro t u
  kxf_run_i
theorem f02_7 : Fmts 7 "02d" ⟨#[48, 55]⟩ := by
  intro t u
  kxf_run_i
theorem f02_8 : Fmts 8 "02d" ⟨#[48, 56]⟩ := by
  intro t u
  kxf_run_i
theorem f02_9 : Fmts 9 "02d" ⟨#[48, 57]⟩ := by
  intro t u
  kxf_run_i
theorem f02_10 : Fmts 10 "02d" ⟨#[49, 48]⟩ := by
  intro t u
  kxf_run_i
theorem f02_11 : Fmts 11 "02d" ⟨#[49, 49]⟩ := by
  intro t u
  kxf_run_i
theorem f02_12 : Fmts 12 "02d" ⟨#[49, 50]⟩ := by
  intro t u
  kxf_run_i
theorem f02_13 : Fmts 13 "02d" ⟨#[49, 51]⟩ := by
  intro t u
  kxf_run_i
theorem f02_14 : Fmts 14 "02d" ⟨#[49, 52]⟩ := by
  intro t u
  kxf_run_i
theorem f02_15 : Fmts 15 "02d" ⟨#[49, 53]⟩ := by
  intro t u
  kxf_run_i
theorem f02_16 : Fmts 16 "02d" ⟨#[49, 54]⟩ := by
  intro t u
  kxf_run_i
theorem f02_17 : Fmts 17 "02d" ⟨#[49, 55]⟩ := by
  intro t u
  kxf_run_i
theorem f02_18 : Fmts 18 "02d" ⟨#[49, 56]⟩ := by
  intro t u
  kxf_run_i
theorem f02_19 : Fmts 19 "02d" ⟨#[49, 57]⟩ := by
  intro t u
  kxf_run_i
theorem f02_20 : Fmts 20 "02d" ⟨#[50, 48]⟩ := by
  intro t u
  kxf_run_i
theorem f02_21 : Fmts 21 "02d" ⟨#[50, 49]⟩ := by
  intro t u
  kxf_run_i
theorem f02_22 : Fmts 22 "02d" ⟨#[50, 50]⟩ := by
  intro t u
  kxf_run_i
theorem f02_23 : Fmts 23 "02d" ⟨#[50, 51]⟩ := by
  intro t u
  kxf_run_i
theorem f02_24 : Fmts 24 "02d" ⟨#[50, 52]⟩ := by
  intro t u
  kxf_run_i
theorem f02_25 : Fmts 25 "02d" ⟨#[50, 53]⟩ := by
  intro t u
  kxf_run_i
theorem f02_26 : Fmts 26 "02d" ⟨#[50, 54]⟩ := by
  intro t u
  kxf_run_i
theorem f02_27 : Fmts 27 "02d" ⟨#[50, 55]⟩ := by
  intro t u
  kxf_run_i
theorem f02_28 : Fmts 28 "02d" ⟨#[50, 56]⟩ := by
  intro t u
  kxf_run_i
theorem f02_29 : Fmts 29 "02d" ⟨#[50, 57]⟩ := by
  intro t u
  kxf_run_i
theorem f02_30 : Fmts 30 "02d" ⟨#[51, 48]⟩ := by
  intro t u
  kxf_run_i
theorem f02_31 : Fmts 31 "02d" ⟨#[51, 49]⟩ := by
  intro t u
  kxf_run_i
theorem f02_32 : Fmts 32 "02d" ⟨#[51, 50]⟩ := by
  intro t u
  kxf_run_i
theorem f02_33 : Fmts 33 "02d" ⟨#[51, 51]⟩ := by
  intro t u
  kxf_run_i
theorem f02_34 : Fmts 34 "02d" ⟨#[51, 52]⟩ := by
  intro t u
  kxf_run_i
theorem f02_35 : Fmts 35 "02d" ⟨#[51, 53]⟩ := by
  intro t u
  kxf_run_i
theorem f02_36 : Fmts 36 "02d" ⟨#[51, 54]⟩ := by
  intro t u
  kxf_run_i
theorem f02_37 : Fmts 37 "02d" ⟨#[51, 55]⟩ := by
  intro t u
  kxf_run_i
theorem f02_38 : Fmts 38 "02d" ⟨#[51, 56]⟩ := by
  intro t u
  kxf_run_i
theorem f02_39 : Fmts 39 "02d" ⟨#[51, 57]⟩ := by
  intro t u
  kxf_run_i
theorem f02_40 : Fmts 40 "02d" ⟨#[52, 48]⟩ := by
  intro t u
  kxf_run_i
theorem f02_41 : Fmts 41 "02d" ⟨#[52, 49]⟩ := by
  intro t u
  kxf_run_i
theorem f02_42 : Fmts 42 "02d" ⟨#[52, 50]⟩ := by
  intro t u
  kxf_run_i
theorem f02_43 : Fmts 43 "02d" ⟨#[52, 51]⟩ := by
  intro t u
  kxf_run_i
theorem f02_44 : Fmts 44 "02d" ⟨#[52, 52]⟩ := by
  intro t u
  kxf_run_i
theorem f02_45 : Fmts 45 "02d" ⟨#[52, 53]⟩ := by
  intro t u
  kxf_run_i
theorem f02_46 : Fmts 46 "02d" ⟨#[52, 54]⟩ := by
  intro t u
  kxf_run_i
theorem f02_47 : Fmts 47 "02d" ⟨#[52, 55]⟩ := by
  intro t u
  kxf_run_i
theorem f02_48 : Fmts 48 "02d" ⟨#[52, 56]⟩ := by
  intro t u
  kxf_run_i
theorem f02_49 : Fmts 49 "02d" ⟨#[52, 57]⟩ := by
  intro t u
  kxf_run_i
theorem f02_50 : Fmts 50 "02d" ⟨#[53, 48]⟩ := by
  intro t u
  kxf_run_i
theorem f02_51 : Fmts 51 "02d" ⟨#[53, 49]⟩ := by
  intro t u
  kxf_run_i
theorem f02_52 : Fmts 52 "02d" ⟨#[53, 50]⟩ := by
  intro t u
  kxf_run_i
theorem f02_53 : Fmts 53 "02d" ⟨#[53, 51]⟩ := by
  intro t u
  kxf_run_i
theorem f02_54 : Fmts 54 "02d" ⟨#[53, 52]⟩ := by
  intro t u
  kxf_run_i
theorem f02_55 : Fmts 55 "02d" ⟨#[53, 53]⟩ := by
  intro t u
  kxf_run_i
theorem f02_56 : Fmts 56 "02d" ⟨#[53, 54]⟩ := by
  intro t u
  kxf_run_i
theorem f02_57 : Fmts 57 "02d" ⟨#[53, 55]⟩ := by
  intro t u
  kxf_run_i
theorem f02_58 : Fmts 58 "02d" ⟨#[53, 56]⟩ := by
  intro t u
  kxf_run_i
theorem f02_59 : Fmts 59 "02d" ⟨#[53, 57]⟩ := by
  intro t u
  kxf_run_i
theorem f04 : Fmts 1970 "04d" ⟨#[49, 57, 55, 48]⟩ := by
  intro t u
  kxf_run_i
theorem f02 : ∀ n : Nat, n < 60 → Fmts n "02d" (two n)
  | 0, _ => f02_0
  | 1, _ => f02_1
  | 2, _ => f02_2
  | 3, _ => f02_3
  | 4, _ => f02_4
  | 5, _ => f02_5
  | 6, _ => f02_6
  | 7, _ => f02_7
  | 8, _ => f02_8
  | 9, _ => f02_9
  | 10, _ => f02_10
  | 11, _ => f02_11
  | 12, _ => f02_12
  | 13, _ => f02_13
  | 14, _ => f02_14
  | 15, _ => f02_15
  | 16, _ => f02_16
  | 17, _ => f02_17
  | 18, _ => f02_18
  | 19, _ => f02_19
  | 20, _ => f02_20
  | 21, _ => f02_21
  | 22, _ => f02_22
  | 23, _ => f02_23
  | 24, _ => f02_24
  | 25, _ => f02_25
  | 26, _ => f02_26
  | 27, _ => f02_27
  | 28, _ => f02_28
  | 29, _ => f02_29
  | 30, _ => f02_30
  | 31, _ => f02_31
  | 32, _ => f02_32
  | 33, _ => f02_33
  | 34, _ => f02_34
  | 35, _ => f02_35
  | 36, _ => f02_36
  | 37, _ => f02_37
  | 38, _ => f02_38
  | 39, _ => f02_39
  | 40, _ => f02_40
  | 41, _ => f02_41
  | 42, _ => f02_42
  | 43, _ => f02_43
  | 44, _ => f02_44
  | 45, _ => f02_45
  | 46, _ => f02_46
  | 47, _ => f02_47
  | 48, _ => f02_48
  | 49, _ => f02_49
  | 50, _ => f02_50
  | 51, _ => f02_51
  | 52, _ => f02_52
  | 53, _ => f02_53
  | 54, _ => f02_54
  | 55, _ => f02_55
  | 56, _ => f02_56
  | 57, _ => f02_57
  | 58, _ => f02_58
  | 59, _ => f02_59
  | n + 60, h => absurd h (by omega)
end Ow
set_option Elab.async false
set_option linter.all false
set_option maxRecDepth 100000
set_option maxHeartbeats 4000000
namespace Ow
open PySem PySem.W L2 PyProof.Rows
def fmtF : PyData → Option PyData
  | .str y => if y.length ≤ lim then some (.str y) else none
  | _ => none
def fmt2F : PyData → Option PyData
  | .int i => if 0 ≤ i ∧ i < 60 then some (.str (two i.toNat)) else none
  | _ => none
def fmt4F : PyData → Option PyData
  | .int i => if i = 1970 then some (.str ⟨#[49, 57, 55, 48]⟩) else none
  | _ => none
section
variable {X : Cx} {e : Expr} {pos p1 p2 : Pos} {f : SE} {j : Nat}
theorem de_fmt (he : DE X e f) : DE X (.FormattedValue e (-1) none pos) (sUn fmtF f) := PE.imp (pe_fmt he) fun σ H Q ⟨H0, th, ds, M, z, M', S, h, k⟩ => by
  obtain ⟨⟨x, M1⟩, h1, h⟩ := ob h
  obtain ⟨dx, h3, h⟩ := ob h
  obtain ⟨dz, h5, h⟩ := ob h
  cases h
  refine tE.run S h1 fun v H1 H1' th1 s1 S1 r1 => ?_
  have r2 := S1.abs.view r1 h3
  unfold fmtF at h5
  split at h5
  · split at h5
    · rename_i y hl
      cases h5
      exact .inl ⟨y, r2, lim_line hl, k _ H1 H1' th1 s1 S1.abs rfl⟩
    · cases h5
  · cases h5
theorem de_spec {o : PyData → Option PyData} {sp : Str} (hne : (sp.length == 0) = false) (hz : sp.length ≤ sizeLine) (ho : ∀ d z, o d = some z → ∃ i y, d = .int i ∧ z = .str y ∧ Fmts i sp y) (he : DE X e f) : DE X (.FormattedValue e (-1) (some (.JoinedStr [.Constant (.str sp) j p1] p2)) pos) (sUn o f) :=
  ⟨fun pins s σ H Q I ⟨H0, th, ds, M, z, M', S, h, k⟩ => by
    obtain ⟨⟨x, M1⟩, h1, h⟩ := ob h
    obtain ⟨dx, h3, h⟩ := ob h
    obtain ⟨dz, h5, h⟩ := ob h
    cases h
    refine wpAny_FormattedValue_spec (thn (he.run pins s σ H (fun v H1' => ∃ H1 th1, Stp H0 H th H1 H1' th1 ∧ Sta X.K σ ds H1 H1' th1 M1 ∧ RelD X.K th1 H1 x v) I (tE.run S h1 fun v H1 H1' th1 s1 S1 r1 => ⟨H1, th1, s1, S1, r1⟩)) fun v s1 ⟨w, H1', I1, rv, q⟩ => ?_)
    obtain ⟨H1, th1, st1, S1, r1⟩ := q
    refine thn ((pe_joined1 (pe_str (X := X) (x := sp))).run pins s1 σ H1' (fun v H2 => v = .str sp ∧ H2 = H1') I1 ⟨rfl, rfl⟩) fun r s2 ⟨w2, H2', I2, rw2, q2⟩ => ?_
    obtain ⟨rfl, rfl⟩ := q2
    obtain ⟨t, rfl⟩ := rw2
    refine ⟨sp, t, rfl, ?_⟩
    obtain ⟨i, y, rfl, rfl, g⟩ := ho _ _ h5
    have r3 : w = .int i := S1.abs.view r1 h3
    subst r3
    obtain ⟨t2, rfl⟩ := rv
    exact KXf.field_int rfl hne hz (g _) fun t' k' => ⟨.str y, _, I2.tok _, ⟨_, rfl⟩, k _ H1 _ th1 st1 S1.abs rfl⟩⟩
theorem de_fmt2 (he : DE X e f) : DE X (.FormattedValue e (-1) (some (.JoinedStr [.Constant (.str "02d") j p1] p2)) pos) (sUn fmt2F f) := de_spec (by decide +kernel) (by decide +kernel) (fun d z h => by
  unfold fmt2F at h
  split at h
  · split at h
    · rename_i i hi
      cases h
      refine ⟨i, _, rfl, rfl, ?_⟩
      have := f02 i.toNat (by omega)
      rw [Int.toNat_of_nonneg hi.1] at this
      exact this
    · cases h
  · cases h) he
theorem de_fmt4 (he : DE X e f) : DE X (.FormattedValue e (-1) (some (.JoinedStr [.Constant (.str "04d") j p1] p2)) pos) (sUn fmt4F f) := de_spec (by decide +kernel) (by decide +kernel) (fun d z h => by
  unfold fmt4F at h
  split at h
  · split at h
    · rename_i i hi
      cases h
      subst hi
      exact ⟨_, _, rfl, rfl, f04⟩
    · cases h
  · cases h) he
def sJs : List SE → Str → DS → Mem → Option (Str × Mem)
  | [], acc, _, M => some (acc, M)
  | f :: fs, acc, ds, M => (f ds M).bind fun x => match x.1 with
    | .d (.str y) => if (acc ++ y).length ≤ lim then sJs fs (acc ++ y) ds x.2 else none
    | _ => none
def sJoin (fs : List SE) : SE := fun ds M => (sJs fs Str.empty ds M).bind fun x => some (.d (.str x.1), x.2)
structure DJ (X : Cx) (es : List Expr) (fs : List SE) : Prop where
  h : PJ X es (fs.map (tE X.K))
theorem dj_nil : DJ X [] [] := ⟨.nil⟩
theorem dj_cons {es : List Expr} {fs : List SE} (h : DE X e f) (r : DJ X es fs) : DJ X (e :: es) (f :: fs) := ⟨.cons h r.h⟩
theorem js_read {K : PySem.W.Frag} {σ : L2.St} {ds : DS} : ∀ {fs : List SE} {acc : Str} {H0 H : Hp} {th : List Addr} {M M' : Mem} {out : Str} {Q : Str → Hp → Prop}, Sta K σ ds H0 H th M → sJs fs acc ds M = some (out, M') →
    (∀ H0' H' th', Stp H0 H th H0' H' th' → Abs K th' H0' H' M' → Q out H') → tJs (fs.map (tE K)) acc σ H Q
  | [], acc, H0, H, th, M, M', out, Q, S, h, k => by
    cases h
    exact k H0 H th .refl S.abs
  | f :: fs, acc, H0, H, th, M, M', out, Q, S, h, k => by
    obtain ⟨⟨x, M1⟩, h1, h⟩ := ob h
    refine tE.run S h1 fun v H1 H1' th1 s1 S1 r1 => ?_
    cases x with
    | d x =>
      cases x with
      | str y =>
        have h : (if (acc ++ y).length ≤ lim then sJs fs (acc ++ y) ds M1 else none) = some (out, M') := h
        split at h
        · rename_i hl
          exact ⟨y, r1, lim_line hl, js_read S1 h fun H2 H2' th2 s2 A2 => k H2 H2' th2 (s1.trans s2) A2⟩
        · cases h
      | _ => cases h
    | _ => cases h
theorem de_joined {v1 v2 : Expr} {rest : List Expr} {fs : List SE} (h : DJ X (v1 :: v2 :: rest) fs) : DE X (.JoinedStr (v1 :: v2 :: rest) pos) (sJoin fs) := PE.imp (pe_joined h.h) fun σ H Q ⟨H0, th, ds, M, z, M', S, h, k⟩ => by
  obtain ⟨⟨x, M1⟩, h1, h⟩ := ob h
  cases h
  exact js_read (Q := fun out H1 => Q (.str out) H1) S h1 fun H1 H1' th1 s1 A1 => k _ H1 H1' th1 s1 A1 rfl
end
end Ow
set_option Elab.async false
set_option linter.all false
set_option maxRecDepth 100000
set_option maxHeartbeats 4000000
namespace Ow
open PySem L2

def fuel : Nat := 1000001
abbrev c_SIGNS : PyData := .str " !\"#$&'()*+,-./0123456789:;<=>?@ABCDEFGHIJKLMNOPQRSTUVWXYZ[\\]^_`abcdefghijklmnopqrstuvwxyz{|}~"
abbrev c_TOKEN_MARKS : PyData := .str "!#$&'*+-.^_|~`"
abbrev c_PERCENT : PyData := .int 37
abbrev c_TAB : PyData := .int 9
abbrev c_DIGITS : PyData := .str "0123456789"
abbrev c_WEEKDAYS : PyData := .tuple [(.str "Monday"), (.str "Tuesday"), (.str "Wednesday"), (.str "Thursday"), (.str "Friday"), (.str "Saturday"), (.str "Sunday")]
abbrev c_MONTHS : PyData := .tuple [(.str "Jan"), (.str "Feb"), (.str "Mar"), (.str "Apr"), (.str "May"), (.str "Jun"), (.str "Jul"), (.str "Aug"), (.str "Sep"), (.str "Oct"), (.str "Nov"), (.str "Dec")]
abbrev c_DAY : PyData := .int 86400
abbrev c_MOST_SECONDS : PyData := .int 2147483648
abbrev c_LASTING : PyData := .tuple [(.int 200), (.int 203), (.int 204), (.int 300), (.int 301), (.int 404), (.int 405), (.int 410), (.int 414), (.int 501)]
abbrev c_KEPT : PyData := .tuple [(.int 200), (.int 203), (.int 300), (.int 301), (.int 404), (.int 410)]
abbrev c_STAYING : PyData := .tuple [(.str "content-length"), (.str "content-range"), (.str "content-encoding"), (.str "content-type")]
abbrev c_PASSING : PyData := .tuple [(.str "range"), (.str "if-range"), (.str "if-match"), (.str "if-unmodified-since")]
abbrev c_KNOWING : PyData := .tuple [(.str "if-none-match"), (.str "if-modified-since")]
abbrev c_TOLD : PyData := .tuple [(.str "date"), (.str "etag"), (.str "last-modified"), (.str "cache-control"), (.str "vary"), (.str "expires"), (.str "age")]
abbrev months : List Str := ["Jan", "Feb", "Mar", "Apr", "May", "Jun", "Jul", "Aug", "Sep", "Oct", "Nov", "Dec"]
noncomputable def g__law_draw : SS := (sSeq (sSet 1 (sC (.int 7)))
  (sSeq (sFor (.n 2) (iL (sVar 0)) (sSet 1 (sOp modF (sCB intF (sCons (sOp addF (sOp addF (sOp mulF (sVar 1) (sC (.int 48271))) (sOp modF (sCB absF (sCons (sCB intF (sCons (sVar 2) sNil)) sNil)) (sC (.int 65521)))) (sC (.int 1))) sNil)) (sC (.int 2147483647)))))
  (sRet (sNew (sLst (sCons (sFrz (sLc (.n 2) (iL (sVar 0)) sYes (sCB absF (sCons (sCB intF (sCons (sVar 2) sNil)) sNil)) [2])) (sCons (sUn negF (sC (.int 1))) (sCons (sC (.int 0)) (sCons (sVar 1) sNil)))))))))
noncomputable def F__law_draw : DF := fnD 1 3 g__law_draw
noncomputable def g_Told_init : SS := (sSeq (sFldSet "Told" "_responses" (sVar 0) (sCB listF (sCons (sVar 1) sNil)))
  (sFldSet "Told" "_asked" (sVar 0) (sNew (sLst sNil))))
noncomputable def F_Told_init : DF := fnD 2 2 g_Told_init
noncomputable def g__law_take : SS := (sSeq (sIf (isB (sOp eqF (sOp ixF (sVar 0) (sC (.int 2))) (sC (.int 0)))) (sSeq (sLSet (sVar 0) (sC (.int 1)) (sOp addF (sOp ixF (sVar 0) (sC (.int 1))) (sC (.int 1))))
  (sSeq (sIf (isB (sOp ltF (sOp ixF (sVar 0) (sC (.int 1))) (sCB lenF (sCons (sOp ixF (sVar 0) (sC (.int 0))) sNil)))) (sLSet (sVar 0) (sC (.int 2)) (sOp ixF (sOp ixF (sVar 0) (sC (.int 0))) (sOp ixF (sVar 0) (sC (.int 1))))) sSkip)
  (sIf (isB (sOp eqF (sOp ixF (sVar 0) (sC (.int 2))) (sC (.int 0)))) (sSeq (sLSet (sVar 0) (sC (.int 3)) (sOp modF (sCB intF (sCons (sOp addF (sOp mulF (sOp ixF (sVar 0) (sC (.int 3))) (sC (.int 48271))) (sC (.int 11))) sNil)) (sC (.int 2147483647))))
  (sLSet (sVar 0) (sC (.int 2)) (sOp ixF (sVar 0) (sC (.int 3))))) sSkip))) sSkip)
  (sSeq (sSet 2 (sOp modF (sCB intF (sCons (sOp ixF (sVar 0) (sC (.int 2))) sNil)) (sVar 1)))
  (sSeq (sLSet (sVar 0) (sC (.int 2)) (sOp divF (sOp ixF (sVar 0) (sC (.int 2))) (sVar 1)))
  (sRet (sVar 2)))))
noncomputable def F__law_take : DF := fnD 2 3 g__law_take
noncomputable def g_Shelf_init : SS := (sSeq (sFldSet "Shelf" "_room" (sVar 0) (sVar 1))
  (sFldSet "Shelf" "_rows" (sVar 0) (sFrz (sLst sNil))))
noncomputable def F_Shelf_init : DF := fnD 2 2 g_Shelf_init
noncomputable def g_Keeper_init : SS := (sSeq (sFldSet "Keeper" "_origin" (sVar 0) (sVar 1))
  (sFldSet "Keeper" "_shelf" (sVar 0) (sMake "Shelf" F_Shelf_init (sCons (sVar 2) sNil))))
noncomputable def F_Keeper_init : DF := fnD 3 3 g_Keeper_init
noncomputable def g_date_of : SS := (sSeq (sAug 0 iaddF (sC (.int 719468)))
  (sSeq (sSet 1 (sOp divF (sVar 0) (sC (.int 146097))))
  (sSeq (sSet 2 (sOp subF (sVar 0) (sOp mulF (sVar 1) (sC (.int 146097)))))
  (sSeq (sSet 3 (sOp divF (sOp subF (sOp addF (sOp subF (sVar 2) (sOp divF (sVar 2) (sC (.int 1460)))) (sOp divF (sVar 2) (sC (.int 36524)))) (sOp divF (sVar 2) (sC (.int 146096)))) (sC (.int 365))))
  (sSeq (sAug 2 subF (sOp subF (sOp addF (sOp mulF (sVar 3) (sC (.int 365))) (sOp divF (sVar 3) (sC (.int 4)))) (sOp divF (sVar 3) (sC (.int 100)))))
  (sSeq (sSet 4 (sOp divF (sOp addF (sOp mulF (sC (.int 5)) (sVar 2)) (sC (.int 2))) (sC (.int 153))))
  (sSeq (sSet 5 (sOp addF (sOp subF (sVar 2) (sOp divF (sOp addF (sOp mulF (sC (.int 153)) (sVar 4)) (sC (.int 2))) (sC (.int 5)))) (sC (.int 1))))
  (sSeq (sSet 6 (sOp addF (sOp mulF (sVar 1) (sC (.int 400))) (sVar 3)))
  (sSeq (sIf (isB (sOp ltF (sVar 4) (sC (.int 10)))) (sRet (sTup (sCons (sVar 6) (sCons (sOp addF (sVar 4) (sC (.int 3))) (sCons (sVar 5) sNil))))) sSkip)
  (sRet (sTup (sCons (sOp addF (sVar 6) (sC (.int 1))) (sCons (sOp subF (sVar 4) (sC (.int 9))) (sCons (sVar 5) sNil))))))))))))))
noncomputable def F_date_of : DF := fnD 1 7 g_date_of
noncomputable def g_weekday_of : SS := (sRet (sOp modF (sOp addF (sVar 0) (sC (.int 3))) (sC (.int 7))))
noncomputable def F_weekday_of : DF := fnD 1 1 g_weekday_of
noncomputable def g_write_date : SS := (sSeq (sSet 1 (sOp divF (sVar 0) (sC c_DAY)))
  (sSeq (sSet 2 (sOp subF (sVar 0) (sOp mulF (sVar 1) (sC c_DAY))))
  (sSeq (sSetP (.t [5, 6, 7]) (sPure F_date_of (sCons (sVar 1) sNil)))
  (sSeq (sSet 3 (sSl slF (sOp ixF (sC c_WEEKDAYS) (sPure F_weekday_of (sCons (sVar 1) sNil))) sNoP (sPart (sC (.int 3)))))
  (sSeq (sSet 4 (sJoin [(sUn fmt2F (sOp divF (sVar 2) (sC (.int 3600)))), (sC (.str ":")), (sUn fmt2F (sOp subF (sOp divF (sVar 2) (sC (.int 60))) (sOp mulF (sOp divF (sVar 2) (sC (.int 3600))) (sC (.int 60))))), (sC (.str ":")), (sUn fmt2F (sOp subF (sVar 2) (sOp mulF (sOp divF (sVar 2) (sC (.int 60))) (sC (.int 60)))))]))
  (sRet (sJoin [(sUn fmtF (sVar 3)), (sC (.str ", ")), (sUn fmt2F (sVar 7)), (sC (.str " ")), (sUn fmtF (sOp ixF (sC c_MONTHS) (sOp subF (sVar 6) (sC (.int 1))))), (sC (.str " ")), (sUn fmt4F (sVar 5)), (sC (.str " ")), (sUn fmtF (sVar 4)), (sC (.str " GMT"))])))))))
noncomputable def F_write_date : DF := fnD 1 8 g_write_date
noncomputable def g__law_response : SS := (sSeq (sSet 2 (sOp ixF (sFrz (sLst (sCons (sC (.int 200)) (sCons (sC (.int 200)) (sCons (sC (.int 200)) (sCons (sC (.int 203)) (sCons (sC (.int 300)) (sCons (sC (.int 301)) (sCons (sC (.int 404)) (sCons (sC (.int 410)) (sCons (sC (.int 204)) (sCons (sC (.int 405)) (sCons (sC (.int 500)) (sCons (sC (.int 302)) (sCons (sC (.int 206)) sNil))))))))))))))) (sOne F__law_take (sCons (sVar 0) (sCons (sC (.int 13)) sNil)))))
  (sSeq (sSet 3 (sNew (sLst sNil)))
  (sSeq (sIf (isB (sOp gtF (sOne F__law_take (sCons (sVar 0) (sCons (sC (.int 8)) sNil))) (sC (.int 0)))) (sDrop (sApp (sVar 3) (sCons (sTup (sCons (sC (.str "date")) (sCons (sPure F_write_date (sCons (sCB max2F (sCons (sC (.int 0)) (sCons (sOp subF (sVar 1) (sOp ixF (sFrz (sLst (sCons (sC (.int 0)) (sCons (sC (.int 0)) (sCons (sC (.int 1)) (sCons (sC (.int 30)) (sCons (sC (.int 200)) sNil))))))) (sOne F__law_take (sCons (sVar 0) (sCons (sC (.int 5)) sNil))))) sNil))) sNil)) sNil))) sNil))) sSkip)
  (sSeq (sIf (isB (sOp eqF (sOne F__law_take (sCons (sVar 0) (sCons (sC (.int 16)) sNil))) (sC (.int 0)))) (sDrop (sApp (sVar 3) (sCons (sTup (sCons (sC (.str "date")) (sCons (sC (.str "soon")) sNil))) sNil))) sSkip)
  (sSeq (sIf (isB (sOp eqF (sOne F__law_take (sCons (sVar 0) (sCons (sC (.int 2)) sNil))) (sC (.int 0)))) (sSeq (sSet 6 (sFrz (sLst (sCons (sC (.str "max-age=60")) (sCons (sC (.str "max-age=0")) (sCons (sC (.str "max-age=x")) (sCons (sC (.str "no-store")) (sCons (sC (.str "no-cache")) (sCons (sC (.str "max-age=90, must-revalidate")) (sCons (sC (.str "public")) sNil))))))))))
  (sDrop (sApp (sVar 3) (sCons (sTup (sCons (sC (.str "cache-control")) (sCons (sOp ixF (sVar 6) (sOne F__law_take (sCons (sVar 0) (sCons (sC (.int 7)) sNil)))) sNil))) sNil)))) sSkip)
  (sSeq (sIf (isB (sOp eqF (sOne F__law_take (sCons (sVar 0) (sCons (sC (.int 3)) sNil))) (sC (.int 0)))) (sDrop (sApp (sVar 3) (sCons (sTup (sCons (sC (.str "expires")) (sCons (sOp ixF (sFrz (sLst (sCons (sPure F_write_date (sCons (sCB max2F (sCons (sC (.int 0)) (sCons (sOp subF (sOp addF (sVar 1) (sOne F__law_take (sCons (sVar 0) (sCons (sC (.int 200)) sNil)))) (sC (.int 50))) sNil))) sNil)) (sCons (sC (.str "0")) sNil)))) (sOp divF (sOne F__law_take (sCons (sVar 0) (sCons (sC (.int 5)) sNil))) (sC (.int 4)))) sNil))) sNil))) sSkip)
  (sSeq (sIf (isB (sOp eqF (sOne F__law_take (sCons (sVar 0) (sCons (sC (.int 2)) sNil))) (sC (.int 0)))) (sDrop (sApp (sVar 3) (sCons (sTup (sCons (sC (.str "last-modified")) (sCons (sPure F_write_date (sCons (sCB max2F (sCons (sC (.int 0)) (sCons (sOp subF (sVar 1) (sOp ixF (sFrz (sLst (sCons (sC (.int 0)) (sCons (sC (.int 100)) (sCons (sC (.int 2000)) (sCons (sC (.int 50000)) sNil)))))) (sOne F__law_take (sCons (sVar 0) (sCons (sC (.int 4)) sNil))))) sNil))) sNil)) sNil))) sNil))) sSkip)
  (sSeq (sIf (isB (sOp eqF (sOne F__law_take (sCons (sVar 0) (sCons (sC (.int 4)) sNil))) (sC (.int 0)))) (sDrop (sApp (sVar 3) (sCons (sTup (sCons (sC (.str "age")) (sCons (sOp ixF (sFrz (sLst (sCons (sC (.str "0")) (sCons (sC (.str "20")) (sCons (sC (.str "100")) (sCons (sC (.str "x")) (sCons (sC (.str "99999999999")) sNil))))))) (sOne F__law_take (sCons (sVar 0) (sCons (sC (.int 5)) sNil)))) sNil))) sNil))) sSkip)
  (sSeq (sIf (isB (sOp gtF (sOne F__law_take (sCons (sVar 0) (sCons (sC (.int 3)) sNil))) (sC (.int 0)))) (sDrop (sApp (sVar 3) (sCons (sTup (sCons (sC (.str "etag")) (sCons (sOp ixF (sFrz (sLst (sCons (sC (.str "\"a\"")) (sCons (sC (.str "\"b\"")) (sCons (sC (.str "W/\"a\"")) (sCons (sC (.str "a")) sNil)))))) (sOne F__law_take (sCons (sVar 0) (sCons (sC (.int 4)) sNil)))) sNil))) sNil))) sSkip)
  (sSeq (sIf (isB (sOp eqF (sOne F__law_take (sCons (sVar 0) (sCons (sC (.int 4)) sNil))) (sC (.int 0)))) (sDrop (sApp (sVar 3) (sCons (sTup (sCons (sC (.str "vary")) (sCons (sOp ixF (sFrz (sLst (sCons (sC (.str "accept")) (sCons (sC (.str "Accept, x-a")) (sCons (sC (.str "*")) (sCons (sC (.str "")) (sCons (sC (.str "accept,*")) (sCons (sC (.str "\"")) (sCons (sC (.str "accept-language")) (sCons (sC (.str "x-a, Accept-Language")) sNil)))))))))) (sOne F__law_take (sCons (sVar 0) (sCons (sC (.int 8)) sNil)))) sNil))) sNil))) sSkip)
  (sSeq (sIf (isB (sOp eqF (sOne F__law_take (sCons (sVar 0) (sCons (sC (.int 3)) sNil))) (sC (.int 0)))) (sDrop (sApp (sVar 3) (sCons (sTup (sCons (sC (.str "content-type")) (sCons (sOp ixF (sFrz (sLst (sCons (sC (.str "text/plain")) (sCons (sC (.str "image/png")) sNil)))) (sOne F__law_take (sCons (sVar 0) (sCons (sC (.int 2)) sNil)))) sNil))) sNil))) sSkip)
  (sSeq (sIf (isB (sOp eqF (sOne F__law_take (sCons (sVar 0) (sCons (sC (.int 6)) sNil))) (sC (.int 0)))) (sDrop (sApp (sVar 3) (sCons (sTup (sCons (sC (.str "x-a")) (sCons (sC (.str "1")) sNil))) sNil))) sSkip)
  (sSeq (sIf (isB (sOp eqF (sOne F__law_take (sCons (sVar 0) (sCons (sC (.int 10)) sNil))) (sC (.int 0)))) (sSeq (sSet 7 (sFrz (sLc (.n 8) (iL (sVar 3)) (isB (sOp inF (sOp ixF (sVar 8) (sC (.int 0))) (sFrz (sLst (sCons (sC (.str "expires")) (sCons (sC (.str "age")) (sCons (sC (.str "etag")) (sCons (sC (.str "last-modified")) (sCons (sC (.str "date")) sNil))))))))) (sVar 8) [8])))
  (sSet 3 (sOp addF (sVar 3) (sSl slF (sSl slF (sVar 7) (sPart (sOne F__law_take (sCons (sVar 0) (sCons (sC (.int 4)) sNil)))) sNoP) sNoP (sPart (sC (.int 1))))))) sSkip)
  (sSeq (sSet 4 (sCB tupF (sCons (sFrz (sLc (.n 9) (iR (sCons (sOne F__law_take (sCons (sVar 0) (sCons (sC (.int 4)) sNil))) sNil)) sYes (sOne F__law_take (sCons (sVar 0) (sCons (sC (.int 256)) sNil))) [9])) sNil)))
  (sSeq (sSet 5 (sOne F__law_take (sCons (sVar 0) (sCons (sOp addF (sCB lenF (sCons (sVar 3) sNil)) (sC (.int 1))) sNil))))
  (sRet (sTup (sCons (sVar 2) (sCons (sCB tupF (sCons (sOp addF (sSl slF (sVar 3) (sPart (sVar 5)) sNoP) (sSl slF (sVar 3) sNoP (sPart (sVar 5)))) sNil)) (sCons (sVar 4) (sCons (sTup sNil) sNil)))))))))))))))))))))
noncomputable def F__law_response : DF := fnD 2 10 g__law_response
noncomputable def g__law_ask : SS := (sSeq (sSet 1 (sOp ixF (sFrz (sLst (sCons (sC (.str "GET")) (sCons (sC (.str "GET")) (sCons (sC (.str "GET")) (sCons (sC (.str "GET")) (sCons (sC (.str "GET")) (sCons (sC (.str "HEAD")) (sCons (sC (.str "PUT")) (sCons (sC (.str "POST")) (sCons (sC (.str "DELETE")) (sCons (sC (.str "OPTIONS")) sNil)))))))))))) (sOne F__law_take (sCons (sVar 0) (sCons (sC (.int 10)) sNil)))))
  (sSeq (sSet 2 (sCB tupF (sCons (sFrz (sLc (.n 5) (iS (sOp ixF (sFrz (sLst (sCons (sC (.str "/")) (sCons (sC (.str "/a")) (sCons (sC (.str "/b")) sNil))))) (sOne F__law_take (sCons (sVar 0) (sCons (sC (.int 3)) sNil))))) sYes (sCB ordF (sCons (sVar 5) sNil)) [5])) sNil)))
  (sSeq (sSet 3 (sNew (sLst (sCons (sTup (sCons (sC (.str "host")) (sCons (sOp ixF (sFrz (sLst (sCons (sC (.str "h")) (sCons (sC (.str "h")) (sCons (sC (.str "h")) (sCons (sC (.str "g")) sNil)))))) (sOne F__law_take (sCons (sVar 0) (sCons (sC (.int 4)) sNil)))) sNil))) sNil))))
  (sSeq (sIf (isB (sOp eqF (sOne F__law_take (sCons (sVar 0) (sCons (sC (.int 2)) sNil))) (sC (.int 0)))) (sDrop (sApp (sVar 3) (sCons (sTup (sCons (sC (.str "accept")) (sCons (sM1 stripF (sOp ixF (sFrz (sLst (sCons (sC (.str "text/plain")) (sCons (sC (.str "text/plain ")) (sCons (sC (.str "image/png,  */*")) (sCons (sC (.str "image/png, */*")) sNil)))))) (sOne F__law_take (sCons (sVar 0) (sCons (sC (.int 4)) sNil)))) (sC (.str " "))) sNil))) sNil))) sSkip)
  (sSeq (sIf (isB (sOp eqF (sOne F__law_take (sCons (sVar 0) (sCons (sC (.int 4)) sNil))) (sC (.int 0)))) (sDrop (sApp (sVar 3) (sCons (sTup (sCons (sC (.str "x-a")) (sCons (sOp ixF (sFrz (sLst (sCons (sC (.str "1")) (sCons (sC (.str "2")) sNil)))) (sOne F__law_take (sCons (sVar 0) (sCons (sC (.int 2)) sNil)))) sNil))) sNil))) sSkip)
  (sSeq (sIf (isB (sOp eqF (sOne F__law_take (sCons (sVar 0) (sCons (sC (.int 4)) sNil))) (sC (.int 0)))) (sDrop (sApp (sVar 3) (sCons (sTup (sCons (sC (.str "accept-language")) (sCons (sOp ixF (sFrz (sLst (sCons (sC (.str "de")) (sCons (sC (.str "en")) (sCons (sC (.str "de, en")) sNil))))) (sOne F__law_take (sCons (sVar 0) (sCons (sC (.int 3)) sNil)))) sNil))) sNil))) sSkip)
  (sSeq (sIf (isB (sOp eqF (sOne F__law_take (sCons (sVar 0) (sCons (sC (.int 3)) sNil))) (sC (.int 0)))) (sSeq (sSet 4 (sFrz (sLst (sCons (sC (.str "no-cache")) (sCons (sC (.str "no-store")) (sCons (sC (.str "max-age=30")) (sCons (sC (.str "max-age=0")) (sCons (sC (.str "min-fresh=20")) (sCons (sC (.str "max-stale")) (sCons (sC (.str "max-stale=40")) sNil))))))))))
  (sSeq (sSet 4 (sOp addF (sVar 4) (sFrz (sLst (sCons (sC (.str "only-if-cached")) (sCons (sC (.str "max-stale=x")) (sCons (sC (.str "max-age=x")) (sCons (sC (.str "max-stale, min-fresh=5")) (sCons (sC (.str "max-age=100, max-stale")) sNil)))))))))
  (sSeq (sDrop (sApp (sVar 3) (sCons (sTup (sCons (sC (.str "cache-control")) (sCons (sOp ixF (sVar 4) (sOne F__law_take (sCons (sVar 0) (sCons (sC (.int 12)) sNil)))) sNil))) sNil)))
  (sIf (isB (sOp eqF (sOne F__law_take (sCons (sVar 0) (sCons (sC (.int 5)) sNil))) (sC (.int 0)))) (sDrop (sApp (sVar 3) (sCons (sTup (sCons (sC (.str "cache-control")) (sCons (sOp ixF (sVar 4) (sOne F__law_take (sCons (sVar 0) (sCons (sC (.int 12)) sNil)))) sNil))) sNil))) sSkip)))) sSkip)
  (sSeq (sIf (isB (sOp eqF (sOne F__law_take (sCons (sVar 0) (sCons (sC (.int 6)) sNil))) (sC (.int 0)))) (sDrop (sApp (sVar 3) (sCons (sTup (sCons (sC (.str "if-none-match")) (sCons (sOp ixF (sFrz (sLst (sCons (sC (.str "\"a\"")) (sCons (sC (.str "*")) (sCons (sC (.str "\"z\", \"b\"")) (sCons (sC (.str "q")) sNil)))))) (sOne F__law_take (sCons (sVar 0) (sCons (sC (.int 4)) sNil)))) sNil))) sNil))) sSkip)
  (sSeq (sIf (isB (sOp eqF (sOne F__law_take (sCons (sVar 0) (sCons (sC (.int 8)) sNil))) (sC (.int 0)))) (sDrop (sApp (sVar 3) (sCons (sTup (sCons (sC (.str "if-modified-since")) (sCons (sOp ixF (sFrz (sLst (sCons (sPure F_write_date (sCons (sC (.int 0)) sNil)) (sCons (sPure F_write_date (sCons (sC (.int 5000)) sNil)) (sCons (sC (.str "x")) sNil))))) (sOne F__law_take (sCons (sVar 0) (sCons (sC (.int 3)) sNil)))) sNil))) sNil))) sSkip)
  (sSeq (sIf (isB (sOp eqF (sOne F__law_take (sCons (sVar 0) (sCons (sC (.int 12)) sNil))) (sC (.int 0)))) (sDrop (sApp (sVar 3) (sCons (sOp ixF (sFrz (sLst (sCons (sTup (sCons (sC (.str "range")) (sCons (sC (.str "bytes=0-0")) sNil))) (sCons (sTup (sCons (sC (.str "if-match")) (sCons (sC (.str "*")) sNil))) (sCons (sTup (sCons (sC (.str "if-range")) (sCons (sC (.str "\"a\"")) sNil))) (sCons (sTup (sCons (sC (.str "if-unmodified-since")) (sCons (sC (.str "x")) sNil))) sNil)))))) (sOne F__law_take (sCons (sVar 0) (sCons (sC (.int 4)) sNil)))) sNil))) sSkip)
  (sRet (sTup (sCons (sVar 1) (sCons (sVar 2) (sCons (sCB tupF (sCons (sVar 3) sNil)) (sCons (sTup sNil) (sCons (sTup sNil) sNil)))))))))))))))))
noncomputable def F__law_ask : DF := fnD 1 6 g__law_ask
noncomputable def g_values : SS := (sRet (sFrz (sLc (.t [2, 3]) (iT (sVar 0)) (isB (sOp eqF (sVar 2) (sVar 1))) (sVar 3) [2, 3])))
noncomputable def F_values : DF := fnD 2 4 g_values
noncomputable def g_cut : SS := (sSeq (sSet 2 (sNew (sLst (sCons (sC (.str "")) sNil))))
  (sSeq (sSet 3 (sC (.bool false)))
  (sSeq (sSet 4 (sC (.bool false)))
  (sSeq (sFor (.n 5) (iS (sVar 0)) (sSeq (sIf (sAnd (isB (sOp eqF (sVar 5) (sVar 1))) (sNot (isB (sVar 3)))) (sSeq (sDrop (sApp (sVar 2) (sCons (sC (.str "")) sNil)))
  sCont) sSkip)
  (sSeq (sLAug iaddF (sVar 2) (sUn negF (sC (.int 1))) (sVar 5))
  (sIf (isB (sVar 4)) (sSet 4 (sC (.bool false))) (sIf (sAnd (isB (sVar 3)) (isB (sOp eqF (sVar 5) (sC (.str "\\"))))) (sSet 4 (sC (.bool true))) (sIf (isB (sOp eqF (sVar 5) (sC (.str "\"")))) (sSet 3 (sNotV (sVar 3))) sSkip))))))
  (sSeq (sIf (isB (sVar 3)) (sRet (sC .none)) sSkip)
  (sRet (sVar 2)))))))
noncomputable def F_cut : DF := fnD 2 6 g_cut
noncomputable def g_trimmed : SS := (sRet (sM1 stripF (sVar 0) (sC (.str " \t"))))
noncomputable def F_trimmed : DF := fnD 1 1 g_trimmed
noncomputable def g_split_list : SS := (sSeq (sSet 1 (sPure F_cut (sCons (sVar 0) (sCons (sC (.str ",")) sNil))))
  (sSeq (sIf (isB (sOp isNF (sVar 1) (sC .none))) (sRet (sC .none)) sSkip)
  (sRet (sFrz (sLc (.n 2) (iL (sVar 1)) (isB (sOp neF (sPure F_trimmed (sCons (sVar 2) sNil)) (sC (.str "")))) (sPure F_trimmed (sCons (sVar 2) sNil)) [2])))))
noncomputable def F_split_list : DF := fnD 1 3 g_split_list
noncomputable def g_lower : SS := (sRet (sM0 lowF (sVar 0)))
noncomputable def F_lower : DF := fnD 1 1 g_lower
noncomputable def g_vary_names : SS := (sSeq (sSet 1 (sNew (sLst sNil)))
  (sSeq (sFor (.n 2) (iL (sPure F_values (sCons (sOp ixF (sVar 0) (sC (.int 1))) (sCons (sC (.str "vary")) sNil)))) (sSeq (sSet 3 (sPure F_split_list (sCons (sVar 2) sNil)))
  (sSeq (sIf (isB (sOp isNF (sVar 3) (sC .none))) (sRet (sFrz (sLst (sCons (sC (.str "*")) sNil)))) sSkip)
  (sDrop (sExt (sVar 1) (sLc (.n 4) (iL (sVar 3)) sYes (sPure F_lower (sCons (sVar 4) sNil)) [4]))))))
  (sRet (sVar 1))))
noncomputable def F_vary_names : DF := fnD 1 5 g_vary_names
noncomputable def g_join_values : SS := (sSeq (sSet 2 (sPure F_values (sCons (sVar 0) (sCons (sVar 1) sNil))))
  (sSeq (sIf (isB (sOp eqF (sVar 2) (sFrz (sLst sNil)))) (sRet (sC .none)) sSkip)
  (sRet (sM1 joinF (sC (.str ", ")) (sVar 2)))))
noncomputable def F_join_values : DF := fnD 2 3 g_join_values
noncomputable def g_evened : SS := (sSeq (sSet 2 (sPure F_join_values (sCons (sVar 0) (sCons (sVar 1) sNil))))
  (sSeq (sIf (isB (sOp isNF (sVar 2) (sC .none))) (sRet (sC .none)) sSkip)
  (sSeq (sSet 3 (sPure F_split_list (sCons (sVar 2) sNil)))
  (sRet (sIfE (isB (sOp isNF (sVar 3) (sC .none))) (sVar 2) (sM1 joinF (sC (.str ",")) (sVar 3)))))))
noncomputable def F_evened : DF := fnD 2 4 g_evened
noncomputable def g_fits : SS := (sSeq (sIf (isB (sOp neF (sOp ixF (sVar 0) (sC (.int 0))) (sOp ixF (sVar 1) (sC (.int 1))))) (sRet (sC (.bool false))) sSkip)
  (sSeq (sFor (.n 2) (iL (sOp addF (sFrz (sLst (sCons (sC (.str "host")) sNil))) (sPure F_vary_names (sCons (sOp ixF (sVar 0) (sC (.int 2))) sNil)))) (sIf (sOr (isB (sOp eqF (sVar 2) (sC (.str "*")))) (isB (sOp neF (sPure F_evened (sCons (sOp ixF (sVar 0) (sC (.int 1))) (sCons (sVar 2) sNil))) (sPure F_evened (sCons (sOp ixF (sVar 1) (sC (.int 2))) (sCons (sVar 2) sNil)))))) (sRet (sC (.bool false))) sSkip))
  (sRet (sC (.bool true)))))
noncomputable def F_fits : DF := fnD 2 3 g_fits
noncomputable def g_are_digits : SS := (sSeq (sFor (.n 1) (iS (sVar 0)) (sIf (isB (sOp ninF (sVar 1) (sC c_DIGITS))) (sRet (sC (.bool false))) sSkip))
  (sRet (sC (.bool true))))
noncomputable def F_are_digits : DF := fnD 1 2 g_are_digits
noncomputable def g_number : SS := (sSeq (sIf (sOr (isB (sOp eqF (sVar 0) (sC (.str "")))) (sNot (isB (sPure F_are_digits (sCons (sVar 0) sNil))))) (sRet (sUn negF (sC (.int 1)))) sSkip)
  (sRet (sCB intF (sCons (sVar 0) sNil))))
noncomputable def F_number : DF := fnD 1 1 g_number
noncomputable def g_read_clock : SS := (sSeq (sIf (sOr (isB (sOp neF (sCB lenF (sCons (sVar 0) sNil)) (sC (.int 8)))) (sOr (isB (sOp neF (sOp ixF (sVar 0) (sC (.int 2))) (sC (.str ":")))) (isB (sOp neF (sOp ixF (sVar 0) (sC (.int 5))) (sC (.str ":")))))) (sRet (sUn negF (sC (.int 1)))) sSkip)
  (sSeq (sSet 1 (sPure F_number (sCons (sSl slF (sVar 0) sNoP (sPart (sC (.int 2)))) sNil)))
  (sSeq (sSet 2 (sPure F_number (sCons (sSl slF (sVar 0) (sPart (sC (.int 3))) (sPart (sC (.int 5)))) sNil)))
  (sSeq (sSet 3 (sPure F_number (sCons (sSl slF (sVar 0) (sPart (sC (.int 6))) sNoP) sNil)))
  (sSeq (sIf (sOr (sNot (isB (sChain leF leF (sC (.int 0)) (sVar 1) (sC (.int 23))))) (sOr (sNot (isB (sChain leF leF (sC (.int 0)) (sVar 2) (sC (.int 59))))) (sNot (isB (sChain leF leF (sC (.int 0)) (sVar 3) (sC (.int 59))))))) (sRet (sUn negF (sC (.int 1)))) sSkip)
  (sRet (sOp addF (sOp addF (sOp mulF (sC (.int 3600)) (sVar 1)) (sOp mulF (sC (.int 60)) (sVar 2))) (sVar 3))))))))
noncomputable def F_read_clock : DF := fnD 1 4 g_read_clock
noncomputable def g_days_of : SS := (sSeq (sIf (isB (sOp leF (sVar 1) (sC (.int 2)))) (sSeq (sAug 0 subF (sC (.int 1)))
  (sAug 1 iaddF (sC (.int 12)))) sSkip)
  (sSeq (sSet 3 (sOp divF (sOp addF (sOp mulF (sC (.int 153)) (sOp subF (sVar 1) (sC (.int 3)))) (sC (.int 2))) (sC (.int 5))))
  (sRet (sOp subF (sOp subF (sOp addF (sOp addF (sOp addF (sOp subF (sOp addF (sOp mulF (sVar 0) (sC (.int 365))) (sOp divF (sVar 0) (sC (.int 4)))) (sOp divF (sVar 0) (sC (.int 100)))) (sOp divF (sVar 0) (sC (.int 400)))) (sVar 3)) (sVar 2)) (sC (.int 1))) (sC (.int 719468))))))
noncomputable def F_days_of : DF := fnD 3 4 g_days_of
noncomputable def g_length_of_month : SS := (sSeq (sIf (isB (sOp eqF (sVar 1) (sC (.int 12)))) (sRet (sC (.int 31))) sSkip)
  (sRet (sOp subF (sPure F_days_of (sCons (sVar 0) (sCons (sOp addF (sVar 1) (sC (.int 1))) (sCons (sC (.int 1)) sNil)))) (sPure F_days_of (sCons (sVar 0) (sCons (sVar 1) (sCons (sC (.int 1)) sNil)))))))
noncomputable def F_length_of_month : DF := fnD 2 2 g_length_of_month
noncomputable def g_made : SS := (sSeq (sSet 5 (sPure F_read_clock (sCons (sVar 4) sNil)))
  (sSeq (sIf (sOr (isB (sOp ninF (sVar 2) (sC c_MONTHS))) (sOr (sNot (isB (sChain leF leF (sC (.int 1970)) (sVar 1) (sC (.int 9999))))) (isB (sOp ltF (sVar 5) (sC (.int 0)))))) (sRet (sC .none)) sSkip)
  (sSeq (sSet 6 (sOp addF (sIndex months (sVar 2)) (sC (.int 1))))
  (sSeq (sIf (sNot (isB (sChain leF leF (sC (.int 1)) (sVar 3) (sPure F_length_of_month (sCons (sVar 1) (sCons (sVar 6) sNil)))))) (sRet (sC .none)) sSkip)
  (sSeq (sSet 7 (sPure F_days_of (sCons (sVar 1) (sCons (sVar 6) (sCons (sVar 3) sNil)))))
  (sSeq (sIf (isB (sOp neF (sOp ixF (sC c_WEEKDAYS) (sPure F_weekday_of (sCons (sVar 7) sNil))) (sVar 0))) (sRet (sC .none)) sSkip)
  (sRet (sOp addF (sOp mulF (sVar 7) (sC c_DAY)) (sVar 5)))))))))
noncomputable def F_made : DF := fnD 5 8 g_made
noncomputable def g_long_name : SS := (sSeq (sFor (.n 1) (iT (sC c_WEEKDAYS)) (sIf (isB (sOp eqF (sSl slF (sVar 1) sNoP (sPart (sC (.int 3)))) (sVar 0))) (sRet (sVar 1)) sSkip))
  (sRet (sC (.str ""))))
noncomputable def F_long_name : DF := fnD 1 2 g_long_name
noncomputable def g_read_short : SS := (sSeq (sIf (sOr (isB (sOp neF (sCB lenF (sCons (sVar 0) sNil)) (sC (.int 29)))) (sOr (isB (sOp neF (sSl slF (sVar 0) (sPart (sC (.int 3))) (sPart (sC (.int 5)))) (sC (.str ", ")))) (sOr (isB (sOp neF (sOp ixF (sVar 0) (sC (.int 7))) (sC (.str " ")))) (sOr (isB (sOp neF (sOp ixF (sVar 0) (sC (.int 11))) (sC (.str " ")))) (isB (sOp neF (sOp ixF (sVar 0) (sC (.int 16))) (sC (.str " ")))))))) (sRet (sC .none)) sSkip)
  (sSeq (sIf (isB (sOp neF (sSl slF (sVar 0) (sPart (sC (.int 25))) sNoP) (sC (.str " GMT")))) (sRet (sC .none)) sSkip)
  (sRet (sPure F_made (sCons (sPure F_long_name (sCons (sSl slF (sVar 0) sNoP (sPart (sC (.int 3)))) sNil)) (sCons (sPure F_number (sCons (sSl slF (sVar 0) (sPart (sC (.int 12))) (sPart (sC (.int 16)))) sNil)) (sCons (sSl slF (sVar 0) (sPart (sC (.int 8))) (sPart (sC (.int 11)))) (sCons (sPure F_number (sCons (sSl slF (sVar 0) (sPart (sC (.int 5))) (sPart (sC (.int 7)))) sNil)) (sCons (sSl slF (sVar 0) (sPart (sC (.int 17))) (sPart (sC (.int 25)))) sNil)))))))))
noncomputable def F_read_short : DF := fnD 1 1 g_read_short
noncomputable def g_full_year : SS := (sSeq (sSet 2 (sOp addF (sOp ixF (sPure F_date_of (sCons (sOp divF (sVar 1) (sC c_DAY)) sNil)) (sC (.int 0))) (sC (.int 50))))
  (sRet (sOp subF (sVar 2) (sOp modF (sOp subF (sVar 2) (sVar 0)) (sC (.int 100))))))
noncomputable def F_full_year : DF := fnD 2 3 g_full_year
noncomputable def g_read_long : SS := (sSeq (sSet 2 (sM1 findF (sVar 0) (sC (.str ", "))))
  (sSeq (sSet 3 (sSl slF (sVar 0) (sPart (sOp addF (sVar 2) (sC (.int 2)))) sNoP))
  (sSeq (sIf (sOr (isB (sOp ltF (sVar 2) (sC (.int 0)))) (sOr (isB (sOp neF (sCB lenF (sCons (sVar 3) sNil)) (sC (.int 22)))) (sOr (isB (sOp neF (sOp ixF (sVar 3) (sC (.int 2))) (sC (.str "-")))) (sOr (isB (sOp neF (sOp ixF (sVar 3) (sC (.int 6))) (sC (.str "-")))) (sOr (isB (sOp neF (sOp ixF (sVar 3) (sC (.int 9))) (sC (.str " ")))) (isB (sOp neF (sSl slF (sVar 3) (sPart (sC (.int 18))) sNoP) (sC (.str " GMT"))))))))) (sRet (sC .none)) sSkip)
  (sSeq (sSet 4 (sPure F_number (sCons (sSl slF (sVar 3) (sPart (sC (.int 7))) (sPart (sC (.int 9)))) sNil)))
  (sSeq (sIf (isB (sOp ltF (sVar 4) (sC (.int 0)))) (sRet (sC .none)) sSkip)
  (sRet (sPure F_made (sCons (sSl slF (sVar 0) sNoP (sPart (sVar 2))) (sCons (sPure F_full_year (sCons (sVar 4) (sCons (sVar 1) sNil))) (sCons (sSl slF (sVar 3) (sPart (sC (.int 3))) (sPart (sC (.int 6)))) (sCons (sPure F_number (sCons (sSl slF (sVar 3) sNoP (sPart (sC (.int 2)))) sNil)) (sCons (sSl slF (sVar 3) (sPart (sC (.int 10))) (sPart (sC (.int 18)))) sNil))))))))))))
noncomputable def F_read_long : DF := fnD 2 5 g_read_long
noncomputable def g_read_old : SS := (sSeq (sIf (sOr (isB (sOp neF (sCB lenF (sCons (sVar 0) sNil)) (sC (.int 24)))) (sOr (isB (sOp neF (sOp ixF (sVar 0) (sC (.int 3))) (sC (.str " ")))) (sOr (isB (sOp neF (sOp ixF (sVar 0) (sC (.int 7))) (sC (.str " ")))) (sOr (isB (sOp neF (sOp ixF (sVar 0) (sC (.int 10))) (sC (.str " ")))) (isB (sOp neF (sOp ixF (sVar 0) (sC (.int 19))) (sC (.str " ")))))))) (sRet (sC .none)) sSkip)
  (sSeq (sSet 1 (sPure F_number (sCons (sSl slF (sVar 0) (sPart (sC (.int 8))) (sPart (sC (.int 10)))) sNil)))
  (sSeq (sIf (isB (sOp eqF (sOp ixF (sVar 0) (sC (.int 8))) (sC (.str " ")))) (sSet 1 (sPure F_number (sCons (sOp ixF (sVar 0) (sC (.int 9))) sNil))) sSkip)
  (sSeq (sIf (isB (sOp neF (sOp ltF (sVar 1) (sC (.int 10))) (sOp eqF (sOp ixF (sVar 0) (sC (.int 8))) (sC (.str " "))))) (sRet (sC .none)) sSkip)
  (sRet (sPure F_made (sCons (sPure F_long_name (sCons (sSl slF (sVar 0) sNoP (sPart (sC (.int 3)))) sNil)) (sCons (sPure F_number (sCons (sSl slF (sVar 0) (sPart (sC (.int 20))) sNoP) sNil)) (sCons (sSl slF (sVar 0) (sPart (sC (.int 4))) (sPart (sC (.int 7)))) (sCons (sVar 1) (sCons (sSl slF (sVar 0) (sPart (sC (.int 11))) (sPart (sC (.int 19)))) sNil)))))))))))
noncomputable def F_read_old : DF := fnD 1 2 g_read_old
noncomputable def g_read_date : SS := (sSeq (sSet 2 (sPure F_read_short (sCons (sVar 0) sNil)))
  (sSeq (sIf (isB (sOp isNF (sVar 2) (sC .none))) (sSet 2 (sPure F_read_long (sCons (sVar 0) (sCons (sVar 1) sNil)))) sSkip)
  (sSeq (sIf (isB (sOp isNF (sVar 2) (sC .none))) (sSet 2 (sPure F_read_old (sCons (sVar 0) sNil))) sSkip)
  (sRet (sVar 2)))))
noncomputable def F_read_date : DF := fnD 2 3 g_read_date
noncomputable def g__law_rank : SS := (sSeq (sSet 1 (sFrz (sLc (.t [3, 4]) (iT (sOp ixF (sOp ixF (sVar 0) (sC (.int 2))) (sC (.int 1)))) (isB (sOp eqF (sVar 3) (sC (.str "date")))) (sVar 4) [3, 4])))
  (sSeq (sSet 2 (sIfE (isB (sOp eqF (sCB lenF (sCons (sVar 1) sNil)) (sC (.int 1)))) (sPure F_read_date (sCons (sOp ixF (sVar 1) (sC (.int 0))) (sCons (sOp ixF (sVar 0) (sC (.int 4))) sNil))) (sC .none)))
  (sRet (sIfE (isB (sOp isNF (sVar 2) (sC .none))) (sC (.int 0)) (sVar 2)))))
noncomputable def F__law_rank : DF := fnD 1 5 g__law_rank
noncomputable def g__law_find : SS := (sSeq (sSet 2 (sC .none))
  (sSeq (sFor (.n 3) (iL (sDGet "rows" (sVar 0))) (sIf (isB (sPure F_fits (sCons (sOp ixF (sVar 3) (sC (.int 1))) (sCons (sVar 1) sNil)))) (sIf (sOr (isB (sOp isNF (sVar 2) (sC .none))) (isB (sOp gtF (sPure F__law_rank (sCons (sOp ixF (sVar 3) (sC (.int 1))) sNil)) (sPure F__law_rank (sCons (sOp ixF (sVar 2) (sC (.int 1))) sNil))))) (sSet 2 (sVar 3)) (sIf (sAnd (isB (sOp eqF (sPure F__law_rank (sCons (sOp ixF (sVar 3) (sC (.int 1))) sNil)) (sPure F__law_rank (sCons (sOp ixF (sVar 2) (sC (.int 1))) sNil)))) (isB (sOp gtF (sOp ixF (sVar 3) (sC (.int 0))) (sOp ixF (sVar 2) (sC (.int 0)))))) (sSet 2 (sVar 3)) sSkip)) sSkip))
  (sSeq (sIf (isB (sOp isNF (sVar 2) (sC .none))) (sRet (sC .none)) sSkip)
  (sSeq (sDSet "rows" (sVar 0) (sOp addF (sFrz (sLc (.n 3) (iL (sDGet "rows" (sVar 0))) (isB (sOp neF (sOp ixF (sVar 3) (sC (.int 0))) (sOp ixF (sVar 2) (sC (.int 0))))) (sVar 3) [3])) (sFrz (sLst (sCons (sVar 2) sNil)))))
  (sRet (sOp ixF (sVar 2) (sC (.int 1))))))))
noncomputable def F__law_find : DF := fnD 2 4 g__law_find
noncomputable def g__law_has : SS := (sRet (sOp neF (sFrz (sLc (.n 2) (iT (sOp ixF (sVar 0) (sC (.int 2)))) (isB (sOp inF (sOp ixF (sVar 2) (sC (.int 0))) (sVar 1))) (sVar 2) [2])) (sFrz (sLst sNil))))
noncomputable def F__law_has : DF := fnD 2 3 g__law_has
noncomputable def g_date_of_field : SS := (sSeq (sSet 3 (sPure F_values (sCons (sVar 0) (sCons (sVar 1) sNil))))
  (sSeq (sIf (isB (sOp neF (sCB lenF (sCons (sVar 3) sNil)) (sC (.int 1)))) (sRet (sC .none)) sSkip)
  (sRet (sPure F_read_date (sCons (sOp ixF (sVar 3) (sC (.int 0))) (sCons (sVar 2) sNil))))))
noncomputable def F_date_of_field : DF := fnD 3 4 g_date_of_field
noncomputable def g_seconds : SS := (sSeq (sIf (sOr (isB (sOp isNF (sVar 0) (sC .none))) (sOr (sNot (isB (sChain leF leF (sC (.int 1)) (sCB lenF (sCons (sVar 0) sNil)) (sC (.int 20))))) (sNot (isB (sPure F_are_digits (sCons (sVar 0) sNil)))))) (sRet (sC .none)) sSkip)
  (sRet (sCB min2F (sCons (sCB intF (sCons (sVar 0) sNil)) (sCons (sC c_MOST_SECONDS) sNil)))))
noncomputable def F_seconds : DF := fnD 1 1 g_seconds
noncomputable def g_age_when_come : SS := (sSeq (sSet 3 (sOp ixF (sVar 0) (sC (.int 1))))
  (sSeq (sSet 4 (sPure F_date_of_field (sCons (sVar 3) (sCons (sC (.str "date")) (sCons (sVar 2) sNil)))))
  (sSeq (sSet 5 (sIfE (isB (sOp isNF (sVar 4) (sC .none))) (sC (.int 0)) (sCB max2F (sCons (sC (.int 0)) (sCons (sOp subF (sVar 2) (sVar 4)) sNil)))))
  (sSeq (sSet 6 (sPure F_values (sCons (sVar 3) (sCons (sC (.str "age")) sNil))))
  (sSeq (sSet 7 (sIfE (isB (sOp eqF (sCB lenF (sCons (sVar 6) sNil)) (sC (.int 1)))) (sPure F_seconds (sCons (sOp ixF (sVar 6) (sC (.int 0))) sNil)) (sC .none)))
  (sRet (sCB max2F (sCons (sVar 5) (sCons (sOp subF (sOp addF (sIfE (isB (sOp isNF (sVar 7) (sC .none))) (sC (.int 0)) (sVar 7)) (sVar 2)) (sVar 1)) sNil)))))))))
noncomputable def F_age_when_come : DF := fnD 3 8 g_age_when_come
noncomputable def g_age : SS := (sSeq (sSetP (.t [2, 3, 4, 5, 6]) (sVar 0))
  (sRet (sOp subF (sOp addF (sPure F_age_when_come (sCons (sVar 4) (sCons (sVar 5) (sCons (sVar 6) sNil)))) (sVar 1)) (sVar 6))))
noncomputable def F_age : DF := fnD 2 7 g_age
noncomputable def g_directive : SS := (sSeq (sFor (.t [2, 3]) (iT (sVar 0)) (sIf (isB (sOp eqF (sVar 2) (sVar 1))) (sRet (sTup (sCons (sC (.bool true)) (sCons (sVar 3) sNil)))) sSkip))
  (sRet (sTup (sCons (sC (.bool false)) (sCons (sC .none) sNil)))))
noncomputable def F_directive : DF := fnD 2 4 g_directive
noncomputable def g_is_digit : SS := (sRet (sChain leF leF (sC (.int 48)) (sVar 0) (sC (.int 57))))
noncomputable def F_is_digit : DF := fnD 1 1 g_is_digit
noncomputable def g_is_letter : SS := (sRet (sOrV (sChain leF leF (sC (.int 65)) (sVar 0) (sC (.int 90))) (sChain leF leF (sC (.int 97)) (sVar 0) (sC (.int 122)))))
noncomputable def F_is_letter : DF := fnD 1 1 g_is_letter
noncomputable def g_is_value_sign : SS := (sRet (sOrV (sOp eqF (sVar 0) (sC c_TAB)) (sAndV (sChain leF leF (sC (.int 32)) (sVar 0) (sC (.int 126))) (sOp neF (sVar 0) (sC c_PERCENT)))))
noncomputable def F_is_value_sign : DF := fnD 1 1 g_is_value_sign
noncomputable def g_sign_of : SS := (sSeq (sIf (isB (sOp eqF (sVar 0) (sC c_TAB))) (sRet (sC (.str "\t"))) sSkip)
  (sSeq (sIf (isB (sOp ltF (sVar 0) (sC c_PERCENT))) (sRet (sOp ixF (sC c_SIGNS) (sOp subF (sVar 0) (sC (.int 32))))) sSkip)
  (sRet (sOp ixF (sC c_SIGNS) (sOp subF (sVar 0) (sC (.int 33)))))))
noncomputable def F_sign_of : DF := fnD 1 1 g_sign_of
noncomputable def g_is_token_sign : SS := (sSeq (sIf (sOr (isB (sPure F_is_digit (sCons (sVar 0) sNil))) (isB (sPure F_is_letter (sCons (sVar 0) sNil)))) (sRet (sC (.bool true))) sSkip)
  (sRet (sAndV (sPure F_is_value_sign (sCons (sVar 0) sNil)) (sOp inF (sPure F_sign_of (sCons (sVar 0) sNil)) (sC c_TOKEN_MARKS)))))
noncomputable def F_is_token_sign : DF := fnD 1 1 g_is_token_sign
noncomputable def g_is_token : SS := (sSeq (sIf (isB (sOp eqF (sVar 0) (sC (.str "")))) (sRet (sC (.bool false))) sSkip)
  (sSeq (sFor (.n 1) (iS (sVar 0)) (sIf (sNot (isB (sPure F_is_token_sign (sCons (sCB ordF (sCons (sVar 1) sNil)) sNil)))) (sRet (sC (.bool false))) sSkip))
  (sRet (sC (.bool true)))))
noncomputable def F_is_token : DF := fnD 1 2 g_is_token
noncomputable def g_read_quoted : SS := (sSeq (sIf (sOr (isB (sOp ltF (sCB lenF (sCons (sVar 0) sNil)) (sC (.int 2)))) (sOr (isB (sOp neF (sOp ixF (sVar 0) (sC (.int 0))) (sC (.str "\"")))) (isB (sOp neF (sOp ixF (sVar 0) (sUn negF (sC (.int 1)))) (sC (.str "\"")))))) (sRet (sC .none)) sSkip)
  (sSeq (sSet 1 (sC (.str "")))
  (sSeq (sSet 2 (sC (.int 1)))
  (sSeq (sWhile fuel (isB (sOp ltF (sVar 2) (sOp subF (sCB lenF (sCons (sVar 0) sNil)) (sC (.int 1))))) (sSeq (sIf (isB (sOp eqF (sOp ixF (sVar 0) (sVar 2)) (sC (.str "\"")))) (sRet (sC .none)) sSkip)
  (sSeq (sIf (isB (sOp eqF (sOp ixF (sVar 0) (sVar 2)) (sC (.str "\\")))) (sSeq (sAug 2 iaddF (sC (.int 1)))
  (sIf (isB (sOp eqF (sVar 2) (sOp subF (sCB lenF (sCons (sVar 0) sNil)) (sC (.int 1))))) (sRet (sC .none)) sSkip)) sSkip)
  (sSeq (sAug 1 iaddF (sOp ixF (sVar 0) (sVar 2)))
  (sAug 2 iaddF (sC (.int 1)))))))
  (sRet (sVar 1))))))
noncomputable def F_read_quoted : DF := fnD 1 3 g_read_quoted
noncomputable def g_read_directive : SS := (sSeq (sSet 1 (sM1 findF (sVar 0) (sC (.str "="))))
  (sSeq (sIf (isB (sOp ltF (sVar 1) (sC (.int 0)))) (sRet (sIfE (isB (sPure F_is_token (sCons (sVar 0) sNil))) (sTup (sCons (sPure F_lower (sCons (sVar 0) sNil)) (sCons (sC .none) sNil))) (sC .none))) sSkip)
  (sSeq (sSet 2 (sSl slF (sVar 0) sNoP (sPart (sVar 1))))
  (sSeq (sSet 3 (sSl slF (sVar 0) (sPart (sOp addF (sVar 1) (sC (.int 1)))) sNoP))
  (sSeq (sIf (sNot (isB (sPure F_is_token (sCons (sVar 3) sNil)))) (sSet 3 (sPure F_read_quoted (sCons (sVar 3) sNil))) sSkip)
  (sSeq (sIf (sOr (isB (sOp isNF (sVar 3) (sC .none))) (sNot (isB (sPure F_is_token (sCons (sVar 2) sNil))))) (sRet (sC .none)) sSkip)
  (sRet (sTup (sCons (sPure F_lower (sCons (sVar 2) sNil)) (sCons (sVar 3) sNil))))))))))
noncomputable def F_read_directive : DF := fnD 1 4 g_read_directive
noncomputable def g_read_directives : SS := (sSeq (sSet 1 (sPure F_join_values (sCons (sVar 0) (sCons (sC (.str "cache-control")) sNil))))
  (sSeq (sIf (isB (sOp isNF (sVar 1) (sC .none))) (sRet (sTup sNil)) sSkip)
  (sSeq (sSet 2 (sPure F_split_list (sCons (sVar 1) sNil)))
  (sSeq (sIf (isB (sOp isNF (sVar 2) (sC .none))) (sRet (sTup (sCons (sTup (sCons (sC (.str "no-store")) (sCons (sC .none) sNil))) sNil))) sSkip)
  (sSeq (sSet 3 (sFrz (sLc (.n 4) (iL (sVar 2)) sYes (sPure F_read_directive (sCons (sVar 4) sNil)) [4])))
  (sRet (sCB tupF (sCons (sFrz (sLc (.n 5) (iL (sVar 3)) (isB (sOp notNF (sVar 5) (sC .none))) (sVar 5) [5])) sNil))))))))
noncomputable def F_read_directives : DF := fnD 1 6 g_read_directives
noncomputable def g_told_lifetime : SS := (sSeq (sSet 2 (sPure F_date_of_field (sCons (sVar 0) (sCons (sC (.str "date")) (sCons (sVar 1) sNil)))))
  (sSeq (sSet 3 (sPure F_date_of_field (sCons (sVar 0) (sCons (sC (.str "expires")) (sCons (sVar 1) sNil)))))
  (sSeq (sIf (sOr (isB (sOp isNF (sVar 2) (sC .none))) (isB (sOp isNF (sVar 3) (sC .none)))) (sRet (sC (.int 0))) sSkip)
  (sRet (sCB max2F (sCons (sC (.int 0)) (sCons (sOp subF (sVar 3) (sVar 2)) sNil)))))))
noncomputable def F_told_lifetime : DF := fnD 2 4 g_told_lifetime
noncomputable def g_lifetime : SS := (sSeq (sPar 4 5 (sCons (sOp ixF (sVar 0) (sC (.int 0))) (sCons (sOp ixF (sVar 0) (sC (.int 1))) sNil)))
  (sSeq (sSetP (.t [6, 7]) (sPure F_directive (sCons (sPure F_read_directives (sCons (sVar 5) sNil)) (sCons (sC (.str "max-age")) sNil))))
  (sSeq (sIf (isB (sVar 6)) (sSeq (sSet 8 (sPure F_seconds (sCons (sVar 7) sNil)))
  (sRet (sIfE (isB (sOp isNF (sVar 8) (sC .none))) (sC (.int 0)) (sVar 8)))) sSkip)
  (sSeq (sIf (isB (sOp neF (sPure F_values (sCons (sVar 5) (sCons (sC (.str "expires")) sNil))) (sFrz (sLst sNil)))) (sRet (sPure F_told_lifetime (sCons (sVar 5) (sCons (sVar 1) sNil)))) sSkip)
  (sSeq (sSet 2 (sPure F_date_of_field (sCons (sVar 5) (sCons (sC (.str "date")) (sCons (sVar 1) sNil)))))
  (sSeq (sSet 3 (sPure F_date_of_field (sCons (sVar 5) (sCons (sC (.str "last-modified")) (sCons (sVar 1) sNil)))))
  (sSeq (sIf (sOr (isB (sOp ninF (sVar 4) (sC c_LASTING))) (sOr (isB (sOp isNF (sVar 2) (sC .none))) (isB (sOp isNF (sVar 3) (sC .none))))) (sRet (sC (.int 0))) sSkip)
  (sRet (sCB max2F (sCons (sC (.int 0)) (sCons (sOp divF (sOp subF (sVar 2) (sVar 3)) (sC (.int 10))) sNil)))))))))))
noncomputable def F_lifetime : DF := fnD 2 9 g_lifetime
noncomputable def g__law_rule : SS := (sRet (sPure F_directive (sCons (sPure F_read_directives (sCons (sVar 0) sNil)) (sCons (sVar 1) sNil))))
noncomputable def F__law_rule : DF := fnD 2 2 g__law_rule
noncomputable def g__law_limit : SS := (sRet (sPure F_seconds (sCons (sOp ixF (sPure F__law_rule (sCons (sVar 0) (sCons (sVar 1) sNil))) (sC (.int 1))) sNil)))
noncomputable def F__law_limit : DF := fnD 2 2 g__law_limit
noncomputable def g__law_usable : SS := (sSeq (sSet 3 (sOp ixF (sVar 1) (sC (.int 2))))
  (sSeq (sSet 4 (sOp ixF (sOp ixF (sVar 0) (sC (.int 2))) (sC (.int 1))))
  (sSeq (sSet 5 (sPure F_age (sCons (sVar 0) (sCons (sVar 2) sNil))))
  (sSeq (sSet 6 (sPure F_lifetime (sCons (sOp ixF (sVar 0) (sC (.int 2))) (sCons (sOp ixF (sVar 0) (sC (.int 4))) sNil))))
  (sSeq (sIf (sOr (isB (sOp ixF (sPure F__law_rule (sCons (sVar 3) (sCons (sC (.str "no-cache")) sNil))) (sC (.int 0)))) (isB (sOp ixF (sPure F__law_rule (sCons (sVar 4) (sCons (sC (.str "no-cache")) sNil))) (sC (.int 0))))) (sRet (sC (.bool false))) sSkip)
  (sSeq (sSet 7 (sPure F__law_limit (sCons (sVar 3) (sCons (sC (.str "max-age")) sNil))))
  (sSeq (sIf (sAnd (isB (sOp notNF (sVar 7) (sC .none))) (isB (sOp gtF (sVar 5) (sVar 7)))) (sRet (sC (.bool false))) sSkip)
  (sSeq (sSet 8 (sPure F__law_limit (sCons (sVar 3) (sCons (sC (.str "min-fresh")) sNil))))
  (sSeq (sIf (sAnd (isB (sOp notNF (sVar 8) (sC .none))) (sNot (isB (sOp ltF (sOp addF (sVar 5) (sVar 8)) (sVar 6))))) (sRet (sC (.bool false))) sSkip)
  (sSeq (sIf (isB (sOp gtF (sVar 6) (sVar 5))) (sRet (sC (.bool true))) sSkip)
  (sSeq (sSetP (.t [10, 11]) (sPure F__law_rule (sCons (sVar 3) (sCons (sC (.str "max-stale")) sNil))))
  (sSeq (sIf (sOr (sNot (isB (sVar 10))) (sOr (isB (sOp notNF (sVar 8) (sC .none))) (isB (sOp ixF (sPure F__law_rule (sCons (sVar 4) (sCons (sC (.str "must-revalidate")) sNil))) (sC (.int 0)))))) (sRet (sC (.bool false))) sSkip)
  (sSeq (sIf (isB (sOp isNF (sVar 11) (sC .none))) (sRet (sC (.bool true))) sSkip)
  (sSeq (sSet 9 (sPure F_seconds (sCons (sVar 11) sNil)))
  (sRet (sAndV (sOp notNF (sVar 9) (sC .none)) (sOp leF (sOp subF (sVar 5) (sVar 6)) (sVar 9))))))))))))))))))
noncomputable def F__law_usable : DF := fnD 3 12 g__law_usable
noncomputable def g_read_tag : SS := (sSeq (sSet 1 (sOp eqF (sSl slF (sVar 0) sNoP (sPart (sC (.int 2)))) (sC (.str "W/"))))
  (sSeq (sSet 2 (sIfE (isB (sVar 1)) (sSl slF (sVar 0) (sPart (sC (.int 2))) sNoP) (sVar 0)))
  (sSeq (sIf (sOr (isB (sOp ltF (sCB lenF (sCons (sVar 2) sNil)) (sC (.int 2)))) (sOr (isB (sOp neF (sOp ixF (sVar 2) (sC (.int 0))) (sC (.str "\"")))) (isB (sOp neF (sOp ixF (sVar 2) (sUn negF (sC (.int 1)))) (sC (.str "\"")))))) (sRet (sC .none)) sSkip)
  (sSeq (sFor (.n 3) (iS (sSl slF (sVar 2) (sPart (sC (.int 1))) (sPart (sUn negF (sC (.int 1)))))) (sIf (sOr (sNot (isB (sChain leF leF (sC (.str "!")) (sVar 3) (sC (.str "~"))))) (sOr (isB (sOp eqF (sVar 3) (sC (.str "\"")))) (isB (sOp eqF (sVar 3) (sC (.str "\\")))))) (sRet (sC .none)) sSkip))
  (sRet (sTup (sCons (sVar 1) (sCons (sSl slF (sVar 2) (sPart (sC (.int 1))) (sPart (sUn negF (sC (.int 1))))) sNil))))))))
noncomputable def F_read_tag : DF := fnD 1 4 g_read_tag
noncomputable def g__law_tag : SS := (sSeq (sSet 1 (sFrz (sLc (.t [2, 3]) (iT (sOp ixF (sVar 0) (sC (.int 1)))) (isB (sOp eqF (sVar 2) (sC (.str "etag")))) (sVar 3) [2, 3])))
  (sRet (sIfE (isB (sOp eqF (sCB lenF (sCons (sVar 1) sNil)) (sC (.int 1)))) (sPure F_read_tag (sCons (sOp ixF (sVar 1) (sC (.int 0))) sNil)) (sC .none))))
noncomputable def F__law_tag : DF := fnD 1 4 g__law_tag
noncomputable def g__law_modified : SS := (sSeq (sSet 2 (sFrz (sLc (.t [3, 4]) (iT (sOp ixF (sVar 0) (sC (.int 1)))) (isB (sOp eqF (sVar 3) (sC (.str "last-modified")))) (sVar 4) [3, 4])))
  (sRet (sIfE (isB (sOp eqF (sCB lenF (sCons (sVar 2) sNil)) (sC (.int 1)))) (sPure F_read_date (sCons (sOp ixF (sVar 2) (sC (.int 0))) (sCons (sVar 1) sNil))) (sC .none))))
noncomputable def F__law_modified : DF := fnD 2 5 g__law_modified
noncomputable def g__law_plan : SS := (sSeq (sSet 3 (sFrz (sLst (sCons (sC (.str "range")) (sCons (sC (.str "if-range")) (sCons (sC (.str "if-match")) (sCons (sC (.str "if-unmodified-since")) sNil)))))))
  (sSeq (sIf (sOr (isB (sOp neF (sOp ixF (sVar 1) (sC (.int 0))) (sC (.str "GET")))) (sOr (isB (sPure F__law_has (sCons (sVar 1) (sCons (sVar 3) sNil)))) (isB (sOp ixF (sPure F__law_rule (sCons (sOp ixF (sVar 1) (sC (.int 2))) (sCons (sC (.str "no-store")) sNil))) (sC (.int 0)))))) (sRet (sTup (sCons (sC (.str "pass")) sNil))) sSkip)
  (sSeq (sSet 4 (sOne F__law_find (sCons (sVar 0) (sCons (sVar 1) sNil))))
  (sSeq (sIf (sAnd (isB (sOp notNF (sVar 4) (sC .none))) (isB (sPure F__law_usable (sCons (sVar 4) (sCons (sVar 1) (sCons (sVar 2) sNil)))))) (sRet (sTup (sCons (sC (.str "show")) (sCons (sVar 4) sNil)))) sSkip)
  (sSeq (sIf (isB (sOp ixF (sPure F__law_rule (sCons (sOp ixF (sVar 1) (sC (.int 2))) (sCons (sC (.str "only-if-cached")) sNil))) (sC (.int 0)))) (sRet (sTup (sCons (sC (.str "refuse")) sNil))) sSkip)
  (sSeq (sIf (sAnd (isB (sOp notNF (sVar 4) (sC .none))) (sNot (isB (sPure F__law_has (sCons (sVar 1) (sCons (sFrz (sLst (sCons (sC (.str "if-none-match")) (sCons (sC (.str "if-modified-since")) sNil)))) sNil)))))) (sSeq (sSet 5 (sOp ixF (sOp ixF (sVar 4) (sC (.int 2))) (sC (.int 1))))
  (sSeq (sIf (isB (sOp notNF (sPure F__law_tag (sCons (sOp ixF (sVar 4) (sC (.int 2))) sNil)) (sC .none))) (sRet (sTup (sCons (sC (.str "check")) (sCons (sVar 4) (sCons (sTup (sCons (sC (.str "if-none-match")) (sCons (sOp ixF (sFrz (sLc (.t [7, 6]) (iT (sVar 5)) (isB (sOp eqF (sVar 7) (sC (.str "etag")))) (sVar 6) [7, 6])) (sC (.int 0))) sNil))) sNil))))) sSkip)
  (sIf (isB (sOp notNF (sPure F__law_modified (sCons (sOp ixF (sVar 4) (sC (.int 2))) (sCons (sOp ixF (sVar 4) (sC (.int 4))) sNil))) (sC .none))) (sSeq (sSet 6 (sOp ixF (sFrz (sLc (.t [7, 6]) (iT (sVar 5)) (isB (sOp eqF (sVar 7) (sC (.str "last-modified")))) (sVar 6) [7, 6])) (sC (.int 0))))
  (sRet (sTup (sCons (sC (.str "check")) (sCons (sVar 4) (sCons (sTup (sCons (sC (.str "if-modified-since")) (sCons (sVar 6) sNil))) sNil)))))) sSkip))) sSkip)
  (sRet (sTup (sCons (sC (.str "ask")) (sCons (sVar 4) sNil))))))))))
noncomputable def F__law_plan : DF := fnD 3 8 g__law_plan
noncomputable def g__law_sent : SS := (sSeq (sIf (isB (sOp inF (sOp ixF (sVar 0) (sC (.int 0))) (sFrz (sLst (sCons (sC (.str "show")) (sCons (sC (.str "refuse")) sNil)))))) (sRet (sC .none)) sSkip)
  (sSeq (sIf (isB (sOp eqF (sOp ixF (sVar 0) (sC (.int 0))) (sC (.str "check")))) (sRet (sTup (sCons (sOp ixF (sVar 1) (sC (.int 0))) (sCons (sOp ixF (sVar 1) (sC (.int 1))) (sCons (sOp addF (sOp ixF (sVar 1) (sC (.int 2))) (sTup (sCons (sOp ixF (sVar 0) (sC (.int 2))) sNil))) (sCons (sOp ixF (sVar 1) (sC (.int 3))) (sCons (sOp ixF (sVar 1) (sC (.int 4))) sNil))))))) sSkip)
  (sRet (sVar 1))))
noncomputable def F__law_sent : DF := fnD 2 2 g__law_sent
noncomputable def g_without : SS := (sRet (sCB tupF (sCons (sFrz (sLc (.n 2) (iT (sVar 0)) (isB (sOp ninF (sOp ixF (sVar 2) (sC (.int 0))) (sVar 1))) (sVar 2) [2])) sNil)))
noncomputable def F_without : DF := fnD 2 3 g_without
noncomputable def g_freshened : SS := (sSeq (sSet 4 (sOp ixF (sVar 0) (sC (.int 2))))
  (sSeq (sSet 5 (sPure F_without (sCons (sOp ixF (sVar 1) (sC (.int 1))) (sCons (sC c_STAYING) sNil))))
  (sSeq (sSet 6 (sPure F_without (sCons (sOp ixF (sVar 4) (sC (.int 1))) (sCons (sFrz (sLc (.t [7, 8]) (iT (sVar 5)) sYes (sVar 7) [7, 8])) sNil))))
  (sRet (sTup (sCons (sOp ixF (sVar 0) (sC (.int 0))) (sCons (sOp ixF (sVar 0) (sC (.int 1))) (sCons (sTup (sCons (sOp ixF (sVar 4) (sC (.int 0))) (sCons (sOp addF (sVar 6) (sVar 5)) (sCons (sOp ixF (sVar 4) (sC (.int 2))) (sCons (sOp ixF (sVar 4) (sC (.int 3))) sNil))))) (sCons (sVar 2) (sCons (sVar 3) sNil))))))))))
noncomputable def F_freshened : DF := fnD 4 9 g_freshened
noncomputable def g__law_put : SS := (sSeq (sSet 2 (sTup (sCons (sC (.str "GET")) (sCons (sOp ixF (sVar 1) (sC (.int 0))) (sCons (sOp ixF (sVar 1) (sC (.int 1))) (sCons (sTup sNil) (sCons (sTup sNil) sNil)))))))
  (sSeq (sDSet "rows" (sVar 0) (sFrz (sLc (.n 3) (iL (sDGet "rows" (sVar 0))) (sNot (isB (sPure F_fits (sCons (sOp ixF (sVar 3) (sC (.int 1))) (sCons (sVar 2) sNil))))) (sVar 3) [3])))
  (sSeq (sDSet "number" (sVar 0) (sOp addF (sDGet "number" (sVar 0)) (sC (.int 1))))
  (sSeq (sDSet "rows" (sVar 0) (sOp addF (sDGet "rows" (sVar 0)) (sFrz (sLst (sCons (sTup (sCons (sDGet "number" (sVar 0)) (sCons (sVar 1) sNil))) sNil)))))
  (sIf (isB (sOp gtF (sCB lenF (sCons (sDGet "rows" (sVar 0)) sNil)) (sDGet "room" (sVar 0)))) (sDSet "rows" (sVar 0) (sSl slF (sDGet "rows" (sVar 0)) (sPart (sC (.int 1))) sNoP)) sSkip)))))
noncomputable def F__law_put : DF := fnD 2 4 g__law_put
noncomputable def g__law_same_tag : SS := (sSeq (sSet 2 (sPure F__law_tag (sCons (sOp ixF (sVar 0) (sC (.int 2))) sNil)))
  (sSeq (sSet 3 (sPure F__law_tag (sCons (sVar 1) sNil)))
  (sRet (sAndV (sOp notNF (sVar 2) (sC .none)) (sAndV (sOp notNF (sVar 3) (sC .none)) (sAndV (sNotV (sOp ixF (sVar 2) (sC (.int 0)))) (sAndV (sNotV (sOp ixF (sVar 3) (sC (.int 0)))) (sOp eqF (sOp ixF (sVar 2) (sC (.int 1))) (sOp ixF (sVar 3) (sC (.int 1)))))))))))
noncomputable def F__law_same_tag : DF := fnD 2 4 g__law_same_tag
noncomputable def g_tag_value : SS := (sSeq (sSet 1 (sPure F_values (sCons (sOp ixF (sVar 0) (sC (.int 1))) (sCons (sC (.str "etag")) sNil))))
  (sSeq (sIf (isB (sOp neF (sCB lenF (sCons (sVar 1) sNil)) (sC (.int 1)))) (sRet (sC .none)) sSkip)
  (sRet (sPure F_read_tag (sCons (sOp ixF (sVar 1) (sC (.int 0))) sNil)))))
noncomputable def F_tag_value : DF := fnD 1 2 g_tag_value
noncomputable def g_modified_value : SS := (sRet (sPure F_date_of_field (sCons (sOp ixF (sVar 0) (sC (.int 1))) (sCons (sC (.str "last-modified")) (sCons (sVar 1) sNil)))))
noncomputable def F_modified_value : DF := fnD 2 2 g_modified_value
noncomputable def g_may_keep : SS := (sSeq (sIf (sOr (isB (sOp neF (sOp ixF (sVar 0) (sC (.int 0))) (sC (.str "GET")))) (sOr (isB (sOp neF (sPure F_values (sCons (sOp ixF (sVar 0) (sC (.int 2))) (sCons (sC (.str "range")) sNil))) (sFrz (sLst sNil)))) (isB (sOp ninF (sOp ixF (sVar 1) (sC (.int 0))) (sC c_KEPT))))) (sRet (sC (.bool false))) sSkip)
  (sSeq (sFor (.n 3) (iT (sTup (sCons (sOp ixF (sVar 0) (sC (.int 2))) (sCons (sOp ixF (sVar 1) (sC (.int 1))) sNil)))) (sIf (isB (sOp ixF (sPure F_directive (sCons (sPure F_read_directives (sCons (sVar 3) sNil)) (sCons (sC (.str "no-store")) sNil))) (sC (.int 0)))) (sRet (sC (.bool false))) sSkip))
  (sSeq (sIf (isB (sOp inF (sC (.str "*")) (sPure F_vary_names (sCons (sVar 1) sNil)))) (sRet (sC (.bool false))) sSkip)
  (sSeq (sSet 4 (sOrV (sOp notNF (sPure F_tag_value (sCons (sVar 1) sNil)) (sC .none)) (sOp notNF (sPure F_modified_value (sCons (sVar 1) (sCons (sVar 2) sNil))) (sC .none))))
  (sRet (sOrV (sVar 4) (sOp gtF (sPure F_lifetime (sCons (sVar 1) (sCons (sVar 2) sNil))) (sC (.int 0)))))))))
noncomputable def F_may_keep : DF := fnD 3 5 g_may_keep
noncomputable def g_date_value : SS := (sSeq (sSet 3 (sPure F_join_values (sCons (sVar 0) (sCons (sVar 1) sNil))))
  (sSeq (sIf (isB (sOp isNF (sVar 3) (sC .none))) (sRet (sC .none)) sSkip)
  (sRet (sPure F_read_date (sCons (sVar 3) (sCons (sVar 2) sNil))))))
noncomputable def F_date_value : DF := fnD 3 4 g_date_value
noncomputable def g_read_tags : SS := (sSeq (sIf (isB (sOp eqF (sPure F_trimmed (sCons (sVar 0) sNil)) (sC (.str "*")))) (sRet (sC (.str "*"))) sSkip)
  (sSeq (sSet 1 (sPure F_split_list (sCons (sVar 0) sNil)))
  (sSeq (sIf (sOr (isB (sOp isNF (sVar 1) (sC .none))) (isB (sOp eqF (sVar 1) (sFrz (sLst sNil))))) (sRet (sC .none)) sSkip)
  (sSeq (sSet 2 (sFrz (sLc (.n 3) (iL (sVar 1)) sYes (sPure F_read_tag (sCons (sVar 3) sNil)) [3])))
  (sSeq (sIf (isB (sOp inF (sC .none) (sVar 2))) (sRet (sC .none)) sSkip)
  (sRet (sVar 2)))))))
noncomputable def F_read_tags : DF := fnD 1 4 g_read_tags
noncomputable def g_tags_of : SS := (sSeq (sSet 2 (sPure F_join_values (sCons (sVar 0) (sCons (sVar 1) sNil))))
  (sSeq (sIf (isB (sOp isNF (sVar 2) (sC .none))) (sRet (sC .none)) sSkip)
  (sRet (sPure F_read_tags (sCons (sVar 2) sNil)))))
noncomputable def F_tags_of : DF := fnD 2 3 g_tags_of
noncomputable def g_strong_match : SS := (sRet (sAndV (sNotV (sOp ixF (sVar 0) (sC (.int 0)))) (sAndV (sNotV (sOp ixF (sVar 1) (sC (.int 0)))) (sOp eqF (sOp ixF (sVar 0) (sC (.int 1))) (sOp ixF (sVar 1) (sC (.int 1)))))))
noncomputable def F_strong_match : DF := fnD 2 2 g_strong_match
noncomputable def g_weak_match : SS := (sRet (sOp eqF (sOp ixF (sVar 0) (sC (.int 1))) (sOp ixF (sVar 1) (sC (.int 1)))))
noncomputable def F_weak_match : DF := fnD 2 2 g_weak_match
noncomputable def S_match (x : Str) : Option DF := if x = "strong_match" then some F_strong_match else if x = "weak_match" then some F_weak_match else none
noncomputable def g_matches : SS := (sSeq (sIf (isB (sOp isNF (sVar 1) (sC .none))) (sRet (sC (.bool false))) sSkip)
  (sSeq (sIf (isB (sOp eqF (sVar 0) (sC (.str "*")))) (sRet (sC (.bool true))) sSkip)
  (sSeq (sFor (.n 3) (iL (sVar 0)) (sIf (isB (sLoc 2 S_match (sCons (sVar 3) (sCons (sVar 1) sNil)))) (sRet (sC (.bool true))) sSkip))
  (sRet (sC (.bool false))))))
noncomputable def F_matches : DF := fnD 3 4 g_matches
noncomputable def g_fails : SS := (sSeq (sIf (isB (sOp notNF (sPure F_join_values (sCons (sVar 0) (sCons (sC (.str "if-match")) sNil))) (sC .none))) (sSeq (sSet 5 (sPure F_tags_of (sCons (sVar 0) (sCons (sC (.str "if-match")) sNil))))
  (sRet (sOrV (sOp isNF (sVar 5) (sC .none)) (sNotV (sPure F_matches (sCons (sVar 5) (sCons (sVar 1) (sCons (sGf "strong_match") sNil)))))))) sSkip)
  (sSeq (sSet 4 (sPure F_date_value (sCons (sVar 0) (sCons (sC (.str "if-unmodified-since")) (sCons (sVar 3) sNil)))))
  (sRet (sAndV (sOp notNF (sVar 4) (sC .none)) (sAndV (sOp notNF (sVar 2) (sC .none)) (sOp gtF (sVar 2) (sVar 4)))))))
noncomputable def F_fails : DF := fnD 4 6 g_fails
noncomputable def g_is_known : SS := (sSeq (sSet 5 (sPure F_tags_of (sCons (sVar 1) (sCons (sC (.str "if-none-match")) sNil))))
  (sSeq (sIf (isB (sOp notNF (sVar 5) (sC .none))) (sRet (sPure F_matches (sCons (sVar 5) (sCons (sVar 2) (sCons (sGf "weak_match") sNil))))) sSkip)
  (sSeq (sIf (sAnd (isB (sOp neF (sVar 0) (sC (.str "GET")))) (isB (sOp neF (sVar 0) (sC (.str "HEAD"))))) (sRet (sC (.bool false))) sSkip)
  (sSeq (sSet 6 (sPure F_date_value (sCons (sVar 1) (sCons (sC (.str "if-modified-since")) (sCons (sVar 4) sNil)))))
  (sRet (sAndV (sOp notNF (sVar 6) (sC .none)) (sAndV (sOp notNF (sVar 3) (sC .none)) (sOp leF (sVar 3) (sVar 6)))))))))
noncomputable def F_is_known : DF := fnD 5 7 g_is_known
noncomputable def g_wants_whole : SS := (sSeq (sIf (sOr (isB (sOp neF (sVar 0) (sC (.str "GET")))) (isB (sOp isNF (sPure F_join_values (sCons (sVar 1) (sCons (sC (.str "range")) sNil))) (sC .none)))) (sRet (sC (.bool true))) sSkip)
  (sSeq (sSet 5 (sPure F_join_values (sCons (sVar 1) (sCons (sC (.str "if-range")) sNil))))
  (sSeq (sIf (isB (sOp isNF (sVar 5) (sC .none))) (sRet (sC (.bool false))) sSkip)
  (sSeq (sSet 6 (sPure F_read_tag (sCons (sVar 5) sNil)))
  (sSeq (sIf (isB (sOp notNF (sVar 6) (sC .none))) (sRet (sOrV (sOp isNF (sVar 2) (sC .none)) (sNotV (sPure F_strong_match (sCons (sVar 6) (sCons (sVar 2) sNil)))))) sSkip)
  (sSeq (sSet 7 (sPure F_read_date (sCons (sVar 5) (sCons (sVar 4) sNil))))
  (sRet (sOrV (sOp isNF (sVar 7) (sC .none)) (sOp neF (sVar 3) (sVar 7))))))))))
noncomputable def F_wants_whole : DF := fnD 5 8 g_wants_whole
noncomputable def g_judge : SS := (sSeq (sIf (isB (sPure F_fails (sCons (sVar 1) (sCons (sVar 2) (sCons (sVar 3) (sCons (sVar 4) sNil)))))) (sRet (sTup (sCons (sC (.int 412)) (sCons (sC (.bool true)) sNil)))) sSkip)
  (sSeq (sIf (isB (sPure F_is_known (sCons (sVar 0) (sCons (sVar 1) (sCons (sVar 2) (sCons (sVar 3) (sCons (sVar 4) sNil))))))) (sRet (sIfE (sOr (isB (sOp eqF (sVar 0) (sC (.str "GET")))) (isB (sOp eqF (sVar 0) (sC (.str "HEAD"))))) (sTup (sCons (sC (.int 304)) (sCons (sC (.bool true)) sNil))) (sTup (sCons (sC (.int 412)) (sCons (sC (.bool true)) sNil))))) sSkip)
  (sRet (sTup (sCons (sC (.int 0)) (sCons (sPure F_wants_whole (sCons (sVar 0) (sCons (sVar 1) (sCons (sVar 2) (sCons (sVar 3) (sCons (sVar 4) sNil)))))) sNil))))))
noncomputable def F_judge : DF := fnD 5 5 g_judge
noncomputable def g__law_shown : SS := (sSeq (sSetP (.t [5, 6, 7, 8]) (sOp ixF (sVar 0) (sC (.int 2))))
  (sSeq (sSet 3 (sOp addF (sFrz (sLc (.n 10) (iT (sVar 6)) (isB (sOp neF (sOp ixF (sVar 10) (sC (.int 0))) (sC (.str "age")))) (sVar 10) [10])) (sFrz (sLst (sCons (sTup (sCons (sC (.str "age")) (sCons (sCB strF (sCons (sCB min2F (sCons (sPure F_age (sCons (sVar 0) (sCons (sVar 2) sNil))) (sCons (sOp powF (sC (.int 2)) (sC (.int 31))) sNil))) sNil)) sNil))) sNil)))))
  (sSeq (sSet 4 (sPure F_judge (sCons (sC (.str "GET")) (sCons (sOp ixF (sVar 1) (sC (.int 2))) (sCons (sPure F__law_tag (sCons (sOp ixF (sVar 0) (sC (.int 2))) sNil)) (sCons (sPure F__law_modified (sCons (sOp ixF (sVar 0) (sC (.int 2))) (sCons (sOp ixF (sVar 0) (sC (.int 4))) sNil))) (sCons (sVar 2) sNil)))))))
  (sSeq (sIf (isB (sOp eqF (sOp ixF (sVar 4) (sC (.int 0))) (sC (.int 304)))) (sSeq (sSet 9 (sFrz (sLst (sCons (sC (.str "date")) (sCons (sC (.str "etag")) (sCons (sC (.str "last-modified")) (sCons (sC (.str "cache-control")) (sCons (sC (.str "vary")) (sCons (sC (.str "expires")) (sCons (sC (.str "age")) sNil))))))))))
  (sRet (sTup (sCons (sC (.int 304)) (sCons (sCB tupF (sCons (sFrz (sLc (.n 10) (iL (sVar 3)) (isB (sOp inF (sOp ixF (sVar 10) (sC (.int 0))) (sVar 9))) (sVar 10) [10])) sNil)) (sCons (sTup sNil) (sCons (sTup sNil) sNil))))))) sSkip)
  (sRet (sTup (sCons (sVar 5) (sCons (sCB tupF (sCons (sVar 3) sNil)) (sCons (sVar 7) (sCons (sVar 8) sNil))))))))))
noncomputable def F__law_shown : DF := fnD 3 11 g__law_shown
noncomputable def g__law_done : SS := (sSeq (sIf (isB (sOp eqF (sOp ixF (sVar 1) (sC (.int 0))) (sC (.str "show")))) (sRet (sTup (sCons (sPure F__law_shown (sCons (sOp ixF (sVar 1) (sC (.int 1))) (sCons (sVar 2) (sCons (sVar 4) sNil)))) (sCons (sC (.str "kept")) sNil)))) sSkip)
  (sSeq (sIf (isB (sOp eqF (sOp ixF (sVar 1) (sC (.int 0))) (sC (.str "refuse")))) (sRet (sTup (sCons (sTup (sCons (sC (.int 504)) (sCons (sTup (sCons (sTup (sCons (sC (.str "date")) (sCons (sPure F_write_date (sCons (sVar 4) sNil)) sNil))) sNil)) (sCons (sTup sNil) (sCons (sTup sNil) sNil))))) (sCons (sC (.str "refused")) sNil)))) sSkip)
  (sSeq (sIf (isB (sOp eqF (sOp ixF (sVar 1) (sC (.int 0))) (sC (.str "pass")))) (sSeq (sIf (sAnd (isB (sOp ninF (sOp ixF (sVar 2) (sC (.int 0))) (sFrz (sLst (sCons (sC (.str "GET")) (sCons (sC (.str "HEAD")) (sCons (sC (.str "OPTIONS")) sNil))))))) (isB (sChain leF leF (sC (.int 200)) (sOp ixF (sVar 3) (sC (.int 0))) (sC (.int 399))))) (sDSet "rows" (sVar 0) (sFrz (sLc (.n 6) (iL (sDGet "rows" (sVar 0))) (isB (sOp neF (sOp ixF (sOp ixF (sVar 6) (sC (.int 1))) (sC (.int 0))) (sOp ixF (sVar 2) (sC (.int 1))))) (sVar 6) [6]))) sSkip)
  (sRet (sTup (sCons (sVar 3) (sCons (sC (.str "fetched")) sNil))))) sSkip)
  (sSeq (sSet 5 (sOp ixF (sVar 1) (sC (.int 1))))
  (sSeq (sIf (sAnd (isB (sOp eqF (sOp ixF (sVar 1) (sC (.int 0))) (sC (.str "check")))) (isB (sOp eqF (sOp ixF (sVar 3) (sC (.int 0))) (sC (.int 304))))) (sSeq (sSet 5 (sPure F_freshened (sCons (sVar 5) (sCons (sVar 3) (sCons (sVar 4) (sCons (sVar 4) sNil))))))
  (sSeq (sDrop (sOne F__law_put (sCons (sVar 0) (sCons (sVar 5) sNil))))
  (sRet (sTup (sCons (sPure F__law_shown (sCons (sVar 5) (sCons (sVar 2) (sCons (sVar 4) sNil)))) (sCons (sC (.str "checked")) sNil)))))) sSkip)
  (sSeq (sIf (sAnd (isB (sOp eqF (sOp ixF (sVar 1) (sC (.int 0))) (sC (.str "ask")))) (sAnd (isB (sOp eqF (sOp ixF (sVar 3) (sC (.int 0))) (sC (.int 304)))) (sAnd (isB (sOp notNF (sVar 5) (sC .none))) (isB (sPure F__law_same_tag (sCons (sVar 5) (sCons (sVar 3) sNil))))))) (sDrop (sOne F__law_put (sCons (sVar 0) (sCons (sPure F_freshened (sCons (sVar 5) (sCons (sVar 3) (sCons (sVar 4) (sCons (sVar 4) sNil))))) sNil)))) (sIf (isB (sPure F_may_keep (sCons (sVar 2) (sCons (sVar 3) (sCons (sVar 4) sNil))))) (sDrop (sOne F__law_put (sCons (sVar 0) (sCons (sTup (sCons (sOp ixF (sVar 2) (sC (.int 1))) (sCons (sOp ixF (sVar 2) (sC (.int 2))) (sCons (sVar 3) (sCons (sVar 4) (sCons (sVar 4) sNil)))))) sNil)))) sSkip))
  (sRet (sTup (sCons (sVar 3) (sCons (sC (.str "fetched")) sNil))))))))))
noncomputable def F__law_done : DF := fnD 5 7 g__law_done
noncomputable def g_has_one : SS := (sSeq (sFor (.n 2) (iT (sVar 1)) (sIf (isB (sOp neF (sPure F_values (sCons (sVar 0) (sCons (sVar 2) sNil))) (sFrz (sLst sNil)))) (sRet (sC (.bool true))) sSkip))
  (sRet (sC (.bool false))))
noncomputable def F_has_one : DF := fnD 2 3 g_has_one
noncomputable def g_is_passed_on : SS := (sSeq (sIf (sOr (isB (sOp neF (sOp ixF (sVar 0) (sC (.int 0))) (sC (.str "GET")))) (isB (sPure F_has_one (sCons (sOp ixF (sVar 0) (sC (.int 2))) (sCons (sC c_PASSING) sNil))))) (sRet (sC (.bool true))) sSkip)
  (sRet (sOp ixF (sPure F_directive (sCons (sPure F_read_directives (sCons (sOp ixF (sVar 0) (sC (.int 2))) sNil)) (sCons (sC (.str "no-store")) sNil))) (sC (.int 0)))))
noncomputable def F_is_passed_on : DF := fnD 1 1 g_is_passed_on
noncomputable def g_date_rank : SS := (sSeq (sSet 1 (sPure F_date_of_field (sCons (sOp ixF (sOp ixF (sVar 0) (sC (.int 2))) (sC (.int 1))) (sCons (sC (.str "date")) (sCons (sOp ixF (sVar 0) (sC (.int 4))) sNil)))))
  (sRet (sIfE (isB (sOp isNF (sVar 1) (sC .none))) (sC (.int 0)) (sVar 1))))
noncomputable def F_date_rank : DF := fnD 1 2 g_date_rank
noncomputable def g_Shelf_find : SS := (sSeq (sSet 2 (sC .none))
  (sSeq (sFor (.n 3) (iL (sFld "Shelf" "_rows" (sVar 0))) (sIf (isB (sPure F_fits (sCons (sOp ixF (sVar 3) (sC (.int 1))) (sCons (sVar 1) sNil)))) (sIf (sOr (isB (sOp isNF (sVar 2) (sC .none))) (isB (sOp gtF (sTup (sCons (sPure F_date_rank (sCons (sOp ixF (sVar 3) (sC (.int 1))) sNil)) (sCons (sOp ixF (sVar 3) (sC (.int 0))) sNil))) (sTup (sCons (sPure F_date_rank (sCons (sOp ixF (sVar 2) (sC (.int 1))) sNil)) (sCons (sOp ixF (sVar 2) (sC (.int 0))) sNil)))))) (sSet 2 (sVar 3)) sSkip) sSkip))
  (sSeq (sIf (isB (sOp isNF (sVar 2) (sC .none))) (sRet (sC .none)) sSkip)
  (sSeq (sFldSet "Shelf" "_rows" (sVar 0) (sOp addF (sFrz (sLc (.n 3) (iL (sFld "Shelf" "_rows" (sVar 0))) (isB (sOp neF (sOp ixF (sVar 3) (sC (.int 0))) (sOp ixF (sVar 2) (sC (.int 0))))) (sVar 3) [3])) (sFrz (sLst (sCons (sVar 2) sNil)))))
  (sRet (sOp ixF (sVar 2) (sC (.int 1))))))))
noncomputable def F_Shelf_find : DF := fnD 2 4 g_Shelf_find
noncomputable def g_Told_answer : SS := (sSeq (sDrop (sApp (sFld "Told" "_asked" (sVar 0)) (sCons (sTup (sCons (sVar 1) (sCons (sVar 2) sNil))) sNil)))
  (sRet (sOp ixF (sFld "Told" "_responses" (sVar 0)) (sOp subF (sCB min2F (sCons (sCB lenF (sCons (sFld "Told" "_asked" (sVar 0)) sNil)) (sCons (sCB lenF (sCons (sFld "Told" "_responses" (sVar 0)) sNil)) sNil))) (sC (.int 1))))))
noncomputable def F_Told_answer : DF := fnD 3 3 g_Told_answer
noncomputable def g_agree : SS := (sSeq (sSet 2 (sPure F_tag_value (sCons (sVar 0) sNil)))
  (sSeq (sSet 3 (sPure F_tag_value (sCons (sVar 1) sNil)))
  (sRet (sAndV (sOp notNF (sVar 2) (sC .none)) (sAndV (sOp notNF (sVar 3) (sC .none)) (sPure F_strong_match (sCons (sVar 2) (sCons (sVar 3) sNil))))))))
noncomputable def F_agree : DF := fnD 2 4 g_agree
noncomputable def g_Shelf_put : SS := (sSeq (sSet 2 (sTup (sCons (sC (.str "GET")) (sCons (sOp ixF (sVar 1) (sC (.int 0))) (sCons (sOp ixF (sVar 1) (sC (.int 1))) (sCons (sTup sNil) (sCons (sTup sNil) sNil)))))))
  (sSeq (sSet 3 (sOp addF (sC (.int 1)) (sMaxD (sFrz (sLc (.n 4) (iL (sFld "Shelf" "_rows" (sVar 0))) sYes (sOp ixF (sVar 4) (sC (.int 0))) [4])) (sC (.int 0)))))
  (sSeq (sFldSet "Shelf" "_rows" (sVar 0) (sNew (sLc (.n 4) (iL (sFld "Shelf" "_rows" (sVar 0))) (sNot (isB (sPure F_fits (sCons (sOp ixF (sVar 4) (sC (.int 1))) (sCons (sVar 2) sNil))))) (sVar 4) [4])))
  (sSeq (sDrop (sApp (sFld "Shelf" "_rows" (sVar 0)) (sCons (sTup (sCons (sVar 3) (sCons (sVar 1) sNil))) sNil)))
  (sIf (isB (sOp gtF (sCB lenF (sCons (sFld "Shelf" "_rows" (sVar 0)) sNil)) (sFld "Shelf" "_room" (sVar 0)))) (sFldSet "Shelf" "_rows" (sVar 0) (sSl slF (sFld "Shelf" "_rows" (sVar 0)) (sPart (sC (.int 1))) sNoP)) sSkip)))))
noncomputable def F_Shelf_put : DF := fnD 2 5 g_Shelf_put
noncomputable def g_Keeper_keep : SS := (sSeq (sIf (sAnd (isB (sOp eqF (sOp ixF (sVar 3) (sC (.int 0))) (sC (.int 304)))) (sAnd (isB (sOp notNF (sVar 1) (sC .none))) (isB (sPure F_agree (sCons (sOp ixF (sVar 1) (sC (.int 2))) (sCons (sVar 3) sNil)))))) (sDrop (sMeth "Shelf" "put" F_Shelf_put (sFld "Keeper" "_shelf" (sVar 0)) (sCons (sPure F_freshened (sCons (sVar 1) (sCons (sVar 3) (sCons (sVar 4) (sCons (sVar 4) sNil))))) sNil))) (sIf (isB (sPure F_may_keep (sCons (sVar 2) (sCons (sVar 3) (sCons (sVar 4) sNil))))) (sDrop (sMeth "Shelf" "put" F_Shelf_put (sFld "Keeper" "_shelf" (sVar 0)) (sCons (sTup (sCons (sOp ixF (sVar 2) (sC (.int 1))) (sCons (sOp ixF (sVar 2) (sC (.int 2))) (sCons (sVar 3) (sCons (sVar 4) (sCons (sVar 4) sNil)))))) sNil))) sSkip))
  (sRet (sTup (sCons (sVar 3) (sCons (sC (.str "fetched")) sNil)))))
noncomputable def F_Keeper_keep : DF := fnD 5 5 g_Keeper_keep
noncomputable def g_Shelf_drop : SS := (sFldSet "Shelf" "_rows" (sVar 0) (sFrz (sLc (.n 2) (iL (sFld "Shelf" "_rows" (sVar 0))) (isB (sOp neF (sOp ixF (sOp ixF (sVar 2) (sC (.int 1))) (sC (.int 0))) (sVar 1))) (sVar 2) [2])))
noncomputable def F_Shelf_drop : DF := fnD 2 3 g_Shelf_drop
noncomputable def g_Keeper_pass_on : SS := (sSeq (sSet 3 (sMeth "Told" "answer" F_Told_answer (sFld "Keeper" "_origin" (sVar 0)) (sCons (sVar 1) (sCons (sVar 2) sNil))))
  (sSeq (sIf (sAnd (isB (sOp ninF (sOp ixF (sVar 1) (sC (.int 0))) (sTup (sCons (sC (.str "GET")) (sCons (sC (.str "HEAD")) (sCons (sC (.str "OPTIONS")) sNil)))))) (isB (sChain leF leF (sC (.int 200)) (sOp ixF (sVar 3) (sC (.int 0))) (sC (.int 399))))) (sDrop (sMeth "Shelf" "drop" F_Shelf_drop (sFld "Keeper" "_shelf" (sVar 0)) (sCons (sOp ixF (sVar 1) (sC (.int 1))) sNil))) sSkip)
  (sRet (sTup (sCons (sVar 3) (sCons (sC (.str "fetched")) sNil))))))
noncomputable def F_Keeper_pass_on : DF := fnD 3 4 g_Keeper_pass_on
noncomputable def g_limit_of : SS := (sRet (sPure F_seconds (sCons (sOp ixF (sPure F_directive (sCons (sVar 0) (sCons (sVar 1) sNil))) (sC (.int 1))) sNil)))
noncomputable def F_limit_of : DF := fnD 2 2 g_limit_of
noncomputable def g_entry_lifetime : SS := (sRet (sPure F_lifetime (sCons (sOp ixF (sVar 0) (sC (.int 2))) (sCons (sOp ixF (sVar 0) (sC (.int 4))) sNil))))
noncomputable def F_entry_lifetime : DF := fnD 1 1 g_entry_lifetime
noncomputable def g_allows_stale : SS := (sSeq (sSetP (.t [4, 5]) (sPure F_directive (sCons (sVar 0) (sCons (sC (.str "max-stale")) sNil))))
  (sSeq (sIf (sOr (sNot (isB (sVar 4))) (sOr (isB (sOp ixF (sPure F_directive (sCons (sVar 1) (sCons (sC (.str "must-revalidate")) sNil))) (sC (.int 0)))) (isB (sOp notNF (sPure F_limit_of (sCons (sVar 0) (sCons (sC (.str "min-fresh")) sNil))) (sC .none))))) (sRet (sC (.bool false))) sSkip)
  (sSeq (sIf (isB (sOp isNF (sVar 5) (sC .none))) (sRet (sC (.bool true))) sSkip)
  (sSeq (sSet 3 (sPure F_seconds (sCons (sVar 5) sNil)))
  (sRet (sAndV (sOp notNF (sVar 3) (sC .none)) (sOp leF (sVar 2) (sVar 3))))))))
noncomputable def F_allows_stale : DF := fnD 3 6 g_allows_stale
noncomputable def g_is_usable : SS := (sSeq (sSet 3 (sPure F_read_directives (sCons (sOp ixF (sVar 1) (sC (.int 2))) sNil)))
  (sSeq (sSet 4 (sPure F_read_directives (sCons (sOp ixF (sOp ixF (sVar 0) (sC (.int 2))) (sC (.int 1))) sNil)))
  (sSeq (sIf (sOr (isB (sOp ixF (sPure F_directive (sCons (sVar 3) (sCons (sC (.str "no-cache")) sNil))) (sC (.int 0)))) (isB (sOp ixF (sPure F_directive (sCons (sVar 4) (sCons (sC (.str "no-cache")) sNil))) (sC (.int 0))))) (sRet (sC (.bool false))) sSkip)
  (sSeq (sSet 5 (sPure F_age (sCons (sVar 0) (sCons (sVar 2) sNil))))
  (sSeq (sSet 6 (sPure F_limit_of (sCons (sVar 3) (sCons (sC (.str "max-age")) sNil))))
  (sSeq (sIf (sAnd (isB (sOp notNF (sVar 6) (sC .none))) (isB (sOp ltF (sVar 6) (sVar 5)))) (sRet (sC (.bool false))) sSkip)
  (sSeq (sSet 7 (sPure F_entry_lifetime (sCons (sVar 0) sNil)))
  (sSeq (sSet 8 (sPure F_limit_of (sCons (sVar 3) (sCons (sC (.str "min-fresh")) sNil))))
  (sSeq (sIf (sAnd (isB (sOp notNF (sVar 8) (sC .none))) (isB (sOp geF (sOp addF (sVar 5) (sVar 8)) (sVar 7)))) (sRet (sC (.bool false))) sSkip)
  (sRet (sOrV (sOp ltF (sVar 5) (sVar 7)) (sPure F_allows_stale (sCons (sVar 3) (sCons (sVar 4) (sCons (sOp subF (sVar 5) (sVar 7)) sNil)))))))))))))))
noncomputable def F_is_usable : DF := fnD 3 9 g_is_usable
noncomputable def g_shown : SS := (sSeq (sSetP (.t [6, 7, 8, 9]) (sOp ixF (sVar 0) (sC (.int 2))))
  (sSeq (sSet 3 (sOp addF (sPure F_without (sCons (sVar 7) (sCons (sFrz (sLst (sCons (sC (.str "age")) sNil))) sNil))) (sTup (sCons (sTup (sCons (sC (.str "age")) (sCons (sCB strF (sCons (sCB min2F (sCons (sPure F_age (sCons (sVar 0) (sCons (sVar 2) sNil))) (sCons (sC c_MOST_SECONDS) sNil))) sNil)) sNil))) sNil))))
  (sSeq (sSet 4 (sPure F_tag_value (sCons (sOp ixF (sVar 0) (sC (.int 2))) sNil)))
  (sSeq (sSet 5 (sPure F_modified_value (sCons (sOp ixF (sVar 0) (sC (.int 2))) (sCons (sOp ixF (sVar 0) (sC (.int 4))) sNil))))
  (sSeq (sIf (isB (sOp eqF (sOp ixF (sPure F_judge (sCons (sOp ixF (sVar 1) (sC (.int 0))) (sCons (sOp ixF (sVar 1) (sC (.int 2))) (sCons (sVar 4) (sCons (sVar 5) (sCons (sVar 2) sNil)))))) (sC (.int 0))) (sC (.int 304)))) (sRet (sTup (sCons (sC (.int 304)) (sCons (sCB tupF (sCons (sFrz (sLc (.n 10) (iT (sVar 3)) (isB (sOp inF (sOp ixF (sVar 10) (sC (.int 0))) (sC c_TOLD))) (sVar 10) [10])) sNil)) (sCons (sTup sNil) (sCons (sTup sNil) sNil)))))) sSkip)
  (sRet (sTup (sCons (sVar 6) (sCons (sVar 3) (sCons (sVar 8) (sCons (sVar 9) sNil)))))))))))
noncomputable def F_shown : DF := fnD 3 11 g_shown
noncomputable def g_checking : SS := (sSeq (sSet 1 (sOp ixF (sOp ixF (sVar 0) (sC (.int 2))) (sC (.int 1))))
  (sSeq (sIf (isB (sOp notNF (sPure F_tag_value (sCons (sOp ixF (sVar 0) (sC (.int 2))) sNil)) (sC .none))) (sRet (sTup (sCons (sC (.str "if-none-match")) (sCons (sOp ixF (sPure F_values (sCons (sVar 1) (sCons (sC (.str "etag")) sNil))) (sC (.int 0))) sNil)))) sSkip)
  (sSeq (sIf (isB (sOp notNF (sPure F_modified_value (sCons (sOp ixF (sVar 0) (sC (.int 2))) (sCons (sOp ixF (sVar 0) (sC (.int 4))) sNil))) (sC .none))) (sRet (sTup (sCons (sC (.str "if-modified-since")) (sCons (sOp ixF (sPure F_values (sCons (sVar 1) (sCons (sC (.str "last-modified")) sNil))) (sC (.int 0))) sNil)))) sSkip)
  (sRet (sC .none)))))
noncomputable def F_checking : DF := fnD 1 2 g_checking
noncomputable def g_Keeper_check : SS := (sSeq (sSet 4 (sOp addF (sOp ixF (sVar 2) (sC (.int 2))) (sTup (sCons (sPure F_checking (sCons (sVar 1) sNil)) sNil))))
  (sSeq (sSet 5 (sMeth "Told" "answer" F_Told_answer (sFld "Keeper" "_origin" (sVar 0)) (sCons (sTup (sCons (sOp ixF (sVar 2) (sC (.int 0))) (sCons (sOp ixF (sVar 2) (sC (.int 1))) (sCons (sVar 4) (sCons (sOp ixF (sVar 2) (sC (.int 3))) (sCons (sOp ixF (sVar 2) (sC (.int 4))) sNil)))))) (sCons (sVar 3) sNil))))
  (sSeq (sIf (isB (sOp neF (sOp ixF (sVar 5) (sC (.int 0))) (sC (.int 304)))) (sRet (sMeth "Keeper" "keep" F_Keeper_keep (sVar 0) (sCons (sC .none) (sCons (sVar 2) (sCons (sVar 5) (sCons (sVar 3) sNil)))))) sSkip)
  (sSeq (sSet 6 (sPure F_freshened (sCons (sVar 1) (sCons (sVar 5) (sCons (sVar 3) (sCons (sVar 3) sNil))))))
  (sSeq (sDrop (sMeth "Shelf" "put" F_Shelf_put (sFld "Keeper" "_shelf" (sVar 0)) (sCons (sVar 6) sNil)))
  (sRet (sTup (sCons (sPure F_shown (sCons (sVar 6) (sCons (sVar 2) (sCons (sVar 3) sNil)))) (sCons (sC (.str "checked")) sNil)))))))))
noncomputable def F_Keeper_check : DF := fnD 4 7 g_Keeper_check
noncomputable def g_Keeper_ask : SS := (sSeq (sIf (isB (sPure F_is_passed_on (sCons (sVar 1) sNil))) (sRet (sMeth "Keeper" "pass_on" F_Keeper_pass_on (sVar 0) (sCons (sVar 1) (sCons (sVar 2) sNil)))) sSkip)
  (sSeq (sSet 3 (sMeth "Shelf" "find" F_Shelf_find (sFld "Keeper" "_shelf" (sVar 0)) (sCons (sVar 1) sNil)))
  (sSeq (sIf (sAnd (isB (sOp notNF (sVar 3) (sC .none))) (isB (sPure F_is_usable (sCons (sVar 3) (sCons (sVar 1) (sCons (sVar 2) sNil)))))) (sRet (sTup (sCons (sPure F_shown (sCons (sVar 3) (sCons (sVar 1) (sCons (sVar 2) sNil)))) (sCons (sC (.str "kept")) sNil)))) sSkip)
  (sSeq (sIf (isB (sOp ixF (sPure F_directive (sCons (sPure F_read_directives (sCons (sOp ixF (sVar 1) (sC (.int 2))) sNil)) (sCons (sC (.str "only-if-cached")) sNil))) (sC (.int 0)))) (sRet (sTup (sCons (sTup (sCons (sC (.int 504)) (sCons (sTup (sCons (sTup (sCons (sC (.str "date")) (sCons (sPure F_write_date (sCons (sVar 2) sNil)) sNil))) sNil)) (sCons (sTup sNil) (sCons (sTup sNil) sNil))))) (sCons (sC (.str "refused")) sNil)))) sSkip)
  (sSeq (sIf (sAnd (isB (sOp notNF (sVar 3) (sC .none))) (sAnd (sNot (isB (sPure F_has_one (sCons (sOp ixF (sVar 1) (sC (.int 2))) (sCons (sC c_KNOWING) sNil))))) (isB (sOp notNF (sPure F_checking (sCons (sVar 3) sNil)) (sC .none))))) (sRet (sMeth "Keeper" "check" F_Keeper_check (sVar 0) (sCons (sVar 3) (sCons (sVar 1) (sCons (sVar 2) sNil))))) sSkip)
  (sSeq (sSet 4 (sMeth "Told" "answer" F_Told_answer (sFld "Keeper" "_origin" (sVar 0)) (sCons (sVar 1) (sCons (sVar 2) sNil))))
  (sRet (sMeth "Keeper" "keep" F_Keeper_keep (sVar 0) (sCons (sVar 3) (sCons (sVar 1) (sCons (sVar 4) (sCons (sVar 2) sNil))))))))))))
noncomputable def F_Keeper_ask : DF := fnD 3 5 g_Keeper_ask
noncomputable def g_Shelf_entries : SS := (sRet (sNew (sLc (.n 1) (iL (sFld "Shelf" "_rows" (sVar 0))) sYes (sOp ixF (sVar 1) (sC (.int 1))) [1])))
noncomputable def F_Shelf_entries : DF := fnD 1 2 g_Shelf_entries
noncomputable def g_Keeper_entries : SS := (sRet (sMeth "Shelf" "entries" F_Shelf_entries (sFld "Keeper" "_shelf" (sVar 0)) sNil))
noncomputable def F_Keeper_entries : DF := fnD 1 1 g_Keeper_entries
noncomputable def g_Told_asked : SS := (sRet (sCB listF (sCons (sFld "Told" "_asked" (sVar 0)) sNil)))
noncomputable def F_Told_asked : DF := fnD 1 1 g_Told_asked
noncomputable def g_law : SS := (sSeq (sSet 1 (sCall F__law_draw (sCons (sVar 0) sNil)))
  (sSeq (sSet 2 (sNew (sLst sNil)))
  (sSeq (sFor (.n 3) (iR (sCons (sOp addF (sC (.int 1)) (sOne F__law_take (sCons (sVar 1) (sCons (sC (.int 10)) sNil)))) sNil)) (sSeq (sSet 10 (sOne F__law_response (sCons (sVar 1) (sCons (sOp addF (sC (.int 1000)) (sOp mulF (sC (.int 40)) (sVar 3))) sNil))))
  (sSeq (sIf (isB (sOp eqF (sOne F__law_take (sCons (sVar 1) (sCons (sC (.int 5)) sNil))) (sC (.int 0)))) (sSet 10 (sTup (sCons (sC (.int 304)) (sCons (sOp ixF (sVar 10) (sC (.int 1))) (sCons (sTup sNil) (sCons (sTup sNil) sNil)))))) sSkip)
  (sDrop (sApp (sVar 2) (sCons (sVar 10) sNil))))))
  (sSeq (sSet 4 (sMake "Told" F_Told_init (sCons (sCB listF (sCons (sVar 2) sNil)) sNil)))
  (sSeq (sSet 5 (sOne F__law_take (sCons (sVar 1) (sCons (sC (.int 5)) sNil))))
  (sSeq (sSet 6 (sMake "Keeper" F_Keeper_init (sCons (sVar 4) (sCons (sVar 5) sNil))))
  (sSeq (sSet 7 (sDict [("rows", (sFrz (sLst sNil))), ("number", (sC (.int 0))), ("room", (sVar 5))]))
  (sSeq (sSet 8 (sNew (sLst sNil)))
  (sSeq (sSet 9 (sC (.int 1000)))
  (sSeq (sFor (.n 3) (iR (sCons (sOne F__law_take (sCons (sVar 1) (sCons (sC (.int 15)) sNil))) sNil)) (sSeq (sSet 9 (sOp addF (sVar 9) (sOp ixF (sFrz (sLst (sCons (sC (.int 0)) (sCons (sC (.int 1)) (sCons (sC (.int 20)) (sCons (sC (.int 40)) (sCons (sC (.int 90)) sNil))))))) (sOne F__law_take (sCons (sVar 1) (sCons (sC (.int 5)) sNil))))))
  (sSeq (sSet 11 (sOne F__law_ask (sCons (sVar 1) sNil)))
  (sSeq (sSet 12 (sOne F__law_plan (sCons (sVar 7) (sCons (sVar 11) (sCons (sVar 9) sNil)))))
  (sSeq (sSet 13 (sPure F__law_sent (sCons (sVar 12) (sCons (sVar 11) sNil))))
  (sSeq (sSet 10 (sC .none))
  (sSeq (sIf (isB (sOp notNF (sVar 13) (sC .none))) (sSeq (sDrop (sApp (sVar 8) (sCons (sTup (sCons (sVar 13) (sCons (sVar 9) sNil))) sNil)))
  (sSet 10 (sOp ixF (sVar 2) (sOp subF (sCB min2F (sCons (sCB lenF (sCons (sVar 8) sNil)) (sCons (sCB lenF (sCons (sVar 2) sNil)) sNil))) (sC (.int 1)))))) sSkip)
  (sSeq (sSet 14 (sOne F__law_done (sCons (sVar 7) (sCons (sVar 12) (sCons (sVar 11) (sCons (sVar 10) (sCons (sVar 9) sNil)))))))
  (sSeq (sSet 15 (sMeth "Keeper" "ask" F_Keeper_ask (sVar 6) (sCons (sVar 11) (sCons (sVar 9) sNil))))
  (sSeq (sSet 16 (sMeth "Keeper" "entries" F_Keeper_entries (sVar 6) sNil))
  (sSeq (sIf (sOr (isB (sOp neF (sVar 15) (sVar 14))) (sOr (isB (sOp neF (sVar 16) (sFrz (sLc (.n 17) (iL (sDGet "rows" (sVar 7))) sYes (sOp ixF (sVar 17) (sC (.int 1))) [17])))) (isB (sOp neF (sMeth "Told" "asked" F_Told_asked (sVar 4) sNil) (sVar 8))))) (sRet (sC (.bool false))) sSkip)
  (sDrop (sApp (sVar 16) (sCons (sTup sNil) sNil))))))))))))))
  (sRet (sC (.bool true)))))))))))))
noncomputable def F_law : DF := fnD 1 18 g_law
end Ow
set_option Elab.async false
set_option linter.all false
set_option maxRecDepth 100000
set_option maxHeartbeats 4000000
namespace Ow
open PySem L2

abbrev glos : List Str := [("is_value_sign" : Str), ("sign_of" : Str), ("is_digit" : Str), ("is_letter" : Str), ("is_token_sign" : Str), ("is_token" : Str), ("lower" : Str), ("trimmed" : Str), ("values" : Str), ("without" : Str), ("read_quoted" : Str), ("cut" : Str), ("split_list" : Str), ("join_values" : Str), ("are_digits" : Str), ("days_of" : Str), ("date_of" : Str), ("length_of_month" : Str), ("weekday_of" : Str), ("write_date" : Str), ("number" : Str), ("read_clock" : Str), ("made" : Str), ("long_name" : Str), ("full_year" : Str), ("read_short" : Str), ("read_long" : Str), ("read_old" : Str), ("read_date" : Str), ("read_tag" : Str), ("read_tags" : Str), ("strong_match" : Str), ("weak_match" : Str), ("date_value" : Str), ("matches" : Str), ("tags_of" : Str), ("fails" : Str), ("is_known" : Str), ("wants_whole" : Str), ("judge" : Str), ("read_directive" : Str), ("read_directives" : Str), ("directive" : Str), ("seconds" : Str), ("date_of_field" : Str), ("told_lifetime" : Str), ("lifetime" : Str), ("age_when_come" : Str), ("age" : Str), ("entry_lifetime" : Str), ("vary_names" : Str), ("evened" : Str), ("fits" : Str), ("tag_value" : Str), ("modified_value" : Str), ("may_keep" : Str), ("freshened" : Str), ("date_rank" : Str), ("has_one" : Str), ("is_passed_on" : Str), ("limit_of" : Str), ("allows_stale" : Str), ("is_usable" : Str), ("shown" : Str), ("checking" : Str), ("agree" : Str), ("_law_draw" : Str), ("_law_take" : Str), ("_law_response" : Str), ("_law_ask" : Str), ("_law_put" : Str), ("_law_rank" : Str), ("_law_find" : Str), ("_law_rule" : Str), ("_law_limit" : Str), ("_law_usable" : Str), ("_law_tag" : Str), ("_law_modified" : Str), ("_law_shown" : Str), ("_law_has" : Str), ("_law_same_tag" : Str), ("_law_plan" : Str), ("_law_sent" : Str), ("_law_done" : Str), ("law" : Str), ("Shelf" : Str), ("Told" : Str), ("Keeper" : Str)]
abbrev frees : List Str := ["len", "max", "min", "abs", "int", "str", "ord", "list", "tuple", "range"]
abbrev cons_ : List (Str × PyData) := [("SIGNS", c_SIGNS), ("TOKEN_MARKS", c_TOKEN_MARKS), ("PERCENT", c_PERCENT), ("TAB", c_TAB), ("DIGITS", c_DIGITS), ("WEEKDAYS", c_WEEKDAYS), ("MONTHS", c_MONTHS), ("DAY", c_DAY), ("MOST_SECONDS", c_MOST_SECONDS), ("LASTING", c_LASTING), ("KEPT", c_KEPT), ("STAYING", c_STAYING), ("PASSING", c_PASSING), ("KNOWING", c_KNOWING), ("TOLD", c_TOLD)]
abbrev clss : List Str := ["Shelf", "Told", "Keeper"]
abbrev noats : List (Str × Str) := [("Shelf", "_room"), ("Shelf", "_rows"), ("Told", "_asked"), ("Told", "_responses"), ("Keeper", "_origin"), ("Keeper", "_shelf")]
abbrev meths : List (Str × Str) := [("Told", "__init__"), ("Shelf", "__init__"), ("Keeper", "__init__"), ("Shelf", "find"), ("Told", "answer"), ("Shelf", "put"), ("Keeper", "keep"), ("Shelf", "drop"), ("Keeper", "pass_on"), ("Keeper", "check"), ("Keeper", "ask"), ("Shelf", "entries"), ("Keeper", "entries"), ("Told", "asked")]
structure Fx (K : PySem.W.Frag) (mg : Str → Option Value) : Prop where
  glo : ∀ (i : Nat) (x : Str), glos[i]? = some x → mg x = some (.ref (He.ga K x))
  fre : ∀ (i : Nat) (x : Str), frees[i]? = some x → mg x = none
  con : ∀ (i : Nat) (x : Str) (d : PyData), cons_[i]? = some (x, d) → GlD K mg x d
  mon : GlT K mg "MONTHS" months
  cls : ∀ (i : Nat) (x : Str), clss[i]? = some x → Cls K (He.ga K x)
  mkr : ∀ (i : Nat) (x : Str), clss[i]? = some x → Mk K (He.ga K x) (He.ma K (He.ga K x) "__init__")
  noat : ∀ (i : Nat) (x f : Str), noats[i]? = some (x, f) → NoAttr K (He.ga K x) f
  meth : ∀ (i : Nat) (x m : Str), meths[i]? = some (x, m) → Meth K (He.ga K x) m (He.ma K (He.ga K x) m)
  def_ : ∀ (i : Nat) (d : He.DefD), fns[i]? = some d → ∃ fd, FunD K d.name d.qual d.params d.body d.scope (d.dvs K) (d.kws K) (He.fAd K d.at_) fd
theorem u65 {k : Nat} {A : Around} (h : Room k A) : A.units + 65 < cLine := by have := h.un; omega
theorem u1 {k : Nat} {A : Around} (h : Room k A) : A.units + 1 < cLine := by have := h.un; omega
theorem bo_len : bootBuiltins "len" = some (.builtin "len") := by decide +kernel
theorem bo_max : bootBuiltins "max" = some (.builtin "max") := by decide +kernel
theorem bo_min : bootBuiltins "min" = some (.builtin "min") := by decide +kernel
theorem bo_abs : bootBuiltins "abs" = some (.builtin "abs") := by decide +kernel
theorem bo_int : bootBuiltins "int" = some (.type "int") := by decide +kernel
theorem bo_str : bootBuiltins "str" = some (.type "str") := by decide +kernel
theorem bo_ord : bootBuiltins "ord" = some (.builtin "ord") := by decide +kernel
theorem bo_list : bootBuiltins "list" = some (.type "list") := by decide +kernel
theorem bo_tuple : bootBuiltins "tuple" = some (.type "tuple") := by decide +kernel
abbrev N__law_draw : List Str := ["_law_script", "_law_seed", "_law_cell"]
theorem sc__law_draw : FnScope N__law_draw ["_law_script"] (defScope (top 95)) := ⟨rfl, rfl, rfl, by decide +kernel, rfl, by decide +kernel, by decide +kernel⟩
abbrev N_Told_init : List Str := ["self", "responses"]
theorem sc_Told_init : FnScope N_Told_init ["self", "responses"] (defScope (inClass (top 92) 0)) := ⟨rfl, rfl, rfl, by decide +kernel, rfl, by decide +kernel, by decide +kernel⟩
abbrev N__law_take : List Str := ["_law_draw_here", "_law_many", "_law_found"]
theorem sc__law_take : FnScope N__law_take ["_law_draw_here", "_law_many"] (defScope (top 96)) := ⟨rfl, rfl, rfl, by decide +kernel, rfl, by decide +kernel, by decide +kernel⟩
abbrev N_Shelf_init : List Str := ["self", "room"]
theorem sc_Shelf_init : FnScope N_Shelf_init ["self", "room"] (defScope (inClass (top 79) 0)) := ⟨rfl, rfl, rfl, by decide +kernel, rfl, by decide +kernel, by decide +kernel⟩
abbrev N_Keeper_init : List Str := ["self", "origin", "room"]
theorem sc_Keeper_init : FnScope N_Keeper_init ["self", "origin", "room"] (defScope (inClass (top 93) 0)) := ⟨rfl, rfl, rfl, by decide +kernel, rfl, by decide +kernel, by decide +kernel⟩
abbrev N_date_of : List Str := ["days", "era", "rest", "of_era", "month", "day", "year"]
theorem sc_date_of : FnScope N_date_of ["days"] (defScope (top 27)) := ⟨rfl, rfl, rfl, by decide +kernel, rfl, by decide +kernel, by decide +kernel⟩
abbrev N_weekday_of : List Str := ["days"]
theorem sc_weekday_of : FnScope N_weekday_of ["days"] (defScope (top 29)) := ⟨rfl, rfl, rfl, by decide +kernel, rfl, by decide +kernel, by decide +kernel⟩
abbrev N_write_date : List Str := ["time", "days", "seconds", "weekday", "clock", "year", "month", "day"]
theorem sc_write_date : FnScope N_write_date ["time"] (defScope (top 30)) := ⟨rfl, rfl, rfl, by decide +kernel, rfl, by decide +kernel, by decide +kernel⟩
abbrev N__law_response : List Str := ["_law_draw_here", "_law_base", "_law_status", "_law_fields", "_law_body", "_law_at", "_law_rules", "_law_again", "_law_pair", "_law_k"]
theorem sc__law_response : FnScope N__law_response ["_law_draw_here", "_law_base"] (defScope (top 99)) := ⟨rfl, rfl, rfl, by decide +kernel, rfl, by decide +kernel, by decide +kernel⟩
abbrev N__law_ask : List Str := ["_law_draw_here", "_law_method", "_law_target", "_law_fields", "_law_rules", "_law_sign"]
theorem sc__law_ask : FnScope N__law_ask ["_law_draw_here"] (defScope (top 100)) := ⟨rfl, rfl, rfl, by decide +kernel, rfl, by decide +kernel, by decide +kernel⟩
abbrev N_values : List Str := ["fields", "name", "key", "value"]
theorem sc_values : FnScope N_values ["fields", "name"] (defScope (top 13)) := ⟨rfl, rfl, rfl, by decide +kernel, rfl, by decide +kernel, by decide +kernel⟩
abbrev N_cut : List Str := ["text", "mark", "parts", "quoted", "escaped", "sign"]
theorem sc_cut : FnScope N_cut ["text", "mark"] (defScope (top 18)) := ⟨rfl, rfl, rfl, by decide +kernel, rfl, by decide +kernel, by decide +kernel⟩
abbrev N_trimmed : List Str := ["text"]
theorem sc_trimmed : FnScope N_trimmed ["text"] (defScope (top 12)) := ⟨rfl, rfl, rfl, by decide +kernel, rfl, by decide +kernel, by decide +kernel⟩
abbrev N_split_list : List Str := ["value", "parts", "part"]
theorem sc_split_list : FnScope N_split_list ["value"] (defScope (top 19)) := ⟨rfl, rfl, rfl, by decide +kernel, rfl, by decide +kernel, by decide +kernel⟩
abbrev N_lower : List Str := ["text"]
theorem sc_lower : FnScope N_lower ["text"] (defScope (top 11)) := ⟨rfl, rfl, rfl, by decide +kernel, rfl, by decide +kernel, by decide +kernel⟩
abbrev N_vary_names : List Str := ["response", "found", "value", "parts", "element"]
theorem sc_vary_names : FnScope N_vary_names ["response"] (defScope (top 68)) := ⟨rfl, rfl, rfl, by decide +kernel, rfl, by decide +kernel, by decide +kernel⟩
abbrev N_join_values : List Str := ["fields", "name", "found"]
theorem sc_join_values : FnScope N_join_values ["fields", "name"] (defScope (top 20)) := ⟨rfl, rfl, rfl, by decide +kernel, rfl, by decide +kernel, by decide +kernel⟩
abbrev N_evened : List Str := ["fields", "name", "value", "parts"]
theorem sc_evened : FnScope N_evened ["fields", "name"] (defScope (top 69)) := ⟨rfl, rfl, rfl, by decide +kernel, rfl, by decide +kernel, by decide +kernel⟩
abbrev N_fits : List Str := ["entry", "request", "name"]
theorem sc_fits : FnScope N_fits ["entry", "request"] (defScope (top 70)) := ⟨rfl, rfl, rfl, by decide +kernel, rfl, by decide +kernel, by decide +kernel⟩
abbrev N_are_digits : List Str := ["text", "sign"]
theorem sc_are_digits : FnScope N_are_digits ["text"] (defScope (top 21)) := ⟨rfl, rfl, rfl, by decide +kernel, rfl, by decide +kernel, by decide +kernel⟩
abbrev N_number : List Str := ["text"]
theorem sc_number : FnScope N_number ["text"] (defScope (top 31)) := ⟨rfl, rfl, rfl, by decide +kernel, rfl, by decide +kernel, by decide +kernel⟩
abbrev N_read_clock : List Str := ["text", "hour", "minute", "second"]
theorem sc_read_clock : FnScope N_read_clock ["text"] (defScope (top 32)) := ⟨rfl, rfl, rfl, by decide +kernel, rfl, by decide +kernel, by decide +kernel⟩
abbrev N_days_of : List Str := ["year", "month", "day", "months"]
theorem sc_days_of : FnScope N_days_of ["year", "month", "day"] (defScope (top 26)) := ⟨rfl, rfl, rfl, by decide +kernel, rfl, by decide +kernel, by decide +kernel⟩
abbrev N_length_of_month : List Str := ["year", "month"]
theorem sc_length_of_month : FnScope N_length_of_month ["year", "month"] (defScope (top 28)) := ⟨rfl, rfl, rfl, by decide +kernel, rfl, by decide +kernel, by decide +kernel⟩
abbrev N_made : List Str := ["weekday", "year", "month", "day", "clock", "seconds", "index", "days"]
theorem sc_made : FnScope N_made ["weekday", "year", "month", "day", "clock"] (defScope (top 33)) := ⟨rfl, rfl, rfl, by decide +kernel, rfl, by decide +kernel, by decide +kernel⟩
abbrev N_long_name : List Str := ["short", "name"]
theorem sc_long_name : FnScope N_long_name ["short"] (defScope (top 34)) := ⟨rfl, rfl, rfl, by decide +kernel, rfl, by decide +kernel, by decide +kernel⟩
abbrev N_read_short : List Str := ["text"]
theorem sc_read_short : FnScope N_read_short ["text"] (defScope (top 36)) := ⟨rfl, rfl, rfl, by decide +kernel, rfl, by decide +kernel, by decide +kernel⟩
abbrev N_full_year : List Str := ["last", "now", "limit"]
theorem sc_full_year : FnScope N_full_year ["last", "now"] (defScope (top 35)) := ⟨rfl, rfl, rfl, by decide +kernel, rfl, by decide +kernel, by decide +kernel⟩
abbrev N_read_long : List Str := ["text", "now", "at", "rest", "last"]
theorem sc_read_long : FnScope N_read_long ["text", "now"] (defScope (top 37)) := ⟨rfl, rfl, rfl, by decide +kernel, rfl, by decide +kernel, by decide +kernel⟩
abbrev N_read_old : List Str := ["text", "day"]
theorem sc_read_old : FnScope N_read_old ["text"] (defScope (top 38)) := ⟨rfl, rfl, rfl, by decide +kernel, rfl, by decide +kernel, by decide +kernel⟩
abbrev N_read_date : List Str := ["text", "now", "found"]
theorem sc_read_date : FnScope N_read_date ["text", "now"] (defScope (top 39)) := ⟨rfl, rfl, rfl, by decide +kernel, rfl, by decide +kernel, by decide +kernel⟩
abbrev N__law_rank : List Str := ["_law_entry", "_law_dates", "_law_found", "_law_key", "_law_value"]
theorem sc__law_rank : FnScope N__law_rank ["_law_entry"] (defScope (top 102)) := ⟨rfl, rfl, rfl, by decide +kernel, rfl, by decide +kernel, by decide +kernel⟩
abbrev N__law_find : List Str := ["_law_state", "_law_request", "_law_best", "_law_row"]
theorem sc__law_find : FnScope N__law_find ["_law_state", "_law_request"] (defScope (top 103)) := ⟨rfl, rfl, rfl, by decide +kernel, rfl, by decide +kernel, by decide +kernel⟩
abbrev N__law_has : List Str := ["_law_request", "_law_names", "_law_pair"]
theorem sc__law_has : FnScope N__law_has ["_law_request", "_law_names"] (defScope (top 110)) := ⟨rfl, rfl, rfl, by decide +kernel, rfl, by decide +kernel, by decide +kernel⟩
abbrev N_date_of_field : List Str := ["fields", "name", "came", "found"]
theorem sc_date_of_field : FnScope N_date_of_field ["fields", "name", "came"] (defScope (top 61)) := ⟨rfl, rfl, rfl, by decide +kernel, rfl, by decide +kernel, by decide +kernel⟩
abbrev N_seconds : List Str := ["value"]
theorem sc_seconds : FnScope N_seconds ["value"] (defScope (top 58)) := ⟨rfl, rfl, rfl, by decide +kernel, rfl, by decide +kernel, by decide +kernel⟩
abbrev N_age_when_come : List Str := ["response", "asked", "came", "fields", "date", "apparent", "ages", "told"]
theorem sc_age_when_come : FnScope N_age_when_come ["response", "asked", "came"] (defScope (top 64)) := ⟨rfl, rfl, rfl, by decide +kernel, rfl, by decide +kernel, by decide +kernel⟩
abbrev N_age : List Str := ["entry", "now", "target", "fields", "response", "asked", "came"]
theorem sc_age : FnScope N_age ["entry", "now"] (defScope (top 65)) := ⟨rfl, rfl, rfl, by decide +kernel, rfl, by decide +kernel, by decide +kernel⟩
abbrev N_directive : List Str := ["directives", "name", "other", "value"]
theorem sc_directive : FnScope N_directive ["directives", "name"] (defScope (top 57)) := ⟨rfl, rfl, rfl, by decide +kernel, rfl, by decide +kernel, by decide +kernel⟩
abbrev N_is_digit : List Str := ["octet"]
theorem sc_is_digit : FnScope N_is_digit ["octet"] (defScope (top 7)) := ⟨rfl, rfl, rfl, by decide +kernel, rfl, by decide +kernel, by decide +kernel⟩
abbrev N_is_letter : List Str := ["octet"]
theorem sc_is_letter : FnScope N_is_letter ["octet"] (defScope (top 8)) := ⟨rfl, rfl, rfl, by decide +kernel, rfl, by decide +kernel, by decide +kernel⟩
abbrev N_is_value_sign : List Str := ["octet"]
theorem sc_is_value_sign : FnScope N_is_value_sign ["octet"] (defScope (top 5)) := ⟨rfl, rfl, rfl, by decide +kernel, rfl, by decide +kernel, by decide +kernel⟩
abbrev N_sign_of : List Str := ["octet"]
theorem sc_sign_of : FnScope N_sign_of ["octet"] (defScope (top 6)) := ⟨rfl, rfl, rfl, by decide +kernel, rfl, by decide +kernel, by decide +kernel⟩
abbrev N_is_token_sign : List Str := ["octet"]
theorem sc_is_token_sign : FnScope N_is_token_sign ["octet"] (defScope (top 9)) := ⟨rfl, rfl, rfl, by decide +kernel, rfl, by decide +kernel, by decide +kernel⟩
abbrev N_is_token : List Str := ["text", "sign"]
theorem sc_is_token : FnScope N_is_token ["text"] (defScope (top 10)) := ⟨rfl, rfl, rfl, by decide +kernel, rfl, by decide +kernel, by decide +kernel⟩
abbrev N_read_quoted : List Str := ["text", "signs", "at"]
theorem sc_read_quoted : FnScope N_read_quoted ["text"] (defScope (top 17)) := ⟨rfl, rfl, rfl, by decide +kernel, rfl, by decide +kernel, by decide +kernel⟩
abbrev N_read_directive : List Str := ["element", "at", "name", "value"]
theorem sc_read_directive : FnScope N_read_directive ["element"] (defScope (top 55)) := ⟨rfl, rfl, rfl, by decide +kernel, rfl, by decide +kernel, by decide +kernel⟩
abbrev N_read_directives : List Str := ["fields", "value", "parts", "found", "element", "pair"]
theorem sc_read_directives : FnScope N_read_directives ["fields"] (defScope (top 56)) := ⟨rfl, rfl, rfl, by decide +kernel, rfl, by decide +kernel, by decide +kernel⟩
abbrev N_told_lifetime : List Str := ["fields", "came", "date", "end"]
theorem sc_told_lifetime : FnScope N_told_lifetime ["fields", "came"] (defScope (top 62)) := ⟨rfl, rfl, rfl, by decide +kernel, rfl, by decide +kernel, by decide +kernel⟩
abbrev N_lifetime : List Str := ["response", "came", "date", "modified", "status", "fields", "told", "value", "limit"]
theorem sc_lifetime : FnScope N_lifetime ["response", "came"] (defScope (top 63)) := ⟨rfl, rfl, rfl, by decide +kernel, rfl, by decide +kernel, by decide +kernel⟩
abbrev N__law_rule : List Str := ["_law_fields", "_law_name"]
theorem sc__law_rule : FnScope N__law_rule ["_law_fields", "_law_name"] (defScope (top 104)) := ⟨rfl, rfl, rfl, by decide +kernel, rfl, by decide +kernel, by decide +kernel⟩
abbrev N__law_limit : List Str := ["_law_fields", "_law_name"]
theorem sc__law_limit : FnScope N__law_limit ["_law_fields", "_law_name"] (defScope (top 105)) := ⟨rfl, rfl, rfl, by decide +kernel, rfl, by decide +kernel, by decide +kernel⟩
abbrev N__law_usable : List Str := ["_law_entry", "_law_request", "_law_now", "_law_wants", "_law_rules", "_law_old", "_law_life", "_law_most", "_law_ahead", "_law_limit_here", "_law_there", "_law_value"]
theorem sc__law_usable : FnScope N__law_usable ["_law_entry", "_law_request", "_law_now"] (defScope (top 106)) := ⟨rfl, rfl, rfl, by decide +kernel, rfl, by decide +kernel, by decide +kernel⟩
abbrev N_read_tag : List Str := ["text", "weak", "rest", "sign"]
theorem sc_read_tag : FnScope N_read_tag ["text"] (defScope (top 41)) := ⟨rfl, rfl, rfl, by decide +kernel, rfl, by decide +kernel, by decide +kernel⟩
abbrev N__law_tag : List Str := ["_law_response_here", "_law_found", "_law_key", "_law_value"]
theorem sc__law_tag : FnScope N__law_tag ["_law_response_here"] (defScope (top 107)) := ⟨rfl, rfl, rfl, by decide +kernel, rfl, by decide +kernel, by decide +kernel⟩
abbrev N__law_modified : List Str := ["_law_response_here", "_law_came", "_law_found", "_law_key", "_law_value"]
theorem sc__law_modified : FnScope N__law_modified ["_law_response_here", "_law_came"] (defScope (top 108)) := ⟨rfl, rfl, rfl, by decide +kernel, rfl, by decide +kernel, by decide +kernel⟩
abbrev N__law_plan : List Str := ["_law_state", "_law_request", "_law_now", "_law_passing", "_law_entry", "_law_fields", "_law_value", "_law_key"]
theorem sc__law_plan : FnScope N__law_plan ["_law_state", "_law_request", "_law_now"] (defScope (top 112)) := ⟨rfl, rfl, rfl, by decide +kernel, rfl, by decide +kernel, by decide +kernel⟩
abbrev N__law_sent : List Str := ["_law_plan_here", "_law_request"]
theorem sc__law_sent : FnScope N__law_sent ["_law_plan_here", "_law_request"] (defScope (top 113)) := ⟨rfl, rfl, rfl, by decide +kernel, rfl, by decide +kernel, by decide +kernel⟩
abbrev N_without : List Str := ["fields", "names", "field"]
theorem sc_without : FnScope N_without ["fields", "names"] (defScope (top 14)) := ⟨rfl, rfl, rfl, by decide +kernel, rfl, by decide +kernel, by decide +kernel⟩
abbrev N_freshened : List Str := ["entry", "response", "asked", "came", "old", "new", "kept", "name", "value"]
theorem sc_freshened : FnScope N_freshened ["entry", "response", "asked", "came"] (defScope (top 77)) := ⟨rfl, rfl, rfl, by decide +kernel, rfl, by decide +kernel, by decide +kernel⟩
abbrev N__law_put : List Str := ["_law_state", "_law_entry", "_law_request", "_law_row"]
theorem sc__law_put : FnScope N__law_put ["_law_state", "_law_entry"] (defScope (top 101)) := ⟨rfl, rfl, rfl, by decide +kernel, rfl, by decide +kernel, by decide +kernel⟩
abbrev N__law_same_tag : List Str := ["_law_entry", "_law_response_here", "_law_one", "_law_other"]
theorem sc__law_same_tag : FnScope N__law_same_tag ["_law_entry", "_law_response_here"] (defScope (top 111)) := ⟨rfl, rfl, rfl, by decide +kernel, rfl, by decide +kernel, by decide +kernel⟩
abbrev N_tag_value : List Str := ["response", "found"]
theorem sc_tag_value : FnScope N_tag_value ["response"] (defScope (top 74)) := ⟨rfl, rfl, rfl, by decide +kernel, rfl, by decide +kernel, by decide +kernel⟩
abbrev N_modified_value : List Str := ["response", "came"]
theorem sc_modified_value : FnScope N_modified_value ["response", "came"] (defScope (top 75)) := ⟨rfl, rfl, rfl, by decide +kernel, rfl, by decide +kernel, by decide +kernel⟩
abbrev N_may_keep : List Str := ["request", "response", "came", "fields", "known"]
theorem sc_may_keep : FnScope N_may_keep ["request", "response", "came"] (defScope (top 76)) := ⟨rfl, rfl, rfl, by decide +kernel, rfl, by decide +kernel, by decide +kernel⟩
abbrev N_date_value : List Str := ["fields", "name", "now", "value"]
theorem sc_date_value : FnScope N_date_value ["fields", "name", "now"] (defScope (top 46)) := ⟨rfl, rfl, rfl, by decide +kernel, rfl, by decide +kernel, by decide +kernel⟩
abbrev N_read_tags : List Str := ["value", "parts", "tags", "element"]
theorem sc_read_tags : FnScope N_read_tags ["value"] (defScope (top 42)) := ⟨rfl, rfl, rfl, by decide +kernel, rfl, by decide +kernel, by decide +kernel⟩
abbrev N_tags_of : List Str := ["fields", "name", "value"]
theorem sc_tags_of : FnScope N_tags_of ["fields", "name"] (defScope (top 48)) := ⟨rfl, rfl, rfl, by decide +kernel, rfl, by decide +kernel, by decide +kernel⟩
abbrev N_strong_match : List Str := ["a", "b"]
theorem sc_strong_match : FnScope N_strong_match ["a", "b"] (defScope (top 43)) := ⟨rfl, rfl, rfl, by decide +kernel, rfl, by decide +kernel, by decide +kernel⟩
abbrev N_weak_match : List Str := ["a", "b"]
theorem sc_weak_match : FnScope N_weak_match ["a", "b"] (defScope (top 44)) := ⟨rfl, rfl, rfl, by decide +kernel, rfl, by decide +kernel, by decide +kernel⟩
abbrev N_matches : List Str := ["tags", "tag", "match", "other"]
theorem sc_matches : FnScope N_matches ["tags", "tag", "match"] (defScope (top 47)) := ⟨rfl, rfl, rfl, by decide +kernel, rfl, by decide +kernel, by decide +kernel⟩
abbrev N_fails : List Str := ["fields", "tag", "modified", "now", "limit", "tags"]
theorem sc_fails : FnScope N_fails ["fields", "tag", "modified", "now"] (defScope (top 49)) := ⟨rfl, rfl, rfl, by decide +kernel, rfl, by decide +kernel, by decide +kernel⟩
abbrev N_is_known : List Str := ["method", "fields", "tag", "modified", "now", "tags", "limit"]
theorem sc_is_known : FnScope N_is_known ["method", "fields", "tag", "modified", "now"] (defScope (top 50)) := ⟨rfl, rfl, rfl, by decide +kernel, rfl, by decide +kernel, by decide +kernel⟩
abbrev N_wants_whole : List Str := ["method", "fields", "tag", "modified", "now", "value", "other", "limit"]
theorem sc_wants_whole : FnScope N_wants_whole ["method", "fields", "tag", "modified", "now"] (defScope (top 51)) := ⟨rfl, rfl, rfl, by decide +kernel, rfl, by decide +kernel, by decide +kernel⟩
abbrev N_judge : List Str := ["method", "fields", "tag", "modified", "now"]
theorem sc_judge : FnScope N_judge ["method", "fields", "tag", "modified", "now"] (defScope (top 52)) := ⟨rfl, rfl, rfl, by decide +kernel, rfl, by decide +kernel, by decide +kernel⟩
abbrev N__law_shown : List Str := ["_law_entry", "_law_request", "_law_now", "_law_rest", "_law_told", "_law_status", "_law_fields", "_law_body", "_law_trailers", "_law_names", "_law_pair"]
theorem sc__law_shown : FnScope N__law_shown ["_law_entry", "_law_request", "_law_now"] (defScope (top 109)) := ⟨rfl, rfl, rfl, by decide +kernel, rfl, by decide +kernel, by decide +kernel⟩
abbrev N__law_done : List Str := ["_law_state", "_law_plan_here", "_law_request", "_law_response_here", "_law_now", "_law_entry", "_law_row"]
theorem sc__law_done : FnScope N__law_done ["_law_state", "_law_plan_here", "_law_request", "_law_response_here", "_law_now"] (defScope (top 114)) := ⟨rfl, rfl, rfl, by decide +kernel, rfl, by decide +kernel, by decide +kernel⟩
abbrev N_has_one : List Str := ["fields", "names", "name"]
theorem sc_has_one : FnScope N_has_one ["fields", "names"] (defScope (top 84)) := ⟨rfl, rfl, rfl, by decide +kernel, rfl, by decide +kernel, by decide +kernel⟩
abbrev N_is_passed_on : List Str := ["request"]
theorem sc_is_passed_on : FnScope N_is_passed_on ["request"] (defScope (top 85)) := ⟨rfl, rfl, rfl, by decide +kernel, rfl, by decide +kernel, by decide +kernel⟩
abbrev N_date_rank : List Str := ["entry", "date"]
theorem sc_date_rank : FnScope N_date_rank ["entry"] (defScope (top 78)) := ⟨rfl, rfl, rfl, by decide +kernel, rfl, by decide +kernel, by decide +kernel⟩
abbrev N_Shelf_find : List Str := ["self", "request", "best", "row"]
theorem sc_Shelf_find : FnScope N_Shelf_find ["self", "request"] (defScope (inClass (top 79) 3)) := ⟨rfl, rfl, rfl, by decide +kernel, rfl, by decide +kernel, by decide +kernel⟩
abbrev N_Told_answer : List Str := ["self", "request", "now"]
theorem sc_Told_answer : FnScope N_Told_answer ["self", "request", "now"] (defScope (inClass (top 92) 1)) := ⟨rfl, rfl, rfl, by decide +kernel, rfl, by decide +kernel, by decide +kernel⟩
abbrev N_agree : List Str := ["first", "second", "one", "other"]
theorem sc_agree : FnScope N_agree ["first", "second"] (defScope (top 91)) := ⟨rfl, rfl, rfl, by decide +kernel, rfl, by decide +kernel, by decide +kernel⟩
abbrev N_Shelf_put : List Str := ["self", "entry", "request", "number", "row"]
theorem sc_Shelf_put : FnScope N_Shelf_put ["self", "entry"] (defScope (inClass (top 79) 2)) := ⟨rfl, rfl, rfl, by decide +kernel, rfl, by decide +kernel, by decide +kernel⟩
abbrev N_Keeper_keep : List Str := ["self", "entry", "request", "response", "now"]
theorem sc_Keeper_keep : FnScope N_Keeper_keep ["self", "entry", "request", "response", "now"] (defScope (inClass (top 93) 5)) := ⟨rfl, rfl, rfl, by decide +kernel, rfl, by decide +kernel, by decide +kernel⟩
abbrev N_Shelf_drop : List Str := ["self", "target", "row"]
theorem sc_Shelf_drop : FnScope N_Shelf_drop ["self", "target"] (defScope (inClass (top 79) 4)) := ⟨rfl, rfl, rfl, by decide +kernel, rfl, by decide +kernel, by decide +kernel⟩
abbrev N_Keeper_pass_on : List Str := ["self", "request", "now", "response"]
theorem sc_Keeper_pass_on : FnScope N_Keeper_pass_on ["self", "request", "now"] (defScope (inClass (top 93) 3)) := ⟨rfl, rfl, rfl, by decide +kernel, rfl, by decide +kernel, by decide +kernel⟩
abbrev N_limit_of : List Str := ["directives", "name"]
theorem sc_limit_of : FnScope N_limit_of ["directives", "name"] (defScope (top 86)) := ⟨rfl, rfl, rfl, by decide +kernel, rfl, by decide +kernel, by decide +kernel⟩
abbrev N_entry_lifetime : List Str := ["entry"]
theorem sc_entry_lifetime : FnScope N_entry_lifetime ["entry"] (defScope (top 66)) := ⟨rfl, rfl, rfl, by decide +kernel, rfl, by decide +kernel, by decide +kernel⟩
abbrev N_allows_stale : List Str := ["wants", "rules", "late", "limit", "there", "value"]
theorem sc_allows_stale : FnScope N_allows_stale ["wants", "rules", "late"] (defScope (top 87)) := ⟨rfl, rfl, rfl, by decide +kernel, rfl, by decide +kernel, by decide +kernel⟩
abbrev N_is_usable : List Str := ["entry", "request", "now", "wants", "rules", "old", "most", "lasting", "ahead"]
theorem sc_is_usable : FnScope N_is_usable ["entry", "request", "now"] (defScope (top 88)) := ⟨rfl, rfl, rfl, by decide +kernel, rfl, by decide +kernel, by decide +kernel⟩
abbrev N_shown : List Str := ["entry", "request", "now", "told", "tag", "modified", "status", "fields", "body", "trailers", "field"]
theorem sc_shown : FnScope N_shown ["entry", "request", "now"] (defScope (top 89)) := ⟨rfl, rfl, rfl, by decide +kernel, rfl, by decide +kernel, by decide +kernel⟩
abbrev N_checking : List Str := ["entry", "fields"]
theorem sc_checking : FnScope N_checking ["entry"] (defScope (top 90)) := ⟨rfl, rfl, rfl, by decide +kernel, rfl, by decide +kernel, by decide +kernel⟩
abbrev N_Keeper_check : List Str := ["self", "entry", "request", "now", "added", "response", "renewed"]
theorem sc_Keeper_check : FnScope N_Keeper_check ["self", "entry", "request", "now"] (defScope (inClass (top 93) 4)) := ⟨rfl, rfl, rfl, by decide +kernel, rfl, by decide +kernel, by decide +kernel⟩
abbrev N_Keeper_ask : List Str := ["self", "request", "now", "entry", "response"]
theorem sc_Keeper_ask : FnScope N_Keeper_ask ["self", "request", "now"] (defScope (inClass (top 93) 2)) := ⟨rfl, rfl, rfl, by decide +kernel, rfl, by decide +kernel, by decide +kernel⟩
abbrev N_Shelf_entries : List Str := ["self", "row"]
theorem sc_Shelf_entries : FnScope N_Shelf_entries ["self"] (defScope (inClass (top 79) 1)) := ⟨rfl, rfl, rfl, by decide +kernel, rfl, by decide +kernel, by decide +kernel⟩
abbrev N_Keeper_entries : List Str := ["self"]
theorem sc_Keeper_entries : FnScope N_Keeper_entries ["self"] (defScope (inClass (top 93) 1)) := ⟨rfl, rfl, rfl, by decide +kernel, rfl, by decide +kernel, by decide +kernel⟩
abbrev N_Told_asked : List Str := ["self"]
theorem sc_Told_asked : FnScope N_Told_asked ["self"] (defScope (inClass (top 92) 2)) := ⟨rfl, rfl, rfl, by decide +kernel, rfl, by decide +kernel, by decide +kernel⟩
abbrev N_law : List Str := ["_law_script", "_law_draw_here", "_law_responses", "_law_k", "_law_origin", "_law_room", "_law_keeper", "_law_state", "_law_asked", "_law_now", "_law_response_here", "_law_request", "_law_plan_here", "_law_sent_here", "_law_due", "_law_actual", "_law_told", "_law_row"]
theorem sc_law : FnScope N_law ["_law_script"] (defScope (top 115)) := ⟨rfl, rfl, rfl, by decide +kernel, rfl, by decide +kernel, by decide +kernel⟩
end Ow
set_option Elab.async false
set_option linter.all false
set_option maxRecDepth 100000
set_option maxHeartbeats 4000000
namespace Ow
open PySem L2

section
variable {P : Program} {w : World} {K : PySem.W.Frag} {mg : Str → Option Value} {base : Heap}
theorem D__law_draw (C : Fx K mg) : Fd P w K mg base 1 "_law_draw" F__law_draw := by
  obtain ⟨fd, F⟩ := C.def_ 0 _ rfl
  exact ⟨(C.glo 66 "_law_draw" rfl), F.kp, fd, ["_law_script"], (F.bindsN fun _ _ _ _ _ _ us hl => match us, hl with | [_], _ => rfl), fn_body F sc__law_draw fun cdv A outer s H E hr => (dss_cons (dst_set 1 sc__law_draw.nd de_int)
  (dss_cons (dst_for (di_list (de_var 0)) (dg_n 2 sc__law_draw.nd) (dss_one (dst_set 1 sc__law_draw.nd (de_op op_mod op_modP (de_callTy or_int int_P rfl (C.fre 4 "int" rfl) bo_int (da_cons (de_op or_add op_addP (de_op or_add op_addP (de_op op_mul op_mulP (de_var 1) de_int) (de_op op_mod op_modP (de_callB call_abs abs_P rfl (C.fre 3 "abs" rfl) bo_abs (da_cons (de_callTy or_int int_P rfl (C.fre 4 "int" rfl) bo_int (da_cons (de_var 2) da_nil)) da_nil)) de_int)) de_int) da_nil)) de_int))))
  (dss_one (dst_ret (de_new (dl_lst (da_cons (de_frz (dl_lc [("_law_cell", 2)] sc__law_draw.nd (di_list (de_var 0)) (blkOk_by (own := [("_law_cell", 2)]) (N := N__law_draw) (sc := defScope (top 95)) (by decide +kernel)) (fun _ _ _ _ _ => (dg_n 2 sc__law_draw.nd)) (fun _ _ _ _ _ => dts_nil) (fun _ _ _ _ _ => (de_callB call_abs abs_P rfl (C.fre 3 "abs" rfl) bo_abs (da_cons (de_callTy or_int int_P rfl (C.fre 4 "int" rfl) bo_int (da_cons (de_var 2) da_nil)) da_nil))))) (da_cons (de_un un_neg un_negP de_int) (da_cons de_int (da_cons (de_var 1) da_nil))))))))))⟩
theorem D_Told_init (C : Fx K mg) : Md P w K mg base 1 "Told" "__init__" F_Told_init := by
  obtain ⟨fd, F⟩ := C.def_ 1 _ rfl
  exact ⟨C.meth 0 "Told" "__init__" rfl, fd, ["self", "responses"], (F.bindsN fun _ _ _ _ _ _ us hl => match us, hl with | [_, _], _ => rfl), fn_body F sc_Told_init fun cdv A outer s H E hr => (dss_cons (dst_fld (C.cls 1 "Told" rfl) (C.noat 3 "Told" "_responses" rfl) (de_var 0) (de_callTy call_list_of list_P rfl (C.fre 7 "list" rfl) bo_list (da_cons (de_var 1) da_nil)))
  (dss_one (dst_fld (C.cls 1 "Told" rfl) (C.noat 2 "Told" "_asked" rfl) (de_var 0) (de_new (dl_lst da_nil)))))⟩
theorem D__law_take (C : Fx K mg) : Fd P w K mg base 1 "_law_take" F__law_take := by
  obtain ⟨fd, F⟩ := C.def_ 2 _ rfl
  exact ⟨(C.glo 67 "_law_take" rfl), F.kp, fd, ["_law_draw_here", "_law_many"], (F.bindsN fun _ _ _ _ _ _ us hl => match us, hl with | [_, _], _ => rfl), fn_body F sc__law_take fun cdv A outer s H E hr => (dss_cons (dst_if (dt_cmp (or_eq hr.units) op_eqP (de_ix ix_seq op_ixP (de_var 0) de_int) de_int) (dss_cons (dst_lset (de_var 0) de_int (de_op or_add op_addP (de_ix ix_seq op_ixP (de_var 0) de_int) de_int))
  (dss_cons (dst_if (dt_cmp op_lt op_ltP (de_ix ix_seq op_ixP (de_var 0) de_int) (de_callB call_len len_P rfl (C.fre 0 "len" rfl) bo_len (da_cons (de_ix ix_seq op_ixP (de_var 0) de_int) da_nil))) (dss_one (dst_lset (de_var 0) de_int (de_ix ix_seq op_ixP (de_ix ix_seq op_ixP (de_var 0) de_int) (de_ix ix_seq op_ixP (de_var 0) de_int)))) dss_nil)
  (dss_one (dst_if (dt_cmp (or_eq hr.units) op_eqP (de_ix ix_seq op_ixP (de_var 0) de_int) de_int) (dss_cons (dst_lset (de_var 0) de_int (de_op op_mod op_modP (de_callTy or_int int_P rfl (C.fre 4 "int" rfl) bo_int (da_cons (de_op or_add op_addP (de_op op_mul op_mulP (de_ix ix_seq op_ixP (de_var 0) de_int) de_int) de_int) da_nil)) de_int))
  (dss_one (dst_lset (de_var 0) de_int (de_ix ix_seq op_ixP (de_var 0) de_int)))) dss_nil)))) dss_nil)
  (dss_cons (dst_set 2 sc__law_take.nd (de_op op_mod op_modP (de_callTy or_int int_P rfl (C.fre 4 "int" rfl) bo_int (da_cons (de_ix ix_seq op_ixP (de_var 0) de_int) da_nil)) (de_var 1)))
  (dss_cons (dst_lset (de_var 0) de_int (de_op op_fdiv op_divP (de_ix ix_seq op_ixP (de_var 0) de_int) (de_var 1)))
  (dss_one (dst_ret (de_var 2))))))⟩
theorem D_Shelf_init (C : Fx K mg) : Md P w K mg base 1 "Shelf" "__init__" F_Shelf_init := by
  obtain ⟨fd, F⟩ := C.def_ 3 _ rfl
  exact ⟨C.meth 1 "Shelf" "__init__" rfl, fd, ["self", "room"], (F.bindsN fun _ _ _ _ _ _ us hl => match us, hl with | [_, _], _ => rfl), fn_body F sc_Shelf_init fun cdv A outer s H E hr => (dss_cons (dst_fld (C.cls 0 "Shelf" rfl) (C.noat 0 "Shelf" "_room" rfl) (de_var 0) (de_var 1))
  (dss_one (dst_fld (C.cls 0 "Shelf" rfl) (C.noat 1 "Shelf" "_rows" rfl) (de_var 0) (de_frz (dl_lst da_nil)))))⟩
theorem D_Keeper_init (C : Fx K mg) : Md P w K mg base 3 "Keeper" "__init__" F_Keeper_init := by
  obtain ⟨fd, F⟩ := C.def_ 4 _ rfl
  exact ⟨C.meth 2 "Keeper" "__init__" rfl, fd, ["self", "origin", "room"], (F.bindsN fun _ _ _ _ _ _ us hl => match us, hl with | [_, _, _], _ => rfl), fn_body F sc_Keeper_init fun cdv A outer s H E hr => (dss_cons (dst_fld (C.cls 2 "Keeper" rfl) (C.noat 4 "Keeper" "_origin" rfl) (de_var 0) (de_var 1))
  (dss_one (dst_fld (C.cls 2 "Keeper" rfl) (C.noat 5 "Keeper" "_shelf" rfl) (de_var 0) (de_make (C.mkr 0 "Shelf" rfl) (D_Shelf_init C) (hr.mono (by decide)) (C.glo 85 "Shelf" rfl) (da_cons (de_var 2) da_nil)))))⟩
theorem D_date_of (C : Fx K mg) : Fd P w K mg base 1 "date_of" F_date_of := by
  obtain ⟨fd, F⟩ := C.def_ 5 _ rfl
  exact ⟨(C.glo 16 "date_of" rfl), F.kp, fd, ["days"], (F.bindsN fun _ _ _ _ _ _ us hl => match us, hl with | [_], _ => rfl), fn_body F sc_date_of fun cdv A outer s H E hr => (dss_cons (dst_aug 0 or_iadd op_iaddP sc_date_of.nd de_int)
  (dss_cons (dst_set 1 sc_date_of.nd (de_op op_fdiv op_divP (de_var 0) de_int))
  (dss_cons (dst_set 2 sc_date_of.nd (de_op op_sub op_subP (de_var 0) (de_op op_mul op_mulP (de_var 1) de_int)))
  (dss_cons (dst_set 3 sc_date_of.nd (de_op op_fdiv op_divP (de_op op_sub op_subP (de_op or_add op_addP (de_op op_sub op_subP (de_var 2) (de_op op_fdiv op_divP (de_var 2) de_int)) (de_op op_fdiv op_divP (de_var 2) de_int)) (de_op op_fdiv op_divP (de_var 2) de_int)) de_int))
  (dss_cons (dst_aug 2 or_isub op_subP sc_date_of.nd (de_op op_sub op_subP (de_op or_add op_addP (de_op op_mul op_mulP (de_var 3) de_int) (de_op op_fdiv op_divP (de_var 3) de_int)) (de_op op_fdiv op_divP (de_var 3) de_int)))
  (dss_cons (dst_set 4 sc_date_of.nd (de_op op_fdiv op_divP (de_op or_add op_addP (de_op op_mul op_mulP de_int (de_var 2)) de_int) de_int))
  (dss_cons (dst_set 5 sc_date_of.nd (de_op or_add op_addP (de_op op_sub op_subP (de_var 2) (de_op op_fdiv op_divP (de_op or_add op_addP (de_op op_mul op_mulP de_int (de_var 4)) de_int) de_int)) de_int))
  (dss_cons (dst_set 6 sc_date_of.nd (de_op or_add op_addP (de_op op_mul op_mulP (de_var 1) de_int) (de_var 3)))
  (dss_cons (dst_if (dt_cmp op_lt op_ltP (de_var 4) de_int) (dss_one (dst_ret (de_tup (da_cons (de_var 6) (da_cons (de_op or_add op_addP (de_var 4) de_int) (da_cons (de_var 5) da_nil)))))) dss_nil)
  (dss_one (dst_ret (de_tup (da_cons (de_op or_add op_addP (de_var 6) de_int) (da_cons (de_op op_sub op_subP (de_var 4) de_int) (da_cons (de_var 5) da_nil)))))))))))))))⟩
theorem D_weekday_of (C : Fx K mg) : Fd P w K mg base 1 "weekday_of" F_weekday_of := by
  obtain ⟨fd, F⟩ := C.def_ 6 _ rfl
  exact ⟨(C.glo 18 "weekday_of" rfl), F.kp, fd, ["days"], (F.bindsN fun _ _ _ _ _ _ us hl => match us, hl with | [_], _ => rfl), fn_body F sc_weekday_of fun cdv A outer s H E hr => (dss_one (dst_ret (de_op op_mod op_modP (de_op or_add op_addP (de_var 0) de_int) de_int)))⟩
theorem D_write_date (C : Fx K mg) : Fd P w K mg base 2 "write_date" F_write_date := by
  obtain ⟨fd, F⟩ := C.def_ 7 _ rfl
  exact ⟨(C.glo 19 "write_date" rfl), F.kp, fd, ["time"], (F.bindsN fun _ _ _ _ _ _ us hl => match us, hl with | [_], _ => rfl), fn_body F sc_write_date fun cdv A outer s H E hr => (dss_cons (dst_set 1 sc_write_date.nd (de_op op_fdiv op_divP (de_var 0) (de_glob (C.con 7 "DAY" _ rfl) rfl)))
  (dss_cons (dst_set 2 sc_write_date.nd (de_op op_sub op_subP (de_var 0) (de_op op_mul op_mulP (de_var 1) (de_glob (C.con 7 "DAY" _ rfl) rfl))))
  (dss_cons (dst_setP (de_pure (D_date_of C) (hr.mono (by decide)) (da_cons (de_var 1) da_nil)) (dg_t (dgs_cons 5 sc_write_date.nd (dgs_cons 6 sc_write_date.nd (dgs_cons 7 sc_write_date.nd dgs_nil)))))
  (dss_cons (dst_set 3 sc_write_date.nd (de_slice or_sl sl_P (de_ix ix_seq op_ixP (de_glob (C.con 5 "WEEKDAYS" _ rfl) rfl) (de_pure (D_weekday_of C) (hr.mono (by decide)) (da_cons (de_var 1) da_nil))) do_none (do_some de_int)))
  (dss_cons (dst_set 4 sc_write_date.nd (de_joined (dj_cons (de_fmt2 (de_op op_fdiv op_divP (de_var 2) de_int)) (dj_cons de_str (dj_cons (de_fmt2 (de_op op_sub op_subP (de_op op_fdiv op_divP (de_var 2) de_int) (de_op op_mul op_mulP (de_op op_fdiv op_divP (de_var 2) de_int) de_int))) (dj_cons de_str (dj_cons (de_fmt2 (de_op op_sub op_subP (de_var 2) (de_op op_mul op_mulP (de_op op_fdiv op_divP (de_var 2) de_int) de_int))) dj_nil)))))))
  (dss_one (dst_ret (de_joined (dj_cons (de_fmt (de_var 3)) (dj_cons de_str (dj_cons (de_fmt2 (de_var 7)) (dj_cons de_str (dj_cons (de_fmt (de_ix ix_seq op_ixP (de_glob (C.con 6 "MONTHS" _ rfl) rfl) (de_op op_sub op_subP (de_var 6) de_int))) (dj_cons de_str (dj_cons (de_fmt4 (de_var 5)) (dj_cons de_str (dj_cons (de_fmt (de_var 4)) (dj_cons de_str dj_nil))))))))))))))))))⟩
theorem D__law_response (C : Fx K mg) : Fd P w K mg base 3 "_law_response" F__law_response := by
  obtain ⟨fd, F⟩ := C.def_ 8 _ rfl
  exact ⟨(C.glo 68 "_law_response" rfl), F.kp, fd, ["_law_draw_here", "_law_base"], (F.bindsN fun _ _ _ _ _ _ us hl => match us, hl with | [_, _], _ => rfl), fn_body F sc__law_response fun cdv A outer s H E hr => (dss_cons (dst_set 2 sc__law_response.nd (de_ix ix_seq op_ixP (de_frz (dl_lst (da_cons de_int (da_cons de_int (da_cons de_int (da_cons de_int (da_cons de_int (da_cons de_int (da_cons de_int (da_cons de_int (da_cons de_int (da_cons de_int (da_cons de_int (da_cons de_int (da_cons de_int da_nil))))))))))))))) (de_one' (D__law_take C) (hr.mono (by decide)) (da_cons (de_var 0) (da_cons de_int da_nil)))))
  (dss_cons (dst_set 3 sc__law_response.nd (de_new (dl_lst da_nil)))
  (dss_cons (dst_if (dt_cmp (or_gt hr) op_gtP (de_one' (D__law_take C) (hr.mono (by decide)) (da_cons (de_var 0) (da_cons de_int da_nil))) de_int) (dss_one (dst_drop (de_app (de_var 3) (da_cons (de_tup (da_cons de_str (da_cons (de_pure (D_write_date C) (hr.mono (by decide)) (da_cons (de_callB (call_max2 rfl) max2_P rfl (C.fre 1 "max" rfl) bo_max (da_cons de_int (da_cons (de_op op_sub op_subP (de_var 1) (de_ix ix_seq op_ixP (de_frz (dl_lst (da_cons de_int (da_cons de_int (da_cons de_int (da_cons de_int (da_cons de_int da_nil))))))) (de_one' (D__law_take C) (hr.mono (by decide)) (da_cons (de_var 0) (da_cons de_int da_nil))))) da_nil))) da_nil)) da_nil))) da_nil)))) dss_nil)
  (dss_cons (dst_if (dt_cmp (or_eq hr.units) op_eqP (de_one' (D__law_take C) (hr.mono (by decide)) (da_cons (de_var 0) (da_cons de_int da_nil))) de_int) (dss_one (dst_drop (de_app (de_var 3) (da_cons (de_tup (da_cons de_str (da_cons de_str da_nil))) da_nil)))) dss_nil)
  (dss_cons (dst_if (dt_cmp (or_eq hr.units) op_eqP (de_one' (D__law_take C) (hr.mono (by decide)) (da_cons (de_var 0) (da_cons de_int da_nil))) de_int) (dss_cons (dst_set 6 sc__law_response.nd (de_frz (dl_lst (da_cons de_str (da_cons de_str (da_cons de_str (da_cons de_str (da_cons de_str (da_cons de_str (da_cons de_str da_nil))))))))))
  (dss_one (dst_drop (de_app (de_var 3) (da_cons (de_tup (da_cons de_str (da_cons (de_ix ix_seq op_ixP (de_var 6) (de_one' (D__law_take C) (hr.mono (by decide)) (da_cons (de_var 0) (da_cons de_int da_nil)))) da_nil))) da_nil))))) dss_nil)
  (dss_cons (dst_if (dt_cmp (or_eq hr.units) op_eqP (de_one' (D__law_take C) (hr.mono (by decide)) (da_cons (de_var 0) (da_cons de_int da_nil))) de_int) (dss_one (dst_drop (de_app (de_var 3) (da_cons (de_tup (da_cons de_str (da_cons (de_ix ix_seq op_ixP (de_frz (dl_lst (da_cons (de_pure (D_write_date C) (hr.mono (by decide)) (da_cons (de_callB (call_max2 rfl) max2_P rfl (C.fre 1 "max" rfl) bo_max (da_cons de_int (da_cons (de_op op_sub op_subP (de_op or_add op_addP (de_var 1) (de_one' (D__law_take C) (hr.mono (by decide)) (da_cons (de_var 0) (da_cons de_int da_nil)))) de_int) da_nil))) da_nil)) (da_cons de_str da_nil)))) (de_op op_fdiv op_divP (de_one' (D__law_take C) (hr.mono (by decide)) (da_cons (de_var 0) (da_cons de_int da_nil))) de_int)) da_nil))) da_nil)))) dss_nil)
  (dss_cons (dst_if (dt_cmp (or_eq hr.units) op_eqP (de_one' (D__law_take C) (hr.mono (by decide)) (da_cons (de_var 0) (da_cons de_int da_nil))) de_int) (dss_one (dst_drop (de_app (de_var 3) (da_cons (de_tup (da_cons de_str (da_cons (de_pure (D_write_date C) (hr.mono (by decide)) (da_cons (de_callB (call_max2 rfl) max2_P rfl (C.fre 1 "max" rfl) bo_max (da_cons de_int (da_cons (de_op op_sub op_subP (de_var 1) (de_ix ix_seq op_ixP (de_frz (dl_lst (da_cons de_int (da_cons de_int (da_cons de_int (da_cons de_int da_nil)))))) (de_one' (D__law_take C) (hr.mono (by decide)) (da_cons (de_var 0) (da_cons de_int da_nil))))) da_nil))) da_nil)) da_nil))) da_nil)))) dss_nil)
  (dss_cons (dst_if (dt_cmp (or_eq hr.units) op_eqP (de_one' (D__law_take C) (hr.mono (by decide)) (da_cons (de_var 0) (da_cons de_int da_nil))) de_int) (dss_one (dst_drop (de_app (de_var 3) (da_cons (de_tup (da_cons de_str (da_cons (de_ix ix_seq op_ixP (de_frz (dl_lst (da_cons de_str (da_cons de_str (da_cons de_str (da_cons de_str (da_cons de_str da_nil))))))) (de_one' (D__law_take C) (hr.mono (by decide)) (da_cons (de_var 0) (da_cons de_int da_nil)))) da_nil))) da_nil)))) dss_nil)
  (dss_cons (dst_if (dt_cmp (or_gt hr) op_gtP (de_one' (D__law_take C) (hr.mono (by decide)) (da_cons (de_var 0) (da_cons de_int da_nil))) de_int) (dss_one (dst_drop (de_app (de_var 3) (da_cons (de_tup (da_cons de_str (da_cons (de_ix ix_seq op_ixP (de_frz (dl_lst (da_cons de_str (da_cons de_str (da_cons de_str (da_cons de_str da_nil)))))) (de_one' (D__law_take C) (hr.mono (by decide)) (da_cons (de_var 0) (da_cons de_int da_nil)))) da_nil))) da_nil)))) dss_nil)
  (dss_cons (dst_if (dt_cmp (or_eq hr.units) op_eqP (de_one' (D__law_take C) (hr.mono (by decide)) (da_cons (de_var 0) (da_cons de_int da_nil))) de_int) (dss_one (dst_drop (de_app (de_var 3) (da_cons (de_tup (da_cons de_str (da_cons (de_ix ix_seq op_ixP (de_frz (dl_lst (da_cons de_str (da_cons de_str (da_cons de_str (da_cons de_str (da_cons de_str (da_cons de_str (da_cons de_str (da_cons de_str da_nil)))))))))) (de_one' (D__law_take C) (hr.mono (by decide)) (da_cons (de_var 0) (da_cons de_int da_nil)))) da_nil))) da_nil)))) dss_nil)
  (dss_cons (dst_if (dt_cmp (or_eq hr.units) op_eqP (de_one' (D__law_take C) (hr.mono (by decide)) (da_cons (de_var 0) (da_cons de_int da_nil))) de_int) (dss_one (dst_drop (de_app (de_var 3) (da_cons (de_tup (da_cons de_str (da_cons (de_ix ix_seq op_ixP (de_frz (dl_lst (da_cons de_str (da_cons de_str da_nil)))) (de_one' (D__law_take C) (hr.mono (by decide)) (da_cons (de_var 0) (da_cons de_int da_nil)))) da_nil))) da_nil)))) dss_nil)
  (dss_cons (dst_if (dt_cmp (or_eq hr.units) op_eqP (de_one' (D__law_take C) (hr.mono (by decide)) (da_cons (de_var 0) (da_cons de_int da_nil))) de_int) (dss_one (dst_drop (de_app (de_var 3) (da_cons (de_tup (da_cons de_str (da_cons de_str da_nil))) da_nil)))) dss_nil)
  (dss_cons (dst_if (dt_cmp (or_eq hr.units) op_eqP (de_one' (D__law_take C) (hr.mono (by decide)) (da_cons (de_var 0) (da_cons de_int da_nil))) de_int) (dss_cons (by first | exact dst_set 7 sc__law_response.nd (de_frz (dl_lc [("_law_pair", 8)] sc__law_response.nd (di_list (de_var 3)) (blkOk_by (own := [("_law_pair", 8)]) (N := N__law_response) (sc := defScope (top 99)) (by decide +kernel)) (fun _ _ _ _ _ => (dg_n 8 sc__law_response.nd)) (fun _ _ _ _ _ => (dts_one (dt_cmp (or_in (u65 hr)) op_inP (de_ix ix_seq op_ixP (de_var 8) de_int) (de_frz (dl_lst (da_cons de_str (da_cons de_str (da_cons de_str (da_cons de_str (da_cons de_str da_nil)))))))))) (fun _ _ _ _ _ => (de_var 8)))) | exact dst_setLc 7 [("_law_pair", 8)] sc__law_response.nd (di_list (de_var 3)) (blkOk_by (own := [("_law_pair", 8)]) (N := N__law_response) (sc := defScope (top 99)) (by decide +kernel)) (fun _ _ _ _ _ => (dg_n 8 sc__law_response.nd)) (fun _ _ _ _ _ => (dts_one (dt_cmp (or_in (u65 hr)) op_inP (de_ix ix_seq op_ixP (de_var 8) de_int) (de_frz (dl_lst (da_cons de_str (da_cons de_str (da_cons de_str (da_cons de_str (da_cons de_str da_nil)))))))))) (fun _ _ _ _ _ => (de_var 8)))
  (dss_one (dst_set 3 sc__law_response.nd (de_op or_add op_addP (de_var 3) (de_slice or_sl sl_P (de_slice or_sl sl_P (de_var 7) (do_some (de_one' (D__law_take C) (hr.mono (by decide)) (da_cons (de_var 0) (da_cons de_int da_nil)))) do_none) do_none (do_some de_int)))))) dss_nil)
  (dss_cons (dst_set 4 sc__law_response.nd (de_callTy call_tuple_of tup_P rfl (C.fre 8 "tuple" rfl) bo_tuple (da_cons (de_frz (dl_lc [("_law_k", 9)] sc__law_response.nd (di_range (C.fre 9 "range" rfl) (da_cons (de_one' (D__law_take C) (hr.mono (by decide)) (da_cons (de_var 0) (da_cons de_int da_nil))) da_nil)) (blkOk_by (own := [("_law_k", 9)]) (N := N__law_response) (sc := defScope (top 99)) (by decide +kernel)) (fun _ _ _ _ _ => (dg_n 9 sc__law_response.nd)) (fun _ _ _ _ _ => dts_nil) (fun _ _ _ _ _ => (de_one' (D__law_take C) (hr.mono (by decide)) (da_cons (de_var 0) (da_cons de_int da_nil)))))) da_nil)))
  (dss_cons (dst_set 5 sc__law_response.nd (de_one' (D__law_take C) (hr.mono (by decide)) (da_cons (de_var 0) (da_cons (de_op or_add op_addP (de_callB call_len len_P rfl (C.fre 0 "len" rfl) bo_len (da_cons (de_var 3) da_nil)) de_int) da_nil))))
  (dss_one (dst_ret (de_tup (da_cons (de_var 2) (da_cons (de_callTy call_tuple_of tup_P rfl (C.fre 8 "tuple" rfl) bo_tuple (da_cons (de_op or_add op_addP (de_slice or_sl sl_P (de_var 3) (do_some (de_var 5)) do_none) (de_slice or_sl sl_P (de_var 3) do_none (do_some (de_var 5)))) da_nil)) (da_cons (de_var 4) (da_cons (de_tup da_nil) da_nil))))))))))))))))))))))⟩
theorem D__law_ask (C : Fx K mg) : Fd P w K mg base 3 "_law_ask" F__law_ask := by
  obtain ⟨fd, F⟩ := C.def_ 9 _ rfl
  exact ⟨(C.glo 69 "_law_ask" rfl), F.kp, fd, ["_law_draw_here"], (F.bindsN fun _ _ _ _ _ _ us hl => match us, hl with | [_], _ => rfl), fn_body F sc__law_ask fun cdv A outer s H E hr => (dss_cons (dst_set 1 sc__law_ask.nd (de_ix ix_seq op_ixP (de_frz (dl_lst (da_cons de_str (da_cons de_str (da_cons de_str (da_cons de_str (da_cons de_str (da_cons de_str (da_cons de_str (da_cons de_str (da_cons de_str (da_cons de_str da_nil)))))))))))) (de_one' (D__law_take C) (hr.mono (by decide)) (da_cons (de_var 0) (da_cons de_int da_nil)))))
  (dss_cons (dst_set 2 sc__law_ask.nd (de_callTy call_tuple_of tup_P rfl (C.fre 8 "tuple" rfl) bo_tuple (da_cons (de_frz (dl_lc [("_law_sign", 5)] sc__law_ask.nd (di_str (de_ix ix_seq op_ixP (de_frz (dl_lst (da_cons de_str (da_cons de_str (da_cons de_str da_nil))))) (de_one' (D__law_take C) (hr.mono (by decide)) (da_cons (de_var 0) (da_cons de_int da_nil))))) (blkOk_by (own := [("_law_sign", 5)]) (N := N__law_ask) (sc := defScope (top 100)) (by decide +kernel)) (fun _ _ _ _ _ => (dg_n 5 sc__law_ask.nd)) (fun _ _ _ _ _ => dts_nil) (fun _ _ _ _ _ => (de_callB call_ord ord_P rfl (C.fre 6 "ord" rfl) bo_ord (da_cons (de_var 5) da_nil))))) da_nil)))
  (dss_cons (dst_set 3 sc__law_ask.nd (de_new (dl_lst (da_cons (de_tup (da_cons de_str (da_cons (de_ix ix_seq op_ixP (de_frz (dl_lst (da_cons de_str (da_cons de_str (da_cons de_str (da_cons de_str da_nil)))))) (de_one' (D__law_take C) (hr.mono (by decide)) (da_cons (de_var 0) (da_cons de_int da_nil)))) da_nil))) da_nil))))
  (dss_cons (dst_if (dt_cmp (or_eq hr.units) op_eqP (de_one' (D__law_take C) (hr.mono (by decide)) (da_cons (de_var 0) (da_cons de_int da_nil))) de_int) (dss_one (dst_drop (de_app (de_var 3) (da_cons (de_tup (da_cons de_str (da_cons (de_strip (de_ix ix_seq op_ixP (de_frz (dl_lst (da_cons de_str (da_cons de_str (da_cons de_str (da_cons de_str da_nil)))))) (de_one' (D__law_take C) (hr.mono (by decide)) (da_cons (de_var 0) (da_cons de_int da_nil)))) de_str) da_nil))) da_nil)))) dss_nil)
  (dss_cons (dst_if (dt_cmp (or_eq hr.units) op_eqP (de_one' (D__law_take C) (hr.mono (by decide)) (da_cons (de_var 0) (da_cons de_int da_nil))) de_int) (dss_one (dst_drop (de_app (de_var 3) (da_cons (de_tup (da_cons de_str (da_cons (de_ix ix_seq op_ixP (de_frz (dl_lst (da_cons de_str (da_cons de_str da_nil)))) (de_one' (D__law_take C) (hr.mono (by decide)) (da_cons (de_var 0) (da_cons de_int da_nil)))) da_nil))) da_nil)))) dss_nil)
  (dss_cons (dst_if (dt_cmp (or_eq hr.units) op_eqP (de_one' (D__law_take C) (hr.mono (by decide)) (da_cons (de_var 0) (da_cons de_int da_nil))) de_int) (dss_one (dst_drop (de_app (de_var 3) (da_cons (de_tup (da_cons de_str (da_cons (de_ix ix_seq op_ixP (de_frz (dl_lst (da_cons de_str (da_cons de_str (da_cons de_str da_nil))))) (de_one' (D__law_take C) (hr.mono (by decide)) (da_cons (de_var 0) (da_cons de_int da_nil)))) da_nil))) da_nil)))) dss_nil)
  (dss_cons (dst_if (dt_cmp (or_eq hr.units) op_eqP (de_one' (D__law_take C) (hr.mono (by decide)) (da_cons (de_var 0) (da_cons de_int da_nil))) de_int) (dss_cons (dst_set 4 sc__law_ask.nd (de_frz (dl_lst (da_cons de_str (da_cons de_str (da_cons de_str (da_cons de_str (da_cons de_str (da_cons de_str (da_cons de_str da_nil))))))))))
  (dss_cons (dst_set 4 sc__law_ask.nd (de_op or_add op_addP (de_var 4) (de_frz (dl_lst (da_cons de_str (da_cons de_str (da_cons de_str (da_cons de_str (da_cons de_str da_nil)))))))))
  (dss_cons (dst_drop (de_app (de_var 3) (da_cons (de_tup (da_cons de_str (da_cons (de_ix ix_seq op_ixP (de_var 4) (de_one' (D__law_take C) (hr.mono (by decide)) (da_cons (de_var 0) (da_cons de_int da_nil)))) da_nil))) da_nil)))
  (dss_one (dst_if (dt_cmp (or_eq hr.units) op_eqP (de_one' (D__law_take C) (hr.mono (by decide)) (da_cons (de_var 0) (da_cons de_int da_nil))) de_int) (dss_one (dst_drop (de_app (de_var 3) (da_cons (de_tup (da_cons de_str (da_cons (de_ix ix_seq op_ixP (de_var 4) (de_one' (D__law_take C) (hr.mono (by decide)) (da_cons (de_var 0) (da_cons de_int da_nil)))) da_nil))) da_nil)))) dss_nil))))) dss_nil)
  (dss_cons (dst_if (dt_cmp (or_eq hr.units) op_eqP (de_one' (D__law_take C) (hr.mono (by decide)) (da_cons (de_var 0) (da_cons de_int da_nil))) de_int) (dss_one (dst_drop (de_app (de_var 3) (da_cons (de_tup (da_cons de_str (da_cons (de_ix ix_seq op_ixP (de_frz (dl_lst (da_cons de_str (da_cons de_str (da_cons de_str (da_cons de_str da_nil)))))) (de_one' (D__law_take C) (hr.mono (by decide)) (da_cons (de_var 0) (da_cons de_int da_nil)))) da_nil))) da_nil)))) dss_nil)
  (dss_cons (dst_if (dt_cmp (or_eq hr.units) op_eqP (de_one' (D__law_take C) (hr.mono (by decide)) (da_cons (de_var 0) (da_cons de_int da_nil))) de_int) (dss_one (dst_drop (de_app (de_var 3) (da_cons (de_tup (da_cons de_str (da_cons (de_ix ix_seq op_ixP (de_frz (dl_lst (da_cons (de_pure (D_write_date C) (hr.mono (by decide)) (da_cons de_int da_nil)) (da_cons (de_pure (D_write_date C) (hr.mono (by decide)) (da_cons de_int da_nil)) (da_cons de_str da_nil))))) (de_one' (D__law_take C) (hr.mono (by decide)) (da_cons (de_var 0) (da_cons de_int da_nil)))) da_nil))) da_nil)))) dss_nil)
  (dss_cons (dst_if (dt_cmp (or_eq hr.units) op_eqP (de_one' (D__law_take C) (hr.mono (by decide)) (da_cons (de_var 0) (da_cons de_int da_nil))) de_int) (dss_one (dst_drop (de_app (de_var 3) (da_cons (de_ix ix_seq op_ixP (de_frz (dl_lst (da_cons (de_tup (da_cons de_str (da_cons de_str da_nil))) (da_cons (de_tup (da_cons de_str (da_cons de_str da_nil))) (da_cons (de_tup (da_cons de_str (da_cons de_str da_nil))) (da_cons (de_tup (da_cons de_str (da_cons de_str da_nil))) da_nil)))))) (de_one' (D__law_take C) (hr.mono (by decide)) (da_cons (de_var 0) (da_cons de_int da_nil)))) da_nil)))) dss_nil)
  (dss_one (dst_ret (de_tup (da_cons (de_var 1) (da_cons (de_var 2) (da_cons (de_callTy call_tuple_of tup_P rfl (C.fre 8 "tuple" rfl) bo_tuple (da_cons (de_var 3) da_nil)) (da_cons (de_tup da_nil) (da_cons (de_tup da_nil) da_nil))))))))))))))))))⟩
theorem D_values (C : Fx K mg) : Fd P w K mg base 1 "values" F_values := by
  obtain ⟨fd, F⟩ := C.def_ 10 _ rfl
  exact ⟨(C.glo 8 "values" rfl), F.kp, fd, ["fields", "name"], (F.bindsN fun _ _ _ _ _ _ us hl => match us, hl with | [_, _], _ => rfl), fn_body F sc_values fun cdv A outer s H E hr => (dss_one (dst_ret (de_frz (dl_lc [("key", 2), ("value", 3)] sc_values.nd (di_tup (de_var 0)) (blkOk_by (own := [("key", 2), ("value", 3)]) (N := N_values) (sc := defScope (top 13)) (by decide +kernel)) (fun _ _ _ _ _ => (dg_t (dgs_cons 2 sc_values.nd (dgs_cons 3 sc_values.nd dgs_nil)))) (fun _ _ _ _ _ => (dts_one (dt_cmp (or_eq hr.units) op_eqP (de_var 2) (de_var 1)))) (fun _ _ _ _ _ => (de_var 3))))))⟩
theorem D_cut (C : Fx K mg) : Fd P w K mg base 1 "cut" F_cut := by
  obtain ⟨fd, F⟩ := C.def_ 11 _ rfl
  exact ⟨(C.glo 11 "cut" rfl), F.kp, fd, ["text", "mark"], (F.bindsN fun _ _ _ _ _ _ us hl => match us, hl with | [_, _], _ => rfl), fn_body F sc_cut fun cdv A outer s H E hr => (dss_cons (dst_set 2 sc_cut.nd (de_new (dl_lst (da_cons de_str da_nil))))
  (dss_cons (dst_set 3 sc_cut.nd de_bl)
  (dss_cons (dst_set 4 sc_cut.nd de_bl)
  (dss_cons (dst_for (di_str (de_var 0)) (dg_n 5 sc_cut.nd) (dss_cons (dst_if (dt_w (dw_and (dt_cmp (or_eq hr.units) op_eqP (de_var 5) (de_var 1)) (dw_and1 (dt_not (dt_val (de_var 3)))))) (dss_cons (dst_drop (de_app (de_var 2) (da_cons de_str da_nil)))
  (dss_one dst_cont)) dss_nil)
  (dss_cons (dst_laug or_iadd op_iaddP (de_var 2) (de_un un_neg un_negP de_int) (de_var 5))
  (dss_one (dst_if (dt_val (de_var 4)) (dss_one (dst_set 4 sc_cut.nd de_bl)) (dss_one (dst_if (dt_w (dw_and (dt_val (de_var 3)) (dw_and1 (dt_cmp (or_eq hr.units) op_eqP (de_var 5) de_str)))) (dss_one (dst_set 4 sc_cut.nd de_bl)) (dss_one (dst_if (dt_cmp (or_eq hr.units) op_eqP (de_var 5) de_str) (dss_one (dst_set 3 sc_cut.nd (de_not (de_var 3)))) dss_nil)))))))))
  (dss_cons (dst_if (dt_val (de_var 3)) (dss_one (dst_ret de_non)) dss_nil)
  (dss_one (dst_ret (de_var 2))))))))⟩
theorem D_trimmed (C : Fx K mg) : Fd P w K mg base 1 "trimmed" F_trimmed := by
  obtain ⟨fd, F⟩ := C.def_ 12 _ rfl
  exact ⟨(C.glo 7 "trimmed" rfl), F.kp, fd, ["text"], (F.bindsN fun _ _ _ _ _ _ us hl => match us, hl with | [_], _ => rfl), fn_body F sc_trimmed fun cdv A outer s H E hr => (dss_one (dst_ret (de_strip (de_var 0) de_str)))⟩
theorem D_split_list (C : Fx K mg) : Fd P w K mg base 2 "split_list" F_split_list := by
  obtain ⟨fd, F⟩ := C.def_ 13 _ rfl
  exact ⟨(C.glo 12 "split_list" rfl), F.kp, fd, ["value"], (F.bindsN fun _ _ _ _ _ _ us hl => match us, hl with | [_], _ => rfl), fn_body F sc_split_list fun cdv A outer s H E hr => (dss_cons (dst_set 1 sc_split_list.nd (de_pure (D_cut C) (hr.mono (by decide)) (da_cons (de_var 0) (da_cons de_str da_nil))))
  (dss_cons (dst_if (dt_cmp op_isN1 op_isNP (de_var 1) de_non) (dss_one (dst_ret de_non)) dss_nil)
  (dss_one (dst_ret (de_frz (dl_lc [("part", 2)] sc_split_list.nd (di_list (de_var 1)) (blkOk_by (own := [("part", 2)]) (N := N_split_list) (sc := defScope (top 19)) (by decide +kernel)) (fun _ _ _ _ _ => (dg_n 2 sc_split_list.nd)) (fun _ _ _ _ _ => (dts_one (dt_cmp (or_ne hr.units) op_neP (de_pure (D_trimmed C) (hr.mono (by decide)) (da_cons (de_var 2) da_nil)) de_str))) (fun _ _ _ _ _ => (de_pure (D_trimmed C) (hr.mono (by decide)) (da_cons (de_var 2) da_nil)))))))))⟩
theorem D_lower (C : Fx K mg) : Fd P w K mg base 1 "lower" F_lower := by
  obtain ⟨fd, F⟩ := C.def_ 14 _ rfl
  exact ⟨(C.glo 6 "lower" rfl), F.kp, fd, ["text"], (F.bindsN fun _ _ _ _ _ _ us hl => match us, hl with | [_], _ => rfl), fn_body F sc_lower fun cdv A outer s H E hr => (dss_one (dst_ret (de_lower (de_var 0))))⟩
theorem D_vary_names (C : Fx K mg) : Fd P w K mg base 3 "vary_names" F_vary_names := by
  obtain ⟨fd, F⟩ := C.def_ 15 _ rfl
  exact ⟨(C.glo 50 "vary_names" rfl), F.kp, fd, ["response"], (F.bindsN fun _ _ _ _ _ _ us hl => match us, hl with | [_], _ => rfl), fn_body F sc_vary_names fun cdv A outer s H E hr => (dss_cons (dst_set 1 sc_vary_names.nd (de_new (dl_lst da_nil)))
  (dss_cons (dst_for (di_list (de_pure (D_values C) (hr.mono (by decide)) (da_cons (de_ix ix_seq op_ixP (de_var 0) de_int) (da_cons de_str da_nil)))) (dg_n 2 sc_vary_names.nd) (dss_cons (dst_set 3 sc_vary_names.nd (de_pure (D_split_list C) (hr.mono (by decide)) (da_cons (de_var 2) da_nil)))
  (dss_cons (dst_if (dt_cmp op_isN1 op_isNP (de_var 3) de_non) (dss_one (dst_ret (de_frz (dl_lst (da_cons de_str da_nil))))) dss_nil)
  (dss_one (dst_drop (de_ext (de_var 1) (dl_lc [("element", 4)] sc_vary_names.nd (di_list (de_var 3)) (blkOk_by (own := [("element", 4)]) (N := N_vary_names) (sc := defScope (top 68)) (by decide +kernel)) (fun _ _ _ _ _ => (dg_n 4 sc_vary_names.nd)) (fun _ _ _ _ _ => dts_nil) (fun _ _ _ _ _ => (de_pure (D_lower C) (hr.mono (by decide)) (da_cons (de_var 4) da_nil))))))))))
  (dss_one (dst_ret (de_var 1)))))⟩
theorem D_join_values (C : Fx K mg) : Fd P w K mg base 2 "join_values" F_join_values := by
  obtain ⟨fd, F⟩ := C.def_ 16 _ rfl
  exact ⟨(C.glo 13 "join_values" rfl), F.kp, fd, ["fields", "name"], (F.bindsN fun _ _ _ _ _ _ us hl => match us, hl with | [_, _], _ => rfl), fn_body F sc_join_values fun cdv A outer s H E hr => (dss_cons (dst_set 2 sc_join_values.nd (de_pure (D_values C) (hr.mono (by decide)) (da_cons (de_var 0) (da_cons (de_var 1) da_nil))))
  (dss_cons (dst_if (dt_cmp (or_eq hr.units) op_eqP (de_var 2) (de_frz (dl_lst da_nil))) (dss_one (dst_ret de_non)) dss_nil)
  (dss_one (dst_ret (de_join de_str (de_var 2))))))⟩
theorem D_evened (C : Fx K mg) : Fd P w K mg base 3 "evened" F_evened := by
  obtain ⟨fd, F⟩ := C.def_ 17 _ rfl
  exact ⟨(C.glo 51 "evened" rfl), F.kp, fd, ["fields", "name"], (F.bindsN fun _ _ _ _ _ _ us hl => match us, hl with | [_, _], _ => rfl), fn_body F sc_evened fun cdv A outer s H E hr => (dss_cons (dst_set 2 sc_evened.nd (de_pure (D_join_values C) (hr.mono (by decide)) (da_cons (de_var 0) (da_cons (de_var 1) da_nil))))
  (dss_cons (dst_if (dt_cmp op_isN1 op_isNP (de_var 2) de_non) (dss_one (dst_ret de_non)) dss_nil)
  (dss_cons (dst_set 3 sc_evened.nd (de_pure (D_split_list C) (hr.mono (by decide)) (da_cons (de_var 2) da_nil)))
  (dss_one (dst_ret (de_if (dt_cmp op_isN1 op_isNP (de_var 3) de_non) (de_var 2) (de_join de_str (de_var 3))))))))⟩
theorem D_fits (C : Fx K mg) : Fd P w K mg base 4 "fits" F_fits := by
  obtain ⟨fd, F⟩ := C.def_ 18 _ rfl
  exact ⟨(C.glo 52 "fits" rfl), F.kp, fd, ["entry", "request"], (F.bindsN fun _ _ _ _ _ _ us hl => match us, hl with | [_, _], _ => rfl), fn_body F sc_fits fun cdv A outer s H E hr => (dss_cons (dst_if (dt_cmp (or_ne hr.units) op_neP (de_ix ix_seq op_ixP (de_var 0) de_int) (de_ix ix_seq op_ixP (de_var 1) de_int)) (dss_one (dst_ret de_bl)) dss_nil)
  (dss_cons (dst_for (di_list (de_op or_add op_addP (de_frz (dl_lst (da_cons de_str da_nil))) (de_pure (D_vary_names C) (hr.mono (by decide)) (da_cons (de_ix ix_seq op_ixP (de_var 0) de_int) da_nil)))) (dg_n 2 sc_fits.nd) (dss_one (dst_if (dt_w (dw_or (dt_cmp (or_eq hr.units) op_eqP (de_var 2) de_str) (dw_or1 (dt_cmp (or_ne hr.units) op_neP (de_pure (D_evened C) (hr.mono (by decide)) (da_cons (de_ix ix_seq op_ixP (de_var 0) de_int) (da_cons (de_var 2) da_nil))) (de_pure (D_evened C) (hr.mono (by decide)) (da_cons (de_ix ix_seq op_ixP (de_var 1) de_int) (da_cons (de_var 2) da_nil))))))) (dss_one (dst_ret de_bl)) dss_nil)))
  (dss_one (dst_ret de_bl))))⟩
theorem D_are_digits (C : Fx K mg) : Fd P w K mg base 1 "are_digits" F_are_digits := by
  obtain ⟨fd, F⟩ := C.def_ 19 _ rfl
  exact ⟨(C.glo 14 "are_digits" rfl), F.kp, fd, ["text"], (F.bindsN fun _ _ _ _ _ _ us hl => match us, hl with | [_], _ => rfl), fn_body F sc_are_digits fun cdv A outer s H E hr => (dss_cons (dst_for (di_str (de_var 0)) (dg_n 1 sc_are_digits.nd) (dss_one (dst_if (dt_cmp (or_nin (u65 hr)) op_ninP (de_var 1) (de_glob (C.con 4 "DIGITS" _ rfl) rfl)) (dss_one (dst_ret de_bl)) dss_nil)))
  (dss_one (dst_ret de_bl)))⟩
theorem D_number (C : Fx K mg) : Fd P w K mg base 2 "number" F_number := by
  obtain ⟨fd, F⟩ := C.def_ 20 _ rfl
  exact ⟨(C.glo 20 "number" rfl), F.kp, fd, ["text"], (F.bindsN fun _ _ _ _ _ _ us hl => match us, hl with | [_], _ => rfl), fn_body F sc_number fun cdv A outer s H E hr => (dss_cons (dst_if (dt_w (dw_or (dt_cmp (or_eq hr.units) op_eqP (de_var 0) de_str) (dw_or1 (dt_not (dt_val (de_pure (D_are_digits C) (hr.mono (by decide)) (da_cons (de_var 0) da_nil))))))) (dss_one (dst_ret (de_un un_neg un_negP de_int))) dss_nil)
  (dss_one (dst_ret (de_callTy or_int int_P rfl (C.fre 4 "int" rfl) bo_int (da_cons (de_var 0) da_nil)))))⟩
theorem D_read_clock (C : Fx K mg) : Fd P w K mg base 3 "read_clock" F_read_clock := by
  obtain ⟨fd, F⟩ := C.def_ 21 _ rfl
  exact ⟨(C.glo 21 "read_clock" rfl), F.kp, fd, ["text"], (F.bindsN fun _ _ _ _ _ _ us hl => match us, hl with | [_], _ => rfl), fn_body F sc_read_clock fun cdv A outer s H E hr => (dss_cons (dst_if (dt_w (dw_or (dt_cmp (or_ne hr.units) op_neP (de_callB call_len len_P rfl (C.fre 0 "len" rfl) bo_len (da_cons (de_var 0) da_nil)) de_int) (dw_or (dt_cmp (or_ne hr.units) op_neP (de_ix ix_seq op_ixP (de_var 0) de_int) de_str) (dw_or1 (dt_cmp (or_ne hr.units) op_neP (de_ix ix_seq op_ixP (de_var 0) de_int) de_str))))) (dss_one (dst_ret (de_un un_neg un_negP de_int))) dss_nil)
  (dss_cons (dst_set 1 sc_read_clock.nd (de_pure (D_number C) (hr.mono (by decide)) (da_cons (de_slice or_sl sl_P (de_var 0) do_none (do_some de_int)) da_nil)))
  (dss_cons (dst_set 2 sc_read_clock.nd (de_pure (D_number C) (hr.mono (by decide)) (da_cons (de_slice or_sl sl_P (de_var 0) (do_some de_int) (do_some de_int)) da_nil)))
  (dss_cons (dst_set 3 sc_read_clock.nd (de_pure (D_number C) (hr.mono (by decide)) (da_cons (de_slice or_sl sl_P (de_var 0) (do_some de_int) do_none) da_nil)))
  (dss_cons (dst_if (dt_w (dw_or (dt_not (dt_chain or_le op_leP or_le op_leP de_int (de_var 1) de_int)) (dw_or (dt_not (dt_chain or_le op_leP or_le op_leP de_int (de_var 2) de_int)) (dw_or1 (dt_not (dt_chain or_le op_leP or_le op_leP de_int (de_var 3) de_int)))))) (dss_one (dst_ret (de_un un_neg un_negP de_int))) dss_nil)
  (dss_one (dst_ret (de_op or_add op_addP (de_op or_add op_addP (de_op op_mul op_mulP de_int (de_var 1)) (de_op op_mul op_mulP de_int (de_var 2))) (de_var 3)))))))))⟩
theorem D_days_of (C : Fx K mg) : Fd P w K mg base 1 "days_of" F_days_of := by
  obtain ⟨fd, F⟩ := C.def_ 22 _ rfl
  exact ⟨(C.glo 15 "days_of" rfl), F.kp, fd, ["year", "month", "day"], (F.bindsN fun _ _ _ _ _ _ us hl => match us, hl with | [_, _, _], _ => rfl), fn_body F sc_days_of fun cdv A outer s H E hr => (dss_cons (dst_if (dt_cmp or_le op_leP (de_var 1) de_int) (dss_cons (dst_aug 0 or_isub op_subP sc_days_of.nd de_int)
  (dss_one (dst_aug 1 or_iadd op_iaddP sc_days_of.nd de_int))) dss_nil)
  (dss_cons (dst_set 3 sc_days_of.nd (de_op op_fdiv op_divP (de_op or_add op_addP (de_op op_mul op_mulP de_int (de_op op_sub op_subP (de_var 1) de_int)) de_int) de_int))
  (dss_one (dst_ret (de_op op_sub op_subP (de_op op_sub op_subP (de_op or_add op_addP (de_op or_add op_addP (de_op or_add op_addP (de_op op_sub op_subP (de_op or_add op_addP (de_op op_mul op_mulP (de_var 0) de_int) (de_op op_fdiv op_divP (de_var 0) de_int)) (de_op op_fdiv op_divP (de_var 0) de_int)) (de_op op_fdiv op_divP (de_var 0) de_int)) (de_var 3)) (de_var 2)) de_int) de_int)))))⟩
theorem D_length_of_month (C : Fx K mg) : Fd P w K mg base 2 "length_of_month" F_length_of_month := by
  obtain ⟨fd, F⟩ := C.def_ 23 _ rfl
  exact ⟨(C.glo 17 "length_of_month" rfl), F.kp, fd, ["year", "month"], (F.bindsN fun _ _ _ _ _ _ us hl => match us, hl with | [_, _], _ => rfl), fn_body F sc_length_of_month fun cdv A outer s H E hr => (dss_cons (dst_if (dt_cmp (or_eq hr.units) op_eqP (de_var 1) de_int) (dss_one (dst_ret de_int)) dss_nil)
  (dss_one (dst_ret (de_op op_sub op_subP (de_pure (D_days_of C) (hr.mono (by decide)) (da_cons (de_var 0) (da_cons (de_op or_add op_addP (de_var 1) de_int) (da_cons de_int da_nil)))) (de_pure (D_days_of C) (hr.mono (by decide)) (da_cons (de_var 0) (da_cons (de_var 1) (da_cons de_int da_nil))))))))⟩
theorem D_made (C : Fx K mg) : Fd P w K mg base 4 "made" F_made := by
  obtain ⟨fd, F⟩ := C.def_ 24 _ rfl
  exact ⟨(C.glo 22 "made" rfl), F.kp, fd, ["weekday", "year", "month", "day", "clock"], (F.bindsN fun _ _ _ _ _ _ us hl => match us, hl with | [_, _, _, _, _], _ => rfl), fn_body F sc_made fun cdv A outer s H E hr => (dss_cons (dst_set 5 sc_made.nd (de_pure (D_read_clock C) (hr.mono (by decide)) (da_cons (de_var 4) da_nil)))
  (dss_cons (dst_if (dt_w (dw_or (dt_cmp (or_nin (u65 hr)) op_ninP (de_var 2) (de_glob (C.con 6 "MONTHS" _ rfl) rfl)) (dw_or (dt_not (dt_chain or_le op_leP or_le op_leP de_int (de_var 1) de_int)) (dw_or1 (dt_cmp op_lt op_ltP (de_var 5) de_int))))) (dss_one (dst_ret de_non)) dss_nil)
  (dss_cons (dst_set 6 sc_made.nd (de_op or_add op_addP (de_index C.mon (de_var 2)) de_int))
  (dss_cons (dst_if (dt_not (dt_chain or_le op_leP or_le op_leP de_int (de_var 3) (de_pure (D_length_of_month C) (hr.mono (by decide)) (da_cons (de_var 1) (da_cons (de_var 6) da_nil))))) (dss_one (dst_ret de_non)) dss_nil)
  (dss_cons (dst_set 7 sc_made.nd (de_pure (D_days_of C) (hr.mono (by decide)) (da_cons (de_var 1) (da_cons (de_var 6) (da_cons (de_var 3) da_nil)))))
  (dss_cons (dst_if (dt_cmp (or_ne hr.units) op_neP (de_ix ix_seq op_ixP (de_glob (C.con 5 "WEEKDAYS" _ rfl) rfl) (de_pure (D_weekday_of C) (hr.mono (by decide)) (da_cons (de_var 7) da_nil))) (de_var 0)) (dss_one (dst_ret de_non)) dss_nil)
  (dss_one (dst_ret (de_op or_add op_addP (de_op op_mul op_mulP (de_var 7) (de_glob (C.con 7 "DAY" _ rfl) rfl)) (de_var 5))))))))))⟩
end
end Ow
set_option Elab.async false
set_option linter.all false
set_option maxRecDepth 100000
set_option maxHeartbeats 4000000
namespace Ow
open PySem L2

section
variable {P : Program} {w : World} {K : PySem.W.Frag} {mg : Str → Option Value} {base : Heap}
theorem D_long_name (C : Fx K mg) : Fd P w K mg base 1 "long_name" F_long_name := by
  obtain ⟨fd, F⟩ := C.def_ 25 _ rfl
  exact ⟨(C.glo 23 "long_name" rfl), F.kp, fd, ["short"], (F.bindsN fun _ _ _ _ _ _ us hl => match us, hl with | [_], _ => rfl), fn_body F sc_long_name fun cdv A outer s H E hr => (dss_cons (dst_for (di_tup (de_glob (C.con 5 "WEEKDAYS" _ rfl) rfl)) (dg_n 1 sc_long_name.nd) (dss_one (dst_if (dt_cmp (or_eq hr.units) op_eqP (de_slice or_sl sl_P (de_var 1) do_none (do_some de_int)) (de_var 0)) (dss_one (dst_ret (de_var 1))) dss_nil)))
  (dss_one (dst_ret de_str)))⟩
theorem D_read_short (C : Fx K mg) : Fd P w K mg base 5 "read_short" F_read_short := by
  obtain ⟨fd, F⟩ := C.def_ 26 _ rfl
  exact ⟨(C.glo 25 "read_short" rfl), F.kp, fd, ["text"], (F.bindsN fun _ _ _ _ _ _ us hl => match us, hl with | [_], _ => rfl), fn_body F sc_read_short fun cdv A outer s H E hr => (dss_cons (dst_if (dt_w (dw_or (dt_cmp (or_ne hr.units) op_neP (de_callB call_len len_P rfl (C.fre 0 "len" rfl) bo_len (da_cons (de_var 0) da_nil)) de_int) (dw_or (dt_cmp (or_ne hr.units) op_neP (de_slice or_sl sl_P (de_var 0) (do_some de_int) (do_some de_int)) de_str) (dw_or (dt_cmp (or_ne hr.units) op_neP (de_ix ix_seq op_ixP (de_var 0) de_int) de_str) (dw_or (dt_cmp (or_ne hr.units) op_neP (de_ix ix_seq op_ixP (de_var 0) de_int) de_str) (dw_or1 (dt_cmp (or_ne hr.units) op_neP (de_ix ix_seq op_ixP (de_var 0) de_int) de_str))))))) (dss_one (dst_ret de_non)) dss_nil)
  (dss_cons (dst_if (dt_cmp (or_ne hr.units) op_neP (de_slice or_sl sl_P (de_var 0) (do_some de_int) do_none) de_str) (dss_one (dst_ret de_non)) dss_nil)
  (dss_one (dst_ret (de_pure (D_made C) (hr.mono (by decide)) (da_cons (de_pure (D_long_name C) (hr.mono (by decide)) (da_cons (de_slice or_sl sl_P (de_var 0) do_none (do_some de_int)) da_nil)) (da_cons (de_pure (D_number C) (hr.mono (by decide)) (da_cons (de_slice or_sl sl_P (de_var 0) (do_some de_int) (do_some de_int)) da_nil)) (da_cons (de_slice or_sl sl_P (de_var 0) (do_some de_int) (do_some de_int)) (da_cons (de_pure (D_number C) (hr.mono (by decide)) (da_cons (de_slice or_sl sl_P (de_var 0) (do_some de_int) (do_some de_int)) da_nil)) (da_cons (de_slice or_sl sl_P (de_var 0) (do_some de_int) (do_some de_int)) da_nil))))))))))⟩
theorem D_full_year (C : Fx K mg) : Fd P w K mg base 2 "full_year" F_full_year := by
  obtain ⟨fd, F⟩ := C.def_ 27 _ rfl
  exact ⟨(C.glo 24 "full_year" rfl), F.kp, fd, ["last", "now"], (F.bindsN fun _ _ _ _ _ _ us hl => match us, hl with | [_, _], _ => rfl), fn_body F sc_full_year fun cdv A outer s H E hr => (dss_cons (dst_set 2 sc_full_year.nd (de_op or_add op_addP (de_ix ix_seq op_ixP (de_pure (D_date_of C) (hr.mono (by decide)) (da_cons (de_op op_fdiv op_divP (de_var 1) (de_glob (C.con 7 "DAY" _ rfl) rfl)) da_nil)) de_int) de_int))
  (dss_one (dst_ret (de_op op_sub op_subP (de_var 2) (de_op op_mod op_modP (de_op op_sub op_subP (de_var 2) (de_var 0)) de_int)))))⟩
theorem D_read_long (C : Fx K mg) : Fd P w K mg base 5 "read_long" F_read_long := by
  obtain ⟨fd, F⟩ := C.def_ 28 _ rfl
  exact ⟨(C.glo 26 "read_long" rfl), F.kp, fd, ["text", "now"], (F.bindsN fun _ _ _ _ _ _ us hl => match us, hl with | [_, _], _ => rfl), fn_body F sc_read_long fun cdv A outer s H E hr => (dss_cons (dst_set 2 sc_read_long.nd (de_find (de_var 0) de_str))
  (dss_cons (dst_set 3 sc_read_long.nd (de_slice or_sl sl_P (de_var 0) (do_some (de_op or_add op_addP (de_var 2) de_int)) do_none))
  (dss_cons (dst_if (dt_w (dw_or (dt_cmp op_lt op_ltP (de_var 2) de_int) (dw_or (dt_cmp (or_ne hr.units) op_neP (de_callB call_len len_P rfl (C.fre 0 "len" rfl) bo_len (da_cons (de_var 3) da_nil)) de_int) (dw_or (dt_cmp (or_ne hr.units) op_neP (de_ix ix_seq op_ixP (de_var 3) de_int) de_str) (dw_or (dt_cmp (or_ne hr.units) op_neP (de_ix ix_seq op_ixP (de_var 3) de_int) de_str) (dw_or (dt_cmp (or_ne hr.units) op_neP (de_ix ix_seq op_ixP (de_var 3) de_int) de_str) (dw_or1 (dt_cmp (or_ne hr.units) op_neP (de_slice or_sl sl_P (de_var 3) (do_some de_int) do_none) de_str)))))))) (dss_one (dst_ret de_non)) dss_nil)
  (dss_cons (dst_set 4 sc_read_long.nd (de_pure (D_number C) (hr.mono (by decide)) (da_cons (de_slice or_sl sl_P (de_var 3) (do_some de_int) (do_some de_int)) da_nil)))
  (dss_cons (dst_if (dt_cmp op_lt op_ltP (de_var 4) de_int) (dss_one (dst_ret de_non)) dss_nil)
  (dss_one (dst_ret (de_pure (D_made C) (hr.mono (by decide)) (da_cons (de_slice or_sl sl_P (de_var 0) do_none (do_some (de_var 2))) (da_cons (de_pure (D_full_year C) (hr.mono (by decide)) (da_cons (de_var 4) (da_cons (de_var 1) da_nil))) (da_cons (de_slice or_sl sl_P (de_var 3) (do_some de_int) (do_some de_int)) (da_cons (de_pure (D_number C) (hr.mono (by decide)) (da_cons (de_slice or_sl sl_P (de_var 3) do_none (do_some de_int)) da_nil)) (da_cons (de_slice or_sl sl_P (de_var 3) (do_some de_int) (do_some de_int)) da_nil)))))))))))))⟩
theorem D_read_old (C : Fx K mg) : Fd P w K mg base 5 "read_old" F_read_old := by
  obtain ⟨fd, F⟩ := C.def_ 29 _ rfl
  exact ⟨(C.glo 27 "read_old" rfl), F.kp, fd, ["text"], (F.bindsN fun _ _ _ _ _ _ us hl => match us, hl with | [_], _ => rfl), fn_body F sc_read_old fun cdv A outer s H E hr => (dss_cons (dst_if (dt_w (dw_or (dt_cmp (or_ne hr.units) op_neP (de_callB call_len len_P rfl (C.fre 0 "len" rfl) bo_len (da_cons (de_var 0) da_nil)) de_int) (dw_or (dt_cmp (or_ne hr.units) op_neP (de_ix ix_seq op_ixP (de_var 0) de_int) de_str) (dw_or (dt_cmp (or_ne hr.units) op_neP (de_ix ix_seq op_ixP (de_var 0) de_int) de_str) (dw_or (dt_cmp (or_ne hr.units) op_neP (de_ix ix_seq op_ixP (de_var 0) de_int) de_str) (dw_or1 (dt_cmp (or_ne hr.units) op_neP (de_ix ix_seq op_ixP (de_var 0) de_int) de_str))))))) (dss_one (dst_ret de_non)) dss_nil)
  (dss_cons (dst_set 1 sc_read_old.nd (de_pure (D_number C) (hr.mono (by decide)) (da_cons (de_slice or_sl sl_P (de_var 0) (do_some de_int) (do_some de_int)) da_nil)))
  (dss_cons (dst_if (dt_cmp (or_eq hr.units) op_eqP (de_ix ix_seq op_ixP (de_var 0) de_int) de_str) (dss_one (dst_set 1 sc_read_old.nd (de_pure (D_number C) (hr.mono (by decide)) (da_cons (de_ix ix_seq op_ixP (de_var 0) de_int) da_nil)))) dss_nil)
  (dss_cons (dst_if (dt_cmp (or_ne hr.units) op_neP (de_cmp op_lt op_ltP (de_var 1) de_int) (de_cmp (or_eq hr.units) op_eqP (de_ix ix_seq op_ixP (de_var 0) de_int) de_str)) (dss_one (dst_ret de_non)) dss_nil)
  (dss_one (dst_ret (de_pure (D_made C) (hr.mono (by decide)) (da_cons (de_pure (D_long_name C) (hr.mono (by decide)) (da_cons (de_slice or_sl sl_P (de_var 0) do_none (do_some de_int)) da_nil)) (da_cons (de_pure (D_number C) (hr.mono (by decide)) (da_cons (de_slice or_sl sl_P (de_var 0) (do_some de_int) do_none) da_nil)) (da_cons (de_slice or_sl sl_P (de_var 0) (do_some de_int) (do_some de_int)) (da_cons (de_var 1) (da_cons (de_slice or_sl sl_P (de_var 0) (do_some de_int) (do_some de_int)) da_nil))))))))))))⟩
theorem D_read_date (C : Fx K mg) : Fd P w K mg base 6 "read_date" F_read_date := by
  obtain ⟨fd, F⟩ := C.def_ 30 _ rfl
  exact ⟨(C.glo 28 "read_date" rfl), F.kp, fd, ["text", "now"], (F.bindsN fun _ _ _ _ _ _ us hl => match us, hl with | [_, _], _ => rfl), fn_body F sc_read_date fun cdv A outer s H E hr => (dss_cons (dst_set 2 sc_read_date.nd (de_pure (D_read_short C) (hr.mono (by decide)) (da_cons (de_var 0) da_nil)))
  (dss_cons (dst_if (dt_cmp op_isN1 op_isNP (de_var 2) de_non) (dss_one (dst_set 2 sc_read_date.nd (de_pure (D_read_long C) (hr.mono (by decide)) (da_cons (de_var 0) (da_cons (de_var 1) da_nil))))) dss_nil)
  (dss_cons (dst_if (dt_cmp op_isN1 op_isNP (de_var 2) de_non) (dss_one (dst_set 2 sc_read_date.nd (de_pure (D_read_old C) (hr.mono (by decide)) (da_cons (de_var 0) da_nil)))) dss_nil)
  (dss_one (dst_ret (de_var 2))))))⟩
theorem D__law_rank (C : Fx K mg) : Fd P w K mg base 7 "_law_rank" F__law_rank := by
  obtain ⟨fd, F⟩ := C.def_ 31 _ rfl
  exact ⟨(C.glo 71 "_law_rank" rfl), F.kp, fd, ["_law_entry"], (F.bindsN fun _ _ _ _ _ _ us hl => match us, hl with | [_], _ => rfl), fn_body F sc__law_rank fun cdv A outer s H E hr => (dss_cons (by first | exact dst_set 1 sc__law_rank.nd (de_frz (dl_lc [("_law_key", 3), ("_law_value", 4)] sc__law_rank.nd (di_tup (de_ix ix_seq op_ixP (de_ix ix_seq op_ixP (de_var 0) de_int) de_int)) (blkOk_by (own := [("_law_key", 3), ("_law_value", 4)]) (N := N__law_rank) (sc := defScope (top 102)) (by decide +kernel)) (fun _ _ _ _ _ => (dg_t (dgs_cons 3 sc__law_rank.nd (dgs_cons 4 sc__law_rank.nd dgs_nil)))) (fun _ _ _ _ _ => (dts_one (dt_cmp (or_eq hr.units) op_eqP (de_var 3) de_str))) (fun _ _ _ _ _ => (de_var 4)))) | exact dst_setLc 1 [("_law_key", 3), ("_law_value", 4)] sc__law_rank.nd (di_tup (de_ix ix_seq op_ixP (de_ix ix_seq op_ixP (de_var 0) de_int) de_int)) (blkOk_by (own := [("_law_key", 3), ("_law_value", 4)]) (N := N__law_rank) (sc := defScope (top 102)) (by decide +kernel)) (fun _ _ _ _ _ => (dg_t (dgs_cons 3 sc__law_rank.nd (dgs_cons 4 sc__law_rank.nd dgs_nil)))) (fun _ _ _ _ _ => (dts_one (dt_cmp (or_eq hr.units) op_eqP (de_var 3) de_str))) (fun _ _ _ _ _ => (de_var 4)))
  (dss_cons (dst_set 2 sc__law_rank.nd (de_if (dt_cmp (or_eq hr.units) op_eqP (de_callB call_len len_P rfl (C.fre 0 "len" rfl) bo_len (da_cons (de_var 1) da_nil)) de_int) (de_pure (D_read_date C) (hr.mono (by decide)) (da_cons (de_ix ix_seq op_ixP (de_var 1) de_int) (da_cons (de_ix ix_seq op_ixP (de_var 0) de_int) da_nil))) de_non))
  (dss_one (dst_ret (de_if (dt_cmp op_isN1 op_isNP (de_var 2) de_non) de_int (de_var 2))))))⟩
theorem D__law_find (C : Fx K mg) : Fd P w K mg base 8 "_law_find" F__law_find := by
  obtain ⟨fd, F⟩ := C.def_ 32 _ rfl
  exact ⟨(C.glo 72 "_law_find" rfl), F.kp, fd, ["_law_state", "_law_request"], (F.bindsN fun _ _ _ _ _ _ us hl => match us, hl with | [_, _], _ => rfl), fn_body F sc__law_find fun cdv A outer s H E hr => (dss_cons (dst_set 2 sc__law_find.nd de_non)
  (dss_cons (dst_for (di_list (de_dget (u1 hr) (de_var 0))) (dg_n 3 sc__law_find.nd) (dss_one (dst_if (dt_val (de_pure (D_fits C) (hr.mono (by decide)) (da_cons (de_ix ix_seq op_ixP (de_var 3) de_int) (da_cons (de_var 1) da_nil)))) (dss_one (dst_if (dt_w (dw_or (dt_cmp op_isN1 op_isNP (de_var 2) de_non) (dw_or1 (dt_cmp (or_gt hr) op_gtP (de_pure (D__law_rank C) (hr.mono (by decide)) (da_cons (de_ix ix_seq op_ixP (de_var 3) de_int) da_nil)) (de_pure (D__law_rank C) (hr.mono (by decide)) (da_cons (de_ix ix_seq op_ixP (de_var 2) de_int) da_nil)))))) (dss_one (dst_set 2 sc__law_find.nd (de_var 3))) (dss_one (dst_if (dt_w (dw_and (dt_cmp (or_eq hr.units) op_eqP (de_pure (D__law_rank C) (hr.mono (by decide)) (da_cons (de_ix ix_seq op_ixP (de_var 3) de_int) da_nil)) (de_pure (D__law_rank C) (hr.mono (by decide)) (da_cons (de_ix ix_seq op_ixP (de_var 2) de_int) da_nil))) (dw_and1 (dt_cmp (or_gt hr) op_gtP (de_ix ix_seq op_ixP (de_var 3) de_int) (de_ix ix_seq op_ixP (de_var 2) de_int))))) (dss_one (dst_set 2 sc__law_find.nd (de_var 3))) dss_nil)))) dss_nil)))
  (dss_cons (dst_if (dt_cmp op_isN1 op_isNP (de_var 2) de_non) (dss_one (dst_ret de_non)) dss_nil)
  (dss_cons (dst_dset (u1 hr) (de_var 0) (de_op or_add op_addP (de_frz (dl_lc [("_law_row", 3)] sc__law_find.nd (di_list (de_dget (u1 hr) (de_var 0))) (blkOk_by (own := [("_law_row", 3)]) (N := N__law_find) (sc := defScope (top 103)) (by decide +kernel)) (fun _ _ _ _ _ => (dg_n 3 sc__law_find.nd)) (fun _ _ _ _ _ => (dts_one (dt_cmp (or_ne hr.units) op_neP (de_ix ix_seq op_ixP (de_var 3) de_int) (de_ix ix_seq op_ixP (de_var 2) de_int)))) (fun _ _ _ _ _ => (de_var 3)))) (de_frz (dl_lst (da_cons (de_var 2) da_nil)))))
  (dss_one (dst_ret (de_ix ix_seq op_ixP (de_var 2) de_int)))))))⟩
theorem D__law_has (C : Fx K mg) : Fd P w K mg base 1 "_law_has" F__law_has := by
  obtain ⟨fd, F⟩ := C.def_ 33 _ rfl
  exact ⟨(C.glo 79 "_law_has" rfl), F.kp, fd, ["_law_request", "_law_names"], (F.bindsN fun _ _ _ _ _ _ us hl => match us, hl with | [_, _], _ => rfl), fn_body F sc__law_has fun cdv A outer s H E hr => (dss_one (dst_ret (de_cmp (or_ne hr.units) op_neP (de_frz (dl_lc [("_law_pair", 2)] sc__law_has.nd (di_tup (de_ix ix_seq op_ixP (de_var 0) de_int)) (blkOk_by (own := [("_law_pair", 2)]) (N := N__law_has) (sc := defScope (top 110)) (by decide +kernel)) (fun _ _ _ _ _ => (dg_n 2 sc__law_has.nd)) (fun _ _ _ _ _ => (dts_one (dt_cmp (or_in (u65 hr)) op_inP (de_ix ix_seq op_ixP (de_var 2) de_int) (de_var 1)))) (fun _ _ _ _ _ => (de_var 2)))) (de_frz (dl_lst da_nil)))))⟩
theorem D_date_of_field (C : Fx K mg) : Fd P w K mg base 7 "date_of_field" F_date_of_field := by
  obtain ⟨fd, F⟩ := C.def_ 34 _ rfl
  exact ⟨(C.glo 44 "date_of_field" rfl), F.kp, fd, ["fields", "name", "came"], (F.bindsN fun _ _ _ _ _ _ us hl => match us, hl with | [_, _, _], _ => rfl), fn_body F sc_date_of_field fun cdv A outer s H E hr => (dss_cons (dst_set 3 sc_date_of_field.nd (de_pure (D_values C) (hr.mono (by decide)) (da_cons (de_var 0) (da_cons (de_var 1) da_nil))))
  (dss_cons (dst_if (dt_cmp (or_ne hr.units) op_neP (de_callB call_len len_P rfl (C.fre 0 "len" rfl) bo_len (da_cons (de_var 3) da_nil)) de_int) (dss_one (dst_ret de_non)) dss_nil)
  (dss_one (dst_ret (de_pure (D_read_date C) (hr.mono (by decide)) (da_cons (de_ix ix_seq op_ixP (de_var 3) de_int) (da_cons (de_var 2) da_nil)))))))⟩
theorem D_seconds (C : Fx K mg) : Fd P w K mg base 2 "seconds" F_seconds := by
  obtain ⟨fd, F⟩ := C.def_ 35 _ rfl
  exact ⟨(C.glo 43 "seconds" rfl), F.kp, fd, ["value"], (F.bindsN fun _ _ _ _ _ _ us hl => match us, hl with | [_], _ => rfl), fn_body F sc_seconds fun cdv A outer s H E hr => (dss_cons (dst_if (dt_w (dw_or (dt_cmp op_isN1 op_isNP (de_var 0) de_non) (dw_or (dt_not (dt_chain or_le op_leP or_le op_leP de_int (de_callB call_len len_P rfl (C.fre 0 "len" rfl) bo_len (da_cons (de_var 0) da_nil)) de_int)) (dw_or1 (dt_not (dt_val (de_pure (D_are_digits C) (hr.mono (by decide)) (da_cons (de_var 0) da_nil)))))))) (dss_one (dst_ret de_non)) dss_nil)
  (dss_one (dst_ret (de_callB (call_min2 rfl) min2_P rfl (C.fre 2 "min" rfl) bo_min (da_cons (de_callTy or_int int_P rfl (C.fre 4 "int" rfl) bo_int (da_cons (de_var 0) da_nil)) (da_cons (de_glob (C.con 8 "MOST_SECONDS" _ rfl) rfl) da_nil))))))⟩
theorem D_age_when_come (C : Fx K mg) : Fd P w K mg base 8 "age_when_come" F_age_when_come := by
  obtain ⟨fd, F⟩ := C.def_ 36 _ rfl
  exact ⟨(C.glo 47 "age_when_come" rfl), F.kp, fd, ["response", "asked", "came"], (F.bindsN fun _ _ _ _ _ _ us hl => match us, hl with | [_, _, _], _ => rfl), fn_body F sc_age_when_come fun cdv A outer s H E hr => (dss_cons (dst_set 3 sc_age_when_come.nd (de_ix ix_seq op_ixP (de_var 0) de_int))
  (dss_cons (dst_set 4 sc_age_when_come.nd (de_pure (D_date_of_field C) (hr.mono (by decide)) (da_cons (de_var 3) (da_cons de_str (da_cons (de_var 2) da_nil)))))
  (dss_cons (dst_set 5 sc_age_when_come.nd (de_if (dt_cmp op_isN1 op_isNP (de_var 4) de_non) de_int (de_callB (call_max2 rfl) max2_P rfl (C.fre 1 "max" rfl) bo_max (da_cons de_int (da_cons (de_op op_sub op_subP (de_var 2) (de_var 4)) da_nil)))))
  (dss_cons (dst_set 6 sc_age_when_come.nd (de_pure (D_values C) (hr.mono (by decide)) (da_cons (de_var 3) (da_cons de_str da_nil))))
  (dss_cons (dst_set 7 sc_age_when_come.nd (de_if (dt_cmp (or_eq hr.units) op_eqP (de_callB call_len len_P rfl (C.fre 0 "len" rfl) bo_len (da_cons (de_var 6) da_nil)) de_int) (de_pure (D_seconds C) (hr.mono (by decide)) (da_cons (de_ix ix_seq op_ixP (de_var 6) de_int) da_nil)) de_non))
  (dss_one (dst_ret (de_callB (call_max2 rfl) max2_P rfl (C.fre 1 "max" rfl) bo_max (da_cons (de_var 5) (da_cons (de_op op_sub op_subP (de_op or_add op_addP (de_if (dt_cmp op_isN1 op_isNP (de_var 7) de_non) de_int (de_var 7)) (de_var 2)) (de_var 1)) da_nil))))))))))⟩
theorem D_age (C : Fx K mg) : Fd P w K mg base 9 "age" F_age := by
  obtain ⟨fd, F⟩ := C.def_ 37 _ rfl
  exact ⟨(C.glo 48 "age" rfl), F.kp, fd, ["entry", "now"], (F.bindsN fun _ _ _ _ _ _ us hl => match us, hl with | [_, _], _ => rfl), fn_body F sc_age fun cdv A outer s H E hr => (dss_cons (dst_setP (de_var 0) (dg_t (dgs_cons 2 sc_age.nd (dgs_cons 3 sc_age.nd (dgs_cons 4 sc_age.nd (dgs_cons 5 sc_age.nd (dgs_cons 6 sc_age.nd dgs_nil)))))))
  (dss_one (dst_ret (de_op op_sub op_subP (de_op or_add op_addP (de_pure (D_age_when_come C) (hr.mono (by decide)) (da_cons (de_var 4) (da_cons (de_var 5) (da_cons (de_var 6) da_nil)))) (de_var 1)) (de_var 6)))))⟩
theorem D_directive (C : Fx K mg) : Fd P w K mg base 1 "directive" F_directive := by
  obtain ⟨fd, F⟩ := C.def_ 38 _ rfl
  exact ⟨(C.glo 42 "directive" rfl), F.kp, fd, ["directives", "name"], (F.bindsN fun _ _ _ _ _ _ us hl => match us, hl with | [_, _], _ => rfl), fn_body F sc_directive fun cdv A outer s H E hr => (dss_cons (dst_for (di_tup (de_var 0)) (dg_t (dgs_cons 2 sc_directive.nd (dgs_cons 3 sc_directive.nd dgs_nil))) (dss_one (dst_if (dt_cmp (or_eq hr.units) op_eqP (de_var 2) (de_var 1)) (dss_one (dst_ret (de_tup (da_cons de_bl (da_cons (de_var 3) da_nil))))) dss_nil)))
  (dss_one (dst_ret (de_tup (da_cons de_bl (da_cons de_non da_nil))))))⟩
theorem D_is_digit (C : Fx K mg) : Fd P w K mg base 1 "is_digit" F_is_digit := by
  obtain ⟨fd, F⟩ := C.def_ 39 _ rfl
  exact ⟨(C.glo 2 "is_digit" rfl), F.kp, fd, ["octet"], (F.bindsN fun _ _ _ _ _ _ us hl => match us, hl with | [_], _ => rfl), fn_body F sc_is_digit fun cdv A outer s H E hr => (dss_one (dst_ret (de_chain or_le op_leP or_le op_leP de_int (de_var 0) de_int)))⟩
theorem D_is_letter (C : Fx K mg) : Fd P w K mg base 1 "is_letter" F_is_letter := by
  obtain ⟨fd, F⟩ := C.def_ 40 _ rfl
  exact ⟨(C.glo 3 "is_letter" rfl), F.kp, fd, ["octet"], (F.bindsN fun _ _ _ _ _ _ us hl => match us, hl with | [_], _ => rfl), fn_body F sc_is_letter fun cdv A outer s H E hr => (dss_one (dst_ret (de_or (de_chain or_le op_leP or_le op_leP de_int (de_var 0) de_int) (de_one (de_chain or_le op_leP or_le op_leP de_int (de_var 0) de_int)))))⟩
theorem D_is_value_sign (C : Fx K mg) : Fd P w K mg base 1 "is_value_sign" F_is_value_sign := by
  obtain ⟨fd, F⟩ := C.def_ 41 _ rfl
  exact ⟨(C.glo 0 "is_value_sign" rfl), F.kp, fd, ["octet"], (F.bindsN fun _ _ _ _ _ _ us hl => match us, hl with | [_], _ => rfl), fn_body F sc_is_value_sign fun cdv A outer s H E hr => (dss_one (dst_ret (de_or (de_cmp (or_eq hr.units) op_eqP (de_var 0) (de_glob (C.con 3 "TAB" _ rfl) rfl)) (de_one (de_and (de_chain or_le op_leP or_le op_leP de_int (de_var 0) de_int) (de_one (de_cmp (or_ne hr.units) op_neP (de_var 0) (de_glob (C.con 2 "PERCENT" _ rfl) rfl))))))))⟩
theorem D_sign_of (C : Fx K mg) : Fd P w K mg base 1 "sign_of" F_sign_of := by
  obtain ⟨fd, F⟩ := C.def_ 42 _ rfl
  exact ⟨(C.glo 1 "sign_of" rfl), F.kp, fd, ["octet"], (F.bindsN fun _ _ _ _ _ _ us hl => match us, hl with | [_], _ => rfl), fn_body F sc_sign_of fun cdv A outer s H E hr => (dss_cons (dst_if (dt_cmp (or_eq hr.units) op_eqP (de_var 0) (de_glob (C.con 3 "TAB" _ rfl) rfl)) (dss_one (dst_ret de_str)) dss_nil)
  (dss_cons (dst_if (dt_cmp op_lt op_ltP (de_var 0) (de_glob (C.con 2 "PERCENT" _ rfl) rfl)) (dss_one (dst_ret (de_ix ix_seq op_ixP (de_glob (C.con 0 "SIGNS" _ rfl) rfl) (de_op op_sub op_subP (de_var 0) de_int)))) dss_nil)
  (dss_one (dst_ret (de_ix ix_seq op_ixP (de_glob (C.con 0 "SIGNS" _ rfl) rfl) (de_op op_sub op_subP (de_var 0) de_int))))))⟩
theorem D_is_token_sign (C : Fx K mg) : Fd P w K mg base 2 "is_token_sign" F_is_token_sign := by
  obtain ⟨fd, F⟩ := C.def_ 43 _ rfl
  exact ⟨(C.glo 4 "is_token_sign" rfl), F.kp, fd, ["octet"], (F.bindsN fun _ _ _ _ _ _ us hl => match us, hl with | [_], _ => rfl), fn_body F sc_is_token_sign fun cdv A outer s H E hr => (dss_cons (dst_if (dt_w (dw_or (dt_val (de_pure (D_is_digit C) (hr.mono (by decide)) (da_cons (de_var 0) da_nil))) (dw_or1 (dt_val (de_pure (D_is_letter C) (hr.mono (by decide)) (da_cons (de_var 0) da_nil)))))) (dss_one (dst_ret de_bl)) dss_nil)
  (dss_one (dst_ret (de_and (de_pure (D_is_value_sign C) (hr.mono (by decide)) (da_cons (de_var 0) da_nil)) (de_one (de_cmp (or_in (u65 hr)) op_inP (de_pure (D_sign_of C) (hr.mono (by decide)) (da_cons (de_var 0) da_nil)) (de_glob (C.con 1 "TOKEN_MARKS" _ rfl) rfl)))))))⟩
theorem D_is_token (C : Fx K mg) : Fd P w K mg base 3 "is_token" F_is_token := by
  obtain ⟨fd, F⟩ := C.def_ 44 _ rfl
  exact ⟨(C.glo 5 "is_token" rfl), F.kp, fd, ["text"], (F.bindsN fun _ _ _ _ _ _ us hl => match us, hl with | [_], _ => rfl), fn_body F sc_is_token fun cdv A outer s H E hr => (dss_cons (dst_if (dt_cmp (or_eq hr.units) op_eqP (de_var 0) de_str) (dss_one (dst_ret de_bl)) dss_nil)
  (dss_cons (dst_for (di_str (de_var 0)) (dg_n 1 sc_is_token.nd) (dss_one (dst_if (dt_not (dt_val (de_pure (D_is_token_sign C) (hr.mono (by decide)) (da_cons (de_callB call_ord ord_P rfl (C.fre 6 "ord" rfl) bo_ord (da_cons (de_var 1) da_nil)) da_nil)))) (dss_one (dst_ret de_bl)) dss_nil)))
  (dss_one (dst_ret de_bl))))⟩
theorem D_read_quoted (C : Fx K mg) : Fd P w K mg base 1 "read_quoted" F_read_quoted := by
  obtain ⟨fd, F⟩ := C.def_ 45 _ rfl
  exact ⟨(C.glo 10 "read_quoted" rfl), F.kp, fd, ["text"], (F.bindsN fun _ _ _ _ _ _ us hl => match us, hl with | [_], _ => rfl), fn_body F sc_read_quoted fun cdv A outer s H E hr => (dss_cons (dst_if (dt_w (dw_or (dt_cmp op_lt op_ltP (de_callB call_len len_P rfl (C.fre 0 "len" rfl) bo_len (da_cons (de_var 0) da_nil)) de_int) (dw_or (dt_cmp (or_ne hr.units) op_neP (de_ix ix_seq op_ixP (de_var 0) de_int) de_str) (dw_or1 (dt_cmp (or_ne hr.units) op_neP (de_ix ix_seq op_ixP (de_var 0) (de_un un_neg un_negP de_int)) de_str))))) (dss_one (dst_ret de_non)) dss_nil)
  (dss_cons (dst_set 1 sc_read_quoted.nd de_str)
  (dss_cons (dst_set 2 sc_read_quoted.nd de_int)
  (dss_cons (dst_while fuel (dt_cmp op_lt op_ltP (de_var 2) (de_op op_sub op_subP (de_callB call_len len_P rfl (C.fre 0 "len" rfl) bo_len (da_cons (de_var 0) da_nil)) de_int)) (dss_cons (dst_if (dt_cmp (or_eq hr.units) op_eqP (de_ix ix_seq op_ixP (de_var 0) (de_var 2)) de_str) (dss_one (dst_ret de_non)) dss_nil)
  (dss_cons (dst_if (dt_cmp (or_eq hr.units) op_eqP (de_ix ix_seq op_ixP (de_var 0) (de_var 2)) de_str) (dss_cons (dst_aug 2 or_iadd op_iaddP sc_read_quoted.nd de_int)
  (dss_one (dst_if (dt_cmp (or_eq hr.units) op_eqP (de_var 2) (de_op op_sub op_subP (de_callB call_len len_P rfl (C.fre 0 "len" rfl) bo_len (da_cons (de_var 0) da_nil)) de_int)) (dss_one (dst_ret de_non)) dss_nil))) dss_nil)
  (dss_cons (dst_aug 1 or_iadd op_iaddP sc_read_quoted.nd (de_ix ix_seq op_ixP (de_var 0) (de_var 2)))
  (dss_one (dst_aug 2 or_iadd op_iaddP sc_read_quoted.nd de_int))))))
  (dss_one (dst_ret (de_var 1)))))))⟩
theorem D_read_directive (C : Fx K mg) : Fd P w K mg base 4 "read_directive" F_read_directive := by
  obtain ⟨fd, F⟩ := C.def_ 46 _ rfl
  exact ⟨(C.glo 40 "read_directive" rfl), F.kp, fd, ["element"], (F.bindsN fun _ _ _ _ _ _ us hl => match us, hl with | [_], _ => rfl), fn_body F sc_read_directive fun cdv A outer s H E hr => (dss_cons (dst_set 1 sc_read_directive.nd (de_find (de_var 0) de_str))
  (dss_cons (dst_if (dt_cmp op_lt op_ltP (de_var 1) de_int) (dss_one (dst_ret (de_if (dt_val (de_pure (D_is_token C) (hr.mono (by decide)) (da_cons (de_var 0) da_nil))) (de_tup (da_cons (de_pure (D_lower C) (hr.mono (by decide)) (da_cons (de_var 0) da_nil)) (da_cons de_non da_nil))) de_non))) dss_nil)
  (dss_cons (dst_set 2 sc_read_directive.nd (de_slice or_sl sl_P (de_var 0) do_none (do_some (de_var 1))))
  (dss_cons (dst_set 3 sc_read_directive.nd (de_slice or_sl sl_P (de_var 0) (do_some (de_op or_add op_addP (de_var 1) de_int)) do_none))
  (dss_cons (dst_if (dt_not (dt_val (de_pure (D_is_token C) (hr.mono (by decide)) (da_cons (de_var 3) da_nil)))) (dss_one (dst_set 3 sc_read_directive.nd (de_pure (D_read_quoted C) (hr.mono (by decide)) (da_cons (de_var 3) da_nil)))) dss_nil)
  (dss_cons (dst_if (dt_w (dw_or (dt_cmp op_isN1 op_isNP (de_var 3) de_non) (dw_or1 (dt_not (dt_val (de_pure (D_is_token C) (hr.mono (by decide)) (da_cons (de_var 2) da_nil))))))) (dss_one (dst_ret de_non)) dss_nil)
  (dss_one (dst_ret (de_tup (da_cons (de_pure (D_lower C) (hr.mono (by decide)) (da_cons (de_var 2) da_nil)) (da_cons (de_var 3) da_nil)))))))))))⟩
theorem D_read_directives (C : Fx K mg) : Fd P w K mg base 5 "read_directives" F_read_directives := by
  obtain ⟨fd, F⟩ := C.def_ 47 _ rfl
  exact ⟨(C.glo 41 "read_directives" rfl), F.kp, fd, ["fields"], (F.bindsN fun _ _ _ _ _ _ us hl => match us, hl with | [_], _ => rfl), fn_body F sc_read_directives fun cdv A outer s H E hr => (dss_cons (dst_set 1 sc_read_directives.nd (de_pure (D_join_values C) (hr.mono (by decide)) (da_cons (de_var 0) (da_cons de_str da_nil))))
  (dss_cons (dst_if (dt_cmp op_isN1 op_isNP (de_var 1) de_non) (dss_one (dst_ret (de_tup da_nil))) dss_nil)
  (dss_cons (dst_set 2 sc_read_directives.nd (de_pure (D_split_list C) (hr.mono (by decide)) (da_cons (de_var 1) da_nil)))
  (dss_cons (dst_if (dt_cmp op_isN1 op_isNP (de_var 2) de_non) (dss_one (dst_ret (de_tup (da_cons (de_tup (da_cons de_str (da_cons de_non da_nil))) da_nil)))) dss_nil)
  (dss_cons (by first | exact dst_set 3 sc_read_directives.nd (de_frz (dl_lc [("element", 4)] sc_read_directives.nd (di_list (de_var 2)) (blkOk_by (own := [("element", 4)]) (N := N_read_directives) (sc := defScope (top 56)) (by decide +kernel)) (fun _ _ _ _ _ => (dg_n 4 sc_read_directives.nd)) (fun _ _ _ _ _ => dts_nil) (fun _ _ _ _ _ => (de_pure (D_read_directive C) (hr.mono (by decide)) (da_cons (de_var 4) da_nil))))) | exact dst_setLc 3 [("element", 4)] sc_read_directives.nd (di_list (de_var 2)) (blkOk_by (own := [("element", 4)]) (N := N_read_directives) (sc := defScope (top 56)) (by decide +kernel)) (fun _ _ _ _ _ => (dg_n 4 sc_read_directives.nd)) (fun _ _ _ _ _ => dts_nil) (fun _ _ _ _ _ => (de_pure (D_read_directive C) (hr.mono (by decide)) (da_cons (de_var 4) da_nil))))
  (dss_one (dst_ret (de_callTy call_tuple_of tup_P rfl (C.fre 8 "tuple" rfl) bo_tuple (da_cons (de_frz (dl_lc [("pair", 5)] sc_read_directives.nd (di_list (de_var 3)) (blkOk_by (own := [("pair", 5)]) (N := N_read_directives) (sc := defScope (top 56)) (by decide +kernel)) (fun _ _ _ _ _ => (dg_n 5 sc_read_directives.nd)) (fun _ _ _ _ _ => (dts_one (dt_cmp op_notN1 op_notNP (de_var 5) de_non))) (fun _ _ _ _ _ => (de_var 5)))) da_nil)))))))))⟩
theorem D_told_lifetime (C : Fx K mg) : Fd P w K mg base 8 "told_lifetime" F_told_lifetime := by
  obtain ⟨fd, F⟩ := C.def_ 48 _ rfl
  exact ⟨(C.glo 45 "told_lifetime" rfl), F.kp, fd, ["fields", "came"], (F.bindsN fun _ _ _ _ _ _ us hl => match us, hl with | [_, _], _ => rfl), fn_body F sc_told_lifetime fun cdv A outer s H E hr => (dss_cons (dst_set 2 sc_told_lifetime.nd (de_pure (D_date_of_field C) (hr.mono (by decide)) (da_cons (de_var 0) (da_cons de_str (da_cons (de_var 1) da_nil)))))
  (dss_cons (dst_set 3 sc_told_lifetime.nd (de_pure (D_date_of_field C) (hr.mono (by decide)) (da_cons (de_var 0) (da_cons de_str (da_cons (de_var 1) da_nil)))))
  (dss_cons (dst_if (dt_w (dw_or (dt_cmp op_isN1 op_isNP (de_var 2) de_non) (dw_or1 (dt_cmp op_isN1 op_isNP (de_var 3) de_non)))) (dss_one (dst_ret de_int)) dss_nil)
  (dss_one (dst_ret (de_callB (call_max2 rfl) max2_P rfl (C.fre 1 "max" rfl) bo_max (da_cons de_int (da_cons (de_op op_sub op_subP (de_var 3) (de_var 2)) da_nil))))))))⟩
theorem D_lifetime (C : Fx K mg) : Fd P w K mg base 9 "lifetime" F_lifetime := by
  obtain ⟨fd, F⟩ := C.def_ 49 _ rfl
  exact ⟨(C.glo 46 "lifetime" rfl), F.kp, fd, ["response", "came"], (F.bindsN fun _ _ _ _ _ _ us hl => match us, hl with | [_, _], _ => rfl), fn_body F sc_lifetime fun cdv A outer s H E hr => (dss_cons (dst_par 4 5 sc_lifetime.nd (da_cons (de_ix ix_seq op_ixP (de_var 0) de_int) (da_cons (de_ix ix_seq op_ixP (de_var 0) de_int) da_nil)))
  (dss_cons (dst_setP (de_pure (D_directive C) (hr.mono (by decide)) (da_cons (de_pure (D_read_directives C) (hr.mono (by decide)) (da_cons (de_var 5) da_nil)) (da_cons de_str da_nil))) (dg_t (dgs_cons 6 sc_lifetime.nd (dgs_cons 7 sc_lifetime.nd dgs_nil))))
  (dss_cons (dst_if (dt_val (de_var 6)) (dss_cons (dst_set 8 sc_lifetime.nd (de_pure (D_seconds C) (hr.mono (by decide)) (da_cons (de_var 7) da_nil)))
  (dss_one (dst_ret (de_if (dt_cmp op_isN1 op_isNP (de_var 8) de_non) de_int (de_var 8))))) dss_nil)
  (dss_cons (dst_if (dt_cmp (or_ne hr.units) op_neP (de_pure (D_values C) (hr.mono (by decide)) (da_cons (de_var 5) (da_cons de_str da_nil))) (de_frz (dl_lst da_nil))) (dss_one (dst_ret (de_pure (D_told_lifetime C) (hr.mono (by decide)) (da_cons (de_var 5) (da_cons (de_var 1) da_nil))))) dss_nil)
  (dss_cons (dst_set 2 sc_lifetime.nd (de_pure (D_date_of_field C) (hr.mono (by decide)) (da_cons (de_var 5) (da_cons de_str (da_cons (de_var 1) da_nil)))))
  (dss_cons (dst_set 3 sc_lifetime.nd (de_pure (D_date_of_field C) (hr.mono (by decide)) (da_cons (de_var 5) (da_cons de_str (da_cons (de_var 1) da_nil)))))
  (dss_cons (dst_if (dt_w (dw_or (dt_cmp (or_nin (u65 hr)) op_ninP (de_var 4) (de_glob (C.con 9 "LASTING" _ rfl) rfl)) (dw_or (dt_cmp op_isN1 op_isNP (de_var 2) de_non) (dw_or1 (dt_cmp op_isN1 op_isNP (de_var 3) de_non))))) (dss_one (dst_ret de_int)) dss_nil)
  (dss_one (dst_ret (de_callB (call_max2 rfl) max2_P rfl (C.fre 1 "max" rfl) bo_max (da_cons de_int (da_cons (de_op op_fdiv op_divP (de_op op_sub op_subP (de_var 2) (de_var 3)) de_int) da_nil))))))))))))⟩
end
end Ow
set_option Elab.async false
set_option linter.all false
set_option maxRecDepth 100000
set_option maxHeartbeats 4000000
namespace Ow
open PySem L2

section
variable {P : Program} {w : World} {K : PySem.W.Frag} {mg : Str → Option Value} {base : Heap}
theorem D__law_rule (C : Fx K mg) : Fd P w K mg base 6 "_law_rule" F__law_rule := by
  obtain ⟨fd, F⟩ := C.def_ 50 _ rfl
  exact ⟨(C.glo 73 "_law_rule" rfl), F.kp, fd, ["_law_fields", "_law_name"], (F.bindsN fun _ _ _ _ _ _ us hl => match us, hl with | [_, _], _ => rfl), fn_body F sc__law_rule fun cdv A outer s H E hr => (dss_one (dst_ret (de_pure (D_directive C) (hr.mono (by decide)) (da_cons (de_pure (D_read_directives C) (hr.mono (by decide)) (da_cons (de_var 0) da_nil)) (da_cons (de_var 1) da_nil)))))⟩
theorem D__law_limit (C : Fx K mg) : Fd P w K mg base 7 "_law_limit" F__law_limit := by
  obtain ⟨fd, F⟩ := C.def_ 51 _ rfl
  exact ⟨(C.glo 74 "_law_limit" rfl), F.kp, fd, ["_law_fields", "_law_name"], (F.bindsN fun _ _ _ _ _ _ us hl => match us, hl with | [_, _], _ => rfl), fn_body F sc__law_limit fun cdv A outer s H E hr => (dss_one (dst_ret (de_pure (D_seconds C) (hr.mono (by decide)) (da_cons (de_ix ix_seq op_ixP (de_pure (D__law_rule C) (hr.mono (by decide)) (da_cons (de_var 0) (da_cons (de_var 1) da_nil))) de_int) da_nil))))⟩
theorem D__law_usable (C : Fx K mg) : Fd P w K mg base 10 "_law_usable" F__law_usable := by
  obtain ⟨fd, F⟩ := C.def_ 52 _ rfl
  exact ⟨(C.glo 75 "_law_usable" rfl), F.kp, fd, ["_law_entry", "_law_request", "_law_now"], (F.bindsN fun _ _ _ _ _ _ us hl => match us, hl with | [_, _, _], _ => rfl), fn_body F sc__law_usable fun cdv A outer s H E hr => (dss_cons (dst_set 3 sc__law_usable.nd (de_ix ix_seq op_ixP (de_var 1) de_int))
  (dss_cons (dst_set 4 sc__law_usable.nd (de_ix ix_seq op_ixP (de_ix ix_seq op_ixP (de_var 0) de_int) de_int))
  (dss_cons (dst_set 5 sc__law_usable.nd (de_pure (D_age C) (hr.mono (by decide)) (da_cons (de_var 0) (da_cons (de_var 2) da_nil))))
  (dss_cons (dst_set 6 sc__law_usable.nd (de_pure (D_lifetime C) (hr.mono (by decide)) (da_cons (de_ix ix_seq op_ixP (de_var 0) de_int) (da_cons (de_ix ix_seq op_ixP (de_var 0) de_int) da_nil))))
  (dss_cons (dst_if (dt_w (dw_or (dt_val (de_ix ix_seq op_ixP (de_pure (D__law_rule C) (hr.mono (by decide)) (da_cons (de_var 3) (da_cons de_str da_nil))) de_int)) (dw_or1 (dt_val (de_ix ix_seq op_ixP (de_pure (D__law_rule C) (hr.mono (by decide)) (da_cons (de_var 4) (da_cons de_str da_nil))) de_int))))) (dss_one (dst_ret de_bl)) dss_nil)
  (dss_cons (dst_set 7 sc__law_usable.nd (de_pure (D__law_limit C) (hr.mono (by decide)) (da_cons (de_var 3) (da_cons de_str da_nil))))
  (dss_cons (dst_if (dt_w (dw_and (dt_cmp op_notN1 op_notNP (de_var 7) de_non) (dw_and1 (dt_cmp (or_gt hr) op_gtP (de_var 5) (de_var 7))))) (dss_one (dst_ret de_bl)) dss_nil)
  (dss_cons (dst_set 8 sc__law_usable.nd (de_pure (D__law_limit C) (hr.mono (by decide)) (da_cons (de_var 3) (da_cons de_str da_nil))))
  (dss_cons (dst_if (dt_w (dw_and (dt_cmp op_notN1 op_notNP (de_var 8) de_non) (dw_and1 (dt_not (dt_cmp op_lt op_ltP (de_op or_add op_addP (de_var 5) (de_var 8)) (de_var 6)))))) (dss_one (dst_ret de_bl)) dss_nil)
  (dss_cons (dst_if (dt_cmp (or_gt hr) op_gtP (de_var 6) (de_var 5)) (dss_one (dst_ret de_bl)) dss_nil)
  (dss_cons (dst_setP (de_pure (D__law_rule C) (hr.mono (by decide)) (da_cons (de_var 3) (da_cons de_str da_nil))) (dg_t (dgs_cons 10 sc__law_usable.nd (dgs_cons 11 sc__law_usable.nd dgs_nil))))
  (dss_cons (dst_if (dt_w (dw_or (dt_not (dt_val (de_var 10))) (dw_or (dt_cmp op_notN1 op_notNP (de_var 8) de_non) (dw_or1 (dt_val (de_ix ix_seq op_ixP (de_pure (D__law_rule C) (hr.mono (by decide)) (da_cons (de_var 4) (da_cons de_str da_nil))) de_int)))))) (dss_one (dst_ret de_bl)) dss_nil)
  (dss_cons (dst_if (dt_cmp op_isN1 op_isNP (de_var 11) de_non) (dss_one (dst_ret de_bl)) dss_nil)
  (dss_cons (dst_set 9 sc__law_usable.nd (de_pure (D_seconds C) (hr.mono (by decide)) (da_cons (de_var 11) da_nil)))
  (dss_one (dst_ret (de_and (de_cmp op_notN1 op_notNP (de_var 9) de_non) (de_one (de_cmp or_le op_leP (de_op op_sub op_subP (de_var 5) (de_var 6)) (de_var 9))))))))))))))))))))⟩
theorem D_read_tag (C : Fx K mg) : Fd P w K mg base 1 "read_tag" F_read_tag := by
  obtain ⟨fd, F⟩ := C.def_ 53 _ rfl
  exact ⟨(C.glo 29 "read_tag" rfl), F.kp, fd, ["text"], (F.bindsN fun _ _ _ _ _ _ us hl => match us, hl with | [_], _ => rfl), fn_body F sc_read_tag fun cdv A outer s H E hr => (dss_cons (dst_set 1 sc_read_tag.nd (de_cmp (or_eq hr.units) op_eqP (de_slice or_sl sl_P (de_var 0) do_none (do_some de_int)) de_str))
  (dss_cons (dst_set 2 sc_read_tag.nd (de_if (dt_val (de_var 1)) (de_slice or_sl sl_P (de_var 0) (do_some de_int) do_none) (de_var 0)))
  (dss_cons (dst_if (dt_w (dw_or (dt_cmp op_lt op_ltP (de_callB call_len len_P rfl (C.fre 0 "len" rfl) bo_len (da_cons (de_var 2) da_nil)) de_int) (dw_or (dt_cmp (or_ne hr.units) op_neP (de_ix ix_seq op_ixP (de_var 2) de_int) de_str) (dw_or1 (dt_cmp (or_ne hr.units) op_neP (de_ix ix_seq op_ixP (de_var 2) (de_un un_neg un_negP de_int)) de_str))))) (dss_one (dst_ret de_non)) dss_nil)
  (dss_cons (dst_for (di_str (de_slice or_sl sl_P (de_var 2) (do_some de_int) (do_some (de_un un_neg un_negP de_int)))) (dg_n 3 sc_read_tag.nd) (dss_one (dst_if (dt_w (dw_or (dt_not (dt_chain or_le op_leP or_le op_leP de_str (de_var 3) de_str)) (dw_or (dt_cmp (or_eq hr.units) op_eqP (de_var 3) de_str) (dw_or1 (dt_cmp (or_eq hr.units) op_eqP (de_var 3) de_str))))) (dss_one (dst_ret de_non)) dss_nil)))
  (dss_one (dst_ret (de_tup (da_cons (de_var 1) (da_cons (de_slice or_sl sl_P (de_var 2) (do_some de_int) (do_some (de_un un_neg un_negP de_int))) da_nil)))))))))⟩
theorem D__law_tag (C : Fx K mg) : Fd P w K mg base 2 "_law_tag" F__law_tag := by
  obtain ⟨fd, F⟩ := C.def_ 54 _ rfl
  exact ⟨(C.glo 76 "_law_tag" rfl), F.kp, fd, ["_law_response_here"], (F.bindsN fun _ _ _ _ _ _ us hl => match us, hl with | [_], _ => rfl), fn_body F sc__law_tag fun cdv A outer s H E hr => (dss_cons (by first | exact dst_set 1 sc__law_tag.nd (de_frz (dl_lc [("_law_key", 2), ("_law_value", 3)] sc__law_tag.nd (di_tup (de_ix ix_seq op_ixP (de_var 0) de_int)) (blkOk_by (own := [("_law_key", 2), ("_law_value", 3)]) (N := N__law_tag) (sc := defScope (top 107)) (by decide +kernel)) (fun _ _ _ _ _ => (dg_t (dgs_cons 2 sc__law_tag.nd (dgs_cons 3 sc__law_tag.nd dgs_nil)))) (fun _ _ _ _ _ => (dts_one (dt_cmp (or_eq hr.units) op_eqP (de_var 2) de_str))) (fun _ _ _ _ _ => (de_var 3)))) | exact dst_setLc 1 [("_law_key", 2), ("_law_value", 3)] sc__law_tag.nd (di_tup (de_ix ix_seq op_ixP (de_var 0) de_int)) (blkOk_by (own := [("_law_key", 2), ("_law_value", 3)]) (N := N__law_tag) (sc := defScope (top 107)) (by decide +kernel)) (fun _ _ _ _ _ => (dg_t (dgs_cons 2 sc__law_tag.nd (dgs_cons 3 sc__law_tag.nd dgs_nil)))) (fun _ _ _ _ _ => (dts_one (dt_cmp (or_eq hr.units) op_eqP (de_var 2) de_str))) (fun _ _ _ _ _ => (de_var 3)))
  (dss_one (dst_ret (de_if (dt_cmp (or_eq hr.units) op_eqP (de_callB call_len len_P rfl (C.fre 0 "len" rfl) bo_len (da_cons (de_var 1) da_nil)) de_int) (de_pure (D_read_tag C) (hr.mono (by decide)) (da_cons (de_ix ix_seq op_ixP (de_var 1) de_int) da_nil)) de_non))))⟩
theorem D__law_modified (C : Fx K mg) : Fd P w K mg base 7 "_law_modified" F__law_modified := by
  obtain ⟨fd, F⟩ := C.def_ 55 _ rfl
  exact ⟨(C.glo 77 "_law_modified" rfl), F.kp, fd, ["_law_response_here", "_law_came"], (F.bindsN fun _ _ _ _ _ _ us hl => match us, hl with | [_, _], _ => rfl), fn_body F sc__law_modified fun cdv A outer s H E hr => (dss_cons (by first | exact dst_set 2 sc__law_modified.nd (de_frz (dl_lc [("_law_key", 3), ("_law_value", 4)] sc__law_modified.nd (di_tup (de_ix ix_seq op_ixP (de_var 0) de_int)) (blkOk_by (own := [("_law_key", 3), ("_law_value", 4)]) (N := N__law_modified) (sc := defScope (top 108)) (by decide +kernel)) (fun _ _ _ _ _ => (dg_t (dgs_cons 3 sc__law_modified.nd (dgs_cons 4 sc__law_modified.nd dgs_nil)))) (fun _ _ _ _ _ => (dts_one (dt_cmp (or_eq hr.units) op_eqP (de_var 3) de_str))) (fun _ _ _ _ _ => (de_var 4)))) | exact dst_setLc 2 [("_law_key", 3), ("_law_value", 4)] sc__law_modified.nd (di_tup (de_ix ix_seq op_ixP (de_var 0) de_int)) (blkOk_by (own := [("_law_key", 3), ("_law_value", 4)]) (N := N__law_modified) (sc := defScope (top 108)) (by decide +kernel)) (fun _ _ _ _ _ => (dg_t (dgs_cons 3 sc__law_modified.nd (dgs_cons 4 sc__law_modified.nd dgs_nil)))) (fun _ _ _ _ _ => (dts_one (dt_cmp (or_eq hr.units) op_eqP (de_var 3) de_str))) (fun _ _ _ _ _ => (de_var 4)))
  (dss_one (dst_ret (de_if (dt_cmp (or_eq hr.units) op_eqP (de_callB call_len len_P rfl (C.fre 0 "len" rfl) bo_len (da_cons (de_var 2) da_nil)) de_int) (de_pure (D_read_date C) (hr.mono (by decide)) (da_cons (de_ix ix_seq op_ixP (de_var 2) de_int) (da_cons (de_var 1) da_nil))) de_non))))⟩
theorem D__law_plan (C : Fx K mg) : Fd P w K mg base 11 "_law_plan" F__law_plan := by
  obtain ⟨fd, F⟩ := C.def_ 56 _ rfl
  exact ⟨(C.glo 81 "_law_plan" rfl), F.kp, fd, ["_law_state", "_law_request", "_law_now"], (F.bindsN fun _ _ _ _ _ _ us hl => match us, hl with | [_, _, _], _ => rfl), fn_body F sc__law_plan fun cdv A outer s H E hr => (dss_cons (dst_set 3 sc__law_plan.nd (de_frz (dl_lst (da_cons de_str (da_cons de_str (da_cons de_str (da_cons de_str da_nil)))))))
  (dss_cons (dst_if (dt_w (dw_or (dt_cmp (or_ne hr.units) op_neP (de_ix ix_seq op_ixP (de_var 1) de_int) de_str) (dw_or (dt_val (de_pure (D__law_has C) (hr.mono (by decide)) (da_cons (de_var 1) (da_cons (de_var 3) da_nil)))) (dw_or1 (dt_val (de_ix ix_seq op_ixP (de_pure (D__law_rule C) (hr.mono (by decide)) (da_cons (de_ix ix_seq op_ixP (de_var 1) de_int) (da_cons de_str da_nil))) de_int)))))) (dss_one (dst_ret (de_tup (da_cons de_str da_nil)))) dss_nil)
  (dss_cons (dst_set 4 sc__law_plan.nd (de_one' (D__law_find C) (hr.mono (by decide)) (da_cons (de_var 0) (da_cons (de_var 1) da_nil))))
  (dss_cons (dst_if (dt_w (dw_and (dt_cmp op_notN1 op_notNP (de_var 4) de_non) (dw_and1 (dt_val (de_pure (D__law_usable C) (hr.mono (by decide)) (da_cons (de_var 4) (da_cons (de_var 1) (da_cons (de_var 2) da_nil)))))))) (dss_one (dst_ret (de_tup (da_cons de_str (da_cons (de_var 4) da_nil))))) dss_nil)
  (dss_cons (dst_if (dt_val (de_ix ix_seq op_ixP (de_pure (D__law_rule C) (hr.mono (by decide)) (da_cons (de_ix ix_seq op_ixP (de_var 1) de_int) (da_cons de_str da_nil))) de_int)) (dss_one (dst_ret (de_tup (da_cons de_str da_nil)))) dss_nil)
  (dss_cons (dst_if (dt_w (dw_and (dt_cmp op_notN1 op_notNP (de_var 4) de_non) (dw_and1 (dt_not (dt_val (de_pure (D__law_has C) (hr.mono (by decide)) (da_cons (de_var 1) (da_cons (de_frz (dl_lst (da_cons de_str (da_cons de_str da_nil)))) da_nil)))))))) (dss_cons (dst_set 5 sc__law_plan.nd (de_ix ix_seq op_ixP (de_ix ix_seq op_ixP (de_var 4) de_int) de_int))
  (dss_cons (dst_if (dt_cmp op_notN1 op_notNP (de_pure (D__law_tag C) (hr.mono (by decide)) (da_cons (de_ix ix_seq op_ixP (de_var 4) de_int) da_nil)) de_non) (dss_one (dst_ret (de_tup (da_cons de_str (da_cons (de_var 4) (da_cons (de_tup (da_cons de_str (da_cons (de_ix ix_seq op_ixP (de_frz (dl_lc [("_law_key", 7), ("_law_value", 6)] sc__law_plan.nd (di_tup (de_var 5)) (blkOk_by (own := [("_law_key", 7), ("_law_value", 6)]) (N := N__law_plan) (sc := defScope (top 112)) (by decide +kernel)) (fun _ _ _ _ _ => (dg_t (dgs_cons 7 sc__law_plan.nd (dgs_cons 6 sc__law_plan.nd dgs_nil)))) (fun _ _ _ _ _ => (dts_one (dt_cmp (or_eq hr.units) op_eqP (de_var 7) de_str))) (fun _ _ _ _ _ => (de_var 6)))) de_int) da_nil))) da_nil)))))) dss_nil)
  (dss_one (dst_if (dt_cmp op_notN1 op_notNP (de_pure (D__law_modified C) (hr.mono (by decide)) (da_cons (de_ix ix_seq op_ixP (de_var 4) de_int) (da_cons (de_ix ix_seq op_ixP (de_var 4) de_int) da_nil))) de_non) (dss_cons (dst_set 6 sc__law_plan.nd (de_ix ix_seq op_ixP (de_frz (dl_lc [("_law_key", 7), ("_law_value", 6)] sc__law_plan.nd (di_tup (de_var 5)) (blkOk_by (own := [("_law_key", 7), ("_law_value", 6)]) (N := N__law_plan) (sc := defScope (top 112)) (by decide +kernel)) (fun _ _ _ _ _ => (dg_t (dgs_cons 7 sc__law_plan.nd (dgs_cons 6 sc__law_plan.nd dgs_nil)))) (fun _ _ _ _ _ => (dts_one (dt_cmp (or_eq hr.units) op_eqP (de_var 7) de_str))) (fun _ _ _ _ _ => (de_var 6)))) de_int))
  (dss_one (dst_ret (de_tup (da_cons de_str (da_cons (de_var 4) (da_cons (de_tup (da_cons de_str (da_cons (de_var 6) da_nil))) da_nil))))))) dss_nil)))) dss_nil)
  (dss_one (dst_ret (de_tup (da_cons de_str (da_cons (de_var 4) da_nil)))))))))))⟩
theorem D__law_sent (C : Fx K mg) : Fd P w K mg base 1 "_law_sent" F__law_sent := by
  obtain ⟨fd, F⟩ := C.def_ 57 _ rfl
  exact ⟨(C.glo 82 "_law_sent" rfl), F.kp, fd, ["_law_plan_here", "_law_request"], (F.bindsN fun _ _ _ _ _ _ us hl => match us, hl with | [_, _], _ => rfl), fn_body F sc__law_sent fun cdv A outer s H E hr => (dss_cons (dst_if (dt_cmp (or_in (u65 hr)) op_inP (de_ix ix_seq op_ixP (de_var 0) de_int) (de_frz (dl_lst (da_cons de_str (da_cons de_str da_nil))))) (dss_one (dst_ret de_non)) dss_nil)
  (dss_cons (dst_if (dt_cmp (or_eq hr.units) op_eqP (de_ix ix_seq op_ixP (de_var 0) de_int) de_str) (dss_one (dst_ret (de_tup (da_cons (de_ix ix_seq op_ixP (de_var 1) de_int) (da_cons (de_ix ix_seq op_ixP (de_var 1) de_int) (da_cons (de_op or_add op_addP (de_ix ix_seq op_ixP (de_var 1) de_int) (de_tup (da_cons (de_ix ix_seq op_ixP (de_var 0) de_int) da_nil))) (da_cons (de_ix ix_seq op_ixP (de_var 1) de_int) (da_cons (de_ix ix_seq op_ixP (de_var 1) de_int) da_nil)))))))) dss_nil)
  (dss_one (dst_ret (de_var 1)))))⟩
theorem D_without (C : Fx K mg) : Fd P w K mg base 1 "without" F_without := by
  obtain ⟨fd, F⟩ := C.def_ 58 _ rfl
  exact ⟨(C.glo 9 "without" rfl), F.kp, fd, ["fields", "names"], (F.bindsN fun _ _ _ _ _ _ us hl => match us, hl with | [_, _], _ => rfl), fn_body F sc_without fun cdv A outer s H E hr => (dss_one (dst_ret (de_callTy call_tuple_of tup_P rfl (C.fre 8 "tuple" rfl) bo_tuple (da_cons (de_frz (dl_lc [("field", 2)] sc_without.nd (di_tup (de_var 0)) (blkOk_by (own := [("field", 2)]) (N := N_without) (sc := defScope (top 14)) (by decide +kernel)) (fun _ _ _ _ _ => (dg_n 2 sc_without.nd)) (fun _ _ _ _ _ => (dts_one (dt_cmp (or_nin (u65 hr)) op_ninP (de_ix ix_seq op_ixP (de_var 2) de_int) (de_var 1)))) (fun _ _ _ _ _ => (de_var 2)))) da_nil))))⟩
theorem D_freshened (C : Fx K mg) : Fd P w K mg base 2 "freshened" F_freshened := by
  obtain ⟨fd, F⟩ := C.def_ 59 _ rfl
  exact ⟨(C.glo 56 "freshened" rfl), F.kp, fd, ["entry", "response", "asked", "came"], (F.bindsN fun _ _ _ _ _ _ us hl => match us, hl with | [_, _, _, _], _ => rfl), fn_body F sc_freshened fun cdv A outer s H E hr => (dss_cons (dst_set 4 sc_freshened.nd (de_ix ix_seq op_ixP (de_var 0) de_int))
  (dss_cons (dst_set 5 sc_freshened.nd (de_pure (D_without C) (hr.mono (by decide)) (da_cons (de_ix ix_seq op_ixP (de_var 1) de_int) (da_cons (de_glob (C.con 11 "STAYING" _ rfl) rfl) da_nil))))
  (dss_cons (dst_set 6 sc_freshened.nd (de_pure (D_without C) (hr.mono (by decide)) (da_cons (de_ix ix_seq op_ixP (de_var 4) de_int) (da_cons (de_frz (dl_lc [("name", 7), ("value", 8)] sc_freshened.nd (di_tup (de_var 5)) (blkOk_by (own := [("name", 7), ("value", 8)]) (N := N_freshened) (sc := defScope (top 77)) (by decide +kernel)) (fun _ _ _ _ _ => (dg_t (dgs_cons 7 sc_freshened.nd (dgs_cons 8 sc_freshened.nd dgs_nil)))) (fun _ _ _ _ _ => dts_nil) (fun _ _ _ _ _ => (de_var 7)))) da_nil))))
  (dss_one (dst_ret (de_tup (da_cons (de_ix ix_seq op_ixP (de_var 0) de_int) (da_cons (de_ix ix_seq op_ixP (de_var 0) de_int) (da_cons (de_tup (da_cons (de_ix ix_seq op_ixP (de_var 4) de_int) (da_cons (de_op or_add op_addP (de_var 6) (de_var 5)) (da_cons (de_ix ix_seq op_ixP (de_var 4) de_int) (da_cons (de_ix ix_seq op_ixP (de_var 4) de_int) da_nil))))) (da_cons (de_var 2) (da_cons (de_var 3) da_nil)))))))))))⟩
theorem D__law_put (C : Fx K mg) : Fd P w K mg base 5 "_law_put" F__law_put := by
  obtain ⟨fd, F⟩ := C.def_ 60 _ rfl
  exact ⟨(C.glo 70 "_law_put" rfl), F.kp, fd, ["_law_state", "_law_entry"], (F.bindsN fun _ _ _ _ _ _ us hl => match us, hl with | [_, _], _ => rfl), fn_body F sc__law_put fun cdv A outer s H E hr => (dss_cons (dst_set 2 sc__law_put.nd (de_tup (da_cons de_str (da_cons (de_ix ix_seq op_ixP (de_var 1) de_int) (da_cons (de_ix ix_seq op_ixP (de_var 1) de_int) (da_cons (de_tup da_nil) (da_cons (de_tup da_nil) da_nil)))))))
  (dss_cons (dst_dset (u1 hr) (de_var 0) (de_frz (dl_lc [("_law_row", 3)] sc__law_put.nd (di_list (de_dget (u1 hr) (de_var 0))) (blkOk_by (own := [("_law_row", 3)]) (N := N__law_put) (sc := defScope (top 101)) (by decide +kernel)) (fun _ _ _ _ _ => (dg_n 3 sc__law_put.nd)) (fun _ _ _ _ _ => (dts_one (dt_not (dt_val (de_pure (D_fits C) (hr.mono (by decide)) (da_cons (de_ix ix_seq op_ixP (de_var 3) de_int) (da_cons (de_var 2) da_nil))))))) (fun _ _ _ _ _ => (de_var 3)))))
  (dss_cons (dst_dset (u1 hr) (de_var 0) (de_op or_add op_addP (de_dget (u1 hr) (de_var 0)) de_int))
  (dss_cons (dst_dset (u1 hr) (de_var 0) (de_op or_add op_addP (de_dget (u1 hr) (de_var 0)) (de_frz (dl_lst (da_cons (de_tup (da_cons (de_dget (u1 hr) (de_var 0)) (da_cons (de_var 1) da_nil))) da_nil)))))
  (dss_one (dst_if (dt_cmp (or_gt hr) op_gtP (de_callB call_len len_P rfl (C.fre 0 "len" rfl) bo_len (da_cons (de_dget (u1 hr) (de_var 0)) da_nil)) (de_dget (u1 hr) (de_var 0))) (dss_one (dst_dset (u1 hr) (de_var 0) (de_slice or_sl sl_P (de_dget (u1 hr) (de_var 0)) (do_some de_int) do_none))) dss_nil))))))⟩
theorem D__law_same_tag (C : Fx K mg) : Fd P w K mg base 3 "_law_same_tag" F__law_same_tag := by
  obtain ⟨fd, F⟩ := C.def_ 61 _ rfl
  exact ⟨(C.glo 80 "_law_same_tag" rfl), F.kp, fd, ["_law_entry", "_law_response_here"], (F.bindsN fun _ _ _ _ _ _ us hl => match us, hl with | [_, _], _ => rfl), fn_body F sc__law_same_tag fun cdv A outer s H E hr => (dss_cons (dst_set 2 sc__law_same_tag.nd (de_pure (D__law_tag C) (hr.mono (by decide)) (da_cons (de_ix ix_seq op_ixP (de_var 0) de_int) da_nil)))
  (dss_cons (dst_set 3 sc__law_same_tag.nd (de_pure (D__law_tag C) (hr.mono (by decide)) (da_cons (de_var 1) da_nil)))
  (dss_one (dst_ret (de_and (de_cmp op_notN1 op_notNP (de_var 2) de_non) (de_and (de_cmp op_notN1 op_notNP (de_var 3) de_non) (de_and (de_not (de_ix ix_seq op_ixP (de_var 2) de_int)) (de_and (de_not (de_ix ix_seq op_ixP (de_var 3) de_int)) (de_one (de_cmp (or_eq hr.units) op_eqP (de_ix ix_seq op_ixP (de_var 2) de_int) (de_ix ix_seq op_ixP (de_var 3) de_int)))))))))))⟩
theorem D_tag_value (C : Fx K mg) : Fd P w K mg base 2 "tag_value" F_tag_value := by
  obtain ⟨fd, F⟩ := C.def_ 62 _ rfl
  exact ⟨(C.glo 53 "tag_value" rfl), F.kp, fd, ["response"], (F.bindsN fun _ _ _ _ _ _ us hl => match us, hl with | [_], _ => rfl), fn_body F sc_tag_value fun cdv A outer s H E hr => (dss_cons (dst_set 1 sc_tag_value.nd (de_pure (D_values C) (hr.mono (by decide)) (da_cons (de_ix ix_seq op_ixP (de_var 0) de_int) (da_cons de_str da_nil))))
  (dss_cons (dst_if (dt_cmp (or_ne hr.units) op_neP (de_callB call_len len_P rfl (C.fre 0 "len" rfl) bo_len (da_cons (de_var 1) da_nil)) de_int) (dss_one (dst_ret de_non)) dss_nil)
  (dss_one (dst_ret (de_pure (D_read_tag C) (hr.mono (by decide)) (da_cons (de_ix ix_seq op_ixP (de_var 1) de_int) da_nil))))))⟩
theorem D_modified_value (C : Fx K mg) : Fd P w K mg base 8 "modified_value" F_modified_value := by
  obtain ⟨fd, F⟩ := C.def_ 63 _ rfl
  exact ⟨(C.glo 54 "modified_value" rfl), F.kp, fd, ["response", "came"], (F.bindsN fun _ _ _ _ _ _ us hl => match us, hl with | [_, _], _ => rfl), fn_body F sc_modified_value fun cdv A outer s H E hr => (dss_one (dst_ret (de_pure (D_date_of_field C) (hr.mono (by decide)) (da_cons (de_ix ix_seq op_ixP (de_var 0) de_int) (da_cons de_str (da_cons (de_var 1) da_nil))))))⟩
theorem D_may_keep (C : Fx K mg) : Fd P w K mg base 10 "may_keep" F_may_keep := by
  obtain ⟨fd, F⟩ := C.def_ 64 _ rfl
  exact ⟨(C.glo 55 "may_keep" rfl), F.kp, fd, ["request", "response", "came"], (F.bindsN fun _ _ _ _ _ _ us hl => match us, hl with | [_, _, _], _ => rfl), fn_body F sc_may_keep fun cdv A outer s H E hr => (dss_cons (dst_if (dt_w (dw_or (dt_cmp (or_ne hr.units) op_neP (de_ix ix_seq op_ixP (de_var 0) de_int) de_str) (dw_or (dt_cmp (or_ne hr.units) op_neP (de_pure (D_values C) (hr.mono (by decide)) (da_cons (de_ix ix_seq op_ixP (de_var 0) de_int) (da_cons de_str da_nil))) (de_frz (dl_lst da_nil))) (dw_or1 (dt_cmp (or_nin (u65 hr)) op_ninP (de_ix ix_seq op_ixP (de_var 1) de_int) (de_glob (C.con 10 "KEPT" _ rfl) rfl)))))) (dss_one (dst_ret de_bl)) dss_nil)
  (dss_cons (dst_for (di_tup (de_tup (da_cons (de_ix ix_seq op_ixP (de_var 0) de_int) (da_cons (de_ix ix_seq op_ixP (de_var 1) de_int) da_nil)))) (dg_n 3 sc_may_keep.nd) (dss_one (dst_if (dt_val (de_ix ix_seq op_ixP (de_pure (D_directive C) (hr.mono (by decide)) (da_cons (de_pure (D_read_directives C) (hr.mono (by decide)) (da_cons (de_var 3) da_nil)) (da_cons de_str da_nil))) de_int)) (dss_one (dst_ret de_bl)) dss_nil)))
  (dss_cons (dst_if (dt_cmp (or_in (u65 hr)) op_inP de_str (de_pure (D_vary_names C) (hr.mono (by decide)) (da_cons (de_var 1) da_nil))) (dss_one (dst_ret de_bl)) dss_nil)
  (dss_cons (dst_set 4 sc_may_keep.nd (de_or (de_cmp op_notN1 op_notNP (de_pure (D_tag_value C) (hr.mono (by decide)) (da_cons (de_var 1) da_nil)) de_non) (de_one (de_cmp op_notN1 op_notNP (de_pure (D_modified_value C) (hr.mono (by decide)) (da_cons (de_var 1) (da_cons (de_var 2) da_nil))) de_non))))
  (dss_one (dst_ret (de_or (de_var 4) (de_one (de_cmp (or_gt hr) op_gtP (de_pure (D_lifetime C) (hr.mono (by decide)) (da_cons (de_var 1) (da_cons (de_var 2) da_nil))) de_int)))))))))⟩
theorem D_date_value (C : Fx K mg) : Fd P w K mg base 7 "date_value" F_date_value := by
  obtain ⟨fd, F⟩ := C.def_ 65 _ rfl
  exact ⟨(C.glo 33 "date_value" rfl), F.kp, fd, ["fields", "name", "now"], (F.bindsN fun _ _ _ _ _ _ us hl => match us, hl with | [_, _, _], _ => rfl), fn_body F sc_date_value fun cdv A outer s H E hr => (dss_cons (dst_set 3 sc_date_value.nd (de_pure (D_join_values C) (hr.mono (by decide)) (da_cons (de_var 0) (da_cons (de_var 1) da_nil))))
  (dss_cons (dst_if (dt_cmp op_isN1 op_isNP (de_var 3) de_non) (dss_one (dst_ret de_non)) dss_nil)
  (dss_one (dst_ret (de_pure (D_read_date C) (hr.mono (by decide)) (da_cons (de_var 3) (da_cons (de_var 2) da_nil)))))))⟩
theorem D_read_tags (C : Fx K mg) : Fd P w K mg base 3 "read_tags" F_read_tags := by
  obtain ⟨fd, F⟩ := C.def_ 66 _ rfl
  exact ⟨(C.glo 30 "read_tags" rfl), F.kp, fd, ["value"], (F.bindsN fun _ _ _ _ _ _ us hl => match us, hl with | [_], _ => rfl), fn_body F sc_read_tags fun cdv A outer s H E hr => (dss_cons (dst_if (dt_cmp (or_eq hr.units) op_eqP (de_pure (D_trimmed C) (hr.mono (by decide)) (da_cons (de_var 0) da_nil)) de_str) (dss_one (dst_ret de_str)) dss_nil)
  (dss_cons (dst_set 1 sc_read_tags.nd (de_pure (D_split_list C) (hr.mono (by decide)) (da_cons (de_var 0) da_nil)))
  (dss_cons (dst_if (dt_w (dw_or (dt_cmp op_isN1 op_isNP (de_var 1) de_non) (dw_or1 (dt_cmp (or_eq hr.units) op_eqP (de_var 1) (de_frz (dl_lst da_nil)))))) (dss_one (dst_ret de_non)) dss_nil)
  (dss_cons (by first | exact dst_set 2 sc_read_tags.nd (de_frz (dl_lc [("element", 3)] sc_read_tags.nd (di_list (de_var 1)) (blkOk_by (own := [("element", 3)]) (N := N_read_tags) (sc := defScope (top 42)) (by decide +kernel)) (fun _ _ _ _ _ => (dg_n 3 sc_read_tags.nd)) (fun _ _ _ _ _ => dts_nil) (fun _ _ _ _ _ => (de_pure (D_read_tag C) (hr.mono (by decide)) (da_cons (de_var 3) da_nil))))) | exact dst_setLc 2 [("element", 3)] sc_read_tags.nd (di_list (de_var 1)) (blkOk_by (own := [("element", 3)]) (N := N_read_tags) (sc := defScope (top 42)) (by decide +kernel)) (fun _ _ _ _ _ => (dg_n 3 sc_read_tags.nd)) (fun _ _ _ _ _ => dts_nil) (fun _ _ _ _ _ => (de_pure (D_read_tag C) (hr.mono (by decide)) (da_cons (de_var 3) da_nil))))
  (dss_cons (dst_if (dt_cmp (or_in (u65 hr)) op_inP de_non (de_var 2)) (dss_one (dst_ret de_non)) dss_nil)
  (dss_one (dst_ret (de_var 2))))))))⟩
theorem D_tags_of (C : Fx K mg) : Fd P w K mg base 4 "tags_of" F_tags_of := by
  obtain ⟨fd, F⟩ := C.def_ 67 _ rfl
  exact ⟨(C.glo 35 "tags_of" rfl), F.kp, fd, ["fields", "name"], (F.bindsN fun _ _ _ _ _ _ us hl => match us, hl with | [_, _], _ => rfl), fn_body F sc_tags_of fun cdv A outer s H E hr => (dss_cons (dst_set 2 sc_tags_of.nd (de_pure (D_join_values C) (hr.mono (by decide)) (da_cons (de_var 0) (da_cons (de_var 1) da_nil))))
  (dss_cons (dst_if (dt_cmp op_isN1 op_isNP (de_var 2) de_non) (dss_one (dst_ret de_non)) dss_nil)
  (dss_one (dst_ret (de_pure (D_read_tags C) (hr.mono (by decide)) (da_cons (de_var 2) da_nil))))))⟩
theorem D_strong_match (C : Fx K mg) : Fd P w K mg base 1 "strong_match" F_strong_match := by
  obtain ⟨fd, F⟩ := C.def_ 68 _ rfl
  exact ⟨(C.glo 31 "strong_match" rfl), F.kp, fd, ["a", "b"], (F.bindsN fun _ _ _ _ _ _ us hl => match us, hl with | [_, _], _ => rfl), fn_body F sc_strong_match fun cdv A outer s H E hr => (dss_one (dst_ret (de_and (de_not (de_ix ix_seq op_ixP (de_var 0) de_int)) (de_and (de_not (de_ix ix_seq op_ixP (de_var 1) de_int)) (de_one (de_cmp (or_eq hr.units) op_eqP (de_ix ix_seq op_ixP (de_var 0) de_int) (de_ix ix_seq op_ixP (de_var 1) de_int)))))))⟩
theorem D_weak_match (C : Fx K mg) : Fd P w K mg base 1 "weak_match" F_weak_match := by
  obtain ⟨fd, F⟩ := C.def_ 69 _ rfl
  exact ⟨(C.glo 32 "weak_match" rfl), F.kp, fd, ["a", "b"], (F.bindsN fun _ _ _ _ _ _ us hl => match us, hl with | [_, _], _ => rfl), fn_body F sc_weak_match fun cdv A outer s H E hr => (dss_one (dst_ret (de_cmp (or_eq hr.units) op_eqP (de_ix ix_seq op_ixP (de_var 0) de_int) (de_ix ix_seq op_ixP (de_var 1) de_int))))⟩
theorem D_match (C : Fx K mg) : ∀ x F, S_match x = some F → Fd P w K mg base 1 x F := by
  intro x F h
  unfold S_match at h
  split at h
  · rename_i e; subst e; cases h; exact D_strong_match C
  · split at h
    · rename_i e; subst e; cases h; exact D_weak_match C
    · cases h
theorem D_matches (C : Fx K mg) : Fd P w K mg base 2 "matches" F_matches := by
  obtain ⟨fd, F⟩ := C.def_ 70 _ rfl
  exact ⟨(C.glo 34 "matches" rfl), F.kp, fd, ["tags", "tag", "match"], (F.bindsN fun _ _ _ _ _ _ us hl => match us, hl with | [_, _, _], _ => rfl), fn_body F sc_matches fun cdv A outer s H E hr => (dss_cons (dst_if (dt_cmp op_isN1 op_isNP (de_var 1) de_non) (dss_one (dst_ret de_bl)) dss_nil)
  (dss_cons (dst_if (dt_cmp (or_eq hr.units) op_eqP (de_var 0) de_str) (dss_one (dst_ret de_bl)) dss_nil)
  (dss_cons (dst_for (di_list (de_var 0)) (dg_n 3 sc_matches.nd) (dss_one (dst_if (dt_val (de_loc 2 (D_match C) (hr.mono (by decide)) (da_cons (de_var 3) (da_cons (de_var 1) da_nil)))) (dss_one (dst_ret de_bl)) dss_nil)))
  (dss_one (dst_ret de_bl)))))⟩
theorem D_fails (C : Fx K mg) : Fd P w K mg base 8 "fails" F_fails := by
  obtain ⟨fd, F⟩ := C.def_ 71 _ rfl
  exact ⟨(C.glo 36 "fails" rfl), F.kp, fd, ["fields", "tag", "modified", "now"], (F.bindsN fun _ _ _ _ _ _ us hl => match us, hl with | [_, _, _, _], _ => rfl), fn_body F sc_fails fun cdv A outer s H E hr => (dss_cons (dst_if (dt_cmp op_notN1 op_notNP (de_pure (D_join_values C) (hr.mono (by decide)) (da_cons (de_var 0) (da_cons de_str da_nil))) de_non) (dss_cons (dst_set 5 sc_fails.nd (de_pure (D_tags_of C) (hr.mono (by decide)) (da_cons (de_var 0) (da_cons de_str da_nil))))
  (dss_one (dst_ret (de_or (de_cmp op_isN1 op_isNP (de_var 5) de_non) (de_one (de_not (de_pure (D_matches C) (hr.mono (by decide)) (da_cons (de_var 5) (da_cons (de_var 1) (da_cons (de_gf (C.glo 31 "strong_match" rfl) rfl) da_nil)))))))))) dss_nil)
  (dss_cons (dst_set 4 sc_fails.nd (de_pure (D_date_value C) (hr.mono (by decide)) (da_cons (de_var 0) (da_cons de_str (da_cons (de_var 3) da_nil)))))
  (dss_one (dst_ret (de_and (de_cmp op_notN1 op_notNP (de_var 4) de_non) (de_and (de_cmp op_notN1 op_notNP (de_var 2) de_non) (de_one (de_cmp (or_gt hr) op_gtP (de_var 2) (de_var 4)))))))))⟩
theorem D_is_known (C : Fx K mg) : Fd P w K mg base 8 "is_known" F_is_known := by
  obtain ⟨fd, F⟩ := C.def_ 72 _ rfl
  exact ⟨(C.glo 37 "is_known" rfl), F.kp, fd, ["method", "fields", "tag", "modified", "now"], (F.bindsN fun _ _ _ _ _ _ us hl => match us, hl with | [_, _, _, _, _], _ => rfl), fn_body F sc_is_known fun cdv A outer s H E hr => (dss_cons (dst_set 5 sc_is_known.nd (de_pure (D_tags_of C) (hr.mono (by decide)) (da_cons (de_var 1) (da_cons de_str da_nil))))
  (dss_cons (dst_if (dt_cmp op_notN1 op_notNP (de_var 5) de_non) (dss_one (dst_ret (de_pure (D_matches C) (hr.mono (by decide)) (da_cons (de_var 5) (da_cons (de_var 2) (da_cons (de_gf (C.glo 32 "weak_match" rfl) rfl) da_nil)))))) dss_nil)
  (dss_cons (dst_if (dt_w (dw_and (dt_cmp (or_ne hr.units) op_neP (de_var 0) de_str) (dw_and1 (dt_cmp (or_ne hr.units) op_neP (de_var 0) de_str)))) (dss_one (dst_ret de_bl)) dss_nil)
  (dss_cons (dst_set 6 sc_is_known.nd (de_pure (D_date_value C) (hr.mono (by decide)) (da_cons (de_var 1) (da_cons de_str (da_cons (de_var 4) da_nil)))))
  (dss_one (dst_ret (de_and (de_cmp op_notN1 op_notNP (de_var 6) de_non) (de_and (de_cmp op_notN1 op_notNP (de_var 3) de_non) (de_one (de_cmp or_le op_leP (de_var 3) (de_var 6)))))))))))⟩
theorem D_wants_whole (C : Fx K mg) : Fd P w K mg base 7 "wants_whole" F_wants_whole := by
  obtain ⟨fd, F⟩ := C.def_ 73 _ rfl
  exact ⟨(C.glo 38 "wants_whole" rfl), F.kp, fd, ["method", "fields", "tag", "modified", "now"], (F.bindsN fun _ _ _ _ _ _ us hl => match us, hl with | [_, _, _, _, _], _ => rfl), fn_body F sc_wants_whole fun cdv A outer s H E hr => (dss_cons (dst_if (dt_w (dw_or (dt_cmp (or_ne hr.units) op_neP (de_var 0) de_str) (dw_or1 (dt_cmp op_isN1 op_isNP (de_pure (D_join_values C) (hr.mono (by decide)) (da_cons (de_var 1) (da_cons de_str da_nil))) de_non)))) (dss_one (dst_ret de_bl)) dss_nil)
  (dss_cons (dst_set 5 sc_wants_whole.nd (de_pure (D_join_values C) (hr.mono (by decide)) (da_cons (de_var 1) (da_cons de_str da_nil))))
  (dss_cons (dst_if (dt_cmp op_isN1 op_isNP (de_var 5) de_non) (dss_one (dst_ret de_bl)) dss_nil)
  (dss_cons (dst_set 6 sc_wants_whole.nd (de_pure (D_read_tag C) (hr.mono (by decide)) (da_cons (de_var 5) da_nil)))
  (dss_cons (dst_if (dt_cmp op_notN1 op_notNP (de_var 6) de_non) (dss_one (dst_ret (de_or (de_cmp op_isN1 op_isNP (de_var 2) de_non) (de_one (de_not (de_pure (D_strong_match C) (hr.mono (by decide)) (da_cons (de_var 6) (da_cons (de_var 2) da_nil)))))))) dss_nil)
  (dss_cons (dst_set 7 sc_wants_whole.nd (de_pure (D_read_date C) (hr.mono (by decide)) (da_cons (de_var 5) (da_cons (de_var 4) da_nil))))
  (dss_one (dst_ret (de_or (de_cmp op_isN1 op_isNP (de_var 7) de_non) (de_one (de_cmp (or_ne hr.units) op_neP (de_var 3) (de_var 7))))))))))))⟩
theorem D_judge (C : Fx K mg) : Fd P w K mg base 9 "judge" F_judge := by
  obtain ⟨fd, F⟩ := C.def_ 74 _ rfl
  exact ⟨(C.glo 39 "judge" rfl), F.kp, fd, ["method", "fields", "tag", "modified", "now"], (F.bindsN fun _ _ _ _ _ _ us hl => match us, hl with | [_, _, _, _, _], _ => rfl), fn_body F sc_judge fun cdv A outer s H E hr => (dss_cons (dst_if (dt_val (de_pure (D_fails C) (hr.mono (by decide)) (da_cons (de_var 1) (da_cons (de_var 2) (da_cons (de_var 3) (da_cons (de_var 4) da_nil)))))) (dss_one (dst_ret (de_tup (da_cons de_int (da_cons de_bl da_nil))))) dss_nil)
  (dss_cons (dst_if (dt_val (de_pure (D_is_known C) (hr.mono (by decide)) (da_cons (de_var 0) (da_cons (de_var 1) (da_cons (de_var 2) (da_cons (de_var 3) (da_cons (de_var 4) da_nil))))))) (dss_one (dst_ret (de_if (dt_w (dw_or (dt_cmp (or_eq hr.units) op_eqP (de_var 0) de_str) (dw_or1 (dt_cmp (or_eq hr.units) op_eqP (de_var 0) de_str)))) (de_tup (da_cons de_int (da_cons de_bl da_nil))) (de_tup (da_cons de_int (da_cons de_bl da_nil)))))) dss_nil)
  (dss_one (dst_ret (de_tup (da_cons de_int (da_cons (de_pure (D_wants_whole C) (hr.mono (by decide)) (da_cons (de_var 0) (da_cons (de_var 1) (da_cons (de_var 2) (da_cons (de_var 3) (da_cons (de_var 4) da_nil)))))) da_nil)))))))⟩
end
end Ow
set_option Elab.async false
set_option linter.all false
set_option maxRecDepth 100000
set_option maxHeartbeats 4000000
namespace Ow
open PySem L2

section
variable {P : Program} {w : World} {K : PySem.W.Frag} {mg : Str → Option Value} {base : Heap}
theorem D__law_shown (C : Fx K mg) : Fd P w K mg base 10 "_law_shown" F__law_shown := by
  obtain ⟨fd, F⟩ := C.def_ 75 _ rfl
  exact ⟨(C.glo 78 "_law_shown" rfl), F.kp, fd, ["_law_entry", "_law_request", "_law_now"], (F.bindsN fun _ _ _ _ _ _ us hl => match us, hl with | [_, _, _], _ => rfl), fn_body F sc__law_shown fun cdv A outer s H E hr => (dss_cons (dst_setP (de_ix ix_seq op_ixP (de_var 0) de_int) (dg_t (dgs_cons 5 sc__law_shown.nd (dgs_cons 6 sc__law_shown.nd (dgs_cons 7 sc__law_shown.nd (dgs_cons 8 sc__law_shown.nd dgs_nil))))))
  (dss_cons (dst_set 3 sc__law_shown.nd (de_op or_add op_addP (de_frz (dl_lc [("_law_pair", 10)] sc__law_shown.nd (di_tup (de_var 6)) (blkOk_by (own := [("_law_pair", 10)]) (N := N__law_shown) (sc := defScope (top 109)) (by decide +kernel)) (fun _ _ _ _ _ => (dg_n 10 sc__law_shown.nd)) (fun _ _ _ _ _ => (dts_one (dt_cmp (or_ne hr.units) op_neP (de_ix ix_seq op_ixP (de_var 10) de_int) de_str))) (fun _ _ _ _ _ => (de_var 10)))) (de_frz (dl_lst (da_cons (de_tup (da_cons de_str (da_cons (de_callTy call_str_int str_P rfl (C.fre 5 "str" rfl) bo_str (da_cons (de_callB (call_min2 rfl) min2_P rfl (C.fre 2 "min" rfl) bo_min (da_cons (de_pure (D_age C) (hr.mono (by decide)) (da_cons (de_var 0) (da_cons (de_var 2) da_nil))) (da_cons (de_op op_pow op_powP de_int de_int) da_nil))) da_nil)) da_nil))) da_nil)))))
  (dss_cons (dst_set 4 sc__law_shown.nd (de_pure (D_judge C) (hr.mono (by decide)) (da_cons de_str (da_cons (de_ix ix_seq op_ixP (de_var 1) de_int) (da_cons (de_pure (D__law_tag C) (hr.mono (by decide)) (da_cons (de_ix ix_seq op_ixP (de_var 0) de_int) da_nil)) (da_cons (de_pure (D__law_modified C) (hr.mono (by decide)) (da_cons (de_ix ix_seq op_ixP (de_var 0) de_int) (da_cons (de_ix ix_seq op_ixP (de_var 0) de_int) da_nil))) (da_cons (de_var 2) da_nil)))))))
  (dss_cons (dst_if (dt_cmp (or_eq hr.units) op_eqP (de_ix ix_seq op_ixP (de_var 4) de_int) de_int) (dss_cons (dst_set 9 sc__law_shown.nd (de_frz (dl_lst (da_cons de_str (da_cons de_str (da_cons de_str (da_cons de_str (da_cons de_str (da_cons de_str (da_cons de_str da_nil))))))))))
  (dss_one (dst_ret (de_tup (da_cons de_int (da_cons (de_callTy call_tuple_of tup_P rfl (C.fre 8 "tuple" rfl) bo_tuple (da_cons (de_frz (dl_lc [("_law_pair", 10)] sc__law_shown.nd (di_list (de_var 3)) (blkOk_by (own := [("_law_pair", 10)]) (N := N__law_shown) (sc := defScope (top 109)) (by decide +kernel)) (fun _ _ _ _ _ => (dg_n 10 sc__law_shown.nd)) (fun _ _ _ _ _ => (dts_one (dt_cmp (or_in (u65 hr)) op_inP (de_ix ix_seq op_ixP (de_var 10) de_int) (de_var 9)))) (fun _ _ _ _ _ => (de_var 10)))) da_nil)) (da_cons (de_tup da_nil) (da_cons (de_tup da_nil) da_nil)))))))) dss_nil)
  (dss_one (dst_ret (de_tup (da_cons (de_var 5) (da_cons (de_callTy call_tuple_of tup_P rfl (C.fre 8 "tuple" rfl) bo_tuple (da_cons (de_var 3) da_nil)) (da_cons (de_var 7) (da_cons (de_var 8) da_nil)))))))))))⟩
theorem D__law_done (C : Fx K mg) : Fd P w K mg base 11 "_law_done" F__law_done := by
  obtain ⟨fd, F⟩ := C.def_ 76 _ rfl
  exact ⟨(C.glo 83 "_law_done" rfl), F.kp, fd, ["_law_state", "_law_plan_here", "_law_request", "_law_response_here", "_law_now"], (F.bindsN fun _ _ _ _ _ _ us hl => match us, hl with | [_, _, _, _, _], _ => rfl), fn_body F sc__law_done fun cdv A outer s H E hr => (dss_cons (dst_if (dt_cmp (or_eq hr.units) op_eqP (de_ix ix_seq op_ixP (de_var 1) de_int) de_str) (dss_one (dst_ret (de_tup (da_cons (de_pure (D__law_shown C) (hr.mono (by decide)) (da_cons (de_ix ix_seq op_ixP (de_var 1) de_int) (da_cons (de_var 2) (da_cons (de_var 4) da_nil)))) (da_cons de_str da_nil))))) dss_nil)
  (dss_cons (dst_if (dt_cmp (or_eq hr.units) op_eqP (de_ix ix_seq op_ixP (de_var 1) de_int) de_str) (dss_one (dst_ret (de_tup (da_cons (de_tup (da_cons de_int (da_cons (de_tup (da_cons (de_tup (da_cons de_str (da_cons (de_pure (D_write_date C) (hr.mono (by decide)) (da_cons (de_var 4) da_nil)) da_nil))) da_nil)) (da_cons (de_tup da_nil) (da_cons (de_tup da_nil) da_nil))))) (da_cons de_str da_nil))))) dss_nil)
  (dss_cons (dst_if (dt_cmp (or_eq hr.units) op_eqP (de_ix ix_seq op_ixP (de_var 1) de_int) de_str) (dss_cons (dst_if (dt_w (dw_and (dt_cmp (or_nin (u65 hr)) op_ninP (de_ix ix_seq op_ixP (de_var 2) de_int) (de_frz (dl_lst (da_cons de_str (da_cons de_str (da_cons de_str da_nil)))))) (dw_and1 (dt_chain or_le op_leP or_le op_leP de_int (de_ix ix_seq op_ixP (de_var 3) de_int) de_int)))) (dss_one (dst_dset (u1 hr) (de_var 0) (de_frz (dl_lc [("_law_row", 6)] sc__law_done.nd (di_list (de_dget (u1 hr) (de_var 0))) (blkOk_by (own := [("_law_row", 6)]) (N := N__law_done) (sc := defScope (top 114)) (by decide +kernel)) (fun _ _ _ _ _ => (dg_n 6 sc__law_done.nd)) (fun _ _ _ _ _ => (dts_one (dt_cmp (or_ne hr.units) op_neP (de_ix ix_seq op_ixP (de_ix ix_seq op_ixP (de_var 6) de_int) de_int) (de_ix ix_seq op_ixP (de_var 2) de_int)))) (fun _ _ _ _ _ => (de_var 6)))))) dss_nil)
  (dss_one (dst_ret (de_tup (da_cons (de_var 3) (da_cons de_str da_nil)))))) dss_nil)
  (dss_cons (dst_set 5 sc__law_done.nd (de_ix ix_seq op_ixP (de_var 1) de_int))
  (dss_cons (dst_if (dt_w (dw_and (dt_cmp (or_eq hr.units) op_eqP (de_ix ix_seq op_ixP (de_var 1) de_int) de_str) (dw_and1 (dt_cmp (or_eq hr.units) op_eqP (de_ix ix_seq op_ixP (de_var 3) de_int) de_int)))) (dss_cons (dst_set 5 sc__law_done.nd (de_pure (D_freshened C) (hr.mono (by decide)) (da_cons (de_var 5) (da_cons (de_var 3) (da_cons (de_var 4) (da_cons (de_var 4) da_nil))))))
  (dss_cons (dst_drop (de_one' (D__law_put C) (hr.mono (by decide)) (da_cons (de_var 0) (da_cons (de_var 5) da_nil))))
  (dss_one (dst_ret (de_tup (da_cons (de_pure (D__law_shown C) (hr.mono (by decide)) (da_cons (de_var 5) (da_cons (de_var 2) (da_cons (de_var 4) da_nil)))) (da_cons de_str da_nil))))))) dss_nil)
  (dss_cons (dst_if (dt_w (dw_and (dt_cmp (or_eq hr.units) op_eqP (de_ix ix_seq op_ixP (de_var 1) de_int) de_str) (dw_and (dt_cmp (or_eq hr.units) op_eqP (de_ix ix_seq op_ixP (de_var 3) de_int) de_int) (dw_and (dt_cmp op_notN1 op_notNP (de_var 5) de_non) (dw_and1 (dt_val (de_pure (D__law_same_tag C) (hr.mono (by decide)) (da_cons (de_var 5) (da_cons (de_var 3) da_nil))))))))) (dss_one (dst_drop (de_one' (D__law_put C) (hr.mono (by decide)) (da_cons (de_var 0) (da_cons (de_pure (D_freshened C) (hr.mono (by decide)) (da_cons (de_var 5) (da_cons (de_var 3) (da_cons (de_var 4) (da_cons (de_var 4) da_nil))))) da_nil))))) (dss_one (dst_if (dt_val (de_pure (D_may_keep C) (hr.mono (by decide)) (da_cons (de_var 2) (da_cons (de_var 3) (da_cons (de_var 4) da_nil))))) (dss_one (dst_drop (de_one' (D__law_put C) (hr.mono (by decide)) (da_cons (de_var 0) (da_cons (de_tup (da_cons (de_ix ix_seq op_ixP (de_var 2) de_int) (da_cons (de_ix ix_seq op_ixP (de_var 2) de_int) (da_cons (de_var 3) (da_cons (de_var 4) (da_cons (de_var 4) da_nil)))))) da_nil))))) dss_nil)))
  (dss_one (dst_ret (de_tup (da_cons (de_var 3) (da_cons de_str da_nil)))))))))))⟩
theorem D_has_one (C : Fx K mg) : Fd P w K mg base 2 "has_one" F_has_one := by
  obtain ⟨fd, F⟩ := C.def_ 77 _ rfl
  exact ⟨(C.glo 58 "has_one" rfl), F.kp, fd, ["fields", "names"], (F.bindsN fun _ _ _ _ _ _ us hl => match us, hl with | [_, _], _ => rfl), fn_body F sc_has_one fun cdv A outer s H E hr => (dss_cons (dst_for (di_tup (de_var 1)) (dg_n 2 sc_has_one.nd) (dss_one (dst_if (dt_cmp (or_ne hr.units) op_neP (de_pure (D_values C) (hr.mono (by decide)) (da_cons (de_var 0) (da_cons (de_var 2) da_nil))) (de_frz (dl_lst da_nil))) (dss_one (dst_ret de_bl)) dss_nil)))
  (dss_one (dst_ret de_bl)))⟩
theorem D_is_passed_on (C : Fx K mg) : Fd P w K mg base 6 "is_passed_on" F_is_passed_on := by
  obtain ⟨fd, F⟩ := C.def_ 78 _ rfl
  exact ⟨(C.glo 59 "is_passed_on" rfl), F.kp, fd, ["request"], (F.bindsN fun _ _ _ _ _ _ us hl => match us, hl with | [_], _ => rfl), fn_body F sc_is_passed_on fun cdv A outer s H E hr => (dss_cons (dst_if (dt_w (dw_or (dt_cmp (or_ne hr.units) op_neP (de_ix ix_seq op_ixP (de_var 0) de_int) de_str) (dw_or1 (dt_val (de_pure (D_has_one C) (hr.mono (by decide)) (da_cons (de_ix ix_seq op_ixP (de_var 0) de_int) (da_cons (de_glob (C.con 12 "PASSING" _ rfl) rfl) da_nil))))))) (dss_one (dst_ret de_bl)) dss_nil)
  (dss_one (dst_ret (de_ix ix_seq op_ixP (de_pure (D_directive C) (hr.mono (by decide)) (da_cons (de_pure (D_read_directives C) (hr.mono (by decide)) (da_cons (de_ix ix_seq op_ixP (de_var 0) de_int) da_nil)) (da_cons de_str da_nil))) de_int))))⟩
theorem D_date_rank (C : Fx K mg) : Fd P w K mg base 8 "date_rank" F_date_rank := by
  obtain ⟨fd, F⟩ := C.def_ 79 _ rfl
  exact ⟨(C.glo 57 "date_rank" rfl), F.kp, fd, ["entry"], (F.bindsN fun _ _ _ _ _ _ us hl => match us, hl with | [_], _ => rfl), fn_body F sc_date_rank fun cdv A outer s H E hr => (dss_cons (dst_set 1 sc_date_rank.nd (de_pure (D_date_of_field C) (hr.mono (by decide)) (da_cons (de_ix ix_seq op_ixP (de_ix ix_seq op_ixP (de_var 0) de_int) de_int) (da_cons de_str (da_cons (de_ix ix_seq op_ixP (de_var 0) de_int) da_nil)))))
  (dss_one (dst_ret (de_if (dt_cmp op_isN1 op_isNP (de_var 1) de_non) de_int (de_var 1)))))⟩
theorem D_Shelf_find (C : Fx K mg) : Md P w K mg base 9 "Shelf" "find" F_Shelf_find := by
  obtain ⟨fd, F⟩ := C.def_ 80 _ rfl
  exact ⟨C.meth 3 "Shelf" "find" rfl, fd, ["self", "request"], (F.bindsN fun _ _ _ _ _ _ us hl => match us, hl with | [_, _], _ => rfl), fn_body F sc_Shelf_find fun cdv A outer s H E hr => (dss_cons (dst_set 2 sc_Shelf_find.nd de_non)
  (dss_cons (dst_for (di_list (de_fld (C.cls 0 "Shelf" rfl) (C.noat 1 "Shelf" "_rows" rfl) (de_var 0))) (dg_n 3 sc_Shelf_find.nd) (dss_one (dst_if (dt_val (de_pure (D_fits C) (hr.mono (by decide)) (da_cons (de_ix ix_seq op_ixP (de_var 3) de_int) (da_cons (de_var 1) da_nil)))) (dss_one (dst_if (dt_w (dw_or (dt_cmp op_isN1 op_isNP (de_var 2) de_non) (dw_or1 (dt_cmp (or_gt hr) op_gtP (de_tup (da_cons (de_pure (D_date_rank C) (hr.mono (by decide)) (da_cons (de_ix ix_seq op_ixP (de_var 3) de_int) da_nil)) (da_cons (de_ix ix_seq op_ixP (de_var 3) de_int) da_nil))) (de_tup (da_cons (de_pure (D_date_rank C) (hr.mono (by decide)) (da_cons (de_ix ix_seq op_ixP (de_var 2) de_int) da_nil)) (da_cons (de_ix ix_seq op_ixP (de_var 2) de_int) da_nil))))))) (dss_one (dst_set 2 sc_Shelf_find.nd (de_var 3))) dss_nil)) dss_nil)))
  (dss_cons (dst_if (dt_cmp op_isN1 op_isNP (de_var 2) de_non) (dss_one (dst_ret de_non)) dss_nil)
  (dss_cons (dst_fld (C.cls 0 "Shelf" rfl) (C.noat 1 "Shelf" "_rows" rfl) (de_var 0) (de_op or_add op_addP (de_frz (dl_lc [("row", 3)] sc_Shelf_find.nd (di_list (de_fld (C.cls 0 "Shelf" rfl) (C.noat 1 "Shelf" "_rows" rfl) (de_var 0))) (blkOk_by (own := [("row", 3)]) (N := N_Shelf_find) (sc := defScope (inClass (top 79) 3)) (by decide +kernel)) (fun _ _ _ _ _ => (dg_n 3 sc_Shelf_find.nd)) (fun _ _ _ _ _ => (dts_one (dt_cmp (or_ne hr.units) op_neP (de_ix ix_seq op_ixP (de_var 3) de_int) (de_ix ix_seq op_ixP (de_var 2) de_int)))) (fun _ _ _ _ _ => (de_var 3)))) (de_frz (dl_lst (da_cons (de_var 2) da_nil)))))
  (dss_one (dst_ret (de_ix ix_seq op_ixP (de_var 2) de_int)))))))⟩
theorem D_Told_answer (C : Fx K mg) : Md P w K mg base 1 "Told" "answer" F_Told_answer := by
  obtain ⟨fd, F⟩ := C.def_ 81 _ rfl
  exact ⟨C.meth 4 "Told" "answer" rfl, fd, ["self", "request", "now"], (F.bindsN fun _ _ _ _ _ _ us hl => match us, hl with | [_, _, _], _ => rfl), fn_body F sc_Told_answer fun cdv A outer s H E hr => (dss_cons (dst_drop (de_app (de_fld (C.cls 1 "Told" rfl) (C.noat 2 "Told" "_asked" rfl) (de_var 0)) (da_cons (de_tup (da_cons (de_var 1) (da_cons (de_var 2) da_nil))) da_nil)))
  (dss_one (dst_ret (de_ix ix_seq op_ixP (de_fld (C.cls 1 "Told" rfl) (C.noat 3 "Told" "_responses" rfl) (de_var 0)) (de_op op_sub op_subP (de_callB (call_min2 rfl) min2_P rfl (C.fre 2 "min" rfl) bo_min (da_cons (de_callB call_len len_P rfl (C.fre 0 "len" rfl) bo_len (da_cons (de_fld (C.cls 1 "Told" rfl) (C.noat 2 "Told" "_asked" rfl) (de_var 0)) da_nil)) (da_cons (de_callB call_len len_P rfl (C.fre 0 "len" rfl) bo_len (da_cons (de_fld (C.cls 1 "Told" rfl) (C.noat 3 "Told" "_responses" rfl) (de_var 0)) da_nil)) da_nil))) de_int)))))⟩
theorem D_agree (C : Fx K mg) : Fd P w K mg base 3 "agree" F_agree := by
  obtain ⟨fd, F⟩ := C.def_ 82 _ rfl
  exact ⟨(C.glo 65 "agree" rfl), F.kp, fd, ["first", "second"], (F.bindsN fun _ _ _ _ _ _ us hl => match us, hl with | [_, _], _ => rfl), fn_body F sc_agree fun cdv A outer s H E hr => (dss_cons (dst_set 2 sc_agree.nd (de_pure (D_tag_value C) (hr.mono (by decide)) (da_cons (de_var 0) da_nil)))
  (dss_cons (dst_set 3 sc_agree.nd (de_pure (D_tag_value C) (hr.mono (by decide)) (da_cons (de_var 1) da_nil)))
  (dss_one (dst_ret (de_and (de_cmp op_notN1 op_notNP (de_var 2) de_non) (de_and (de_cmp op_notN1 op_notNP (de_var 3) de_non) (de_one (de_pure (D_strong_match C) (hr.mono (by decide)) (da_cons (de_var 2) (da_cons (de_var 3) da_nil))))))))))⟩
theorem D_Shelf_put (C : Fx K mg) : Md P w K mg base 5 "Shelf" "put" F_Shelf_put := by
  obtain ⟨fd, F⟩ := C.def_ 83 _ rfl
  exact ⟨C.meth 5 "Shelf" "put" rfl, fd, ["self", "entry"], (F.bindsN fun _ _ _ _ _ _ us hl => match us, hl with | [_, _], _ => rfl), fn_body F sc_Shelf_put fun cdv A outer s H E hr => (dss_cons (dst_set 2 sc_Shelf_put.nd (de_tup (da_cons de_str (da_cons (de_ix ix_seq op_ixP (de_var 1) de_int) (da_cons (de_ix ix_seq op_ixP (de_var 1) de_int) (da_cons (de_tup da_nil) (da_cons (de_tup da_nil) da_nil)))))))
  (dss_cons (dst_set 3 sc_Shelf_put.nd (de_op or_add op_addP de_int (de_maxD hr (C.fre 1 "max" rfl) (de_frz (dl_lc [("row", 4)] sc_Shelf_put.nd (di_list (de_fld (C.cls 0 "Shelf" rfl) (C.noat 1 "Shelf" "_rows" rfl) (de_var 0))) (blkOk_by (own := [("row", 4)]) (N := N_Shelf_put) (sc := defScope (inClass (top 79) 2)) (by decide +kernel)) (fun _ _ _ _ _ => (dg_n 4 sc_Shelf_put.nd)) (fun _ _ _ _ _ => dts_nil) (fun _ _ _ _ _ => (de_ix ix_seq op_ixP (de_var 4) de_int)))) de_int)))
  (dss_cons (dst_fld (C.cls 0 "Shelf" rfl) (C.noat 1 "Shelf" "_rows" rfl) (de_var 0) (de_new (dl_lc [("row", 4)] sc_Shelf_put.nd (di_list (de_fld (C.cls 0 "Shelf" rfl) (C.noat 1 "Shelf" "_rows" rfl) (de_var 0))) (blkOk_by (own := [("row", 4)]) (N := N_Shelf_put) (sc := defScope (inClass (top 79) 2)) (by decide +kernel)) (fun _ _ _ _ _ => (dg_n 4 sc_Shelf_put.nd)) (fun _ _ _ _ _ => (dts_one (dt_not (dt_val (de_pure (D_fits C) (hr.mono (by decide)) (da_cons (de_ix ix_seq op_ixP (de_var 4) de_int) (da_cons (de_var 2) da_nil))))))) (fun _ _ _ _ _ => (de_var 4)))))
  (dss_cons (dst_drop (de_app (de_fld (C.cls 0 "Shelf" rfl) (C.noat 1 "Shelf" "_rows" rfl) (de_var 0)) (da_cons (de_tup (da_cons (de_var 3) (da_cons (de_var 1) da_nil))) da_nil)))
  (dss_one (dst_if (dt_cmp (or_gt hr) op_gtP (de_callB call_len len_P rfl (C.fre 0 "len" rfl) bo_len (da_cons (de_fld (C.cls 0 "Shelf" rfl) (C.noat 1 "Shelf" "_rows" rfl) (de_var 0)) da_nil)) (de_fld (C.cls 0 "Shelf" rfl) (C.noat 0 "Shelf" "_room" rfl) (de_var 0))) (dss_one (dst_fld (C.cls 0 "Shelf" rfl) (C.noat 1 "Shelf" "_rows" rfl) (de_var 0) (de_slice or_sl sl_P (de_fld (C.cls 0 "Shelf" rfl) (C.noat 1 "Shelf" "_rows" rfl) (de_var 0)) (do_some de_int) do_none))) dss_nil))))))⟩
theorem D_Keeper_keep (C : Fx K mg) : Md P w K mg base 11 "Keeper" "keep" F_Keeper_keep := by
  obtain ⟨fd, F⟩ := C.def_ 84 _ rfl
  exact ⟨C.meth 6 "Keeper" "keep" rfl, fd, ["self", "entry", "request", "response", "now"], (F.bindsN fun _ _ _ _ _ _ us hl => match us, hl with | [_, _, _, _, _], _ => rfl), fn_body F sc_Keeper_keep fun cdv A outer s H E hr => (dss_cons (dst_if (dt_w (dw_and (dt_cmp (or_eq hr.units) op_eqP (de_ix ix_seq op_ixP (de_var 3) de_int) de_int) (dw_and (dt_cmp op_notN1 op_notNP (de_var 1) de_non) (dw_and1 (dt_val (de_pure (D_agree C) (hr.mono (by decide)) (da_cons (de_ix ix_seq op_ixP (de_var 1) de_int) (da_cons (de_var 3) da_nil)))))))) (dss_one (dst_drop (de_meth (C.cls 0 "Shelf" rfl) (D_Shelf_put C) (hr.mono (by decide)) (de_fld (C.cls 2 "Keeper" rfl) (C.noat 5 "Keeper" "_shelf" rfl) (de_var 0)) (da_cons (de_pure (D_freshened C) (hr.mono (by decide)) (da_cons (de_var 1) (da_cons (de_var 3) (da_cons (de_var 4) (da_cons (de_var 4) da_nil))))) da_nil)))) (dss_one (dst_if (dt_val (de_pure (D_may_keep C) (hr.mono (by decide)) (da_cons (de_var 2) (da_cons (de_var 3) (da_cons (de_var 4) da_nil))))) (dss_one (dst_drop (de_meth (C.cls 0 "Shelf" rfl) (D_Shelf_put C) (hr.mono (by decide)) (de_fld (C.cls 2 "Keeper" rfl) (C.noat 5 "Keeper" "_shelf" rfl) (de_var 0)) (da_cons (de_tup (da_cons (de_ix ix_seq op_ixP (de_var 2) de_int) (da_cons (de_ix ix_seq op_ixP (de_var 2) de_int) (da_cons (de_var 3) (da_cons (de_var 4) (da_cons (de_var 4) da_nil)))))) da_nil)))) dss_nil)))
  (dss_one (dst_ret (de_tup (da_cons (de_var 3) (da_cons de_str da_nil))))))⟩
theorem D_Shelf_drop (C : Fx K mg) : Md P w K mg base 1 "Shelf" "drop" F_Shelf_drop := by
  obtain ⟨fd, F⟩ := C.def_ 85 _ rfl
  exact ⟨C.meth 7 "Shelf" "drop" rfl, fd, ["self", "target"], (F.bindsN fun _ _ _ _ _ _ us hl => match us, hl with | [_, _], _ => rfl), fn_body F sc_Shelf_drop fun cdv A outer s H E hr => (dss_one (dst_fld (C.cls 0 "Shelf" rfl) (C.noat 1 "Shelf" "_rows" rfl) (de_var 0) (de_frz (dl_lc [("row", 2)] sc_Shelf_drop.nd (di_list (de_fld (C.cls 0 "Shelf" rfl) (C.noat 1 "Shelf" "_rows" rfl) (de_var 0))) (blkOk_by (own := [("row", 2)]) (N := N_Shelf_drop) (sc := defScope (inClass (top 79) 4)) (by decide +kernel)) (fun _ _ _ _ _ => (dg_n 2 sc_Shelf_drop.nd)) (fun _ _ _ _ _ => (dts_one (dt_cmp (or_ne hr.units) op_neP (de_ix ix_seq op_ixP (de_ix ix_seq op_ixP (de_var 2) de_int) de_int) (de_var 1)))) (fun _ _ _ _ _ => (de_var 2))))))⟩
theorem D_Keeper_pass_on (C : Fx K mg) : Md P w K mg base 2 "Keeper" "pass_on" F_Keeper_pass_on := by
  obtain ⟨fd, F⟩ := C.def_ 86 _ rfl
  exact ⟨C.meth 8 "Keeper" "pass_on" rfl, fd, ["self", "request", "now"], (F.bindsN fun _ _ _ _ _ _ us hl => match us, hl with | [_, _, _], _ => rfl), fn_body F sc_Keeper_pass_on fun cdv A outer s H E hr => (dss_cons (dst_set 3 sc_Keeper_pass_on.nd (de_meth (C.cls 1 "Told" rfl) (D_Told_answer C) (hr.mono (by decide)) (de_fld (C.cls 2 "Keeper" rfl) (C.noat 4 "Keeper" "_origin" rfl) (de_var 0)) (da_cons (de_var 1) (da_cons (de_var 2) da_nil))))
  (dss_cons (dst_if (dt_w (dw_and (dt_cmp (or_nin (u65 hr)) op_ninP (de_ix ix_seq op_ixP (de_var 1) de_int) (de_tup (da_cons de_str (da_cons de_str (da_cons de_str da_nil))))) (dw_and1 (dt_chain or_le op_leP or_le op_leP de_int (de_ix ix_seq op_ixP (de_var 3) de_int) de_int)))) (dss_one (dst_drop (de_meth (C.cls 0 "Shelf" rfl) (D_Shelf_drop C) (hr.mono (by decide)) (de_fld (C.cls 2 "Keeper" rfl) (C.noat 5 "Keeper" "_shelf" rfl) (de_var 0)) (da_cons (de_ix ix_seq op_ixP (de_var 1) de_int) da_nil)))) dss_nil)
  (dss_one (dst_ret (de_tup (da_cons (de_var 3) (da_cons de_str da_nil)))))))⟩
theorem D_limit_of (C : Fx K mg) : Fd P w K mg base 3 "limit_of" F_limit_of := by
  obtain ⟨fd, F⟩ := C.def_ 87 _ rfl
  exact ⟨(C.glo 60 "limit_of" rfl), F.kp, fd, ["directives", "name"], (F.bindsN fun _ _ _ _ _ _ us hl => match us, hl with | [_, _], _ => rfl), fn_body F sc_limit_of fun cdv A outer s H E hr => (dss_one (dst_ret (de_pure (D_seconds C) (hr.mono (by decide)) (da_cons (de_ix ix_seq op_ixP (de_pure (D_directive C) (hr.mono (by decide)) (da_cons (de_var 0) (da_cons (de_var 1) da_nil))) de_int) da_nil))))⟩
theorem D_entry_lifetime (C : Fx K mg) : Fd P w K mg base 10 "entry_lifetime" F_entry_lifetime := by
  obtain ⟨fd, F⟩ := C.def_ 88 _ rfl
  exact ⟨(C.glo 49 "entry_lifetime" rfl), F.kp, fd, ["entry"], (F.bindsN fun _ _ _ _ _ _ us hl => match us, hl with | [_], _ => rfl), fn_body F sc_entry_lifetime fun cdv A outer s H E hr => (dss_one (dst_ret (de_pure (D_lifetime C) (hr.mono (by decide)) (da_cons (de_ix ix_seq op_ixP (de_var 0) de_int) (da_cons (de_ix ix_seq op_ixP (de_var 0) de_int) da_nil)))))⟩
theorem D_allows_stale (C : Fx K mg) : Fd P w K mg base 4 "allows_stale" F_allows_stale := by
  obtain ⟨fd, F⟩ := C.def_ 89 _ rfl
  exact ⟨(C.glo 61 "allows_stale" rfl), F.kp, fd, ["wants", "rules", "late"], (F.bindsN fun _ _ _ _ _ _ us hl => match us, hl with | [_, _, _], _ => rfl), fn_body F sc_allows_stale fun cdv A outer s H E hr => (dss_cons (dst_setP (de_pure (D_directive C) (hr.mono (by decide)) (da_cons (de_var 0) (da_cons de_str da_nil))) (dg_t (dgs_cons 4 sc_allows_stale.nd (dgs_cons 5 sc_allows_stale.nd dgs_nil))))
  (dss_cons (dst_if (dt_w (dw_or (dt_not (dt_val (de_var 4))) (dw_or (dt_val (de_ix ix_seq op_ixP (de_pure (D_directive C) (hr.mono (by decide)) (da_cons (de_var 1) (da_cons de_str da_nil))) de_int)) (dw_or1 (dt_cmp op_notN1 op_notNP (de_pure (D_limit_of C) (hr.mono (by decide)) (da_cons (de_var 0) (da_cons de_str da_nil))) de_non))))) (dss_one (dst_ret de_bl)) dss_nil)
  (dss_cons (dst_if (dt_cmp op_isN1 op_isNP (de_var 5) de_non) (dss_one (dst_ret de_bl)) dss_nil)
  (dss_cons (dst_set 3 sc_allows_stale.nd (de_pure (D_seconds C) (hr.mono (by decide)) (da_cons (de_var 5) da_nil)))
  (dss_one (dst_ret (de_and (de_cmp op_notN1 op_notNP (de_var 3) de_non) (de_one (de_cmp or_le op_leP (de_var 2) (de_var 3))))))))))⟩
theorem D_is_usable (C : Fx K mg) : Fd P w K mg base 11 "is_usable" F_is_usable := by
  obtain ⟨fd, F⟩ := C.def_ 90 _ rfl
  exact ⟨(C.glo 62 "is_usable" rfl), F.kp, fd, ["entry", "request", "now"], (F.bindsN fun _ _ _ _ _ _ us hl => match us, hl with | [_, _, _], _ => rfl), fn_body F sc_is_usable fun cdv A outer s H E hr => (dss_cons (dst_set 3 sc_is_usable.nd (de_pure (D_read_directives C) (hr.mono (by decide)) (da_cons (de_ix ix_seq op_ixP (de_var 1) de_int) da_nil)))
  (dss_cons (dst_set 4 sc_is_usable.nd (de_pure (D_read_directives C) (hr.mono (by decide)) (da_cons (de_ix ix_seq op_ixP (de_ix ix_seq op_ixP (de_var 0) de_int) de_int) da_nil)))
  (dss_cons (dst_if (dt_w (dw_or (dt_val (de_ix ix_seq op_ixP (de_pure (D_directive C) (hr.mono (by decide)) (da_cons (de_var 3) (da_cons de_str da_nil))) de_int)) (dw_or1 (dt_val (de_ix ix_seq op_ixP (de_pure (D_directive C) (hr.mono (by decide)) (da_cons (de_var 4) (da_cons de_str da_nil))) de_int))))) (dss_one (dst_ret de_bl)) dss_nil)
  (dss_cons (dst_set 5 sc_is_usable.nd (de_pure (D_age C) (hr.mono (by decide)) (da_cons (de_var 0) (da_cons (de_var 2) da_nil))))
  (dss_cons (dst_set 6 sc_is_usable.nd (de_pure (D_limit_of C) (hr.mono (by decide)) (da_cons (de_var 3) (da_cons de_str da_nil))))
  (dss_cons (dst_if (dt_w (dw_and (dt_cmp op_notN1 op_notNP (de_var 6) de_non) (dw_and1 (dt_cmp op_lt op_ltP (de_var 6) (de_var 5))))) (dss_one (dst_ret de_bl)) dss_nil)
  (dss_cons (dst_set 7 sc_is_usable.nd (de_pure (D_entry_lifetime C) (hr.mono (by decide)) (da_cons (de_var 0) da_nil)))
  (dss_cons (dst_set 8 sc_is_usable.nd (de_pure (D_limit_of C) (hr.mono (by decide)) (da_cons (de_var 3) (da_cons de_str da_nil))))
  (dss_cons (dst_if (dt_w (dw_and (dt_cmp op_notN1 op_notNP (de_var 8) de_non) (dw_and1 (dt_cmp op_ge op_geP (de_op or_add op_addP (de_var 5) (de_var 8)) (de_var 7))))) (dss_one (dst_ret de_bl)) dss_nil)
  (dss_one (dst_ret (de_or (de_cmp op_lt op_ltP (de_var 5) (de_var 7)) (de_one (de_pure (D_allows_stale C) (hr.mono (by decide)) (da_cons (de_var 3) (da_cons (de_var 4) (da_cons (de_op op_sub op_subP (de_var 5) (de_var 7)) da_nil)))))))))))))))))⟩
theorem D_shown (C : Fx K mg) : Fd P w K mg base 10 "shown" F_shown := by
  obtain ⟨fd, F⟩ := C.def_ 91 _ rfl
  exact ⟨(C.glo 63 "shown" rfl), F.kp, fd, ["entry", "request", "now"], (F.bindsN fun _ _ _ _ _ _ us hl => match us, hl with | [_, _, _], _ => rfl), fn_body F sc_shown fun cdv A outer s H E hr => (dss_cons (dst_setP (de_ix ix_seq op_ixP (de_var 0) de_int) (dg_t (dgs_cons 6 sc_shown.nd (dgs_cons 7 sc_shown.nd (dgs_cons 8 sc_shown.nd (dgs_cons 9 sc_shown.nd dgs_nil))))))
  (dss_cons (dst_set 3 sc_shown.nd (de_op or_add op_addP (de_pure (D_without C) (hr.mono (by decide)) (da_cons (de_var 7) (da_cons (de_frz (dl_lst (da_cons de_str da_nil))) da_nil))) (de_tup (da_cons (de_tup (da_cons de_str (da_cons (de_callTy call_str_int str_P rfl (C.fre 5 "str" rfl) bo_str (da_cons (de_callB (call_min2 rfl) min2_P rfl (C.fre 2 "min" rfl) bo_min (da_cons (de_pure (D_age C) (hr.mono (by decide)) (da_cons (de_var 0) (da_cons (de_var 2) da_nil))) (da_cons (de_glob (C.con 8 "MOST_SECONDS" _ rfl) rfl) da_nil))) da_nil)) da_nil))) da_nil))))
  (dss_cons (dst_set 4 sc_shown.nd (de_pure (D_tag_value C) (hr.mono (by decide)) (da_cons (de_ix ix_seq op_ixP (de_var 0) de_int) da_nil)))
  (dss_cons (dst_set 5 sc_shown.nd (de_pure (D_modified_value C) (hr.mono (by decide)) (da_cons (de_ix ix_seq op_ixP (de_var 0) de_int) (da_cons (de_ix ix_seq op_ixP (de_var 0) de_int) da_nil))))
  (dss_cons (dst_if (dt_cmp (or_eq hr.units) op_eqP (de_ix ix_seq op_ixP (de_pure (D_judge C) (hr.mono (by decide)) (da_cons (de_ix ix_seq op_ixP (de_var 1) de_int) (da_cons (de_ix ix_seq op_ixP (de_var 1) de_int) (da_cons (de_var 4) (da_cons (de_var 5) (da_cons (de_var 2) da_nil)))))) de_int) de_int) (dss_one (dst_ret (de_tup (da_cons de_int (da_cons (de_callTy call_tuple_of tup_P rfl (C.fre 8 "tuple" rfl) bo_tuple (da_cons (de_frz (dl_lc [("field", 10)] sc_shown.nd (di_tup (de_var 3)) (blkOk_by (own := [("field", 10)]) (N := N_shown) (sc := defScope (top 89)) (by decide +kernel)) (fun _ _ _ _ _ => (dg_n 10 sc_shown.nd)) (fun _ _ _ _ _ => (dts_one (dt_cmp (or_in (u65 hr)) op_inP (de_ix ix_seq op_ixP (de_var 10) de_int) (de_glob (C.con 14 "TOLD" _ rfl) rfl)))) (fun _ _ _ _ _ => (de_var 10)))) da_nil)) (da_cons (de_tup da_nil) (da_cons (de_tup da_nil) da_nil))))))) dss_nil)
  (dss_one (dst_ret (de_tup (da_cons (de_var 6) (da_cons (de_var 3) (da_cons (de_var 8) (da_cons (de_var 9) da_nil))))))))))))⟩
theorem D_checking (C : Fx K mg) : Fd P w K mg base 9 "checking" F_checking := by
  obtain ⟨fd, F⟩ := C.def_ 92 _ rfl
  exact ⟨(C.glo 64 "checking" rfl), F.kp, fd, ["entry"], (F.bindsN fun _ _ _ _ _ _ us hl => match us, hl with | [_], _ => rfl), fn_body F sc_checking fun cdv A outer s H E hr => (dss_cons (dst_set 1 sc_checking.nd (de_ix ix_seq op_ixP (de_ix ix_seq op_ixP (de_var 0) de_int) de_int))
  (dss_cons (dst_if (dt_cmp op_notN1 op_notNP (de_pure (D_tag_value C) (hr.mono (by decide)) (da_cons (de_ix ix_seq op_ixP (de_var 0) de_int) da_nil)) de_non) (dss_one (dst_ret (de_tup (da_cons de_str (da_cons (de_ix ix_seq op_ixP (de_pure (D_values C) (hr.mono (by decide)) (da_cons (de_var 1) (da_cons de_str da_nil))) de_int) da_nil))))) dss_nil)
  (dss_cons (dst_if (dt_cmp op_notN1 op_notNP (de_pure (D_modified_value C) (hr.mono (by decide)) (da_cons (de_ix ix_seq op_ixP (de_var 0) de_int) (da_cons (de_ix ix_seq op_ixP (de_var 0) de_int) da_nil))) de_non) (dss_one (dst_ret (de_tup (da_cons de_str (da_cons (de_ix ix_seq op_ixP (de_pure (D_values C) (hr.mono (by decide)) (da_cons (de_var 1) (da_cons de_str da_nil))) de_int) da_nil))))) dss_nil)
  (dss_one (dst_ret de_non)))))⟩
theorem D_Keeper_check (C : Fx K mg) : Md P w K mg base 12 "Keeper" "check" F_Keeper_check := by
  obtain ⟨fd, F⟩ := C.def_ 93 _ rfl
  exact ⟨C.meth 9 "Keeper" "check" rfl, fd, ["self", "entry", "request", "now"], (F.bindsN fun _ _ _ _ _ _ us hl => match us, hl with | [_, _, _, _], _ => rfl), fn_body F sc_Keeper_check fun cdv A outer s H E hr => (dss_cons (dst_set 4 sc_Keeper_check.nd (de_op or_add op_addP (de_ix ix_seq op_ixP (de_var 2) de_int) (de_tup (da_cons (de_pure (D_checking C) (hr.mono (by decide)) (da_cons (de_var 1) da_nil)) da_nil))))
  (dss_cons (dst_set 5 sc_Keeper_check.nd (de_meth (C.cls 1 "Told" rfl) (D_Told_answer C) (hr.mono (by decide)) (de_fld (C.cls 2 "Keeper" rfl) (C.noat 4 "Keeper" "_origin" rfl) (de_var 0)) (da_cons (de_tup (da_cons (de_ix ix_seq op_ixP (de_var 2) de_int) (da_cons (de_ix ix_seq op_ixP (de_var 2) de_int) (da_cons (de_var 4) (da_cons (de_ix ix_seq op_ixP (de_var 2) de_int) (da_cons (de_ix ix_seq op_ixP (de_var 2) de_int) da_nil)))))) (da_cons (de_var 3) da_nil))))
  (dss_cons (dst_if (dt_cmp (or_ne hr.units) op_neP (de_ix ix_seq op_ixP (de_var 5) de_int) de_int) (dss_one (dst_ret (de_meth (C.cls 2 "Keeper" rfl) (D_Keeper_keep C) (hr.mono (by decide)) (de_var 0) (da_cons de_non (da_cons (de_var 2) (da_cons (de_var 5) (da_cons (de_var 3) da_nil))))))) dss_nil)
  (dss_cons (dst_set 6 sc_Keeper_check.nd (de_pure (D_freshened C) (hr.mono (by decide)) (da_cons (de_var 1) (da_cons (de_var 5) (da_cons (de_var 3) (da_cons (de_var 3) da_nil))))))
  (dss_cons (dst_drop (de_meth (C.cls 0 "Shelf" rfl) (D_Shelf_put C) (hr.mono (by decide)) (de_fld (C.cls 2 "Keeper" rfl) (C.noat 5 "Keeper" "_shelf" rfl) (de_var 0)) (da_cons (de_var 6) da_nil)))
  (dss_one (dst_ret (de_tup (da_cons (de_pure (D_shown C) (hr.mono (by decide)) (da_cons (de_var 6) (da_cons (de_var 2) (da_cons (de_var 3) da_nil)))) (da_cons de_str da_nil))))))))))⟩
theorem D_Keeper_ask (C : Fx K mg) : Md P w K mg base 13 "Keeper" "ask" F_Keeper_ask := by
  obtain ⟨fd, F⟩ := C.def_ 94 _ rfl
  exact ⟨C.meth 10 "Keeper" "ask" rfl, fd, ["self", "request", "now"], (F.bindsN fun _ _ _ _ _ _ us hl => match us, hl with | [_, _, _], _ => rfl), fn_body F sc_Keeper_ask fun cdv A outer s H E hr => (dss_cons (dst_if (dt_val (de_pure (D_is_passed_on C) (hr.mono (by decide)) (da_cons (de_var 1) da_nil))) (dss_one (dst_ret (de_meth (C.cls 2 "Keeper" rfl) (D_Keeper_pass_on C) (hr.mono (by decide)) (de_var 0) (da_cons (de_var 1) (da_cons (de_var 2) da_nil))))) dss_nil)
  (dss_cons (dst_set 3 sc_Keeper_ask.nd (de_meth (C.cls 0 "Shelf" rfl) (D_Shelf_find C) (hr.mono (by decide)) (de_fld (C.cls 2 "Keeper" rfl) (C.noat 5 "Keeper" "_shelf" rfl) (de_var 0)) (da_cons (de_var 1) da_nil)))
  (dss_cons (dst_if (dt_w (dw_and (dt_cmp op_notN1 op_notNP (de_var 3) de_non) (dw_and1 (dt_val (de_pure (D_is_usable C) (hr.mono (by decide)) (da_cons (de_var 3) (da_cons (de_var 1) (da_cons (de_var 2) da_nil)))))))) (dss_one (dst_ret (de_tup (da_cons (de_pure (D_shown C) (hr.mono (by decide)) (da_cons (de_var 3) (da_cons (de_var 1) (da_cons (de_var 2) da_nil)))) (da_cons de_str da_nil))))) dss_nil)
  (dss_cons (dst_if (dt_val (de_ix ix_seq op_ixP (de_pure (D_directive C) (hr.mono (by decide)) (da_cons (de_pure (D_read_directives C) (hr.mono (by decide)) (da_cons (de_ix ix_seq op_ixP (de_var 1) de_int) da_nil)) (da_cons de_str da_nil))) de_int)) (dss_one (dst_ret (de_tup (da_cons (de_tup (da_cons de_int (da_cons (de_tup (da_cons (de_tup (da_cons de_str (da_cons (de_pure (D_write_date C) (hr.mono (by decide)) (da_cons (de_var 2) da_nil)) da_nil))) da_nil)) (da_cons (de_tup da_nil) (da_cons (de_tup da_nil) da_nil))))) (da_cons de_str da_nil))))) dss_nil)
  (dss_cons (dst_if (dt_w (dw_and (dt_cmp op_notN1 op_notNP (de_var 3) de_non) (dw_and (dt_not (dt_val (de_pure (D_has_one C) (hr.mono (by decide)) (da_cons (de_ix ix_seq op_ixP (de_var 1) de_int) (da_cons (de_glob (C.con 13 "KNOWING" _ rfl) rfl) da_nil))))) (dw_and1 (dt_cmp op_notN1 op_notNP (de_pure (D_checking C) (hr.mono (by decide)) (da_cons (de_var 3) da_nil)) de_non))))) (dss_one (dst_ret (de_meth (C.cls 2 "Keeper" rfl) (D_Keeper_check C) (hr.mono (by decide)) (de_var 0) (da_cons (de_var 3) (da_cons (de_var 1) (da_cons (de_var 2) da_nil)))))) dss_nil)
  (dss_cons (dst_set 4 sc_Keeper_ask.nd (de_meth (C.cls 1 "Told" rfl) (D_Told_answer C) (hr.mono (by decide)) (de_fld (C.cls 2 "Keeper" rfl) (C.noat 4 "Keeper" "_origin" rfl) (de_var 0)) (da_cons (de_var 1) (da_cons (de_var 2) da_nil))))
  (dss_one (dst_ret (de_meth (C.cls 2 "Keeper" rfl) (D_Keeper_keep C) (hr.mono (by decide)) (de_var 0) (da_cons (de_var 3) (da_cons (de_var 1) (da_cons (de_var 4) (da_cons (de_var 2) da_nil)))))))))))))⟩
theorem D_Shelf_entries (C : Fx K mg) : Md P w K mg base 1 "Shelf" "entries" F_Shelf_entries := by
  obtain ⟨fd, F⟩ := C.def_ 95 _ rfl
  exact ⟨C.meth 11 "Shelf" "entries" rfl, fd, ["self"], (F.bindsN fun _ _ _ _ _ _ us hl => match us, hl with | [_], _ => rfl), fn_body F sc_Shelf_entries fun cdv A outer s H E hr => (dss_one (dst_ret (de_new (dl_lc [("row", 1)] sc_Shelf_entries.nd (di_list (de_fld (C.cls 0 "Shelf" rfl) (C.noat 1 "Shelf" "_rows" rfl) (de_var 0))) (blkOk_by (own := [("row", 1)]) (N := N_Shelf_entries) (sc := defScope (inClass (top 79) 1)) (by decide +kernel)) (fun _ _ _ _ _ => (dg_n 1 sc_Shelf_entries.nd)) (fun _ _ _ _ _ => dts_nil) (fun _ _ _ _ _ => (de_ix ix_seq op_ixP (de_var 1) de_int))))))⟩
theorem D_Keeper_entries (C : Fx K mg) : Md P w K mg base 2 "Keeper" "entries" F_Keeper_entries := by
  obtain ⟨fd, F⟩ := C.def_ 96 _ rfl
  exact ⟨C.meth 12 "Keeper" "entries" rfl, fd, ["self"], (F.bindsN fun _ _ _ _ _ _ us hl => match us, hl with | [_], _ => rfl), fn_body F sc_Keeper_entries fun cdv A outer s H E hr => (dss_one (dst_ret (de_meth0 (C.cls 0 "Shelf" rfl) (D_Shelf_entries C) (hr.mono (by decide)) (de_fld (C.cls 2 "Keeper" rfl) (C.noat 5 "Keeper" "_shelf" rfl) (de_var 0)))))⟩
theorem D_Told_asked (C : Fx K mg) : Md P w K mg base 1 "Told" "asked" F_Told_asked := by
  obtain ⟨fd, F⟩ := C.def_ 97 _ rfl
  exact ⟨C.meth 13 "Told" "asked" rfl, fd, ["self"], (F.bindsN fun _ _ _ _ _ _ us hl => match us, hl with | [_], _ => rfl), fn_body F sc_Told_asked fun cdv A outer s H E hr => (dss_one (dst_ret (de_callTy call_list_of list_P rfl (C.fre 7 "list" rfl) bo_list (da_cons (de_fld (C.cls 1 "Told" rfl) (C.noat 2 "Told" "_asked" rfl) (de_var 0)) da_nil))))⟩
theorem D_law (C : Fx K mg) {fd : FuncData} (F : FunD K "law" "law" (defArgs (top 115)) (defBody (top 115)) (defScope (top 115)) [] [] (He.ga K "law") fd) : FnOk P w K mg base CX0 14 (He.ga K "law") fd ["_law_script"] (spD K F_law) := fn_body F sc_law fun cdv A outer s H E hr => (dss_cons (dst_set 1 sc_law.nd (de_call (D__law_draw C) (hr.mono (by decide)) (da_cons (de_var 0) da_nil)))
  (dss_cons (dst_set 2 sc_law.nd (de_new (dl_lst da_nil)))
  (dss_cons (dst_for (di_range (C.fre 9 "range" rfl) (da_cons (de_op or_add op_addP de_int (de_one' (D__law_take C) (hr.mono (by decide)) (da_cons (de_var 1) (da_cons de_int da_nil)))) da_nil)) (dg_n 3 sc_law.nd) (dss_cons (dst_set 10 sc_law.nd (de_one' (D__law_response C) (hr.mono (by decide)) (da_cons (de_var 1) (da_cons (de_op or_add op_addP de_int (de_op op_mul op_mulP de_int (de_var 3))) da_nil))))
  (dss_cons (dst_if (dt_cmp (or_eq hr.units) op_eqP (de_one' (D__law_take C) (hr.mono (by decide)) (da_cons (de_var 1) (da_cons de_int da_nil))) de_int) (dss_one (dst_set 10 sc_law.nd (de_tup (da_cons de_int (da_cons (de_ix ix_seq op_ixP (de_var 10) de_int) (da_cons (de_tup da_nil) (da_cons (de_tup da_nil) da_nil))))))) dss_nil)
  (dss_one (dst_drop (de_app (de_var 2) (da_cons (de_var 10) da_nil)))))))
  (dss_cons (dst_set 4 sc_law.nd (de_make (C.mkr 1 "Told" rfl) (D_Told_init C) (hr.mono (by decide)) (C.glo 86 "Told" rfl) (da_cons (de_callTy call_list_of list_P rfl (C.fre 7 "list" rfl) bo_list (da_cons (de_var 2) da_nil)) da_nil)))
  (dss_cons (dst_set 5 sc_law.nd (de_one' (D__law_take C) (hr.mono (by decide)) (da_cons (de_var 1) (da_cons de_int da_nil))))
  (dss_cons (dst_set 6 sc_law.nd (de_make (C.mkr 2 "Keeper" rfl) (D_Keeper_init C) (hr.mono (by decide)) (C.glo 87 "Keeper" rfl) (da_cons (de_var 4) (da_cons (de_var 5) da_nil))))
  (dss_cons (dst_set 7 sc_law.nd (de_dict (dps_cons (de_frz (dl_lst da_nil)) (dps_cons de_int (dps_cons (de_var 5) dps_nil)))))
  (dss_cons (dst_set 8 sc_law.nd (de_new (dl_lst da_nil)))
  (dss_cons (dst_set 9 sc_law.nd de_int)
  (dss_cons (dst_for (di_range (C.fre 9 "range" rfl) (da_cons (de_one' (D__law_take C) (hr.mono (by decide)) (da_cons (de_var 1) (da_cons de_int da_nil))) da_nil)) (dg_n 3 sc_law.nd) (dss_cons (dst_set 9 sc_law.nd (de_op or_add op_addP (de_var 9) (de_ix ix_seq op_ixP (de_frz (dl_lst (da_cons de_int (da_cons de_int (da_cons de_int (da_cons de_int (da_cons de_int da_nil))))))) (de_one' (D__law_take C) (hr.mono (by decide)) (da_cons (de_var 1) (da_cons de_int da_nil))))))
  (dss_cons (dst_set 11 sc_law.nd (de_one' (D__law_ask C) (hr.mono (by decide)) (da_cons (de_var 1) da_nil)))
  (dss_cons (dst_set 12 sc_law.nd (de_one' (D__law_plan C) (hr.mono (by decide)) (da_cons (de_var 7) (da_cons (de_var 11) (da_cons (de_var 9) da_nil)))))
  (dss_cons (dst_set 13 sc_law.nd (de_pure (D__law_sent C) (hr.mono (by decide)) (da_cons (de_var 12) (da_cons (de_var 11) da_nil))))
  (dss_cons (dst_set 10 sc_law.nd de_non)
  (dss_cons (dst_if (dt_cmp op_notN1 op_notNP (de_var 13) de_non) (dss_cons (dst_drop (de_app (de_var 8) (da_cons (de_tup (da_cons (de_var 13) (da_cons (de_var 9) da_nil))) da_nil)))
  (dss_one (dst_set 10 sc_law.nd (de_ix ix_seq op_ixP (de_var 2) (de_op op_sub op_subP (de_callB (call_min2 rfl) min2_P rfl (C.fre 2 "min" rfl) bo_min (da_cons (de_callB call_len len_P rfl (C.fre 0 "len" rfl) bo_len (da_cons (de_var 8) da_nil)) (da_cons (de_callB call_len len_P rfl (C.fre 0 "len" rfl) bo_len (da_cons (de_var 2) da_nil)) da_nil))) de_int))))) dss_nil)
  (dss_cons (dst_set 14 sc_law.nd (de_one' (D__law_done C) (hr.mono (by decide)) (da_cons (de_var 7) (da_cons (de_var 12) (da_cons (de_var 11) (da_cons (de_var 10) (da_cons (de_var 9) da_nil)))))))
  (dss_cons (dst_set 15 sc_law.nd (de_meth (C.cls 2 "Keeper" rfl) (D_Keeper_ask C) (hr.mono (by decide)) (de_var 6) (da_cons (de_var 11) (da_cons (de_var 9) da_nil))))
  (dss_cons (dst_set 16 sc_law.nd (de_meth0 (C.cls 2 "Keeper" rfl) (D_Keeper_entries C) (hr.mono (by decide)) (de_var 6)))
  (dss_cons (dst_if (dt_w (dw_or (dt_cmp (or_ne hr.units) op_neP (de_var 15) (de_var 14)) (dw_or (dt_cmp (or_ne hr.units) op_neP (de_var 16) (de_frz (dl_lc [("_law_row", 17)] sc_law.nd (di_list (de_dget (u1 hr) (de_var 7))) (blkOk_by (own := [("_law_row", 17)]) (N := N_law) (sc := defScope (top 115)) (by decide +kernel)) (fun _ _ _ _ _ => (dg_n 17 sc_law.nd)) (fun _ _ _ _ _ => dts_nil) (fun _ _ _ _ _ => (de_ix ix_seq op_ixP (de_var 17) de_int))))) (dw_or1 (dt_cmp (or_ne hr.units) op_neP (de_meth0 (C.cls 1 "Told" rfl) (D_Told_asked C) (hr.mono (by decide)) (de_var 4)) (de_var 8)))))) (dss_one (dst_ret de_bl)) dss_nil)
  (dss_one (dst_drop (de_app (de_var 16) (da_cons (de_tup da_nil) da_nil)))))))))))))))
  (dss_one (dst_ret de_bl))))))))))))
end
end Ow
set_option Elab.async false
set_option linter.all false
set_option maxRecDepth 100000
set_option maxHeartbeats 0
namespace Ow
open PySem PySem.Spec PyProof.Rows L2
theorem ddInts {K : PySem.W.Frag} {H : Hp} : ∀ ns : List Int, DdAll K H (ns.map PyData.int) (ns.map V.int)
  | [] => rfl
  | n :: ns => ⟨_, _, rfl, rfl, ddInts ns⟩
theorem ddStrs {K : PySem.W.Frag} {H : Hp} : ∀ ns : List Str, DdAll K H (ns.map PyData.str) (ns.map V.str)
  | [] => rfl
  | n :: ns => ⟨_, _, rfl, rfl, ddStrs ns⟩
theorem gl_int {K : PySem.W.Frag} {mg : Str → Option Value} {x : Str} {i : Int} (h : ∃ t, mg x = some (.int i t)) : GlD K mg x (.int i) := by
  obtain ⟨t, h⟩ := h
  exact ⟨.int i, _, h, ⟨t, rfl⟩, fun _ => rfl⟩
theorem gl_str {K : PySem.W.Frag} {mg : Str → Option Value} {x i : Str} (h : ∃ t, mg x = some (.str i t)) : GlD K mg x (.str i) := by
  obtain ⟨t, h⟩ := h
  exact ⟨.str i, _, h, ⟨t, rfl⟩, fun _ => rfl⟩
theorem gl_ints {K : PySem.W.Frag} {mg : Str → Option Value} {x : Str} (ns : List Int) (h : mg x = some (.ref (He.ga K x))) (q : ∀ H, SqT K H (He.ga K x) (ns.map V.int)) : GlD K mg x (.tuple (ns.map PyData.int)) :=
  ⟨.ref (He.ga K x), _, h, rfl, fun H => ⟨_, _, rfl, q H, ddInts ns⟩⟩
theorem gl_strs {K : PySem.W.Frag} {mg : Str → Option Value} {x : Str} (ns : List Str) (h : mg x = some (.ref (He.ga K x))) (q : ∀ H, SqT K H (He.ga K x) (ns.map V.str)) : GlD K mg x (.tuple (ns.map PyData.str)) :=
  ⟨.ref (He.ga K x), _, h, rfl, fun H => ⟨_, _, rfl, q H, ddStrs ns⟩⟩
theorem fx_of {K : PySem.W.Frag} {h : Heap} {mg : Str → Option Value} (X : K.In h) (G : h.Ns mainGlobals mg) (c : He.SaysD fa_ fns K) (m0 : ex_ K = true) : Fx K mg := by
  obtain ⟨t_WEEKDAYS, m1⟩ := He.ba m0
  obtain ⟨t_MONTHS, m2⟩ := He.ba m1
  obtain ⟨t_LASTING, m3⟩ := He.ba m2
  obtain ⟨t_KEPT, m4⟩ := He.ba m3
  obtain ⟨t_STAYING, m5⟩ := He.ba m4
  obtain ⟨t_PASSING, m6⟩ := He.ba m5
  obtain ⟨t_KNOWING, m7⟩ := He.ba m6
  obtain ⟨t_TOLD, m8⟩ := He.ba m7
  have f_glo : ∀ (i : Nat) (x : Str), glos[i]? = some x → mg x = some (.ref (He.ga K x)) := by
    intro i x h
    match i, h with
    | 0, h => cases h; exact He.glo_ok X G (c.fact 0 (f := .glo "is_value_sign") rfl)
    | 1, h => cases h; exact He.glo_ok X G (c.fact 1 (f := .glo "sign_of") rfl)
    | 2, h => cases h; exact He.glo_ok X G (c.fact 2 (f := .glo "is_digit") rfl)
    | 3, h => cases h; exact He.glo_ok X G (c.fact 3 (f := .glo "is_letter") rfl)
    | 4, h => cases h; exact He.glo_ok X G (c.fact 4 (f := .glo "is_token_sign") rfl)
    | 5, h => cases h; exact He.glo_ok X G (c.fact 5 (f := .glo "is_token") rfl)
    | 6, h => cases h; exact He.glo_ok X G (c.fact 6 (f := .glo "lower") rfl)
    | 7, h => cases h; exact He.glo_ok X G (c.fact 7 (f := .glo "trimmed") rfl)
    | 8, h => cases h; exact He.glo_ok X G (c.fact 8 (f := .glo "values") rfl)
    | 9, h => cases h; exact He.glo_ok X G (c.fact 9 (f := .glo "without") rfl)
    | 10, h => cases h; exact He.glo_ok X G (c.fact 10 (f := .glo "read_quoted") rfl)
    | 11, h => cases h; exact He.glo_ok X G (c.fact 11 (f := .glo "cut") rfl)
    | 12, h => cases h; exact He.glo_ok X G (c.fact 12 (f := .glo "split_list") rfl)
    | 13, h => cases h; exact He.glo_ok X G (c.fact 13 (f := .glo "join_values") rfl)
    | 14, h => cases h; exact He.glo_ok X G (c.fact 14 (f := .glo "are_digits") rfl)
    | 15, h => cases h; exact He.glo_ok X G (c.fact 15 (f := .glo "days_of") rfl)
    | 16, h => cases h; exact He.glo_ok X G (c.fact 16 (f := .glo "date_of") rfl)
    | 17, h => cases h; exact He.glo_ok X G (c.fact 17 (f := .glo "length_of_month") rfl)
    | 18, h => cases h; exact He.glo_ok X G (c.fact 18 (f := .glo "weekday_of") rfl)
    | 19, h => cases h; exact He.glo_ok X G (c.fact 19 (f := .glo "write_date") rfl)
    | 20, h => cases h; exact He.glo_ok X G (c.fact 20 (f := .glo "number") rfl)
    | 21, h => cases h; exact He.glo_ok X G (c.fact 21 (f := .glo "read_clock") rfl)
    | 22, h => cases h; exact He.glo_ok X G (c.fact 22 (f := .glo "made") rfl)
    | 23, h => cases h; exact He.glo_ok X G (c.fact 23 (f := .glo "long_name") rfl)
    | 24, h => cases h; exact He.glo_ok X G (c.fact 24 (f := .glo "full_year") rfl)
    | 25, h => cases h; exact He.glo_ok X G (c.fact 25 (f := .glo "read_short") rfl)
    | 26, h => cases h; exact He.glo_ok X G (c.fact 26 (f := .glo "read_long") rfl)
    | 27, h => cases h; exact He.glo_ok X G (c.fact 27 (f := .glo "read_old") rfl)
    | 28, h => cases h; exact He.glo_ok X G (c.fact 28 (f := .glo "read_date") rfl)
    | 29, h => cases h; exact He.glo_ok X G (c.fact 29 (f := .glo "read_tag") rfl)
    | 30, h => cases h; exact He.glo_ok X G (c.fact 30 (f := .glo "read_tags") rfl)
    | 31, h => cases h; exact He.glo_ok X G (c.fact 31 (f := .glo "strong_match") rfl)
    | 32, h => cases h; exact He.glo_ok X G (c.fact 32 (f := .glo "weak_match") rfl)
    | 33, h => cases h; exact He.glo_ok X G (c.fact 33 (f := .glo "date_value") rfl)
    | 34, h => cases h; exact He.glo_ok X G (c.fact 34 (f := .glo "matches") rfl)
    | 35, h => cases h; exact He.glo_ok X G (c.fact 35 (f := .glo "tags_of") rfl)
    | 36, h => cases h; exact He.glo_ok X G (c.fact 36 (f := .glo "fails") rfl)
    | 37, h => cases h; exact He.glo_ok X G (c.fact 37 (f := .glo "is_known") rfl)
    | 38, h => cases h; exact He.glo_ok X G (c.fact 38 (f := .glo "wants_whole") rfl)
    | 39, h => cases h; exact He.glo_ok X G (c.fact 39 (f := .glo "judge") rfl)
    | 40, h => cases h; exact He.glo_ok X G (c.fact 40 (f := .glo "read_directive") rfl)
    | 41, h => cases h; exact He.glo_ok X G (c.fact 41 (f := .glo "read_directives") rfl)
    | 42, h => cases h; exact He.glo_ok X G (c.fact 42 (f := .glo "directive") rfl)
    | 43, h => cases h; exact He.glo_ok X G (c.fact 43 (f := .glo "seconds") rfl)
    | 44, h => cases h; exact He.glo_ok X G (c.fact 44 (f := .glo "date_of_field") rfl)
    | 45, h => cases h; exact He.glo_ok X G (c.fact 45 (f := .glo "told_lifetime") rfl)
    | 46, h => cases h; exact He.glo_ok X G (c.fact 46 (f := .glo "lifetime") rfl)
    | 47, h => cases h; exact He.glo_ok X G (c.fact 47 (f := .glo "age_when_come") rfl)
    | 48, h => cases h; exact He.glo_ok X G (c.fact 48 (f := .glo "age") rfl)
    | 49, h => cases h; exact He.glo_ok X G (c.fact 49 (f := .glo "entry_lifetime") rfl)
    | 50, h => cases h; exact He.glo_ok X G (c.fact 50 (f := .glo "vary_names") rfl)
    | 51, h => cases h; exact He.glo_ok X G (c.fact 51 (f := .glo "evened") rfl)
    | 52, h => cases h; exact He.glo_ok X G (c.fact 52 (f := .glo "fits") rfl)
    | 53, h => cases h; exact He.glo_ok X G (c.fact 53 (f := .glo "tag_value") rfl)
    | 54, h => cases h; exact He.glo_ok X G (c.fact 54 (f := .glo "modified_value") rfl)
    | 55, h => cases h; exact He.glo_ok X G (c.fact 55 (f := .glo "may_keep") rfl)
    | 56, h => cases h; exact He.glo_ok X G (c.fact 56 (f := .glo "freshened") rfl)
    | 57, h => cases h; exact He.glo_ok X G (c.fact 57 (f := .glo "date_rank") rfl)
    | 58, h => cases h; exact He.glo_ok X G (c.fact 58 (f := .glo "has_one") rfl)
    | 59, h => cases h; exact He.glo_ok X G (c.fact 59 (f := .glo "is_passed_on") rfl)
    | 60, h => cases h; exact He.glo_ok X G (c.fact 60 (f := .glo "limit_of") rfl)
    | 61, h => cases h; exact He.glo_ok X G (c.fact 61 (f := .glo "allows_stale") rfl)
    | 62, h => cases h; exact He.glo_ok X G (c.fact 62 (f := .glo "is_usable") rfl)
    | 63, h => cases h; exact He.glo_ok X G (c.fact 63 (f := .glo "shown") rfl)
    | 64, h => cases h; exact He.glo_ok X G (c.fact 64 (f := .glo "checking") rfl)
    | 65, h => cases h; exact He.glo_ok X G (c.fact 65 (f := .glo "agree") rfl)
    | 66, h => cases h; exact He.glo_ok X G (c.fact 66 (f := .glo "_law_draw") rfl)
    | 67, h => cases h; exact He.glo_ok X G (c.fact 67 (f := .glo "_law_take") rfl)
    | 68, h => cases h; exact He.glo_ok X G (c.fact 68 (f := .glo "_law_response") rfl)
    | 69, h => cases h; exact He.glo_ok X G (c.fact 69 (f := .glo "_law_ask") rfl)
    | 70, h => cases h; exact He.glo_ok X G (c.fact 70 (f := .glo "_law_put") rfl)
    | 71, h => cases h; exact He.glo_ok X G (c.fact 71 (f := .glo "_law_rank") rfl)
    | 72, h => cases h; exact He.glo_ok X G (c.fact 72 (f := .glo "_law_find") rfl)
    | 73, h => cases h; exact He.glo_ok X G (c.fact 73 (f := .glo "_law_rule") rfl)
    | 74, h => cases h; exact He.glo_ok X G (c.fact 74 (f := .glo "_law_limit") rfl)
    | 75, h => cases h; exact He.glo_ok X G (c.fact 75 (f := .glo "_law_usable") rfl)
    | 76, h => cases h; exact He.glo_ok X G (c.fact 76 (f := .glo "_law_tag") rfl)
    | 77, h => cases h; exact He.glo_ok X G (c.fact 77 (f := .glo "_law_modified") rfl)
    | 78, h => cases h; exact He.glo_ok X G (c.fact 78 (f := .glo "_law_shown") rfl)
    | 79, h => cases h; exact He.glo_ok X G (c.fact 79 (f := .glo "_law_has") rfl)
    | 80, h => cases h; exact He.glo_ok X G (c.fact 80 (f := .glo "_law_same_tag") rfl)
    | 81, h => cases h; exact He.glo_ok X G (c.fact 81 (f := .glo "_law_plan") rfl)
    | 82, h => cases h; exact He.glo_ok X G (c.fact 82 (f := .glo "_law_sent") rfl)
    | 83, h => cases h; exact He.glo_ok X G (c.fact 83 (f := .glo "_law_done") rfl)
    | 84, h => cases h; exact He.glo_ok X G (c.fact 84 (f := .glo "law") rfl)
    | 85, h => cases h; exact He.glo_ok X G (c.fact 85 (f := .glo "Shelf") rfl)
    | 86, h => cases h; exact He.glo_ok X G (c.fact 86 (f := .glo "Told") rfl)
    | 87, h => cases h; exact He.glo_ok X G (c.fact 87 (f := .glo "Keeper") rfl)
    | n + 88, h => exact absurd h (by simp)
  have f_fre : ∀ (i : Nat) (x : Str), frees[i]? = some x → mg x = none := by
    intro i x h
    match i, h with
    | 0, h => cases h; exact He.free_ok X G (c.fact 88 (f := .free "len") rfl)
    | 1, h => cases h; exact He.free_ok X G (c.fact 89 (f := .free "max") rfl)
    | 2, h => cases h; exact He.free_ok X G (c.fact 90 (f := .free "min") rfl)
    | 3, h => cases h; exact He.free_ok X G (c.fact 91 (f := .free "abs") rfl)
    | 4, h => cases h; exact He.free_ok X G (c.fact 92 (f := .free "int") rfl)
    | 5, h => cases h; exact He.free_ok X G (c.fact 93 (f := .free "str") rfl)
    | 6, h => cases h; exact He.free_ok X G (c.fact 94 (f := .free "ord") rfl)
    | 7, h => cases h; exact He.free_ok X G (c.fact 95 (f := .free "list") rfl)
    | 8, h => cases h; exact He.free_ok X G (c.fact 96 (f := .free "tuple") rfl)
    | 9, h => cases h; exact He.free_ok X G (c.fact 97 (f := .free "range") rfl)
    | n + 10, h => exact absurd h (by simp)
  have f_con : ∀ (i : Nat) (x : Str) (d : PyData), cons_[i]? = some (x, d) → GlD K mg x d := by
    intro i x d h
    match i, h with
    | 0, h => cases h; exact gl_str (He.str_ok X G (c.fact 98 (f := .str "SIGNS" " !\"#$&'()*+,-./0123456789:;<=>?@ABCDEFGHIJKLMNOPQRSTUVWXYZ[\\]^_`abcdefghijklmnopqrstuvwxyz{|}~") rfl))
    | 1, h => cases h; exact gl_str (He.str_ok X G (c.fact 99 (f := .str "TOKEN_MARKS" "!#$&'*+-.^_|~`") rfl))
    | 2, h => cases h; exact gl_int (He.int_ok X G (c.fact 100 (f := .int "PERCENT" 37) rfl))
    | 3, h => cases h; exact gl_int (He.int_ok X G (c.fact 101 (f := .int "TAB" 9) rfl))
    | 4, h => cases h; exact gl_str (He.str_ok X G (c.fact 102 (f := .str "DIGITS" "0123456789") rfl))
    | 5, h => cases h; exact gl_strs ["Monday", "Tuesday", "Wednesday", "Thursday", "Friday", "Saturday", "Sunday"] (He.glo_ok X G (c.fact 103 (f := .glo "WEEKDAYS") rfl)) fun H => He.tupB_ok t_WEEKDAYS H
    | 6, h => cases h; exact gl_strs ["Jan", "Feb", "Mar", "Apr", "May", "Jun", "Jul", "Aug", "Sep", "Oct", "Nov", "Dec"] (He.glo_ok X G (c.fact 104 (f := .glo "MONTHS") rfl)) fun H => He.tupB_ok t_MONTHS H
    | 7, h => cases h; exact gl_int (He.int_ok X G (c.fact 105 (f := .int "DAY" 86400) rfl))
    | 8, h => cases h; exact gl_int (He.int_ok X G (c.fact 106 (f := .int "MOST_SECONDS" 2147483648) rfl))
    | 9, h => cases h; exact gl_ints [200, 203, 204, 300, 301, 404, 405, 410, 414, 501] (He.glo_ok X G (c.fact 107 (f := .glo "LASTING") rfl)) fun H => He.tupB_ok t_LASTING H
    | 10, h => cases h; exact gl_ints [200, 203, 300, 301, 404, 410] (He.glo_ok X G (c.fact 108 (f := .glo "KEPT") rfl)) fun H => He.tupB_ok t_KEPT H
    | 11, h => cases h; exact gl_strs ["content-length", "content-range", "content-encoding", "content-type"] (He.glo_ok X G (c.fact 109 (f := .glo "STAYING") rfl)) fun H => He.tupB_ok t_STAYING H
    | 12, h => cases h; exact gl_strs ["range", "if-range", "if-match", "if-unmodified-since"] (He.glo_ok X G (c.fact 110 (f := .glo "PASSING") rfl)) fun H => He.tupB_ok t_PASSING H
    | 13, h => cases h; exact gl_strs ["if-none-match", "if-modified-since"] (He.glo_ok X G (c.fact 111 (f := .glo "KNOWING") rfl)) fun H => He.tupB_ok t_KNOWING H
    | 14, h => cases h; exact gl_strs ["date", "etag", "last-modified", "cache-control", "vary", "expires", "age"] (He.glo_ok X G (c.fact 112 (f := .glo "TOLD") rfl)) fun H => He.tupB_ok t_TOLD H
    | n + 15, h => exact absurd h (by simp)
  have f_cls : ∀ (i : Nat) (x : Str), clss[i]? = some x → Cls K (He.ga K x) := by
    intro i x h
    match i, h with
    | 0, h => cases h; exact He.cls_ok (c.fact 113 (f := .cls "Shelf") rfl)
    | 1, h => cases h; exact He.cls_ok (c.fact 114 (f := .cls "Told") rfl)
    | 2, h => cases h; exact He.cls_ok (c.fact 115 (f := .cls "Keeper") rfl)
    | n + 3, h => exact absurd h (by simp)
  have f_mkr : ∀ (i : Nat) (x : Str), clss[i]? = some x → Mk K (He.ga K x) (He.ma K (He.ga K x) "__init__") := by
    intro i x h
    match i, h with
    | 0, h => cases h; exact He.mkr_ok (c.fact 116 (f := .mkr "Shelf") rfl)
    | 1, h => cases h; exact He.mkr_ok (c.fact 117 (f := .mkr "Told") rfl)
    | 2, h => cases h; exact He.mkr_ok (c.fact 118 (f := .mkr "Keeper") rfl)
    | n + 3, h => exact absurd h (by simp)
  have f_noat : ∀ (i : Nat) (x f : Str), noats[i]? = some (x, f) → NoAttr K (He.ga K x) f := by
    intro i x f h
    match i, h with
    | 0, h => cases h; exact He.noat_ok (c.fact 119 (f := .noat "Shelf" "_room") rfl)
    | 1, h => cases h; exact He.noat_ok (c.fact 120 (f := .noat "Shelf" "_rows") rfl)
    | 2, h => cases h; exact He.noat_ok (c.fact 121 (f := .noat "Told" "_asked") rfl)
    | 3, h => cases h; exact He.noat_ok (c.fact 122 (f := .noat "Told" "_responses") rfl)
    | 4, h => cases h; exact He.noat_ok (c.fact 123 (f := .noat "Keeper" "_origin") rfl)
    | 5, h => cases h; exact He.noat_ok (c.fact 124 (f := .noat "Keeper" "_shelf") rfl)
    | n + 6, h => exact absurd h (by simp)
  have f_meth : ∀ (i : Nat) (x m : Str), meths[i]? = some (x, m) → Meth K (He.ga K x) m (He.ma K (He.ga K x) m) := by
    intro i x m h
    match i, h with
    | 0, h => cases h; exact He.meth_ok (c.fact 125 (f := .meth "Told" "__init__") rfl)
    | 1, h => cases h; exact He.meth_ok (c.fact 126 (f := .meth "Shelf" "__init__") rfl)
    | 2, h => cases h; exact He.meth_ok (c.fact 127 (f := .meth "Keeper" "__init__") rfl)
    | 3, h => cases h; exact He.meth_ok (c.fact 128 (f := .meth "Shelf" "find") rfl)
    | 4, h => cases h; exact He.meth_ok (c.fact 129 (f := .meth "Told" "answer") rfl)
    | 5, h => cases h; exact He.meth_ok (c.fact 130 (f := .meth "Shelf" "put") rfl)
    | 6, h => cases h; exact He.meth_ok (c.fact 131 (f := .meth "Keeper" "keep") rfl)
    | 7, h => cases h; exact He.meth_ok (c.fact 132 (f := .meth "Shelf" "drop") rfl)
    | 8, h => cases h; exact He.meth_ok (c.fact 133 (f := .meth "Keeper" "pass_on") rfl)
    | 9, h => cases h; exact He.meth_ok (c.fact 134 (f := .meth "Keeper" "check") rfl)
    | 10, h => cases h; exact He.meth_ok (c.fact 135 (f := .meth "Keeper" "ask") rfl)
    | 11, h => cases h; exact He.meth_ok (c.fact 136 (f := .meth "Shelf" "entries") rfl)
    | 12, h => cases h; exact He.meth_ok (c.fact 137 (f := .meth "Keeper" "entries") rfl)
    | 13, h => cases h; exact He.meth_ok (c.fact 138 (f := .meth "Told" "asked") rfl)
    | n + 14, h => exact absurd h (by simp)
  have mon : GlT K mg "MONTHS" months := ⟨He.glo_ok X G (c.fact 104 (f := .glo "MONTHS") rfl), fun H => He.tupB_ok t_MONTHS H, by
    split at m8
    · rename_i cc dt sl e
      exact ⟨_, e, congrArg Value.type (of_decide_eq_true m8), rfl⟩
    · cases m8⟩
  exact ⟨f_glo, f_fre, f_con, mon, f_cls, f_mkr, f_noat, f_meth, fun i d h => c.def_ i h⟩
end Ow
set_option Elab.async false
set_option linter.all false
set_option maxRecDepth 100000
set_option maxHeartbeats 0
section
open PySem PySem.W PySem.Calls PyProof.Rows
theorem Ow.walk_ (main : ∀ ns : List Int, ns.length ≤ 63 → ∃ M', Ow.F_law [.s (ns.map PyData.int)] [] = some (.d (.bool true), M')) : PySem.W.WalkO (PySem.W.view Ow.R_.prog [115]) Ow.loose_ (PySem.W.XL (PySem.W.view Ow.R_.prog [115]) []) Ow.hk_.says Ow.R_.toRowW (HandSHeadRun.topDef Ow.R_.prog 115) [] (fun f vs => PySem.call f vs) := by
  refine L2.walk_ofE (l := PySem.Challenge.rw_ownanswer_k72_whole_keeper_before_any_or) (n := 63) (k := 14) (x := "_law_script") (CX := L2.CX0) rfl (by decide) (by kernel_rfl) ⟨rfl, by decide, by decide⟩ ?F (fun _ _ _ _ z => z)
  intro w mg fa h Y G hmg0
  obtain ⟨K, KX, c⟩ := Y
  have hmg : mg ("law" : PySem.Str) = some (.ref fa) := by
    rw [← Ow.q10]
    exact hmg0
  have C := Ow.fx_of KX G (congrArg Prod.fst c) (congrArg Prod.snd c)
  obtain ⟨fd, F⟩ := C.def_ 98 _ rfl
  have e := hmg.symm.trans (C.glo 84 "law" rfl)
  cases e
  have b := L2.FunD.bindsA (ps := ["_law_script"]) F fun _ _ _ _ _ _ us hl => match us, hl with | [_], _ => rfl
  refine ⟨K, fd, Ow.spD K Ow.F_law, KX, fun s v => b s [v] rfl, fun H a ns hl _ hS => ?_, fun base _ _ => Ow.D_law C F⟩
  obtain ⟨M', e⟩ := main ns hl
  exact ⟨H, [], [], [.s (ns.map PyData.int)], .d (.bool true), M', ⟨Ow.Ex.refl _, rfl, List.nodup_nil, fun n a z => by simp at z⟩, ⟨_, _, rfl, ⟨a, _, rfl, hS, Ow.ddInts ns⟩, rfl⟩, e, fun v H0' H' th' _ _ r => r⟩
theorem Ow.holds_of (main : ∀ ns : List Int, ns.length ≤ 63 → ∃ M', Ow.F_law [.s (ns.map PyData.int)] [] = some (.d (.bool true), M')) : PySem.Challenge.rw_ownanswer_k72_whole_keeper_before_any_or.Holds :=
  Ow.head_ (Ow.walk_ main)
end
set_option Elab.async false
set_option linter.all false
set_option maxRecDepth 100000
set_option maxHeartbeats 4000000
namespace Ow
open PySem L2

/-! ### what a reading comes to -/
def wo {α : Type} (o : Option α) (Q : α → Prop) : Prop := ∃ a, o = some a ∧ Q a
theorem wo_some {α : Type} {a : α} {Q : α → Prop} : wo (some a) Q ↔ Q a := ⟨fun ⟨_, e, q⟩ => by cases e; exact q, fun q => ⟨a, rfl, q⟩⟩
theorem wo_none {α : Type} {Q : α → Prop} : wo (none : Option α) Q ↔ False := ⟨fun ⟨_, e, _⟩ => (nomatch e), False.elim⟩
theorem wo_bind {α β : Type} {o : Option α} {f : α → Option β} {Q : β → Prop} : wo (o.bind f) Q ↔ wo o fun a => wo (f a) Q :=
  ⟨fun ⟨b, e, q⟩ => let ⟨a, e1, e2⟩ := ob e; ⟨a, e1, b, e2, q⟩, fun ⟨a, e1, b, e2, q⟩ => ⟨b, by rw [e1]; exact e2, q⟩⟩
theorem wo_if {α : Type} {c : Prop} [Decidable c] {a : α} {Q : α → Prop} : wo (if c then some a else none) Q ↔ c ∧ Q a := by
  by_cases h : c
  · rw [if_pos h, wo_some]; exact ⟨fun q => ⟨h, q⟩, fun q => q.2⟩
  · rw [if_neg h, wo_none]; exact ⟨False.elim, fun q => h q.1⟩
theorem wo_mono {α : Type} {o : Option α} {Q R : α → Prop} (h : wo o Q) (k : ∀ a, Q a → R a) : wo o R := let ⟨a, e, q⟩ := h; ⟨a, e, k a q⟩
theorem wo_eq {α : Type} {o : Option α} {a : α} {Q : α → Prop} (e : o = some a) : wo o Q ↔ Q a := by rw [e, wo_some]
def wE (f : SE) (ds : DS) (M : Mem) (Q : DV → Mem → Prop) : Prop := wo (f ds M) fun x => Q x.1 x.2
def wT (f : ST) (ds : DS) (M : Mem) (Q : Bool → Mem → Prop) : Prop := wo (f ds M) fun x => Q x.1 x.2
def wA (f : SA) (ds : DS) (M : Mem) (Q : List DV → Mem → Prop) : Prop := wo (f ds M) fun x => Q x.1 x.2
def wL (f : SL) (ds : DS) (M : Mem) (Q : List PyData → Mem → Prop) : Prop := wo (f ds M) fun x => Q x.1 x.2
def wO (f : SO) (ds : DS) (M : Mem) (Q : Option Int → Mem → Prop) : Prop := wo (f ds M) fun x => Q x.1 x.2
def wI (f : SI) (ds : DS) (M : Mem) (Q : DV → List PyData → Mem → Prop) : Prop := wo (f ds M) fun x => Q x.1.1 x.1.2 x.2
def wS (g : SS) (ds : DS) (M : Mem) (D : Fl → Prop) : Prop := wo (g ds M) D
def wD (F : DF) (vs : List DV) (M : Mem) (Q : DV → Mem → Prop) : Prop := wo (F vs M) fun x => Q x.1 x.2
def wP (F : DF) (vs : List DV) (Q : PyData → Prop) : Prop := wo (pf F vs) Q
def wN (F : DF) (vs : List DV) (M : Mem) (Q : PyData → Mem → Prop) : Prop := wo (one F vs M) fun x => Q x.1 x.2
theorem wE.mono {f : SE} {ds : DS} {M : Mem} {Q R : DV → Mem → Prop} (h : wE f ds M Q) (k : ∀ a b, Q a b → R a b) : wE f ds M R := wo_mono h fun _ => k _ _
theorem wT.mono {f : ST} {ds : DS} {M : Mem} {Q R : Bool → Mem → Prop} (h : wT f ds M Q) (k : ∀ a b, Q a b → R a b) : wT f ds M R := wo_mono h fun _ => k _ _
theorem wS.mono {f : SS} {ds : DS} {M : Mem} {Q R : Fl → Prop} (h : wS f ds M Q) (k : ∀ a, Q a → R a) : wS f ds M R := wo_mono h k
theorem wD.mono {f : DF} {vs : List DV} {M : Mem} {Q R : DV → Mem → Prop} (h : wD f vs M Q) (k : ∀ a b, Q a b → R a b) : wD f vs M R := wo_mono h fun _ => k _ _
theorem wP.mono {f : DF} {vs : List DV} {Q R : PyData → Prop} (h : wP f vs Q) (k : ∀ a, Q a → R a) : wP f vs R := wo_mono h k
theorem wN.mono {f : DF} {vs : List DV} {M : Mem} {Q R : PyData → Mem → Prop} (h : wN f vs M Q) (k : ∀ a b, Q a b → R a b) : wN f vs M R := wo_mono h fun _ => k _ _
theorem wP_eq {F : DF} {vs : List DV} {z : PyData} {Q : PyData → Prop} (e : pf F vs = some z) : wP F vs Q ↔ Q z := wo_eq e
theorem wP_of {F : DF} {vs : List DV} {z : PyData} (h : wP F vs fun x => x = z) : pf F vs = some z := by obtain ⟨a, e, q⟩ := h; rw [e, show a = z from q]

/-! ### slots -/
def at_ (ds : DS) (i : Nat) : Option DV := match ds[i]? with
  | some (some d) => some d
  | _ => none
theorem at_0 {d : DV} {r : DS} : at_ (some d :: r) 0 = some d := rfl
theorem at_S {o : Option DV} {r : DS} {i : Nat} : at_ (o :: r) (i + 1) = at_ r i := rfl
section
variable {ds : DS} {M : Mem} {f g h : SE} {t u : ST} {fa : SA} {fl : SL} {l o' : SO} {Q : DV → Mem → Prop} {g1 g2 : SS} {D : Fl → Prop} {i j : Nat}
theorem wE_var : wE (sVar i) ds M Q ↔ wo (at_ ds i) fun d => Q d M := by
  unfold wE sVar at_
  cases e : ds[i]? with
  | none => exact ⟨fun q => (wo_none.mp q).elim, fun q => (wo_none.mp q).elim⟩
  | some d => cases d with
    | none => exact ⟨fun q => (wo_none.mp q).elim, fun q => (wo_none.mp q).elim⟩
    | some d => exact ⟨fun ⟨_, e, q⟩ => by cases e; exact ⟨_, rfl, q⟩, fun ⟨_, e, q⟩ => by cases e; exact ⟨_, rfl, q⟩⟩
theorem wE_c {x : PyData} : wE (sC x) ds M Q ↔ Q (.d x) M := wo_some
theorem wE_gf {x : Str} : wE (sGf x) ds M Q ↔ Q (.a x) M := wo_some
theorem wE_op {o : PyData → PyData → Option PyData} : wE (sOp o f g) ds M Q ↔ wE f ds M fun x M1 => wE g ds M1 fun y M2 => wo (view M2 x) fun dx => wo (view M2 y) fun dy => wo (o dx dy) fun z => Q (.d z) M2 := by
  simp only [wE, sOp, wo_bind, wo_some]
theorem wE_un {o : PyData → Option PyData} : wE (sUn o f) ds M Q ↔ wE f ds M fun x M1 => wo (view M1 x) fun dx => wo (o dx) fun z => Q (.d z) M1 := by
  simp only [wE, sUn, wo_bind, wo_some]
theorem wE_cb {o : List PyData → Option PyData} : wE (sCB o fa) ds M Q ↔ wA fa ds M fun x M1 => wo (views M1 x) fun dx => wo (o dx) fun z => Q (.d z) M1 := by
  simp only [wE, wA, sCB, wo_bind, wo_some]
def wZ (z : PyData) (Q : Bool → Prop) : Prop := ∃ b, z = .bool b ∧ Q b
theorem wZ_bool {b : Bool} {Q : Bool → Prop} : wZ (.bool b) Q ↔ Q b := ⟨fun ⟨_, e, q⟩ => by cases e; exact q, fun q => ⟨b, rfl, q⟩⟩
def wB (z : DV) (Q : Bool → Prop) : Prop := ∃ b, z = .d (.bool b) ∧ Q b
theorem wB_bool {b : Bool} {Q : Bool → Prop} : wB (.d (.bool b)) Q ↔ Q b := ⟨fun ⟨_, e, q⟩ => by cases e; exact q, fun q => ⟨b, rfl, q⟩⟩
theorem wE_chain {o o2 : PyData → PyData → Option PyData} : wE (sChain o o2 f g h) ds M Q ↔ wE f ds M fun x M1 => wE g ds M1 fun y M2 => wo (view M2 x) fun dx => wo (view M2 y) fun dy => wo (o dx dy) fun z => wZ z fun b =>
    (b = true → wE h ds M2 fun w M3 => wo (view M3 y) fun dy' => wo (view M3 w) fun dw => wo (o2 dy' dw) fun z' => Q (.d z') M3) ∧ (b = false → Q (.d (.bool false)) M2) := by
  simp only [wE, sChain, wo_bind, wo_some]
  refine ⟨fun q => ?_, fun q => ?_⟩
  · refine wo_mono q fun x q => wo_mono q fun y q => wo_mono q fun dx q => wo_mono q fun dy q => wo_mono q fun z q => ?_
    cases z with
    | bool b =>
      cases b with
      | true => refine ⟨true, rfl, fun _ => ?_, fun e => (nomatch e)⟩; simpa only [wo_bind, wo_some] using q
      | false => exact ⟨false, rfl, fun e => (nomatch e), fun _ => (by obtain ⟨_, e, q⟩ := q; cases e; exact q)⟩
    | _ => exact False.elim (wo_none.mp q)
  · refine wo_mono q fun x q => wo_mono q fun y q => wo_mono q fun dx q => wo_mono q fun dy q => wo_mono q fun z q => ?_
    obtain ⟨b, rfl, q1, q2⟩ := q
    cases b with
    | true => simp only [wo_bind, wo_some]; exact q1 rfl
    | false => exact ⟨_, rfl, q2 rfl⟩
theorem wT_isB {Q : Bool → Mem → Prop} : wT (isB f) ds M Q ↔ wE f ds M fun x M1 => wB x fun b => Q b M1 := by
  simp only [wT, wE, isB, wo_bind]
  refine ⟨fun q => wo_mono q fun x q => ?_, fun q => wo_mono q fun x q => ?_⟩
  · obtain ⟨x, M1⟩ := x
    cases x with
    | d x =>
      cases x with
      | bool b => exact ⟨b, rfl, (by obtain ⟨_, e, q⟩ := q; cases e; exact q)⟩
      | _ => exact False.elim (wo_none.mp q)
    | _ => exact False.elim (wo_none.mp q)
  · obtain ⟨x, M1⟩ := x
    obtain ⟨b, e, q⟩ := q
    have e : x = _ := e
    subst e
    exact ⟨_, rfl, q⟩
theorem wT_not {Q : Bool → Mem → Prop} : wT (sNot t) ds M Q ↔ wT t ds M fun b M1 => Q (!b) M1 := by simp only [wT, sNot, wo_bind, wo_some]
theorem wT_yes {Q : Bool → Mem → Prop} : wT sYes ds M Q ↔ Q true M := wo_some
theorem bool_two {α : Type} {b : Bool} {x y : Option α} {Q : α → Prop} : wo (match b with | true => x | false => y) Q ↔ (b = true → wo x Q) ∧ (b = false → wo y Q) := by
  cases b <;> simp
theorem wT_and {Q : Bool → Mem → Prop} : wT (sAnd t u) ds M Q ↔ wT t ds M fun b M1 => (b = true → wT u ds M1 Q) ∧ (b = false → Q false M1) := by
  simp only [wT, sAnd, wo_bind]
  refine ⟨fun q => wo_mono q fun x q => ?_, fun q => wo_mono q fun x q => ?_⟩ <;> obtain ⟨b, M1⟩ := x <;> cases b <;> simp_all [wo_some]
theorem wT_or {Q : Bool → Mem → Prop} : wT (sOr t u) ds M Q ↔ wT t ds M fun b M1 => (b = true → Q true M1) ∧ (b = false → wT u ds M1 Q) := by
  simp only [wT, sOr, wo_bind]
  refine ⟨fun q => wo_mono q fun x q => ?_, fun q => wo_mono q fun x q => ?_⟩ <;> obtain ⟨b, M1⟩ := x <;> cases b <;> simp_all [wo_some]
theorem wE_bools {x : DV} {M1 : Mem} {p q : Option (DV × Mem)} {R : DV × Mem → Prop} : wo (match x with
    | .d (.bool true) => p
    | .d (.bool false) => q
    | _ => none) R ↔ wB x fun b => (b = true → wo p R) ∧ (b = false → wo q R) := by
  refine ⟨fun h => ?_, fun ⟨b, e, h1, h2⟩ => ?_⟩
  · cases x with
    | d x =>
      cases x with
      | bool b => cases b <;> exact ⟨_, rfl, by simpa using h⟩
      | _ => exact False.elim (wo_none.mp h)
    | _ => exact False.elim (wo_none.mp h)
  · subst e
    cases b
    · exact h2 rfl
    · exact h1 rfl
theorem wE_and : wE (sAndV f g) ds M Q ↔ wE f ds M fun x M1 => wB x fun b => (b = true → wE g ds M1 Q) ∧ (b = false → Q (.d (.bool false)) M1) := by
  simp only [wE, sAndV, wo_bind]
  refine ⟨fun q => wo_mono q fun x q => ?_, fun q => wo_mono q fun x q => ?_⟩
  · have := (wE_bools (M1 := M)).mp q
    obtain ⟨b, e, q1, q2⟩ := this
    exact ⟨b, e, q1, fun z => (by obtain ⟨_, e, q⟩ := q2 z; cases e; exact q)⟩
  · obtain ⟨b, e, q1, q2⟩ := q
    exact (wE_bools (M1 := M)).mpr ⟨b, e, q1, fun z => ⟨_, rfl, q2 z⟩⟩
theorem wE_or : wE (sOrV f g) ds M Q ↔ wE f ds M fun x M1 => wB x fun b => (b = true → Q (.d (.bool true)) M1) ∧ (b = false → wE g ds M1 Q) := by
  simp only [wE, sOrV, wo_bind]
  refine ⟨fun q => wo_mono q fun x q => ?_, fun q => wo_mono q fun x q => ?_⟩
  · obtain ⟨x, M1⟩ := x
    cases x with
    | d x =>
      cases x with
      | bool b =>
        cases b with
        | true => exact ⟨true, rfl, fun _ => (by obtain ⟨_, e, q⟩ := q; cases e; exact q), fun e => (nomatch e)⟩
        | false => exact ⟨false, rfl, fun e => (nomatch e), fun _ => q⟩
      | _ => exact False.elim (wo_none.mp q)
    | _ => exact False.elim (wo_none.mp q)
  · obtain ⟨x, M1⟩ := x
    obtain ⟨b, e, q1, q2⟩ := q
    have e : x = _ := e
    subst e
    cases b
    · exact q2 rfl
    · exact ⟨_, rfl, q1 rfl⟩
theorem wE_notV : wE (sNotV f) ds M Q ↔ wE f ds M fun x M1 => wB x fun b => Q (.d (.bool (!b))) M1 := by
  simp only [wE, sNotV, wo_bind]
  refine ⟨fun q => wo_mono q fun x q => ?_, fun q => wo_mono q fun x q => ?_⟩
  · obtain ⟨x, M1⟩ := x
    cases x with
    | d x =>
      cases x with
      | bool b => exact ⟨b, rfl, (by obtain ⟨_, e, q⟩ := q; cases e; exact q)⟩
      | _ => exact False.elim (wo_none.mp q)
    | _ => exact False.elim (wo_none.mp q)
  · obtain ⟨x, M1⟩ := x
    obtain ⟨b, e, q⟩ := q
    have e : x = _ := e
    subst e
    exact ⟨_, rfl, q⟩
theorem wE_if : wE (sIfE t f g) ds M Q ↔ wT t ds M fun b M1 => (b = true → wE f ds M1 Q) ∧ (b = false → wE g ds M1 Q) := by
  simp only [wE, wT, sIfE, wo_bind]
  refine ⟨fun q => wo_mono q fun x q => ?_, fun q => wo_mono q fun x q => ?_⟩ <;> obtain ⟨b, M1⟩ := x <;> cases b <;> simp_all
theorem wA_nil {Q : List DV → Mem → Prop} : wA sNil ds M Q ↔ Q [] M := wo_some
theorem wA_cons {Q : List DV → Mem → Prop} : wA (sCons f fa) ds M Q ↔ wE f ds M fun x M1 => wA fa ds M1 fun xs M2 => Q (x :: xs) M2 := by simp only [wA, wE, sCons, wo_bind, wo_some]
theorem wE_tup : wE (sTup fa) ds M Q ↔ wA fa ds M fun x M1 => wo (asDs x) fun xs => xs.length ≤ lim ∧ Q (.d (.tuple xs)) M1 := by simp only [wE, wA, sTup, wo_bind, wo_if]
theorem wL_lst {Q : List PyData → Mem → Prop} : wL (sLst fa) ds M Q ↔ wA fa ds M fun x M1 => wo (asDs x) fun xs => xs.length ≤ lim ∧ Q xs M1 := by simp only [wL, wA, sLst, wo_bind, wo_if]
theorem wE_frz : wE (sFrz fl) ds M Q ↔ wL fl ds M fun x M1 => Q (.d (.list x)) M1 := by simp only [wE, wL, sFrz, wo_bind, wo_some]
theorem wE_new : wE (sNew fl) ds M Q ↔ wL fl ds M fun x M1 => Q (.r M1.length) (M1 ++ [.lst x]) := by simp only [wE, wL, sNew, wo_bind, wo_some]
theorem wO_none {Q : Option Int → Mem → Prop} : wO sNoP ds M Q ↔ Q none M := wo_some
def wZi (z : DV) (Q : Int → Prop) : Prop := ∃ b, z = .d (.int b) ∧ Q b
theorem wZi_int {b : Int} {Q : Int → Prop} : wZi (.d (.int b)) Q ↔ Q b := ⟨fun ⟨_, e, q⟩ => by cases e; exact q, fun q => ⟨b, rfl, q⟩⟩
theorem wO_part {Q : Option Int → Mem → Prop} : wO (sPart f) ds M Q ↔ wE f ds M fun x M1 => wZi x fun i => Q (some i) M1 := by
  simp only [wO, wE, sPart, wo_bind]
  refine ⟨fun q => wo_mono q fun x q => ?_, fun q => wo_mono q fun x q => ?_⟩
  · obtain ⟨x, M1⟩ := x
    cases x with
    | d x =>
      cases x with
      | int b => exact ⟨b, rfl, (by obtain ⟨_, e, q⟩ := q; cases e; exact q)⟩
      | _ => exact False.elim (wo_none.mp q)
    | _ => exact False.elim (wo_none.mp q)
  · obtain ⟨x, M1⟩ := x
    obtain ⟨b, e, q⟩ := q
    have e : x = _ := e
    subst e
    exact ⟨_, rfl, q⟩
theorem wE_sl {o : PyData → Option Int → Option Int → Option PyData} : wE (sSl o f l o') ds M Q ↔ wE f ds M fun x M1 => wO l ds M1 fun a M2 => wO o' ds M2 fun b M3 => wo (view M3 x) fun dx => wo (o dx a b) fun z => Q (.d z) M3 := by
  simp only [wE, wO, sSl, wo_bind, wo_some]
theorem wE_fld {x m : Str} : wE (sFld x m f) ds M Q ↔ wE f ds M fun r M1 => wo (ref r) fun n => wo (insAt x M1 n) fun fs => wo (fs.lookup m) fun d => Q d M1 := by simp only [wE, sFld, wo_bind, wo_some]
theorem wE_app : wE (sApp f fa) ds M Q ↔ wE f ds M fun r M1 => wo (ref r) fun n => wo (lstAt M1 n) fun _ => wA fa ds M1 fun u M2 => ∃ x, u = [x] ∧ wo (asD x) fun d => wo (lstAt M2 n) fun xs => xs.length < lim ∧ Q (.d .none) (M2.set n (.lst (xs ++ [d]))) := by
  simp only [wE, wA, sApp, wo_bind]
  refine ⟨fun q => wo_mono q fun r q => wo_mono q fun n q => wo_mono q fun _ q => wo_mono q fun u q => ?_, fun q => wo_mono q fun r q => wo_mono q fun n q => wo_mono q fun _ q => wo_mono q fun u q => ?_⟩
  · obtain ⟨u, M2⟩ := u
    cases u with
    | nil => exact False.elim (wo_none.mp q)
    | cons x r =>
      cases r with
      | cons _ _ => exact False.elim (wo_none.mp q)
      | nil => exact ⟨x, rfl, by simpa only [wo_bind, wo_if] using q⟩
  · obtain ⟨u, M2⟩ := u
    obtain ⟨x, e, q⟩ := q
    have e : u = _ := e
    subst e
    simpa only [wo_bind, wo_if] using q
theorem wE_ext : wE (sExt f fl) ds M Q ↔ wE f ds M fun r M1 => wo (ref r) fun n => wo (lstAt M1 n) fun _ => wL fl ds M1 fun u M2 => wo (lstAt M2 n) fun xs => xs.length + u.length ≤ lim ∧ Q (.d .none) (M2.set n (.lst (xs ++ u))) := by
  simp only [wE, wL, sExt, wo_bind, wo_if]
theorem wE_dget {k : Str} : wE (sDGet k f) ds M Q ↔ wE f ds M fun r M1 => wo (ref r) fun n => wo (dicAt M1 n) fun kvs => wo (lookK kvs k) fun d => Q (.d d) M1 := by simp only [wE, sDGet, wo_bind, wo_some]
theorem wE_call {F : DF} : wE (sCall F fa) ds M Q ↔ wA fa ds M fun vs M1 => wD F vs M1 Q := by simp only [wE, wA, wD, sCall, wo_bind]
theorem wE_pure {F : DF} : wE (sPure F fa) ds M Q ↔ wA fa ds M fun vs M1 => wP F vs fun z => Q (.d z) M1 := by simp only [wE, wA, wP, sPure, wo_bind, wo_some]
theorem wE_one {F : DF} : wE (sOne F fa) ds M Q ↔ wA fa ds M fun vs M1 => wN F vs M1 fun z M2 => Q (.d z) M2 := by simp only [wE, wA, wN, sOne, wo_bind, wo_some]
theorem wE_meth {x m : Str} {F : DF} : wE (sMeth x m F f fa) ds M Q ↔ wE f ds M fun r M1 => wo (ref r) fun n => wo (insAt x M1 n) fun fs => fs.lookup m = none ∧ wA fa ds M1 fun ys M2 => wD F (.r n :: ys) M2 Q := by
  simp only [wE, wA, wD, sMeth, wo_bind]
  refine ⟨fun q => wo_mono q fun r q => wo_mono q fun n q => wo_mono q fun fs q => ?_, fun q => wo_mono q fun r q => wo_mono q fun n q => wo_mono q fun fs q => ?_⟩
  · cases e : fs.lookup m with
    | some d => rw [e] at q; exact False.elim (wo_none.mp q)
    | none => rw [e] at q; exact ⟨rfl, by simpa only [wo_bind] using q⟩
  · rw [q.1]
    simpa only [wo_bind] using q.2
def wU (z : DV) (Q : Prop) : Prop := z = .d .none ∧ Q
theorem wU_none {Q : Prop} : wU (.d .none) Q ↔ Q := ⟨fun h => h.2, fun h => ⟨rfl, h⟩⟩
theorem wE_make {x : Str} {F : DF} : wE (sMake x F fa) ds M Q ↔ wA fa ds M fun ys M1 => wD F (.r M1.length :: ys) (M1 ++ [.ins x []]) fun r M2 => wU r (Q (.r M1.length) M2) := by
  simp only [wE, wA, wD, sMake, wo_bind]
  refine ⟨fun q => wo_mono q fun y q => wo_mono q fun r q => ?_, fun q => wo_mono q fun y q => wo_mono q fun r q => ?_⟩
  · obtain ⟨r, M2⟩ := r
    cases r with
    | d r =>
      cases r with
      | none => exact ⟨rfl, (by obtain ⟨_, e, q⟩ := q; cases e; exact q)⟩
      | _ => exact False.elim (wo_none.mp q)
    | _ => exact False.elim (wo_none.mp q)
  · obtain ⟨r, M2⟩ := r
    obtain ⟨e, q⟩ := q
    have e : r = _ := e
    subst e
    exact ⟨_, rfl, q⟩
theorem wE_loc {S : Str → Option DF} : wE (sLoc i S fa) ds M Q ↔ wo (at_ ds i) fun d => ∃ x, d = .a x ∧ wo (S x) fun F => wA fa ds M fun ys M1 => wP F ys fun z => Q (.d z) M1 := by
  unfold wE sLoc at_
  cases e : ds[i]? with
  | none => exact ⟨fun q => (wo_none.mp q).elim, fun q => (wo_none.mp q).elim⟩
  | some d => cases d with
    | none => exact ⟨fun q => (wo_none.mp q).elim, fun q => (wo_none.mp q).elim⟩
    | some d => cases d with
      | a x =>
        show wo ((S x).bind fun F => (fa ds M).bind fun y => (pf F y.1).bind fun z => some (DV.d z, y.2)) _ ↔ wo (some (DV.a x)) _
        rw [wo_some]
        simp only [wo_bind, wA, wP, wo_some]
        exact ⟨fun q => ⟨x, rfl, q⟩, fun ⟨y, e, q⟩ => by cases e; exact q⟩
      | _ => exact ⟨fun q => (wo_none.mp q).elim, fun q => by
          obtain ⟨_, e, x, e2, _⟩ := q
          cases e
          cases e2⟩
def wZs (z : DV) (Q : Str → Prop) : Prop := ∃ b, z = .d (.str b) ∧ Q b
theorem wZs_str {b : Str} {Q : Str → Prop} : wZs (.d (.str b)) Q ↔ Q b := ⟨fun ⟨_, e, q⟩ => by cases e; exact q, fun q => ⟨b, rfl, q⟩⟩
theorem on_str {α : Type} {x : DV} {p : Str → Option α} {R : α → Prop} : wo (match x with
    | .d (.str a) => p a
    | _ => none) R ↔ wZs x fun a => wo (p a) R := by
  refine ⟨fun h => ?_, fun ⟨b, e, h⟩ => by subst e; exact h⟩
  cases x with
  | d x =>
    cases x with
    | str b => exact ⟨b, rfl, h⟩
    | _ => exact False.elim (wo_none.mp h)
  | _ => exact False.elim (wo_none.mp h)
theorem wE_m0 {o : Str → Option PyData} : wE (sM0 o f) ds M Q ↔ wE f ds M fun x M1 => wZs x fun a => wo (o a) fun z => Q (.d z) M1 := by
  simp only [wE, sM0, wo_bind]
  refine ⟨fun q => wo_mono q fun x q => ?_, fun q => wo_mono q fun x q => ?_⟩
  · obtain ⟨x, M1⟩ := x
    cases x with
    | d x =>
      cases x with
      | str b => exact ⟨b, rfl, by simpa only [wo_bind, wo_some] using q⟩
      | _ => exact (wo_none.mp q).elim
    | _ => exact (wo_none.mp q).elim
  · obtain ⟨x, M1⟩ := x
    obtain ⟨b, e, q⟩ := q
    have e : x = _ := e
    subst e
    simpa only [wo_bind, wo_some] using q
theorem wE_m1 {o : Str → PyData → Option PyData} : wE (sM1 o f g) ds M Q ↔ wE f ds M fun x M1 => wZs x fun a => wE g ds M1 fun y M2 => wo (view M2 y) fun dy => wo (o a dy) fun z => Q (.d z) M2 := by
  simp only [wE, sM1, wo_bind]
  refine ⟨fun q => wo_mono q fun x q => ?_, fun q => wo_mono q fun x q => ?_⟩
  · obtain ⟨x, M1⟩ := x
    cases x with
    | d x =>
      cases x with
      | str b => exact ⟨b, rfl, by simpa only [wo_bind, wo_some] using q⟩
      | _ => exact (wo_none.mp q).elim
    | _ => exact (wo_none.mp q).elim
  · obtain ⟨x, M1⟩ := x
    obtain ⟨b, e, q⟩ := q
    have e : x = _ := e
    subst e
    simpa only [wo_bind, wo_some] using q
theorem wE_index {ys : List Str} : wE (sIndex ys f) ds M Q ↔ wE f ds M fun x M1 => wZs x fun z => wo (ys.findIdx? fun y => decide (y = z)) fun j => Q (.d (.int (j : Nat))) M1 := by
  simp only [wE, sIndex, wo_bind]
  refine ⟨fun q => wo_mono q fun x q => ?_, fun q => wo_mono q fun x q => ?_⟩
  · obtain ⟨x, M1⟩ := x
    cases x with
    | d x =>
      cases x with
      | str b => exact ⟨b, rfl, by simpa only [wo_bind, wo_some] using q⟩
      | _ => exact (wo_none.mp q).elim
    | _ => exact (wo_none.mp q).elim
  · obtain ⟨x, M1⟩ := x
    obtain ⟨b, e, q⟩ := q
    have e : x = _ := e
    subst e
    simpa only [wo_bind, wo_some] using q
theorem wE_maxD : wE (sMaxD f g) ds M Q ↔ wE f ds M fun x M1 => wE g ds M1 fun y M2 => wo (view M2 x) fun dx => wZi y fun d => ∃ xs, dx = .list xs ∧ wo (intsO xs) fun ns => Q (.d (.int (maxI d ns))) M2 := by
  simp only [wE, sMaxD, wo_bind]
  refine ⟨fun q => wo_mono q fun x q => wo_mono q fun y q => wo_mono q fun dx q => ?_, fun q => wo_mono q fun x q => wo_mono q fun y q => wo_mono q fun dx q => ?_⟩
  · split at q
    · rename_i xs d e
      exact ⟨d, e, xs, rfl, by simpa only [wo_bind, wo_some] using q⟩
    · exact False.elim (wo_none.mp q)
  · obtain ⟨d, e, xs, rfl, q⟩ := q
    rw [e]
    simpa only [wo_bind, wo_some] using q
def wJ (fs : List SE) (acc : Str) (ds : DS) (M : Mem) (Q : Str → Mem → Prop) : Prop := wo (sJs fs acc ds M) fun x => Q x.1 x.2
theorem wE_joined {fs : List SE} : wE (sJoin fs) ds M Q ↔ wJ fs Str.empty ds M fun z M1 => Q (.d (.str z)) M1 := by simp only [wE, wJ, sJoin, wo_bind, wo_some]
theorem wJ_nil {acc : Str} {Q : Str → Mem → Prop} : wJ [] acc ds M Q ↔ Q acc M := wo_some
theorem wJ_cons {acc : Str} {fs : List SE} {Q : Str → Mem → Prop} : wJ (f :: fs) acc ds M Q ↔ wE f ds M fun x M1 => wZs x fun y => (acc ++ y).length ≤ lim ∧ wJ fs (acc ++ y) ds M1 Q := by
  simp only [wJ, wE, sJs, wo_bind]
  refine ⟨fun q => wo_mono q fun x q => ?_, fun q => wo_mono q fun x q => ?_⟩
  · obtain ⟨x, M1⟩ := x
    cases x with
    | d x =>
      cases x with
      | str b =>
        refine ⟨b, rfl, ?_⟩
        have q : wo (if (acc ++ b).length ≤ lim then sJs fs (acc ++ b) ds M1 else none) (fun x => Q x.1 x.2) := q
        by_cases hl : (acc ++ b).length ≤ lim
        · rw [if_pos hl] at q; exact ⟨hl, q⟩
        · rw [if_neg hl] at q; exact (wo_none.mp q).elim
      | _ => exact (wo_none.mp q).elim
    | _ => exact (wo_none.mp q).elim
  · obtain ⟨x, M1⟩ := x
    obtain ⟨b, e, q1, q2⟩ := q
    have e : x = _ := e
    subst e
    show wo (if (acc ++ b).length ≤ lim then sJs fs (acc ++ b) ds M1 else none) (fun x => Q x.1 x.2)
    rw [if_pos q1]
    exact q2
theorem wE_dict {l : List (Str × SE)} : wE (sDict l) ds M Q ↔ wo (sPairs l ds M) fun x => Q (.r x.2.length) (x.2 ++ [.dic (x.1.foldl (fun acc p => putKD acc p.1 p.2) [])]) := by simp only [wE, sDict, wo_bind, wo_some]
theorem wo_pairs0 {Q : List (Str × PyData) × Mem → Prop} : wo (sPairs [] ds M) Q ↔ Q ([], M) := wo_some
theorem wo_pairs1 {k : Str} {l : List (Str × SE)} {Q : List (Str × PyData) × Mem → Prop} : wo (sPairs ((k, f) :: l) ds M) Q ↔ wE f ds M fun x M1 => wo (asD x) fun d => wo (sPairs l ds M1) fun y => Q ((k, d) :: y.1, y.2) := by
  simp only [wE, sPairs, wo_bind, wo_some]

/-! ### statements -/
def kSeq (g : SS) (D : Fl → Prop) : Fl → Prop
  | .nx ds M => wS g ds M D
  | fl => D fl
theorem kSeq_nx : kSeq g2 D (.nx ds M) ↔ wS g2 ds M D := Iff.rfl
theorem kSeq_ct : kSeq g2 D (.ct ds M) ↔ D (.ct ds M) := Iff.rfl
theorem kSeq_rt {r : DV} : kSeq g2 D (.rt r M) ↔ D (.rt r M) := Iff.rfl
theorem wS_seq : wS (sSeq g1 g2) ds M D ↔ wS g1 ds M (kSeq g2 D) := by
  simp only [wS, sSeq, wo_bind]
  refine ⟨fun q => wo_mono q fun fl q => ?_, fun q => wo_mono q fun fl q => ?_⟩
  · cases fl <;> first | exact q | exact (by obtain ⟨_, e, q⟩ := q; cases e; exact q)
  · cases fl <;> first | exact q | exact ⟨_, rfl, q⟩
theorem wS_skip : wS sSkip ds M D ↔ D (.nx ds M) := wo_some
theorem wS_cont : wS sCont ds M D ↔ D (.ct ds M) := wo_some
theorem wS_set : wS (sSet i f) ds M D ↔ wE f ds M fun x M1 => D (.nx (ds.set i (some x)) M1) := by simp only [wS, wE, sSet, wo_bind, wo_some]
theorem wS_ret : wS (sRet f) ds M D ↔ wE f ds M fun x M1 => D (.rt x M1) := by simp only [wS, wE, sRet, wo_bind, wo_some]
theorem wS_drop : wS (sDrop f) ds M D ↔ wE f ds M fun x M1 => D (.nx ds M1) := by simp only [wS, wE, sDrop, wo_bind, wo_some]
theorem wS_if : wS (sIf t g1 g2) ds M D ↔ wT t ds M fun b M1 => (b = true → wS g1 ds M1 D) ∧ (b = false → wS g2 ds M1 D) := by
  simp only [wS, wT, sIf, wo_bind]
  refine ⟨fun q => wo_mono q fun x q => ?_, fun q => wo_mono q fun x q => ?_⟩ <;> obtain ⟨b, M1⟩ := x <;> cases b <;> simp_all
theorem wS_setP {p : Pat} : wS (sSetP p f) ds M D ↔ wE f ds M fun x M1 => wo (asD x) fun d => wo (bindP p d ds) fun ds' => D (.nx ds' M1) := by simp only [wS, wE, sSetP, wo_bind, wo_some]
theorem wS_par : wS (sPar i j fa) ds M D ↔ wA fa ds M fun x M1 => ∃ u v, x = [u, v] ∧ D (.nx ((ds.set i (some u)).set j (some v)) M1) := by
  simp only [wS, wA, sPar, wo_bind]
  refine ⟨fun q => wo_mono q fun x q => ?_, fun q => wo_mono q fun x q => ?_⟩
  · split at q
    · rename_i u v e; exact ⟨u, v, e, (by obtain ⟨_, e, q⟩ := q; cases e; exact q)⟩
    · exact (wo_none.mp q).elim
  · obtain ⟨u, v, e, q⟩ := q
    rw [e]
    exact ⟨_, rfl, q⟩
theorem wS_aug {o : PyData → PyData → Option PyData} : wS (sAug i o f) ds M D ↔ wo (at_ ds i) fun d => wo (asD d) fun x => wE f ds M fun y M1 => wo (view M1 y) fun dy => wo (o x dy) fun z => D (.nx (ds.set i (some (.d z))) M1) := by
  unfold wS sAug at_
  cases e : ds[i]? with
  | none => exact ⟨fun q => (wo_none.mp q).elim, fun q => (wo_none.mp q).elim⟩
  | some d => cases d with
    | none => exact ⟨fun q => (wo_none.mp q).elim, fun q => (wo_none.mp q).elim⟩
    | some d => cases d with
      | d x =>
        show wo ((f ds M).bind fun y => (view y.2 y.1).bind fun dy => (o x dy).bind fun z => some (Fl.nx (ds.set i (some (.d z))) y.2)) _ ↔ wo (some (DV.d x)) _
        rw [wo_some]
        simp only [asD, wo_some, wo_bind, wE]
      | _ => exact ⟨fun q => (wo_none.mp q).elim, fun q => by
          obtain ⟨_, e, _, e2, _⟩ := q
          cases e
          cases e2⟩
theorem wS_fset {x m : Str} {fo fv : SE} : wS (sFldSet x m fo fv) ds M D ↔ wE fv ds M fun v M1 => wE fo ds M1 fun r M2 => wo (ref r) fun n => wo (insAt x M2 n) fun fs => fs.length < 100 ∧ D (.nx ds (M2.set n (.ins x (putD m v fs)))) := by
  simp only [wS, wE, sFldSet, wo_bind, wo_if]
theorem on_int {α : Type} {x : DV} {p : Int → Option α} {R : α → Prop} : wo (match x with
    | .d (.int a) => p a
    | _ => none) R ↔ wZi x fun a => wo (p a) R := by
  refine ⟨fun h => ?_, fun ⟨b, e, h⟩ => by subst e; exact h⟩
  cases x with
  | d x =>
    cases x with
    | int b => exact ⟨b, rfl, h⟩
    | _ => exact False.elim (wo_none.mp h)
  | _ => exact False.elim (wo_none.mp h)
theorem wS_lset {fo fi fv : SE} : wS (sLSet fo fi fv) ds M D ↔ wE fv ds M fun v M1 => wo (asD v) fun d => wE fo ds M1 fun r M2 => wo (ref r) fun n => wE fi ds M2 fun i M3 => wZi i fun j => wo (lstAt M3 n) fun xs => wo (ixN xs.length j) fun m => D (.nx ds (M3.set n (.lst (xs.set m d)))) := by
  simp only [wS, wE, sLSet, wo_bind]
  refine ⟨fun q => wo_mono q fun v q => wo_mono q fun d q => wo_mono q fun r q => wo_mono q fun n q => wo_mono q fun x q => ?_, fun q => wo_mono q fun v q => wo_mono q fun d q => wo_mono q fun r q => wo_mono q fun n q => wo_mono q fun x q => ?_⟩
  · obtain ⟨x, M1⟩ := x
    cases x with
    | d x =>
      cases x with
      | int b => exact ⟨b, rfl, by simpa only [wo_bind, wo_some] using q⟩
      | _ => exact (wo_none.mp q).elim
    | _ => exact (wo_none.mp q).elim
  · obtain ⟨x, M1⟩ := x
    obtain ⟨b, e, q⟩ := q
    have e : x = _ := e
    subst e
    simpa only [wo_bind, wo_some] using q
theorem wS_laug {o : PyData → PyData → Option PyData} {fo fi fv : SE} : wS (sLAug o fo fi fv) ds M D ↔ wE fo ds M fun r M1 => wo (ref r) fun n => wE fi ds M1 fun i M2 => wZi i fun j => wo (lstAt M2 n) fun xs => wo (ixN xs.length j) fun m => wo (xs[m]?) fun x => wE fv ds M2 fun y M3 => wo (view M3 y) fun dy => wo (o x dy) fun z =>
    wo (lstAt M3 n) fun ys => wo (ixN ys.length j) fun m' => D (.nx ds (M3.set n (.lst (ys.set m' z)))) := by
  simp only [wS, wE, sLAug, wo_bind]
  refine ⟨fun q => wo_mono q fun r q => wo_mono q fun n q => wo_mono q fun x q => ?_, fun q => wo_mono q fun r q => wo_mono q fun n q => wo_mono q fun x q => ?_⟩
  · obtain ⟨x, M1⟩ := x
    cases x with
    | d x =>
      cases x with
      | int b => exact ⟨b, rfl, by simpa only [wo_bind, wo_some] using q⟩
      | _ => exact (wo_none.mp q).elim
    | _ => exact (wo_none.mp q).elim
  · obtain ⟨x, M1⟩ := x
    obtain ⟨b, e, q⟩ := q
    have e : x = _ := e
    subst e
    simpa only [wo_bind, wo_some] using q
theorem wS_dset {k : Str} {fo fv : SE} : wS (sDSet k fo fv) ds M D ↔ wE fv ds M fun v M1 => wo (asD v) fun d => wE fo ds M1 fun r M2 => wo (ref r) fun n => wo (dicAt M2 n) fun kvs => kvs.length < 100 ∧ D (.nx ds (M2.set n (.dic (putKD kvs k d)))) := by
  simp only [wS, wE, sDSet, wo_bind, wo_if]
/-- the end of a def -/
def kRet (Q : DV → Mem → Prop) : Fl → Prop
  | .rt r M => Q r M
  | .nx _ M => Q (.d .none) M
  | .ct _ _ => False
theorem kRet_rt {r : DV} : kRet Q (.rt r M) ↔ Q r M := Iff.rfl
theorem kRet_nx : kRet Q (.nx ds M) ↔ Q (.d .none) M := Iff.rfl
theorem wD_fn {n m : Nat} {vs : List DV} : wD (fnD n m g1) vs M Q ↔ vs.length = n ∧ wS g1 (vs.map some ++ List.replicate (m - n) none) M (kRet Q) := by
  unfold wD fnD
  by_cases hl : vs.length = n
  · rw [if_pos hl]
    simp only [wS, wo_bind]
    refine ⟨fun q => ⟨hl, wo_mono q fun fl q => ?_⟩, fun q => wo_mono q.2 fun fl q => ?_⟩
    · cases fl <;> first | exact (by obtain ⟨_, e, q⟩ := q; cases e; exact q) | exact (wo_none.mp q).elim
    · cases fl <;> first | exact ⟨_, rfl, q⟩ | exact q.elim
  · rw [if_neg hl, wo_none]
    exact ⟨False.elim, fun q => hl q.1⟩
theorem wP_D {F : DF} {vs : List DV} {Q : PyData → Prop} : wP F vs Q ↔ vs.all noRef = true ∧ wD F vs [] fun r M => wo (view M r) Q := by
  unfold wP pf wD
  by_cases hl : vs.all noRef = true
  · rw [if_pos hl, wo_bind]
    exact ⟨fun q => ⟨hl, q⟩, fun q => q.2⟩
  · rw [if_neg hl, wo_none]
    exact ⟨False.elim, fun q => hl q.1⟩
theorem wI_L : wI (iL f) ds M = fun R => wE f ds M fun x M1 => (∃ xs, x = .s xs ∧ R (.s xs) xs M1) ∨ (∃ xs, (∀ z, x ≠ .s z) ∧ view M1 x = some (.list xs) ∧ R x xs M1) := by
  funext R
  simp only [wI, wE, iL, wo_bind, eq_iff_iff]
  refine ⟨fun q => wo_mono q fun x q => ?_, fun q => wo_mono q fun x q => ?_⟩
  · obtain ⟨x, M1⟩ := x
    cases x with
    | s xs => exact .inl ⟨xs, rfl, (by obtain ⟨_, e, q⟩ := q; cases e; exact q)⟩
    | d y =>
      refine .inr ?_
      cases y with
      | list ys => exact ⟨ys, fun z => nofun, rfl, (by obtain ⟨_, e, q⟩ := q; cases e; exact q)⟩
      | _ => exact (wo_none.mp q).elim
    | a _ => exact (wo_none.mp q).elim
    | r n =>
      refine .inr ?_
      have q : wo (match view M1 (.r n) with
        | some (.list xs) => some ((DV.r n, xs), M1)
        | _ => none) (fun x => R x.1.1 x.1.2 x.2) := q
      split at q
      · rename_i xs e; exact ⟨xs, fun z => nofun, e, (by obtain ⟨_, e, q⟩ := q; cases e; exact q)⟩
      · exact (wo_none.mp q).elim
  · obtain ⟨x, M1⟩ := x
    rcases q with ⟨xs, e, q⟩ | ⟨xs, hn, e, q⟩
    · have e : x = _ := e
      subst e
      exact ⟨_, rfl, q⟩
    · have e : view M1 x = some (.list xs) := e
      cases x with
      | s z => exact (hn z rfl).elim
      | d y => cases e; exact ⟨_, rfl, q⟩
      | a _ => cases e
      | r n =>
        show wo (match view M1 (.r n) with
        | some (.list xs) => some ((DV.r n, xs), M1)
        | _ => none) (fun x => R x.1.1 x.1.2 x.2)
        rw [e]
        exact ⟨_, rfl, q⟩
end
end Ow
set_option Elab.async false
set_option linter.all false
set_option maxRecDepth 100000
set_option maxHeartbeats 4000000
namespace Ow
open PySem L2

/-! ### views, data -/
section
variable {M : Mem} {x y : PyData} {Q : PyData → Prop}
theorem v_d : wo (view M (.d x)) Q ↔ Q x := wo_some
theorem v_r {n : Nat} : wo (view M (.r n)) Q ↔ wo (lstAt M n) fun xs => Q (.list xs) := by
  show wo (match M[n]? with
    | some (.lst xs) => some (PyData.list xs)
    | _ => none) Q ↔ wo (match M[n]? with
    | some (.lst xs) => some xs
    | _ => none) _
  cases M[n]? with
  | none => exact ⟨fun q => (wo_none.mp q).elim, fun q => (wo_none.mp q).elim⟩
  | some o => cases o with
    | lst xs => exact ⟨fun ⟨_, e, q⟩ => by cases e; exact ⟨_, rfl, q⟩, fun ⟨_, e, q⟩ => by cases e; exact ⟨_, rfl, q⟩⟩
    | _ => exact ⟨fun q => (wo_none.mp q).elim, fun q => (wo_none.mp q).elim⟩
theorem asD_d : wo (asD (.d x)) Q ↔ Q x := wo_some
theorem asDs_nil {Q : List PyData → Prop} : wo (asDs []) Q ↔ Q [] := wo_some
theorem asDs_cons {d : DV} {ds : List DV} {Q : List PyData → Prop} : wo (asDs (d :: ds)) Q ↔ wo (asD d) fun x => wo (asDs ds) fun xs => Q (x :: xs) := by simp only [asDs, wo_bind, wo_some]
theorem views_nil {Q : List PyData → Prop} : wo (views M []) Q ↔ Q [] := wo_some
theorem views_cons {d : DV} {ds : List DV} {Q : List PyData → Prop} : wo (views M (d :: ds)) Q ↔ wo (view M d) fun x => wo (views M ds) fun xs => Q (x :: xs) := by simp only [views, wo_bind, wo_some]
theorem ref_r {n : Nat} {Q : Nat → Prop} : wo (ref (.r n)) Q ↔ Q n := wo_some
theorem lst_0 {xs : List PyData} {r : Mem} {Q : List PyData → Prop} : wo (lstAt (.lst xs :: r) 0) Q ↔ Q xs := wo_some
theorem lst_S {o : MO} {r : Mem} {n : Nat} {Q : List PyData → Prop} : wo (lstAt (o :: r) (n + 1)) Q ↔ wo (lstAt r n) Q := Iff.rfl
theorem lst_of {n : Nat} {xs : List PyData} {Q : List PyData → Prop} (h : M[n]? = some (.lst xs)) : wo (lstAt M n) Q ↔ Q xs := by
  unfold lstAt
  rw [h]
  exact wo_some
theorem dic_of {n : Nat} {xs : List (Str × PyData)} {Q : List (Str × PyData) → Prop} (h : M[n]? = some (.dic xs)) : wo (dicAt M n) Q ↔ Q xs := by
  unfold dicAt
  rw [h]
  exact wo_some
theorem ins_of {n : Nat} {c : Str} {xs : List (Str × DV)} {Q : List (Str × DV) → Prop} (h : M[n]? = some (.ins c xs)) : wo (insAt c M n) Q ↔ Q xs := by
  unfold insAt
  rw [h]
  show wo (if c = c then some xs else none) Q ↔ Q xs
  rw [if_pos rfl]
  exact wo_some
theorem wo_at0 {d : DV} {r : DS} {Q : DV → Prop} : wo (at_ (some d :: r) 0) Q ↔ Q d := wo_some
theorem wo_atS {o : Option DV} {r : DS} {i : Nat} {Q : DV → Prop} : wo (at_ (o :: r) (i + 1)) Q ↔ wo (at_ r i) Q := Iff.rfl

/-! ### operators -/
theorem o_add_ii {i j : Int} : wo (addF (.int i) (.int j)) Q ↔ Q (.int (i + j)) := wo_some
theorem o_add_ss {i j : Str} : wo (addF (.str i) (.str j)) Q ↔ i.length + j.length ≤ lim ∧ Q (.str (i ++ j)) := wo_if
theorem o_add_ll {i j : List PyData} : wo (addF (.list i) (.list j)) Q ↔ i.length + j.length ≤ lim ∧ Q (.list (i ++ j)) := wo_if
theorem o_add_tt {i j : List PyData} : wo (addF (.tuple i) (.tuple j)) Q ↔ i.length + j.length ≤ lim ∧ Q (.tuple (i ++ j)) := wo_if
theorem o_iadd_ii {i j : Int} : wo (iaddF (.int i) (.int j)) Q ↔ Q (.int (i + j)) := wo_some
theorem o_iadd_ss {i j : Str} : wo (iaddF (.str i) (.str j)) Q ↔ i.length + j.length ≤ lim ∧ Q (.str (i ++ j)) := wo_if
theorem o_sub {i j : Int} : wo (subF (.int i) (.int j)) Q ↔ Q (.int (i - j)) := wo_some
theorem o_mul {i j : Int} : wo (mulF (.int i) (.int j)) Q ↔ ((-(2 ^ 64) < i ∧ i < 2 ^ 64) ∨ (-(2 ^ 64) < j ∧ j < 2 ^ 64)) ∧ Q (.int (i * j)) := wo_if
theorem o_div {i j : Int} : wo (divF (.int i) (.int j)) Q ↔ (0 < j ∧ j < 1073741824) ∧ Q (.int (i / j)) := wo_if
theorem o_mod {i j : Int} : wo (modF (.int i) (.int j)) Q ↔ 0 < j ∧ Q (.int (i % j)) := wo_if
theorem o_pow {i j : Int} : wo (powF (.int i) (.int j)) Q ↔ (0 ≤ j ∧ j ≤ 1000000 ∧ i.natAbs < 2 ^ 64) ∧ Q (.int (i ^ j.toNat)) := wo_if
theorem o_neg {i : Int} : wo (negF (.int i)) Q ↔ Q (.int (-i)) := wo_some
theorem o_lt {i j : Int} : wo (ltF (.int i) (.int j)) Q ↔ Q (.bool (decide (i < j))) := wo_some
theorem o_le_ii {i j : Int} : wo (leF (.int i) (.int j)) Q ↔ Q (.bool (decide (i ≤ j))) := wo_some
theorem o_le_ss {i j : Str} : wo (leF (.str i) (.str j)) Q ↔ Q (.bool (!decide (j.cps.toList < i.cps.toList))) := wo_some
theorem o_ge {i j : Int} : wo (geF (.int i) (.int j)) Q ↔ Q (.bool (decide (j ≤ i))) := wo_some
theorem o_gt {i j : Int} : wo (gtF (.int i) (.int j)) Q ↔ Q (.bool (decide (j < i))) := wo_some
theorem o_gt2 {a b c d : Int} : wo (gtF (.tuple [.int a, .int b]) (.tuple [.int c, .int d])) Q ↔ Q (.bool (if c = a then decide (d < b) else decide (c < a))) := wo_some
theorem o_isN : wo (isNF x .none) Q ↔ Q (.bool (isNb x)) := wo_some
theorem o_notN : wo (notNF x .none) Q ↔ Q (.bool (!isNb x)) := wo_some
theorem isNb_n : isNb .none = true := rfl
theorem isNb_b {b : Bool} : isNb (.bool b) = false := rfl
theorem isNb_i {b : Int} : isNb (.int b) = false := rfl
theorem isNb_s {b : Str} : isNb (.str b) = false := rfl
theorem isNb_l {b : List PyData} : isNb (.list b) = false := rfl
theorem isNb_t {b : List PyData} : isNb (.tuple b) = false := rfl
theorem o_eq : wo (eqF x y) Q ↔ (shp x = true ∧ shp y = true) ∧ Q (.bool (PyData.eqv x y)) := wo_if
theorem o_ne : wo (neF x y) Q ↔ (shp x = true ∧ shp y = true) ∧ Q (.bool (!PyData.eqv x y)) := wo_if
theorem eqv_ss {i j : Str} : PyData.eqv (.str i) (.str j) = decide (i = j) := by
  rw [PyData.eqv]
  by_cases h : i = j
  · rw [decide_eq_true h, h]; simp
  · rw [decide_eq_false h]; simpa using h
theorem eqv_ii {i j : Int} : PyData.eqv (.int i) (.int j) = decide (i = j) := by
  rw [PyData.eqv]
  by_cases h : i = j
  · rw [decide_eq_true h, h]; simp
  · rw [decide_eq_false h]; simpa using h
theorem eqv_bb {i j : Bool} : PyData.eqv (.bool i) (.bool j) = (i == j) := by rw [PyData.eqv]
theorem eqv_nn : PyData.eqv .none .none = true := by rw [PyData.eqv]
theorem eqv_ll {i j : List PyData} : PyData.eqv (.list i) (.list j) = PyData.eqvAll i j := by rw [PyData.eqv]
theorem eqv_tt {i j : List PyData} : PyData.eqv (.tuple i) (.tuple j) = PyData.eqvAll i j := by rw [PyData.eqv]
theorem eqvA_nn : PyData.eqvAll [] [] = true := by rw [PyData.eqvAll]
theorem eqvA_cc {i j : PyData} {r s : List PyData} : PyData.eqvAll (i :: r) (j :: s) = (PyData.eqv i j && PyData.eqvAll r s) := by rw [PyData.eqvAll]
theorem eqvA_cn {i : PyData} {r : List PyData} : PyData.eqvAll (i :: r) [] = false := by rw [PyData.eqvAll]
theorem eqvA_nc {i : PyData} {r : List PyData} : PyData.eqvAll [] (i :: r) = false := by rw [PyData.eqvAll]
theorem eqvA_empty {r : List PyData} : PyData.eqvAll r [] = r.isEmpty := by cases r <;> rw [PyData.eqvAll] <;> rfl
theorem eqv_ls {i : List PyData} {j : Str} : PyData.eqv (.list i) (.str j) = false := by rw [PyData.eqv]
theorem eqv_ni {i : Int} : PyData.eqv .none (.int i) = false := by rw [PyData.eqv]
theorem eqv_in {i : Int} : PyData.eqv (.int i) .none = false := by rw [PyData.eqv]
theorem eqv_ns {i : Str} : PyData.eqv .none (.str i) = false := by rw [PyData.eqv]
theorem eqv_sn {i : Str} : PyData.eqv (.str i) .none = false := by rw [PyData.eqv]
theorem eqv_tn {i : List PyData} : PyData.eqv (.tuple i) .none = false := by rw [PyData.eqv]
theorem shp_n : shp .none = true := by decide
theorem shp_b {b : Bool} : shp (.bool b) = true := rfl
theorem shp_i {b : Int} : shp (.int b) = true := rfl
theorem shp_s {b : Str} : shp (.str b) = true := rfl
/-- plain, of depth n or less -/
def fl (n : Nat) (d : PyData) : Prop := d.plain = true ∧ d.depth ≤ n
def fls (n : Nat) (ds : List PyData) : Prop := PyData.plainAll ds = true ∧ PyData.depthAll ds ≤ n
theorem shp_of {n : Nat} {d : PyData} (h : fl n d) (hn : n ≤ 60) : shp d = true := by
  unfold shp
  rw [h.1, Bool.true_and]
  exact decide_eq_true (Nat.le_trans h.2 hn)
theorem fl_n {n : Nat} : fl n .none := ⟨rfl, Nat.zero_le _⟩
theorem fl_b {n : Nat} {b : Bool} : fl n (.bool b) := ⟨rfl, Nat.zero_le _⟩
theorem fl_i {n : Nat} {b : Int} : fl n (.int b) := ⟨rfl, Nat.zero_le _⟩
theorem fl_s {n : Nat} {b : Str} : fl n (.str b) := ⟨rfl, Nat.zero_le _⟩
theorem fls_nil {n : Nat} : fls n [] := ⟨rfl, Nat.zero_le _⟩
theorem fls_cons {n : Nat} {d : PyData} {ds : List PyData} (h : fl n d) (q : fls n ds) : fls n (d :: ds) := ⟨by rw [PyData.plainAll, h.1, q.1]; rfl, by rw [PyData.depthAll]; exact Nat.max_le.mpr ⟨h.2, q.2⟩⟩
theorem fls_all {n : Nat} {ds : List PyData} (h : ∀ d ∈ ds, fl n d) : fls n ds := by
  induction ds with
  | nil => exact fls_nil
  | cons d ds ih => exact fls_cons (h d List.mem_cons_self) (ih fun e he => h e (List.mem_cons_of_mem _ he))
theorem fl_t {n : Nat} {ds : List PyData} (h : fls n ds) : fl (n + 1) (.tuple ds) := ⟨by rw [PyData.plain]; exact h.1, by rw [PyData.depth]; exact Nat.succ_le_succ h.2⟩
theorem fl_l {n : Nat} {ds : List PyData} (h : fls n ds) : fl (n + 1) (.list ds) := ⟨by rw [PyData.plain]; exact h.1, by rw [PyData.depth]; exact Nat.succ_le_succ h.2⟩
theorem fl_up {m n : Nat} {d : PyData} (h : fl m d) (q : m ≤ n) : fl n d := ⟨h.1, Nat.le_trans h.2 q⟩
theorem shp_nil : shp (.list []) = true := by decide
theorem shp_strs {xs : List Str} : shp (.list (xs.map PyData.str)) = true := shp_of (n := 1) (fl_l (fls_all fun d h => by obtain ⟨x, _, rfl⟩ := List.mem_map.mp h; exact fl_s)) (by decide)
theorem shp_tstrs {xs : List Str} : shp (.tuple (xs.map PyData.str)) = true := shp_of (n := 1) (fl_t (fls_all fun d h => by obtain ⟨x, _, rfl⟩ := List.mem_map.mp h; exact fl_s)) (by decide)
theorem shp_tints {xs : List Int} : shp (.tuple (xs.map PyData.int)) = true := shp_of (n := 1) (fl_t (fls_all fun d h => by obtain ⟨x, _, rfl⟩ := List.mem_map.mp h; exact fl_i)) (by decide)
/-! in -/
theorem o_in_str {c : Nat} {z : Str} : wo (inF (.str ⟨#[c]⟩) (.str z)) Q ↔ Q (.bool (decide (c ∈ z.cps.toList))) := wo_some
theorem o_nin_str {c : Nat} {z : Str} : wo (ninF (.str ⟨#[c]⟩) (.str z)) Q ↔ Q (.bool (!decide (c ∈ z.cps.toList))) := wo_some
theorem o_in_l {xs : List PyData} : wo (inF x (.list xs)) Q ↔ (shp x = true ∧ shp (.list xs) = true) ∧ Q (.bool (xs.any fun z => PyData.eqv z x)) := by
  unfold inF inB
  rw [wo_bind, wo_if, wo_some]
theorem o_nin_l {xs : List PyData} : wo (ninF x (.list xs)) Q ↔ (shp x = true ∧ shp (.list xs) = true) ∧ Q (.bool (!xs.any fun z => PyData.eqv z x)) := by
  unfold ninF inB
  rw [wo_bind, wo_if, wo_some]
theorem o_in_t {xs : List PyData} : wo (inF x (.tuple xs)) Q ↔ (shp x = true ∧ shp (.tuple xs) = true) ∧ Q (.bool (xs.any fun z => PyData.eqv z x)) := by
  unfold inF inB
  rw [wo_bind, wo_if, wo_some]
theorem o_nin_t {xs : List PyData} : wo (ninF x (.tuple xs)) Q ↔ (shp x = true ∧ shp (.tuple xs) = true) ∧ Q (.bool (!xs.any fun z => PyData.eqv z x)) := by
  unfold ninF inB
  rw [wo_bind, wo_if, wo_some]
/-! subscripts -/
theorem ixN_nat {n k : Nat} (h : k < n) : ixN n (k : Int) = some k := by
  unfold ixN
  rw [if_pos (by omega), if_pos (by omega), Int.toNat_natCast]
theorem ixN_m1 {n : Nat} (h : 0 < n) : ixN n (-1) = some (n - 1) := by
  unfold ixN
  rw [if_neg (by omega), if_pos (by omega)]
  congr 1
  omega
theorem o_ix_t0 {a : PyData} {r : List PyData} : wo (ixF (.tuple (a :: r)) (.int 0)) Q ↔ Q a := wo_eq (by
  show ((ixN (r.length + 1) ((0 : Nat) : Int)).bind fun j => (a :: r)[j]?) = _
  rw [ixN_nat (by omega)]; rfl)
theorem o_ix_t1 {a b : PyData} {r : List PyData} : wo (ixF (.tuple (a :: b :: r)) (.int 1)) Q ↔ Q b := wo_eq (by
  show ((ixN (r.length + 1 + 1) ((1 : Nat) : Int)).bind fun j => (a :: b :: r)[j]?) = _
  rw [ixN_nat (by omega)]; rfl)
theorem o_ix_t2 {a b c : PyData} {r : List PyData} : wo (ixF (.tuple (a :: b :: c :: r)) (.int 2)) Q ↔ Q c := wo_eq (by
  show ((ixN (r.length + 1 + 1 + 1) ((2 : Nat) : Int)).bind fun j => (a :: b :: c :: r)[j]?) = _
  rw [ixN_nat (by omega)]; rfl)
theorem o_ix_t3 {a b c d : PyData} {r : List PyData} : wo (ixF (.tuple (a :: b :: c :: d :: r)) (.int 3)) Q ↔ Q d := wo_eq (by
  show ((ixN (r.length + 1 + 1 + 1 + 1) ((3 : Nat) : Int)).bind fun j => (a :: b :: c :: d :: r)[j]?) = _
  rw [ixN_nat (by omega)]; rfl)
theorem o_ix_t4 {a b c d e : PyData} {r : List PyData} : wo (ixF (.tuple (a :: b :: c :: d :: e :: r)) (.int 4)) Q ↔ Q e := wo_eq (by
  show ((ixN (r.length + 1 + 1 + 1 + 1 + 1) ((4 : Nat) : Int)).bind fun j => (a :: b :: c :: d :: e :: r)[j]?) = _
  rw [ixN_nat (by omega)]; rfl)
theorem o_ix_l {xs : List PyData} {i : Int} : wo (ixF (.list xs) (.int i)) Q ↔ wo (ixN xs.length i) fun j => wo (xs[j]?) Q := wo_bind
theorem o_ix_t {xs : List PyData} {i : Int} : wo (ixF (.tuple xs) (.int i)) Q ↔ wo (ixN xs.length i) fun j => wo (xs[j]?) Q := wo_bind
/-- a sign of a text -/
def chr (z : Str) (j : Nat) : Str := ⟨#[z.cps.toList.getD j 0]⟩
theorem o_ix_s {z : Str} {i : Int} : wo (ixF (.str z) (.int i)) Q ↔ z.length ≤ lim ∧ wo (ixN z.length i) fun j => Q (.str (chr z j)) := by
  show wo (if z.length ≤ lim then (atI z.cps.toList i).bind fun c => some (PyData.str ⟨#[c]⟩) else none) Q ↔ _
  by_cases h : z.length ≤ lim
  · rw [if_pos h, wo_bind]
    unfold atI
    rw [wo_bind, show z.cps.toList.length = z.length from Array.length_toList]
    refine ⟨fun ⟨j, e, q⟩ => ⟨h, j, e, ?_⟩, fun ⟨_, j, e, q⟩ => ⟨j, e, ?_⟩⟩
    · obtain ⟨c, e2, q⟩ := q
      unfold chr
      rw [List.getD_eq_getElem?_getD, e2]
      exact wo_some.mp q
    · have hj := (ixN_seq e).2.1
      have hj' : j < z.cps.toList.length := by rw [Array.length_toList]; exact hj
      refine ⟨z.cps.toList[j], List.getElem?_eq_getElem hj', ?_⟩
      have q : Q (.str ⟨#[z.cps.toList.getD j 0]⟩) := q
      rw [List.getD_eq_getElem?_getD, List.getElem?_eq_getElem hj'] at q
      exact ⟨_, rfl, q⟩
  · rw [if_neg h, wo_none]
    exact ⟨False.elim, fun q => h q.1⟩
theorem o_sl_s {z : Str} {a b : Option Int} : wo (slF (.str z) a b) Q ↔ z.length ≤ lim ∧ Q (.str (cutS z a b)) := wo_if
theorem o_sl_l {z : List PyData} {a b : Option Int} : wo (slF (.list z) a b) Q ↔ Q (.list ((z.drop (HT.sIx z.length 0 a)).take (HT.sIx z.length z.length b - HT.sIx z.length 0 a))) := wo_some
/-! built-ins -/
theorem o_len_l {z : List PyData} : wo (lenF [.list z]) Q ↔ Q (.int z.length) := wo_some
theorem o_len_t {z : List PyData} : wo (lenF [.tuple z]) Q ↔ Q (.int z.length) := wo_some
theorem o_len_s {z : Str} : wo (lenF [.str z]) Q ↔ z.length ≤ lim ∧ Q (.int z.length) := wo_if
theorem o_min {i j : Int} : wo (min2F [.int i, .int j]) Q ↔ Q (.int (if j < i then j else i)) := wo_some
theorem o_max {i j : Int} : wo (max2F [.int i, .int j]) Q ↔ Q (.int (if j > i then j else i)) := wo_some
theorem o_abs {i : Int} : wo (absF [.int i]) Q ↔ Q (.int (if i < 0 then -i else i)) := wo_some
theorem o_int_i {i : Int} : wo (intF [.int i]) Q ↔ Q (.int i) := wo_some
theorem o_int_s {z : Str} : wo (intF [.str z]) Q ↔ z.length ≤ 640 ∧ wo (PySem.intText? z) fun n => Q (.int n) := by
  show wo (if z.length ≤ 640 then (PySem.intText? z).bind fun n => some (PyData.int n) else none) Q ↔ _
  by_cases h : z.length ≤ 640
  · rw [if_pos h, wo_bind]
    simp only [wo_some]
    exact ⟨fun q => ⟨h, q⟩, fun q => q.2⟩
  · rw [if_neg h, wo_none]
    exact ⟨False.elim, fun q => h q.1⟩
theorem o_str {i : Int} : wo (strF [.int i]) Q ↔ i.natAbs.log2 < 1920 ∧ Q (.str (toString i)) := wo_if
theorem o_ord {z : Str} : wo (ordF [.str z]) Q ↔ z.length = 1 ∧ Q (.int (z.cps.getD 0 0 : Nat)) := wo_if
theorem o_list {z : List PyData} : wo (listF [.list z]) Q ↔ Q (.list z) := wo_some
theorem o_tup_l {z : List PyData} : wo (tupF [.list z]) Q ↔ Q (.tuple z) := wo_some
theorem o_tup_t {z : List PyData} : wo (tupF [.tuple z]) Q ↔ Q (.tuple z) := wo_some
theorem o_low {z : Str} : wo (lowF z) Q ↔ z.length ≤ lim ∧ Q (.str (Txt.lower z)) := wo_if
theorem o_find {a b : Str} : wo (findF a (.str b)) Q ↔ Q (.int (Txt.find a b)) := wo_some
theorem o_strip {a b : Str} : wo (stripF a (.str b)) Q ↔ a.length ≤ lim ∧ Q (.str (Txt.stripChars a b)) := wo_if
theorem strsO_map : ∀ xs : List Str, strsO (xs.map PyData.str) = some xs
  | [] => rfl
  | x :: xs => by
    show ((strsO (xs.map PyData.str)).bind fun ys => some (x :: ys)) = _
    rw [strsO_map xs]
    rfl
theorem o_join {a : Str} {xs : List Str} : wo (joinF a (.list (xs.map PyData.str))) Q ↔ (xs.map (·.length)).sum + xs.length * a.length ≤ lim ∧ Q (.str (Txt.join a xs)) := by
  show wo ((strsO (xs.map PyData.str)).bind fun ys => if (ys.map (·.length)).sum + ys.length * a.length ≤ lim then some (PyData.str (Txt.join a ys)) else none) Q ↔ _
  rw [strsO_map, wo_bind, wo_some, wo_if]
theorem o_fmt {z : Str} : wo (fmtF (.str z)) Q ↔ z.length ≤ lim ∧ Q (.str z) := wo_if
theorem o_fmt2 {i : Int} : wo (fmt2F (.int i)) Q ↔ (0 ≤ i ∧ i < 60) ∧ Q (.str (two i.toNat)) := wo_if
theorem o_fmt4 {i : Int} : wo (fmt4F (.int i)) Q ↔ i = 1970 ∧ Q (.str ⟨#[49, 57, 55, 48]⟩) := wo_if
end
theorem all_noRef_d {xs : List DV} {d : PyData} : ((DV.d d :: xs).all noRef = true) ↔ xs.all noRef = true := Iff.rfl
theorem all_noRef_a {xs : List DV} {d : Str} : ((DV.a d :: xs).all noRef = true) ↔ xs.all noRef = true := Iff.rfl
theorem all_noRef_n : (([] : List DV).all noRef = true) ↔ True := ⟨fun _ => trivial, fun _ => rfl⟩
theorem lim3 {a b c : PyData} {r : List PyData} : (a :: b :: c :: r).length ≤ lim ↔ r.length + 3 ≤ lim := Iff.rfl

theorem l0 : 0 ≤ lim := by decide
theorem l1 : 1 ≤ lim := by decide
theorem l2 : 2 ≤ lim := by decide
theorem l3 : 3 ≤ lim := by decide
theorem l4 : 4 ≤ lim := by decide
theorem l5 : 5 ≤ lim := by decide
theorem l6 : 6 ≤ lim := by decide
theorem l7 : 7 ≤ lim := by decide
theorem l8 : 8 ≤ lim := by decide
theorem l9 : 9 ≤ lim := by decide
theorem l10 : 10 ≤ lim := by decide
theorem l11 : 11 ≤ lim := by decide
theorem l12 : 12 ≤ lim := by decide
theorem l13 : 13 ≤ lim := by decide
theorem l14 : 14 ≤ lim := by decide
theorem l15 : 15 ≤ lim := by decide
theorem ex_one {α : Type} {a : α} {P : α → Prop} : (∃ x, [a] = [x] ∧ P x) ↔ P a := ⟨fun ⟨x, e, p⟩ => by cases e; exact p, fun p => ⟨a, rfl, p⟩⟩
theorem ex_two {α : Type} {a b : α} {P : α → α → Prop} : (∃ x y, [a, b] = [x, y] ∧ P x y) ↔ P a b := ⟨fun ⟨x, y, e, p⟩ => by cases e; exact p, fun p => ⟨a, b, rfl, p⟩⟩
/-! ### what is walked -/
theorem wI_T {f : SE} {ds : DS} {M : Mem} {R : DV → List PyData → Mem → Prop} : wI (iT f) ds M R ↔ wE f ds M fun x M1 => ∃ xs, x = .d (.tuple xs) ∧ R x xs M1 := by
  simp only [wI, wE, iT, wo_bind]
  refine ⟨fun q => wo_mono q fun x q => ?_, fun q => wo_mono q fun x q => ?_⟩
  · obtain ⟨x, M1⟩ := x
    cases x with
    | d x =>
      cases x with
      | tuple b => exact ⟨b, rfl, by obtain ⟨_, e, q⟩ := q; cases e; exact q⟩
      | _ => exact (wo_none.mp q).elim
    | _ => exact (wo_none.mp q).elim
  · obtain ⟨x, M1⟩ := x
    obtain ⟨b, e, q⟩ := q
    have e : x = _ := e
    subst e
    exact ⟨_, rfl, q⟩
theorem wI_S {f : SE} {ds : DS} {M : Mem} {R : DV → List PyData → Mem → Prop} : wI (iS f) ds M R ↔ wE f ds M fun x M1 => wZs x fun z => R x (signs z) M1 := by
  simp only [wI, wE, iS, wo_bind]
  refine ⟨fun q => wo_mono q fun x q => ?_, fun q => wo_mono q fun x q => ?_⟩
  · obtain ⟨x, M1⟩ := x
    cases x with
    | d x =>
      cases x with
      | str b => exact ⟨b, rfl, by obtain ⟨_, e, q⟩ := q; cases e; exact q⟩
      | _ => exact (wo_none.mp q).elim
    | _ => exact (wo_none.mp q).elim
  · obtain ⟨x, M1⟩ := x
    obtain ⟨b, e, q⟩ := q
    have e : x = _ := e
    subst e
    exact ⟨_, rfl, q⟩
theorem wI_d {f : SE} {ds : DS} {M : Mem} {R : DV → List PyData → Mem → Prop} (h : wE f ds M fun x M1 => ∃ xs, x = .d (.list xs) ∧ R x xs M1) : wI (iL f) ds M R := by
  rw [wI_L]
  exact h.mono fun x M1 ⟨xs, e, q⟩ => .inr ⟨xs, fun z => by rw [e]; nofun, by rw [e]; rfl, q⟩
theorem wI_r {f : SE} {ds : DS} {M : Mem} {R : DV → List PyData → Mem → Prop} (h : wE f ds M fun x M1 => ∃ n xs, x = .r n ∧ M1[n]? = some (.lst xs) ∧ R x xs M1) : wI (iL f) ds M R := by
  rw [wI_L]
  exact h.mono fun x M1 ⟨n, xs, e, e2, q⟩ => .inr ⟨xs, fun z => by rw [e]; nofun, by rw [e]; show (match M1[n]? with | some (.lst xs) => some (PyData.list xs) | _ => none) = _; rw [e2], q⟩
theorem wI_s {f : SE} {ds : DS} {M : Mem} {R : DV → List PyData → Mem → Prop} (h : wE f ds M fun x M1 => ∃ xs, x = .s xs ∧ R x xs M1) : wI (iL f) ds M R := by
  rw [wI_L]
  exact h.mono fun x M1 ⟨xs, e, q⟩ => .inl ⟨xs, e, by rw [← e]; exact q⟩
theorem wI_R {fa : SA} {ds : DS} {M : Mem} {R : DV → List PyData → Mem → Prop} (h : wA fa ds M fun x M1 => ∃ j : Int, x = [.d (.int j)] ∧ 0 ≤ j ∧ j ≤ 1000000 ∧ R (.d .none) ((List.range j.toNat).map fun i => .int (i : Nat)) M1) : wI (iR fa) ds M R := by
  unfold wI iR
  rw [wo_bind]
  refine wo_mono h fun x ⟨j, e, h1, h2, q⟩ => ?_
  obtain ⟨x, M1⟩ := x
  have e : x = _ := e
  subst e
  show wo (if 0 ≤ j ∧ j ≤ 1000000 then some ((DV.d .none, (List.range j.toNat).map fun i => PyData.int (i : Nat)), M1) else none) _
  rw [if_pos ⟨h1, h2⟩]
  exact ⟨_, rfl, q⟩

def wW (x : DV) (M : Mem) (R : DV → List PyData → Mem → Prop) : Prop := (∃ xs, x = .s xs ∧ R (.s xs) xs M) ∨ (∃ xs, (∀ z, x ≠ .s z) ∧ view M x = some (.list xs) ∧ R x xs M)
theorem wI_Li {f : SE} {ds : DS} {M : Mem} {R : DV → List PyData → Mem → Prop} : wI (iL f) ds M R ↔ wE f ds M fun x M1 => wW x M1 R := by rw [wI_L]; rfl
theorem wW_d {M : Mem} {xs : List PyData} {R : DV → List PyData → Mem → Prop} : wW (.d (.list xs)) M R ↔ R (.d (.list xs)) xs M := ⟨fun h => by
  rcases h with ⟨_, e, _⟩ | ⟨ys, _, e, h⟩
  · cases e
  · cases e; exact h, fun h => .inr ⟨xs, fun _ => nofun, rfl, h⟩⟩
theorem wW_s {M : Mem} {xs : List PyData} {R : DV → List PyData → Mem → Prop} : wW (.s xs) M R ↔ R (.s xs) xs M := ⟨fun h => by
  rcases h with ⟨_, e, h⟩ | ⟨ys, e, _, h⟩
  · cases e; exact h
  · exact absurd rfl (e xs), fun h => .inl ⟨xs, rfl, h⟩⟩
theorem wW_r {M : Mem} {n : Nat} {R : DV → List PyData → Mem → Prop} : wW (.r n) M R ↔ wo (lstAt M n) fun xs => R (.r n) xs M := by
  have e : wo (view M (.r n)) (fun x => ∃ xs, x = .list xs ∧ R (.r n) xs M) ↔ wo (lstAt M n) fun xs => R (.r n) xs M := by
    rw [v_r]
    exact ⟨fun h => wo_mono h fun xs ⟨ys, e, h⟩ => by cases e; exact h, fun h => wo_mono h fun xs h => ⟨xs, rfl, h⟩⟩
  rw [← e]
  refine ⟨fun h => ?_, fun h => ?_⟩
  · rcases h with ⟨_, e, _⟩ | ⟨ys, _, e, h⟩
    · cases e
    · exact ⟨_, e, ys, rfl, h⟩
  · obtain ⟨_, e, ys, rfl, h⟩ := h
    exact .inr ⟨ys, fun _ => nofun, e, h⟩
def wWt (x : DV) (P : List PyData → Prop) : Prop := ∃ xs, x = .d (.tuple xs) ∧ P xs
theorem wI_Ti {f : SE} {ds : DS} {M : Mem} {R : DV → List PyData → Mem → Prop} : wI (iT f) ds M R ↔ wE f ds M fun x M1 => wWt x fun xs => R x xs M1 := wI_T
theorem wWt_t {xs : List PyData} {P : List PyData → Prop} : wWt (.d (.tuple xs)) P ↔ P xs := ⟨fun ⟨_, e, h⟩ => by cases e; exact h, fun h => ⟨xs, rfl, h⟩⟩
def wWr (x : List DV) (P : Int → Prop) : Prop := ∃ j : Int, x = [.d (.int j)] ∧ (0 ≤ j ∧ j ≤ 1000000) ∧ P j
theorem wWr_i {j : Int} {P : Int → Prop} : wWr [.d (.int j)] P ↔ (0 ≤ j ∧ j ≤ 1000000) ∧ P j := ⟨fun ⟨_, e, h⟩ => by cases e; exact h, fun h => ⟨j, rfl, h⟩⟩
theorem wI_Ri {fa : SA} {ds : DS} {M : Mem} {R : DV → List PyData → Mem → Prop} : wI (iR fa) ds M R ↔ wA fa ds M fun x M1 => wWr x fun j => R (.d .none) ((List.range j.toNat).map fun i => .int (i : Nat)) M1 := by
  refine ⟨fun q => ?_, fun h => wI_R (wo_mono h fun x ⟨j, e, h1, q⟩ => ⟨j, e, h1.1, h1.2, q⟩)⟩
  unfold wI iR at q
  rw [wo_bind] at q
  refine wo_mono q fun x q => ?_
  obtain ⟨x, M1⟩ := x
  cases x with
  | nil => exact (wo_none.mp q).elim
  | cons u r =>
    cases r with
    | cons _ _ => cases u <;> (try rename_i z; try cases z) <;> exact (wo_none.mp q).elim
    | nil =>
      cases u with
      | d u =>
        cases u with
        | int j =>
          have q : wo (if 0 ≤ j ∧ j ≤ 1000000 then some ((DV.d .none, (List.range j.toNat).map fun i => PyData.int (i : Nat)), M1) else none) (fun x => R x.1.1 x.1.2 x.2) := q
          rw [wo_if] at q
          exact ⟨j, rfl, q⟩
        | _ => exact (wo_none.mp q).elim
      | _ => exact (wo_none.mp q).elim
/-! ### loops -/
theorem wS_for {p : Pat} {fi : SI} {gb : SS} {ds : DS} {M : Mem} {D : Fl → Prop} : wS (sFor p fi gb) ds M D ↔ wI fi ds M fun w xs M1 => wo (forD p gb w xs xs ds M1) D := by simp only [wS, wI, sFor, wo_bind]
/-- J: what holds when so many are left -/
theorem for_run {α : Type} (enc : α → PyData) {p : Pat} {gb : SS} {w : DV} {full : List PyData} {D : Fl → Prop} (J : List α → DS → Mem → Prop)
    (hl : ∀ r ds M, J r ds M → live M w full)
    (step : ∀ y r ds M, J (y :: r) ds M → wo (bindP p (enc y) ds) fun ds1 => wS gb ds1 M fun fl => (match fl with
      | .nx ds2 M2 => J r ds2 M2
      | .ct ds2 M2 => J r ds2 M2
      | .rt v M2 => D (.rt v M2)))
    (fin : ∀ ds M, J [] ds M → D (.nx ds M)) : ∀ (ys : List α) (ds : DS) (M : Mem), J ys ds M → wo (forD p gb w full (ys.map enc) ds M) D
  | [], ds, M, h => by
    rw [List.map_nil]
    unfold forD
    rw [if_pos (hl _ _ _ h)]
    exact wo_some.mpr (fin ds M h)
  | y :: r, ds, M, h => by
    rw [List.map_cons]
    unfold forD
    rw [if_pos (hl _ _ _ h), wo_bind]
    refine wo_mono (step y r ds M h) fun ds1 q => ?_
    rw [wo_bind]
    refine wo_mono q fun fl q => ?_
    cases fl with
    | nx ds2 M2 => exact for_run enc J hl step fin r ds2 M2 q
    | ct ds2 M2 => exact for_run enc J hl step fin r ds2 M2 q
    | rt v M2 => exact wo_some.mpr q
theorem live_d {M : Mem} {x : PyData} {xs : List PyData} : live M (.d x) xs := trivial
theorem live_s {M : Mem} {x : List PyData} {xs : List PyData} : live M (.s x) xs := trivial
theorem wL_lc {p : Pat} {fi : SI} {t : ST} {f : SE} {vs : List Nat} {ds : DS} {M : Mem} {Q : List PyData → Mem → Prop} : wL (sLc p fi t f vs) ds M Q ↔ wI fi ds M fun w xs M1 => xs.length ≤ lim ∧ wo (lcD p t f vs w xs ds xs M1) fun x => Q x.1 x.2 := by
  simp only [wL, wI, sLc, wo_bind]
  refine ⟨fun q => wo_mono q fun x q => ?_, fun q => wo_mono q fun x q => ?_⟩
  · by_cases h : x.1.2.length ≤ lim
    · rw [if_pos h] at q; exact ⟨h, q⟩
    · rw [if_neg h] at q; exact (wo_none.mp q).elim
  · rw [if_pos q.1]; exact q.2
/-- the store stays: every item by itself -/
theorem lc_run {α : Type} (enc : α → PyData) {p : Pat} {t : ST} {f : SE} {vs : List Nat} {w : DV} {full : List PyData} {ds : DS} {M : Mem} (φ : α → Bool) (ψ : α → PyData) (hl : live M w full) : ∀ (ys : List α),
    (∀ y ∈ ys, wo (bindP p (enc y) (wipeD ds vs)) fun ds1 => wT t ds1 M fun b M1 => (b = φ y ∧ M1 = M) ∧ (b = true → wE f ds1 M fun r M2 => r = .d (ψ y) ∧ M2 = M)) →
    lcD p t f vs w full ds (ys.map enc) M = some ((ys.filter φ).map ψ, M)
  | [], _ => by
    rw [List.map_nil]
    unfold lcD
    rw [if_pos hl]
    rfl
  | y :: r, h => by
    rw [List.map_cons]
    unfold lcD
    rw [if_pos hl]
    obtain ⟨ds1, e1, ⟨b, M1⟩, e2, ⟨h1, h2⟩, h3⟩ := h y List.mem_cons_self
    have h1 : b = φ y := h1
    have h2 : M1 = M := h2
    subst h2
    have ih := lc_run enc φ ψ hl r fun z hz => h z (List.mem_cons_of_mem _ hz)
    rw [e1, Option.bind_some, e2, Option.bind_some]
    cases b with
    | true =>
      obtain ⟨⟨v, M2⟩, e3, h4, h5⟩ := h3 rfl
      have h4 : v = _ := h4
      have h5 : M2 = M1 := h5
      subst h4 h5
      show ((f ds1 M2).bind fun y => (asD y.1).bind fun d => (lcD p t f vs w full ds (r.map enc) y.2).bind fun r => some (d :: r.1, r.2)) = _
      rw [e3, Option.bind_some]
      show ((lcD p t f vs w full ds (r.map enc) M2).bind fun r => some (ψ y :: r.1, r.2)) = _
      rw [ih, Option.bind_some, List.filter_cons, if_pos h1.symm, List.map_cons]
    | false =>
      show lcD p t f vs w full ds (r.map enc) M1 = _
      rw [ih, List.filter_cons, if_neg (by rw [← h1]; exact Bool.false_ne_true)]
theorem bindP_n {i : Nat} {x : PyData} {ds : DS} {Q : DS → Prop} : wo (bindP (.n i) x ds) Q ↔ Q (ds.set i (some (.d x))) := wo_some
theorem bindP_t {is : List Nat} {xs : List PyData} {ds : DS} {Q : DS → Prop} : wo (bindP (.t is) (.tuple xs) ds) Q ↔ wo (bindNs is xs ds) Q := Iff.rfl
theorem bindNs_n {ds : DS} {Q : DS → Prop} : wo (bindNs [] [] ds) Q ↔ Q ds := wo_some
theorem bindNs_c {i : Nat} {is : List Nat} {x : PyData} {xs : List PyData} {ds : DS} {Q : DS → Prop} : wo (bindNs (i :: is) (x :: xs) ds) Q ↔ wo (bindNs is xs (ds.set i (some (.d x)))) Q := Iff.rfl
/-- while: V goes down -/
theorem wh_run {t : ST} {gb : SS} {D : Fl → Prop} (J : DS → Mem → Prop) (V : DS → Nat) (step : ∀ ds M, J ds M → wT t ds M fun b M1 => (b = true → wS gb ds M1 fun fl => (match fl with
      | .nx ds2 M2 => J ds2 M2 ∧ V ds2 < V ds
      | .ct ds2 M2 => J ds2 M2 ∧ V ds2 < V ds
      | .rt v M2 => D (.rt v M2))) ∧ (b = false → D (.nx ds M1))) : ∀ (n : Nat) (ds : DS) (M : Mem), J ds M → V ds < n → wo (whD t gb n ds M) D
  | 0, _, _, _, h => absurd h (Nat.not_lt_zero _)
  | n + 1, ds, M, h, hv => by
    unfold whD
    rw [wo_bind]
    refine wo_mono (step ds M h) fun ⟨b, M1⟩ ⟨q1, q2⟩ => ?_
    cases b with
    | true =>
      show wo ((gb ds M1).bind _) D
      rw [wo_bind]
      refine wo_mono (q1 rfl) fun fl q => ?_
      cases fl with
      | nx ds2 M2 => exact wh_run J V step n ds2 M2 q.1 (by omega)
      | ct ds2 M2 => exact wh_run J V step n ds2 M2 q.1 (by omega)
      | rt v M2 => exact wo_some.mpr q
    | false => exact wo_some.mpr (q2 rfl)
end Ow
local macro_rules
  | `(tactic| simp_all only [$xs,*]) => `(tactic| simp only [$xs,*, ↓Ow.wD_fn, ↓Ow.wS_seq, ↓Ow.wS_skip, ↓Ow.wS_cont, ↓Ow.wS_set, ↓Ow.wS_ret, ↓Ow.wS_drop, ↓Ow.wS_if, ↓Ow.wS_setP, ↓Ow.wS_par, ↓Ow.wS_aug, ↓Ow.wS_fset, ↓Ow.wS_lset, ↓Ow.wS_laug, ↓Ow.wS_dset, ↓Ow.kSeq_nx, ↓Ow.kSeq_ct, ↓Ow.kSeq_rt, ↓Ow.kRet_rt, ↓Ow.kRet_nx, ↓Ow.ex_one, ↓Ow.ex_two, ↓Ow.wL_lc, ↓Ow.wS_for, ↓Ow.wI_Li, ↓Ow.wI_Ti, ↓Ow.wI_Ri, ↓Ow.wI_S, ↓Ow.wW_d, ↓Ow.wW_s, ↓Ow.wW_r, ↓Ow.wWt_t, ↓Ow.wWr_i, ↓Ow.wE_var, ↓Ow.wE_c, ↓Ow.wE_gf, ↓Ow.wE_op, ↓Ow.wE_un, ↓Ow.wE_cb, ↓Ow.wE_chain, ↓Ow.wE_and, ↓Ow.wE_or, ↓Ow.wE_notV, ↓Ow.wE_if, ↓Ow.wE_tup, ↓Ow.wE_frz, ↓Ow.wE_new, ↓Ow.wE_sl, ↓Ow.wE_fld, ↓Ow.wE_app, ↓Ow.wE_ext, ↓Ow.wE_dget, ↓Ow.wE_call, ↓Ow.wE_pure, ↓Ow.wE_one, ↓Ow.wE_meth, ↓Ow.wE_make, ↓Ow.wE_m0, ↓Ow.wE_m1, ↓Ow.wE_index, ↓Ow.wE_maxD, ↓Ow.wE_joined, ↓Ow.wE_dict, ↓Ow.wJ_nil, ↓Ow.wJ_cons, ↓Ow.wo_pairs0, ↓Ow.wo_pairs1, ↓Ow.wT_isB, ↓Ow.wT_not, ↓Ow.wT_yes, ↓Ow.wT_and, ↓Ow.wT_or, ↓Ow.wA_nil, ↓Ow.wA_cons, ↓Ow.wL_lst, ↓Ow.wO_none, ↓Ow.wO_part, ↓Ow.wB_bool, ↓Ow.wZi_int, ↓Ow.wZs_str, ↓Ow.wZ_bool, ↓Ow.wU_none, ↓Ow.v_d, ↓Ow.v_r, ↓Ow.asD_d, ↓Ow.asDs_nil, ↓Ow.asDs_cons, ↓Ow.views_nil, ↓Ow.views_cons, ↓Ow.ref_r, ↓Ow.wo_at0, ↓Ow.wo_atS, ↓Ow.lst_0, ↓Ow.lst_S, ↓Ow.o_add_ii, ↓Ow.o_add_ss, ↓Ow.o_add_ll, ↓Ow.o_add_tt, ↓Ow.o_iadd_ii, ↓Ow.o_iadd_ss, ↓Ow.o_sub, ↓Ow.o_mul, ↓Ow.o_div, ↓Ow.o_mod, ↓Ow.o_pow, ↓Ow.o_neg, ↓Ow.o_lt, ↓Ow.o_le_ii, ↓Ow.o_le_ss, ↓Ow.o_ge, ↓Ow.o_gt, ↓Ow.o_gt2, ↓Ow.o_isN, ↓Ow.o_notN, ↓Ow.o_eq, ↓Ow.o_ne, ↓Ow.o_in_str, ↓Ow.o_nin_str, ↓Ow.o_in_l, ↓Ow.o_nin_l, ↓Ow.o_in_t, ↓Ow.o_nin_t, ↓Ow.o_ix_t0, ↓Ow.o_ix_t1, ↓Ow.o_ix_t2, ↓Ow.o_ix_t3, ↓Ow.o_ix_t4, ↓Ow.o_ix_s, ↓Ow.o_sl_s, ↓Ow.o_sl_l, ↓Ow.o_len_l, ↓Ow.o_len_t, ↓Ow.o_len_s, ↓Ow.o_min, ↓Ow.o_max, ↓Ow.o_abs, ↓Ow.o_int_i, ↓Ow.o_int_s, ↓Ow.o_str, ↓Ow.o_ord, ↓Ow.o_list, ↓Ow.o_tup_l, ↓Ow.o_tup_t, ↓Ow.o_low, ↓Ow.o_find, ↓Ow.o_strip, ↓Ow.o_join, ↓Ow.o_fmt, ↓Ow.o_fmt2, ↓Ow.o_fmt4, ↓Ow.bindP_n, ↓Ow.bindP_t, ↓Ow.bindNs_n, ↓Ow.bindNs_c, Ow.l0, Ow.l1, Ow.l2, Ow.l3, Ow.l4, Ow.l5, Ow.l6, Ow.l7, Ow.l8, Ow.l9, Ow.l10, Ow.l11, Ow.l12, Ow.l13, Ow.l14, Ow.l15, Ow.isNb_n, Ow.isNb_b, Ow.isNb_i, Ow.isNb_s, Ow.isNb_l, Ow.isNb_t, Ow.eqv_ss, Ow.eqv_ii, Ow.eqv_bb, Ow.eqv_nn, Ow.eqv_ll, Ow.eqv_tt, Ow.eqvA_nn, Ow.eqvA_cc, Ow.eqvA_cn, Ow.eqvA_nc, Ow.eqvA_empty, Ow.eqv_ls, Ow.eqv_ni, Ow.eqv_in, Ow.eqv_ns, Ow.eqv_sn, Ow.eqv_tn, Ow.shp_n, Ow.shp_b, Ow.shp_i, Ow.shp_s, Ow.shp_nil, Ow.shp_strs, Ow.shp_tstrs, Ow.shp_tints, Ow.all_noRef_d, Ow.all_noRef_a, Ow.all_noRef_n, List.map_cons, List.map_nil, List.length_cons, List.length_nil, List.replicate_succ, List.replicate_zero, List.cons_append, List.nil_append, List.set_cons_zero, List.set_cons_succ, Nat.zero_add, Nat.reduceAdd, Nat.reduceSub, Nat.reduceLeDiff, Nat.reduceEqDiff, decide_eq_true_eq, decide_eq_false_iff_not, Bool.not_true, Bool.not_false, Bool.not_eq_true', Bool.not_eq_false', Bool.not_eq_true, Bool.not_eq_false, and_true, true_and, implies_true, forall_const, reduceCtorEq, false_implies, PySem.PyData.int.injEq, PySem.PyData.bool.injEq, PySem.PyData.str.injEq, eq_self, exists_eq', exists_eq, or_true, true_or, and_self, Int.reduceNeg, Int.reducePow, Int.reduceLT, Int.reduceLE, Int.reduceToNat, not_true_eq_false, not_false_eq_true, false_or, or_false, and_false, false_and, if_true, if_false])
set_option Elab.async false
set_option linter.all false
set_option maxRecDepth 100000
set_option maxHeartbeats 4000000
namespace Ow
open PySem L2
variable {Q : PyData → Prop}
/-- the truth, number, text that a def answers -/
noncomputable def bV (F : DF) (vs : List DV) : Bool := match pf F vs with
  | some (.bool b) => b
  | _ => false
noncomputable def iV (F : DF) (vs : List DV) : Int := match pf F vs with
  | some (.int b) => b
  | _ => 0
noncomputable def sV (F : DF) (vs : List DV) : Str := match pf F vs with
  | some (.str b) => b
  | _ => Str.empty
theorem bV_eq {F : DF} {vs : List DV} (h : wP F vs fun z => ∃ b, z = .bool b) : pf F vs = some (.bool (bV F vs)) := by
  obtain ⟨z, e, b, rfl⟩ := h
  unfold bV
  rw [e]
theorem iV_eq {F : DF} {vs : List DV} (h : wP F vs fun z => ∃ b, z = .int b) : pf F vs = some (.int (iV F vs)) := by
  obtain ⟨z, e, b, rfl⟩ := h
  unfold iV
  rw [e]
theorem sV_eq {F : DF} {vs : List DV} (h : wP F vs fun z => ∃ b, z = .str b) : pf F vs = some (.str (sV F vs)) := by
  obtain ⟨z, e, b, rfl⟩ := h
  unfold sV
  rw [e]
/-- a number or None -/
def oInt (z : PyData) : Prop := z = .none ∨ ∃ i, z = .int i
def isVS (i : Int) : Bool := decide (i = 9) || (decide (32 ≤ i) && decide (i ≤ 126) && !decide (i = 37))
theorem s_is_value_sign (i : Int) : wP F_is_value_sign [.d (.int i)] Q ↔ Q (.bool (isVS i)) := wP_eq (wP_of (by
  rw [wP_D]
  simp_all only [F_is_value_sign, g_is_value_sign]
  (repeat' (first | intro _ | refine And.intro ?_ ?_)) <;> simp_all [isVS] <;> omega))
theorem ixN_ok {n : Nat} {i : Int} (h0 : 0 ≤ i) (h1 : i < n) : ixN n i = some i.toNat := by
  unfold ixN
  rw [if_pos h0, if_pos h1]
theorem s_sign_of {i : Int} (h : isVS i = true) : wP F_sign_of [.d (.int i)] fun z => ∃ c, z = .str ⟨#[c]⟩ := by
  have hl : (Str.ofString " !\"#$&'()*+,-./0123456789:;<=>?@ABCDEFGHIJKLMNOPQRSTUVWXYZ[\\]^_`abcdefghijklmnopqrstuvwxyz{|}~").length = 94 := by decide +kernel
  have h2 : i = 9 ∨ (32 ≤ i ∧ i ≤ 126 ∧ i ≠ 37) := by simpa [isVS, and_assoc] using h
  rw [wP_D]
  simp_all only [F_sign_of, g_sign_of, hl]
  refine ⟨fun _ => ⟨9, rfl⟩, fun h9 => ⟨fun h37 => ⟨by decide, ?_⟩, fun h37 => ⟨by decide, ?_⟩⟩⟩
  · rw [ixN_ok (by omega) (by omega), wo_some]; exact ⟨_, rfl⟩
  · rw [ixN_ok (by omega) (by omega), wo_some]; exact ⟨_, rfl⟩
theorem s_is_digit (i : Int) : wP F_is_digit [.d (.int i)] Q ↔ Q (.bool (decide (48 ≤ i) && decide (i ≤ 57))) := wP_eq (wP_of (by
  rw [wP_D]
  simp_all only [F_is_digit, g_is_digit]
  (repeat' (first | intro _ | refine And.intro ?_ ?_)) <;> simp_all <;> omega))
theorem s_is_letter (i : Int) : wP F_is_letter [.d (.int i)] Q ↔ Q (.bool (bV F_is_letter [.d (.int i)])) := wP_eq (bV_eq (by
  rw [wP_D]
  simp_all only [F_is_letter, g_is_letter]))
theorem s_is_token_sign (i : Int) : wP F_is_token_sign [.d (.int i)] Q ↔ Q (.bool (bV F_is_token_sign [.d (.int i)])) := wP_eq (bV_eq (by
  rw [wP_D]
  simp_all only [F_is_token_sign, g_is_token_sign, ↓s_is_digit, ↓s_is_letter, ↓s_is_value_sign]
  (repeat' (first | intro _ | refine And.intro ?_ ?_))
  refine (s_sign_of (by assumption)).mono fun z ⟨c, e⟩ => ?_
  subst e
  simp_all only [wo_some]))
theorem live_str {M : Mem} {x : PyData} {xs : List PyData} : live M (.d x) xs := trivial
theorem len1 (c : Nat) : (⟨#[c]⟩ : Str).length = 1 := rfl
theorem s_is_token (x : Str) : wP F_is_token [.d (.str x)] Q ↔ Q (.bool (bV F_is_token [.d (.str x)])) := wP_eq (bV_eq (by
  rw [wP_D]
  simp_all only [F_is_token, g_is_token]
  (repeat' (first | intro _ | refine And.intro ?_ ?_))
  refine for_run (fun c => PyData.str ⟨#[c]⟩) (fun _ ds M => M = [] ∧ ∃ o, ds = [some (.d (.str x)), o]) (fun _ _ _ _ => live_d) ?_ ?_ _ _ _ ⟨rfl, _, rfl⟩
  · rintro c r ds M ⟨rfl, o, rfl⟩
    simp_all only [↓s_is_token_sign, len1]
    (repeat' (first | intro _ | refine And.intro ?_ ?_))
    all_goals exact ⟨_, rfl⟩
  · rintro ds M ⟨rfl, o, rfl⟩
    simp_all only [wo_some]))
theorem s_lower {x : Str} (h : x.length ≤ lim) : wP F_lower [.d (.str x)] Q ↔ Q (.str (Txt.lower x)) := wP_eq (wP_of (by
  rw [wP_D]
  simp_all only [F_lower, g_lower, h]))
def trm (x : Str) : Str := Txt.stripChars x " \t"
theorem trm_len (x : Str) : (trm x).length ≤ x.length := PyProof.Rows.len_stripChars _ _
theorem s_trimmed {x : Str} (h : x.length ≤ lim) : wP F_trimmed [.d (.str x)] Q ↔ Q (.str (trm x)) := wP_eq (wP_of (by
  rw [wP_D]
  simp_all only [F_trimmed, g_trimmed, h]
  rfl))
def dig (x : Str) : Bool := x.cps.toList.all fun c => decide (48 ≤ c) && decide (c ≤ 57)
theorem digits_list : (Str.ofString "0123456789").cps.toList = [48, 49, 50, 51, 52, 53, 54, 55, 56, 57] := by decide +kernel
theorem in_digits (c : Nat) : c ∈ [48, 49, 50, 51, 52, 53, 54, 55, 56, 57] ↔ 48 ≤ c ∧ c ≤ 57 := by
  simp only [List.mem_cons, List.not_mem_nil, or_false]
  omega
theorem s_are_digits (x : Str) : wP F_are_digits [.d (.str x)] Q ↔ Q (.bool (dig x)) := wP_eq (wP_of (by
  rw [wP_D]
  simp_all only [F_are_digits, g_are_digits]
  refine for_run (fun c => PyData.str ⟨#[c]⟩) (fun r ds M => M = [] ∧ (r.all fun c => decide (48 ≤ c) && decide (c ≤ 57)) = dig x ∧ ∃ o, ds = [some (.d (.str x)), o]) (fun _ _ _ _ => live_d) ?_ ?_ _ _ _ ⟨rfl, rfl, _, rfl⟩
  · rintro c r ds M ⟨rfl, hr, o, rfl⟩
    rw [List.all_cons] at hr
    simp_all only [digits_list, in_digits]
    refine ⟨fun h => ?_, fun h => ?_⟩
    · rw [← hr]
      have : (decide (48 ≤ c) && decide (c ≤ 57)) = false := by simpa using h
      rw [this]; rfl
    · have : (decide (48 ≤ c) && decide (c ≤ 57)) = true := by simpa using h
      rw [this] at hr
      exact ⟨hr, _, rfl⟩
  · rintro ds M ⟨rfl, hr, o, rfl⟩
    simp_all only [wo_some]
    exact hr))
theorem int_dig {x : Str} (h : dig x = true) (h1 : 0 < x.length) (h2 : x.length ≤ 4300) : ∃ n : Int, intText? x = some n ∧ 0 ≤ n := by
  refine ⟨_, PySem.intText_digits (fun c hc => ?_) (fun e => ?_) h2, Int.natCast_nonneg _⟩
  · have := List.all_eq_true.mp h c hc
    simpa using this
  · have : x.cps.toList.length = 0 := by rw [e]; rfl
    rw [Array.length_toList] at this
    unfold Str.length at h1
    omega
theorem len_pos {x : Str} (h : ¬ x = Str.ofString "") : 0 < x.length := by
  rcases Nat.eq_zero_or_pos x.length with e | e
  · refine absurd ?_ h
    cases x with
    | mk cps =>
      have : cps = #[] := Array.eq_empty_of_size_eq_zero e
      rw [this]
      rfl
  · exact e
theorem s_number {x : Str} (h : x.length ≤ 640) : wP F_number [.d (.str x)] Q ↔ Q (.int (iV F_number [.d (.str x)])) := wP_eq (iV_eq (by
  rw [wP_D]
  simp_all only [F_number, g_number, ↓s_are_digits, h]
  (repeat' (first | intro _ | refine And.intro ?_ ?_))
  rename_i h1 h2
  obtain ⟨n, e, _⟩ := int_dig h2 (len_pos h1) (by omega)
  rw [e, wo_some]
  trivial))
/-! dates -/
theorem s_days_of (y m d : Int) : wP F_days_of [.d (.int y), .d (.int m), .d (.int d)] Q ↔ Q (.int (iV F_days_of [.d (.int y), .d (.int m), .d (.int d)])) := wP_eq (iV_eq (by
  rw [wP_D]
  simp_all only [F_days_of, g_days_of]))
theorem s_date_of (d : Int) : wP F_date_of [.d (.int d)] fun z => ∃ a b c, z = .tuple [.int a, .int b, .int c] := by
  rw [wP_D]
  simp_all only [F_date_of, g_date_of]
  (repeat' (first | intro _ | refine And.intro ?_ ?_)) <;> first | decide | exact ⟨_, _, _, rfl⟩
theorem s_weekday_of (d : Int) : wP F_weekday_of [.d (.int d)] Q ↔ Q (.int ((d + 3) % 7)) := wP_eq (wP_of (by
  rw [wP_D]
  simp_all only [F_weekday_of, g_weekday_of]))
theorem s_length_of_month (y m : Int) : wP F_length_of_month [.d (.int y), .d (.int m)] Q ↔ Q (.int (iV F_length_of_month [.d (.int y), .d (.int m)])) := wP_eq (iV_eq (by
  rw [wP_D]
  simp_all only [F_length_of_month, g_length_of_month, ↓s_days_of]))
theorem ix_any {xs : List PyData} {i : Int} (h0 : 0 ≤ i) (h1 : i < xs.length) (k : ∀ x ∈ xs, Q x) : wo (ixN xs.length i) fun j => wo (xs[j]?) Q := by
  rw [ixN_ok h0 h1, wo_some]
  have hl : i.toNat < xs.length := by omega
  rw [List.getElem?_eq_getElem hl, wo_some]
  exact k _ (List.getElem_mem hl)
theorem s_read_clock {x : Str} (h : x.length ≤ lim) : wP F_read_clock [.d (.str x)] Q ↔ Q (.int (iV F_read_clock [.d (.str x)])) := wP_eq (iV_eq (by
  by_cases h8 : (x.length : Int) = 8
  · have c0 : ∀ a b, (cutS x a b).length ≤ 640 := fun a b => by have := cutS_length x a b; omega
    rw [wP_D]
    simp_all only [F_read_clock, g_read_clock, h8, h, s_number (c0 _ _)]
    rw [ixN_ok (by omega) (by omega), wo_some]
    (repeat' (first | intro _ | refine And.intro ?_ ?_))
    rw [ixN_ok (by omega) (by omega), wo_some]
    (repeat' (first | intro _ | refine And.intro ?_ ?_))
    trivial
  · rw [wP_D]
    simp_all only [F_read_clock, g_read_clock, h, h8]))
theorem s_long_name {x : Str} : wP F_long_name [.d (.str x)] Q ↔ Q (.str (sV F_long_name [.d (.str x)])) := wP_eq (sV_eq (by
  rw [wP_D]
  simp_all only [F_long_name, g_long_name]
  refine for_run (fun c => PyData.str c) (fun r ds M => M = [] ∧ (∃ o, ds = [some (.d (.str x)), o]) ∧ ∀ z ∈ r, z.length ≤ lim) (fun _ _ _ _ => live_d) ?_ ?_ ["Monday", "Tuesday", "Wednesday", "Thursday", "Friday", "Saturday", "Sunday"] _ _ ⟨rfl, ⟨_, rfl⟩, by decide +kernel⟩
  · rintro c r ds M ⟨rfl, ⟨o, rfl⟩, hr⟩
    simp_all only [hr c List.mem_cons_self]
    (repeat' (first | intro _ | refine And.intro ?_ ?_))
    all_goals first | exact ⟨_, rfl⟩ | exact hr _ (List.mem_cons_of_mem _ (by assumption))
  · rintro ds M ⟨rfl, ⟨o, rfl⟩, hr⟩
    simp_all only [wo_some]))
theorem s_full_year (a b : Int) : wP F_full_year [.d (.int a), .d (.int b)] Q ↔ Q (.int (iV F_full_year [.d (.int a), .d (.int b)])) := wP_eq (iV_eq (by
  rw [wP_D]
  simp_all only [F_full_year, g_full_year]
  refine (s_date_of _).mono ?_
  rintro z ⟨a, b, c, rfl⟩
  simp_all only [wo_some]))
theorem mem_months : ∀ z : Str, z ∈ months → ∃ j : Nat, (months.findIdx? fun y => decide (y = z)) = some j := by
  intro z hz
  cases e : months.findIdx? fun y => decide (y = z) with
  | some j => exact ⟨j, rfl⟩
  | none =>
    have := List.findIdx?_eq_none_iff.mp e z hz
    simp at this
theorem s_made {w m k : Str} {y d : Int} (hk : k.length ≤ lim) : wP F_made [.d (.str w), .d (.int y), .d (.str m), .d (.int d), .d (.str k)] oInt := by
  rw [wP_D]
  simp_all only [F_made, g_made, ↓s_read_clock hk, ↓s_length_of_month, ↓s_days_of, ↓s_weekday_of, o_ix_t]
  refine ⟨by decide +kernel, fun _ => .inl rfl, fun hm => ⟨fun _ => ⟨fun _ => .inl rfl, fun _ => ⟨fun _ => .inl rfl, fun _ => ?_⟩⟩, fun _ => .inl rfl⟩⟩
  obtain ⟨j, e⟩ := mem_months m (by
    simp only [List.any_cons, List.any_nil, Bool.or_false, eqv_ss, Bool.or_eq_true, decide_eq_true_eq] at hm
    simp only [months, List.mem_cons, List.not_mem_nil, or_false]
    simpa only [eq_comm] using hm)
  rw [e, wo_some]
  refine ⟨fun _ => ⟨fun _ => .inl rfl, fun _ => ?_⟩, fun _ => .inl rfl⟩
  refine ix_any (xs := [PyData.str "Monday", .str "Tuesday", .str "Wednesday", .str "Thursday", .str "Friday", .str "Saturday", .str "Sunday"]) (by omega) (by show _ < ((7 : Nat) : Int); omega) fun z hz => ⟨?_, fun _ => .inl rfl, fun _ => .inr ⟨_, rfl⟩⟩
  simp only [List.mem_cons, List.not_mem_nil, or_false] at hz
  rcases hz with rfl | rfl | rfl | rfl | rfl | rfl | rfl <;> rfl
theorem s_read_short {x : Str} (h : x.length ≤ lim) : wP F_read_short [.d (.str x)] oInt := by
  have c1 : ∀ a b, (cutS x a b).length ≤ lim := fun a b => by have := cutS_length x a b; omega
  by_cases h8 : (x.length : Int) = 29
  · have c0 : ∀ a b, (cutS x a b).length ≤ 640 := fun a b => by have := cutS_length x a b; omega
    rw [wP_D]
    simp_all only [F_read_short, g_read_short, h8, h, s_number (c0 _ _), ↓s_long_name]
    refine ⟨fun _ => .inl rfl, fun _ => ?_⟩
    rw [ixN_ok (by omega) (by omega), wo_some]
    refine ⟨fun _ => .inl rfl, fun _ => ?_⟩
    rw [ixN_ok (by omega) (by omega), wo_some]
    refine ⟨fun _ => .inl rfl, fun _ => ?_⟩
    rw [ixN_ok (by omega) (by omega), wo_some]
    exact ⟨fun _ => .inl rfl, fun _ => ⟨fun _ => .inl rfl, fun _ => s_made (c1 _ _)⟩⟩
  · rw [wP_D]
    simp_all only [F_read_short, g_read_short, h, h8]
    exact .inl rfl
theorem s_read_long {x : Str} {n : Int} (h : x.length ≤ lim) : wP F_read_long [.d (.str x), .d (.int n)] oInt := by
  have c1 : ∀ a b, (cutS x a b).length ≤ lim := fun a b => by have := cutS_length x a b; omega
  have c2 : ∀ a b c d, (cutS (cutS x a b) c d).length ≤ lim := fun a b c d => by have := cutS_length x a b; have := cutS_length (cutS x a b) c d; omega
  generalize hz : cutS x (some (Txt.find x ", " + 2)) none = z
  have hzl : z.length ≤ lim := by rw [← hz]; exact c1 _ _
  have c3 : ∀ a b, (cutS z a b).length ≤ lim := fun a b => by have := cutS_length z a b; omega
  by_cases h8 : (z.length : Int) = 22
  · have c0 : ∀ a b, (cutS z a b).length ≤ 640 := fun a b => by have := cutS_length z a b; omega
    rw [wP_D]
    simp_all only [F_read_long, g_read_long, h, hz, hzl, h8, s_number (c0 _ _), ↓s_full_year]
    refine ⟨fun _ => .inl rfl, fun _ => ?_⟩
    rw [ixN_ok (by omega) (by omega), wo_some]
    refine ⟨fun _ => .inl rfl, fun _ => ?_⟩
    rw [ixN_ok (by omega) (by omega), wo_some]
    refine ⟨fun _ => .inl rfl, fun _ => ?_⟩
    rw [ixN_ok (by omega) (by omega), wo_some]
    refine ⟨fun _ => .inl rfl, fun _ => ?_⟩
    refine ⟨fun _ => .inl rfl, fun _ => ?_⟩
    exact ⟨fun _ => .inl rfl, fun _ => s_made (c3 _ _)⟩
  · rw [wP_D]
    simp_all only [F_read_long, g_read_long, h, hz, hzl, h8]
    exact ⟨fun _ => .inl rfl, fun _ => .inl rfl⟩
theorem s_read_old {x : Str} (h : x.length ≤ lim) : wP F_read_old [.d (.str x)] oInt := by
  have c1 : ∀ a b, (cutS x a b).length ≤ lim := fun a b => by have := cutS_length x a b; omega
  by_cases h8 : (x.length : Int) = 24
  · have c0 : ∀ a b, (cutS x a b).length ≤ 640 := fun a b => by have := cutS_length x a b; omega
    have cc : ∀ j, (chr x j).length ≤ 640 := fun j => (by decide : 1 ≤ 640)
    rw [wP_D]
    simp_all only [F_read_old, g_read_old, h8, h, s_number (c0 _ _), s_number (cc _), ↓s_long_name]
    rw [ixN_ok (by omega) (by omega), wo_some]
    refine ⟨fun _ => .inl rfl, fun _ => ?_⟩
    rw [ixN_ok (by omega) (by omega), wo_some]
    refine ⟨fun _ => .inl rfl, fun _ => ?_⟩
    rw [ixN_ok (by omega) (by omega), wo_some]
    refine ⟨fun _ => .inl rfl, fun _ => ?_⟩
    rw [ixN_ok (by omega) (by omega), wo_some]
    refine ⟨fun _ => .inl rfl, fun _ => ?_⟩
    rw [ixN_ok (by omega) (by omega), wo_some]
    refine ⟨fun _ => ?_, fun _ => ?_⟩
    · rw [ixN_ok (by omega) (by omega), wo_some, wo_some]
      exact ⟨fun _ => .inl rfl, fun _ => s_made (c1 _ _)⟩
    · rw [wo_some]
      exact ⟨fun _ => .inl rfl, fun _ => s_made (c1 _ _)⟩
  · rw [wP_D]
    simp_all only [F_read_old, g_read_old, h, h8]
    exact .inl rfl
theorem s_read_date {x : Str} {n : Int} (h : x.length ≤ lim) : wP F_read_date [.d (.str x), .d (.int n)] oInt := by
  rw [wP_D]
  simp_all only [F_read_date, g_read_date]
  refine (s_read_short h).mono ?_
  rintro z (rfl | ⟨i, rfl⟩)
  · simp_all only [wo_some]
    refine (s_read_long h).mono ?_
    rintro z (rfl | ⟨i, rfl⟩)
    · simp_all only [wo_some]
      refine (s_read_old h).mono ?_
      rintro z (rfl | ⟨i, rfl⟩)
      · exact .inl rfl
      · exact .inr ⟨_, rfl⟩
    · simp_all only [wo_some]
      exact .inr ⟨_, rfl⟩
  · simp_all only [wo_some]
    exact .inr ⟨_, rfl⟩
end Ow
set_option Elab.async false
set_option linter.all false
set_option maxRecDepth 100000
set_option maxHeartbeats 4000000
namespace Ow
open PySem L2
variable {Q : PyData → Prop}
theorem wipe_n {ds : DS} : wipeD ds [] = ds := rfl
theorem wipe_c {ds : DS} {v : Nat} {vs : List Nat} : wipeD ds (v :: vs) = (wipeD ds vs).set v none := rfl
/-! ### fields -/
abbrev Flds := List (Str × Str)
def eP (p : Str × Str) : PyData := .tuple [.str p.1, .str p.2]
def eF (fs : Flds) : PyData := .tuple (fs.map eP)
def vals (fs : Flds) (n : Str) : List Str := (fs.filter fun p => decide (p.1 = n)).map (·.2)
def weigh (xs : List Str) : Nat := (xs.map fun x => x.length + 2).sum
structure Small (fs : Flds) : Prop where
  len : fs.length ≤ 1000
  sz : weigh (fs.map (·.2)) ≤ 20000
theorem weigh_cons (x : Str) (xs : List Str) : weigh (x :: xs) = x.length + 2 + weigh xs := by unfold weigh; rw [List.map_cons, List.sum_cons]
theorem weigh_app (xs ys : List Str) : weigh (xs ++ ys) = weigh xs + weigh ys := by unfold weigh; rw [List.map_append, List.sum_append]
theorem weigh_mem {x : Str} {xs : List Str} (h : x ∈ xs) : x.length + 2 ≤ weigh xs := by
  induction xs with
  | nil => cases h
  | cons y ys ih =>
    rw [weigh_cons]
    rcases List.mem_cons.mp h with rfl | h
    · omega
    · have := ih h; omega
theorem vals_weigh (n : Str) : ∀ fs : Flds, weigh (vals fs n) ≤ weigh (fs.map (·.2))
  | [] => Nat.le_refl _
  | p :: fs => by
    have ih := vals_weigh n fs
    unfold vals at ih ⊢
    rw [List.filter_cons, List.map_cons, weigh_cons]
    split
    · rw [List.map_cons, weigh_cons]; omega
    · omega
theorem vals_len (n : Str) (fs : Flds) : (vals fs n).length ≤ fs.length := by
  unfold vals
  rw [List.length_map]
  exact List.length_filter_le _ _
theorem s_values {fs : Flds} {n : Str} (h : fs.length ≤ 1000) : wP F_values [.d (eF fs), .d (.str n)] Q ↔ Q (.list ((vals fs n).map .str)) := wP_eq (wP_of (by
  rw [wP_D]
  simp_all only [F_values, g_values, eF]
  refine ⟨by rw [List.length_map]; exact Nat.le_trans h (by decide), ?_⟩
  rw [lc_run eP (fun p => decide (p.1 = n)) (fun p => .str p.2) live_d fs fun p _ => ?_, wo_some]
  · simp only [vals, List.map_map]; rfl
  · simp_all only [eP, wipe_n, wipe_c]))
theorem join_len (sep : Str) (l : List Str) : (Txt.join sep l).length ≤ (l.map (·.length)).sum + l.length * sep.length := by
  have e : Txt.join sep l = Str.join sep l := eq_of_beq (PyProof.Rows.join_closes (sep := sep) (sep' := sep) (ys := l) rfl)
  rw [e]
  cases l with
  | nil => exact Nat.zero_le _
  | cons a l =>
    rw [PyProof.Rows.len_join_cons, List.length_cons, Nat.succ_mul]
    omega
theorem weigh_eq (l : List Str) : weigh l = (l.map (·.length)).sum + l.length * 2 := by
  induction l with
  | nil => rfl
  | cons a l ih => rw [weigh_cons, ih, List.map_cons, List.sum_cons, List.length_cons]; omega
def oS : Option Str → PyData
  | none => .none
  | some x => .str x
def joinV (fs : Flds) (n : Str) : Option Str := if vals fs n = [] then none else some (Txt.join ", " (vals fs n))
theorem joinV_len {fs : Flds} {n x : Str} (h : Small fs) (e : joinV fs n = some x) : x.length ≤ 20000 := by
  unfold joinV at e
  split at e
  · cases e
  · cases e
    have h1 := join_len ", " (vals fs n)
    have h2 := weigh_eq (vals fs n)
    have h3 := vals_weigh n fs
    have h4 := h.sz
    have h5 : (Str.ofString ", ").length = 2 := by decide +kernel
    rw [h5] at h1
    omega
theorem s_join_values {fs : Flds} {n : Str} (h : Small fs) : wP F_join_values [.d (eF fs), .d (.str n)] Q ↔ Q (oS (joinV fs n)) := wP_eq (wP_of (by
  have h5 : (Str.ofString ", ").length = 2 := by decide +kernel
  rw [wP_D]
  simp_all only [F_join_values, g_join_values, ↓s_values h.len]
  unfold joinV
  refine ⟨fun e => ?_, fun e => ?_⟩
  · have e2 : vals fs n = [] := by simpa using e
    rw [if_pos e2]; rfl
  · have e2 : ¬ vals fs n = [] := by simpa using e
    rw [if_neg e2]
    refine ⟨?_, rfl⟩
    have h2 := weigh_eq (vals fs n)
    have h3 := vals_weigh n fs
    have h4 := h.sz
    rw [h5]
    show _ ≤ 1000000
    omega))
/-! ### cutting -/
/-- a list of texts, n signs in all -/
def Texts (n : Nat) (z : PyData) : Prop := ∃ ps : List Str, z = .list (ps.map .str) ∧ (ps.map (·.length)).sum + ps.length ≤ n
theorem s_cut {x m : Str} (h : x.length ≤ 500000) : wP F_cut [.d (.str x), .d (.str m)] fun z => z = .none ∨ Texts (x.length + 1) z := by
  have he : (Str.ofString "").length = 0 := by decide
  have hx : (signs x) = x.cps.toList.map fun c => PyData.str ⟨#[c]⟩ := rfl
  have hl : x.cps.toList.length = x.length := Array.length_toList
  rw [wP_D]
  simp_all only [F_cut, g_cut]
  rw [hx]
  refine for_run (fun c => PyData.str ⟨#[c]⟩) (fun r ds M => ∃ (ini : List Str) (la : Str) (q e : Bool) (o : Option DV), M = [.lst ((ini ++ [la]).map .str)] ∧ ds = [some (.d (.str x)), some (.d (.str m)), some (.r 0), some (.d (.bool q)), some (.d (.bool e)), o] ∧ (ini.map (·.length)).sum + la.length + ini.length + 1 + r.length ≤ x.length + 1) (fun _ _ _ _ => live_d) ?_ ?_ _ _ _ ⟨[], Str.ofString "", false, false, none, rfl, rfl, ?_⟩
  · rintro c r ds M ⟨ini, la, q, e, o, rfl, rfl, hs⟩
    rw [List.length_cons] at hs
    have hlen : ((ini ++ [la]).map PyData.str).length = ini.length + 1 := by simp
    have hix : ixN (ini.length + 1) (-1) = some ini.length := by rw [ixN_m1 (by omega)]; rfl
    have hget : ((ini ++ [la]).map PyData.str)[ini.length]? = some (.str la) := by simp
    have hset : ∀ y, ((ini ++ [la]).map PyData.str).set ini.length (.str y) = (ini ++ [y]).map PyData.str := fun y => by simp
    have happ : ∀ y, (ini ++ [la]).map PyData.str ++ [.str y] = ((ini ++ [la]) ++ [y]).map PyData.str := fun y => by simp
    have hlim : ini.length + 1 < lim := by show _ < 1000000; omega
    have hla : la.length + 1 ≤ lim := by show _ ≤ 1000000; omega
    have hlc : (la ++ (⟨#[c]⟩ : Str)).length = la.length + 1 := PySem.Str.length_append _ _
    simp_all only [hlen, hix, hget, hset, happ, wo_some, len1, hlim, hla]
    (repeat' (first | intro _ | refine And.intro ?_ ?_))
    all_goals refine ⟨_, _, _, _, _, rfl, rfl, ?_⟩
    all_goals first
      | (rw [hlc]; omega)
      | (simp only [List.map_append, List.sum_append, List.map_cons, List.map_nil, List.sum_cons, List.sum_nil, List.length_append, List.length_cons, List.length_nil, he]; omega)
  · rintro ds M ⟨ini, la, q, e, o, rfl, rfl, hs⟩
    simp_all only [wo_some]
    refine fun _ => ⟨ini ++ [la], rfl, ?_⟩
    simp only [List.map_append, List.sum_append, List.map_cons, List.map_nil, List.sum_cons, List.sum_nil, List.length_append, List.length_cons, List.length_nil] at hs ⊢
    omega
  · simp only [List.map_nil, List.sum_nil, he, hl, List.length_nil]
    omega
end Ow
set_option Elab.async false
set_option linter.all false
set_option maxRecDepth 100000
set_option maxHeartbeats 4000000
namespace Ow
open PySem L2
variable {Q : PyData → Prop}
/-- what a def answers, as a thing of T -/
noncomputable def rV {T : Type} [Inhabited T] (enc : T → PyData) (F : DF) (vs : List DV) : T := by
  classical
  exact if h : ∃ o, pf F vs = some (enc o) then h.choose else default
theorem rV_eq {T : Type} [Inhabited T] {enc : T → PyData} {F : DF} {vs : List DV} (h : wP F vs fun z => ∃ o, z = enc o) : pf F vs = some (enc (rV enc F vs)) := by
  obtain ⟨z, e, o, rfl⟩ := h
  have h2 : ∃ o, pf F vs = some (enc o) := ⟨o, e⟩
  unfold rV
  rw [dif_pos h2]
  exact h2.choose_spec
def oI : Option Int → PyData
  | none => .none
  | some x => .int x
def eTag : Option (Bool × Str) → PyData
  | none => .none
  | some x => .tuple [.bool x.1, .str x.2]
theorem oI_of {z : PyData} (h : oInt z) : ∃ o, z = oI o := by
  rcases h with rfl | ⟨i, rfl⟩
  · exact ⟨none, rfl⟩
  · exact ⟨some i, rfl⟩
theorem isNb_oI {o : Option Int} : isNb (oI o) = o.isNone := by cases o <;> rfl
theorem isNb_oS {o : Option Str} : isNb (oS o) = o.isNone := by cases o <;> rfl
theorem isNb_eTag {o : Option (Bool × Str)} : isNb (eTag o) = o.isNone := by cases o <;> rfl
theorem shp_oI {o : Option Int} : shp (oI o) = true := by cases o <;> rfl
theorem shp_oS {o : Option Str} : shp (oS o) = true := by cases o <;> rfl
noncomputable abbrev rdV (x : Str) (n : Int) : Option Int := rV oI F_read_date [.d (.str x), .d (.int n)]
theorem s_rd {x : Str} {n : Int} (h : x.length ≤ lim) : wP F_read_date [.d (.str x), .d (.int n)] Q ↔ Q (oI (rdV x n)) := wP_eq (rV_eq ((s_read_date h).mono fun _ => oI_of))
/-! ### lists of texts -/
theorem texts_sub {ps : List Str} {φ : Str → Bool} {n : Nat} (h : (ps.map (·.length)).sum + ps.length ≤ n) : (((ps.filter φ).map trm).map (·.length)).sum + ((ps.filter φ).map trm).length ≤ n := by
  refine Nat.le_trans ?_ h
  clear h
  induction ps with
  | nil => exact Nat.le_refl _
  | cons p ps ih =>
    have := trm_len p
    rw [List.filter_cons]
    split
    · simp only [List.map_cons, List.sum_cons, List.length_cons] at ih ⊢
      omega
    · simp only [List.map_cons, List.sum_cons, List.length_cons] at ih ⊢
      omega
theorem sum_mem {ps : List Str} {p : Str} (h : p ∈ ps) : p.length ≤ (ps.map (·.length)).sum := by
  induction ps with
  | nil => cases h
  | cons q ps ih =>
    rw [List.map_cons, List.sum_cons]
    rcases List.mem_cons.mp h with rfl | h
    · omega
    · have := ih h; omega
theorem s_split_list {x : Str} (h : x.length ≤ 500000) : wP F_split_list [.d (.str x)] fun z => z = .none ∨ Texts (x.length + 1) z := by
  rw [wP_D]
  simp_all only [F_split_list, g_split_list]
  refine (s_cut h).mono ?_
  rintro z (rfl | ⟨ps, rfl, hs⟩)
  · simp_all only [wo_some]
  · have hl : ps.length ≤ lim := by show _ ≤ 1000000; omega
    have hm : ∀ p ∈ ps, p.length ≤ lim := fun p hp => by have := sum_mem hp; show _ ≤ 1000000; omega
    simp_all only [hl, List.length_map]
    rw [lc_run PyData.str (fun p => !decide (trm p = Str.ofString "")) (fun p => .str (trm p)) live_d ps fun p hp => ?_, wo_some]
    · exact ⟨(ps.filter fun p => !decide (trm p = Str.ofString "")).map trm, by rw [List.map_map]; rfl, texts_sub hs⟩
    · simp_all only [s_trimmed (hm p hp), wipe_n, wipe_c]
/-! ### requests, responses, entries -/
structure Rp where
  st : Int
  fs : Flds
  bd : List Int
structure Rq where
  me : Str
  tg : List Int
  fs : Flds
structure En where
  tg : List Int
  fs : Flds
  rs : Rp
  ad : Int
  cm : Int
def eT (x : List Int) : PyData := .tuple (x.map .int)
def eR (r : Rp) : PyData := .tuple [.int r.st, eF r.fs, eT r.bd, .tuple []]
def eQ (q : Rq) : PyData := .tuple [.str q.me, eT q.tg, eF q.fs, .tuple [], .tuple []]
def eE (e : En) : PyData := .tuple [eT e.tg, eF e.fs, eR e.rs, .int e.ad, .int e.cm]
theorem fl_T {x : List Int} : fl 1 (eT x) := fl_t (fls_all fun d h => by obtain ⟨x, _, rfl⟩ := List.mem_map.mp h; exact fl_i)
theorem fl_F {x : Flds} : fl 2 (eF x) := fl_t (fls_all fun d h => by obtain ⟨x, _, rfl⟩ := List.mem_map.mp h; exact fl_t (fls_cons fl_s (fls_cons fl_s fls_nil)))
theorem fl_R {r : Rp} : fl 3 (eR r) := fl_t (fls_cons fl_i (fls_cons fl_F (fls_cons (fl_up fl_T (by decide)) (fls_cons (fl_t fls_nil) fls_nil))))
theorem fl_Q {r : Rq} : fl 3 (eQ r) := fl_t (fls_cons fl_s (fls_cons (fl_up fl_T (by decide)) (fls_cons fl_F (fls_cons (fl_t fls_nil) (fls_cons (fl_t fls_nil) fls_nil)))))
theorem fl_E {r : En} : fl 4 (eE r) := fl_t (fls_cons (fl_up fl_T (by decide)) (fls_cons (fl_up fl_F (by decide)) (fls_cons fl_R (fls_cons fl_i (fls_cons fl_i fls_nil)))))
theorem shp_T {x : List Int} : shp (eT x) = true := shp_of fl_T (by decide)
def pEs (z : PyData) : Prop := ∃ ns : List Str, z = .list (ns.map .str) ∧ ns.length ≤ 20001
theorem weigh_all (fs : Flds) (n : Str) (h : Small fs) : weigh (vals fs n) ≤ 20000 := Nat.le_trans (vals_weigh n fs) h.sz
theorem ft {α : Type} {ps : List α} : ps.filter (fun _ => true) = ps := List.filter_eq_self.mpr fun _ _ => rfl
theorem s_vary {r : Rp} (h : Small r.fs) : wP F_vary_names [.d (eR r)] pEs := by
  have hw := weigh_all r.fs (Str.ofString "vary") h
  rw [wP_D]
  simp_all only [F_vary_names, g_vary_names, eR, s_values h.len]
  refine for_run PyData.str (fun vs ds M => ∃ (acc : List Str) (o p q : Option DV), M = [.lst (acc.map .str)] ∧ ds = [some (.d (eR r)), some (.r 0), o, p, q] ∧ acc.length + weigh vs ≤ 20000) (fun _ _ _ _ => live_d) ?_ ?_ _ _ _ ⟨[], _, _, _, rfl, rfl, by simpa using hw⟩
  · rintro v vs ds M ⟨acc, o, p, q, rfl, rfl, hs⟩
    rw [weigh_cons] at hs
    simp_all only [wo_some]
    refine (s_split_list (by omega)).mono ?_
    rintro z (rfl | ⟨ps, rfl, hp⟩)
    · simp_all only [wo_some]
      exact ⟨[Str.ofString "*"], rfl, by decide⟩
    · have hl : ps.length ≤ lim := by show _ ≤ 1000000; omega
      have hm : ∀ p ∈ ps, p.length ≤ lim := fun p hp => by have := sum_mem hp; show _ ≤ 1000000; omega
      simp_all only [hl, List.length_map]
      rw [lc_run PyData.str (fun _ => true) (fun p => .str (Txt.lower p)) live_d ps fun p hp => ?_, wo_some]
      · simp_all only [wo_some]
        refine ⟨?_, acc ++ ps.map Txt.lower, _, _, _, ?_, rfl, ?_⟩
        · simp only [List.length_map, ft]; show _ ≤ 1000000; omega
        · simp only [ft, List.map_append, List.map_map]; rfl
        · simp only [List.length_append, List.length_map]; omega
      · simp_all only [s_lower (hm p hp), wipe_n, wipe_c]
  · rintro ds M ⟨acc, o, p, q, rfl, rfl, hs⟩
    simp_all only [wo_some]
    exact ⟨acc, rfl, by omega⟩
theorem s_evened {fs : Flds} {n : Str} (h : Small fs) : wP F_evened [.d (eF fs), .d (.str n)] Q ↔ Q (oS (rV oS F_evened [.d (eF fs), .d (.str n)])) := wP_eq (rV_eq (by
  rw [wP_D]
  simp_all only [F_evened, g_evened, s_join_values h, isNb_oS]
  cases e : joinV fs n with
  | none => simp_all only [Option.isNone]; exact ⟨none, rfl⟩
  | some x =>
    have hx := joinV_len h e
    simp_all only [Option.isNone, oS]
    refine (s_split_list (by omega)).mono ?_
    rintro z (rfl | ⟨ps, rfl, hp⟩)
    · simp_all only [wo_some]; exact ⟨some x, rfl⟩
    · simp_all only [wo_some]
      refine ⟨?_, some _, rfl⟩
      have h5 : (Str.ofString ",").length = 1 := by decide +kernel
      rw [h5]
      show _ ≤ 1000000
      omega))
theorem eqv_oS {a b : Option Str} : PyData.eqv (oS a) (oS b) = decide (a = b) := by
  cases a <;> cases b <;> simp [oS, eqv_nn, eqv_ns, eqv_sn, eqv_ss]
theorem s_fits {e : En} {q : Rq} (h1 : Small e.fs) (h2 : Small q.fs) (h3 : Small e.rs.fs) : wP F_fits [.d (eE e), .d (eQ q)] Q ↔ Q (.bool (bV F_fits [.d (eE e), .d (eQ q)])) := wP_eq (bV_eq (by
  rw [wP_D]
  simp_all only [F_fits, g_fits, eE, eQ, shp_T]
  refine fun _ => ?_
  refine (s_vary h3).mono ?_
  rintro z ⟨ns, rfl, hn⟩
  have hl : 1 + (ns.map PyData.str).length ≤ lim := by rw [List.length_map]; show _ ≤ 1000000; omega
  simp_all only [hl]
  refine for_run PyData.str (fun vs ds M => ∃ (o : Option DV), M = [] ∧ ds = [some (.d (eE e)), some (.d (eQ q)), o]) (fun _ _ _ _ => live_d) ?_ ?_ (Str.ofString "host" :: ns) _ _ ⟨_, rfl, rfl⟩
  · rintro v vs ds M ⟨o, rfl, rfl⟩
    simp_all only [eE, eQ, s_evened h1, s_evened h2, shp_oS]
    (repeat' (first | intro _ | refine And.intro ?_ ?_)) <;> exact ⟨_, rfl⟩
  · rintro ds M ⟨o, rfl, rfl⟩
    simp_all only [wo_some]))
/-! ### quoted, tags, directives -/
theorem s_read_quoted {x : Str} (h : x.length ≤ 500000) : wP F_read_quoted [.d (.str x)] fun z => ∃ o, z = oS o ∧ ∀ y, o = some y → y.length ≤ x.length := by
  have hz : x.length ≤ lim := by show _ ≤ 1000000; omega
  have he : (Str.ofString "").length = 0 := by decide
  rw [wP_D]
  simp_all only [F_read_quoted, g_read_quoted, hz]
  refine ⟨fun _ => ⟨none, rfl, nofun⟩, fun h2 => ?_⟩
  rw [ixN_ok (by omega) (by omega), wo_some]
  refine ⟨fun _ => ⟨none, rfl, nofun⟩, fun h3 => ?_⟩
  rw [ixN_m1 (by omega), wo_some]
  refine ⟨fun _ => ⟨none, rfl, nofun⟩, fun h4 => ?_⟩
  refine wh_run (fun ds M => M = [] ∧ ∃ (sg : Str) (a : Nat), ds = [some (.d (.str x)), some (.d (.str sg)), some (.d (.int a))] ∧ 1 ≤ a ∧ sg.length + 1 ≤ a ∧ a + 1 ≤ x.length) (fun ds => match at_ ds 2 with
    | some (.d (.int a)) => (x.length - a).toNat
    | _ => 0) ?_ _ _ _ ⟨rfl, Str.ofString "", 1, rfl, by omega, by rw [he]; omega, by omega⟩ ?_
  · rintro ds M ⟨rfl, sg, a, rfl, ha, hsg, hax⟩
    have hc : ∀ j, (sg ++ chr x j).length = sg.length + 1 := fun j => PySem.Str.length_append _ _
    have c1 : ∀ j, (chr x j).length = 1 := fun _ => rfl
    have hs2 : sg.length + 1 ≤ lim := by show _ ≤ 1000000; omega
    simp_all only [hz, c1, hs2]
    refine ⟨fun hlt => ?_, fun hge => ⟨some sg, rfl, fun y e => by cases e; omega⟩⟩
    rw [ixN_nat (by omega), wo_some]
    refine ⟨fun _ => ⟨none, rfl, nofun⟩, fun _ => ?_⟩
    rw [wo_some]
    refine ⟨fun _ => ⟨fun _ => ⟨none, rfl, nofun⟩, fun hne => ?_⟩, fun _ => ?_⟩
    · rw [ixN_ok (by omega) (by omega), wo_some]
      refine ⟨⟨_, a + 2, rfl, by omega, by rw [hc]; omega, by omega⟩, ?_⟩
      show ((x.length : Int) - ((a : Int) + 1 + 1)).toNat < ((x.length : Int) - (a : Int)).toNat
      omega
    · rw [wo_some]
      refine ⟨⟨_, a + 1, rfl, by omega, by rw [hc]; omega, by omega⟩, ?_⟩
      show ((x.length : Int) - ((a : Int) + 1)).toNat < ((x.length : Int) - (a : Int)).toNat
      omega
  · show (x.length - ((1 : Nat) : Int)).toNat < fuel
    unfold fuel
    omega
end Ow
set_option Elab.async false
set_option linter.all false
set_option maxRecDepth 100000
set_option maxHeartbeats 4000000
namespace Ow
open PySem L2
variable {Q : PyData → Prop}
theorem s_read_tag {x : Str} (h : x.length ≤ lim) : wP F_read_tag [.d (.str x)] fun z => ∃ o, z = eTag o := by
  have c1 : ∀ a b, (cutS x a b).length ≤ lim := fun a b => Nat.le_trans (cutS_length x a b) h
  by_cases hw : cutS x none (some 2) = Str.ofString "W/"
  · have hd : decide True = true := rfl
    rw [wP_D]
    simp_all only [F_read_tag, g_read_tag, h, c1, hw, hd]
    refine ⟨fun _ => ⟨none, rfl⟩, fun h2 => ?_⟩
    rw [ixN_ok (by omega) (by omega), wo_some]
    refine ⟨fun _ => ⟨none, rfl⟩, fun h3 => ?_⟩
    rw [ixN_m1 (by omega), wo_some]
    refine ⟨fun _ => ⟨none, rfl⟩, fun h4 => ?_⟩
    refine for_run (fun c => PyData.str ⟨#[c]⟩) (fun r ds M => M = [] ∧ ∃ o, ds = [some (.d (.str x)), some (.d (.bool true)), some (.d (.str (cutS x (some 2) none))), o]) (fun _ _ _ _ => live_d) ?_ ?_ _ _ _ ⟨rfl, _, rfl⟩
    · rintro c r ds M ⟨rfl, o, rfl⟩
      simp_all only [wo_some]
      (repeat' (first | intro _ | refine And.intro ?_ ?_))
      all_goals first | exact ⟨none, rfl⟩ | exact ⟨_, rfl⟩
    · rintro ds M ⟨rfl, o, rfl⟩
      simp_all only [c1]
      exact ⟨some (true, _), rfl⟩
  · have hd : decide False = false := rfl
    rw [wP_D]
    simp_all only [F_read_tag, g_read_tag, h, hw, hd]
    refine ⟨fun _ => ⟨none, rfl⟩, fun h2 => ?_⟩
    rw [ixN_ok (by omega) (by omega), wo_some]
    refine ⟨fun _ => ⟨none, rfl⟩, fun h3 => ?_⟩
    rw [ixN_m1 (by omega), wo_some]
    refine ⟨fun _ => ⟨none, rfl⟩, fun h4 => ?_⟩
    refine for_run (fun c => PyData.str ⟨#[c]⟩) (fun r ds M => M = [] ∧ ∃ o, ds = [some (.d (.str x)), some (.d (.bool false)), some (.d (.str x)), o]) (fun _ _ _ _ => live_d) ?_ ?_ _ _ _ ⟨rfl, _, rfl⟩
    · rintro c r ds M ⟨rfl, o, rfl⟩
      simp_all only [wo_some]
      (repeat' (first | intro _ | refine And.intro ?_ ?_))
      all_goals first | exact ⟨none, rfl⟩ | exact ⟨_, rfl⟩
    · rintro ds M ⟨rfl, o, rfl⟩
      simp_all only [h]
      exact ⟨some (false, _), rfl⟩
noncomputable abbrev tagV (x : Str) : Option (Bool × Str) := rV eTag F_read_tag [.d (.str x)]
theorem s_tag {x : Str} (h : x.length ≤ lim) : wP F_read_tag [.d (.str x)] Q ↔ Q (eTag (tagV x)) := wP_eq (rV_eq (s_read_tag h))
theorem fl_Tag {o : Option (Bool × Str)} : fl 1 (eTag o) := by
  cases o with
  | none => exact fl_n
  | some p => exact fl_t (fls_cons fl_b (fls_cons fl_s fls_nil))
theorem eqv_Tag_n {o : Option (Bool × Str)} : PyData.eqv (eTag o) .none = o.isNone := by
  cases o with
  | none => exact eqv_nn
  | some p => exact eqv_tn
def pTags (z : PyData) : Prop := z = .none ∨ z = .str "*" ∨ ∃ ts : List (Bool × Str), z = .list (ts.map fun t => eTag (some t))
theorem all_some {α : Type} : ∀ {l : List (Option α)}, (l.any fun o => o.isNone) = false → ∃ l' : List α, l = l'.map some
  | [], _ => ⟨[], rfl⟩
  | none :: l, h => by simp at h
  | some a :: l, h => by
    obtain ⟨l', e⟩ := all_some (l := l) (by simpa using h)
    exact ⟨a :: l', by rw [e]; rfl⟩
theorem s_read_tags {x : Str} (h : x.length ≤ 500000) : wP F_read_tags [.d (.str x)] pTags := by
  have hz : x.length ≤ lim := by show _ ≤ 1000000; omega
  rw [wP_D]
  simp_all only [F_read_tags, g_read_tags, s_trimmed hz]
  refine ⟨fun _ => .inr (.inl rfl), fun _ => ?_⟩
  refine (s_split_list h).mono ?_
  rintro z (rfl | ⟨ps, rfl, hp⟩)
  · simp_all only [wo_some]
    exact .inl rfl
  · have hl : ps.length ≤ lim := by show _ ≤ 1000000; omega
    have hm : ∀ p ∈ ps, p.length ≤ lim := fun p hp => by have := sum_mem hp; show _ ≤ 1000000; omega
    simp_all only [hl, List.length_map]
    refine ⟨fun _ => .inl rfl, fun _ => ?_⟩
    rw [lc_run PyData.str (fun _ => true) (fun p => eTag (tagV p)) live_d ps fun p hp => ?_, wo_some]
    · have hs : shp (.list (ps.map fun p => eTag (tagV p))) = true := shp_of (n := 2) (fl_l (fls_all fun d hd => by obtain ⟨p, _, rfl⟩ := List.mem_map.mp hd; exact fl_Tag)) (by decide)
      simp_all only [ft, hs]
      refine ⟨fun _ => .inl rfl, fun hn => .inr (.inr ?_)⟩
      obtain ⟨ts, e⟩ := all_some (l := ps.map tagV) (by
        rw [List.any_map] at hn ⊢
        simpa only [Function.comp_def, eqv_Tag_n] using hn)
      refine ⟨ts, ?_⟩
      rw [show (ps.map fun p => eTag (tagV p)) = (ps.map tagV).map eTag by rw [List.map_map]; rfl, e, List.map_map]
      rfl
    · simp_all only [s_tag (hm p hp), wipe_n, wipe_c]
def smB (a b : Bool × Str) : Bool := !a.1 && (!b.1 && decide (a.2 = b.2))
theorem s_strong {a b : Bool × Str} : wP F_strong_match [.d (eTag (some a)), .d (eTag (some b))] Q ↔ Q (.bool (smB a b)) := wP_eq (wP_of (by
  rw [wP_D]
  simp_all only [F_strong_match, g_strong_match, eTag]
  (repeat' (first | intro _ | refine And.intro ?_ ?_)) <;> simp_all [smB]))
theorem s_weak {a b : Bool × Str} : wP F_weak_match [.d (eTag (some a)), .d (eTag (some b))] Q ↔ Q (.bool (decide (a.2 = b.2))) := wP_eq (wP_of (by
  rw [wP_D]
  simp_all only [F_weak_match, g_weak_match, eTag]))
theorem ex_a {x : Str} {P : Str → Prop} : (∃ y, DV.a x = .a y ∧ P y) ↔ P x := ⟨fun ⟨_, e, h⟩ => by cases e; exact h, fun h => ⟨x, rfl, h⟩⟩
theorem match_s : S_match "strong_match" = some F_strong_match := by unfold S_match; rw [if_pos rfl]
theorem match_w : S_match "weak_match" = some F_weak_match := by unfold S_match; rw [if_neg (by decide +kernel), if_pos rfl]
theorem s_matches {z : PyData} {o : Option (Bool × Str)} {m : Str} (hm : m = "strong_match" ∨ m = "weak_match") (h : z = .str "*" ∨ ∃ ts : List (Bool × Str), z = .list (ts.map fun t => eTag (some t))) :
    wP F_matches [.d z, .d (eTag o), .a m] fun z => ∃ b, z = .bool b := by
  cases o with
  | none =>
    rcases h with rfl | ⟨ts, rfl⟩ <;> (rw [wP_D]; simp_all only [F_matches, g_matches, eTag])
  | some t =>
    have ht : isNb (eTag (some t)) = false := rfl
    rcases h with rfl | ⟨ts, rfl⟩
    · rw [wP_D]
      simp_all only [F_matches, g_matches, ht]
    · have hs : shp (.list (ts.map fun t => eTag (some t))) = true := shp_of (n := 2) (fl_l (fls_all fun d hd => by obtain ⟨p, _, rfl⟩ := List.mem_map.mp hd; exact fl_Tag)) (by decide)
      rw [wP_D]
      simp_all only [F_matches, g_matches, ht, hs]
      refine for_run (fun t => eTag (some t)) (fun r ds M => M = [] ∧ ∃ u, ds = [some (.d (.list (ts.map fun t => eTag (some t)))), some (.d (eTag (some t))), some (.a m), u]) (fun _ _ _ _ => live_d) ?_ ?_ _ _ _ ⟨rfl, _, rfl⟩
      · rintro c r ds M ⟨rfl, o, rfl⟩
        rcases hm with rfl | rfl
        · simp_all only [wE_loc, ex_a, match_s, wo_some, s_strong]
          (repeat' (first | intro _ | refine And.intro ?_ ?_))
          all_goals exact ⟨_, rfl⟩
        · simp_all only [wE_loc, ex_a, match_w, wo_some, s_weak]
          (repeat' (first | intro _ | refine And.intro ?_ ?_))
          all_goals exact ⟨_, rfl⟩
      · rintro ds M ⟨rfl, o, rfl⟩
        simp_all only [wo_some]
theorem s_tags_of {fs : Flds} {n : Str} (h : Small fs) : wP F_tags_of [.d (eF fs), .d (.str n)] pTags := by
  rw [wP_D]
  simp_all only [F_tags_of, g_tags_of, s_join_values h, isNb_oS]
  cases e : joinV fs n with
  | none => simp_all only [Option.isNone]; exact .inl rfl
  | some x =>
    have hx := joinV_len h e
    simp_all only [Option.isNone, oS]
    exact (s_read_tags (by omega)).mono fun z hz => hz
theorem s_date_value {fs : Flds} {n : Str} {i : Int} (h : Small fs) : wP F_date_value [.d (eF fs), .d (.str n), .d (.int i)] oInt := by
  rw [wP_D]
  simp_all only [F_date_value, g_date_value, s_join_values h, isNb_oS]
  cases e : joinV fs n with
  | none => simp_all only [Option.isNone]; exact .inl rfl
  | some x =>
    have hx := joinV_len h e
    simp_all only [Option.isNone, oS]
    exact (s_read_date (by show _ ≤ 1000000; omega)).mono fun z hz => hz
end Ow
set_option Elab.async false
set_option linter.all false
set_option maxRecDepth 100000
set_option maxHeartbeats 4000000
namespace Ow
open PySem L2
variable {Q : PyData → Prop}
theorem s_fails {fs : Flds} {o : Option (Bool × Str)} {m : Option Int} {i : Int} (h : Small fs) : wP F_fails [.d (eF fs), .d (eTag o), .d (oI m), .d (.int i)] Q ↔ Q (.bool (bV F_fails [.d (eF fs), .d (eTag o), .d (oI m), .d (.int i)])) := wP_eq (bV_eq (by
  rw [wP_D]
  simp_all only [F_fails, g_fails, s_join_values h, isNb_oS, isNb_oI]
  refine ⟨fun _ => ?_, fun _ => ?_⟩
  · refine (s_tags_of h).mono ?_
    rintro z (rfl | rfl | ⟨ts, rfl⟩)
    · simp_all only [wo_some]
    · simp_all only [wo_some]
      refine (s_matches (.inl rfl) (.inl rfl)).mono ?_
      rintro z ⟨b, rfl⟩
      simp_all only [wo_some]
    · simp_all only [wo_some]
      refine (s_matches (.inl rfl) (.inr ⟨ts, rfl⟩)).mono ?_
      rintro z ⟨b, rfl⟩
      simp_all only [wo_some]
  · refine (s_date_value h).mono ?_
    rintro z (rfl | ⟨j, rfl⟩)
    · simp_all only [wo_some]
    · cases m with
      | none => simp_all only [oI, Option.isNone]
      | some k => simp_all only [oI, Option.isNone]))
theorem s_is_known {me : Str} {fs : Flds} {o : Option (Bool × Str)} {m : Option Int} {i : Int} (h : Small fs) : wP F_is_known [.d (.str me), .d (eF fs), .d (eTag o), .d (oI m), .d (.int i)] Q ↔ Q (.bool (bV F_is_known [.d (.str me), .d (eF fs), .d (eTag o), .d (oI m), .d (.int i)])) := wP_eq (bV_eq (by
  rw [wP_D]
  simp_all only [F_is_known, g_is_known, isNb_oI]
  refine (s_tags_of h).mono ?_
  rintro z (rfl | rfl | ⟨ts, rfl⟩)
  · simp_all only [isNb_oI]
    have key : wP F_date_value [.d (eF fs), .d (.str "if-modified-since"), .d (.int i)] fun z => wE (sAndV (sOp notNF (sVar 6) (sC .none)) (sAndV (sOp notNF (sVar 3) (sC .none)) (sOp leF (sVar 3) (sVar 6)))) [some (.d (.str me)), some (.d (eF fs)), some (.d (eTag o)), some (.d (oI m)), some (.d (.int i)), some (.d .none), some (.d z)] [] fun r M => wo (view M r) fun z => ∃ b, z = .bool b := by
      refine (s_date_value h).mono ?_
      rintro z (rfl | ⟨j, rfl⟩)
      · simp_all only [wo_some]
      · cases m with
        | none => simp_all only [oI, Option.isNone]
        | some k => simp_all only [oI, Option.isNone]
    simp only [isNb_oI, ↓wD_fn, ↓wS_seq, ↓wS_skip, ↓wS_cont, ↓wS_set, ↓wS_ret, ↓wS_drop, ↓wS_if, ↓wS_setP, ↓wS_par, ↓wS_aug, ↓wS_fset, ↓wS_lset, ↓wS_laug, ↓wS_dset, ↓kSeq_nx, ↓kSeq_ct, ↓kSeq_rt, ↓kRet_rt, ↓kRet_nx, ↓ex_one, ↓ex_two, ↓wL_lc, ↓wS_for, ↓wI_Li, ↓wI_Ti, ↓wI_Ri, ↓wI_S, ↓wW_d, ↓wW_s, ↓wW_r, ↓wWt_t, ↓wWr_i, ↓wE_var, ↓wE_c, ↓wE_gf, ↓wE_op, ↓wE_un, ↓wE_cb, ↓wE_chain, ↓wE_and, ↓wE_or, ↓wE_notV, ↓wE_if, ↓wE_tup, ↓wE_frz, ↓wE_new, ↓wE_sl, ↓wE_fld, ↓wE_app, ↓wE_ext, ↓wE_dget, ↓wE_call, ↓wE_pure, ↓wE_one, ↓wE_meth, ↓wE_make, ↓wE_m0, ↓wE_m1, ↓wE_index, ↓wE_maxD, ↓wE_joined, ↓wE_dict, ↓wJ_nil, ↓wJ_cons, ↓wo_pairs0, ↓wo_pairs1, ↓wT_isB, ↓wT_not, ↓wT_yes, ↓wT_and, ↓wT_or, ↓wA_nil, ↓wA_cons, ↓wL_lst, ↓wO_none, ↓wO_part, ↓wB_bool, ↓wZi_int, ↓wZs_str, ↓wZ_bool, ↓wU_none, ↓v_d, ↓v_r, ↓asD_d, ↓asDs_nil, ↓asDs_cons, ↓views_nil, ↓views_cons, ↓ref_r, ↓wo_at0, ↓wo_atS, ↓lst_0, ↓lst_S, ↓o_add_ii, ↓o_add_ss, ↓o_add_ll, ↓o_add_tt, ↓o_iadd_ii, ↓o_iadd_ss, ↓o_sub, ↓o_mul, ↓o_div, ↓o_mod, ↓o_pow, ↓o_neg, ↓o_lt, ↓o_le_ii, ↓o_le_ss, ↓o_ge, ↓o_gt, ↓o_gt2, ↓o_isN, ↓o_notN, ↓o_eq, ↓o_ne, ↓o_in_str, ↓o_nin_str, ↓o_in_l, ↓o_nin_l, ↓o_in_t, ↓o_nin_t, ↓o_ix_t0, ↓o_ix_t1, ↓o_ix_t2, ↓o_ix_t3, ↓o_ix_t4, ↓o_ix_s, ↓o_sl_s, ↓o_sl_l, ↓o_len_l, ↓o_len_t, ↓o_len_s, ↓o_min, ↓o_max, ↓o_abs, ↓o_int_i, ↓o_int_s, ↓o_str, ↓o_ord, ↓o_list, ↓o_tup_l, ↓o_tup_t, ↓o_low, ↓o_find, ↓o_strip, ↓o_join, ↓o_fmt, ↓o_fmt2, ↓o_fmt4, ↓bindP_n, ↓bindP_t, ↓bindNs_n, ↓bindNs_c, l0, l1, l2, l3, l4, l5, l6, l7, l8, l9, l10, l11, l12, l13, l14, l15, isNb_n, isNb_b, isNb_i, isNb_s, isNb_l, isNb_t, eqv_ss, eqv_ii, eqv_bb, eqv_nn, eqv_ll, eqv_tt, eqvA_nn, eqvA_cc, eqvA_cn, eqvA_nc, eqvA_empty, eqv_ls, eqv_ni, eqv_in, eqv_ns, eqv_sn, eqv_tn, shp_n, shp_b, shp_i, shp_s, shp_nil, shp_strs, shp_tstrs, shp_tints, all_noRef_d, all_noRef_a, all_noRef_n, List.map_cons, List.map_nil, List.length_cons, List.length_nil, List.replicate_succ, List.replicate_zero, List.cons_append, List.nil_append, List.set_cons_zero, List.set_cons_succ, Nat.zero_add, Nat.reduceAdd, Nat.reduceSub, Nat.reduceLeDiff, Nat.reduceEqDiff, decide_eq_true_eq, decide_eq_false_iff_not, Bool.not_true, Bool.not_false, Bool.not_eq_true', Bool.not_eq_false', Bool.not_eq_true, Bool.not_eq_false, and_true, true_and, implies_true, forall_const, reduceCtorEq, false_implies, PyData.int.injEq, PyData.bool.injEq, PyData.str.injEq, eq_self, exists_eq', exists_eq, or_true, true_or, and_self, Int.reduceNeg, Int.reducePow, Int.reduceLT, Int.reduceLE, Int.reduceToNat, not_true_eq_false, not_false_eq_true, false_or, or_false, and_false, false_and, if_true, if_false] at key
    (repeat' (first | intro _ | refine And.intro ?_ ?_)) <;> exact key
  · simp_all only [wo_some]
    refine (s_matches (.inr rfl) (.inl rfl)).mono ?_
    rintro z ⟨b, rfl⟩
    simp_all only [wo_some]
  · simp_all only [wo_some]
    refine (s_matches (.inr rfl) (.inr ⟨ts, rfl⟩)).mono ?_
    rintro z ⟨b, rfl⟩
    simp_all only [wo_some]))
theorem eqv_oI {a b : Option Int} : PyData.eqv (oI a) (oI b) = decide (a = b) := by
  cases a <;> cases b <;> simp [oI, eqv_nn, eqv_ni, eqv_in, eqv_ii]
theorem s_wants_whole {me : Str} {fs : Flds} {o : Option (Bool × Str)} {m : Option Int} {i : Int} (h : Small fs) : wP F_wants_whole [.d (.str me), .d (eF fs), .d (eTag o), .d (oI m), .d (.int i)] Q ↔ Q (.bool (bV F_wants_whole [.d (.str me), .d (eF fs), .d (eTag o), .d (oI m), .d (.int i)])) := wP_eq (bV_eq (by
  rw [wP_D]
  simp_all only [F_wants_whole, g_wants_whole, s_join_values h, isNb_oS]
  (repeat' (first | intro _ | refine And.intro ?_ ?_))
  cases e : joinV fs (Str.ofString "if-range") with
  | none =>
    rename_i ha hb hc
    rw [e] at hc
    cases hc
  | some x =>
    have hx := joinV_len h e
    have hz : x.length ≤ lim := by show _ ≤ 1000000; omega
    simp_all only [oS, Option.isNone, s_tag hz, isNb_eTag, s_rd hz, isNb_oI, shp_oI]
    cases tagV x with
    | none => simp_all only [oS, Option.isNone, s_tag hz, isNb_eTag, s_rd hz, isNb_oI, shp_oI]
    | some t =>
      cases o with
      | none => simp_all only [Option.isNone, isNb_eTag]
      | some u => simp_all only [Option.isNone, isNb_eTag, s_strong]))
def eJ (p : Int × Bool) : PyData := .tuple [.int p.1, .bool p.2]
noncomputable abbrev jdV (me : Str) (fs : Flds) (o : Option (Bool × Str)) (m : Option Int) (i : Int) : Int × Bool := rV eJ F_judge [.d (.str me), .d (eF fs), .d (eTag o), .d (oI m), .d (.int i)]
theorem s_judge {me : Str} {fs : Flds} {o : Option (Bool × Str)} {m : Option Int} {i : Int} (h : Small fs) : wP F_judge [.d (.str me), .d (eF fs), .d (eTag o), .d (oI m), .d (.int i)] Q ↔ Q (eJ (jdV me fs o m i)) := wP_eq (rV_eq (by
  rw [wP_D]
  simp_all only [F_judge, g_judge, s_fails h, s_is_known h, s_wants_whole h]
  (repeat' (first | intro _ | refine And.intro ?_ ?_)) <;> exact ⟨(_, _), rfl⟩))
/-! ### directives -/
def eDp (p : Str × Option Str) : PyData := .tuple [.str p.1, oS p.2]
def eDs (ds : List (Str × Option Str)) : PyData := .tuple (ds.map eDp)
def Fits (v : Option Str) : Prop := ∀ y, v = some y → y.length ≤ lim
theorem s_read_directive {x : Str} (h : x.length ≤ 500000) : wP F_read_directive [.d (.str x)] fun z => z = .none ∨ ∃ p, z = eDp p ∧ Fits p.2 := by
  have hz : x.length ≤ lim := by show _ ≤ 1000000; omega
  have c0 : ∀ a b, (cutS x a b).length ≤ 500000 := fun a b => Nat.le_trans (cutS_length x a b) h
  have c1 : ∀ a b, (cutS x a b).length ≤ lim := fun a b => Nat.le_trans (cutS_length x a b) hz
  rw [wP_D]
  simp_all only [F_read_directive, g_read_directive, hz, s_is_token, s_lower hz, s_lower (c1 _ _)]
  refine ⟨fun _ _ => ⟨(_, none), rfl, nofun⟩, fun _ => ⟨fun _ => ?_, fun _ => ?_⟩⟩
  · refine (s_read_quoted (c0 _ _)).mono ?_
    rintro z ⟨o, rfl, ho⟩
    simp_all only [isNb_oS, s_is_token, s_lower (c1 _ _)]
    exact fun _ _ => ⟨(_, o), rfl, fun y e => Nat.le_trans (ho y e) (c1 _ _)⟩
  · exact fun _ => ⟨(_, some _), rfl, fun y e => by cases e; exact c1 _ _⟩
abbrev Dirs : Type := { ds : List (Str × Option Str) // ∀ p ∈ ds, Fits p.2 }
instance : Inhabited Dirs := ⟨⟨[], nofun⟩⟩
def eDirs (d : Dirs) : PyData := eDs d.1
noncomputable abbrev dsV (fs : Flds) : Dirs := rV eDirs F_read_directives [.d (eF fs)]
theorem opt_split {ds : List PyData} (h : ∀ d ∈ ds, d = .none ∨ ∃ p, d = eDp p ∧ Fits p.2) : ∃ l : Dirs, ds.filter (fun d => !isNb d) = l.1.map eDp := by
  induction ds with
  | nil => exact ⟨⟨[], nofun⟩, rfl⟩
  | cons d ds ih =>
    obtain ⟨l, e⟩ := ih fun z hz => h z (List.mem_cons_of_mem _ hz)
    rcases h d List.mem_cons_self with rfl | ⟨p, rfl, hp⟩
    · exact ⟨l, by rw [List.filter_cons, if_neg (by simp [isNb_n]), e]⟩
    · refine ⟨⟨p :: l.1, fun q hq => ?_⟩, by rw [List.filter_cons, if_pos (by rfl), e]; rfl⟩
      rcases List.mem_cons.mp hq with rfl | hq
      · exact hp
      · exact l.2 q hq
theorem s_rds {fs : Flds} (h : Small fs) : wP F_read_directives [.d (eF fs)] Q ↔ Q (eDirs (dsV fs)) := wP_eq (rV_eq (by
  rw [wP_D]
  simp_all only [F_read_directives, g_read_directives, s_join_values h, isNb_oS]
  cases e : joinV fs (Str.ofString "cache-control") with
  | none => simp_all only [oS, Option.isNone]; exact ⟨⟨[], nofun⟩, rfl⟩
  | some x =>
    have hx := joinV_len h e
    simp_all only [oS, Option.isNone]
    refine (s_split_list (by omega)).mono ?_
    rintro z (rfl | ⟨ps, rfl, hp⟩)
    · simp_all only [wo_some]
      exact ⟨⟨[("no-store", none)], fun p hp => by cases List.mem_singleton.mp hp; exact nofun⟩, rfl⟩
    · have hl : ps.length ≤ lim := by show _ ≤ 1000000; omega
      have hm : ∀ p ∈ ps, p.length ≤ 500000 := fun p hp => by have := sum_mem hp; omega
      simp_all only [hl, List.length_map]
      let g : Str → PyData := fun p => (pf F_read_directive [.d (.str p)]).getD .none
      have hg : ∀ p ∈ ps, pf F_read_directive [.d (.str p)] = some (g p) ∧ (g p = .none ∨ ∃ q, g p = eDp q ∧ Fits q.2) := fun p hp => by
        obtain ⟨z, e, hz⟩ := s_read_directive (hm p hp)
        have : g p = z := by show (pf F_read_directive [.d (.str p)]).getD .none = z; rw [e]; rfl
        rw [this]
        exact ⟨e, hz⟩
      rw [lc_run PyData.str (fun _ => true) g live_d ps fun p hp => ?_, wo_some]
      · have hl2 : (ps.map g).length ≤ lim := by rw [List.length_map]; exact hl
        simp_all only [ft, hl2]
        rw [show (ps.map g) = (ps.map g).map id by rw [List.map_id], lc_run id (fun d => !isNb d) id live_d (ps.map g) fun d hd => ?_, wo_some]
        · simp_all only [wo_some]
          obtain ⟨l, e⟩ := opt_split (ds := ps.map g) fun d hd => by
            obtain ⟨p, hp, rfl⟩ := List.mem_map.mp hd
            exact (hg p hp).2
          exact ⟨l, by rw [List.map_id, e]; rfl⟩
        · simp_all only [id, wipe_n, wipe_c]
      · simp_all only [wP_eq (hg p hp).1, wipe_n, wipe_c]))
def eBo (p : Bool × Option Str) : PyData := .tuple [.bool p.1, oS p.2]
def dirV (ds : List (Str × Option Str)) (n : Str) : Bool × Option Str := match ds.find? fun p => decide (p.1 = n) with
  | some p => (true, p.2)
  | none => (false, none)
theorem s_directive {d : Dirs} {n : Str} : wP F_directive [.d (eDirs d), .d (.str n)] Q ↔ Q (eBo (dirV d.1 n)) := wP_eq (wP_of (by
  rw [wP_D]
  simp_all only [F_directive, g_directive, eDirs, eDs]
  refine for_run eDp (fun r ds M => M = [] ∧ (∃ u v, ds = [some (.d (eDs d.1)), some (.d (.str n)), u, v]) ∧ dirV d.1 n = dirV r n) (fun _ _ _ _ => live_d) ?_ ?_ _ _ _ ⟨rfl, ⟨_, _, rfl⟩, rfl⟩
  · rintro c r ds M ⟨rfl, ⟨u, v, rfl⟩, e⟩
    simp_all only [eDp]
    unfold dirV at e
    rw [List.find?_cons] at e
    refine ⟨fun h => ?_, fun h => ⟨⟨_, _, rfl⟩, ?_⟩⟩
    · rw [decide_eq_true h] at e
      unfold dirV
      rw [e]
      rfl
    · rw [decide_eq_false h] at e
      exact e
  · rintro ds M ⟨rfl, ⟨u, v, rfl⟩, e⟩
    simp_all only [wo_some]
    rw [e]
    rfl))
theorem dirV_fits {d : Dirs} {n : Str} : Fits (dirV d.1 n).2 := by
  unfold dirV
  cases e : d.1.find? fun p => decide (p.1 = n) with
  | none => exact nofun
  | some p => exact d.2 p (List.mem_of_find?_eq_some e)
noncomputable abbrev secV (v : Option Str) : Option Int := rV oI F_seconds [.d (oS v)]
theorem s_sec {v : Option Str} (h : Fits v) : wP F_seconds [.d (oS v)] Q ↔ Q (oI (secV v)) := wP_eq (rV_eq (by
  cases v with
  | none =>
    rw [wP_D]
    simp_all only [F_seconds, g_seconds, oS]
    exact ⟨none, rfl⟩
  | some x =>
    have hz := h x rfl
    rw [wP_D]
    simp_all only [F_seconds, g_seconds, oS, hz, s_are_digits]
    refine ⟨fun h1 => ⟨fun _ => ⟨none, rfl⟩, fun h2 => ⟨fun _ => ⟨none, rfl⟩, fun h3 => ⟨by omega, ?_⟩⟩⟩, fun _ => ⟨none, rfl⟩⟩
    obtain ⟨n, e, _⟩ := int_dig h3 (by omega) (by omega)
    rw [e, wo_some]
    exact ⟨some _, rfl⟩))
end Ow
set_option Elab.async false
set_option linter.all false
set_option maxRecDepth 100000
set_option maxHeartbeats 4000000
namespace Ow
open PySem L2
variable {Q : PyData → Prop}
/-! ### dates of fields -/
noncomputable def dofV (fs : Flds) (n : Str) (c : Int) : Option Int := match vals fs n with
  | [x] => rdV x c
  | _ => none
theorem small_mem {fs : Flds} {n x : Str} (h : Small fs) (hx : x ∈ vals fs n) : x.length ≤ lim := by
  have h1 := weigh_mem hx
  have h2 := weigh_all fs n h
  show _ ≤ 1000000
  omega
theorem o_ix_l0 {a : PyData} {r : List PyData} : wo (ixF (.list (a :: r)) (.int 0)) Q ↔ Q a := wo_eq (by
  show ((ixN (r.length + 1) ((0 : Nat) : Int)).bind fun j => (a :: r)[j]?) = _
  rw [ixN_nat (by omega)]; rfl)
theorem s_dof {fs : Flds} {n : Str} {c : Int} (h : Small fs) : wP F_date_of_field [.d (eF fs), .d (.str n), .d (.int c)] Q ↔ Q (oI (dofV fs n c)) := wP_eq (wP_of (by
  rw [wP_D]
  simp_all only [F_date_of_field, g_date_of_field, s_values h.len, List.length_map]
  unfold dofV
  match e : vals fs n with
  | [] => exact ⟨fun _ => rfl, fun h => absurd h (by simp)⟩
  | [x] =>
    have hx : x.length ≤ lim := small_mem (n := n) h (by rw [e]; exact List.mem_singleton.mpr rfl)
    refine ⟨fun h => absurd h (by simp), fun _ => ?_⟩
    simp_all only [o_ix_l0, s_rd hx]
  | x :: y :: r =>
    refine ⟨fun _ => rfl, fun h => absurd h ?_⟩
    simp only [List.length_cons]
    omega))
noncomputable def tvV (fs : Flds) : Option (Bool × Str) := match vals fs "etag" with
  | [x] => tagV x
  | _ => none
theorem s_tagval {r : Rp} (h : Small r.fs) : wP F_tag_value [.d (eR r)] Q ↔ Q (eTag (tvV r.fs)) := wP_eq (wP_of (by
  rw [wP_D]
  simp_all only [F_tag_value, g_tag_value, eR, s_values h.len, List.length_map]
  unfold tvV
  match e : vals r.fs (Str.ofString "etag") with
  | [] => exact ⟨fun _ => rfl, fun h => absurd h (by simp)⟩
  | [x] =>
    have hx : x.length ≤ lim := small_mem (n := Str.ofString "etag") h (by rw [e]; exact List.mem_singleton.mpr rfl)
    refine ⟨fun h => absurd h (by simp), fun _ => ?_⟩
    simp_all only [o_ix_l0, s_tag hx]
  | x :: y :: t =>
    refine ⟨fun _ => rfl, fun h => absurd h ?_⟩
    simp only [List.length_cons]
    omega))
theorem s_modval {r : Rp} {c : Int} (h : Small r.fs) : wP F_modified_value [.d (eR r), .d (.int c)] Q ↔ Q (oI (dofV r.fs "last-modified" c)) := wP_eq (wP_of (by
  rw [wP_D]
  simp_all only [F_modified_value, g_modified_value, eR, s_dof h]))
/-! ### ages, lifetimes -/
theorem s_told_life {fs : Flds} {c : Int} (h : Small fs) : wP F_told_lifetime [.d (eF fs), .d (.int c)] Q ↔ Q (.int (iV F_told_lifetime [.d (eF fs), .d (.int c)])) := wP_eq (iV_eq (by
  rw [wP_D]
  simp_all only [F_told_lifetime, g_told_lifetime, s_dof h, isNb_oI]
  cases dofV fs (Str.ofString "date") c with
  | none => simp_all only [Option.isNone]
  | some a =>
    cases dofV fs (Str.ofString "expires") c with
    | none => simp_all only [Option.isNone]
    | some b => simp_all only [Option.isNone, oI]))
theorem s_life {r : Rp} {c : Int} (h : Small r.fs) : wP F_lifetime [.d (eR r), .d (.int c)] Q ↔ Q (.int (iV F_lifetime [.d (eR r), .d (.int c)])) := wP_eq (iV_eq (by
  have hl : shp (.tuple [.int 200, .int 203, .int 204, .int 300, .int 301, .int 404, .int 405, .int 410, .int 414, .int 501]) = true := by decide +kernel
  rw [wP_D]
  simp_all only [F_lifetime, g_lifetime, eR, s_rds h, s_directive, eBo, s_values h.len, s_told_life h, s_dof h, isNb_oI, s_sec dirV_fits, hl]
  refine ⟨fun _ => ?_, fun _ _ => ?_⟩
  · cases secV (dirV (dsV r.fs).1 (Str.ofString "max-age")).2 with
    | none => simp_all only [Option.isNone]
    | some a => simp_all only [Option.isNone, oI]
  · cases dofV r.fs (Str.ofString "date") c with
    | none => simp_all only [Option.isNone]; (repeat' (first | intro _ | refine And.intro ?_ ?_))
    | some a =>
      cases dofV r.fs (Str.ofString "last-modified") c with
      | none => simp_all only [Option.isNone]; (repeat' (first | intro _ | refine And.intro ?_ ?_))
      | some b => simp_all only [Option.isNone, oI]))
theorem s_sec_s {x : Str} (h : x.length ≤ lim) : wP F_seconds [.d (.str x)] Q ↔ Q (oI (secV (some x))) := s_sec (v := some x) fun y e => by cases e; exact h
theorem s_age_come {r : Rp} {a c : Int} (h : Small r.fs) : wP F_age_when_come [.d (eR r), .d (.int a), .d (.int c)] fun z => ∃ i, z = .int i ∧ 0 ≤ i := by
  cases e1 : dofV r.fs (Str.ofString "date") c
  all_goals
    match e2 : vals r.fs (Str.ofString "age") with
    | [] =>
      rw [wP_D]
      simp_all only [F_age_when_come, g_age_when_come, eR, s_dof h, isNb_oI, s_values h.len, List.length_map, e1, e2, oI, Option.isNone]
      have h1 : ¬ (((0 : Nat) : Int) = 1) := by decide
      simp_all only [h1]
      refine ⟨_, rfl, ?_⟩
      (repeat' split) <;> omega
    | x :: y :: t =>
      have h1 : ¬ (((t.length + 2 : Nat) : Int) = 1) := by omega
      rw [wP_D]
      simp_all only [F_age_when_come, g_age_when_come, eR, s_dof h, isNb_oI, s_values h.len, List.length_map, e1, e2, h1, oI, Option.isNone, Nat.add_assoc]
      refine ⟨_, rfl, ?_⟩
      (repeat' split) <;> omega
    | [x] =>
      have hx : x.length ≤ lim := small_mem (n := Str.ofString "age") h (by rw [e2]; exact List.mem_singleton.mpr rfl)
      have h1 : (((1 : Nat) : Int) = 1) := by decide
      cases e3 : secV (some x)
      all_goals
        rw [wP_D]
        simp_all only [F_age_when_come, g_age_when_come, eR, s_dof h, isNb_oI, s_values h.len, List.length_map, e1, e2, e3, h1, o_ix_l0, s_sec_s hx, oI, Option.isNone]
        refine ⟨_, rfl, ?_⟩
        (repeat' split) <;> omega
def Ages (e : En) (n : Int) (z : PyData) : Prop := ∃ i, z = .int i ∧ n - e.cm ≤ i
theorem s_age0 {e : En} {n : Int} (h : Small e.rs.fs) : wP F_age [.d (eE e), .d (.int n)] (Ages e n) := by
  rw [wP_D]
  simp_all only [F_age, g_age, eE]
  refine (s_age_come h).mono ?_
  rintro z ⟨i, rfl, hi⟩
  simp_all only [wo_some]
  exact ⟨_, rfl, by omega⟩
noncomputable abbrev ageV (e : En) (n : Int) : Int := iV F_age [.d (eE e), .d (.int n)]
theorem s_age {e : En} {n : Int} (h : Small e.rs.fs) : wP F_age [.d (eE e), .d (.int n)] Q ↔ Q (.int (ageV e n)) := wP_eq (iV_eq ((s_age0 h).mono fun z ⟨i, e, _⟩ => ⟨i, e⟩))
theorem age_le {e : En} {n : Int} (h : Small e.rs.fs) : n - e.cm ≤ ageV e n := by
  obtain ⟨z, e1, i, rfl, hi⟩ := s_age0 (n := n) h
  unfold ageV iV
  rw [e1]
  exact hi
/-! ### without, freshened -/
def woV (fs : Flds) (ns : List Str) : Flds := fs.filter fun p => !ns.any fun n => decide (n = p.1)
theorem any_strs {ns : List Str} {x : Str} : ((ns.map PyData.str).any fun z => PyData.eqv z (.str x)) = ns.any fun n => decide (n = x) := by
  rw [List.any_map]
  simp only [Function.comp_def, eqv_ss]
theorem s_without_t {fs : Flds} {ns : List Str} (h : fs.length ≤ 1000) : wP F_without [.d (eF fs), .d (.tuple (ns.map .str))] Q ↔ Q (eF (woV fs ns)) := wP_eq (wP_of (by
  have h1 : fs.length ≤ lim := Nat.le_trans h (by decide)
  rw [wP_D]
  simp_all only [F_without, g_without, eF, List.length_map, h1]
  rw [lc_run eP (fun p => !ns.any fun n => decide (n = p.1)) eP live_d fs fun p _ => ?_, wo_some]
  · rfl
  · simp_all only [eP, wipe_n, wipe_c, any_strs]))
theorem s_without_l {fs : Flds} {ns : List Str} (h : fs.length ≤ 1000) : wP F_without [.d (eF fs), .d (.list (ns.map .str))] Q ↔ Q (eF (woV fs ns)) := wP_eq (wP_of (by
  have h1 : fs.length ≤ lim := Nat.le_trans h (by decide)
  rw [wP_D]
  simp_all only [F_without, g_without, eF, List.length_map, h1]
  rw [lc_run eP (fun p => !ns.any fun n => decide (n = p.1)) eP live_d fs fun p _ => ?_, wo_some]
  · rfl
  · simp_all only [eP, wipe_n, wipe_c, any_strs]))
def staying : List Str := ["content-length", "content-range", "content-encoding", "content-type"]
def newOf (r : Rp) : Flds := woV r.fs staying
def frV (e : En) (r : Rp) (a c : Int) : En := ⟨e.tg, e.fs, ⟨e.rs.st, woV e.rs.fs ((newOf r).map (·.1)) ++ newOf r, e.rs.bd⟩, a, c⟩
theorem wo_len (fs : Flds) (ns : List Str) : (woV fs ns).length ≤ fs.length := List.length_filter_le _ _
theorem s_freshened {e : En} {r : Rp} {a c : Int} (h1 : e.rs.fs.length ≤ 500) (h2 : r.fs.length ≤ 500) : wP F_freshened [.d (eE e), .d (eR r), .d (.int a), .d (.int c)] Q ↔ Q (eE (frV e r a c)) := wP_eq (wP_of (by
  have g1 : e.rs.fs.length ≤ 1000 := by omega
  have g2 : r.fs.length ≤ 1000 := by omega
  have hst : (PyData.tuple [.str "content-length", .str "content-range", .str "content-encoding", .str "content-type"]) = .tuple (staying.map .str) := rfl
  have n1 : (newOf r).length ≤ lim := Nat.le_trans (wo_len _ _) (Nat.le_trans g2 (by decide))
  rw [wP_D]
  simp_all only [F_freshened, g_freshened, eE, eR, hst, s_without_t g2]
  simp_all only [eF, List.length_map, show (woV r.fs staying).length ≤ lim from n1]
  rw [lc_run eP (fun _ => true) (fun p => .str p.1) live_d (woV r.fs staying) fun p _ => ?_, wo_some]
  · simp_all only [ft]
    rw [show (woV r.fs staying).map (fun p => PyData.str p.1) = ((woV r.fs staying).map (·.1)).map PyData.str by rw [List.map_map]; rfl]
    rw [show PyData.tuple (e.rs.fs.map eP) = eF e.rs.fs from rfl, s_without_l g1]
    simp_all only [eF, List.length_map]
    refine ⟨?_, ?_⟩
    · have m1 := wo_len e.rs.fs ((woV r.fs staying).map (·.1))
      have m2 := wo_len r.fs staying
      show _ ≤ 1000000
      omega
    · rw [← List.map_append]
      rfl
  · simp_all only [eP, wipe_n, wipe_c]))
/-! ### may_keep -/
theorem s_may_keep {q : Rq} {r : Rp} {c : Int} (h1 : Small q.fs) (h2 : Small r.fs) : wP F_may_keep [.d (eQ q), .d (eR r), .d (.int c)] Q ↔ Q (.bool (bV F_may_keep [.d (eQ q), .d (eR r), .d (.int c)])) := wP_eq (bV_eq (by
  have hl : shp (.tuple [.int 200, .int 203, .int 300, .int 301, .int 404, .int 410]) = true := by decide +kernel
  rw [wP_D]
  simp_all only [F_may_keep, g_may_keep, eQ, eR, s_values h1.len, hl]
  (repeat' (first | intro _ | refine And.intro ?_ ?_))
  refine for_run eF (fun l ds M => (∀ f ∈ l, Small f) ∧ M = [] ∧ ∃ u, ds = [some (.d (eQ q)), some (.d (eR r)), some (.d (.int c)), u, none]) (fun _ _ _ _ => live_d) ?_ ?_ [q.fs, r.fs] _ _ ⟨?_, rfl, _, rfl⟩
  · rintro f l ds M ⟨hf, rfl, u, rfl⟩
    simp_all only [s_rds (hf f List.mem_cons_self), s_directive, eBo]
    refine fun _ => ⟨fun g hg => hf g (List.mem_cons_of_mem _ hg), _, rfl⟩
  · rintro ds M ⟨hf, rfl, u, rfl⟩
    simp_all only [wo_some]
    refine (s_vary h2).mono ?_
    rintro z ⟨ns, rfl, hn⟩
    have e1 : PyData.tuple [.int r.st, eF r.fs, eT r.bd, .tuple []] = eR r := rfl
    simp_all only [eR]
    simp_all only [e1, s_tagval h2, s_modval h2, s_life h2, isNb_eTag, isNb_oI]
  · intro f hf
    simp only [List.mem_cons, List.not_mem_nil, or_false] at hf
    rcases hf with rfl | rfl
    · exact h1
    · exact h2))
/-! ### write_date -/
theorem s_date_of0 : wP F_date_of [.d (.int 0)] Q ↔ Q (.tuple [.int 1970, .int 1, .int 1]) := wP_eq (wP_of (by
  rw [wP_D]
  simp_all only [F_date_of, g_date_of, Int.reduceAdd, Int.reduceSub, Int.reduceMul, Int.reduceDiv]))
theorem two_len (n : Nat) : (two n).length = 2 := rfl
theorem s_write {t : Int} (h0 : 0 ≤ t) (h1 : t < 86400) : wP F_write_date [.d (.int t)] fun z => ∃ x : Str, z = .str x ∧ x.length ≤ 40 := by
  have e0 : t / 86400 = 0 := by omega
  rw [wP_D]
  simp_all only [F_write_date, g_write_date, e0, s_date_of0, s_weekday_of, o_ix_t, Int.reduceAdd, Int.reduceSub, Int.reduceMul, Int.reduceDiv, Int.reduceMod, Int.zero_mul, Int.sub_zero]
  have l0' : Str.empty.length = 0 := rfl
  have l1' : (Str.ofString ":").length = 1 := by decide +kernel
  have l2' : (Str.ofString ", ").length = 2 := by decide +kernel
  have l3' : (Str.ofString " ").length = 1 := by decide +kernel
  have l4' : (Str.ofString " GMT").length = 4 := by decide +kernel
  have l5' : (Str.ofString "Thursday").length = 8 := by decide +kernel
  have l6' : (Str.ofString "Jan").length = 3 := by decide +kernel
  have l7' : (⟨#[49, 57, 55, 48]⟩ : Str).length = 4 := rfl
  have l8' := cutS_length (Str.ofString "Thursday") none (some 3)
  rw [l5'] at l8'
  have l9' : (cutS (Str.ofString "Thursday") none (some 3)).length ≤ lim := Nat.le_trans l8' (by decide)
  have ll : ∀ n : Nat, n ≤ 40 → n ≤ lim := fun n h => Nat.le_trans h (by decide)
  rw [ixN_ok (by omega) (by omega), wo_some]
  simp_all only [Int.reduceToNat, List.getElem?_cons_succ, List.getElem?_cons_zero, wo_some, l5', l9', PySem.Str.length_append, two_len, l0', l1', l2', l3', l4', l6', l7']
  rw [ixN_ok (by omega) (by omega), wo_some]
  simp_all only [Int.reduceToNat, List.getElem?_cons_succ, List.getElem?_cons_zero, wo_some, l5', l9', PySem.Str.length_append, two_len, l0', l1', l2', l3', l4', l6', l7']
  (repeat' (first | intro _ | refine And.intro ?_ ?_))
  all_goals first
    | omega
    | exact ll _ (by omega)
    | (refine ⟨_, rfl, ?_⟩
       simp only [PySem.Str.length_append, two_len, l0', l1', l2', l3', l4', l6', l7']
       omega)
end Ow
set_option Elab.async false
set_option linter.all false
set_option maxRecDepth 100000
set_option maxHeartbeats 4000000
namespace Ow
open PySem L2
variable {Q : PyData → Prop}
theorem eqv_GET {x : Str} : (x = Str.ofString "GET") = (x = "GET") := rfl
/-! ### ranks, rules, limits -/
noncomputable def rankV (e : En) : Int := match dofV e.rs.fs "date" e.cm with
  | none => 0
  | some d => d
theorem s_date_rank {e : En} (h : Small e.rs.fs) : wP F_date_rank [.d (eE e)] Q ↔ Q (.int (rankV e)) := wP_eq (wP_of (by
  rw [wP_D]
  simp_all only [F_date_rank, g_date_rank, eE, eR, s_dof h, isNb_oI]
  unfold rankV
  cases dofV e.rs.fs (Str.ofString "date") e.cm with
  | none => simp_all only [Option.isNone]
  | some d => simp_all only [Option.isNone, oI]))
theorem lc_vals {i j : Nat} {ds : DS} {M : Mem} {n : Str} {fs : Flds} {w : DV} {full : List PyData} {t : ST} {f : SE} (hl : live M w full)
    (ht : ∀ p ∈ fs, wo (bindP (.t [i, j]) (eP p) (wipeD ds [i, j])) fun ds1 => wT t ds1 M fun b M1 => (b = decide (p.1 = n) ∧ M1 = M) ∧ (b = true → wE f ds1 M fun r M2 => r = .d (.str p.2) ∧ M2 = M)) :
    lcD (.t [i, j]) t f [i, j] w full ds (fs.map eP) M = some ((vals fs n).map .str, M) := by
  rw [lc_run eP (fun p => decide (p.1 = n)) (fun p => .str p.2) hl fs ht]
  simp only [vals, List.map_map]
  rfl
theorem s_law_rank {e : En} (h : Small e.rs.fs) : wP F__law_rank [.d (eE e)] Q ↔ Q (.int (rankV e)) := wP_eq (wP_of (by
  have h1 : e.rs.fs.length ≤ lim := Nat.le_trans h.len (by decide)
  rw [wP_D]
  simp_all only [F__law_rank, g__law_rank, eE, eR, eF, List.length_map, h1]
  rw [lc_vals (n := "date") live_d fun p _ => ?_, wo_some]
  · unfold rankV dofV
    match e2 : vals e.rs.fs (Str.ofString "date") with
    | [] =>
      have h2 : ¬ (((0 : Nat) : Int) = 1) := by decide
      simp_all only [h2]
    | [x] =>
      have hx : x.length ≤ lim := small_mem (n := Str.ofString "date") h (by rw [e2]; exact List.mem_singleton.mpr rfl)
      have h2 : (((1 : Nat) : Int) = 1) := by decide
      simp_all only [h2, o_ix_l0, s_rd hx, isNb_oI]
      cases rdV x e.cm with
      | none => simp_all only [Option.isNone]
      | some d => simp_all only [Option.isNone, oI]
    | x :: y :: t =>
      have h2 : ¬ (((t.length + 2 : Nat) : Int) = 1) := by omega
      simp_all only [List.length_map, h2, Nat.add_assoc]
  · simp_all only [eP, wipe_n, wipe_c]))
theorem s_law_tag {r : Rp} (h : Small r.fs) : wP F__law_tag [.d (eR r)] Q ↔ Q (eTag (tvV r.fs)) := wP_eq (wP_of (by
  have h1 : r.fs.length ≤ lim := Nat.le_trans h.len (by decide)
  rw [wP_D]
  simp_all only [F__law_tag, g__law_tag, eR, eF, List.length_map, h1]
  rw [lc_vals (n := "etag") live_d fun p _ => ?_, wo_some]
  · unfold tvV
    match e2 : vals r.fs (Str.ofString "etag") with
    | [] =>
      have h2 : ¬ (((0 : Nat) : Int) = 1) := by decide
      simp_all only [h2]
      rfl
    | [x] =>
      have hx : x.length ≤ lim := small_mem (n := Str.ofString "etag") h (by rw [e2]; exact List.mem_singleton.mpr rfl)
      have h2 : (((1 : Nat) : Int) = 1) := by decide
      simp_all only [h2, o_ix_l0, s_tag hx]
    | x :: y :: t =>
      have h2 : ¬ (((t.length + 2 : Nat) : Int) = 1) := by omega
      simp_all only [List.length_map, h2, Nat.add_assoc]
      rfl
  · simp_all only [eP, wipe_n, wipe_c]))
theorem s_law_modified {r : Rp} {c : Int} (h : Small r.fs) : wP F__law_modified [.d (eR r), .d (.int c)] Q ↔ Q (oI (dofV r.fs "last-modified" c)) := wP_eq (wP_of (by
  have h1 : r.fs.length ≤ lim := Nat.le_trans h.len (by decide)
  rw [wP_D]
  simp_all only [F__law_modified, g__law_modified, eR, eF, List.length_map, h1]
  rw [lc_vals (n := "last-modified") live_d fun p _ => ?_, wo_some]
  · unfold dofV
    match e2 : vals r.fs (Str.ofString "last-modified") with
    | [] =>
      have h2 : ¬ (((0 : Nat) : Int) = 1) := by decide
      simp_all only [h2]
      rfl
    | [x] =>
      have hx : x.length ≤ lim := small_mem (n := Str.ofString "last-modified") h (by rw [e2]; exact List.mem_singleton.mpr rfl)
      have h2 : (((1 : Nat) : Int) = 1) := by decide
      simp_all only [h2, o_ix_l0, s_rd hx]
    | x :: y :: t =>
      have h2 : ¬ (((t.length + 2 : Nat) : Int) = 1) := by omega
      simp_all only [List.length_map, h2, Nat.add_assoc]
      rfl
  · simp_all only [eP, wipe_n, wipe_c]))
/-- a rule of these fields -/
noncomputable def ruV (fs : Flds) (n : Str) : Bool × Option Str := dirV (dsV fs).1 n
theorem ru_fits {fs : Flds} {n : Str} : Fits (ruV fs n).2 := dirV_fits
theorem s_law_rule {fs : Flds} {n : Str} (h : Small fs) : wP F__law_rule [.d (eF fs), .d (.str n)] Q ↔ Q (eBo (ruV fs n)) := wP_eq (wP_of (by
  rw [wP_D]
  simp_all only [F__law_rule, g__law_rule, s_rds h, s_directive]
  rfl))
theorem s_law_limit {fs : Flds} {n : Str} (h : Small fs) : wP F__law_limit [.d (eF fs), .d (.str n)] Q ↔ Q (oI (secV (ruV fs n).2)) := wP_eq (wP_of (by
  rw [wP_D]
  simp_all only [F__law_limit, g__law_limit, s_law_rule h, eBo, s_sec ru_fits]))
theorem s_limit_of {d : Dirs} {n : Str} : wP F_limit_of [.d (eDirs d), .d (.str n)] Q ↔ Q (oI (secV (dirV d.1 n).2)) := wP_eq (wP_of (by
  rw [wP_D]
  simp_all only [F_limit_of, g_limit_of, s_directive, eBo, s_sec dirV_fits]))
/-! ### has -/
def hasV (fs : Flds) (ns : List Str) : Bool := fs.any fun p => ns.any fun n => decide (n = p.1)
theorem vals_nil {fs : Flds} {n : Str} : vals fs n = [] ↔ ∀ p ∈ fs, p.1 ≠ n := by
  unfold vals
  rw [List.map_eq_nil_iff, List.filter_eq_nil_iff]
  simp
theorem hasV_false {fs : Flds} {ns : List Str} : hasV fs ns = false ↔ ∀ n ∈ ns, vals fs n = [] := by
  unfold hasV
  rw [List.any_eq_false]
  constructor
  · intro h n hn
    rw [vals_nil]
    intro p hp e
    exact h p hp (List.any_eq_true.mpr ⟨n, hn, by simp [e]⟩)
  · intro h p hp q
    obtain ⟨n, hn, e⟩ := List.any_eq_true.mp q
    exact vals_nil.mp (h n hn) p hp (of_decide_eq_true e).symm
theorem s_has_one {fs : Flds} {ns : List Str} (h : Small fs) : wP F_has_one [.d (eF fs), .d (.tuple (ns.map .str))] Q ↔ Q (.bool (hasV fs ns)) := wP_eq (wP_of (by
  rw [wP_D]
  simp_all only [F_has_one, g_has_one]
  refine for_run PyData.str (fun r ds M => M = [] ∧ (∃ u, ds = [some (.d (eF fs)), some (.d (.tuple (ns.map .str))), u]) ∧ (∀ n ∈ ns, n ∉ r → vals fs n = []) ∧ ∀ n ∈ r, n ∈ ns) (fun _ _ _ _ => live_d) ?_ ?_ ns _ _ ⟨rfl, ⟨_, rfl⟩, fun n hn h => absurd hn h, fun _ h => h⟩
  · rintro n r ds M ⟨rfl, ⟨u, rfl⟩, hr, hm⟩
    simp_all only [s_values h.len]
    refine ⟨fun hv => ?_, fun hv => ⟨⟨_, rfl⟩, fun m hm' hn => ?_, fun m h => hm m (List.mem_cons_of_mem _ h)⟩⟩
    · congr 1
      cases e : hasV fs ns with
      | true => rfl
      | false =>
        have := hasV_false.mp e n (hm n List.mem_cons_self)
        rw [this] at hv
        cases hv
    · by_cases e : m = n
      · subst e; simpa using hv
      · exact hr m hm' fun q => (List.mem_cons.mp q).elim e hn
  · rintro ds M ⟨rfl, ⟨u, rfl⟩, hr, hm⟩
    simp_all only [wo_some]
    rw [hasV_false.mpr fun n hn => hr n hn (by simp)]))
theorem s_law_has {q : Rq} {ns : List Str} (h : Small q.fs) : wP F__law_has [.d (eQ q), .d (.list (ns.map .str))] Q ↔ Q (.bool (hasV q.fs ns)) := wP_eq (wP_of (by
  have h1 : q.fs.length ≤ lim := Nat.le_trans h.len (by decide)
  rw [wP_D]
  simp_all only [F__law_has, g__law_has, eQ, eF, List.length_map, h1]
  rw [lc_run eP (fun p => ns.any fun n => decide (n = p.1)) eP live_d q.fs fun p _ => ?_, wo_some]
  · have hs : shp (.list ((q.fs.filter fun p => ns.any fun n => decide (n = p.1)).map eP)) = true := shp_of (n := 2) (fl_l (fls_all fun d hd => by obtain ⟨p, _, rfl⟩ := List.mem_map.mp hd; exact fl_t (fls_cons fl_s (fls_cons fl_s fls_nil)))) (by decide)
    simp_all only [hs]
    congr 1
    unfold hasV
    induction q.fs with
    | nil => rfl
    | cons p r ih =>
      rw [List.filter_cons, List.any_cons]
      split
      · rename_i e; rw [e]; rfl
      · rename_i e
        rw [show (ns.any fun n => decide (n = p.1)) = false from (Bool.not_eq_true _).mp e, Bool.false_or]
        exact ih
  · simp_all only [eP, wipe_n, wipe_c, any_strs]))
end Ow
set_option Elab.async false
set_option linter.all false
set_option maxRecDepth 100000
set_option maxHeartbeats 4000000
namespace Ow
open PySem L2
variable {Q : PyData → Prop}
section
variable {e : En} {q : Rq} {r : Rp} {fs gs : Flds}
theorem ixE0 : wo (ixF (eE e) (.int 0)) Q ↔ Q (eT e.tg) := o_ix_t0
theorem ixE1 : wo (ixF (eE e) (.int 1)) Q ↔ Q (eF e.fs) := o_ix_t1
theorem ixE2 : wo (ixF (eE e) (.int 2)) Q ↔ Q (eR e.rs) := o_ix_t2
theorem ixE3 : wo (ixF (eE e) (.int 3)) Q ↔ Q (.int e.ad) := o_ix_t3
theorem ixE4 : wo (ixF (eE e) (.int 4)) Q ↔ Q (.int e.cm) := o_ix_t4
theorem ixQ0 : wo (ixF (eQ q) (.int 0)) Q ↔ Q (.str q.me) := o_ix_t0
theorem ixQ1 : wo (ixF (eQ q) (.int 1)) Q ↔ Q (eT q.tg) := o_ix_t1
theorem ixQ2 : wo (ixF (eQ q) (.int 2)) Q ↔ Q (eF q.fs) := o_ix_t2
theorem ixQ3 : wo (ixF (eQ q) (.int 3)) Q ↔ Q (.tuple []) := o_ix_t3
theorem ixQ4 : wo (ixF (eQ q) (.int 4)) Q ↔ Q (.tuple []) := o_ix_t4
theorem ixR0 : wo (ixF (eR r) (.int 0)) Q ↔ Q (.int r.st) := o_ix_t0
theorem ixR1 : wo (ixF (eR r) (.int 1)) Q ↔ Q (eF r.fs) := o_ix_t1
theorem ixR2 : wo (ixF (eR r) (.int 2)) Q ↔ Q (eT r.bd) := o_ix_t2
theorem ixR3 : wo (ixF (eR r) (.int 3)) Q ↔ Q (.tuple []) := o_ix_t3
theorem bindE {is : List Nat} {ds : DS} {P : DS → Prop} : wo (bindP (.t is) (eE e) ds) P ↔ wo (bindNs is [eT e.tg, eF e.fs, eR e.rs, .int e.ad, .int e.cm] ds) P := Iff.rfl
theorem bindR {is : List Nat} {ds : DS} {P : DS → Prop} : wo (bindP (.t is) (eR r) ds) P ↔ wo (bindNs is [.int r.st, eF r.fs, eT r.bd, .tuple []] ds) P := Iff.rfl
theorem wWt_F {P : List PyData → Prop} : wWt (.d (eF fs)) P ↔ P (fs.map eP) := wWt_t
theorem add_FF : wo (addF (eF fs) (eF gs)) Q ↔ fs.length + gs.length ≤ lim ∧ Q (eF (fs ++ gs)) := by
  unfold eF
  rw [o_add_tt, List.length_map, List.length_map, List.map_append]
end
noncomputable def lifeV (r : Rp) (c : Int) : Int := iV F_lifetime [.d (eR r), .d (.int c)]
theorem s_lf {r : Rp} {c : Int} (h : Small r.fs) : wP F_lifetime [.d (eR r), .d (.int c)] Q ↔ Q (.int (lifeV r c)) := s_life h
theorem s_entry_life {e : En} (h : Small e.rs.fs) : wP F_entry_lifetime [.d (eE e)] Q ↔ Q (.int (lifeV e.rs e.cm)) := wP_eq (wP_of (by
  rw [wP_D]
  simp_all only [F_entry_lifetime, g_entry_lifetime, s_lf h, ↓ixE0, ↓ixE1, ↓ixE2, ↓ixE3, ↓ixE4, ↓ixQ0, ↓ixQ1, ↓ixQ2, ↓ixQ3, ↓ixQ4, ↓ixR0, ↓ixR1, ↓ixR2, ↓ixR3, ↓bindE, ↓bindR, ↓wWt_F, ↓add_FF]))
/-! ### usable -/
noncomputable def staleV (W R : Flds) (late : Int) : Bool :=
  if (ruV W "max-stale").1 = false ∨ (ruV R "must-revalidate").1 = true then false else
  match (ruV W "max-stale").2 with
  | none => true
  | some v => match secV (some v) with
    | none => false
    | some l => decide (late ≤ l)
noncomputable def usV (e : En) (q : Rq) (n : Int) : Bool :=
  if (ruV q.fs "no-cache").1 = true ∨ (ruV e.rs.fs "no-cache").1 = true then false else
  match secV (ruV q.fs "max-age").2 with
  | some m => if m < ageV e n then false else match secV (ruV q.fs "min-fresh").2 with
    | some a => if lifeV e.rs e.cm ≤ ageV e n + a then false else decide (ageV e n < lifeV e.rs e.cm)
    | none => if ageV e n < lifeV e.rs e.cm then true else staleV q.fs e.rs.fs (ageV e n - lifeV e.rs e.cm)
  | none => match secV (ruV q.fs "min-fresh").2 with
    | some a => if lifeV e.rs e.cm ≤ ageV e n + a then false else decide (ageV e n < lifeV e.rs e.cm)
    | none => if ageV e n < lifeV e.rs e.cm then true else staleV q.fs e.rs.fs (ageV e n - lifeV e.rs e.cm)
theorem ru_eq {fs : Flds} {n : Str} : dirV (dsV fs).1 n = ruV fs n := rfl
theorem s_allows {W R : Flds} {l : Int} : wP F_allows_stale [.d (eDirs (dsV W)), .d (eDirs (dsV R)), .d (.int l)] Q ↔ Q (.bool (if (secV (ruV W "min-fresh").2).isSome then false else staleV W R l)) := wP_eq (wP_of (by
  have hf := ru_fits (fs := W) (n := "max-stale")
  generalize hs : (if (secV (ruV W "min-fresh").2).isSome then false else staleV W R l) = res
  unfold staleV at hs
  rw [wP_D]
  simp_all only [F_allows_stale, g_allows_stale, s_directive, s_limit_of, ru_eq, eBo, isNb_oI]
  cases e1 : (ruV W (Str.ofString "max-stale")).1 <;> cases e2 : (ruV R (Str.ofString "must-revalidate")).1 <;> cases e3 : secV (ruV W (Str.ofString "min-fresh")).2 <;> simp only [e1, e2, e3, Option.isNone, Option.isSome, if_true, if_false, true_or, or_true, reduceCtorEq, or_self, ↓wD_fn, ↓wS_seq, ↓wS_skip, ↓wS_cont, ↓wS_set, ↓wS_ret, ↓wS_drop, ↓wS_if, ↓wS_setP, ↓wS_par, ↓wS_aug, ↓wS_fset, ↓wS_lset, ↓wS_laug, ↓wS_dset, ↓kSeq_nx, ↓kSeq_ct, ↓kSeq_rt, ↓kRet_rt, ↓kRet_nx, ↓ex_one, ↓ex_two, ↓wL_lc, ↓wS_for, ↓wI_Li, ↓wI_Ti, ↓wI_Ri, ↓wI_S, ↓wW_d, ↓wW_s, ↓wW_r, ↓wWt_t, ↓wWr_i, ↓wE_var, ↓wE_c, ↓wE_gf, ↓wE_op, ↓wE_un, ↓wE_cb, ↓wE_chain, ↓wE_and, ↓wE_or, ↓wE_notV, ↓wE_if, ↓wE_tup, ↓wE_frz, ↓wE_new, ↓wE_sl, ↓wE_fld, ↓wE_app, ↓wE_ext, ↓wE_dget, ↓wE_call, ↓wE_pure, ↓wE_one, ↓wE_meth, ↓wE_make, ↓wE_m0, ↓wE_m1, ↓wE_index, ↓wE_maxD, ↓wE_joined, ↓wE_dict, ↓wJ_nil, ↓wJ_cons, ↓wo_pairs0, ↓wo_pairs1, ↓wT_isB, ↓wT_not, ↓wT_yes, ↓wT_and, ↓wT_or, ↓wA_nil, ↓wA_cons, ↓wL_lst, ↓wO_none, ↓wO_part, ↓wB_bool, ↓wZi_int, ↓wZs_str, ↓wZ_bool, ↓wU_none, ↓v_d, ↓v_r, ↓asD_d, ↓asDs_nil, ↓asDs_cons, ↓views_nil, ↓views_cons, ↓ref_r, ↓wo_at0, ↓wo_atS, ↓lst_0, ↓lst_S, ↓o_add_ii, ↓o_add_ss, ↓o_add_ll, ↓o_add_tt, ↓o_iadd_ii, ↓o_iadd_ss, ↓o_sub, ↓o_mul, ↓o_div, ↓o_mod, ↓o_pow, ↓o_neg, ↓o_lt, ↓o_le_ii, ↓o_le_ss, ↓o_ge, ↓o_gt, ↓o_gt2, ↓o_isN, ↓o_notN, ↓o_eq, ↓o_ne, ↓o_in_str, ↓o_nin_str, ↓o_in_l, ↓o_nin_l, ↓o_in_t, ↓o_nin_t, ↓o_ix_t0, ↓o_ix_t1, ↓o_ix_t2, ↓o_ix_t3, ↓o_ix_t4, ↓o_ix_s, ↓o_sl_s, ↓o_sl_l, ↓o_len_l, ↓o_len_t, ↓o_len_s, ↓o_min, ↓o_max, ↓o_abs, ↓o_int_i, ↓o_int_s, ↓o_str, ↓o_ord, ↓o_list, ↓o_tup_l, ↓o_tup_t, ↓o_low, ↓o_find, ↓o_strip, ↓o_join, ↓o_fmt, ↓o_fmt2, ↓o_fmt4, ↓bindP_n, ↓bindP_t, ↓bindNs_n, ↓bindNs_c, l0, l1, l2, l3, l4, l5, l6, l7, l8, l9, l10, l11, l12, l13, l14, l15, isNb_n, isNb_b, isNb_i, isNb_s, isNb_l, isNb_t, eqv_ss, eqv_ii, eqv_bb, eqv_nn, eqv_ll, eqv_tt, eqvA_nn, eqvA_cc, eqvA_cn, eqvA_nc, eqvA_empty, eqv_ls, eqv_ni, eqv_in, eqv_ns, eqv_sn, eqv_tn, shp_n, shp_b, shp_i, shp_s, shp_nil, shp_strs, shp_tstrs, shp_tints, all_noRef_d, all_noRef_a, all_noRef_n, List.map_cons, List.map_nil, List.length_cons, List.length_nil, List.replicate_succ, List.replicate_zero, List.cons_append, List.nil_append, List.set_cons_zero, List.set_cons_succ, Nat.zero_add, Nat.reduceAdd, Nat.reduceSub, Nat.reduceLeDiff, Nat.reduceEqDiff, decide_eq_true_eq, decide_eq_false_iff_not, Bool.not_true, Bool.not_false, Bool.not_eq_true', Bool.not_eq_false', Bool.not_eq_true, Bool.not_eq_false, and_true, true_and, implies_true, forall_const, reduceCtorEq, false_implies, PyData.int.injEq, PyData.bool.injEq, PyData.str.injEq, eq_self, exists_eq', exists_eq, or_true, true_or, and_self, Int.reduceNeg, Int.reducePow, Int.reduceLT, Int.reduceLE, Int.reduceToNat, not_true_eq_false, not_false_eq_true, false_or, or_false, and_false, false_and, if_true, if_false] at hs ⊢
  all_goals first | exact hs | skip
  cases e4 : (ruV W (Str.ofString "max-stale")).2 with
  | none =>
    rw [e4] at hs
    simp_all only [e4, oS, isNb_n]
    exact hs
  | some v =>
    rw [e4] at hs hf
    have hv := hf v rfl
    simp_all only [e4, oS, isNb_s, s_sec_s hv, isNb_oI]
    cases e5 : secV (some v) with
    | none =>
      simp only [e5] at hs
      simp_all only [Option.isNone]
      exact hs
    | some k =>
      simp only [e5] at hs
      simp_all only [Option.isNone, oI]
      exact hs))
theorem s_usable {e : En} {q : Rq} {n : Int} (h1 : Small q.fs) (h2 : Small e.rs.fs) : wP F_is_usable [.d (eE e), .d (eQ q), .d (.int n)] Q ↔ Q (.bool (usV e q n)) := wP_eq (wP_of (by
  generalize hs : usV e q n = res
  unfold usV at hs
  rw [wP_D]
  simp_all only [F_is_usable, g_is_usable, s_rds h1, s_rds h2, s_directive, s_limit_of, s_age h2, s_entry_life h2, s_allows, ru_eq, eBo, isNb_oI, ↓ixE0, ↓ixE1, ↓ixE2, ↓ixE3, ↓ixE4, ↓ixQ0, ↓ixQ1, ↓ixQ2, ↓ixQ3, ↓ixQ4, ↓ixR0, ↓ixR1, ↓ixR2, ↓ixR3, ↓bindE, ↓bindR, ↓wWt_F, ↓add_FF]
  cases a1 : (ruV q.fs (Str.ofString "no-cache")).1 <;> cases a2 : (ruV e.rs.fs (Str.ofString "no-cache")).1 <;> cases a3 : secV (ruV q.fs (Str.ofString "max-age")).2 <;> cases a4 : secV (ruV q.fs (Str.ofString "min-fresh")).2 <;>
    simp only [a1, a2, a3, a4, oI, Option.isNone, Option.isSome, if_true, if_false, true_or, or_true, reduceCtorEq, or_self, ↓ixE0, ↓ixE1, ↓ixE2, ↓ixE3, ↓ixE4, ↓ixQ0, ↓ixQ1, ↓ixQ2, ↓ixQ3, ↓ixQ4, ↓ixR0, ↓ixR1, ↓ixR2, ↓ixR3, ↓bindE, ↓bindR, ↓wWt_F, ↓add_FF, ↓wD_fn, ↓wS_seq, ↓wS_skip, ↓wS_cont, ↓wS_set, ↓wS_ret, ↓wS_drop, ↓wS_if, ↓wS_setP, ↓wS_par, ↓wS_aug, ↓wS_fset, ↓wS_lset, ↓wS_laug, ↓wS_dset, ↓kSeq_nx, ↓kSeq_ct, ↓kSeq_rt, ↓kRet_rt, ↓kRet_nx, ↓ex_one, ↓ex_two, ↓wL_lc, ↓wS_for, ↓wI_Li, ↓wI_Ti, ↓wI_Ri, ↓wI_S, ↓wW_d, ↓wW_s, ↓wW_r, ↓wWt_t, ↓wWr_i, ↓wE_var, ↓wE_c, ↓wE_gf, ↓wE_op, ↓wE_un, ↓wE_cb, ↓wE_chain, ↓wE_and, ↓wE_or, ↓wE_notV, ↓wE_if, ↓wE_tup, ↓wE_frz, ↓wE_new, ↓wE_sl, ↓wE_fld, ↓wE_app, ↓wE_ext, ↓wE_dget, ↓wE_call, ↓wE_pure, ↓wE_one, ↓wE_meth, ↓wE_make, ↓wE_m0, ↓wE_m1, ↓wE_index, ↓wE_maxD, ↓wE_joined, ↓wE_dict, ↓wJ_nil, ↓wJ_cons, ↓wo_pairs0, ↓wo_pairs1, ↓wT_isB, ↓wT_not, ↓wT_yes, ↓wT_and, ↓wT_or, ↓wA_nil, ↓wA_cons, ↓wL_lst, ↓wO_none, ↓wO_part, ↓wB_bool, ↓wZi_int, ↓wZs_str, ↓wZ_bool, ↓wU_none, ↓v_d, ↓v_r, ↓asD_d, ↓asDs_nil, ↓asDs_cons, ↓views_nil, ↓views_cons, ↓ref_r, ↓wo_at0, ↓wo_atS, ↓lst_0, ↓lst_S, ↓o_add_ii, ↓o_add_ss, ↓o_add_ll, ↓o_add_tt, ↓o_iadd_ii, ↓o_iadd_ss, ↓o_sub, ↓o_mul, ↓o_div, ↓o_mod, ↓o_pow, ↓o_neg, ↓o_lt, ↓o_le_ii, ↓o_le_ss, ↓o_ge, ↓o_gt, ↓o_gt2, ↓o_isN, ↓o_notN, ↓o_eq, ↓o_ne, ↓o_in_str, ↓o_nin_str, ↓o_in_l, ↓o_nin_l, ↓o_in_t, ↓o_nin_t, ↓o_ix_t0, ↓o_ix_t1, ↓o_ix_t2, ↓o_ix_t3, ↓o_ix_t4, ↓o_ix_s, ↓o_sl_s, ↓o_sl_l, ↓o_len_l, ↓o_len_t, ↓o_len_s, ↓o_min, ↓o_max, ↓o_abs, ↓o_int_i, ↓o_int_s, ↓o_str, ↓o_ord, ↓o_list, ↓o_tup_l, ↓o_tup_t, ↓o_low, ↓o_find, ↓o_strip, ↓o_join, ↓o_fmt, ↓o_fmt2, ↓o_fmt4, ↓bindP_n, ↓bindP_t, ↓bindNs_n, ↓bindNs_c, l0, l1, l2, l3, l4, l5, l6, l7, l8, l9, l10, l11, l12, l13, l14, l15, isNb_n, isNb_b, isNb_i, isNb_s, isNb_l, isNb_t, eqv_ss, eqv_ii, eqv_bb, eqv_nn, eqv_ll, eqv_tt, eqvA_nn, eqvA_cc, eqvA_cn, eqvA_nc, eqvA_empty, eqv_ls, eqv_ni, eqv_in, eqv_ns, eqv_sn, eqv_tn, shp_n, shp_b, shp_i, shp_s, shp_nil, shp_strs, shp_tstrs, shp_tints, all_noRef_d, all_noRef_a, all_noRef_n, List.map_cons, List.map_nil, List.length_cons, List.length_nil, List.replicate_succ, List.replicate_zero, List.cons_append, List.nil_append, List.set_cons_zero, List.set_cons_succ, Nat.zero_add, Nat.reduceAdd, Nat.reduceSub, Nat.reduceLeDiff, Nat.reduceEqDiff, decide_eq_true_eq, decide_eq_false_iff_not, Bool.not_true, Bool.not_false, Bool.not_eq_true', Bool.not_eq_false', Bool.not_eq_true, Bool.not_eq_false, and_true, true_and, implies_true, forall_const, reduceCtorEq, false_implies, PyData.int.injEq, PyData.bool.injEq, PyData.str.injEq, eq_self, exists_eq', exists_eq, or_true, true_or, and_self, Int.reduceNeg, Int.reducePow, Int.reduceLT, Int.reduceLE, Int.reduceToNat, not_true_eq_false, not_false_eq_true, false_or, or_false, and_false, false_and, if_true, if_false] at hs ⊢
  all_goals first | exact hs | skip
  all_goals subst hs
  all_goals (repeat' (first | intro _ | refine And.intro ?_ ?_))
  all_goals (repeat' split)
  all_goals first | rfl | (exfalso; omega) | simp_all))
theorem s_law_usable {e : En} {q : Rq} {n : Int} (h1 : Small q.fs) (h2 : Small e.rs.fs) : wP F__law_usable [.d (eE e), .d (eQ q), .d (.int n)] Q ↔ Q (.bool (usV e q n)) := wP_eq (wP_of (by
  generalize hs : usV e q n = res
  unfold usV at hs
  have hf := ru_fits (fs := q.fs) (n := "max-stale")
  rw [wP_D]
  simp_all only [F__law_usable, g__law_usable, s_law_rule h1, s_law_rule h2, s_law_limit h1, s_age h2, s_lf h2, eBo, isNb_oI, ↓ixE0, ↓ixE1, ↓ixE2, ↓ixE3, ↓ixE4, ↓ixQ0, ↓ixQ1, ↓ixQ2, ↓ixQ3, ↓ixQ4, ↓ixR0, ↓ixR1, ↓ixR2, ↓ixR3, ↓bindE, ↓bindR, ↓wWt_F, ↓add_FF]
  cases a1 : (ruV q.fs (Str.ofString "no-cache")).1 <;> cases a2 : (ruV e.rs.fs (Str.ofString "no-cache")).1 <;> cases a3 : secV (ruV q.fs (Str.ofString "max-age")).2 <;> cases a4 : secV (ruV q.fs (Str.ofString "min-fresh")).2 <;>
    simp only [a1, a2, a3, a4, oI, Option.isNone, Option.isSome, if_true, if_false, true_or, or_true, reduceCtorEq, or_self, ↓ixE0, ↓ixE1, ↓ixE2, ↓ixE3, ↓ixE4, ↓ixQ0, ↓ixQ1, ↓ixQ2, ↓ixQ3, ↓ixQ4, ↓ixR0, ↓ixR1, ↓ixR2, ↓ixR3, ↓bindE, ↓bindR, ↓wWt_F, ↓add_FF, ↓wD_fn, ↓wS_seq, ↓wS_skip, ↓wS_cont, ↓wS_set, ↓wS_ret, ↓wS_drop, ↓wS_if, ↓wS_setP, ↓wS_par, ↓wS_aug, ↓wS_fset, ↓wS_lset, ↓wS_laug, ↓wS_dset, ↓kSeq_nx, ↓kSeq_ct, ↓kSeq_rt, ↓kRet_rt, ↓kRet_nx, ↓ex_one, ↓ex_two, ↓wL_lc, ↓wS_for, ↓wI_Li, ↓wI_Ti, ↓wI_Ri, ↓wI_S, ↓wW_d, ↓wW_s, ↓wW_r, ↓wWt_t, ↓wWr_i, ↓wE_var, ↓wE_c, ↓wE_gf, ↓wE_op, ↓wE_un, ↓wE_cb, ↓wE_chain, ↓wE_and, ↓wE_or, ↓wE_notV, ↓wE_if, ↓wE_tup, ↓wE_frz, ↓wE_new, ↓wE_sl, ↓wE_fld, ↓wE_app, ↓wE_ext, ↓wE_dget, ↓wE_call, ↓wE_pure, ↓wE_one, ↓wE_meth, ↓wE_make, ↓wE_m0, ↓wE_m1, ↓wE_index, ↓wE_maxD, ↓wE_joined, ↓wE_dict, ↓wJ_nil, ↓wJ_cons, ↓wo_pairs0, ↓wo_pairs1, ↓wT_isB, ↓wT_not, ↓wT_yes, ↓wT_and, ↓wT_or, ↓wA_nil, ↓wA_cons, ↓wL_lst, ↓wO_none, ↓wO_part, ↓wB_bool, ↓wZi_int, ↓wZs_str, ↓wZ_bool, ↓wU_none, ↓v_d, ↓v_r, ↓asD_d, ↓asDs_nil, ↓asDs_cons, ↓views_nil, ↓views_cons, ↓ref_r, ↓wo_at0, ↓wo_atS, ↓lst_0, ↓lst_S, ↓o_add_ii, ↓o_add_ss, ↓o_add_ll, ↓o_add_tt, ↓o_iadd_ii, ↓o_iadd_ss, ↓o_sub, ↓o_mul, ↓o_div, ↓o_mod, ↓o_pow, ↓o_neg, ↓o_lt, ↓o_le_ii, ↓o_le_ss, ↓o_ge, ↓o_gt, ↓o_gt2, ↓o_isN, ↓o_notN, ↓o_eq, ↓o_ne, ↓o_in_str, ↓o_nin_str, ↓o_in_l, ↓o_nin_l, ↓o_in_t, ↓o_nin_t, ↓o_ix_t0, ↓o_ix_t1, ↓o_ix_t2, ↓o_ix_t3, ↓o_ix_t4, ↓o_ix_s, ↓o_sl_s, ↓o_sl_l, ↓o_len_l, ↓o_len_t, ↓o_len_s, ↓o_min, ↓o_max, ↓o_abs, ↓o_int_i, ↓o_int_s, ↓o_str, ↓o_ord, ↓o_list, ↓o_tup_l, ↓o_tup_t, ↓o_low, ↓o_find, ↓o_strip, ↓o_join, ↓o_fmt, ↓o_fmt2, ↓o_fmt4, ↓bindP_n, ↓bindP_t, ↓bindNs_n, ↓bindNs_c, l0, l1, l2, l3, l4, l5, l6, l7, l8, l9, l10, l11, l12, l13, l14, l15, isNb_n, isNb_b, isNb_i, isNb_s, isNb_l, isNb_t, eqv_ss, eqv_ii, eqv_bb, eqv_nn, eqv_ll, eqv_tt, eqvA_nn, eqvA_cc, eqvA_cn, eqvA_nc, eqvA_empty, eqv_ls, eqv_ni, eqv_in, eqv_ns, eqv_sn, eqv_tn, shp_n, shp_b, shp_i, shp_s, shp_nil, shp_strs, shp_tstrs, shp_tints, all_noRef_d, all_noRef_a, all_noRef_n, List.map_cons, List.map_nil, List.length_cons, List.length_nil, List.replicate_succ, List.replicate_zero, List.cons_append, List.nil_append, List.set_cons_zero, List.set_cons_succ, Nat.zero_add, Nat.reduceAdd, Nat.reduceSub, Nat.reduceLeDiff, Nat.reduceEqDiff, decide_eq_true_eq, decide_eq_false_iff_not, Bool.not_true, Bool.not_false, Bool.not_eq_true', Bool.not_eq_false', Bool.not_eq_true, Bool.not_eq_false, and_true, true_and, implies_true, forall_const, reduceCtorEq, false_implies, PyData.int.injEq, PyData.bool.injEq, PyData.str.injEq, eq_self, exists_eq', exists_eq, or_true, true_or, and_self, Int.reduceNeg, Int.reducePow, Int.reduceLT, Int.reduceLE, Int.reduceToNat, not_true_eq_false, not_false_eq_true, false_or, or_false, and_false, false_and, if_true, if_false] at hs ⊢
  all_goals first | exact hs | skip
  all_goals subst hs
  all_goals (try unfold staleV)
  all_goals cases a5 : (ruV q.fs (Str.ofString "max-stale")).1 <;> cases a6 : (ruV e.rs.fs (Str.ofString "must-revalidate")).1
  all_goals
    cases a7 : (ruV q.fs (Str.ofString "max-stale")).2 with
    | none =>
      simp_all only [a5, a6, a7, oS, isNb_n, if_true, if_false, true_or, or_true, reduceCtorEq, or_self, ↓ixE0, ↓ixE1, ↓ixE2, ↓ixE3, ↓ixE4, ↓ixQ0, ↓ixQ1, ↓ixQ2, ↓ixQ3, ↓ixQ4, ↓ixR0, ↓ixR1, ↓ixR2, ↓ixR3, ↓bindE, ↓bindR, ↓wWt_F, ↓add_FF]
      (repeat' (first | intro _ | refine And.intro ?_ ?_))
      all_goals (repeat' split)
      all_goals first | rfl | (exfalso; omega) | simp_all
    | some v =>
      have hv := hf v a7
      cases a8 : secV (some v)
      all_goals
        simp_all only [a5, a6, a7, a8, oS, oI, isNb_s, isNb_oI, Option.isNone, s_sec_s hv, if_true, if_false, true_or, or_true, reduceCtorEq, or_self, ↓ixE0, ↓ixE1, ↓ixE2, ↓ixE3, ↓ixE4, ↓ixQ0, ↓ixQ1, ↓ixQ2, ↓ixQ3, ↓ixQ4, ↓ixR0, ↓ixR1, ↓ixR2, ↓ixR3, ↓bindE, ↓bindR, ↓wWt_F, ↓add_FF]
        (repeat' (first | intro _ | refine And.intro ?_ ?_))
        all_goals (repeat' split)
        all_goals first | rfl | (exfalso; omega) | simp_all))
end Ow
set_option Elab.async false
set_option linter.all false
set_option maxRecDepth 100000
set_option maxHeartbeats 4000000
namespace Ow
open PySem L2
variable {Q : PyData → Prop}
theorem s_judge0 {me : Str} {fs : Flds} {o : Option (Bool × Str)} {m : Option Int} {i : Int} (h : Small fs) : wP F_judge [.d (.str me), .d (eF fs), .d (eTag o), .d (oI m), .d (.int i)] Q ↔ Q (.tuple [.int (jdV me fs o m i).1, .bool (jdV me fs o m i).2]) := s_judge h
def capI (i : Int) : Int := if 2147483648 < i then 2147483648 else i
noncomputable def restV (e : En) (n : Int) : Flds := woV e.rs.fs ["age"] ++ ([("age", Str.ofString (toString (capI (ageV e n))))] : Flds)
def toldN : List Str := ["date", "etag", "last-modified", "cache-control", "vary", "expires", "age"]
noncomputable def shV (e : En) (q : Rq) (n : Int) : Rp :=
  if (jdV "GET" q.fs (tvV e.rs.fs) (dofV e.rs.fs "last-modified" e.cm) n).1 = 304 then ⟨304, (restV e n).filter fun p => toldN.any fun m => decide (m = p.1), []⟩ else ⟨e.rs.st, restV e n, e.rs.bd⟩
theorem cap_ok {i n : Int} (h : n ≤ i) (hn : 0 ≤ n) : (capI i).natAbs.log2 < 1920 := by
  have h1 : 0 ≤ capI i ∧ capI i ≤ 2147483648 := by unfold capI; split <;> omega
  have h2 : (capI i).natAbs < 2 ^ 1920 := Nat.lt_of_le_of_lt (show (capI i).natAbs ≤ 2147483648 by omega) (by decide +kernel)
  rcases Nat.eq_zero_or_pos (capI i).natAbs with e | e
  · rw [e]; decide
  · exact (Nat.log2_lt (by omega)).mpr h2
theorem rest_len {e : En} {n : Int} (h : Small e.rs.fs) : (restV e n).length ≤ 1001 := by
  unfold restV
  rw [List.length_append]
  have := wo_len e.rs.fs ["age"]
  have := h.len
  simp only [List.length_cons, List.length_nil]
  omega
theorem s_shown {e : En} {q : Rq} {n : Int} (hq : q.me = "GET") (h1 : Small q.fs) (h2 : Small e.rs.fs) (hn : e.cm ≤ n) : wP F_shown [.d (eE e), .d (eQ q), .d (.int n)] Q ↔ Q (eR (shV e q n)) := wP_eq (wP_of (by
  have hl := rest_len (n := n) h2
  have hc := cap_ok (age_le (e := e) (n := n) h2) (by omega)
  have hw : PyData.list [.str "age"] = .list ((["age"] : List Str).map .str) := rfl
  have hcap : ∀ i : Int, (if (2147483648 : Int) < i then (2147483648 : Int) else i) = capI i := fun _ => rfl
  have hadd : ∀ x : PyData, x = .tuple [.tuple [.str "age", .str (Str.ofString (toString (capI (ageV e n))))]] → x = eF ([("age", Str.ofString (toString (capI (ageV e n))))] : Flds) := fun x h => h
  have hl2 : (woV e.rs.fs ["age"]).length + 1 ≤ lim := by
    have := wo_len e.rs.fs ["age"]
    have := h2.len
    show _ ≤ 1000000
    omega
  rw [wP_D]
  simp_all only [F_shown, g_shown, hw, s_without_l h2.len, s_age h2, hcap, hc, ↓ixE0, ↓ixE1, ↓ixE2, ↓ixE3, ↓ixE4, ↓ixQ0, ↓ixQ1, ↓ixQ2, ↓ixQ3, ↓ixQ4, ↓ixR0, ↓ixR1, ↓ixR2, ↓ixR3, ↓bindE, ↓bindR, ↓wWt_F, ↓add_FF]
  rw [hadd _ rfl]
  simp_all only [hl2, s_tagval h2, s_modval h2, hq, s_judge0 h1, ↓ixE0, ↓ixE1, ↓ixE2, ↓ixE3, ↓ixE4, ↓ixQ0, ↓ixQ1, ↓ixQ2, ↓ixQ3, ↓ixQ4, ↓ixR0, ↓ixR1, ↓ixR2, ↓ixR3, ↓bindE, ↓bindR, ↓wWt_F, ↓add_FF]
  unfold shV
  refine ⟨fun hj => ?_, fun hj => ?_⟩
  · rw [if_pos hj]
    have hl3 : (restV e n).length ≤ lim := Nat.le_trans hl (by decide)
    have hr : woV e.rs.fs ["age"] ++ ([("age", Str.ofString (toString (capI (ageV e n))))] : Flds) = restV e n := rfl
    have ht : PyData.tuple [.str "date", .str "etag", .str "last-modified", .str "cache-control", .str "vary", .str "expires", .str "age"] = .tuple (toldN.map .str) := rfl
    rw [hr]
    simp_all only [List.length_map, hl3, ↓ixE0, ↓ixE1, ↓ixE2, ↓ixE3, ↓ixE4, ↓ixQ0, ↓ixQ1, ↓ixQ2, ↓ixQ3, ↓ixQ4, ↓ixR0, ↓ixR1, ↓ixR2, ↓ixR3, ↓bindE, ↓bindR, ↓wWt_F, ↓add_FF]
    rw [lc_run eP (fun p => toldN.any fun m => decide (m = p.1)) eP live_d (restV e n) fun p _ => ?_, wo_some]
    · simp_all only [↓ixE0, ↓ixE1, ↓ixE2, ↓ixE3, ↓ixE4, ↓ixQ0, ↓ixQ1, ↓ixQ2, ↓ixQ3, ↓ixQ4, ↓ixR0, ↓ixR1, ↓ixR2, ↓ixR3, ↓bindE, ↓bindR, ↓wWt_F, ↓add_FF]
      rfl
    · simp_all only [eP, wipe_n, wipe_c, ht, any_strs]
      exact any_strs (ns := toldN)
  · rw [if_neg hj]
    rfl))
theorem wo_one (fs : Flds) (n : Str) : woV fs [n] = fs.filter fun p => !decide (p.1 = n) := by
  unfold woV
  congr 1
  funext p
  rw [List.any_cons, List.any_nil, Bool.or_false]
  congr 1
  rw [decide_eq_decide]
  exact eq_comm
theorem s_law_shown {e : En} {q : Rq} {n : Int} (h1 : Small q.fs) (h2 : Small e.rs.fs) (hn : e.cm ≤ n) : wP F__law_shown [.d (eE e), .d (eQ q), .d (.int n)] Q ↔ Q (eR (shV e q n)) := wP_eq (wP_of (by
  have hl := rest_len (n := n) h2
  have hc := cap_ok (age_le (e := e) (n := n) h2) (by omega)
  have hcap : ∀ i : Int, (if (2147483648 : Int) < i then (2147483648 : Int) else i) = capI i := fun _ => rfl
  have h3 : e.rs.fs.length ≤ lim := Nat.le_trans h2.len (by decide)
  have hl2 : (woV e.rs.fs ["age"]).length + 1 ≤ lim := by
    have := wo_len e.rs.fs ["age"]
    have := h2.len
    show _ ≤ 1000000
    omega
  have hl3 : (restV e n).length ≤ lim := Nat.le_trans hl (by decide)
  rw [wP_D]
  simp_all only [F__law_shown, g__law_shown, List.length_map, h3, ↓ixE0, ↓ixE1, ↓ixE2, ↓ixE3, ↓ixE4, ↓ixQ0, ↓ixQ1, ↓ixQ2, ↓ixQ3, ↓ixQ4, ↓ixR0, ↓ixR1, ↓ixR2, ↓ixR3, ↓bindE, ↓bindR, ↓wWt_F, ↓add_FF]
  rw [lc_run eP (fun p => !decide (p.1 = "age")) eP live_d e.rs.fs fun p _ => ?_, wo_some]
  · rw [← wo_one]
    have hn64 : (2 : Int).natAbs < 2 ^ 64 := by decide +kernel
    have hp : (2 : Int) ^ (31 : Nat) = 2147483648 := by decide +kernel
    simp_all only [s_age h2, Int.reduceToNat, hn64, hp, hcap, hc, List.length_map, hl2, ↓ixE0, ↓ixE1, ↓ixE2, ↓ixE3, ↓ixE4, ↓ixQ0, ↓ixQ1, ↓ixQ2, ↓ixQ3, ↓ixQ4, ↓ixR0, ↓ixR1, ↓ixR2, ↓ixR3, ↓bindE, ↓bindR, ↓wWt_F, ↓add_FF]
    have hr : (woV e.rs.fs ["age"]).map eP ++ [PyData.tuple [.str "age", .str (Str.ofString (toString (capI (ageV e n))))]] = (restV e n).map eP := by
      unfold restV
      rw [List.map_append]
      rfl
    rw [hr]
    simp_all only [s_law_tag h2, s_law_modified h2, s_judge0 h1, List.length_map, hl3, ↓ixE0, ↓ixE1, ↓ixE2, ↓ixE3, ↓ixE4, ↓ixQ0, ↓ixQ1, ↓ixQ2, ↓ixQ3, ↓ixQ4, ↓ixR0, ↓ixR1, ↓ixR2, ↓ixR3, ↓bindE, ↓bindR, ↓wWt_F, ↓add_FF]
    unfold shV
    refine ⟨fun hj => ?_, fun hj => ?_⟩
    · rw [if_pos hj]
      rw [lc_run eP (fun p => toldN.any fun m => decide (m = p.1)) eP live_d (restV e n) fun p _ => ?_, wo_some]
      · simp_all only [↓ixE0, ↓ixE1, ↓ixE2, ↓ixE3, ↓ixE4, ↓ixQ0, ↓ixQ1, ↓ixQ2, ↓ixQ3, ↓ixQ4, ↓ixR0, ↓ixR1, ↓ixR2, ↓ixR3, ↓bindE, ↓bindR, ↓wWt_F, ↓add_FF]
        rfl
      · have ht : PyData.list [.str "date", .str "etag", .str "last-modified", .str "cache-control", .str "vary", .str "expires", .str "age"] = .list (toldN.map .str) := rfl
        simp_all only [eP, wipe_n, wipe_c, ht]
        exact any_strs (ns := toldN)
    · rw [if_neg hj]
      rfl
  · simp_all only [eP, wipe_n, wipe_c]))
/-! ### checking, agreeing, passing on -/
noncomputable def ckV (e : En) : Option (Str × Str) :=
  if (tvV e.rs.fs).isSome then some ("if-none-match", (vals e.rs.fs "etag").headD Str.empty) else if (dofV e.rs.fs "last-modified" e.cm).isSome then some ("if-modified-since", (vals e.rs.fs "last-modified").headD Str.empty) else none
def eCk : Option (Str × Str) → PyData
  | none => .none
  | some p => eP p
theorem tv_head {fs : Flds} (h : (tvV fs).isNone = false) : ∃ x, vals fs "etag" = [x] := by
  unfold tvV at h
  split at h
  · rename_i x e; exact ⟨x, e⟩
  · cases h
theorem dof_head {fs : Flds} {n : Str} {c : Int} (h : (dofV fs n c).isNone = false) : ∃ x, vals fs n = [x] := by
  unfold dofV at h
  split at h
  · rename_i x e; exact ⟨x, e⟩
  · cases h
theorem some_not_none {α : Type} {o : Option α} : o.isSome = !o.isNone := by cases o <;> rfl
theorem s_checking {e : En} (h : Small e.rs.fs) : wP F_checking [.d (eE e)] Q ↔ Q (eCk (ckV e)) := wP_eq (wP_of (by
  rw [wP_D]
  simp_all only [F_checking, g_checking, s_tagval h, s_modval h, s_values h.len, isNb_eTag, isNb_oI, ↓ixE0, ↓ixE1, ↓ixE2, ↓ixE3, ↓ixE4, ↓ixQ0, ↓ixQ1, ↓ixQ2, ↓ixQ3, ↓ixQ4, ↓ixR0, ↓ixR1, ↓ixR2, ↓ixR3, ↓bindE, ↓bindR, ↓wWt_F, ↓add_FF]
  unfold ckV
  rw [some_not_none, some_not_none]
  refine ⟨fun h1 => ?_, fun h1 => ⟨fun h2 => ?_, fun h2 => ?_⟩⟩
  · obtain ⟨x, e1⟩ := tv_head h1
    have e1 : vals e.rs.fs (Str.ofString "etag") = [x] := e1
    simp_all only [h1, e1, o_ix_l0, ↓ixE0, ↓ixE1, ↓ixE2, ↓ixE3, ↓ixE4, ↓ixQ0, ↓ixQ1, ↓ixQ2, ↓ixQ3, ↓ixQ4, ↓ixR0, ↓ixR1, ↓ixR2, ↓ixR3, ↓bindE, ↓bindR, ↓wWt_F, ↓add_FF]
    rfl
  · obtain ⟨x, e1⟩ := dof_head h2
    have e1 : vals e.rs.fs (Str.ofString "last-modified") = [x] := e1
    have h2 : (dofV e.rs.fs "last-modified" e.cm).isNone = false := h2
    simp_all only [h1, h2, e1, o_ix_l0, Bool.false_eq_true, ↓ixE0, ↓ixE1, ↓ixE2, ↓ixE3, ↓ixE4, ↓ixQ0, ↓ixQ1, ↓ixQ2, ↓ixQ3, ↓ixQ4, ↓ixR0, ↓ixR1, ↓ixR2, ↓ixR3, ↓bindE, ↓bindR, ↓wWt_F, ↓add_FF]
    rfl
  · have h2 : (dofV e.rs.fs "last-modified" e.cm).isNone = true := h2
    simp_all only [h1, h2, Bool.false_eq_true, ↓ixE0, ↓ixE1, ↓ixE2, ↓ixE3, ↓ixE4, ↓ixQ0, ↓ixQ1, ↓ixQ2, ↓ixQ3, ↓ixQ4, ↓ixR0, ↓ixR1, ↓ixR2, ↓ixR3, ↓bindE, ↓bindR, ↓wWt_F, ↓add_FF]
    rfl))
noncomputable def agV (a b : Flds) : Bool := match tvV a, tvV b with
  | some x, some y => smB x y
  | _, _ => false
theorem s_agree {a b : Rp} (h1 : Small a.fs) (h2 : Small b.fs) : wP F_agree [.d (eR a), .d (eR b)] Q ↔ Q (.bool (agV a.fs b.fs)) := wP_eq (wP_of (by
  rw [wP_D]
  simp_all only [F_agree, g_agree, s_tagval h1, s_tagval h2, isNb_eTag, ↓ixE0, ↓ixE1, ↓ixE2, ↓ixE3, ↓ixE4, ↓ixQ0, ↓ixQ1, ↓ixQ2, ↓ixQ3, ↓ixQ4, ↓ixR0, ↓ixR1, ↓ixR2, ↓ixR3, ↓bindE, ↓bindR, ↓wWt_F, ↓add_FF]
  unfold agV
  cases tvV a.fs with
  | none => simp_all only [Option.isNone, ↓ixE0, ↓ixE1, ↓ixE2, ↓ixE3, ↓ixE4, ↓ixQ0, ↓ixQ1, ↓ixQ2, ↓ixQ3, ↓ixQ4, ↓ixR0, ↓ixR1, ↓ixR2, ↓ixR3, ↓bindE, ↓bindR, ↓wWt_F, ↓add_FF]
  | some x =>
    cases tvV b.fs with
    | none => simp_all only [Option.isNone, ↓ixE0, ↓ixE1, ↓ixE2, ↓ixE3, ↓ixE4, ↓ixQ0, ↓ixQ1, ↓ixQ2, ↓ixQ3, ↓ixQ4, ↓ixR0, ↓ixR1, ↓ixR2, ↓ixR3, ↓bindE, ↓bindR, ↓wWt_F, ↓add_FF]
    | some y => simp_all only [Option.isNone, s_strong, ↓ixE0, ↓ixE1, ↓ixE2, ↓ixE3, ↓ixE4, ↓ixQ0, ↓ixQ1, ↓ixQ2, ↓ixQ3, ↓ixQ4, ↓ixR0, ↓ixR1, ↓ixR2, ↓ixR3, ↓bindE, ↓bindR, ↓wWt_F, ↓add_FF]))
theorem s_same_tag {e : En} {b : Rp} (h1 : Small e.rs.fs) (h2 : Small b.fs) : wP F__law_same_tag [.d (eE e), .d (eR b)] Q ↔ Q (.bool (agV e.rs.fs b.fs)) := wP_eq (wP_of (by
  rw [wP_D]
  simp_all only [F__law_same_tag, g__law_same_tag, s_law_tag h1, s_law_tag h2, isNb_eTag, ↓ixE0, ↓ixE1, ↓ixE2, ↓ixE3, ↓ixE4, ↓ixQ0, ↓ixQ1, ↓ixQ2, ↓ixQ3, ↓ixQ4, ↓ixR0, ↓ixR1, ↓ixR2, ↓ixR3, ↓bindE, ↓bindR, ↓wWt_F, ↓add_FF]
  unfold agV
  cases tvV e.rs.fs with
  | none => simp_all only [Option.isNone, ↓ixE0, ↓ixE1, ↓ixE2, ↓ixE3, ↓ixE4, ↓ixQ0, ↓ixQ1, ↓ixQ2, ↓ixQ3, ↓ixQ4, ↓ixR0, ↓ixR1, ↓ixR2, ↓ixR3, ↓bindE, ↓bindR, ↓wWt_F, ↓add_FF]
  | some x =>
    cases tvV b.fs with
    | none => simp_all only [Option.isNone, ↓ixE0, ↓ixE1, ↓ixE2, ↓ixE3, ↓ixE4, ↓ixQ0, ↓ixQ1, ↓ixQ2, ↓ixQ3, ↓ixQ4, ↓ixR0, ↓ixR1, ↓ixR2, ↓ixR3, ↓bindE, ↓bindR, ↓wWt_F, ↓add_FF]
    | some y =>
      simp_all only [Option.isNone, eTag, ↓ixE0, ↓ixE1, ↓ixE2, ↓ixE3, ↓ixE4, ↓ixQ0, ↓ixQ1, ↓ixQ2, ↓ixQ3, ↓ixQ4, ↓ixR0, ↓ixR1, ↓ixR2, ↓ixR3, ↓bindE, ↓bindR, ↓wWt_F, ↓add_FF]
      unfold smB
      cases x.1 <;> cases y.1 <;> simp))
def passN : List Str := ["range", "if-range", "if-match", "if-unmodified-since"]
def knowN : List Str := ["if-none-match", "if-modified-since"]
noncomputable def passV (q : Rq) : Bool := !decide (q.me = "GET") || (hasV q.fs passN || (ruV q.fs "no-store").1)
theorem s_passed {q : Rq} (h : Small q.fs) : wP F_is_passed_on [.d (eQ q)] Q ↔ Q (.bool (passV q)) := wP_eq (wP_of (by
  have hp : PyData.tuple [.str "range", .str "if-range", .str "if-match", .str "if-unmodified-since"] = .tuple (passN.map .str) := rfl
  rw [wP_D]
  simp_all only [F_is_passed_on, g_is_passed_on, hp, s_has_one h, s_rds h, s_directive, ru_eq, eBo, ↓ixE0, ↓ixE1, ↓ixE2, ↓ixE3, ↓ixE4, ↓ixQ0, ↓ixQ1, ↓ixQ2, ↓ixQ3, ↓ixQ4, ↓ixR0, ↓ixR1, ↓ixR2, ↓ixR3, ↓bindE, ↓bindR, ↓wWt_F, ↓add_FF]
  unfold passV
  have e0 : (q.me = Str.ofString "GET") = (q.me = "GET") := rfl
  by_cases hg : q.me = "GET"
  · cases h1 : hasV q.fs passN <;> simp [hg]
  · simp [hg]))
end Ow
set_option Elab.async false
set_option linter.all false
set_option maxRecDepth 100000
set_option maxHeartbeats 4000000
namespace Ow
open PySem L2
variable {Q : DV → Mem → Prop}
/-! ### rows -/
abbrev Row : Type := Int × En
def eRow (r : Row) : PyData := .tuple [.int r.1, eE r.2]
def eRows (rs : List Row) : PyData := .list (rs.map eRow)
structure SmallE (e : En) : Prop where
  f : Small e.fs
  r : Small e.rs.fs
theorem ixW0 {r : Row} {P : PyData → Prop} : wo (ixF (eRow r) (.int 0)) P ↔ P (.int r.1) := o_ix_t0
theorem ixW1 {r : Row} {P : PyData → Prop} : wo (ixF (eRow r) (.int 1)) P ↔ P (eE r.2) := o_ix_t1
noncomputable def fitsV (e : En) (q : Rq) : Bool := bV F_fits [.d (eE e), .d (eQ q)]
theorem s_fitsV {e : En} {q : Rq} {P : PyData → Prop} (h1 : SmallE e) (h2 : Small q.fs) : wP F_fits [.d (eE e), .d (eQ q)] P ↔ P (.bool (fitsV e q)) := s_fits h1.f h2 h1.r
noncomputable def better (b r : Row) : Bool := if rankV b.2 = rankV r.2 then decide (b.1 < r.1) else decide (rankV b.2 < rankV r.2)
noncomputable def stepV (q : Rq) (best : Option Row) (r : Row) : Option Row := if fitsV r.2 q = true then (match best with
  | none => some r
  | some b => if better b r = true then some r else some b) else best
noncomputable def bestV (q : Rq) (rows : List Row) : Option Row := rows.foldl (stepV q) none
theorem best_mem {q : Rq} {rows : List Row} {b : Row} (h : bestV q rows = some b) : b ∈ rows := by
  have key : ∀ (rows : List Row) (o : Option Row), rows.foldl (stepV q) o = some b → o = some b ∨ b ∈ rows := by
    intro rows
    induction rows with
    | nil => intro o h; exact .inl h
    | cons r rows ih =>
      intro o h
      rcases ih _ h with e | e
      · unfold stepV at e
        split at e
        · split at e
          · cases e; exact .inr List.mem_cons_self
          · split at e
            · cases e; exact .inr List.mem_cons_self
            · exact .inl e
        · exact .inl e
      · exact .inr (List.mem_cons_of_mem _ e)
  rcases key rows none h with e | e
  · cases e
  · exact e
def moved (rows : List Row) (b : Row) : List Row := rows.filter (fun r => !decide (r.1 = b.1)) ++ [b]
/-! ### the law's dict -/
def stO (rows : List Row) (k room : Int) : MO := .dic [("rows", eRows rows), ("number", .int k), ("room", .int room)]
theorem n_rn : ¬ (Str.ofString "rows" = Str.ofString "number") := by decide +kernel
theorem n_rm : ¬ (Str.ofString "rows" = Str.ofString "room") := by decide +kernel
theorem n_nm : ¬ (Str.ofString "number" = Str.ofString "room") := by decide +kernel
section
variable {a b c v : PyData} {P : PyData → Prop}
theorem dk_rows : wo (lookK [("rows", a), ("number", b), ("room", c)] "rows") P ↔ P a := wo_eq (by simp [lookK])
theorem dk_number : wo (lookK [("rows", a), ("number", b), ("room", c)] "number") P ↔ P b := wo_eq (by simp [lookK, n_rn])
theorem dk_room : wo (lookK [("rows", a), ("number", b), ("room", c)] "room") P ↔ P c := wo_eq (by simp [lookK, n_rm, n_nm])
theorem pk_rows : putKD [("rows", a), ("number", b), ("room", c)] "rows" v = ([("rows", v), ("number", b), ("room", c)] : List (Str × PyData)) := by simp [putKD, Ne.symm n_rn, Ne.symm n_rm]
theorem pk_number : putKD [("rows", a), ("number", b), ("room", c)] "number" v = ([("rows", a), ("number", v), ("room", c)] : List (Str × PyData)) := by simp [putKD, n_rn, Ne.symm n_nm]
theorem dic_0 {kvs : List (Str × PyData)} {r : Mem} {P : List (Str × PyData) → Prop} : wo (dicAt (.dic kvs :: r) 0) P ↔ P kvs := wo_some
end
theorem drop1 {α : Type} {l : List α} (h : 0 < l.length) : (l.drop (HT.sIx l.length 0 (some 1))).take (HT.sIx l.length l.length none - HT.sIx l.length 0 (some 1)) = l.drop 1 := by
  have e : HT.sIx l.length 0 (some 1) = 1 := by
    show (if (1 : Int) < 0 then ((1 : Int) + (l.length : Int)).toNat else min (1 : Int).toNat l.length) = 1
    rw [if_neg (by decide)]
    show min 1 l.length = 1
    omega
  rw [e, HT.sIx_none]
  exact List.take_of_length_le (by rw [List.length_drop]; exact Nat.le_refl _)
noncomputable def putV (room : Int) (k : Int) (rows : List Row) (e : En) : List Row :=
  let r1 := rows.filter (fun r => !fitsV r.2 ⟨"GET", e.tg, e.fs⟩) ++ [(k, e)]
  if room < r1.length then r1.drop 1 else r1
theorem eQ_get {e : En} : PyData.tuple [.str "GET", eT e.tg, eF e.fs, .tuple [], .tuple []] = eQ ⟨"GET", e.tg, e.fs⟩ := rfl
theorem s_law_put {rows : List Row} {k room : Int} {e : En} (hs : ∀ r ∈ rows, SmallE r.2) (he : SmallE e) (hl : rows.length ≤ 1000) (hQ : Q (.d .none) [stO (putV room (k + 1) rows e) (k + 1) room]) : wD F__law_put [.r 0, .d (eE e)] [stO rows k room] Q := by
  have h1 : rows.length ≤ lim := Nat.le_trans hl (by decide)
  have h3 : (3 : Nat) < 100 := by decide
  simp_all only [g__law_put, F__law_put, stO, eQ_get, eRows, dic_0, dk_rows, List.length_map, h1, ↓ixE0, ↓ixE1, ↓ixE2, ↓ixE3, ↓ixE4, ↓ixQ0, ↓ixQ1, ↓ixQ2, ↓ixQ3, ↓ixQ4, ↓ixR0, ↓ixR1, ↓ixR2, ↓ixR3, ↓bindE, ↓bindR, ↓wWt_F, ↓add_FF]
  rw [lc_run eRow (fun r => !fitsV r.2 ⟨"GET", e.tg, e.fs⟩) eRow live_d rows fun r hr => ?_, wo_some]
  · generalize hg : rows.filter (fun r => !fitsV r.2 ⟨"GET", e.tg, e.fs⟩) = g
    have hf : g.length + 1 ≤ lim := by
      have := List.length_filter_le (fun r => !fitsV r.2 ⟨"GET", e.tg, e.fs⟩) rows
      rw [hg] at this
      show _ ≤ 1000000
      omega
    have hr1 : g.map eRow ++ [PyData.tuple [.int (k + 1), eE e]] = (g ++ [(k + 1, e)]).map eRow := by rw [List.map_append]; rfl
    have hp : putV room (k + 1) rows e = if room < ((g ++ [(k + 1, e)]).length : Int) then (g ++ [(k + 1, e)]).drop 1 else g ++ [(k + 1, e)] := by unfold putV; rw [hg]
    have hd : ((g ++ [(k + 1, e)]).map eRow).length = (g ++ [(k + 1, e)]).length := List.length_map _
    have h1' := drop1 (l := (g ++ [(k + 1, e)]).map eRow) (by rw [hd, List.length_append]; simp)
    simp_all only [dic_0, dk_rows, dk_number, dk_room, pk_rows, pk_number, List.length_map, List.length_append, hf, h3, ↓ixE0, ↓ixE1, ↓ixE2, ↓ixE3, ↓ixE4, ↓ixQ0, ↓ixQ1, ↓ixQ2, ↓ixQ3, ↓ixQ4, ↓ixR0, ↓ixR1, ↓ixR2, ↓ixR3, ↓bindE, ↓bindR, ↓wWt_F, ↓add_FF]
    rw [hr1]
    rw [hd] at h1'
    have hlen : (g ++ [(k + 1, e)]).length = g.length + 1 := by rw [List.length_append]; rfl
    rw [hlen] at hp h1'
    rw [hp] at hQ
    simp_all only [List.length_map, hlen, h1', dic_0, dk_rows, pk_rows, h3, ↓ixE0, ↓ixE1, ↓ixE2, ↓ixE3, ↓ixE4, ↓ixQ0, ↓ixQ1, ↓ixQ2, ↓ixQ3, ↓ixQ4, ↓ixR0, ↓ixR1, ↓ixR2, ↓ixR3, ↓bindE, ↓bindR, ↓wWt_F, ↓add_FF]
    refine ⟨fun hroom => ?_, fun hroom => ?_⟩
    · rw [if_pos hroom] at hQ
      rw [← List.map_drop]
      exact hQ
    · rw [if_neg hroom] at hQ
      exact hQ
  · simp_all only [wipe_n, wipe_c, ixW1, s_fitsV (hs r hr) (show Small (⟨"GET", e.tg, e.fs⟩ : Rq).fs from he.f), ↓ixE0, ↓ixE1, ↓ixE2, ↓ixE3, ↓ixE4, ↓ixQ0, ↓ixQ1, ↓ixQ2, ↓ixQ3, ↓ixQ4, ↓ixR0, ↓ixR1, ↓ixR2, ↓ixR3, ↓bindE, ↓bindR, ↓wWt_F, ↓add_FF]
/-! ### find -/
def eBest : Option Row → PyData
  | none => .none
  | some r => eRow r
theorem isNb_best {o : Option Row} : isNb (eBest o) = o.isNone := by cases o <;> rfl
theorem better_law {b r : Row} (h : rankV b.2 < rankV r.2) : better b r = true := by
  unfold better
  rw [if_neg (by omega)]
  exact decide_eq_true h
theorem better_law2 {b r : Row} (h : ¬ rankV b.2 < rankV r.2) (h2 : rankV r.2 = rankV b.2) : better b r = decide (b.1 < r.1) := by
  unfold better
  rw [if_pos h2.symm]
theorem better_law3 {b r : Row} (h : ¬ rankV b.2 < rankV r.2) (h2 : ¬ rankV r.2 = rankV b.2) : better b r = false := by
  unfold better
  rw [if_neg (fun e => h2 e.symm)]
  exact decide_eq_false h
theorem s_law_find {rows : List Row} {k room : Int} {q : Rq} (hs : ∀ r ∈ rows, SmallE r.2) (hq : Small q.fs) (hl : rows.length ≤ 1000)
    (h0 : bestV q rows = none → Q (.d .none) [stO rows k room]) (h1 : ∀ b, bestV q rows = some b → Q (.d (eE b.2)) [stO (moved rows b) k room]) : wD F__law_find [.r 0, .d (eQ q)] [stO rows k room] Q := by
  have hll : rows.length ≤ lim := Nat.le_trans hl (by decide)
  have h3 : (3 : Nat) < 100 := by decide
  simp_all only [g__law_find, F__law_find, stO, eRows, dic_0, dk_rows, List.length_map, ↓ixE0, ↓ixE1, ↓ixE2, ↓ixE3, ↓ixE4, ↓ixQ0, ↓ixQ1, ↓ixQ2, ↓ixQ3, ↓ixQ4, ↓ixR0, ↓ixR1, ↓ixR2, ↓ixR3, ↓bindE, ↓bindR, ↓wWt_F, ↓add_FF]
  refine for_run eRow (fun rest ds M => M = [stO rows k room] ∧ (∃ best o, (∀ b, best = some b → SmallE b.2) ∧ ds = [some (.r 0), some (.d (eQ q)), some (.d (eBest best)), o] ∧ rest.foldl (stepV q) best = bestV q rows) ∧ ∀ r ∈ rest, SmallE r.2) (fun _ _ _ _ => live_d) ?_ ?_ rows _ _ ⟨rfl, ⟨none, _, nofun, rfl, rfl⟩, hs⟩
  · rintro r rest ds M ⟨rfl, ⟨best, o, hb, rfl, e⟩, hr⟩
    have hsr := hr r List.mem_cons_self
    rw [List.foldl_cons] at e
    simp_all only [ixW1, ixW0, s_fitsV hsr hq, isNb_best, ↓ixE0, ↓ixE1, ↓ixE2, ↓ixE3, ↓ixE4, ↓ixQ0, ↓ixQ1, ↓ixQ2, ↓ixQ3, ↓ixQ4, ↓ixR0, ↓ixR1, ↓ixR2, ↓ixR3, ↓bindE, ↓bindR, ↓wWt_F, ↓add_FF]
    refine ⟨fun hf => ?_, fun hf => ?_⟩
    · cases best with
      | none =>
        simp_all only [Option.isNone, ↓ixE0, ↓ixE1, ↓ixE2, ↓ixE3, ↓ixE4, ↓ixQ0, ↓ixQ1, ↓ixQ2, ↓ixQ3, ↓ixQ4, ↓ixR0, ↓ixR1, ↓ixR2, ↓ixR3, ↓bindE, ↓bindR, ↓wWt_F, ↓add_FF]
        refine ⟨⟨some r, _, fun b e => by cases e; exact hsr, rfl, ?_⟩, fun x hx => hr x (List.mem_cons_of_mem _ hx)⟩
        unfold stepV at e
        rw [if_pos hf] at e
        exact e
      | some b =>
        have hsb := hb b rfl
        unfold stepV at e
        rw [if_pos hf] at e
        have e : rest.foldl (stepV q) (if better b r = true then some r else some b) = bestV q rows := e
        simp_all only [Option.isNone, eBest, ixW1, ixW0, s_law_rank hsr.r, s_law_rank hsb.r, ↓ixE0, ↓ixE1, ↓ixE2, ↓ixE3, ↓ixE4, ↓ixQ0, ↓ixQ1, ↓ixQ2, ↓ixQ3, ↓ixQ4, ↓ixR0, ↓ixR1, ↓ixR2, ↓ixR3, ↓bindE, ↓bindR, ↓wWt_F, ↓add_FF]
        refine ⟨fun h => ⟨⟨some r, _, fun b e => by cases e; exact hsr, rfl, ?_⟩, fun x hx => hr x (List.mem_cons_of_mem _ hx)⟩, fun h => ⟨fun h2 => ⟨fun h4 => ⟨⟨some r, _, fun b e => by cases e; exact hsr, rfl, ?_⟩, fun x hx => hr x (List.mem_cons_of_mem _ hx)⟩, fun h4 => ⟨⟨some b, _, fun b e => by cases e; exact hsb, rfl, ?_⟩, fun x hx => hr x (List.mem_cons_of_mem _ hx)⟩⟩, fun h2 => ⟨⟨some b, _, fun b e => by cases e; exact hsb, rfl, ?_⟩, fun x hx => hr x (List.mem_cons_of_mem _ hx)⟩⟩⟩
        · rw [better_law h, if_pos rfl] at e; exact e
        · rw [better_law2 h h2, if_pos (decide_eq_true h4)] at e; exact e
        · rw [better_law2 h h2, decide_eq_false h4, if_neg Bool.false_ne_true] at e; exact e
        · rw [better_law3 h h2, if_neg Bool.false_ne_true] at e; exact e
    · refine ⟨⟨best, _, hb, rfl, ?_⟩, fun x hx => hr x (List.mem_cons_of_mem _ hx)⟩
      unfold stepV at e
      rw [if_neg (by rw [hf]; exact Bool.false_ne_true)] at e
      exact e
  · rintro ds M ⟨rfl, ⟨best, o, hb, rfl, e⟩, hr⟩
    have e : best = bestV q rows := e
    simp_all only [isNb_best, ↓ixE0, ↓ixE1, ↓ixE2, ↓ixE3, ↓ixE4, ↓ixQ0, ↓ixQ1, ↓ixQ2, ↓ixQ3, ↓ixQ4, ↓ixR0, ↓ixR1, ↓ixR2, ↓ixR3, ↓bindE, ↓bindR, ↓wWt_F, ↓add_FF]
    cases best with
    | none =>
      simp_all only [Option.isNone, ↓ixE0, ↓ixE1, ↓ixE2, ↓ixE3, ↓ixE4, ↓ixQ0, ↓ixQ1, ↓ixQ2, ↓ixQ3, ↓ixQ4, ↓ixR0, ↓ixR1, ↓ixR2, ↓ixR3, ↓bindE, ↓bindR, ↓wWt_F, ↓add_FF]
      exact h0 e.symm
    | some b =>
      simp_all only [Option.isNone, stO, eRows, eBest, dic_0, dk_rows, pk_rows, List.length_map, hll, ixW0, ixW1, ↓ixE0, ↓ixE1, ↓ixE2, ↓ixE3, ↓ixE4, ↓ixQ0, ↓ixQ1, ↓ixQ2, ↓ixQ3, ↓ixQ4, ↓ixR0, ↓ixR1, ↓ixR2, ↓ixR3, ↓bindE, ↓bindR, ↓wWt_F, ↓add_FF]
      rw [lc_run eRow (fun r => !decide (r.1 = b.1)) eRow live_d rows fun r hr => ?_, wo_some]
      · have hf : (rows.filter fun r => !decide (r.1 = b.1)).length + 1 ≤ lim := by
          have := List.length_filter_le (fun r : Row => !decide (r.1 = b.1)) rows
          show _ ≤ 1000000
          omega
        simp_all only [hf, h3, dic_0, pk_rows, List.length_map, ixW1, ↓ixE0, ↓ixE1, ↓ixE2, ↓ixE3, ↓ixE4, ↓ixQ0, ↓ixQ1, ↓ixQ2, ↓ixQ3, ↓ixQ4, ↓ixR0, ↓ixR1, ↓ixR2, ↓ixR3, ↓bindE, ↓bindR, ↓wWt_F, ↓add_FF]
        rw [show (rows.filter fun r => !decide (r.1 = b.1)).map eRow ++ [eRow b] = (moved rows b).map eRow by unfold moved; rw [List.map_append]; rfl]
        exact h1 b e.symm
      · simp_all only [wipe_n, wipe_c, ixW0, ↓ixE0, ↓ixE1, ↓ixE2, ↓ixE3, ↓ixE4, ↓ixQ0, ↓ixQ1, ↓ixQ2, ↓ixQ3, ↓ixQ4, ↓ixR0, ↓ixR1, ↓ixR2, ↓ixR3, ↓bindE, ↓bindR, ↓wWt_F, ↓add_FF]
end Ow
set_option Elab.async false
set_option linter.all false
set_option maxRecDepth 100000
set_option maxHeartbeats 4000000
namespace Ow
open PySem L2
variable {Q : DV → Mem → Prop}
/-! ### fields of the program's objects -/
abbrev FL := List (Str × DV)
abbrev shF (room : Int) (dv : DV) : FL := [("_room", .d (.int room)), ("_rows", dv)]
abbrev tdF (rs : PyData) (a : Nat) : FL := [("_responses", .d rs), ("_asked", .r a)]
abbrev kpF (t s : Nat) : FL := [("_origin", .r t), ("_shelf", .r s)]
theorem lk2 {x y : Str} {a b : DV} (h : (y == x) = false) : List.lookup y [(x, a), (y, b)] = some b := by
  show (match y == x with
    | true => some a
    | false => (match y == y with
      | true => some b
      | false => none)) = some b
  rw [h, beq_self_eq_true]
theorem lk1 {x y : Str} {a b : DV} : List.lookup x [(x, a), (y, b)] = some a := by
  show (match x == x with
    | true => some a
    | false => _) = some a
  rw [beq_self_eq_true]
theorem lk0 {x y z : Str} {a b : DV} (h1 : (z == x) = false) (h2 : (z == y) = false) : List.lookup z [(x, a), (y, b)] = none := by
  show (match z == x with
    | true => some a
    | false => (match z == y with
      | true => some b
      | false => none)) = none
  rw [h1, h2]
section
variable {a b v : DV} {P : DV → Prop}
theorem lk_room : wo (List.lookup ("_room" : Str) ([("_room", a), ("_rows", b)] : FL)) P ↔ P a := wo_eq lk1
theorem lk_rows : wo (List.lookup ("_rows" : Str) ([("_room", a), ("_rows", b)] : FL)) P ↔ P b := wo_eq (lk2 (by decide +kernel))
theorem lk_resp : wo (List.lookup ("_responses" : Str) ([("_responses", a), ("_asked", b)] : FL)) P ↔ P a := wo_eq lk1
theorem lk_asked : wo (List.lookup ("_asked" : Str) ([("_responses", a), ("_asked", b)] : FL)) P ↔ P b := wo_eq (lk2 (by decide +kernel))
theorem lk_origin : wo (List.lookup ("_origin" : Str) ([("_origin", a), ("_shelf", b)] : FL)) P ↔ P a := wo_eq lk1
theorem lk_shelf : wo (List.lookup ("_shelf" : Str) ([("_origin", a), ("_shelf", b)] : FL)) P ↔ P b := wo_eq (lk2 (by decide +kernel))
theorem lk_find : (List.lookup ("find" : Str) ([("_room", a), ("_rows", b)] : FL) = none) = True := eq_true (lk0 (by decide +kernel) (by decide +kernel))
theorem lk_put : (List.lookup ("put" : Str) ([("_room", a), ("_rows", b)] : FL) = none) = True := eq_true (lk0 (by decide +kernel) (by decide +kernel))
theorem lk_drop : (List.lookup ("drop" : Str) ([("_room", a), ("_rows", b)] : FL) = none) = True := eq_true (lk0 (by decide +kernel) (by decide +kernel))
theorem lk_ents : (List.lookup ("entries" : Str) ([("_room", a), ("_rows", b)] : FL) = none) = True := eq_true (lk0 (by decide +kernel) (by decide +kernel))
theorem lk_answer : (List.lookup ("answer" : Str) ([("_responses", a), ("_asked", b)] : FL) = none) = True := eq_true (lk0 (by decide +kernel) (by decide +kernel))
theorem lk_askedm : (List.lookup ("asked" : Str) ([("_responses", a), ("_asked", b)] : FL) = none) = True := eq_true (lk0 (by decide +kernel) (by decide +kernel))
theorem lk_passon : (List.lookup ("pass_on" : Str) ([("_origin", a), ("_shelf", b)] : FL) = none) = True := eq_true (lk0 (by decide +kernel) (by decide +kernel))
theorem lk_check : (List.lookup ("check" : Str) ([("_origin", a), ("_shelf", b)] : FL) = none) = True := eq_true (lk0 (by decide +kernel) (by decide +kernel))
theorem lk_keep : (List.lookup ("keep" : Str) ([("_origin", a), ("_shelf", b)] : FL) = none) = True := eq_true (lk0 (by decide +kernel) (by decide +kernel))
theorem lk_ask : (List.lookup ("ask" : Str) ([("_origin", a), ("_shelf", b)] : FL) = none) = True := eq_true (lk0 (by decide +kernel) (by decide +kernel))
theorem lk_kents : (List.lookup ("entries" : Str) ([("_origin", a), ("_shelf", b)] : FL) = none) = True := eq_true (lk0 (by decide +kernel) (by decide +kernel))
theorem pd_rows : putD "_rows" v ([("_room", a), ("_rows", b)] : FL) = ([("_room", a), ("_rows", v)] : FL) := by
  have e : ¬ (Str.ofString "_room" = Str.ofString "_rows") := by decide +kernel
  simp [putD, e]
end
/-! ### what a field shows -/
theorem wW_of {M : Mem} {x : DV} {xs : List PyData} {R : DV → List PyData → Mem → Prop} (h : view M x = some (.list xs)) : wW x M R ↔ R x xs M := by
  cases x with
  | d x => cases h; exact wW_d
  | r n =>
    rw [wW_r]
    have h2 : wo (view M (.r n)) (fun z => z = .list xs) := ⟨_, h, rfl⟩
    rw [v_r] at h2
    obtain ⟨ys, e, e2⟩ := h2
    cases e2
    exact wo_eq e
  | a x => cases h
  | s x => cases h
theorem live_of {M : Mem} {x : DV} {xs : List PyData} (h : view M x = some (.list xs)) : live M x xs := by
  cases x with
  | d x => trivial
  | r n =>
    have h2 : wo (view M (.r n)) (fun z => z = .list xs) := ⟨_, h, rfl⟩
    rw [v_r] at h2
    obtain ⟨ys, e, e2⟩ := h2
    cases e2
    exact lstAt_ok e
  | a x => cases h
  | s x => cases h
theorem v_of {M : Mem} {x : DV} {z : PyData} {P : PyData → Prop} (h : view M x = some z) : wo (view M x) P ↔ P z := wo_eq h
/-! ### the shelf -/
theorem better_prog {b r : Row} : (if rankV b.2 = rankV r.2 then decide (b.1 < r.1) else decide (rankV b.2 < rankV r.2)) = better b r := rfl
theorem s_shelf_find {M : Mem} {n : Nat} {room : Int} {dv : DV} {rows : List Row} {q : Rq} (hM : M[n]? = some (.ins "Shelf" (shF room dv))) (hv : view M dv = some (eRows rows)) (hs : ∀ r ∈ rows, SmallE r.2) (hq : Small q.fs) (hl : rows.length ≤ 1000)
    (h0 : bestV q rows = none → Q (.d .none) M) (h1 : ∀ b, bestV q rows = some b → Q (.d (eE b.2)) (M.set n (.ins "Shelf" (shF room (.d (eRows (moved rows b))))))) : wD F_Shelf_find [.r n, .d (eQ q)] M Q := by
  have hll : rows.length ≤ lim := Nat.le_trans hl (by decide)
  have h3 : (2 : Nat) < 100 := by decide
  simp_all only [g_Shelf_find, F_Shelf_find, ins_of hM, lk_rows, wW_of hv, ↓ixE0, ↓ixE1, ↓ixE2, ↓ixE3, ↓ixE4, ↓ixQ0, ↓ixQ1, ↓ixQ2, ↓ixQ3, ↓ixQ4, ↓ixR0, ↓ixR1, ↓ixR2, ↓ixR3, ↓bindE, ↓bindR, ↓wWt_F, ↓add_FF]
  refine for_run eRow (fun rest ds M' => M' = M ∧ (∃ best o, (∀ b, best = some b → SmallE b.2) ∧ ds = [some (.r n), some (.d (eQ q)), some (.d (eBest best)), o] ∧ rest.foldl (stepV q) best = bestV q rows) ∧ ∀ r ∈ rest, SmallE r.2) (fun _ _ M' h => by rw [h.1]; exact live_of hv) ?_ ?_ rows _ _ ⟨rfl, ⟨none, _, nofun, rfl, rfl⟩, hs⟩
  · rintro r rest ds M' ⟨rfl, ⟨best, o, hb, rfl, e⟩, hr⟩
    have hsr := hr r List.mem_cons_self
    rw [List.foldl_cons] at e
    simp_all only [ixW1, ixW0, s_fitsV hsr hq, isNb_best, ↓ixE0, ↓ixE1, ↓ixE2, ↓ixE3, ↓ixE4, ↓ixQ0, ↓ixQ1, ↓ixQ2, ↓ixQ3, ↓ixQ4, ↓ixR0, ↓ixR1, ↓ixR2, ↓ixR3, ↓bindE, ↓bindR, ↓wWt_F, ↓add_FF]
    refine ⟨fun hf => ?_, fun hf => ?_⟩
    · cases best with
      | none =>
        simp_all only [Option.isNone, ↓ixE0, ↓ixE1, ↓ixE2, ↓ixE3, ↓ixE4, ↓ixQ0, ↓ixQ1, ↓ixQ2, ↓ixQ3, ↓ixQ4, ↓ixR0, ↓ixR1, ↓ixR2, ↓ixR3, ↓bindE, ↓bindR, ↓wWt_F, ↓add_FF]
        refine ⟨⟨some r, _, fun b e => by cases e; exact hsr, rfl, ?_⟩, fun x hx => hr x (List.mem_cons_of_mem _ hx)⟩
        unfold stepV at e
        rw [if_pos hf] at e
        exact e
      | some b =>
        have hsb := hb b rfl
        unfold stepV at e
        rw [if_pos hf] at e
        have e : rest.foldl (stepV q) (if better b r = true then some r else some b) = bestV q rows := e
        simp_all only [Option.isNone, eBest, ixW1, ixW0, s_date_rank hsr.r, s_date_rank hsb.r, better_prog, ↓ixE0, ↓ixE1, ↓ixE2, ↓ixE3, ↓ixE4, ↓ixQ0, ↓ixQ1, ↓ixQ2, ↓ixQ3, ↓ixQ4, ↓ixR0, ↓ixR1, ↓ixR2, ↓ixR3, ↓bindE, ↓bindR, ↓wWt_F, ↓add_FF]
        refine ⟨fun h => ⟨⟨some r, _, fun b e => by cases e; exact hsr, rfl, ?_⟩, fun x hx => hr x (List.mem_cons_of_mem _ hx)⟩, fun h => ⟨⟨some b, _, fun b e => by cases e; exact hsb, rfl, ?_⟩, fun x hx => hr x (List.mem_cons_of_mem _ hx)⟩⟩
        · rw [if_pos h] at e; exact e
        · rw [if_neg (by rw [h]; exact Bool.false_ne_true)] at e; exact e
    · refine ⟨⟨best, _, hb, rfl, ?_⟩, fun x hx => hr x (List.mem_cons_of_mem _ hx)⟩
      unfold stepV at e
      rw [if_neg (by rw [hf]; exact Bool.false_ne_true)] at e
      exact e
  · rintro ds M' ⟨rfl, ⟨best, o, hb, rfl, e⟩, hr⟩
    have e : best = bestV q rows := e
    simp_all only [isNb_best, ↓ixE0, ↓ixE1, ↓ixE2, ↓ixE3, ↓ixE4, ↓ixQ0, ↓ixQ1, ↓ixQ2, ↓ixQ3, ↓ixQ4, ↓ixR0, ↓ixR1, ↓ixR2, ↓ixR3, ↓bindE, ↓bindR, ↓wWt_F, ↓add_FF]
    cases best with
    | none =>
      simp_all only [Option.isNone, ↓ixE0, ↓ixE1, ↓ixE2, ↓ixE3, ↓ixE4, ↓ixQ0, ↓ixQ1, ↓ixQ2, ↓ixQ3, ↓ixQ4, ↓ixR0, ↓ixR1, ↓ixR2, ↓ixR3, ↓bindE, ↓bindR, ↓wWt_F, ↓add_FF]
      exact h0 e.symm
    | some b =>
      simp_all only [Option.isNone, eBest, ins_of hM, lk_rows, wW_of hv, List.length_map, hll, ixW0, ixW1, ↓ixE0, ↓ixE1, ↓ixE2, ↓ixE3, ↓ixE4, ↓ixQ0, ↓ixQ1, ↓ixQ2, ↓ixQ3, ↓ixQ4, ↓ixR0, ↓ixR1, ↓ixR2, ↓ixR3, ↓bindE, ↓bindR, ↓wWt_F, ↓add_FF]
      rw [lc_run eRow (fun r => !decide (r.1 = b.1)) eRow (live_of hv) rows fun r hr => ?_, wo_some]
      · have hf : (rows.filter fun r => !decide (r.1 = b.1)).length + 1 ≤ lim := by
          have := List.length_filter_le (fun r : Row => !decide (r.1 = b.1)) rows
          show _ ≤ 1000000
          omega
        simp_all only [hf, h3, ins_of hM, pd_rows, List.length_map, ixW1, ↓ixE0, ↓ixE1, ↓ixE2, ↓ixE3, ↓ixE4, ↓ixQ0, ↓ixQ1, ↓ixQ2, ↓ixQ3, ↓ixQ4, ↓ixR0, ↓ixR1, ↓ixR2, ↓ixR3, ↓bindE, ↓bindR, ↓wWt_F, ↓add_FF]
        rw [show (rows.filter fun r => !decide (r.1 = b.1)).map eRow ++ [eRow b] = (moved rows b).map eRow by unfold moved; rw [List.map_append]; rfl]
        exact h1 b e.symm
      · simp_all only [wipe_n, wipe_c, ixW0, ↓ixE0, ↓ixE1, ↓ixE2, ↓ixE3, ↓ixE4, ↓ixQ0, ↓ixQ1, ↓ixQ2, ↓ixQ3, ↓ixQ4, ↓ixR0, ↓ixR1, ↓ixR2, ↓ixR3, ↓bindE, ↓bindR, ↓wWt_F, ↓add_FF]
end Ow
set_option Elab.async false
set_option linter.all false
set_option maxRecDepth 100000
set_option maxHeartbeats 4000000
namespace Ow
open PySem L2
variable {Q : DV → Mem → Prop}
theorem ex_list {ys : List PyData} {P : List PyData → Prop} : (∃ xs, PyData.list ys = .list xs ∧ P xs) ↔ P ys := ⟨fun ⟨_, e, h⟩ => by cases e; exact h, fun h => ⟨ys, rfl, h⟩⟩
theorem intsO_rows : ∀ rs : List Row, intsO (rs.map fun r => PyData.int r.1) = some (rs.map (·.1))
  | [] => rfl
  | r :: rs => by
    show ((intsO (rs.map fun r => PyData.int r.1)).bind fun ys => some (r.1 :: ys)) = _
    rw [intsO_rows rs]
    rfl
/-- the store but for n -/
structure Ups (n : Nat) (M M' : Mem) : Prop where
  len : M.length ≤ M'.length
  at_ : ∀ m, m < M.length → m ≠ n → M'[m]? = M[m]?
theorem Ups.refl {n : Nat} {M : Mem} : Ups n M M := ⟨Nat.le_refl _, fun _ _ _ => rfl⟩
theorem Ups.trans {n : Nat} {M M1 M2 : Mem} (a : Ups n M M1) (b : Ups n M1 M2) : Ups n M M2 := ⟨Nat.le_trans a.len b.len, fun m h h2 => by rw [b.at_ m (Nat.lt_of_lt_of_le h a.len) h2, a.at_ m h h2]⟩
theorem Ups.set {n : Nat} {M : Mem} {o : MO} : Ups n M (M.set n o) := ⟨by rw [List.length_set]; exact Nat.le_refl _, fun m h h2 => List.getElem?_set_ne (fun e => h2 e.symm)⟩
theorem Ups.app {n : Nat} {M : Mem} {o : MO} : Ups n M (M ++ [o]) := ⟨by rw [List.length_append]; omega, fun m h h2 => List.getElem?_append_left h⟩
theorem Ups.set2 {n k : Nat} {M : Mem} {o : MO} (h : M.length ≤ k) : Ups n M (M.set k o) := ⟨by rw [List.length_set]; exact Nat.le_refl _, fun m h1 h2 => List.getElem?_set_ne (by omega)⟩
theorem at_lt {M : Mem} {n : Nat} {o : MO} (h : M[n]? = some o) : n < M.length := (List.getElem?_eq_some_iff.mp h).1
noncomputable def shPut (room : Int) (rows : List Row) (e : En) : List Row := putV room (1 + maxI 0 (rows.map (·.1))) rows e
theorem s_shelf_put {M : Mem} {n : Nat} {room : Int} {dv : DV} {rows : List Row} {e : En} (hM : M[n]? = some (.ins "Shelf" (shF room dv))) (hv : view M dv = some (eRows rows)) (hs : ∀ r ∈ rows, SmallE r.2) (he : SmallE e) (hl : rows.length ≤ 1000)
    (k : ∀ M' dv', Ups n M M' → (∀ m, dv' = .r m → M.length ≤ m) → M'[n]? = some (.ins "Shelf" (shF room dv')) → view M' dv' = some (eRows (shPut room rows e)) → Q (.d .none) M') : wD F_Shelf_put [.r n, .d (eE e)] M Q := by
  have hll : rows.length ≤ lim := Nat.le_trans hl (by decide)
  have h3 : (2 : Nat) < 100 := by decide
  have hn := at_lt hM
  simp_all only [g_Shelf_put, F_Shelf_put, eQ_get, ins_of hM, lk_rows, wW_of hv, List.length_map, hll, ↓ixE0, ↓ixE1, ↓ixE2, ↓ixE3, ↓ixE4, ↓ixQ0, ↓ixQ1, ↓ixQ2, ↓ixQ3, ↓ixQ4, ↓ixR0, ↓ixR1, ↓ixR2, ↓ixR3, ↓bindE, ↓bindR, ↓wWt_F, ↓add_FF]
  rw [lc_run eRow (fun _ => true) (fun r => .int r.1) (live_of hv) rows fun r hr => ?_, wo_some]
  · simp_all only [ft, ex_list, intsO_rows, wo_some, ins_of hM, lk_rows, wW_of hv, List.length_map, hll, ↓ixE0, ↓ixE1, ↓ixE2, ↓ixE3, ↓ixE4, ↓ixQ0, ↓ixQ1, ↓ixQ2, ↓ixQ3, ↓ixQ4, ↓ixR0, ↓ixR1, ↓ixR2, ↓ixR3, ↓bindE, ↓bindR, ↓wWt_F, ↓add_FF]
    rw [lc_run eRow (fun r => !fitsV r.2 ⟨"GET", e.tg, e.fs⟩) eRow (live_of hv) rows fun r hr => ?_, wo_some]
    · generalize hg : rows.filter (fun r => !fitsV r.2 ⟨"GET", e.tg, e.fs⟩) = g
      generalize hnum : 1 + maxI 0 (rows.map (·.1)) = num
      have hf : g.length + 1 ≤ lim ∧ g.length < lim := by
        have := List.length_filter_le (fun r => !fitsV r.2 ⟨"GET", e.tg, e.fs⟩) rows
        rw [hg] at this
        constructor
        · show _ ≤ 1000000
          omega
        · show _ < 1000000
          omega
      have i1 : (M ++ [MO.lst (g.map eRow)])[n]? = some (.ins "Shelf" (shF room dv)) := by rw [List.getElem?_append_left hn]; exact hM
      simp_all only [ins_of i1, pd_rows, h3, ↓ixE0, ↓ixE1, ↓ixE2, ↓ixE3, ↓ixE4, ↓ixQ0, ↓ixQ1, ↓ixQ2, ↓ixQ3, ↓ixQ4, ↓ixR0, ↓ixR1, ↓ixR2, ↓ixR3, ↓bindE, ↓bindR, ↓wWt_F, ↓add_FF]
      generalize hM1 : (M ++ [MO.lst (g.map eRow)]).set n (MO.ins "Shelf" (shF room (.r M.length))) = M1
      have l1 : M1.length = M.length + 1 := by rw [← hM1, List.length_set, List.length_append]; rfl
      have u1 : Ups n M M1 := by rw [← hM1]; exact Ups.trans .app .set
      have i2 : M1[n]? = some (.ins "Shelf" (shF room (.r M.length))) := by rw [← hM1, List.getElem?_set_self (by rw [List.length_append]; omega)]
      have j2 : M1[M.length]? = some (.lst (g.map eRow)) := by
        rw [← hM1, List.getElem?_set_ne (by omega), List.getElem?_append_right (Nat.le_refl _), Nat.sub_self]
        rfl
      have hM1' : (M ++ [MO.lst (g.map eRow)]).set n (MO.ins (Str.ofString "Shelf") [(Str.ofString "_room", DV.d (PyData.int room)), (Str.ofString "_rows", DV.r M.length)]) = M1 := hM1
      simp_all only [ins_of i2, lk_rows, lst_of j2, List.length_map, hf.2, ↓ixE0, ↓ixE1, ↓ixE2, ↓ixE3, ↓ixE4, ↓ixQ0, ↓ixQ1, ↓ixQ2, ↓ixQ3, ↓ixQ4, ↓ixR0, ↓ixR1, ↓ixR2, ↓ixR3, ↓bindE, ↓bindR, ↓wWt_F, ↓add_FF]
      have hr1 : g.map eRow ++ [PyData.tuple [.int num, eE e]] = (g ++ [(num, e)]).map eRow := by rw [List.map_append]; rfl
      rw [hr1]
      generalize hM2 : M1.set M.length (MO.lst ((g ++ [(num, e)]).map eRow)) = M2
      have u2 : Ups n M M2 := by rw [← hM2]; exact ⟨by rw [List.length_set]; exact u1.len, fun m h1 h2 => by rw [List.getElem?_set_ne (by omega)]; exact u1.at_ m h1 h2⟩
      have l2 : M2.length = M.length + 1 := by rw [← hM2, List.length_set, l1]
      have i3 : M2[n]? = some (.ins "Shelf" (shF room (.r M.length))) := by rw [← hM2, List.getElem?_set_ne (by omega)]; exact i2
      have j3 : M2[M.length]? = some (.lst ((g ++ [(num, e)]).map eRow)) := by rw [← hM2, List.getElem?_set_self (by omega)]
      have hd : ((g ++ [(num, e)]).map eRow).length = g.length + 1 := by simp
      have h1' := drop1 (l := (g ++ [(num, e)]).map eRow) (by rw [hd]; omega)
      rw [hd] at h1'
      have hp : shPut room rows e = if room < ((g.length + 1 : Nat) : Int) then (g ++ [(num, e)]).drop 1 else g ++ [(num, e)] := by
        unfold shPut putV
        rw [hg, hnum]
        simp
      simp_all only [ins_of i3, lk_rows, lk_room, lst_of j3, hd, h1', h3, pd_rows, ↓ixE0, ↓ixE1, ↓ixE2, ↓ixE3, ↓ixE4, ↓ixQ0, ↓ixQ1, ↓ixQ2, ↓ixQ3, ↓ixQ4, ↓ixR0, ↓ixR1, ↓ixR2, ↓ixR3, ↓bindE, ↓bindR, ↓wWt_F, ↓add_FF]
      refine ⟨fun hroom => ?_, fun hroom => ?_⟩
      · rw [if_pos hroom] at hp
        refine k _ (.d (.list (((g ++ [(num, e)]).map eRow).drop 1))) (u2.trans .set) (fun m e => by cases e) (by rw [List.getElem?_set_self (by omega)]) ?_
        rw [hp]
        unfold eRows
        rw [List.map_drop]
        rfl
      · rw [if_neg hroom] at hp
        refine k _ (.r M.length) u2 (fun m e => by cases e; exact Nat.le_refl _) i3 ?_
        rw [hp]
        show (match M2[M.length]? with
          | some (.lst xs) => some (PyData.list xs)
          | _ => none) = _
        rw [j3]
        rfl
    · simp_all only [wipe_n, wipe_c, ixW1, s_fitsV (hs r hr) (show Small (⟨"GET", e.tg, e.fs⟩ : Rq).fs from he.f), ↓ixE0, ↓ixE1, ↓ixE2, ↓ixE3, ↓ixE4, ↓ixQ0, ↓ixQ1, ↓ixQ2, ↓ixQ3, ↓ixQ4, ↓ixR0, ↓ixR1, ↓ixR2, ↓ixR3, ↓bindE, ↓bindR, ↓wWt_F, ↓add_FF]
  · simp_all only [wipe_n, wipe_c, ixW0, ↓ixE0, ↓ixE1, ↓ixE2, ↓ixE3, ↓ixE4, ↓ixQ0, ↓ixQ1, ↓ixQ2, ↓ixQ3, ↓ixQ4, ↓ixR0, ↓ixR1, ↓ixR2, ↓ixR3, ↓bindE, ↓bindR, ↓wWt_F, ↓add_FF]
theorem s_shelf_drop {M : Mem} {n : Nat} {room : Int} {dv : DV} {rows : List Row} {t : List Int} (hM : M[n]? = some (.ins "Shelf" (shF room dv))) (hv : view M dv = some (eRows rows)) (hl : rows.length ≤ 1000)
    (k : Q (.d .none) (M.set n (.ins "Shelf" (shF room (.d (eRows (rows.filter fun r => !PyData.eqv (eT r.2.tg) (eT t)))))))) : wD F_Shelf_drop [.r n, .d (eT t)] M Q := by
  have hll : rows.length ≤ lim := Nat.le_trans hl (by decide)
  have h3 : (2 : Nat) < 100 := by decide
  simp_all only [g_Shelf_drop, F_Shelf_drop, ins_of hM, lk_rows, wW_of hv, List.length_map, hll, ↓ixE0, ↓ixE1, ↓ixE2, ↓ixE3, ↓ixE4, ↓ixQ0, ↓ixQ1, ↓ixQ2, ↓ixQ3, ↓ixQ4, ↓ixR0, ↓ixR1, ↓ixR2, ↓ixR3, ↓bindE, ↓bindR, ↓wWt_F, ↓add_FF]
  rw [lc_run eRow (fun r => !PyData.eqv (eT r.2.tg) (eT t)) eRow (live_of hv) rows fun r hr => ?_, wo_some]
  · simp_all only [ins_of hM, pd_rows, h3, ↓ixE0, ↓ixE1, ↓ixE2, ↓ixE3, ↓ixE4, ↓ixQ0, ↓ixQ1, ↓ixQ2, ↓ixQ3, ↓ixQ4, ↓ixR0, ↓ixR1, ↓ixR2, ↓ixR3, ↓bindE, ↓bindR, ↓wWt_F, ↓add_FF]
    exact k
  · simp_all only [wipe_n, wipe_c, ixW1, shp_T, ↓ixE0, ↓ixE1, ↓ixE2, ↓ixE3, ↓ixE4, ↓ixQ0, ↓ixQ1, ↓ixQ2, ↓ixQ3, ↓ixQ4, ↓ixR0, ↓ixR1, ↓ixR2, ↓ixR3, ↓bindE, ↓bindR, ↓wWt_F, ↓add_FF]
theorem s_shelf_entries {M : Mem} {n : Nat} {room : Int} {dv : DV} {rows : List Row} (hM : M[n]? = some (.ins "Shelf" (shF room dv))) (hv : view M dv = some (eRows rows)) (hl : rows.length ≤ 1000)
    (k : Q (.r M.length) (M ++ [.lst (rows.map fun r => eE r.2)])) : wD F_Shelf_entries [.r n] M Q := by
  have hll : rows.length ≤ lim := Nat.le_trans hl (by decide)
  simp_all only [g_Shelf_entries, F_Shelf_entries, ins_of hM, lk_rows, wW_of hv, List.length_map, hll, ↓ixE0, ↓ixE1, ↓ixE2, ↓ixE3, ↓ixE4, ↓ixQ0, ↓ixQ1, ↓ixQ2, ↓ixQ3, ↓ixQ4, ↓ixR0, ↓ixR1, ↓ixR2, ↓ixR3, ↓bindE, ↓bindR, ↓wWt_F, ↓add_FF]
  rw [lc_run eRow (fun _ => true) (fun r => eE r.2) (live_of hv) rows fun r hr => ?_, wo_some]
  · simp_all only [ft, ↓ixE0, ↓ixE1, ↓ixE2, ↓ixE3, ↓ixE4, ↓ixQ0, ↓ixQ1, ↓ixQ2, ↓ixQ3, ↓ixQ4, ↓ixR0, ↓ixR1, ↓ixR2, ↓ixR3, ↓bindE, ↓bindR, ↓wWt_F, ↓add_FF]
    exact k
  · simp_all only [wipe_n, wipe_c, ixW1, ↓ixE0, ↓ixE1, ↓ixE2, ↓ixE3, ↓ixE4, ↓ixQ0, ↓ixQ1, ↓ixQ2, ↓ixQ3, ↓ixQ4, ↓ixR0, ↓ixR1, ↓ixR2, ↓ixR3, ↓bindE, ↓bindR, ↓wWt_F, ↓add_FF]
/-! ### the origin -/
def eAsk (p : Rq × Int) : PyData := .tuple [eQ p.1, .int p.2]
noncomputable instance : Inhabited Rp := ⟨⟨0, [], []⟩⟩
noncomputable def ansV (rs : List Rp) (k : Nat) : Rp := rs.getD (min k rs.length - 1) default
theorem ixN_min {k l : Nat} (hk : 0 < k) (hl : 0 < l) : ixN l ((if (l : Int) < (k : Int) then (l : Int) else (k : Int)) - 1) = some (min k l - 1) := by
  split
  · rw [ixN_ok (by omega) (by omega)]; congr 1; omega
  · rw [ixN_ok (by omega) (by omega)]; congr 1; omega
theorem s_answer {M : Mem} {n a : Nat} {rs : List Rp} {asked : List (Rq × Int)} {q : Rq} {t : Int} (hM : M[n]? = some (.ins "Told" (tdF (.list (rs.map eR)) a))) (hA : M[a]? = some (.lst (asked.map eAsk))) (hna : n ≠ a) (hr : 0 < rs.length) (hl : asked.length ≤ 1000)
    (k : Q (.d (eR (ansV rs (asked.length + 1)))) (M.set a (.lst ((asked ++ [(q, t)]).map eAsk)))) : wD F_Told_answer [.r n, .d (eQ q), .d (.int t)] M Q := by
  have hll : asked.length < lim := Nat.lt_of_le_of_lt hl (by decide)
  have ha := at_lt hA
  simp_all only [g_Told_answer, F_Told_answer, ins_of hM, lk_asked, lst_of hA, List.length_map, hll, ↓ixE0, ↓ixE1, ↓ixE2, ↓ixE3, ↓ixE4, ↓ixQ0, ↓ixQ1, ↓ixQ2, ↓ixQ3, ↓ixQ4, ↓ixR0, ↓ixR1, ↓ixR2, ↓ixR3, ↓bindE, ↓bindR, ↓wWt_F, ↓add_FF]
  have hr1 : asked.map eAsk ++ [PyData.tuple [eQ q, .int t]] = (asked ++ [(q, t)]).map eAsk := by rw [List.map_append]; rfl
  rw [hr1]
  generalize hM2 : M.set a (MO.lst ((asked ++ [(q, t)]).map eAsk)) = M2 at k ⊢
  have i2 : M2[n]? = some (.ins "Told" (tdF (.list (rs.map eR)) a)) := by rw [← hM2, List.getElem?_set_ne (fun e => hna e.symm)]; exact hM
  have j2 : M2[a]? = some (.lst ((asked ++ [(q, t)]).map eAsk)) := by rw [← hM2, List.getElem?_set_self ha]
  have hd : ((asked ++ [(q, t)]).map eAsk).length = asked.length + 1 := by simp
  simp_all only [ins_of i2, lk_asked, lk_resp, lst_of j2, hd, o_ix_l, List.length_map, ↓ixE0, ↓ixE1, ↓ixE2, ↓ixE3, ↓ixE4, ↓ixQ0, ↓ixQ1, ↓ixQ2, ↓ixQ3, ↓ixQ4, ↓ixR0, ↓ixR1, ↓ixR2, ↓ixR3, ↓bindE, ↓bindR, ↓wWt_F, ↓add_FF]
  rw [ixN_min (by omega) hr, wo_some]
  have hlt : min (asked.length + 1) rs.length - 1 < rs.length := by omega
  rw [List.getElem?_map, List.getElem?_eq_getElem hlt]
  refine wo_some.mpr ?_
  unfold ansV at k
  rw [List.getD_eq_getElem?_getD, List.getElem?_eq_getElem hlt] at k
  exact k
theorem s_asked {M : Mem} {n a : Nat} {rs : PyData} {xs : List PyData} (hM : M[n]? = some (.ins "Told" (tdF rs a))) (hA : M[a]? = some (.lst xs)) (k : Q (.d (.list xs)) M) : wD F_Told_asked [.r n] M Q := by
  simp_all only [g_Told_asked, F_Told_asked, ins_of hM, lk_asked, lst_of hA, ↓ixE0, ↓ixE1, ↓ixE2, ↓ixE3, ↓ixE4, ↓ixQ0, ↓ixQ1, ↓ixQ2, ↓ixQ3, ↓ixQ4, ↓ixR0, ↓ixR1, ↓ixR2, ↓ixR3, ↓bindE, ↓bindR, ↓wWt_F, ↓add_FF]
  exact k
end Ow
set_option Elab.async false
set_option linter.all false
set_option maxRecDepth 100000
set_option maxHeartbeats 4000000
namespace Ow
open PySem L2
variable {Q : DV → Mem → Prop}
/-! ### sizes -/
def B (n : Nat) (fs : Flds) : Prop := fs.length ≤ 16 * n ∧ weigh (fs.map (·.2)) ≤ 800 * n
theorem B_small {n : Nat} {fs : Flds} (h : B n fs) (hn : n ≤ 25 := by decide) : Small fs := ⟨by have := h.1; omega, by have := h.2; omega⟩
theorem B_up {m n : Nat} {fs : Flds} (h : B m fs) (hn : m ≤ n) : B n fs := ⟨by have := h.1; omega, by have := h.2; omega⟩
theorem B_app {m n : Nat} {fs gs : Flds} (h : B m fs) (q : B n gs) : B (m + n) (fs ++ gs) := ⟨by rw [List.length_append]; have := h.1; have := q.1; omega, by rw [List.map_append, weigh_app]; have := h.2; have := q.2; omega⟩
theorem weigh_filter (φ : Str × Str → Bool) : ∀ fs : Flds, weigh ((fs.filter φ).map (·.2)) ≤ weigh (fs.map (·.2))
  | [] => Nat.le_refl _
  | p :: fs => by
    have ih := weigh_filter φ fs
    rw [List.filter_cons]
    split
    · rw [List.map_cons, List.map_cons, weigh_cons, weigh_cons]; omega
    · rw [List.map_cons, weigh_cons]; omega
theorem B_filter {n : Nat} {fs : Flds} {φ : Str × Str → Bool} (h : B n fs) : B n (fs.filter φ) := ⟨Nat.le_trans (List.length_filter_le _ _) h.1, Nat.le_trans (weigh_filter φ fs) h.2⟩
structure BE (n : Nat) (e : En) : Prop where
  f : B 1 e.fs
  r : B n e.rs.fs
theorem BE.small {n : Nat} {e : En} (h : BE n e) (hn : n ≤ 25 := by decide) : SmallE e := ⟨B_small h.f, B_small h.r hn⟩
theorem BE.up {m n : Nat} {e : En} (h : BE m e) (hn : m ≤ n) : BE n e := ⟨h.f, B_up h.r hn⟩
theorem BE_fr {n : Nat} {e : En} {r : Rp} {a c : Int} (h : BE n e) (q : B 1 r.fs) : BE (n + 1) (frV e r a c) := ⟨h.f, B_app (B_filter h.r) (B_filter q)⟩
theorem s_fr {n : Nat} {e : En} {r : Rp} {a c : Int} {P : PyData → Prop} (h : BE n e) (hn : n ≤ 25) (q : B 1 r.fs) : wP F_freshened [.d (eE e), .d (eR r), .d (.int a), .d (.int c)] P ↔ P (eE (frV e r a c)) := s_freshened (by have := h.r.1; omega) (by have := q.1; omega)
/-! ### one call that changes its first argument -/
theorem wN_1 {F : DF} {n : Nat} {rest : List DV} {M : Mem} {o : MO} {P : PyData → Mem → Prop} (h : M[n]? = some o) (hf : flat o = true) (hr : rest.all noRef = true) (hD : wD F (.r 0 :: rest) [o] fun r M' => ∃ z o', r = .d z ∧ M'[0]? = some o' ∧ flat o' = true ∧ P z (M.set n o')) : wN F (.r n :: rest) M P := by
  show wo (if rest.all noRef = true then (M[n]?).bind fun o => if flat o = true then (F (.r 0 :: rest) [o]).bind fun r => (asD r.1).bind fun z => (r.2[0]?).bind fun o' => if flat o' = true then some (z, M.set n o') else none else none else none) _
  rw [if_pos hr, h, Option.bind_some, if_pos hf, wo_bind]
  refine wo_mono hD fun x ⟨z, o', e1, e2, e3, q⟩ => ?_
  rw [e1, e2]
  show wo (if flat o' = true then some (z, M.set n o') else none) _
  rw [if_pos e3]
  exact wo_some.mpr q
theorem nf {b : Bool} (h : b = false) : ¬ b = true := by rw [h]; exact Bool.false_ne_true
theorem ck_tag {e : En} {x : Str} (h : (tvV e.rs.fs).isNone = false) (e1 : vals e.rs.fs "etag" = [x]) : ckV e = (some ("if-none-match", x) : Option (Str × Str)) := by
  unfold ckV
  rw [some_not_none, h, e1]
  rfl
theorem ck_mod {e : En} {x : Str} (h : (tvV e.rs.fs).isNone = true) (h2 : (dofV e.rs.fs "last-modified" e.cm).isNone = false) (e1 : vals e.rs.fs "last-modified" = [x]) : ckV e = (some ("if-modified-since", x) : Option (Str × Str)) := by
  unfold ckV
  rw [some_not_none, some_not_none, h, h2, e1]
  rfl
theorem ck_no {e : En} (h : (tvV e.rs.fs).isNone = true) (h2 : (dofV e.rs.fs "last-modified" e.cm).isNone = true) : ckV e = none := by
  unfold ckV
  rw [some_not_none, some_not_none, h, h2]
  rfl
/-! ### plans -/
inductive Pl where
  | pass
  | show_ (e : En)
  | refuse
  | check (e : En) (p : Str × Str)
  | ask (o : Option En)
def eEn : Option En → PyData
  | none => .none
  | some e => eE e
def ePl : Pl → PyData
  | .pass => .tuple [.str "pass"]
  | .show_ e => .tuple [.str "show", eE e]
  | .refuse => .tuple [.str "refuse"]
  | .check e p => .tuple [.str "check", eE e, eP p]
  | .ask o => .tuple [.str "ask", eEn o]
theorem isNb_En {o : Option En} : isNb (eEn o) = o.isNone := by cases o <;> rfl
noncomputable def planV (q : Rq) (now : Int) (o : Option En) : Pl :=
  if passV q = true then .pass else match o with
  | none => if (ruV q.fs "only-if-cached").1 = true then .refuse else .ask none
  | some e => if usV e q now = true then .show_ e else if (ruV q.fs "only-if-cached").1 = true then .refuse else
    if hasV q.fs knowN = true then .ask (some e) else match ckV e with
    | some p => .check e p
    | none => .ask (some e)
noncomputable def foundV (q : Rq) (rows : List Row) : Option En := if passV q = true then none else (bestV q rows).map (·.2)
noncomputable def afterV (q : Rq) (rows : List Row) : List Row := if passV q = true then rows else match bestV q rows with
  | none => rows
  | some b => moved rows b
theorem s_law_plan {rows : List Row} {k room now : Int} {q : Rq} (hs : ∀ r ∈ rows, BE 20 r.2) (hq : B 1 q.fs) (hl : rows.length ≤ 1000)
    (hQ : Q (.d (ePl (planV q now (foundV q rows)))) [stO (afterV q rows) k room]) : wD F__law_plan [.r 0, .d (eQ q), .d (.int now)] [stO rows k room] Q := by
  have sq : Small q.fs := B_small hq
  have hp : PyData.list [.str "range", .str "if-range", .str "if-match", .str "if-unmodified-since"] = .list (passN.map .str) := rfl
  have hk : PyData.list [.str "if-none-match", .str "if-modified-since"] = .list (knowN.map .str) := rfl
  have e0 : (q.me = Str.ofString "GET") = (q.me = "GET") := rfl
  have pass_of : passV q = true → Q (.d (.tuple [.str "pass"])) [stO rows k room] := fun h => by
    unfold planV foundV afterV at hQ
    rw [if_pos h, if_pos h] at hQ
    exact hQ
  have rest_of : passV q = false → ∀ P : PyData → Mem → Prop, P (eEn (foundV q rows)) [stO (afterV q rows) k room] → wN F__law_find [.r 0, .d (eQ q)] [stO rows k room] P := fun h P hP => by
    unfold foundV afterV at hP
    rw [if_neg (by rw [h]; exact Bool.false_ne_true), if_neg (by rw [h]; exact Bool.false_ne_true)] at hP
    refine wN_1 rfl rfl rfl (s_law_find (fun r hr => (hs r hr).small) sq hl (fun e => ⟨_, _, rfl, rfl, rfl, ?_⟩) fun b e => ⟨_, _, rfl, rfl, rfl, ?_⟩)
    · rw [e] at hP; exact hP
    · rw [e] at hP; exact hP
  simp_all only [g__law_plan, F__law_plan, hp, s_law_has sq, s_law_rule sq, eBo, ↓ixE0, ↓ixE1, ↓ixE2, ↓ixE3, ↓ixE4, ↓ixQ0, ↓ixQ1, ↓ixQ2, ↓ixQ3, ↓ixQ4, ↓ixR0, ↓ixR1, ↓ixR2, ↓ixR3, ↓bindE, ↓bindR, ↓wWt_F, ↓add_FF]
  refine ⟨fun hg => ?_, fun hg => ⟨fun hh => ?_, fun hh => ⟨fun hn => ?_, fun hn => ?_⟩⟩⟩
  · exact pass_of (by unfold passV; rw [decide_eq_false (show ¬ q.me = "GET" from hg)]; rfl)
  · exact pass_of (by unfold passV; rw [show hasV q.fs passN = true from hh]; simp)
  · exact pass_of (by unfold passV; rw [show (ruV q.fs "no-store").1 = true from hn]; simp)
  · have hpf : passV q = false := by
      unfold passV
      rw [decide_eq_true (show q.me = "GET" from hg), show hasV q.fs passN = false from hh, show (ruV q.fs "no-store").1 = false from hn]
      rfl
    refine rest_of hpf _ ?_
    have hfound : ∀ e, foundV q rows = some e → BE 20 e := fun e h => by
      unfold foundV at h
      rw [if_neg (by rw [hpf]; exact Bool.false_ne_true)] at h
      obtain ⟨b, hb, rfl⟩ := Option.map_eq_some_iff.mp h
      exact hs b (best_mem hb)
    unfold planV at hQ
    rw [if_neg (by rw [hpf]; exact Bool.false_ne_true)] at hQ
    generalize foundV q rows = o at hQ hfound ⊢
    generalize afterV q rows = rows1 at hQ ⊢
    cases o with
    | none =>
      simp only [isNb_En, Option.isNone, eEn, isNb_n, s_law_rule sq, eBo, ↓ixE0, ↓ixE1, ↓ixE2, ↓ixE3, ↓ixE4, ↓ixQ0, ↓ixQ1, ↓ixQ2, ↓ixQ3, ↓ixQ4, ↓ixR0, ↓ixR1, ↓ixR2, ↓ixR3, ↓bindE, ↓bindR, ↓wWt_F, ↓add_FF, ↓wD_fn, ↓wS_seq, ↓wS_skip, ↓wS_cont, ↓wS_set, ↓wS_ret, ↓wS_drop, ↓wS_if, ↓wS_setP, ↓wS_par, ↓wS_aug, ↓wS_fset, ↓wS_lset, ↓wS_laug, ↓wS_dset, ↓kSeq_nx, ↓kSeq_ct, ↓kSeq_rt, ↓kRet_rt, ↓kRet_nx, ↓ex_one, ↓ex_two, ↓wL_lc, ↓wS_for, ↓wI_Li, ↓wI_Ti, ↓wI_Ri, ↓wI_S, ↓wW_d, ↓wW_s, ↓wW_r, ↓wWt_t, ↓wWr_i, ↓wE_var, ↓wE_c, ↓wE_gf, ↓wE_op, ↓wE_un, ↓wE_cb, ↓wE_chain, ↓wE_and, ↓wE_or, ↓wE_notV, ↓wE_if, ↓wE_tup, ↓wE_frz, ↓wE_new, ↓wE_sl, ↓wE_fld, ↓wE_app, ↓wE_ext, ↓wE_dget, ↓wE_call, ↓wE_pure, ↓wE_one, ↓wE_meth, ↓wE_make, ↓wE_m0, ↓wE_m1, ↓wE_index, ↓wE_maxD, ↓wE_joined, ↓wE_dict, ↓wJ_nil, ↓wJ_cons, ↓wo_pairs0, ↓wo_pairs1, ↓wT_isB, ↓wT_not, ↓wT_yes, ↓wT_and, ↓wT_or, ↓wA_nil, ↓wA_cons, ↓wL_lst, ↓wO_none, ↓wO_part, ↓wB_bool, ↓wZi_int, ↓wZs_str, ↓wZ_bool, ↓wU_none, ↓v_d, ↓v_r, ↓asD_d, ↓asDs_nil, ↓asDs_cons, ↓views_nil, ↓views_cons, ↓ref_r, ↓wo_at0, ↓wo_atS, ↓lst_0, ↓lst_S, ↓o_add_ii, ↓o_add_ss, ↓o_add_ll, ↓o_add_tt, ↓o_iadd_ii, ↓o_iadd_ss, ↓o_sub, ↓o_mul, ↓o_div, ↓o_mod, ↓o_pow, ↓o_neg, ↓o_lt, ↓o_le_ii, ↓o_le_ss, ↓o_ge, ↓o_gt, ↓o_gt2, ↓o_isN, ↓o_notN, ↓o_eq, ↓o_ne, ↓o_in_str, ↓o_nin_str, ↓o_in_l, ↓o_nin_l, ↓o_in_t, ↓o_nin_t, ↓o_ix_t0, ↓o_ix_t1, ↓o_ix_t2, ↓o_ix_t3, ↓o_ix_t4, ↓o_ix_s, ↓o_sl_s, ↓o_sl_l, ↓o_len_l, ↓o_len_t, ↓o_len_s, ↓o_min, ↓o_max, ↓o_abs, ↓o_int_i, ↓o_int_s, ↓o_str, ↓o_ord, ↓o_list, ↓o_tup_l, ↓o_tup_t, ↓o_low, ↓o_find, ↓o_strip, ↓o_join, ↓o_fmt, ↓o_fmt2, ↓o_fmt4, ↓bindP_n, ↓bindP_t, ↓bindNs_n, ↓bindNs_c, l0, l1, l2, l3, l4, l5, l6, l7, l8, l9, l10, l11, l12, l13, l14, l15, isNb_n, isNb_b, isNb_i, isNb_s, isNb_l, isNb_t, eqv_ss, eqv_ii, eqv_bb, eqv_nn, eqv_ll, eqv_tt, eqvA_nn, eqvA_cc, eqvA_cn, eqvA_nc, eqvA_empty, eqv_ls, eqv_ni, eqv_in, eqv_ns, eqv_sn, eqv_tn, shp_n, shp_b, shp_i, shp_s, shp_nil, shp_strs, shp_tstrs, shp_tints, all_noRef_d, all_noRef_a, all_noRef_n, List.map_cons, List.map_nil, List.length_cons, List.length_nil, List.replicate_succ, List.replicate_zero, List.cons_append, List.nil_append, List.set_cons_zero, List.set_cons_succ, Nat.zero_add, Nat.reduceAdd, Nat.reduceSub, Nat.reduceLeDiff, Nat.reduceEqDiff, decide_eq_true_eq, decide_eq_false_iff_not, Bool.not_true, Bool.not_false, Bool.not_eq_true', Bool.not_eq_false', Bool.not_eq_true, Bool.not_eq_false, and_true, true_and, implies_true, forall_const, reduceCtorEq, false_implies, PyData.int.injEq, PyData.bool.injEq, PyData.str.injEq, eq_self, exists_eq', exists_eq, or_true, true_or, and_self, Int.reduceNeg, Int.reducePow, Int.reduceLT, Int.reduceLE, Int.reduceToNat, not_true_eq_false, not_false_eq_true, false_or, or_false, and_false, false_and, if_true, if_false] at hQ ⊢
      refine ⟨fun h => ?_, fun h => ?_⟩
      · rw [if_pos (show (ruV q.fs "only-if-cached").1 = true from h)] at hQ; exact hQ
      · rw [if_neg (by rw [show (ruV q.fs "only-if-cached").1 = false from h]; exact Bool.false_ne_true)] at hQ; exact hQ
    | some e =>
      have be := hfound e rfl
      have sr : Small e.rs.fs := be.small.r
      have h1 : e.rs.fs.length ≤ lim := Nat.le_trans sr.len (by decide)
      have ne : isNb (eE e) = false := rfl
      have hQ : Q (.d (ePl (if usV e q now = true then .show_ e else if (ruV q.fs "only-if-cached").1 = true then .refuse else if hasV q.fs knowN = true then .ask (some e) else match ckV e with
        | some p => .check e p
        | none => .ask (some e)))) [stO rows1 k room] := hQ
      simp_all only [eEn, ne, hk, s_law_usable sq sr, s_law_rule sq, s_law_has sq, s_law_tag sr, s_law_modified sr, isNb_eTag, isNb_oI, eBo, List.length_map, h1, ↓ixE0, ↓ixE1, ↓ixE2, ↓ixE3, ↓ixE4, ↓ixQ0, ↓ixQ1, ↓ixQ2, ↓ixQ3, ↓ixQ4, ↓ixR0, ↓ixR1, ↓ixR2, ↓ixR3, ↓bindE, ↓bindR, ↓wWt_F, ↓add_FF]
      refine ⟨fun h => by rw [if_pos h] at hQ; exact hQ, fun h => ?_⟩
      rw [if_neg (nf h)] at hQ
      refine ⟨fun h2 => by rw [if_pos (show (ruV q.fs "only-if-cached").1 = true from h2)] at hQ; exact hQ, fun h2 => ?_⟩
      rw [if_neg (nf (show (ruV q.fs "only-if-cached").1 = false from h2))] at hQ
      refine ⟨fun h3 => ?_, fun h3 => by rw [if_pos h3] at hQ; exact hQ⟩
      rw [if_neg (nf h3)] at hQ
      refine ⟨fun h4 => ?_, fun h4 => ⟨fun h5 => ?_, fun h5 => ?_⟩⟩
      · obtain ⟨x, e1⟩ := tv_head h4
        rw [ck_tag h4 e1] at hQ
        rw [lc_vals (n := "etag") live_d fun p _ => ?_, wo_some]
        · rw [e1, List.map_cons, o_ix_l0]
          exact hQ
        · simp_all only [eP, wipe_n, wipe_c]
      · obtain ⟨x, e1⟩ := dof_head h5
        have e1 : vals e.rs.fs "last-modified" = [x] := e1
        rw [ck_mod h4 h5 e1] at hQ
        rw [lc_vals (n := "last-modified") live_d fun p _ => ?_, wo_some]
        · rw [e1, List.map_cons, o_ix_l0]
          exact hQ
        · simp_all only [eP, wipe_n, wipe_c]
      · rw [ck_no h4 h5] at hQ
        exact hQ
/-! ### what is sent, what comes of it -/
def sentV (q : Rq) : Pl → Option Rq
  | .show_ _ => none
  | .refuse => none
  | .check _ p => some ⟨q.me, q.tg, q.fs ++ [p]⟩
  | .pass => some q
  | .ask _ => some q
def eSent : Option Rq → PyData
  | none => .none
  | some q => eQ q
theorem s_law_sent {q : Rq} {pl : Pl} {P : PyData → Prop} (hq : B 1 q.fs) : wP F__law_sent [.d (ePl pl), .d (eQ q)] P ↔ P (eSent (sentV q pl)) := wP_eq (wP_of (by
  have hs : shp (.list [.str "show", .str "refuse"]) = true := by decide +kernel
  have h1 : q.fs.length + 1 ≤ lim := by have := hq.1; show _ ≤ 1000000; omega
  have hadd : ∀ p : Str × Str, PyData.tuple [eP p] = eF [p] := fun _ => rfl
  have n1 : ¬ Str.ofString "show" = Str.ofString "check" := by decide +kernel
  have n2 : ¬ Str.ofString "show" = Str.ofString "refuse" := by decide +kernel
  have n3 : ¬ Str.ofString "show" = Str.ofString "pass" := by decide +kernel
  have n4 : ¬ Str.ofString "show" = Str.ofString "ask" := by decide +kernel
  have n5 : ¬ Str.ofString "refuse" = Str.ofString "pass" := by decide +kernel
  have n6 : ¬ Str.ofString "refuse" = Str.ofString "check" := by decide +kernel
  have n7 : ¬ Str.ofString "refuse" = Str.ofString "ask" := by decide +kernel
  have n8 : ¬ Str.ofString "pass" = Str.ofString "check" := by decide +kernel
  have n9 : ¬ Str.ofString "ask" = Str.ofString "check" := by decide +kernel
  cases pl with
  | pass =>
    rw [wP_D]
    simp_all only [F__law_sent, g__law_sent, ePl, hs, List.any_cons, List.any_nil, n3, n5, n8, decide_false, Bool.or_false, Bool.false_eq_true, Bool.or_self, ↓ixE0, ↓ixE1, ↓ixE2, ↓ixE3, ↓ixE4, ↓ixQ0, ↓ixQ1, ↓ixQ2, ↓ixQ3, ↓ixQ4, ↓ixR0, ↓ixR1, ↓ixR2, ↓ixR3, ↓bindE, ↓bindR, ↓wWt_F, ↓add_FF]
    rfl
  | show_ e =>
    rw [wP_D]
    simp_all only [F__law_sent, g__law_sent, ePl, hs, List.any_cons, List.any_nil, n2, decide_true, Bool.true_or, reduceCtorEq, ↓ixE0, ↓ixE1, ↓ixE2, ↓ixE3, ↓ixE4, ↓ixQ0, ↓ixQ1, ↓ixQ2, ↓ixQ3, ↓ixQ4, ↓ixR0, ↓ixR1, ↓ixR2, ↓ixR3, ↓bindE, ↓bindR, ↓wWt_F, ↓add_FF]
    rfl
  | refuse =>
    rw [wP_D]
    simp_all only [F__law_sent, g__law_sent, ePl, hs, List.any_cons, List.any_nil, n2, decide_true, Bool.or_true, Bool.true_or, reduceCtorEq, ↓ixE0, ↓ixE1, ↓ixE2, ↓ixE3, ↓ixE4, ↓ixQ0, ↓ixQ1, ↓ixQ2, ↓ixQ3, ↓ixQ4, ↓ixR0, ↓ixR1, ↓ixR2, ↓ixR3, ↓bindE, ↓bindR, ↓wWt_F, ↓add_FF]
    rfl
  | ask o =>
    rw [wP_D]
    simp_all only [F__law_sent, g__law_sent, ePl, hs, List.any_cons, List.any_nil, n4, n7, n9, decide_false, Bool.or_false, Bool.false_eq_true, Bool.or_self, ↓ixE0, ↓ixE1, ↓ixE2, ↓ixE3, ↓ixE4, ↓ixQ0, ↓ixQ1, ↓ixQ2, ↓ixQ3, ↓ixQ4, ↓ixR0, ↓ixR1, ↓ixR2, ↓ixR3, ↓bindE, ↓bindR, ↓wWt_F, ↓add_FF]
    rfl
  | check e p =>
    rw [wP_D]
    simp_all only [F__law_sent, g__law_sent, ePl, hs, List.any_cons, List.any_nil, n1, n6, decide_false, Bool.or_false, Bool.false_eq_true, Bool.or_self, hadd, List.length_cons, List.length_nil, h1, ↓ixE0, ↓ixE1, ↓ixE2, ↓ixE3, ↓ixE4, ↓ixQ0, ↓ixQ1, ↓ixQ2, ↓ixQ3, ↓ixQ4, ↓ixR0, ↓ixR1, ↓ixR2, ↓ixR3, ↓bindE, ↓bindR, ↓wWt_F, ↓add_FF]
    rfl))
end Ow
set_option Elab.async false
set_option linter.all false
set_option maxRecDepth 100000
set_option maxHeartbeats 4000000
namespace Ow
open PySem L2
variable {Q : DV → Mem → Prop}
/-! ### the outcome -/
noncomputable def wdV (t : Int) : Str := sV F_write_date [.d (.int t)]
theorem s_wd {t : Int} {P : PyData → Prop} (h0 : 0 ≤ t) (h1 : t < 86400) : wP F_write_date [.d (.int t)] P ↔ P (.str (wdV t)) := wP_eq (sV_eq ((s_write h0 h1).mono fun z ⟨x, e, _⟩ => ⟨x, e⟩))
theorem wd_len {t : Int} (h0 : 0 ≤ t) (h1 : t < 86400) : (wdV t).length ≤ 40 := by
  obtain ⟨z, e, x, rfl, hx⟩ := s_write h0 h1
  unfold wdV sV
  rw [e]
  exact hx
noncomputable def rfV (now : Int) : Rp := ⟨504, [("date", wdV now)], []⟩
noncomputable def mkV (q : Rq) (r : Rp) (now : Int) : Bool := bV F_may_keep [.d (eQ q), .d (eR r), .d (.int now)]
theorem s_mk {q : Rq} {r : Rp} {c : Int} {P : PyData → Prop} (h1 : Small q.fs) (h2 : Small r.fs) : wP F_may_keep [.d (eQ q), .d (eR r), .d (.int c)] P ↔ P (.bool (mkV q r c)) := s_may_keep h1 h2
noncomputable def outV (q : Rq) (r : Rp) (now : Int) : Pl → Rp × Str
  | .show_ e => (shV e q now, "kept")
  | .refuse => (rfV now, "refused")
  | .pass => (r, "fetched")
  | .check e _ => if r.st = 304 then (shV (frV e r now now) q now, "checked") else (r, "fetched")
  | .ask _ => (r, "fetched")
inductive Act where
  | no
  | put (e : En)
  | drop (t : List Int)
def newV (q : Rq) (r : Rp) (now : Int) : En := ⟨q.tg, q.fs, r, now, now⟩
def methN : List Str := ["GET", "HEAD", "OPTIONS"]
noncomputable def actNew (q : Rq) (r : Rp) (now : Int) : Act := if mkV q r now = true then .put (newV q r now) else .no
noncomputable def actAsk (q : Rq) (r : Rp) (now : Int) (o : Option En) : Act := match o with
  | none => actNew q r now
  | some e => if r.st = 304 ∧ agV e.rs.fs r.fs = true then .put (frV e r now now) else actNew q r now
noncomputable def actV (q : Rq) (r : Rp) (now : Int) : Pl → Act
  | .show_ _ => .no
  | .refuse => .no
  | .pass => if (methN.any fun n => decide (n = q.me)) = false ∧ 200 ≤ r.st ∧ r.st ≤ 399 then .drop q.tg else .no
  | .check e _ => if r.st = 304 then .put (frV e r now now) else actNew q r now
  | .ask o => actAsk q r now o
def eOut (p : Rp × Str) : PyData := .tuple [eR p.1, .str p.2]
def dropR (rows : List Row) (t : List Int) : List Row := rows.filter fun r => !PyData.eqv (eT r.2.tg) (eT t)
noncomputable def lawAct (room : Int) (rows : List Row) (k : Int) : Act → List Row × Int
  | .no => (rows, k)
  | .put e => (putV room (k + 1) rows e, k + 1)
  | .drop t => (dropR rows t, k)
def PlOk (now : Int) : Pl → Prop
  | .show_ e => BE 20 e ∧ e.cm ≤ now
  | .check e _ => BE 20 e
  | .ask (some e) => BE 20 e
  | _ => True
theorem N_pass : ¬ Str.ofString "pass" = Str.ofString "show" ∧ ¬ Str.ofString "pass" = Str.ofString "refuse" ∧ ¬ Str.ofString "pass" = Str.ofString "check" ∧ ¬ Str.ofString "pass" = Str.ofString "ask" := by decide +kernel
theorem N_ref : ¬ Str.ofString "refuse" = Str.ofString "show" := by decide +kernel
theorem N_check : ¬ Str.ofString "check" = Str.ofString "show" ∧ ¬ Str.ofString "check" = Str.ofString "refuse" ∧ ¬ Str.ofString "check" = Str.ofString "pass" ∧ ¬ Str.ofString "check" = Str.ofString "ask" := by decide +kernel
theorem N_ask : ¬ Str.ofString "ask" = Str.ofString "show" ∧ ¬ Str.ofString "ask" = Str.ofString "refuse" ∧ ¬ Str.ofString "ask" = Str.ofString "pass" ∧ ¬ Str.ofString "ask" = Str.ofString "check" := by decide +kernel
theorem eE_new {q : Rq} {r : Rp} {now : Int} : PyData.tuple [eT q.tg, eF q.fs, eR r, .int now, .int now] = eE (newV q r now) := rfl
theorem new_ok {q : Rq} {r : Rp} {now : Int} (hq : B 1 q.fs) (hr : B 1 r.fs) : BE 1 (newV q r now) := ⟨hq, hr⟩
theorem s_law_done {rows : List Row} {k room now : Int} {q : Rq} {r : Rp} {pl : Pl} {resp : PyData} (hs : ∀ r ∈ rows, SmallE r.2) (hl : rows.length ≤ 1000) (hq : B 1 q.fs) (hr : B 1 r.fs) (hpl : PlOk now pl) (h0 : 0 ≤ now) (h1 : now < 86400) (hresp : sentV q pl ≠ none → resp = eR r)
    (hQ : Q (.d (eOut (outV q r now pl))) [stO (lawAct room rows k (actV q r now pl)).1 (lawAct room rows k (actV q r now pl)).2 room]) : wD F__law_done [.r 0, .d (ePl pl), .d (eQ q), .d resp, .d (.int now)] [stO rows k room] Q := by
  have sq := B_small hq
  have sr := B_small hr
  have hput : ∀ (e : En) (P : PyData → Mem → Prop), SmallE e → P .none [stO (putV room (k + 1) rows e) (k + 1) room] → wN F__law_put [.r 0, .d (eE e)] [stO rows k room] P := fun e P he hP =>
    wN_1 rfl rfl rfl (s_law_put hs he hl ⟨_, _, rfl, rfl, rfl, hP⟩)
  cases pl with
  | show_ e =>
    simp_all only [g__law_done, F__law_done, ePl, s_law_shown sq hpl.1.small.r hpl.2, reduceCtorEq, ↓ixE0, ↓ixE1, ↓ixE2, ↓ixE3, ↓ixE4, ↓ixQ0, ↓ixQ1, ↓ixQ2, ↓ixQ3, ↓ixQ4, ↓ixR0, ↓ixR1, ↓ixR2, ↓ixR3, ↓bindE, ↓bindR, ↓wWt_F, ↓add_FF]
    exact hQ
  | refuse =>
    simp_all only [g__law_done, F__law_done, ePl, N_ref, s_wd h0 h1, reduceCtorEq, ↓ixE0, ↓ixE1, ↓ixE2, ↓ixE3, ↓ixE4, ↓ixQ0, ↓ixQ1, ↓ixQ2, ↓ixQ3, ↓ixQ4, ↓ixR0, ↓ixR1, ↓ixR2, ↓ixR3, ↓bindE, ↓bindR, ↓wWt_F, ↓add_FF]
    exact hQ
  | pass =>
    have hresp := hresp nofun
    subst hresp
    have hm : PyData.list [.str "GET", .str "HEAD", .str "OPTIONS"] = .list (methN.map .str) := rfl
    have hll : rows.length ≤ lim := Nat.le_trans hl (by decide)
    have h3 : (3 : Nat) < 100 := by decide
    have hQ : Q (.d (eOut (r, "fetched"))) [stO (lawAct room rows k (if (methN.any fun n => decide (n = q.me)) = false ∧ 200 ≤ r.st ∧ r.st ≤ 399 then .drop q.tg else .no)).1 (lawAct room rows k (if (methN.any fun n => decide (n = q.me)) = false ∧ 200 ≤ r.st ∧ r.st ≤ 399 then .drop q.tg else .no)).2 room] := hQ
    simp_all only [g__law_done, F__law_done, ePl, N_pass, hm, any_strs, stO, dic_0, dk_rows, pk_rows, eRows, List.length_map, hll, reduceCtorEq, ↓ixE0, ↓ixE1, ↓ixE2, ↓ixE3, ↓ixE4, ↓ixQ0, ↓ixQ1, ↓ixQ2, ↓ixQ3, ↓ixQ4, ↓ixR0, ↓ixR1, ↓ixR2, ↓ixR3, ↓bindE, ↓bindR, ↓wWt_F, ↓add_FF]
    refine ⟨fun ha => ⟨fun hb => ⟨fun hc => ?_, fun hc => ?_⟩, fun hb => ?_⟩, fun ha => ?_⟩
    · rw [if_pos ⟨ha, hb, hc⟩] at hQ
      rw [lc_run eRow (fun x => !PyData.eqv (eT x.2.tg) (eT q.tg)) eRow live_d rows fun x hx => ?_, wo_some]
      · simp_all only [dic_0, pk_rows, h3, ↓ixE0, ↓ixE1, ↓ixE2, ↓ixE3, ↓ixE4, ↓ixQ0, ↓ixQ1, ↓ixQ2, ↓ixQ3, ↓ixQ4, ↓ixR0, ↓ixR1, ↓ixR2, ↓ixR3, ↓bindE, ↓bindR, ↓wWt_F, ↓add_FF]
        exact hQ
      · simp_all only [wipe_n, wipe_c, ixW1, shp_T, ↓ixE0, ↓ixE1, ↓ixE2, ↓ixE3, ↓ixE4, ↓ixQ0, ↓ixQ1, ↓ixQ2, ↓ixQ3, ↓ixQ4, ↓ixR0, ↓ixR1, ↓ixR2, ↓ixR3, ↓bindE, ↓bindR, ↓wWt_F, ↓add_FF]
    · rw [if_neg (fun h => hc h.2.2)] at hQ; exact hQ
    · rw [if_neg (fun h => hb h.2.1)] at hQ; exact hQ
    · have ha' : (methN.any fun n => decide (n = q.me)) = true := (any_strs (ns := methN)).symm.trans ha
      rw [if_neg (fun h => by rw [h.1] at ha'; cases ha')] at hQ
      exact hQ
  | check e p =>
    have hresp := hresp nofun
    subst hresp
    have hb : BE 20 e := hpl
    have hf : BE 21 (frV e r now now) := BE_fr hb hr
    have hfs : SmallE (frV e r now now) := hf.small
    simp_all only [g__law_done, F__law_done, ePl, N_check, s_fr hb (by decide) hr, s_mk sq sr, eE_new, reduceCtorEq, ↓ixE0, ↓ixE1, ↓ixE2, ↓ixE3, ↓ixE4, ↓ixQ0, ↓ixQ1, ↓ixQ2, ↓ixQ3, ↓ixQ4, ↓ixR0, ↓ixR1, ↓ixR2, ↓ixR3, ↓bindE, ↓bindR, ↓wWt_F, ↓add_FF]
    have hQ : Q (.d (eOut (if r.st = 304 then (shV (frV e r now now) q now, "checked") else (r, "fetched")))) [stO (lawAct room rows k (if r.st = 304 then .put (frV e r now now) else actNew q r now)).1 (lawAct room rows k (if r.st = 304 then .put (frV e r now now) else actNew q r now)).2 room] := hQ
    refine ⟨fun h => ?_, fun h => ⟨fun hm => ?_, fun hm => ?_⟩⟩
    · rw [if_pos h, if_pos h] at hQ
      refine hput _ _ hfs ?_
      simp_all only [s_law_shown sq hfs.r (show (frV e r now now).cm ≤ now from Int.le_refl _), ↓ixE0, ↓ixE1, ↓ixE2, ↓ixE3, ↓ixE4, ↓ixQ0, ↓ixQ1, ↓ixQ2, ↓ixQ3, ↓ixQ4, ↓ixR0, ↓ixR1, ↓ixR2, ↓ixR3, ↓bindE, ↓bindR, ↓wWt_F, ↓add_FF]
      exact hQ
    · rw [if_neg h, if_neg h] at hQ
      unfold actNew at hQ
      rw [if_pos hm] at hQ
      refine hput _ _ (new_ok hq hr).small ?_
      exact hQ
    · rw [if_neg h, if_neg h] at hQ
      unfold actNew at hQ
      rw [if_neg (nf hm)] at hQ
      exact hQ
  | ask o =>
    have hresp := hresp nofun
    subst hresp
    cases o with
    | none =>
      have hQ : Q (.d (eOut (r, "fetched"))) [stO (lawAct room rows k (actNew q r now)).1 (lawAct room rows k (actNew q r now)).2 room] := hQ
      unfold actNew at hQ
      simp_all only [g__law_done, F__law_done, ePl, eEn, N_ask, s_mk sq sr, eE_new, reduceCtorEq, ↓ixE0, ↓ixE1, ↓ixE2, ↓ixE3, ↓ixE4, ↓ixQ0, ↓ixQ1, ↓ixQ2, ↓ixQ3, ↓ixQ4, ↓ixR0, ↓ixR1, ↓ixR2, ↓ixR3, ↓bindE, ↓bindR, ↓wWt_F, ↓add_FF]
      have a1 : mkV q r now = true → wN F__law_put [.r 0, .d (eE (newV q r now))] [stO rows k room] fun z M2 => Q (.d (.tuple [eR r, .str "fetched"])) M2 := fun hm => by
        rw [if_pos hm] at hQ
        exact hput _ _ (new_ok hq hr).small hQ
      have a2 : mkV q r now = false → Q (.d (.tuple [eR r, .str "fetched"])) [stO rows k room] := fun hm => by
        rw [if_neg (nf hm)] at hQ
        exact hQ
      exact ⟨fun _ => ⟨a1, a2⟩, fun _ => ⟨a1, a2⟩⟩
    | some e =>
      have hb : BE 20 e := hpl
      have hf : BE 21 (frV e r now now) := BE_fr hb hr
      have hfs : SmallE (frV e r now now) := hf.small
      have ne : isNb (eE e) = false := rfl
      have hQ : Q (.d (eOut (r, "fetched"))) [stO (lawAct room rows k (if r.st = 304 ∧ agV e.rs.fs r.fs = true then .put (frV e r now now) else actNew q r now)).1 (lawAct room rows k (if r.st = 304 ∧ agV e.rs.fs r.fs = true then .put (frV e r now now) else actNew q r now)).2 room] := hQ
      unfold actNew at hQ
      simp_all only [g__law_done, F__law_done, ePl, eEn, ne, N_ask, s_fr hb (by decide) hr, s_same_tag hb.small.r sr, s_mk sq sr, eE_new, reduceCtorEq, ↓ixE0, ↓ixE1, ↓ixE2, ↓ixE3, ↓ixE4, ↓ixQ0, ↓ixQ1, ↓ixQ2, ↓ixQ3, ↓ixQ4, ↓ixR0, ↓ixR1, ↓ixR2, ↓ixR3, ↓bindE, ↓bindR, ↓wWt_F, ↓add_FF]
      have a1 : ¬ (r.st = 304 ∧ agV e.rs.fs r.fs = true) → mkV q r now = true → wN F__law_put [.r 0, .d (eE (newV q r now))] [stO rows k room] fun z M2 => Q (.d (.tuple [eR r, .str "fetched"])) M2 := fun hn hm => by
        rw [if_neg hn, if_pos hm] at hQ
        exact hput _ _ (new_ok hq hr).small hQ
      have a2 : ¬ (r.st = 304 ∧ agV e.rs.fs r.fs = true) → mkV q r now = false → Q (.d (.tuple [eR r, .str "fetched"])) [stO rows k room] := fun hn hm => by
        rw [if_neg hn, if_neg (nf hm)] at hQ
        exact hQ
      refine ⟨fun h => ⟨fun h2 => ?_, fun h2 => ⟨a1 fun x => nf h2 x.2, a2 fun x => nf h2 x.2⟩⟩, fun h => ⟨a1 fun x => h x.1, a2 fun x => h x.1⟩⟩
      rw [if_pos ⟨h, h2⟩] at hQ
      exact hput _ _ hfs hQ
end Ow
set_option Elab.async false
set_option linter.all false
set_option maxRecDepth 100000
set_option maxHeartbeats 4000000
namespace Ow
open PySem L2
variable {Q : DV → Mem → Prop}
/-- the program's objects: Told at 2, what it was asked at 3, the keeper at 4, its shelf at 5 -/
structure Sys (M : Mem) (room : Int) (rs : List Rp) (asked : List (Rq × Int)) (rows : List Row) : Prop where
  len : 8 ≤ M.length
  k4 : M[4]? = some (.ins "Keeper" (kpF 2 5))
  t2 : M[2]? = some (.ins "Told" (tdF (.list (rs.map eR)) 3))
  a3 : M[3]? = some (.lst (asked.map eAsk))
  s5 : ∃ dv, M[5]? = some (.ins "Shelf" (shF room dv)) ∧ view M dv = some (eRows rows) ∧ ∀ m, dv = .r m → 8 ≤ m
structure Fr (M M' : Mem) : Prop where
  len : M.length ≤ M'.length
  at_ : ∀ m, m < 8 → m ≠ 3 → m ≠ 5 → M'[m]? = M[m]?
theorem Fr.refl {M : Mem} : Fr M M := ⟨Nat.le_refl _, fun _ _ _ _ => rfl⟩
theorem Fr.trans {M M1 M2 : Mem} (a : Fr M M1) (b : Fr M1 M2) : Fr M M2 := ⟨Nat.le_trans a.len b.len, fun m h h3 h5 => by rw [b.at_ m h h3 h5, a.at_ m h h3 h5]⟩
theorem Fr.set3 {M : Mem} {o : MO} : Fr M (M.set 3 o) := ⟨by rw [List.length_set]; exact Nat.le_refl _, fun m _ h3 _ => List.getElem?_set_ne (fun e => h3 e.symm)⟩
theorem Ups.fr {M M' : Mem} (u : Ups 5 M M') (h : 8 ≤ M.length) : Fr M M' := ⟨u.len, fun m h1 _ h5 => u.at_ m (Nat.lt_of_lt_of_le h1 h) h5⟩
variable {M : Mem} {room : Int} {rs : List Rp} {asked : List (Rq × Int)} {rows : List Row}
theorem Sys.put {M' : Mem} {dv : DV} {rows' : List Row} (S : Sys M room rs asked rows) (u : Ups 5 M M') (hd : ∀ m, dv = .r m → 8 ≤ m) (i : M'[5]? = some (.ins "Shelf" (shF room dv))) (v : view M' dv = some (eRows rows')) : Sys M' room rs asked rows' :=
  ⟨Nat.le_trans S.len u.len, by rw [u.at_ 4 (by have := S.len; omega) (by decide)]; exact S.k4, by rw [u.at_ 2 (by have := S.len; omega) (by decide)]; exact S.t2, by rw [u.at_ 3 (by have := S.len; omega) (by decide)]; exact S.a3, dv, i, v, hd⟩
theorem view_set3 {dv : DV} {o : MO} (hd : ∀ m, dv = .r m → 8 ≤ m) : view (M.set 3 o) dv = view M dv := by
  cases dv with
  | r m =>
    have := hd m rfl
    show (match (M.set 3 o)[m]? with
      | some (.lst xs) => some (PyData.list xs)
      | _ => none) = (match M[m]? with
      | some (.lst xs) => some (PyData.list xs)
      | _ => none)
    rw [List.getElem?_set_ne (by omega)]
  | _ => rfl
theorem Sys.told {x : Rq × Int} (S : Sys M room rs asked rows) : Sys (M.set 3 (.lst ((asked ++ [x]).map eAsk))) room rs (asked ++ [x]) rows := by
  have h3 : 3 < M.length := by have := S.len; omega
  obtain ⟨dv, i, v, hd⟩ := S.s5
  exact ⟨by rw [List.length_set]; exact S.len, by rw [List.getElem?_set_ne (by decide)]; exact S.k4, by rw [List.getElem?_set_ne (by decide)]; exact S.t2, List.getElem?_set_self h3, dv, by rw [List.getElem?_set_ne (by decide)]; exact i, by rw [view_set3 hd]; exact v, hd⟩
noncomputable def progAct (room : Int) (rows : List Row) : Act → List Row
  | .no => rows
  | .put e => shPut room rows e
  | .drop t => dropR rows t
theorem s_put_sys {e : En} (S : Sys M room rs asked rows) (hs : ∀ r ∈ rows, SmallE r.2) (he : SmallE e) (hl : rows.length ≤ 1000) (k : ∀ M', Fr M M' → Sys M' room rs asked (shPut room rows e) → Q (.d .none) M') : wD F_Shelf_put [.r 5, .d (eE e)] M Q := by
  obtain ⟨dv, i, v, hd⟩ := S.s5
  refine s_shelf_put i v hs he hl fun M' dv' u hd' i' v' => k M' (u.fr S.len) (S.put u (fun m e => Nat.le_trans S.len (hd' m e)) i' v')
theorem s_keep {q : Rq} {r : Rp} {now : Int} {o : Option En} (S : Sys M room rs asked rows) (hs : ∀ r ∈ rows, SmallE r.2) (hl : rows.length ≤ 1000) (hq : B 1 q.fs) (hr : B 1 r.fs) (ho : ∀ e, o = some e → BE 20 e)
    (k : ∀ M', Fr M M' → Sys M' room rs asked (progAct room rows (actAsk q r now o)) → Q (.d (eOut (r, "fetched"))) M') : wD F_Keeper_keep [.r 4, .d (eEn o), .d (eQ q), .d (eR r), .d (.int now)] M Q := by
  have sq := B_small hq
  have sr := B_small hr
  obtain ⟨dv, i, v, hd⟩ := S.s5
  have a1 : actAsk q r now o = .put (newV q r now) → wD F_Shelf_put [.r 5, .d (eE (newV q r now))] M fun r' M1 => Q (.d (.tuple [eR r, .str "fetched"])) M1 := fun h => by
    rw [h] at k
    exact s_put_sys S hs (new_ok hq hr).small hl fun M' f S' => k M' f S'
  have a2 : actAsk q r now o = .no → Q (.d (.tuple [eR r, .str "fetched"])) M := fun h => by
    rw [h] at k
    exact k M .refl S
  cases o with
  | none =>
    simp_all only [g_Keeper_keep, F_Keeper_keep, eEn, s_mk sq sr, ins_of S.k4, lk_shelf, ins_of i, lk_put, eE_new, ↓ixE0, ↓ixE1, ↓ixE2, ↓ixE3, ↓ixE4, ↓ixQ0, ↓ixQ1, ↓ixQ2, ↓ixQ3, ↓ixQ4, ↓ixR0, ↓ixR1, ↓ixR2, ↓ixR3, ↓bindE, ↓bindR, ↓wWt_F, ↓add_FF]
    have b1 : mkV q r now = true → actAsk q r now none = .put (newV q r now) := fun h => by unfold actAsk actNew; rw [if_pos h]
    have b2 : mkV q r now = false → actAsk q r now none = .no := fun h => by unfold actAsk actNew; rw [if_neg (nf h)]
    exact ⟨fun _ => ⟨fun h => a1 (b1 h), fun h => a2 (b2 h)⟩, fun _ => ⟨fun h => a1 (b1 h), fun h => a2 (b2 h)⟩⟩
  | some e =>
    have hb := ho e rfl
    have hf : BE 21 (frV e r now now) := BE_fr hb hr
    have ne : isNb (eE e) = false := rfl
    simp_all only [g_Keeper_keep, F_Keeper_keep, eEn, ne, s_agree hb.small.r sr, s_fr hb (by decide) hr, s_mk sq sr, ins_of S.k4, lk_shelf, ins_of i, lk_put, eE_new, ↓ixE0, ↓ixE1, ↓ixE2, ↓ixE3, ↓ixE4, ↓ixQ0, ↓ixQ1, ↓ixQ2, ↓ixQ3, ↓ixQ4, ↓ixR0, ↓ixR1, ↓ixR2, ↓ixR3, ↓bindE, ↓bindR, ↓wWt_F, ↓add_FF]
    have b1 : ¬ (r.st = 304 ∧ agV e.rs.fs r.fs = true) → mkV q r now = true → actAsk q r now (some e) = .put (newV q r now) := fun hn h => by
      show (if r.st = 304 ∧ agV e.rs.fs r.fs = true then Act.put (frV e r now now) else actNew q r now) = _
      rw [if_neg hn]; unfold actNew; rw [if_pos h]
    have b2 : ¬ (r.st = 304 ∧ agV e.rs.fs r.fs = true) → mkV q r now = false → actAsk q r now (some e) = .no := fun hn h => by
      show (if r.st = 304 ∧ agV e.rs.fs r.fs = true then Act.put (frV e r now now) else actNew q r now) = _
      rw [if_neg hn]; unfold actNew; rw [if_neg (nf h)]
    refine ⟨fun h => ⟨fun h2 => ?_, fun h2 => ⟨fun h3 => a1 (b1 (fun x => nf h2 x.2) h3), fun h3 => a2 (b2 (fun x => nf h2 x.2) h3)⟩⟩, fun h => ⟨fun h3 => a1 (b1 (fun x => h x.1) h3), fun h3 => a2 (b2 (fun x => h x.1) h3)⟩⟩
    have b3 : actAsk q r now (some e) = .put (frV e r now now) := by
      show (if r.st = 304 ∧ agV e.rs.fs r.fs = true then Act.put (frV e r now now) else actNew q r now) = _
      rw [if_pos ⟨h, h2⟩]
    rw [b3] at k
    exact s_put_sys S hs hf.small hl fun M' f S' => k M' f S'
theorem s_pass_on {q : Rq} {now : Int} (S : Sys M room rs asked rows) (hl : rows.length ≤ 1000) (hr : 0 < rs.length) (ha : asked.length ≤ 1000)
    (k : ∀ M', Fr M M' → Sys M' room rs (asked ++ [(q, now)]) (progAct room rows (actV q (ansV rs (asked.length + 1)) now .pass)) → Q (.d (eOut (ansV rs (asked.length + 1), "fetched"))) M') : wD F_Keeper_pass_on [.r 4, .d (eQ q), .d (.int now)] M Q := by
  have hm : PyData.tuple [.str "GET", .str "HEAD", .str "OPTIONS"] = .tuple (methN.map .str) := rfl
  have S1 := S.told (x := (q, now))
  simp_all only [g_Keeper_pass_on, F_Keeper_pass_on, ins_of S.k4, lk_origin, ins_of S.t2, lk_answer, ↓ixE0, ↓ixE1, ↓ixE2, ↓ixE3, ↓ixE4, ↓ixQ0, ↓ixQ1, ↓ixQ2, ↓ixQ3, ↓ixQ4, ↓ixR0, ↓ixR1, ↓ixR2, ↓ixR3, ↓bindE, ↓bindR, ↓wWt_F, ↓add_FF]
  refine s_answer S.t2 S.a3 (by decide) hr ha ?_
  generalize hM1 : M.set 3 (.lst ((asked ++ [(q, now)]).map eAsk)) = M1 at S1 ⊢
  have f1 : Fr M M1 := by rw [← hM1]; exact .set3
  obtain ⟨dv, i, v, hd⟩ := S1.s5
  generalize ansV rs (asked.length + 1) = r at k ⊢
  simp_all only [ins_of S1.k4, lk_shelf, ins_of i, lk_drop, hm, ↓ixE0, ↓ixE1, ↓ixE2, ↓ixE3, ↓ixE4, ↓ixQ0, ↓ixQ1, ↓ixQ2, ↓ixQ3, ↓ixQ4, ↓ixR0, ↓ixR1, ↓ixR2, ↓ixR3, ↓bindE, ↓bindR, ↓wWt_F, ↓add_FF]
  have k : ∀ M', Fr M M' → Sys M' room rs (asked ++ [(q, now)]) (progAct room rows (if (methN.any fun n => decide (n = q.me)) = false ∧ 200 ≤ r.st ∧ r.st ≤ 399 then .drop q.tg else .no)) → Q (.d (eOut (r, "fetched"))) M' := k
  refine ⟨fun ha => ⟨fun hb => ⟨fun hc => ?_, fun hc => ?_⟩, fun hb => ?_⟩, fun ha => ?_⟩
  · rw [if_pos ⟨(any_strs (ns := methN)).symm.trans ha, hb, hc⟩] at k
    refine s_shelf_drop i v hl ?_
    refine k _ (f1.trans (Ups.fr Ups.set S1.len)) (S1.put Ups.set (fun m e => by cases e) (List.getElem?_set_self (by have := S1.len; omega)) rfl)
  · rw [if_neg (fun h => hc h.2.2)] at k
    exact k _ f1 S1
  · rw [if_neg (fun h => hb h.2.1)] at k
    exact k _ f1 S1
  · have ha' : (methN.any fun n => decide (n = q.me)) = true := (any_strs (ns := methN)).symm.trans ha
    rw [if_neg (fun h => by rw [h.1] at ha'; cases ha')] at k
    exact k _ f1 S1
end Ow
set_option Elab.async false
set_option linter.all false
set_option maxRecDepth 100000
set_option maxHeartbeats 4000000
namespace Ow
open PySem L2
variable {Q : DV → Mem → Prop} {M : Mem} {room : Int} {rs : List Rp} {asked : List (Rq × Int)} {rows : List Row}
def askedV (asked : List (Rq × Int)) (q : Rq) (now : Int) (pl : Pl) : List (Rq × Int) := match sentV q pl with
  | none => asked
  | some q' => asked ++ [(q', now)]
theorem eQ_add {q : Rq} {p : Str × Str} : PyData.tuple [.str q.me, eT q.tg, eF (q.fs ++ [p]), .tuple [], .tuple []] = eQ ⟨q.me, q.tg, q.fs ++ [p]⟩ := rfl
theorem act_check {q : Rq} {r : Rp} {now : Int} {e : En} {p : Str × Str} : actV q r now (.check e p) = if r.st = 304 then .put (frV e r now now) else actNew q r now := rfl
theorem out_check {q : Rq} {r : Rp} {now : Int} {e : En} {p : Str × Str} : outV q r now (.check e p) = if r.st = 304 then (shV (frV e r now now) q now, ("checked" : Str)) else (r, ("fetched" : Str)) := rfl
theorem s_check {q : Rq} {now : Int} {e : En} {p : Str × Str} (S : Sys M room rs asked rows) (hs : ∀ r ∈ rows, SmallE r.2) (hl : rows.length ≤ 1000) (hr : 0 < rs.length) (hrs : ∀ r ∈ rs, B 1 r.fs) (ha : asked.length ≤ 1000) (hq : B 1 q.fs) (hg : q.me = "GET") (he : BE 20 e) (hp : ckV e = some p)
    (k : ∀ M', Fr M M' → Sys M' room rs (askedV asked q now (.check e p)) (progAct room rows (actV q (ansV rs (asked.length + 1)) now (.check e p))) → Q (.d (eOut (outV q (ansV rs (asked.length + 1)) now (.check e p)))) M') : wD F_Keeper_check [.r 4, .d (eE e), .d (eQ q), .d (.int now)] M Q := by
  have sq := B_small hq
  have h1 : q.fs.length + 1 ≤ lim := by have := hq.1; show _ ≤ 1000000; omega
  have hadd : PyData.tuple [eCk (some p)] = eF [p] := rfl
  have S1 := S.told (x := ((⟨q.me, q.tg, q.fs ++ [p]⟩ : Rq), now))
  simp_all only [g_Keeper_check, F_Keeper_check, s_checking he.small.r, hp, hadd, List.length_cons, List.length_nil, h1, eQ_add, ins_of S.k4, lk_origin, ins_of S.t2, lk_answer, ↓ixE0, ↓ixE1, ↓ixE2, ↓ixE3, ↓ixE4, ↓ixQ0, ↓ixQ1, ↓ixQ2, ↓ixQ3, ↓ixQ4, ↓ixR0, ↓ixR1, ↓ixR2, ↓ixR3, ↓bindE, ↓bindR, ↓wWt_F, ↓add_FF]
  refine s_answer S.t2 S.a3 (by decide) hr ha ?_
  have hrB : B 1 (ansV rs (asked.length + 1)).fs := by
    have hlt : min (asked.length + 1) rs.length - 1 < rs.length := by omega
    unfold ansV
    rw [List.getD_eq_getElem?_getD, List.getElem?_eq_getElem hlt]
    exact hrs _ (List.getElem_mem hlt)
  generalize hM1 : M.set 3 (.lst ((asked ++ [((⟨q.me, q.tg, q.fs ++ [p]⟩ : Rq), now)]).map eAsk)) = M1 at S1 ⊢
  have f1 : Fr M M1 := by rw [← hM1]; exact .set3
  have i := S1.s5
  obtain ⟨dv, i, v, hd⟩ := i
  generalize ansV rs (asked.length + 1) = r at k hrB ⊢
  have hf : BE 21 (frV e r now now) := BE_fr he hrB
  simp_all only [ins_of S1.k4, lk_shelf, ins_of i, lk_put, lk_keep, s_fr he (by decide) hrB, ↓ixE0, ↓ixE1, ↓ixE2, ↓ixE3, ↓ixE4, ↓ixQ0, ↓ixQ1, ↓ixQ2, ↓ixQ3, ↓ixQ4, ↓ixR0, ↓ixR1, ↓ixR2, ↓ixR3, ↓bindE, ↓bindR, ↓wWt_F, ↓add_FF]
  refine ⟨fun h => ?_, fun h => ?_⟩
  · refine s_keep (o := none) S1 hs hl hq hrB nofun fun M' f2 S2 => ?_
    have k2 := k M' (f1.trans f2)
    rw [act_check, out_check, if_neg h, if_neg h] at k2
    exact k2 S2
  · refine s_put_sys S1 hs hf.small hl fun M' f2 S2 => ?_
    have k2 := k M' (f1.trans f2)
    rw [act_check, out_check, if_pos h, if_pos h] at k2
    simp_all only [s_shown hg sq hf.small.r (show (frV e r now now).cm ≤ now from Int.le_refl _), ↓ixE0, ↓ixE1, ↓ixE2, ↓ixE3, ↓ixE4, ↓ixQ0, ↓ixQ1, ↓ixQ2, ↓ixQ3, ↓ixQ4, ↓ixR0, ↓ixR1, ↓ixR2, ↓ixR3, ↓bindE, ↓bindR, ↓wWt_F, ↓add_FF]
    exact k2 S2
theorem s_kask {q : Rq} {now : Int} (S : Sys M room rs asked rows) (hs : ∀ r ∈ rows, BE 20 r.2 ∧ r.2.cm ≤ now) (hl : rows.length ≤ 900) (hr : 0 < rs.length) (hrs : ∀ r ∈ rs, B 1 r.fs) (ha : asked.length ≤ 1000) (hq : B 1 q.fs) (h0 : 0 ≤ now) (h1 : now < 86400)
    (k : ∀ M', Fr M M' → Sys M' room rs (askedV asked q now (planV q now (foundV q rows))) (progAct room (afterV q rows) (actV q (ansV rs (asked.length + 1)) now (planV q now (foundV q rows)))) → Q (.d (eOut (outV q (ansV rs (asked.length + 1)) now (planV q now (foundV q rows))))) M') :
    wD F_Keeper_ask [.r 4, .d (eQ q), .d (.int now)] M Q := by
  have sq := B_small hq
  have hk : PyData.tuple [.str "if-none-match", .str "if-modified-since"] = .tuple (knowN.map .str) := rfl
  have hrB : B 1 (ansV rs (asked.length + 1)).fs := by
    have hlt : min (asked.length + 1) rs.length - 1 < rs.length := by omega
    unfold ansV
    rw [List.getD_eq_getElem?_getD, List.getElem?_eq_getElem hlt]
    exact hrs _ (List.getElem_mem hlt)
  obtain ⟨dv, i, v, hd⟩ := S.s5
  simp_all only [g_Keeper_ask, F_Keeper_ask, s_passed sq, ins_of S.k4, lk_passon, lk_shelf, ins_of i, lk_find, ↓ixE0, ↓ixE1, ↓ixE2, ↓ixE3, ↓ixE4, ↓ixQ0, ↓ixQ1, ↓ixQ2, ↓ixQ3, ↓ixQ4, ↓ixR0, ↓ixR1, ↓ixR2, ↓ixR3, ↓bindE, ↓bindR, ↓wWt_F, ↓add_FF]
  cases hpass : passV q with
  | true =>
    simp_all only [↓ixE0, ↓ixE1, ↓ixE2, ↓ixE3, ↓ixE4, ↓ixQ0, ↓ixQ1, ↓ixQ2, ↓ixQ3, ↓ixQ4, ↓ixR0, ↓ixR1, ↓ixR2, ↓ixR3, ↓bindE, ↓bindR, ↓wWt_F, ↓add_FF]
    refine s_pass_on S (by omega) hr ha ?_
    unfold planV foundV afterV askedV at k
    simp only [hpass, if_true] at k
    exact k
  | false =>
    have hg : q.me = "GET" := by
      unfold passV at hpass
      by_cases h : q.me = "GET"
      · exact h
      · rw [decide_eq_false h] at hpass; cases hpass
    have hbe : ∀ b, bestV q rows = some b → BE 20 b.2 ∧ b.2.cm ≤ now := fun b h => hs b (best_mem h)
    have hmoved : ∀ b, bestV q rows = some b → (∀ r ∈ moved rows b, SmallE r.2) ∧ (moved rows b).length ≤ 1000 := fun b h => by
      unfold moved
      refine ⟨fun r hr => ?_, ?_⟩
      · rcases List.mem_append.mp hr with z | z
        · exact (hs r (List.mem_filter.mp z).1).1.small
        · rw [List.mem_singleton.mp z]; exact (hbe b h).1.small
      · rw [List.length_append]
        have := List.length_filter_le (fun r : Row => !decide (r.1 = b.1)) rows
        simp only [List.length_cons, List.length_nil]
        omega
    unfold planV foundV afterV at k
    simp only [hpass, Bool.false_eq_true, if_false] at k
    simp_all only [Bool.false_eq_true, ↓ixE0, ↓ixE1, ↓ixE2, ↓ixE3, ↓ixE4, ↓ixQ0, ↓ixQ1, ↓ixQ2, ↓ixQ3, ↓ixQ4, ↓ixR0, ↓ixR1, ↓ixR2, ↓ixR3, ↓bindE, ↓bindR, ↓wWt_F, ↓add_FF]
    refine s_shelf_find i v (fun r hr => (hs r hr).1.small) sq (by omega) (fun e => ?_) fun b e => ?_
    · simp only [e, Option.map_none] at k
      simp_all only [s_rds sq, s_directive, ru_eq, eBo, s_wd h0 h1, ins_of S.k4, lk_origin, ins_of S.t2, lk_answer, ↓ixE0, ↓ixE1, ↓ixE2, ↓ixE3, ↓ixE4, ↓ixQ0, ↓ixQ1, ↓ixQ2, ↓ixQ3, ↓ixQ4, ↓ixR0, ↓ixR1, ↓ixR2, ↓ixR3, ↓bindE, ↓bindR, ↓wWt_F, ↓add_FF]
      refine ⟨fun h => ?_, fun h => ?_⟩
      · rw [if_pos (show (ruV q.fs "only-if-cached").1 = true from h)] at k
        exact k M .refl S
      · rw [if_neg (nf (show (ruV q.fs "only-if-cached").1 = false from h))] at k
        refine s_answer S.t2 S.a3 (by decide) hr ha ?_
        have S1 := S.told (x := (q, now))
        generalize hM1 : M.set 3 (.lst ((asked ++ [(q, now)]).map eAsk)) = M1 at S1 ⊢
        have f1 : Fr M M1 := by rw [← hM1]; exact .set3
        simp_all only [ins_of S1.k4, lk_keep, ↓ixE0, ↓ixE1, ↓ixE2, ↓ixE3, ↓ixE4, ↓ixQ0, ↓ixQ1, ↓ixQ2, ↓ixQ3, ↓ixQ4, ↓ixR0, ↓ixR1, ↓ixR2, ↓ixR3, ↓bindE, ↓bindR, ↓wWt_F, ↓add_FF]
        exact s_keep (o := none) S1 (fun r hr => (hs r hr).1.small) (by omega) hq hrB nofun fun M' f2 S2 => k M' (f1.trans f2) S2
    · obtain ⟨be, hcm⟩ := hbe b e
      obtain ⟨hs2, hl2⟩ := hmoved b e
      simp only [e, Option.map_some] at k
      have ne : isNb (eE b.2) = false := rfl
      have S0 : Sys (M.set 5 (.ins "Shelf" (shF room (.d (eRows (moved rows b)))))) room rs asked (moved rows b) := S.put Ups.set (fun m e => by cases e) (List.getElem?_set_self (by have := S.len; omega)) rfl
      generalize hM0 : M.set 5 (.ins "Shelf" (shF room (.d (eRows (moved rows b))))) = M0 at S0 ⊢
      have f0 : Fr M M0 := by rw [← hM0]; exact Ups.fr Ups.set S.len
      simp_all only [ne, s_usable sq be.small.r, s_shown hg sq be.small.r hcm, s_rds sq, s_directive, ru_eq, eBo, s_wd h0 h1, hk, s_has_one sq, s_checking be.small.r, ins_of S0.k4, lk_check, lk_origin, ins_of S0.t2, lk_answer, ↓ixE0, ↓ixE1, ↓ixE2, ↓ixE3, ↓ixE4, ↓ixQ0, ↓ixQ1, ↓ixQ2, ↓ixQ3, ↓ixQ4, ↓ixR0, ↓ixR1, ↓ixR2, ↓ixR3, ↓bindE, ↓bindR, ↓wWt_F, ↓add_FF]
      refine ⟨fun h => ?_, fun h => ?_⟩
      · rw [if_pos h] at k; exact k M0 f0 S0
      rw [if_neg (nf h)] at k
      refine ⟨fun h2 => ?_, fun h2 => ?_⟩
      · rw [if_pos (show (ruV q.fs "only-if-cached").1 = true from h2)] at k
        exact k M0 f0 S0
      rw [if_neg (nf (show (ruV q.fs "only-if-cached").1 = false from h2))] at k
      have ask_ : (∀ M', Fr M M' → Sys M' room rs (asked ++ [(q, now)]) (progAct room (moved rows b) (actAsk q (ansV rs (asked.length + 1)) now (some b.2))) → Q (.d (eOut (ansV rs (asked.length + 1), "fetched"))) M') → wD F_Told_answer [.r 2, .d (eQ q), .d (.int now)] M0 fun x M1 => wo (insAt "Keeper" M1 4) fun fs => List.lookup ("keep" : Str) fs = none ∧ wD F_Keeper_keep [.r 4, .d (eE b.2), .d (eQ q), x, .d (.int now)] M1 Q := fun k => by
        refine s_answer S0.t2 S0.a3 (by decide) hr ha ?_
        have S1 := S0.told (x := (q, now))
        generalize hM1 : M0.set 3 (.lst ((asked ++ [(q, now)]).map eAsk)) = M1 at S1 ⊢
        have f1 : Fr M0 M1 := by rw [← hM1]; exact .set3
        simp_all only [ins_of S1.k4, lk_keep, ↓ixE0, ↓ixE1, ↓ixE2, ↓ixE3, ↓ixE4, ↓ixQ0, ↓ixQ1, ↓ixQ2, ↓ixQ3, ↓ixQ4, ↓ixR0, ↓ixR1, ↓ixR2, ↓ixR3, ↓bindE, ↓bindR, ↓wWt_F, ↓add_FF]
        exact s_keep (o := some b.2) S1 hs2 hl2 hq hrB (fun e he => by cases he; exact be) fun M' f2 S2 => k M' ((f0.trans f1).trans f2) S2
      refine ⟨fun h3 => ?_, fun h3 => ?_⟩
      · rw [if_neg (nf h3)] at k
        cases hck : ckV b.2 with
        | none =>
          rw [hck] at k
          exact ⟨fun h => absurd h (by decide), fun _ => ask_ k⟩
        | some p =>
          rw [hck] at k
          refine ⟨fun _ => ?_, fun h => absurd h (by show ¬ isNb (eP p) = true; exact nf rfl)⟩
          exact s_check S0 hs2 hl2 hr hrs ha hq hg be hck fun M' f2 S2 => k M' (f0.trans f2) S2
      · rw [if_pos h3] at k
        exact ask_ k
end Ow
set_option Elab.async false
set_option linter.all false
set_option maxRecDepth 100000
set_option maxHeartbeats 4000000
namespace Ow
open PySem L2
/-! ### the two shelves hold the same -/
structure Tr where
  a : Int
  b : Int
  e : En
def lT (ts : List Tr) : List Row := ts.map fun t => (t.a, t.e)
def pT (ts : List Tr) : List Row := ts.map fun t => (t.b, t.e)
structure Od (k : Int) (ts : List Tr) : Prop where
  od : ∀ x ∈ ts, ∀ y ∈ ts, (x.a < y.a ↔ x.b < y.b)
  le : ∀ x ∈ ts, x.a ≤ k
theorem Od.sub {k : Int} {ts us : List Tr} (h : Od k ts) (s : ∀ x ∈ us, x ∈ ts) : Od k us := ⟨fun x hx y hy => h.od x (s x hx) y (s y hy), fun x hx => h.le x (s x hx)⟩
theorem Od.eq {k : Int} {ts : List Tr} (h : Od k ts) {x y : Tr} (hx : x ∈ ts) (hy : y ∈ ts) : x.a = y.a ↔ x.b = y.b := by
  have h1 := h.od x hx y hy
  have h2 := h.od y hy x hx
  constructor <;> intro e <;> omega
theorem fold_t {q : Rq} {k : Int} {ts : List Tr} (h : Od k ts) : ∀ (us : List Tr), (∀ x ∈ us, x ∈ ts) → ∀ o : Option Tr, (∀ x, o = some x → x ∈ ts) → ∃ o' : Option Tr, (∀ x, o' = some x → x ∈ ts) ∧ (lT us).foldl (stepV q) (o.map fun t => (t.a, t.e)) = o'.map (fun t => (t.a, t.e)) ∧ (pT us).foldl (stepV q) (o.map fun t => (t.b, t.e)) = o'.map (fun t => (t.b, t.e))
  | [], _, o, ho => ⟨o, ho, rfl, rfl⟩
  | u :: us, hu, o, ho => by
    have hut := hu u List.mem_cons_self
    have step : ∃ o1 : Option Tr, (∀ x, o1 = some x → x ∈ ts) ∧ stepV q (o.map fun t => (t.a, t.e)) (u.a, u.e) = o1.map (fun t => (t.a, t.e)) ∧ stepV q (o.map fun t => (t.b, t.e)) (u.b, u.e) = o1.map (fun t => (t.b, t.e)) := by
      unfold stepV
      cases hf : fitsV u.e q with
      | false => exact ⟨o, ho, by rw [if_neg Bool.false_ne_true], by rw [if_neg Bool.false_ne_true]⟩
      | true =>
        rw [if_pos rfl, if_pos rfl]
        cases o with
        | none => exact ⟨some u, fun x e => by cases e; exact hut, rfl, rfl⟩
        | some t =>
          have ht := ho t rfl
          have eb : better (t.a, t.e) (u.a, u.e) = better (t.b, t.e) (u.b, u.e) := by
            unfold better
            show (if rankV t.e = rankV u.e then decide (t.a < u.a) else decide (rankV t.e < rankV u.e)) = (if rankV t.e = rankV u.e then decide (t.b < u.b) else decide (rankV t.e < rankV u.e))
            rw [decide_eq_decide.mpr (h.od t ht u hut)]
          cases hb : better (t.b, t.e) (u.b, u.e) with
          | true =>
            refine ⟨some u, fun x e => by cases e; exact hut, ?_, ?_⟩
            · show (if better (t.a, t.e) (u.a, u.e) = true then _ else _) = _
              rw [eb, if_pos hb]; rfl
            · show (if better (t.b, t.e) (u.b, u.e) = true then _ else _) = _
              rw [if_pos hb]; rfl
          | false =>
            refine ⟨some t, fun x e => by cases e; exact ht, ?_, ?_⟩
            · show (if better (t.a, t.e) (u.a, u.e) = true then _ else _) = _
              rw [eb, if_neg (nf hb)]; rfl
            · show (if better (t.b, t.e) (u.b, u.e) = true then _ else _) = _
              rw [if_neg (nf hb)]; rfl
    obtain ⟨o1, h1, h2, h3⟩ := step
    obtain ⟨o2, h4, h5, h6⟩ := fold_t (q := q) h us (fun x hx => hu x (List.mem_cons_of_mem _ hx)) o1 h1
    refine ⟨o2, h4, ?_, ?_⟩
    · show (lT us).foldl (stepV q) (stepV q (o.map fun t => (t.a, t.e)) (u.a, u.e)) = _
      rw [h2]; exact h5
    · show (pT us).foldl (stepV q) (stepV q (o.map fun t => (t.b, t.e)) (u.b, u.e)) = _
      rw [h3]; exact h6
theorem best_t {q : Rq} {k : Int} {ts : List Tr} (h : Od k ts) : ∃ o : Option Tr, (∀ x, o = some x → x ∈ ts) ∧ bestV q (lT ts) = o.map (fun t => (t.a, t.e)) ∧ bestV q (pT ts) = o.map (fun t => (t.b, t.e)) :=
  fold_t h ts (fun _ hx => hx) none nofun
theorem moved_t {k : Int} {ts : List Tr} (h : Od k ts) {t : Tr} (ht : t ∈ ts) : ∃ us, moved (lT ts) (t.a, t.e) = lT us ∧ moved (pT ts) (t.b, t.e) = pT us ∧ Od k us ∧ (∀ x ∈ us, x ∈ ts) ∧ us.length ≤ ts.length := by
  refine ⟨ts.filter (fun x => !decide (x.a = t.a)) ++ [t], ?_, ?_, ?_, ?_, ?_⟩
  · unfold moved lT
    rw [List.filter_map, List.map_append]
    rfl
  · unfold moved pT
    rw [List.filter_map, List.map_append]
    congr 1
    congr 1
    refine List.filter_congr fun x hx => ?_
    show (!decide (x.b = t.b)) = !decide (x.a = t.a)
    rw [decide_eq_decide.mpr (h.eq hx ht)]
  · refine h.sub fun x hx => ?_
    rcases List.mem_append.mp hx with z | z
    · exact (List.mem_filter.mp z).1
    · rw [List.mem_singleton.mp z]; exact ht
  · intro x hx
    rcases List.mem_append.mp hx with z | z
    · exact (List.mem_filter.mp z).1
    · rw [List.mem_singleton.mp z]; exact ht
  · rw [List.length_append]
    have : (ts.filter fun x => !decide (x.a = t.a)).length < ts.length := by
      refine Nat.lt_of_le_of_ne (List.length_filter_le _ _) fun e => ?_
      have := List.length_filter_eq_length_iff.mp e t ht
      simp at this
    simp only [List.length_cons, List.length_nil]
    omega
theorem max_ge : ∀ (ns : List Int) (y : Int), y ≤ ns.foldl (fun a z => if a < z then z else a) y ∧ ∀ n ∈ ns, n ≤ ns.foldl (fun a z => if a < z then z else a) y
  | [], y => ⟨Int.le_refl _, nofun⟩
  | n :: ns, y => by
    obtain ⟨h1, h2⟩ := max_ge ns (if y < n then n else y)
    rw [List.foldl_cons]
    refine ⟨?_, fun m hm => ?_⟩
    · refine Int.le_trans ?_ h1
      split <;> omega
    · rcases List.mem_cons.mp hm with rfl | hm
      · refine Int.le_trans ?_ h1
        split <;> omega
      · exact h2 m hm
theorem maxI_ge {ns : List Int} {n : Int} (h : n ∈ ns) : n ≤ maxI 0 ns := by
  cases ns with
  | nil => cases h
  | cons y ys =>
    obtain ⟨h1, h2⟩ := max_ge ys y
    rcases List.mem_cons.mp h with rfl | h
    · exact h1
    · exact h2 n h
theorem put_t {room k : Int} {ts : List Tr} (h : Od k ts) (e : En) : ∃ us, putV room (k + 1) (lT ts) e = lT us ∧ shPut room (pT ts) e = pT us ∧ Od (k + 1) us ∧ (∀ x ∈ us, x ∈ ts ∨ x.e = e) ∧ us.length ≤ ts.length + 1 := by
  let n := 1 + maxI 0 ((pT ts).map (·.1))
  have hn : ∀ x ∈ ts, x.b < n := fun x hx => by
    have : x.b ≤ maxI 0 ((pT ts).map (·.1)) := maxI_ge (by unfold pT; rw [List.map_map]; exact List.mem_map.mpr ⟨x, hx, rfl⟩)
    show x.b < 1 + maxI 0 ((pT ts).map (·.1))
    omega
  let vs := ts.filter (fun x => !fitsV x.e ⟨"GET", e.tg, e.fs⟩) ++ [⟨k + 1, n, e⟩]
  have hmem : ∀ x ∈ vs, x ∈ ts ∨ x = ⟨k + 1, n, e⟩ := fun x hx => by
    rcases List.mem_append.mp hx with z | z
    · exact .inl (List.mem_filter.mp z).1
    · exact .inr (List.mem_singleton.mp z)
  have hod : Od (k + 1) vs := by
    refine ⟨fun x hx y hy => ?_, fun x hx => ?_⟩
    · rcases hmem x hx with hx | rfl <;> rcases hmem y hy with hy | rfl
      · exact h.od x hx y hy
      · have h1 := h.le x hx
        have h2 := hn x hx
        exact ⟨fun _ => h2, fun _ => by show x.a < k + 1; omega⟩
      · have h1 := h.le y hy
        have h2 := hn y hy
        constructor
        · intro z
          have z : k + 1 < y.a := z
          omega
        · intro z
          have z : n < y.b := z
          omega
      · exact ⟨fun z => absurd z (Int.lt_irrefl _), fun z => absurd z (Int.lt_irrefl _)⟩
    · rcases hmem x hx with hx | rfl
      · have := h.le x hx; omega
      · exact Int.le_refl _
  have el : (lT ts).filter (fun r => !fitsV r.2 ⟨"GET", e.tg, e.fs⟩) ++ [(k + 1, e)] = lT vs := by
    unfold lT
    rw [List.filter_map, List.map_append]
    rfl
  have ep : (pT ts).filter (fun r => !fitsV r.2 ⟨"GET", e.tg, e.fs⟩) ++ [(n, e)] = pT vs := by
    unfold pT
    rw [List.filter_map, List.map_append]
    rfl
  have ll : (lT vs).length = vs.length := List.length_map _
  have lp : (pT vs).length = vs.length := List.length_map _
  have lv : vs.length ≤ ts.length + 1 := by
    show (ts.filter (fun x => !fitsV x.e ⟨"GET", e.tg, e.fs⟩) ++ [(⟨k + 1, n, e⟩ : Tr)]).length ≤ _
    rw [List.length_append]
    have := List.length_filter_le (fun x : Tr => !fitsV x.e ⟨"GET", e.tg, e.fs⟩) ts
    simp only [List.length_cons, List.length_nil]
    omega
  have hm2 : ∀ x ∈ vs, x ∈ ts ∨ x.e = e := fun x hx => (hmem x hx).imp (fun z => z) fun z => by rw [z]
  by_cases hr : room < (vs.length : Int)
  · refine ⟨vs.drop 1, ?_, ?_, hod.sub fun x hx => List.mem_of_mem_drop hx, fun x hx => hm2 x (List.mem_of_mem_drop hx), by rw [List.length_drop]; omega⟩
    · show (if room < ((((lT ts).filter fun r => !fitsV r.2 ⟨"GET", e.tg, e.fs⟩) ++ [(k + 1, e)]).length : Int) then _ else _) = _
      rw [el, ll, if_pos hr]
      unfold lT
      rw [List.map_drop]
    · show (if room < ((((pT ts).filter fun r => !fitsV r.2 ⟨"GET", e.tg, e.fs⟩) ++ [(n, e)]).length : Int) then _ else _) = _
      rw [ep, lp, if_pos hr]
      unfold pT
      rw [List.map_drop]
  · refine ⟨vs, ?_, ?_, hod, hm2, lv⟩
    · show (if room < ((((lT ts).filter fun r => !fitsV r.2 ⟨"GET", e.tg, e.fs⟩) ++ [(k + 1, e)]).length : Int) then _ else _) = _
      rw [el, ll, if_neg hr]
    · show (if room < ((((pT ts).filter fun r => !fitsV r.2 ⟨"GET", e.tg, e.fs⟩) ++ [(n, e)]).length : Int) then _ else _) = _
      rw [ep, lp, if_neg hr]
theorem drop_t {k : Int} {ts : List Tr} (h : Od k ts) (t : List Int) : ∃ us, dropR (lT ts) t = lT us ∧ dropR (pT ts) t = pT us ∧ Od k us ∧ (∀ x ∈ us, x ∈ ts) ∧ us.length ≤ ts.length := by
  refine ⟨ts.filter fun x => !PyData.eqv (eT x.e.tg) (eT t), ?_, ?_, h.sub fun x hx => (List.mem_filter.mp hx).1, fun x hx => (List.mem_filter.mp hx).1, List.length_filter_le _ _⟩
  · unfold dropR lT
    rw [List.filter_map]
    rfl
  · unfold dropR pT
    rw [List.filter_map]
    rfl
theorem after_t {q : Rq} {k : Int} {ts : List Tr} (h : Od k ts) : ∃ us, afterV q (lT ts) = lT us ∧ afterV q (pT ts) = pT us ∧ Od k us ∧ (∀ x ∈ us, x ∈ ts) ∧ us.length ≤ ts.length ∧ foundV q (lT ts) = foundV q (pT ts) := by
  unfold afterV foundV
  by_cases hp : passV q = true
  · rw [if_pos hp, if_pos hp, if_pos hp, if_pos hp]
    exact ⟨ts, rfl, rfl, h, fun _ hx => hx, Nat.le_refl _, rfl⟩
  · rw [if_neg hp, if_neg hp, if_neg hp, if_neg hp]
    obtain ⟨o, h1, h2, h3⟩ := best_t (q := q) h
    rw [h2, h3]
    cases o with
    | none => exact ⟨ts, rfl, rfl, h, fun _ hx => hx, Nat.le_refl _, rfl⟩
    | some t =>
      obtain ⟨us, m1, m2, m3, m4, m5⟩ := moved_t h (h1 t rfl)
      exact ⟨us, m1, m2, m3, m4, m5, rfl⟩
theorem act_t {room k : Int} {ts : List Tr} (h : Od k ts) (a : Act) : ∃ us k', lawAct room (lT ts) k a = (lT us, k') ∧ progAct room (pT ts) a = pT us ∧ Od k' us ∧ (∀ x ∈ us, x ∈ ts ∨ a = .put x.e) ∧ us.length ≤ ts.length + 1 := by
  cases a with
  | no => exact ⟨ts, k, rfl, rfl, h, fun x hx => .inl hx, by omega⟩
  | put e =>
    obtain ⟨us, h1, h2, h3, h4, h5⟩ := put_t (room := room) h e
    exact ⟨us, k + 1, by show (putV room (k + 1) (lT ts) e, k + 1) = _; rw [h1], h2, h3, fun x hx => (h4 x hx).imp (fun z => z) fun z => by rw [z], h5⟩
  | drop t =>
    obtain ⟨us, h1, h2, h3, h4, h5⟩ := drop_t h t
    exact ⟨us, k, by show (dropR (lT ts) t, k) = _; rw [h1], h2, h3, fun x hx => .inl (h4 x hx), by omega⟩
end Ow
set_option Elab.async false
set_option linter.all false
set_option maxRecDepth 100000
set_option maxHeartbeats 4000000
namespace Ow
open PySem L2
variable {Q : DV → Mem → Prop}
/-! ### draws -/
def DrO (o : MO) : Prop := ∃ (cells : List Int) (a c s : Int), o = .lst [.list (cells.map .int), .int a, .int c, .int s] ∧ -1 ≤ a
theorem ix40 {P : Nat → Prop} : wo (ixN 4 0) P ↔ P 0 := wo_eq (by decide)
theorem ix41 {P : Nat → Prop} : wo (ixN 4 1) P ↔ P 1 := wo_eq (by decide)
theorem ix42 {P : Nat → Prop} : wo (ixN 4 2) P ↔ P 2 := wo_eq (by decide)
theorem ix43 {P : Nat → Prop} : wo (ixN 4 3) P ↔ P 3 := wo_eq (by decide)
theorem g40 {a b c d : PyData} {P : PyData → Prop} : wo (([a, b, c, d] : List PyData)[0]?) P ↔ P a := wo_some
theorem g41 {a b c d : PyData} {P : PyData → Prop} : wo (([a, b, c, d] : List PyData)[1]?) P ↔ P b := wo_some
theorem g42 {a b c d : PyData} {P : PyData → Prop} : wo (([a, b, c, d] : List PyData)[2]?) P ↔ P c := wo_some
theorem g43 {a b c d : PyData} {P : PyData → Prop} : wo (([a, b, c, d] : List PyData)[3]?) P ↔ P d := wo_some
theorem s_take {o : MO} {m : Int} (h : DrO o) (h0 : 0 < m) (h1 : m < 1073741824) (k : ∀ v o', 0 ≤ v → v < m → DrO o' → Q (.d (.int v)) [o']) : wD F__law_take [.r 0, .d (.int m)] [o] Q := by
  obtain ⟨cells, a, c, s, rfl, ha⟩ := h
  have fin : ∀ (a c s : Int), -1 ≤ a → Q (.d (.int (c % m))) [.lst [.list (cells.map .int), .int a, .int (c / m), .int s]] := fun a c s ha =>
    k _ _ (Int.emod_nonneg _ (by omega)) (Int.emod_lt_of_pos _ h0) ⟨cells, a, c / m, s, rfl, ha⟩
  simp_all only [g__law_take, F__law_take, o_ix_l, ix40, ix41, ix42, ix43, g40, g41, g42, g43, h0, h1, List.length_map, ↓ixE0, ↓ixE1, ↓ixE2, ↓ixE3, ↓ixE4, ↓ixQ0, ↓ixQ1, ↓ixQ2, ↓ixQ3, ↓ixQ4, ↓ixR0, ↓ixR1, ↓ixR2, ↓ixR3, ↓bindE, ↓bindR, ↓wWt_F, ↓add_FF]
  refine ⟨fun hc => ⟨fun hlt => ?_, fun hge => ?_⟩, fun hc => fin a c s ha⟩
  · rw [ixN_ok (by omega) hlt, wo_some, List.getElem?_map, List.getElem?_eq_getElem (by omega)]
    simp_all only [Option.map_some, wo_some, o_ix_l, ix40, ix41, ix42, ix43, g40, g41, g42, g43, h0, h1, ↓ixE0, ↓ixE1, ↓ixE2, ↓ixE3, ↓ixE4, ↓ixQ0, ↓ixQ1, ↓ixQ2, ↓ixQ3, ↓ixQ4, ↓ixR0, ↓ixR1, ↓ixR2, ↓ixR3, ↓bindE, ↓bindR, ↓wWt_F, ↓add_FF]
    exact ⟨fun _ => fin _ _ _ (by omega), fun _ => fin _ _ _ (by omega)⟩
  · first
    | exact ⟨fun _ => fin _ _ _ (by omega), fun _ => fin _ _ _ (by omega)⟩
    | exact fin _ _ _ (by omega)
theorem s_takeN {o : MO} {M : Mem} {m : Int} {P : PyData → Mem → Prop} (hM : M[0]? = some o) (h : DrO o) (h0 : 0 < m) (h1 : m < 1073741824) (k : ∀ v o', 0 ≤ v → v < m → DrO o' → P (.int v) (M.set 0 o')) : wN F__law_take [.r 0, .d (.int m)] M P := by
  have hf : flat o = true := by obtain ⟨_, _, _, _, rfl, _⟩ := h; rfl
  refine wN_1 hM hf rfl (s_take h h0 h1 fun v o' a b d => ⟨_, _, rfl, rfl, ?_, k v o' a b d⟩)
  obtain ⟨_, _, _, _, rfl, _⟩ := d
  rfl
end Ow
set_option Elab.async false
set_option linter.all false
set_option maxRecDepth 100000
set_option maxHeartbeats 4000000
namespace Ow
open PySem L2
/-! ### fields that are drawn -/
structure IsF (n : Nat) (fs : Flds) : Prop where
  len : fs.length ≤ n
  val : ∀ p ∈ fs, p.2.length ≤ 40
theorem IsF.b {fs : Flds} {n : Nat} (h : IsF n fs) (hn : n ≤ 16 := by decide) : B 1 fs := by
  have hw : weigh (fs.map (·.2)) ≤ 42 * fs.length := by
    have := h.val
    clear h
    induction fs with
    | nil => exact Nat.le_refl _
    | cons p fs ih =>
      have h1 := this p List.mem_cons_self
      have h2 := ih fun q hq => this q (List.mem_cons_of_mem _ hq)
      rw [List.map_cons, weigh_cons, List.length_cons]
      omega
  have := h.len
  exact ⟨by omega, by omega⟩
theorem IsF.up {fs : Flds} {m n : Nat} (h : IsF m fs) (hn : m ≤ n) : IsF n fs := ⟨Nat.le_trans h.len hn, h.val⟩
theorem IsF.snoc {fs : Flds} {n : Nat} {p : Str × Str} (h : IsF n fs) (hp : p.2.length ≤ 40) : IsF (n + 1) (fs ++ [p]) := ⟨by rw [List.length_append]; have := h.len; simp only [List.length_cons, List.length_nil]; omega, fun q hq => by
  rcases List.mem_append.mp hq with z | z
  · exact h.val q z
  · rw [List.mem_singleton.mp z]; exact hp⟩
/-- the draws at 0, the fields at 1 -/
def Jm (n : Nat) (M : Mem) : Prop := ∃ o fs, M = [o, .lst (fs.map eP)] ∧ DrO o ∧ IsF n fs
theorem Jm.up {m n : Nat} {M : Mem} (h : Jm m M) (hn : m ≤ n) : Jm n M := by
  obtain ⟨o, fs, e, d, f⟩ := h
  exact ⟨o, fs, e, d, f.up hn⟩
theorem e_take {n : Nat} {ds : DS} {M : Mem} {m : Int} {Q : DV → Mem → Prop} (h0 : at_ ds 0 = some (.r 0)) (hJ : Jm n M) (hm : 0 < m) (hm2 : m < 1073741824) (k : ∀ v M', 0 ≤ v → v < m → Jm n M' → Q (.d (.int v)) M') : wE (sOne F__law_take (sCons (sVar 0) (sCons (sC (.int m)) sNil))) ds M Q := by
  obtain ⟨o, fs, rfl, d, f⟩ := hJ
  simp_all only [h0, wo_some, ↓ixE0, ↓ixE1, ↓ixE2, ↓ixE3, ↓ixE4, ↓ixQ0, ↓ixQ1, ↓ixQ2, ↓ixQ3, ↓ixQ4, ↓ixR0, ↓ixR1, ↓ixR2, ↓ixR3, ↓bindE, ↓bindR, ↓wWt_F, ↓add_FF]
  exact s_takeN rfl d hm hm2 fun v o' a b d' => k v _ a b ⟨o', fs, rfl, d', f⟩
theorem t_take {n : Nat} {ds : DS} {M : Mem} {m i : Int} {r : PyData → PyData → Option PyData} (hr : ∀ v : Int, ∃ b, r (.int v) (.int i) = some (.bool b)) (h0 : at_ ds 0 = some (.r 0)) (hJ : Jm n M) (hm : 0 < m) (hm2 : m < 1073741824) : wT (isB (sOp r (sOne F__law_take (sCons (sVar 0) (sCons (sC (.int m)) sNil))) (sC (.int i)))) ds M fun _ M' => Jm n M' := by
  rw [wT_isB, wE_op]
  refine e_take h0 hJ hm hm2 fun v M' _ _ hJ' => ?_
  obtain ⟨b, e⟩ := hr v
  simp_all only [e, wo_some, ↓ixE0, ↓ixE1, ↓ixE2, ↓ixE3, ↓ixE4, ↓ixQ0, ↓ixQ1, ↓ixQ2, ↓ixQ3, ↓ixQ4, ↓ixR0, ↓ixR1, ↓ixR2, ↓ixR3, ↓bindE, ↓bindR, ↓wWt_F, ↓add_FF]
  exact hJ'
theorem eq_bool (v i : Int) : ∃ b, eqF (.int v) (.int i) = some (.bool b) := ⟨_, by unfold eqF; rw [if_pos ⟨shp_i, shp_i⟩]⟩
theorem gt_bool (v i : Int) : ∃ b, gtF (.int v) (.int i) = some (.bool b) := ⟨_, rfl⟩
/-- if a draw says so: one more field -/
theorem seg {n : Nat} {ds : DS} {M : Mem} {nm : Str} {t : ST} {fv : SE} (hn : n ≤ 1000) (h3 : at_ ds 3 = some (.r 1)) (hJ : Jm n M) (ht : wT t ds M fun _ M' => Jm n M') (hv : ∀ M', Jm n M' → wE fv ds M' fun r M2 => Jm n M2 ∧ ∃ x : Str, r = .d (.str x) ∧ x.length ≤ 40) :
    wS (sIf t (sDrop (sApp (sVar 3) (sCons (sTup (sCons (sC (.str nm)) (sCons fv sNil))) sNil))) sSkip) ds M fun fl => ∃ M', fl = .nx ds M' ∧ Jm (n + 1) M' := by
  rw [wS_if]
  refine ht.mono fun b M1 h1 => ⟨fun _ => ?_, fun _ => ?_⟩
  · have h1' := h1
    obtain ⟨o, fs, rfl, d, f⟩ := h1
    simp_all only [h3, wo_some, ↓ixE0, ↓ixE1, ↓ixE2, ↓ixE3, ↓ixE4, ↓ixQ0, ↓ixQ1, ↓ixQ2, ↓ixQ3, ↓ixQ4, ↓ixR0, ↓ixR1, ↓ixR2, ↓ixR3, ↓bindE, ↓bindR, ↓wWt_F, ↓add_FF]
    refine (hv _ h1').mono fun r M2 ⟨h2, x, e, hx⟩ => ?_
    obtain ⟨o2, fs2, rfl, d2, f2⟩ := h2
    subst e
    have hl : (fs2.map eP).length < lim := by rw [List.length_map]; have := f2.len; show _ < 1000000; omega
    simp_all only [hl, ↓ixE0, ↓ixE1, ↓ixE2, ↓ixE3, ↓ixE4, ↓ixQ0, ↓ixQ1, ↓ixQ2, ↓ixQ3, ↓ixQ4, ↓ixR0, ↓ixR1, ↓ixR2, ↓ixR3, ↓bindE, ↓bindR, ↓wWt_F, ↓add_FF]
    exact ⟨_, rfl, o2, fs2 ++ [(nm, x)], by rw [List.map_append]; rfl, d2, f2.snoc hx⟩
  · rw [wS_skip]
    exact ⟨_, rfl, h1.up (by omega)⟩
theorem seq_step {g1 g2 : SS} {ds : DS} {M : Mem} {D : Fl → Prop} (J : DS → Mem → Prop) (h1 : wS g1 ds M fun fl => ∃ ds' M', fl = .nx ds' M' ∧ J ds' M') (h2 : ∀ ds' M', J ds' M' → wS g2 ds' M' D) : wS (sSeq g1 g2) ds M D := by
  rw [wS_seq]
  refine h1.mono fun fl ⟨ds', M', e, hJ⟩ => ?_
  subst e
  exact h2 ds' M' hJ
/-- the same, the slots stay -/
theorem seg_step {g1 g2 : SS} {ds : DS} {M : Mem} {D : Fl → Prop} {n : Nat} (h1 : wS g1 ds M fun fl => ∃ M', fl = .nx ds M' ∧ Jm n M') (h2 : ∀ M', Jm n M' → wS g2 ds M' D) : wS (sSeq g1 g2) ds M D := by
  rw [wS_seq]
  refine h1.mono fun fl ⟨M', e, hJ⟩ => ?_
  subst e
  exact h2 M' hJ
/-- one of these texts -/
theorem e_pick {n : Nat} {ds : DS} {M : Mem} {f : SE} {cs : List Str} {m : Int} (h0 : at_ ds 0 = some (.r 0)) (hJ : Jm n M) (hf : ∀ M, wE f ds M fun r M' => M' = M ∧ r = .d (.list (cs.map .str))) (hm : m = cs.length) (hm0 : 0 < m) (hm2 : m < 1073741824) :
    wE (sOp ixF f (sOne F__law_take (sCons (sVar 0) (sCons (sC (.int m)) sNil)))) ds M fun r M2 => Jm n M2 ∧ ∃ x ∈ cs, r = .d (.str x) := by
  rw [wE_op]
  refine (hf M).mono fun r M1 ⟨e1, e2⟩ => ?_
  subst e1 e2
  refine e_take h0 hJ hm0 hm2 fun v M' a b hJ' => ?_
  have hv : v.toNat < cs.length := by omega
  simp_all only [o_ix_l, List.length_map, ↓ixE0, ↓ixE1, ↓ixE2, ↓ixE3, ↓ixE4, ↓ixQ0, ↓ixQ1, ↓ixQ2, ↓ixQ3, ↓ixQ4, ↓ixR0, ↓ixR1, ↓ixR2, ↓ixR3, ↓bindE, ↓bindR, ↓wWt_F, ↓add_FF]
  rw [ixN_ok a (by omega), wo_some, List.getElem?_map, List.getElem?_eq_getElem hv]
  refine wo_some.mpr ⟨hJ', cs[v.toNat], List.getElem_mem hv, rfl⟩
theorem e_pickL {n : Nat} {ds : DS} {M : Mem} {f : SE} {cs : List Str} {m : Int} (h0 : at_ ds 0 = some (.r 0)) (hJ : Jm n M) (hf : ∀ M, wE f ds M fun r M' => M' = M ∧ r = .d (.list (cs.map .str))) (hm : m = cs.length) (hm0 : 0 < m) (hm2 : m < 1073741824) (hc : ∀ x ∈ cs, x.length ≤ 40) :
    wE (sOp ixF f (sOne F__law_take (sCons (sVar 0) (sCons (sC (.int m)) sNil)))) ds M fun r M2 => Jm n M2 ∧ ∃ x : Str, r = .d (.str x) ∧ x.length ≤ 40 :=
  (e_pick h0 hJ hf hm hm0 hm2).mono fun r M2 ⟨a, x, hx, e⟩ => ⟨a, x, e, hc x hx⟩
end Ow
set_option Elab.async false
set_option linter.all false
set_option maxRecDepth 100000
set_option maxHeartbeats 4000000
namespace Ow
open PySem L2
/-- a comprehension whose items draw -/
theorem lc_ints {α : Type} (enc : α → PyData) {p : Pat} {t : ST} {f : SE} {vs : List Nat} {w : DV} {full : List PyData} {ds : DS} (J : Mem → Prop) (hl : ∀ M, J M → live M w full) : ∀ (ys : List α),
    (∀ y ∈ ys, ∀ M, J M → wo (bindP p (enc y) (wipeD ds vs)) fun ds1 => wT t ds1 M fun b M1 => b = true ∧ wE f ds1 M1 fun r M2 => J M2 ∧ ∃ i : Int, r = .d (.int i)) →
    ∀ M, J M → ∃ (zs : List Int) (M' : Mem), lcD p t f vs w full ds (ys.map enc) M = some (zs.map .int, M') ∧ J M' ∧ zs.length = ys.length
  | [], _, M, h => ⟨[], M, by rw [List.map_nil]; unfold lcD; rw [if_pos (hl M h)]; rfl, h, rfl⟩
  | y :: r, hs, M, h => by
    obtain ⟨ds1, e1, ⟨b, M1⟩, e2, h1, ⟨v, M2⟩, e3, h2, i, e4⟩ := hs y List.mem_cons_self M h
    have h1 : b = true := h1
    have e4 : v = _ := e4
    subst h1 e4
    obtain ⟨zs, M', e5, h5, h6⟩ := lc_ints enc J hl r (fun z hz => hs z (List.mem_cons_of_mem _ hz)) M2 h2
    refine ⟨i :: zs, M', ?_, h5, by rw [List.length_cons, List.length_cons, h6]⟩
    rw [List.map_cons]
    unfold lcD
    rw [if_pos (hl M h), e1, Option.bind_some, e2, Option.bind_some]
    show ((f ds1 M1).bind fun y => (asD y.1).bind fun d => (lcD p t f vs w full ds (r.map enc) y.2).bind fun r => some (d :: r.1, r.2)) = _
    rw [e3, Option.bind_some]
    show ((lcD p t f vs w full ds (r.map enc) M2).bind fun r => some (PyData.int i :: r.1, r.2)) = _
    rw [e5]
    rfl
theorem str_lens (cs : List Str) (h : cs.all (fun x => decide (x.length ≤ 40)) = true) : ∀ x ∈ cs, x.length ≤ 40 := fun x hx => of_decide_eq_true (List.all_eq_true.mp h x hx)
/-- a written date a little ahead of the base -/
theorem e_date {n : Nat} {ds : DS} {M : Mem} {f : SE} {m : Int} {cs : List Int} {base : Int} (h0 : at_ ds 0 = some (.r 0)) (h1 : at_ ds 1 = some (.d (.int base))) (hb : base < 80000) (hJ : Jm n M) (hf : ∀ M, wE f ds M fun r M' => M' = M ∧ r = .d (.list (cs.map .int))) (hm : m = cs.length) (hm0 : 0 < m) (hm2 : m < 1073741824) (hc : ∀ x ∈ cs, 0 ≤ x) :
    wE (sPure F_write_date (sCons (sCB max2F (sCons (sC (.int 0)) (sCons (sOp subF (sVar 1) (sOp ixF f (sOne F__law_take (sCons (sVar 0) (sCons (sC (.int m)) sNil))))) sNil))) sNil)) ds M fun r M2 => Jm n M2 ∧ ∃ x : Str, r = .d (.str x) ∧ x.length ≤ 40 := by
  rw [wE_pure, wA_cons, wE_cb, wA_cons, wE_c, wA_cons, wE_op, wE_var, h1, wo_some, wE_op]
  refine (hf M).mono fun r M1 ⟨e1, e2⟩ => ?_
  subst e1 e2
  refine e_take h0 hJ hm0 hm2 fun v M' a b hJ' => ?_
  have hv : v.toNat < cs.length := by omega
  simp_all only [o_ix_l, List.length_map, ↓ixE0, ↓ixE1, ↓ixE2, ↓ixE3, ↓ixE4, ↓ixQ0, ↓ixQ1, ↓ixQ2, ↓ixQ3, ↓ixQ4, ↓ixR0, ↓ixR1, ↓ixR2, ↓ixR3, ↓bindE, ↓bindR, ↓wWt_F, ↓add_FF]
  rw [ixN_ok a (by omega), wo_some, List.getElem?_map, List.getElem?_eq_getElem hv]
  refine wo_some.mpr ?_
  have h2 := hc _ (List.getElem_mem hv)
  generalize cs[v.toNat] = c at h2 ⊢
  simp_all only [↓ixE0, ↓ixE1, ↓ixE2, ↓ixE3, ↓ixE4, ↓ixQ0, ↓ixQ1, ↓ixQ2, ↓ixQ3, ↓ixQ4, ↓ixR0, ↓ixR1, ↓ixR2, ↓ixR3, ↓bindE, ↓bindR, ↓wWt_F, ↓add_FF]
  refine (s_write ?_ ?_).mono fun z ⟨x, e, hx⟩ => ⟨hJ', x, by rw [e], hx⟩
  · split <;> omega
  · split <;> omega
theorem seg_rules {n : Nat} {base st : Int} {x6 : Option DV} {M : Mem} {nm : Str} {m : Int} {g : SE} {t : ST} {cs : List Str} (hn : n ≤ 1000) (hJ : Jm n M) (ht : ∀ x6, wT t [some (.r 0), some (.d (.int base)), some (.d (.int st)), some (.r 1), none, none, x6, none, none, none] M fun _ M' => Jm n M')
    (hg : ∀ ds M, wE g ds M fun r M' => M' = M ∧ r = .d (.list (cs.map .str))) (hm : m = cs.length) (hm0 : 0 < m) (hm2 : m < 1073741824) (hc : ∀ x ∈ cs, x.length ≤ 40) :
    wS (sIf t (sSeq (sSet 6 g) (sDrop (sApp (sVar 3) (sCons (sTup (sCons (sC (.str nm)) (sCons (sOp ixF (sVar 6) (sOne F__law_take (sCons (sVar 0) (sCons (sC (.int m)) sNil)))) sNil))) sNil)))) sSkip) [some (.r 0), some (.d (.int base)), some (.d (.int st)), some (.r 1), none, none, x6, none, none, none] M
      fun fl => ∃ ds' M', fl = .nx ds' M' ∧ (∃ x6, ds' = [some (.r 0), some (.d (.int base)), some (.d (.int st)), some (.r 1), none, none, x6, none, none, none]) ∧ Jm (n + 1) M' := by
  rw [wS_if]
  refine (ht x6).mono fun b M1 h1 => ⟨fun _ => ?_, fun _ => ?_⟩
  · rw [wS_seq, wS_set]
    refine (hg _ M1).mono fun r M' ⟨e1, e2⟩ => ?_
    subst e1 e2
    simp only [List.set_cons_succ, List.set_cons_zero]
    rw [kSeq_nx]
    have h1' := h1
    obtain ⟨o, fs, rfl, d, f⟩ := h1
    rw [wS_drop, wE_app, wE_var]
    refine ⟨_, rfl, _, rfl, _, rfl, ?_⟩
    rw [wA_cons, wE_tup, wA_cons, wE_c, wA_cons]
    refine (e_pickL (n := n) (cs := cs) rfl h1' (fun M => ?_) hm hm0 hm2 hc).mono fun r M2 ⟨h2, x, e, hx⟩ => ?_
    · rw [wE_var]
      exact ⟨_, rfl, rfl, rfl⟩
    · obtain ⟨o2, fs2, rfl, d2, f2⟩ := h2
      subst e
      have hl : (fs2.map eP).length < lim := by rw [List.length_map]; have := f2.len; show _ < 1000000; omega
      simp_all only [hl, ↓ixE0, ↓ixE1, ↓ixE2, ↓ixE3, ↓ixE4, ↓ixQ0, ↓ixQ1, ↓ixQ2, ↓ixQ3, ↓ixQ4, ↓ixR0, ↓ixR1, ↓ixR2, ↓ixR3, ↓bindE, ↓bindR, ↓wWt_F, ↓add_FF]
      exact ⟨_, _, rfl, ⟨_, rfl⟩, o2, fs2 ++ [(nm, x)], by rw [List.map_append]; rfl, d2, f2.snoc hx⟩
  · rw [wS_skip]
    exact ⟨_, _, rfl, ⟨_, rfl⟩, h1.up (by omega)⟩
end Ow
set_option Elab.async false
set_option linter.all false
set_option maxRecDepth 100000
set_option maxHeartbeats 4000000
namespace Ow
open PySem L2
/-! ### a drawn response -/
theorem sIx_nn {n d : Nat} {v : Int} (h : 0 ≤ v) (h2 : v ≤ n) : HT.sIx n d (some v) = v.toNat := by
  show (if v < 0 then (v + (n : Int)).toNat else min v.toNat n) = _
  rw [if_neg (by omega)]
  omega
abbrev dsR (base st : Int) (dv : DV) (x4 x5 x6 x7 : Option DV) : DS := [some (.r 0), some (.d (.int base)), some (.d (.int st)), some dv, x4, x5, x6, x7, none, none]
/-- the fields stand at dv -/
def Jv (n : Nat) (dv : DV) (fs : Flds) (M : Mem) : Prop := ∃ o ys, M = [o, .lst ys] ∧ DrO o ∧ IsF n fs ∧ ((dv = .r 1 ∧ ys = fs.map eP) ∨ dv = .d (.list (fs.map eP)))
theorem Jv.view {n : Nat} {dv : DV} {fs : Flds} {M : Mem} (h : Jv n dv fs M) : view M dv = some (.list (fs.map eP)) := by
  obtain ⟨o, ys, rfl, _, _, ⟨rfl, rfl⟩ | rfl⟩ := h <;> rfl
theorem e_takeV {n : Nat} {dv : DV} {fs : Flds} {ds : DS} {M : Mem} {f : SE} {m : Int} {Q : DV → Mem → Prop} (h0 : at_ ds 0 = some (.r 0)) (hJ : Jv n dv fs M) (hf : wE f ds M fun r M' => M' = M ∧ r = .d (.int m)) (hm : 0 < m) (hm2 : m < 1073741824) (k : ∀ v M', 0 ≤ v → v < m → Jv n dv fs M' → Q (.d (.int v)) M') : wE (sOne F__law_take (sCons (sVar 0) (sCons f sNil))) ds M Q := by
  obtain ⟨o, ys, rfl, d, f', e⟩ := hJ
  rw [wE_one, wA_cons, wE_var, h0, wo_some, wA_cons]
  refine hf.mono fun r M' ⟨e1, e2⟩ => ?_
  subst e1 e2
  rw [wA_nil]
  exact s_takeN rfl d hm hm2 fun v o' a b d' => k v _ a b ⟨o', ys, rfl, d', f', e⟩
theorem e_takeC {n : Nat} {dv : DV} {fs : Flds} {ds : DS} {M : Mem} {m : Int} {Q : DV → Mem → Prop} (h0 : at_ ds 0 = some (.r 0)) (hJ : Jv n dv fs M) (hm : 0 < m) (hm2 : m < 1073741824) (k : ∀ v M', 0 ≤ v → v < m → Jv n dv fs M' → Q (.d (.int v)) M') : wE (sOne F__law_take (sCons (sVar 0) (sCons (sC (.int m)) sNil))) ds M Q :=
  e_takeV h0 hJ (wE_c.mpr ⟨rfl, rfl⟩) hm hm2 k
/-- once more one of the fields -/
theorem seg_again {n : Nat} {base st : Int} {x6 : Option DV} {M : Mem} {cs : List Str} {g : SE} (hn : n ≤ 1000) (hJ : Jm n M) (hg : ∀ ds M, wE g ds M fun r M' => M' = M ∧ r = .d (.list (cs.map .str))) :
    wS (sIf (isB (sOp eqF (sOne F__law_take (sCons (sVar 0) (sCons (sC (.int 10)) sNil))) (sC (.int 0)))) (sSeq (sSet 7 (sFrz (sLc (.n 8) (iL (sVar 3)) (isB (sOp inF (sOp ixF (sVar 8) (sC (.int 0))) g)) (sVar 8) [8])))
      (sSet 3 (sOp addF (sVar 3) (sSl slF (sSl slF (sVar 7) (sPart (sOne F__law_take (sCons (sVar 0) (sCons (sC (.int 4)) sNil)))) sNoP) sNoP (sPart (sC (.int 1))))))) sSkip) (dsR base st (.r 1) none none x6 none) M
      fun fl => ∃ ds' M', fl = .nx ds' M' ∧ ∃ dv fs x6 x7, ds' = dsR base st dv none none x6 x7 ∧ Jv (n + 1) dv fs M' := by
  rw [wS_if]
  refine (t_take (n := n) (fun v => eq_bool v 0) rfl hJ (by decide) (by decide)).mono fun b M1 h1 => ⟨fun _ => ?_, fun _ => ?_⟩
  · obtain ⟨o, fs, rfl, d, f⟩ := h1
    have hl : (fs.map eP).length ≤ lim := by rw [List.length_map]; have := f.len; show _ ≤ 1000000; omega
    rw [wS_seq, wS_set, wE_frz, wL_lc, wI_Li, wE_var]
    refine ⟨_, rfl, ?_⟩
    refine wW_r.mpr ?_
    refine ⟨_, rfl, hl, ?_⟩
    rw [lc_run eP (fun p => cs.any fun c => decide (c = p.1)) eP (M := [o, .lst (fs.map eP)]) (w := .r 1) (full := fs.map eP) (show live _ (.r 1) _ from rfl) fs fun p hp => ?_, wo_some]
    · simp only [List.set_cons_succ, List.set_cons_zero]
      rw [kSeq_nx, wS_set, wE_op, wE_var]
      refine ⟨_, rfl, ?_⟩
      dsimp only
      rw [wE_sl, wE_sl, wE_var]
      refine ⟨_, rfl, ?_⟩
      dsimp only
      rw [wO_part]
      refine e_takeC (n := n) (dv := .r 1) (fs := fs) rfl ⟨o, _, rfl, d, f, .inl ⟨rfl, rfl⟩⟩ (by decide) (by decide) fun v M' ha hb hJ' => ?_
      obtain ⟨o', ys, rfl, d', _, ⟨_, rfl⟩ | e⟩ := hJ'
      · generalize hw : fs.filter (fun p => cs.any fun c => decide (c = p.1)) = ws
        have hws : ∀ p ∈ ws, p ∈ fs := fun p hp => by rw [← hw] at hp; exact (List.mem_filter.mp hp).1
        have hk : ∀ (l : List PyData), (l.drop (HT.sIx l.length 0 (none : Option Int))).take (HT.sIx l.length l.length (some 1) - HT.sIx l.length 0 none) = l.take 1 := fun l => by
          show (l.drop 0).take ((if (1 : Int) < 0 then ((1 : Int) + (l.length : Int)).toNat else min (1 : Int).toNat l.length) - 0) = _
          rw [if_neg (by decide), List.drop_zero, Nat.sub_zero]
          show l.take (min 1 l.length) = l.take 1
          rw [List.take_eq_take_iff]
          omega
        simp_all only [hk, ↓ixE0, ↓ixE1, ↓ixE2, ↓ixE3, ↓ixE4, ↓ixQ0, ↓ixQ1, ↓ixQ2, ↓ixQ3, ↓ixQ4, ↓ixR0, ↓ixR1, ↓ixR2, ↓ixR3, ↓bindE, ↓bindR, ↓wWt_F, ↓add_FF]
        generalize hk2 : HT.sIx (ws.map eP).length 0 (some v) = i1
        generalize hk3 : HT.sIx (ws.map eP).length (ws.map eP).length none - i1 = i2
        have e1 : (((ws.map eP).drop i1).take i2).take 1 = (((ws.drop i1).take i2).take 1).map eP := by rw [List.map_take, List.map_take, List.map_drop]
        rw [e1]
        have hsub : ∀ p ∈ ((ws.drop i1).take i2).take 1, p ∈ fs := fun p hp => hws p (List.mem_of_mem_drop (List.mem_of_mem_take (List.mem_of_mem_take hp)))
        have hlen : (((ws.drop i1).take i2).take 1).length ≤ 1 := List.length_take_le _ _
        generalize ((ws.drop i1).take i2).take 1 = us at hsub hlen ⊢
        have hl2 : (fs.map eP).length + (us.map eP).length ≤ lim := by rw [List.length_map, List.length_map]; have := f.len; show _ ≤ 1000000; omega
        refine ⟨hl2, _, _, rfl, .d (.list ((fs ++ us).map eP)), fs ++ us, x6, some (.d (.list (ws.map eP))), ?_, o', _, rfl, d', ⟨?_, fun p hp => ?_⟩, .inr rfl⟩
        · rw [List.map_append]
        · rw [List.length_append]; have := f.len; omega
        · rcases List.mem_append.mp hp with z | z
          · exact f.val p z
          · exact f.val p (hsub p z)
      · cases e
    · simp only [wipe_n, wipe_c, List.set_cons_succ, List.set_cons_zero, bindP_n, wT_isB, wE_op, wE_var]
      refine ⟨_, rfl, ?_⟩
      simp_all only [eP, ↓ixE0, ↓ixE1, ↓ixE2, ↓ixE3, ↓ixE4, ↓ixQ0, ↓ixQ1, ↓ixQ2, ↓ixQ3, ↓ixQ4, ↓ixR0, ↓ixR1, ↓ixR2, ↓ixR3, ↓bindE, ↓bindR, ↓wWt_F, ↓add_FF]
      refine (hg _ _).mono fun r M' ⟨e1, e2⟩ => ?_
      subst e1 e2
      simp_all only [any_strs, shp_strs, ↓ixE0, ↓ixE1, ↓ixE2, ↓ixE3, ↓ixE4, ↓ixQ0, ↓ixQ1, ↓ixQ2, ↓ixQ3, ↓ixQ4, ↓ixR0, ↓ixR1, ↓ixR2, ↓ixR3, ↓bindE, ↓bindR, ↓wWt_F, ↓add_FF]
  · rw [wS_skip]
    obtain ⟨o, fs, rfl, d, f⟩ := h1
    exact ⟨_, _, rfl, .r 1, fs, x6, none, rfl, o, _, rfl, d, f.up (by omega), .inl ⟨rfl, rfl⟩⟩
theorem ints_ok2 {cs : List Int} {f : SA} {ds : DS} (hf : ∀ M, wA f ds M fun r M' => M' = M ∧ r = cs.map fun i => DV.d (.int i)) : True := trivial
theorem s_response {o : MO} {base : Int} (ho : DrO o) (hb0 : 0 ≤ base) (hb : base < 80000) : wD F__law_response [.r 0, .d (.int base)] [o] fun r M' => ∃ rp o', r = .d (eR rp) ∧ M'[0]? = some o' ∧ DrO o' ∧ B 1 rp.fs := by
  rw [F__law_response, wD_fn]
  refine ⟨rfl, ?_⟩
  unfold g__law_response
  refine seq_step (fun ds M => ∃ st o', ds = [some (.r 0), some (.d (.int base)), some (.d (.int st)), none, none, none, none, none, none, none] ∧ M = [o'] ∧ DrO o') ?_ ?_
  · simp_all only [↓ixE0, ↓ixE1, ↓ixE2, ↓ixE3, ↓ixE4, ↓ixQ0, ↓ixQ1, ↓ixQ2, ↓ixQ3, ↓ixQ4, ↓ixR0, ↓ixR1, ↓ixR2, ↓ixR3, ↓bindE, ↓bindR, ↓wWt_F, ↓add_FF]
    refine s_takeN rfl ho (by decide) (by decide) fun v o' a b d => ?_
    simp_all only [o_ix_t, o_ix_l, ↓ixE0, ↓ixE1, ↓ixE2, ↓ixE3, ↓ixE4, ↓ixQ0, ↓ixQ1, ↓ixQ2, ↓ixQ3, ↓ixQ4, ↓ixR0, ↓ixR1, ↓ixR2, ↓ixR3, ↓bindE, ↓bindR, ↓wWt_F, ↓add_FF]
    refine ix_any (xs := [PyData.int 200, .int 200, .int 200, .int 203, .int 300, .int 301, .int 404, .int 410, .int 204, .int 405, .int 500, .int 302, .int 206]) a b fun z hz => ?_
    have : ∃ i, z = .int i := by
      simp only [List.mem_cons, List.not_mem_nil, or_false] at hz
      rcases hz with h | h | h | h | h | h | h | h | h | h | h | h | h <;> exact ⟨_, h⟩
    obtain ⟨i, rfl⟩ := this
    exact ⟨_, _, rfl, i, o', rfl, rfl, d⟩
  rintro ds M ⟨st, o1, rfl, rfl, d1⟩
  refine seq_step (fun ds M => ds = dsR base st (.r 1) none none none none ∧ Jm 0 M) ?_ ?_
  · simp_all only [↓ixE0, ↓ixE1, ↓ixE2, ↓ixE3, ↓ixE4, ↓ixQ0, ↓ixQ1, ↓ixQ2, ↓ixQ3, ↓ixQ4, ↓ixR0, ↓ixR1, ↓ixR2, ↓ixR3, ↓bindE, ↓bindR, ↓wWt_F, ↓add_FF]
    exact ⟨_, _, rfl, rfl, o1, [], rfl, d1, ⟨Nat.le_refl _, nofun⟩⟩
  rintro ds M ⟨rfl, hJ⟩
  refine seg_step (seg (n := 0) (by decide) rfl hJ (t_take (fun v => gt_bool v 0) rfl hJ (by decide) (by decide)) fun M' hJ' => e_date (cs := [0, 0, 1, 30, 200]) rfl rfl hb hJ' (fun M => by simp_all only [↓ixE0, ↓ixE1, ↓ixE2, ↓ixE3, ↓ixE4, ↓ixQ0, ↓ixQ1, ↓ixQ2, ↓ixQ3, ↓ixQ4, ↓ixR0, ↓ixR1, ↓ixR2, ↓ixR3, ↓bindE, ↓bindR, ↓wWt_F, ↓add_FF]) rfl (by decide) (by decide) (by decide)) fun M hJ => ?_
  refine seg_step (seg (n := 1) (by decide) rfl hJ (t_take (fun v => eq_bool v 0) rfl hJ (by decide) (by decide)) fun M' hJ' => wE_c.mpr ⟨hJ', _, rfl, by decide +kernel⟩) fun M hJ => ?_
  refine seq_step (fun ds M => (∃ x6, ds = dsR base st (.r 1) none none x6 none) ∧ Jm 3 M) (seg_rules (n := 2) (cs := ["max-age=60", "max-age=0", "max-age=x", "no-store", "no-cache", "max-age=90, must-revalidate", "public"]) (by decide) hJ (fun x6 => t_take (fun v => eq_bool v 0) rfl hJ (by decide) (by decide)) (fun ds M => by simp_all only [↓ixE0, ↓ixE1, ↓ixE2, ↓ixE3, ↓ixE4, ↓ixQ0, ↓ixQ1, ↓ixQ2, ↓ixQ3, ↓ixQ4, ↓ixR0, ↓ixR1, ↓ixR2, ↓ixR3, ↓bindE, ↓bindR, ↓wWt_F, ↓add_FF]) rfl (by decide) (by decide) (str_lens _ (by decide +kernel))) ?_
  rintro ds M ⟨⟨x6, rfl⟩, hJ⟩
  have pick : ∀ {n : Nat} {M : Mem} (f : SE) (m : Int) (cs : List Str), Jm n M → (∀ M, wE f (dsR base st (.r 1) none none x6 none) M fun r M' => M' = M ∧ r = .d (.list (cs.map .str))) → m = cs.length → 0 < m → m < 1073741824 → cs.all (fun x => decide (x.length ≤ 40)) = true →
      wE (sOp ixF f (sOne F__law_take (sCons (sVar 0) (sCons (sC (.int m)) sNil)))) (dsR base st (.r 1) none none x6 none) M fun r M2 => Jm n M2 ∧ ∃ x : Str, r = .d (.str x) ∧ x.length ≤ 40 := fun f m cs hJ hf hm h1 h2 hc => e_pickL rfl hJ hf hm h1 h2 (str_lens _ hc)
  refine seg_step (seg (n := 3) (by decide) rfl hJ (t_take (fun v => eq_bool v 0) rfl hJ (by decide) (by decide)) fun M' hJ' => ?_) fun M hJ => ?_
  · -- expires
    rw [wE_op, wE_frz, wL_lst, wA_cons, wE_pure, wA_cons, wE_cb, wA_cons, wE_c, wA_cons, wE_op, wE_op, wE_var]
    refine ⟨_, rfl, ?_⟩
    refine e_take rfl hJ' (by decide) (by decide) fun v M2 a b hJ2 => ?_
    simp_all only [↓ixE0, ↓ixE1, ↓ixE2, ↓ixE3, ↓ixE4, ↓ixQ0, ↓ixQ1, ↓ixQ2, ↓ixQ3, ↓ixQ4, ↓ixR0, ↓ixR1, ↓ixR2, ↓ixR3, ↓bindE, ↓bindR, ↓wWt_F, ↓add_FF]
    refine (s_write ?_ ?_).mono fun z ⟨x, e, hx⟩ => ?_
    · split <;> omega
    · split <;> omega
    · subst e
      obtain ⟨o2, fs2, rfl, d2, f2⟩ := hJ2
      refine s_takeN rfl d2 (by decide) (by decide) fun v o3 a b d3 => ?_
      simp_all only [o_ix_l, ↓ixE0, ↓ixE1, ↓ixE2, ↓ixE3, ↓ixE4, ↓ixQ0, ↓ixQ1, ↓ixQ2, ↓ixQ3, ↓ixQ4, ↓ixR0, ↓ixR1, ↓ixR2, ↓ixR3, ↓bindE, ↓bindR, ↓wWt_F, ↓add_FF]
      refine ix_any (xs := [PyData.str x, .str "0"]) (by omega) (by show v / 4 < ((2 : Nat) : Int); omega) fun z hz => ⟨⟨o3, fs2, rfl, d3, f2⟩, ?_⟩
      simp only [List.mem_cons, List.not_mem_nil, or_false] at hz
      rcases hz with rfl | rfl
      · exact ⟨x, rfl, hx⟩
      · exact ⟨_, rfl, by decide +kernel⟩
  refine seg_step (seg (n := 4) (by decide) rfl hJ (t_take (fun v => eq_bool v 0) rfl hJ (by decide) (by decide)) fun M' hJ' => e_date (cs := [0, 100, 2000, 50000]) rfl rfl hb hJ' (fun M => by simp_all only [↓ixE0, ↓ixE1, ↓ixE2, ↓ixE3, ↓ixE4, ↓ixQ0, ↓ixQ1, ↓ixQ2, ↓ixQ3, ↓ixQ4, ↓ixR0, ↓ixR1, ↓ixR2, ↓ixR3, ↓bindE, ↓bindR, ↓wWt_F, ↓add_FF]) rfl (by decide) (by decide) (by decide)) fun M hJ => ?_
  refine seg_step (seg (n := 5) (by decide) rfl hJ (t_take (fun v => eq_bool v 0) rfl hJ (by decide) (by decide)) fun M' hJ' => pick _ _ ["0", "20", "100", "x", "99999999999"] hJ' (fun M => by simp_all only [↓ixE0, ↓ixE1, ↓ixE2, ↓ixE3, ↓ixE4, ↓ixQ0, ↓ixQ1, ↓ixQ2, ↓ixQ3, ↓ixQ4, ↓ixR0, ↓ixR1, ↓ixR2, ↓ixR3, ↓bindE, ↓bindR, ↓wWt_F, ↓add_FF]) rfl (by decide) (by decide) (by decide +kernel)) fun M hJ => ?_
  refine seg_step (seg (n := 6) (by decide) rfl hJ (t_take (fun v => gt_bool v 0) rfl hJ (by decide) (by decide)) fun M' hJ' => pick _ _ ["\"a\"", "\"b\"", "W/\"a\"", "a"] hJ' (fun M => by simp_all only [↓ixE0, ↓ixE1, ↓ixE2, ↓ixE3, ↓ixE4, ↓ixQ0, ↓ixQ1, ↓ixQ2, ↓ixQ3, ↓ixQ4, ↓ixR0, ↓ixR1, ↓ixR2, ↓ixR3, ↓bindE, ↓bindR, ↓wWt_F, ↓add_FF]) rfl (by decide) (by decide) (by decide +kernel)) fun M hJ => ?_
  refine seg_step (seg (n := 7) (by decide) rfl hJ (t_take (fun v => eq_bool v 0) rfl hJ (by decide) (by decide)) fun M' hJ' => pick _ _ ["accept", "Accept, x-a", "*", "", "accept,*", "\"", "accept-language", "x-a, Accept-Language"] hJ' (fun M => by simp_all only [↓ixE0, ↓ixE1, ↓ixE2, ↓ixE3, ↓ixE4, ↓ixQ0, ↓ixQ1, ↓ixQ2, ↓ixQ3, ↓ixQ4, ↓ixR0, ↓ixR1, ↓ixR2, ↓ixR3, ↓bindE, ↓bindR, ↓wWt_F, ↓add_FF]) rfl (by decide) (by decide) (by decide +kernel)) fun M hJ => ?_
  refine seg_step (seg (n := 8) (by decide) rfl hJ (t_take (fun v => eq_bool v 0) rfl hJ (by decide) (by decide)) fun M' hJ' => pick _ _ ["text/plain", "image/png"] hJ' (fun M => by simp_all only [↓ixE0, ↓ixE1, ↓ixE2, ↓ixE3, ↓ixE4, ↓ixQ0, ↓ixQ1, ↓ixQ2, ↓ixQ3, ↓ixQ4, ↓ixR0, ↓ixR1, ↓ixR2, ↓ixR3, ↓bindE, ↓bindR, ↓wWt_F, ↓add_FF]) rfl (by decide) (by decide) (by decide +kernel)) fun M hJ => ?_
  refine seg_step (seg (n := 9) (by decide) rfl hJ (t_take (fun v => eq_bool v 0) rfl hJ (by decide) (by decide)) fun M' hJ' => wE_c.mpr ⟨hJ', _, rfl, by decide +kernel⟩) fun M hJ => ?_
  refine seq_step (fun ds' M' => ∃ dv fs x6 x7, ds' = dsR base st dv none none x6 x7 ∧ Jv 11 dv fs M') (seg_again (n := 10) (cs := ["expires", "age", "etag", "last-modified", "date"]) (by decide) hJ (fun ds M => by simp_all only [↓ixE0, ↓ixE1, ↓ixE2, ↓ixE3, ↓ixE4, ↓ixQ0, ↓ixQ1, ↓ixQ2, ↓ixQ3, ↓ixQ4, ↓ixR0, ↓ixR1, ↓ixR2, ↓ixR3, ↓bindE, ↓bindR, ↓wWt_F, ↓add_FF])) ?_
  rintro ds M ⟨dv, fs, x6', x7, rfl, hJ⟩
  refine seq_step (fun ds' M' => ∃ bd : List Int, ds' = dsR base st dv (some (.d (eT bd))) none x6' x7 ∧ Jv 11 dv fs M') ?_ ?_
  · rw [wS_set, wE_cb, wA_cons, wE_frz, wL_lc, wI_Ri, wA_cons]
    refine e_takeC rfl hJ (by decide) (by decide) fun v M' a b hJ' => ?_
    rw [wA_nil, wWr_i]
    refine ⟨⟨a, by omega⟩, by rw [List.length_map, List.length_range]; show _ ≤ 1000000; omega, ?_⟩
    obtain ⟨zs, M2, e, hJ2, _⟩ := lc_ints (fun i : Nat => PyData.int (i : Nat)) (p := .n 9) (t := sYes) (f := sOne F__law_take (sCons (sVar 0) (sCons (sC (.int 256)) sNil))) (vs := [9]) (w := .d .none) (full := (List.range v.toNat).map fun i => .int (i : Nat)) (ds := dsR base st dv none none x6' x7) (Jv 11 dv fs) (fun _ _ => trivial) (List.range v.toNat) (fun y hy M hM => by
      simp only [wipe_n, wipe_c, List.set_cons_succ, List.set_cons_zero, bindP_n, wT_yes]
      refine ⟨trivial, e_takeC rfl hM (by decide) (by decide) fun v M' a b h => ⟨h, v, rfl⟩⟩) M' hJ'
    rw [e, wo_some, wA_nil]
    simp_all only [↓ixE0, ↓ixE1, ↓ixE2, ↓ixE3, ↓ixE4, ↓ixQ0, ↓ixQ1, ↓ixQ2, ↓ixQ3, ↓ixQ4, ↓ixR0, ↓ixR1, ↓ixR2, ↓ixR3, ↓bindE, ↓bindR, ↓wWt_F, ↓add_FF]
    exact ⟨_, _, rfl, zs, rfl, hJ2⟩
  rintro ds M ⟨bd, rfl, hJ⟩
  refine seq_step (fun ds' M' => ∃ v : Int, ds' = dsR base st dv (some (.d (eT bd))) (some (.d (.int v))) x6' x7 ∧ Jv 11 dv fs M' ∧ 0 ≤ v ∧ v ≤ (fs.length : Int)) ?_ ?_
  · rw [wS_set]
    have hfl : fs.length ≤ 11 := by obtain ⟨_, _, _, _, f, _⟩ := hJ; exact f.len
    refine e_takeV (m := (fs.length : Int) + 1) rfl hJ ?_ (by omega) (by omega) fun v M' a b hJ' => ⟨_, _, rfl, v, rfl, hJ', a, by omega⟩
    rw [wE_op, wE_cb, wA_cons, wE_var]
    refine ⟨_, rfl, ?_⟩
    simp_all only [v_of hJ.view, List.length_map, ↓ixE0, ↓ixE1, ↓ixE2, ↓ixE3, ↓ixE4, ↓ixQ0, ↓ixQ1, ↓ixQ2, ↓ixQ3, ↓ixQ4, ↓ixR0, ↓ixR1, ↓ixR2, ↓ixR3, ↓bindE, ↓bindR, ↓wWt_F, ↓add_FF]
  rintro ds M ⟨v, rfl, hJ, hv0, hv1⟩
  have hv := hJ.view
  obtain ⟨o9, ys, rfl, d9, f9, _⟩ := hJ
  have s1 : HT.sIx (fs.map eP).length 0 (some v) = v.toNat := by rw [List.length_map]; exact sIx_nn hv0 hv1
  have s2 : HT.sIx (fs.map eP).length (fs.map eP).length (some v) = v.toNat := by rw [List.length_map]; exact sIx_nn hv0 hv1
  have s3 : ((fs.map eP).drop v.toNat).take ((fs.map eP).length - v.toNat) = (fs.drop v.toNat).map eP := by
    rw [List.map_drop]
    exact List.take_of_length_le (by rw [List.length_drop]; exact Nat.le_refl _)
  have s4 : ((fs.map eP).drop 0).take (v.toNat - 0) = (fs.take v.toNat).map eP := by rw [List.drop_zero, Nat.sub_zero, List.map_take]
  have hl : ((fs.drop v.toNat).map eP).length + ((fs.take v.toNat).map eP).length ≤ lim := by
    rw [List.length_map, List.length_map, List.length_drop, List.length_take]
    have := f9.len
    show _ ≤ 1000000
    omega
  simp_all only [v_of hv, s1, s2, HT.sIx_none, s3, s4, hl, ↓ixE0, ↓ixE1, ↓ixE2, ↓ixE3, ↓ixE4, ↓ixQ0, ↓ixQ1, ↓ixQ2, ↓ixQ3, ↓ixQ4, ↓ixR0, ↓ixR1, ↓ixR2, ↓ixR3, ↓bindE, ↓bindR, ↓wWt_F, ↓add_FF]
  refine ⟨⟨st, fs.drop v.toNat ++ fs.take v.toNat, bd⟩, o9, ?_, rfl, d9, IsF.b (n := 11) ⟨?_, fun p hp => ?_⟩⟩
  · unfold eR eF
    rw [List.map_append]
  · have := f9.len
    rw [List.length_append, List.length_drop, List.length_take]
    omega
  · rcases List.mem_append.mp hp with z | z
    · exact f9.val p (List.mem_of_mem_drop z)
    · exact f9.val p (List.mem_of_mem_take z)
end Ow
set_option Elab.async false
set_option linter.all false
set_option maxRecDepth 100000
set_option maxHeartbeats 4000000
namespace Ow
open PySem L2
/-! ### a drawn request -/
abbrev dsA (me : Str) (tg : List Int) (x4 : Option DV) : DS := [some (.r 0), some (.d (.str me)), some (.d (eT tg)), some (.r 1), x4, none]
theorem app1 {n : Nat} {ds : DS} {M : Mem} {nm : Str} {fv : SE} (hn : n ≤ 1000) (h3 : at_ ds 3 = some (.r 1)) (hJ : Jm n M) (hv : wE fv ds M fun r M2 => Jm n M2 ∧ ∃ x : Str, r = .d (.str x) ∧ x.length ≤ 40) :
    wS (sDrop (sApp (sVar 3) (sCons (sTup (sCons (sC (.str nm)) (sCons fv sNil))) sNil))) ds M fun fl => ∃ M', fl = .nx ds M' ∧ Jm (n + 1) M' := by
  obtain ⟨o, fs, rfl, d, f⟩ := hJ
  simp_all only [h3, wo_some, ↓ixE0, ↓ixE1, ↓ixE2, ↓ixE3, ↓ixE4, ↓ixQ0, ↓ixQ1, ↓ixQ2, ↓ixQ3, ↓ixQ4, ↓ixR0, ↓ixR1, ↓ixR2, ↓ixR3, ↓bindE, ↓bindR, ↓wWt_F, ↓add_FF]
  refine hv.mono fun r M2 ⟨h2, x, e, hx⟩ => ?_
  obtain ⟨o2, fs2, rfl, d2, f2⟩ := h2
  subst e
  have hl : (fs2.map eP).length < lim := by rw [List.length_map]; have := f2.len; show _ < 1000000; omega
  simp_all only [hl, ↓ixE0, ↓ixE1, ↓ixE2, ↓ixE3, ↓ixE4, ↓ixQ0, ↓ixQ1, ↓ixQ2, ↓ixQ3, ↓ixQ4, ↓ixR0, ↓ixR1, ↓ixR2, ↓ixR3, ↓bindE, ↓bindR, ↓wWt_F, ↓add_FF]
  exact ⟨_, rfl, o2, fs2 ++ [(nm, x)], by rw [List.map_append]; rfl, d2, f2.snoc hx⟩
def rules12 : List Str := ["no-cache", "no-store", "max-age=30", "max-age=0", "min-fresh=20", "max-stale", "max-stale=40", "only-if-cached", "max-stale=x", "max-age=x", "max-stale, min-fresh=5", "max-age=100, max-stale"]
theorem s_askq {o : MO} (ho : DrO o) : wD F__law_ask [.r 0] [o] fun r M' => ∃ q o', r = .d (eQ q) ∧ M'[0]? = some o' ∧ DrO o' ∧ B 1 q.fs := by
  rw [F__law_ask, wD_fn]
  refine ⟨rfl, ?_⟩
  unfold g__law_ask
  refine seq_step (fun ds M => ∃ me o', ds = [some (.r 0), some (.d (.str me)), none, none, none, none] ∧ M = [o'] ∧ DrO o') ?_ ?_
  · simp_all only [↓ixE0, ↓ixE1, ↓ixE2, ↓ixE3, ↓ixE4, ↓ixQ0, ↓ixQ1, ↓ixQ2, ↓ixQ3, ↓ixQ4, ↓ixR0, ↓ixR1, ↓ixR2, ↓ixR3, ↓bindE, ↓bindR, ↓wWt_F, ↓add_FF]
    refine s_takeN rfl ho (by decide) (by decide) fun v o' a b d => ?_
    simp_all only [o_ix_l, ↓ixE0, ↓ixE1, ↓ixE2, ↓ixE3, ↓ixE4, ↓ixQ0, ↓ixQ1, ↓ixQ2, ↓ixQ3, ↓ixQ4, ↓ixR0, ↓ixR1, ↓ixR2, ↓ixR3, ↓bindE, ↓bindR, ↓wWt_F, ↓add_FF]
    refine ix_any (xs := [PyData.str "GET", .str "GET", .str "GET", .str "GET", .str "GET", .str "HEAD", .str "PUT", .str "POST", .str "DELETE", .str "OPTIONS"]) a b fun z hz => ?_
    have : ∃ i, z = .str i := by
      simp only [List.mem_cons, List.not_mem_nil, or_false] at hz
      rcases hz with h | h | h | h | h | h | h | h | h | h <;> exact ⟨_, h⟩
    obtain ⟨i, rfl⟩ := this
    exact ⟨_, _, rfl, i, o', rfl, rfl, d⟩
  rintro ds M ⟨me, o1, rfl, rfl, d1⟩
  refine seq_step (fun ds M => ∃ tg o', ds = [some (.r 0), some (.d (.str me)), some (.d (eT tg)), none, none, none] ∧ M = [o'] ∧ DrO o') ?_ ?_
  · simp_all only [↓ixE0, ↓ixE1, ↓ixE2, ↓ixE3, ↓ixE4, ↓ixQ0, ↓ixQ1, ↓ixQ2, ↓ixQ3, ↓ixQ4, ↓ixR0, ↓ixR1, ↓ixR2, ↓ixR3, ↓bindE, ↓bindR, ↓wWt_F, ↓add_FF]
    refine s_takeN rfl d1 (by decide) (by decide) fun v o' a b d => ?_
    simp_all only [o_ix_l, ↓ixE0, ↓ixE1, ↓ixE2, ↓ixE3, ↓ixE4, ↓ixQ0, ↓ixQ1, ↓ixQ2, ↓ixQ3, ↓ixQ4, ↓ixR0, ↓ixR1, ↓ixR2, ↓ixR3, ↓bindE, ↓bindR, ↓wWt_F, ↓add_FF]
    refine ix_any (xs := [PyData.str "/", .str "/a", .str "/b"]) a b fun z hz => ?_
    have : ∃ i : Str, z = .str i ∧ i.length ≤ 2 := by
      simp only [List.mem_cons, List.not_mem_nil, or_false] at hz
      rcases hz with h | h | h <;> exact ⟨_, h, by decide +kernel⟩
    obtain ⟨i, rfl, hi⟩ := this
    simp_all only [↓ixE0, ↓ixE1, ↓ixE2, ↓ixE3, ↓ixE4, ↓ixQ0, ↓ixQ1, ↓ixQ2, ↓ixQ3, ↓ixQ4, ↓ixR0, ↓ixR1, ↓ixR2, ↓ixR3, ↓bindE, ↓bindR, ↓wWt_F, ↓add_FF]
    have hz : (signs i).length = i.length := by unfold signs; rw [List.length_map, Array.length_toList]; rfl
    refine ⟨by rw [hz]; exact Nat.le_trans hi (by decide), ?_⟩
    have hx : (signs i) = i.cps.toList.map fun c => PyData.str ⟨#[c]⟩ := rfl
    rw [hx, lc_run (fun c => PyData.str ⟨#[c]⟩) (fun _ => true) (fun c => .int ((⟨#[c]⟩ : Str).cps.getD 0 0 : Nat)) live_d i.cps.toList fun c _ => ?_, wo_some]
    · simp_all only [ft, ↓ixE0, ↓ixE1, ↓ixE2, ↓ixE3, ↓ixE4, ↓ixQ0, ↓ixQ1, ↓ixQ2, ↓ixQ3, ↓ixQ4, ↓ixR0, ↓ixR1, ↓ixR2, ↓ixR3, ↓bindE, ↓bindR, ↓wWt_F, ↓add_FF]
      exact ⟨_, _, rfl, i.cps.toList.map (fun c => (((⟨#[c]⟩ : Str).cps.getD 0 0 : Nat) : Int)), o', by unfold eT; rw [List.map_map]; rfl, rfl, d⟩
    · simp_all only [wipe_n, wipe_c, len1, ↓ixE0, ↓ixE1, ↓ixE2, ↓ixE3, ↓ixE4, ↓ixQ0, ↓ixQ1, ↓ixQ2, ↓ixQ3, ↓ixQ4, ↓ixR0, ↓ixR1, ↓ixR2, ↓ixR3, ↓bindE, ↓bindR, ↓wWt_F, ↓add_FF]
  rintro ds M ⟨tg, o2, rfl, rfl, d2⟩
  refine seq_step (fun ds M => ds = dsA me tg none ∧ Jm 1 M) ?_ ?_
  · simp_all only [↓ixE0, ↓ixE1, ↓ixE2, ↓ixE3, ↓ixE4, ↓ixQ0, ↓ixQ1, ↓ixQ2, ↓ixQ3, ↓ixQ4, ↓ixR0, ↓ixR1, ↓ixR2, ↓ixR3, ↓bindE, ↓bindR, ↓wWt_F, ↓add_FF]
    refine s_takeN rfl d2 (by decide) (by decide) fun v o' a b d => ?_
    simp_all only [o_ix_l, ↓ixE0, ↓ixE1, ↓ixE2, ↓ixE3, ↓ixE4, ↓ixQ0, ↓ixQ1, ↓ixQ2, ↓ixQ3, ↓ixQ4, ↓ixR0, ↓ixR1, ↓ixR2, ↓ixR3, ↓bindE, ↓bindR, ↓wWt_F, ↓add_FF]
    refine ix_any (xs := [PyData.str "h", .str "h", .str "h", .str "g"]) a b fun z hz => ?_
    have : ∃ i : Str, z = .str i ∧ i.length ≤ 40 := by
      simp only [List.mem_cons, List.not_mem_nil, or_false] at hz
      rcases hz with h | h | h | h <;> exact ⟨_, h, by decide +kernel⟩
    obtain ⟨i, rfl, hi⟩ := this
    exact ⟨_, _, rfl, rfl, o', [("host", i)], rfl, d, ⟨Nat.le_refl _, fun p hp => by rw [List.mem_singleton.mp hp]; exact hi⟩⟩
  rintro ds M ⟨rfl, hJ⟩
  have pick : ∀ {n : Nat} {x4 : Option DV} {M : Mem} (f : SE) (m : Int) (cs : List Str), Jm n M → (∀ M, wE f (dsA me tg x4) M fun r M' => M' = M ∧ r = .d (.list (cs.map .str))) → m = cs.length → 0 < m → m < 1073741824 → cs.all (fun x => decide (x.length ≤ 40)) = true →
      wE (sOp ixF f (sOne F__law_take (sCons (sVar 0) (sCons (sC (.int m)) sNil)))) (dsA me tg x4) M fun r M2 => Jm n M2 ∧ ∃ x : Str, r = .d (.str x) ∧ x.length ≤ 40 := fun f m cs hJ hf hm h1 h2 hc => e_pickL rfl hJ hf hm h1 h2 (str_lens _ hc)
  refine seg_step (seg (n := 1) (by decide) rfl hJ (t_take (fun v => eq_bool v 0) rfl hJ (by decide) (by decide)) fun M' hJ' => ?_) fun M hJ => ?_
  · rw [wE_m1]
    refine (pick _ _ ["text/plain", "text/plain ", "image/png,  */*", "image/png, */*"] hJ' (fun M => by simp_all only [↓ixE0, ↓ixE1, ↓ixE2, ↓ixE3, ↓ixE4, ↓ixQ0, ↓ixQ1, ↓ixQ2, ↓ixQ3, ↓ixQ4, ↓ixR0, ↓ixR1, ↓ixR2, ↓ixR3, ↓bindE, ↓bindR, ↓wWt_F, ↓add_FF]) rfl (by decide) (by decide) (by decide +kernel)).mono fun r M2 ⟨h, x, e, hx⟩ => ?_
    subst e
    have hl : x.length ≤ lim := Nat.le_trans hx (by decide)
    simp_all only [hl, ↓ixE0, ↓ixE1, ↓ixE2, ↓ixE3, ↓ixE4, ↓ixQ0, ↓ixQ1, ↓ixQ2, ↓ixQ3, ↓ixQ4, ↓ixR0, ↓ixR1, ↓ixR2, ↓ixR3, ↓bindE, ↓bindR, ↓wWt_F, ↓add_FF]
    exact ⟨h, _, rfl, Nat.le_trans (PyProof.Rows.len_stripChars _ _) hx⟩
  refine seg_step (seg (n := 2) (by decide) rfl hJ (t_take (fun v => eq_bool v 0) rfl hJ (by decide) (by decide)) fun M' hJ' => pick _ _ ["1", "2"] hJ' (fun M => by simp_all only [↓ixE0, ↓ixE1, ↓ixE2, ↓ixE3, ↓ixE4, ↓ixQ0, ↓ixQ1, ↓ixQ2, ↓ixQ3, ↓ixQ4, ↓ixR0, ↓ixR1, ↓ixR2, ↓ixR3, ↓bindE, ↓bindR, ↓wWt_F, ↓add_FF]) rfl (by decide) (by decide) (by decide +kernel)) fun M hJ => ?_
  refine seg_step (seg (n := 3) (by decide) rfl hJ (t_take (fun v => eq_bool v 0) rfl hJ (by decide) (by decide)) fun M' hJ' => pick _ _ ["de", "en", "de, en"] hJ' (fun M => by simp_all only [↓ixE0, ↓ixE1, ↓ixE2, ↓ixE3, ↓ixE4, ↓ixQ0, ↓ixQ1, ↓ixQ2, ↓ixQ3, ↓ixQ4, ↓ixR0, ↓ixR1, ↓ixR2, ↓ixR3, ↓bindE, ↓bindR, ↓wWt_F, ↓add_FF]) rfl (by decide) (by decide) (by decide +kernel)) fun M hJ => ?_
  refine seq_step (fun ds M => (∃ x4, ds = dsA me tg x4) ∧ Jm 6 M) ?_ ?_
  · rw [wS_if]
    refine (t_take (n := 4) (fun v => eq_bool v 0) rfl hJ (by decide) (by decide)).mono fun b M1 h1 => ⟨fun _ => ?_, fun _ => ?_⟩
    · have pk : ∀ {n : Nat} {M : Mem}, Jm n M → wE (sOp ixF (sVar 4) (sOne F__law_take (sCons (sVar 0) (sCons (sC (.int 12)) sNil)))) (dsA me tg (some (.d (.list (rules12.map .str))))) M fun r M2 => Jm n M2 ∧ ∃ x : Str, r = .d (.str x) ∧ x.length ≤ 40 := fun h =>
        pick _ _ rules12 h (fun M => by rw [wE_var]; exact ⟨_, rfl, rfl, rfl⟩) (by decide) (by decide) (by decide) (by decide +kernel)
      refine seq_step (fun ds M => ds = dsA me tg (some (.d (.list [.str "no-cache", .str "no-store", .str "max-age=30", .str "max-age=0", .str "min-fresh=20", .str "max-stale", .str "max-stale=40"]))) ∧ M = M1) ?_ ?_
      · simp_all only [↓ixE0, ↓ixE1, ↓ixE2, ↓ixE3, ↓ixE4, ↓ixQ0, ↓ixQ1, ↓ixQ2, ↓ixQ3, ↓ixQ4, ↓ixR0, ↓ixR1, ↓ixR2, ↓ixR3, ↓bindE, ↓bindR, ↓wWt_F, ↓add_FF]
        exact ⟨_, _, rfl, rfl, rfl⟩
      rintro ds M ⟨rfl, rfl⟩
      refine seq_step (fun ds M' => ds = dsA me tg (some (.d (.list (rules12.map .str)))) ∧ M' = M) ?_ ?_
      · simp_all only [↓ixE0, ↓ixE1, ↓ixE2, ↓ixE3, ↓ixE4, ↓ixQ0, ↓ixQ1, ↓ixQ2, ↓ixQ3, ↓ixQ4, ↓ixR0, ↓ixR1, ↓ixR2, ↓ixR3, ↓bindE, ↓bindR, ↓wWt_F, ↓add_FF]
        exact ⟨_, _, rfl, rfl, rfl⟩
      rintro ds M' ⟨rfl, rfl⟩
      refine seg_step (app1 (n := 4) (by decide) rfl h1 (pk h1)) fun M hJ => ?_
      refine (seg (n := 5) (by decide) rfl hJ (t_take (fun v => eq_bool v 0) rfl hJ (by decide) (by decide)) fun M' hJ' => pk hJ').mono fun fl ⟨M', e, h⟩ => ⟨_, M', e, ⟨_, rfl⟩, h⟩
    · rw [wS_skip]
      exact ⟨_, _, rfl, ⟨_, rfl⟩, h1.up (by decide)⟩
  rintro ds M ⟨⟨x4, rfl⟩, hJ⟩
  refine seg_step (seg (n := 6) (by decide) rfl hJ (t_take (fun v => eq_bool v 0) rfl hJ (by decide) (by decide)) fun M' hJ' => pick _ _ ["\"a\"", "*", "\"z\", \"b\"", "q"] hJ' (fun M => by simp_all only [↓ixE0, ↓ixE1, ↓ixE2, ↓ixE3, ↓ixE4, ↓ixQ0, ↓ixQ1, ↓ixQ2, ↓ixQ3, ↓ixQ4, ↓ixR0, ↓ixR1, ↓ixR2, ↓ixR3, ↓bindE, ↓bindR, ↓wWt_F, ↓add_FF]) rfl (by decide) (by decide) (by decide +kernel)) fun M hJ => ?_
  refine seg_step (seg (n := 7) (by decide) rfl hJ (t_take (fun v => eq_bool v 0) rfl hJ (by decide) (by decide)) fun M' hJ' => ?_) fun M hJ => ?_
  · have w0 := wd_len (t := 0) (by decide) (by decide)
    have w5 := wd_len (t := 5000) (by decide) (by decide)
    refine e_pickL (cs := [wdV 0, wdV 5000, "x"]) rfl hJ' (fun M => ?_) rfl (by decide) (by decide) fun x hx => ?_
    · simp_all only [s_wd (t := 0) (by decide) (by decide), s_wd (t := 5000) (by decide) (by decide), ↓ixE0, ↓ixE1, ↓ixE2, ↓ixE3, ↓ixE4, ↓ixQ0, ↓ixQ1, ↓ixQ2, ↓ixQ3, ↓ixQ4, ↓ixR0, ↓ixR1, ↓ixR2, ↓ixR3, ↓bindE, ↓bindR, ↓wWt_F, ↓add_FF]
    · simp only [List.mem_cons, List.not_mem_nil, or_false] at hx
      rcases hx with rfl | rfl | rfl
      · exact w0
      · exact w5
      · decide +kernel
  refine seq_step (fun ds M => ds = dsA me tg x4 ∧ Jm 9 M) ?_ ?_
  · rw [wS_if]
    refine (t_take (n := 8) (fun v => eq_bool v 0) rfl hJ (by decide) (by decide)).mono fun b M1 h1 => ⟨fun _ => ?_, fun _ => ?_⟩
    · obtain ⟨o3, fs, rfl, d, f⟩ := h1
      simp_all only [↓ixE0, ↓ixE1, ↓ixE2, ↓ixE3, ↓ixE4, ↓ixQ0, ↓ixQ1, ↓ixQ2, ↓ixQ3, ↓ixQ4, ↓ixR0, ↓ixR1, ↓ixR2, ↓ixR3, ↓bindE, ↓bindR, ↓wWt_F, ↓add_FF]
      refine s_takeN rfl d (by decide) (by decide) fun v o4 a b d4 => ?_
      simp_all only [o_ix_l, ↓ixE0, ↓ixE1, ↓ixE2, ↓ixE3, ↓ixE4, ↓ixQ0, ↓ixQ1, ↓ixQ2, ↓ixQ3, ↓ixQ4, ↓ixR0, ↓ixR1, ↓ixR2, ↓ixR3, ↓bindE, ↓bindR, ↓wWt_F, ↓add_FF]
      refine ix_any (xs := [PyData.tuple [.str "range", .str "bytes=0-0"], .tuple [.str "if-match", .str "*"], .tuple [.str "if-range", .str "\"a\""], .tuple [.str "if-unmodified-since", .str "x"]]) a b fun z hz => ?_
      have : ∃ p : Str × Str, z = eP p ∧ p.2.length ≤ 40 := by
        simp only [List.mem_cons, List.not_mem_nil, or_false] at hz
        rcases hz with h | h | h | h
        · exact ⟨("range", "bytes=0-0"), h, by decide +kernel⟩
        · exact ⟨("if-match", "*"), h, by decide +kernel⟩
        · exact ⟨("if-range", "\"a\""), h, by decide +kernel⟩
        · exact ⟨("if-unmodified-since", "x"), h, by decide +kernel⟩
      obtain ⟨p, rfl, hp⟩ := this
      have hl : (fs.map eP).length < lim := by rw [List.length_map]; have := f.len; show _ < 1000000; omega
      simp_all only [List.set_cons_zero, lst_S, lst_0, hl, ↓ixE0, ↓ixE1, ↓ixE2, ↓ixE3, ↓ixE4, ↓ixQ0, ↓ixQ1, ↓ixQ2, ↓ixQ3, ↓ixQ4, ↓ixR0, ↓ixR1, ↓ixR2, ↓ixR3, ↓bindE, ↓bindR, ↓wWt_F, ↓add_FF]
      exact ⟨_, _, rfl, rfl, o4, fs ++ [p], by rw [List.map_append]; rfl, d4, f.snoc hp⟩
    · rw [wS_skip]
      exact ⟨_, _, rfl, rfl, h1.up (by decide)⟩
  rintro ds M ⟨rfl, hJ⟩
  obtain ⟨o5, fs, rfl, d, f⟩ := hJ
  simp_all only [↓ixE0, ↓ixE1, ↓ixE2, ↓ixE3, ↓ixE4, ↓ixQ0, ↓ixQ1, ↓ixQ2, ↓ixQ3, ↓ixQ4, ↓ixR0, ↓ixR1, ↓ixR2, ↓ixR3, ↓bindE, ↓bindR, ↓wWt_F, ↓add_FF]
  exact ⟨⟨me, tg, fs⟩, o5, rfl, rfl, d, f.b⟩
end Ow
set_option Elab.async false
set_option linter.all false
set_option maxRecDepth 100000
set_option maxHeartbeats 4000000
namespace Ow
open PySem L2
variable {Q : DV → Mem → Prop}
/-! ### the set-up -/
theorem s_draw {ns : List Int} (hn : ns.length ≤ 1000) (k : ∀ o, DrO o → Q (.r 0) [o]) : wD F__law_draw [.s (ns.map .int)] [] Q := by
  rw [F__law_draw, wD_fn]
  refine ⟨rfl, ?_⟩
  unfold g__law_draw
  simp_all only [↓ixE0, ↓ixE1, ↓ixE2, ↓ixE3, ↓ixE4, ↓ixQ0, ↓ixQ1, ↓ixQ2, ↓ixQ3, ↓ixQ4, ↓ixR0, ↓ixR1, ↓ixR2, ↓ixR3, ↓bindE, ↓bindR, ↓wWt_F, ↓add_FF]
  refine for_run PyData.int (fun r ds M => M = [] ∧ ∃ (s : Int) (u : Option DV), ds = [some (.s (ns.map .int)), some (.d (.int s)), u]) (fun _ _ _ _ => live_s) ?_ ?_ ns _ _ ⟨rfl, _, _, rfl⟩
  · rintro c r ds M ⟨rfl, s, u, rfl⟩
    simp_all only [↓ixE0, ↓ixE1, ↓ixE2, ↓ixE3, ↓ixE4, ↓ixQ0, ↓ixQ1, ↓ixQ2, ↓ixQ3, ↓ixQ4, ↓ixR0, ↓ixR1, ↓ixR2, ↓ixR3, ↓bindE, ↓bindR, ↓wWt_F, ↓add_FF]
    exact ⟨_, _, rfl⟩
  · rintro ds M ⟨rfl, s, u, rfl⟩
    have hl : ns.length ≤ lim := Nat.le_trans hn (by decide)
    simp_all only [List.length_map, hl, ↓ixE0, ↓ixE1, ↓ixE2, ↓ixE3, ↓ixE4, ↓ixQ0, ↓ixQ1, ↓ixQ2, ↓ixQ3, ↓ixQ4, ↓ixR0, ↓ixR1, ↓ixR2, ↓ixR3, ↓bindE, ↓bindR, ↓wWt_F, ↓add_FF]
    rw [lc_run PyData.int (fun _ => true) (fun c => .int (if c < 0 then -c else c)) live_s ns fun c _ => ?_, wo_some]
    · simp_all only [ft, ↓ixE0, ↓ixE1, ↓ixE2, ↓ixE3, ↓ixE4, ↓ixQ0, ↓ixQ1, ↓ixQ2, ↓ixQ3, ↓ixQ4, ↓ixR0, ↓ixR1, ↓ixR2, ↓ixR3, ↓bindE, ↓bindR, ↓wWt_F, ↓add_FF]
      exact k _ ⟨ns.map fun c => if c < 0 then -c else c, -1, 0, s, by rw [List.map_map]; rfl, by decide⟩
    · simp_all only [wipe_n, wipe_c, ↓ixE0, ↓ixE1, ↓ixE2, ↓ixE3, ↓ixE4, ↓ixQ0, ↓ixQ1, ↓ixQ2, ↓ixQ3, ↓ixQ4, ↓ixR0, ↓ixR1, ↓ixR2, ↓ixR3, ↓bindE, ↓bindR, ↓wWt_F, ↓add_FF]
theorem s_told_init {M : Mem} {n : Nat} {xs : List PyData} (h : M[n]? = some (.ins "Told" [])) (k : Q (.d .none) ((((M.set n (.ins "Told" [("_responses", .d (.list xs))])) ++ [MO.lst []]).set n (MO.ins "Told" (tdF (.list xs) M.length))))) : wD F_Told_init [.r n, .d (.list xs)] M Q := by
  have hn := at_lt h
  have i1 : (M.set n (.ins "Told" [("_responses", .d (.list xs))]))[n]? = some (.ins "Told" [("_responses", .d (.list xs))]) := List.getElem?_set_self hn
  have i2 : ((M.set n (.ins "Told" [("_responses", .d (.list xs))])) ++ [MO.lst []])[n]? = some (.ins "Told" [("_responses", .d (.list xs))]) := by rw [List.getElem?_append_left (by rw [List.length_set]; exact hn)]; exact i1
  have p1 : putD "_responses" (.d (.list xs)) [] = ([("_responses", .d (.list xs))] : FL) := rfl
  have e1 : ¬ (Str.ofString "_responses" = Str.ofString "_asked") := by decide +kernel
  have p2 : ∀ v, putD "_asked" v ([("_responses", .d (.list xs))] : FL) = ([("_responses", .d (.list xs)), ("_asked", v)] : FL) := fun v => by simp [putD, e1]
  have h0 : (0 : Nat) < 100 := by decide
  have h1 : (1 : Nat) < 100 := by decide
  simp_all only [g_Told_init, F_Told_init, ins_of h, p1, h0, h1, ↓ixE0, ↓ixE1, ↓ixE2, ↓ixE3, ↓ixE4, ↓ixQ0, ↓ixQ1, ↓ixQ2, ↓ixQ3, ↓ixQ4, ↓ixR0, ↓ixR1, ↓ixR2, ↓ixR3, ↓bindE, ↓bindR, ↓wWt_F, ↓add_FF]
  rw [ins_of i2, p2]
  refine ⟨by show 1 < 100; decide, ?_⟩
  rw [List.length_set]
  exact k
theorem s_keeper_init {a b c d : MO} {room : Int} (k : Q (.d .none) [a, b, c, d, .ins "Keeper" (kpF 2 5), .ins "Shelf" (shF room (.d (.list [])))]) : wD F_Keeper_init [.r 4, .r 2, .d (.int room)] [a, b, c, d, .ins "Keeper" []] Q := by
  have h0 : (0 : Nat) < 100 := by decide
  have p1 : ∀ v, putD "_origin" v [] = ([("_origin", v)] : FL) := fun _ => rfl
  have p2 : ∀ v, putD "_room" v [] = ([("_room", v)] : FL) := fun _ => rfl
  have e1 : ¬ (Str.ofString "_origin" = Str.ofString "_shelf") := by decide +kernel
  have e2 : ¬ (Str.ofString "_room" = Str.ofString "_rows") := by decide +kernel
  have p3 : ∀ u v, putD "_shelf" v ([("_origin", u)] : FL) = ([("_origin", u), ("_shelf", v)] : FL) := fun u v => by simp [putD, e1]
  have p4 : ∀ u v, putD "_rows" v ([("_room", u)] : FL) = ([("_room", u), ("_rows", v)] : FL) := fun u v => by simp [putD, e2]
  rw [F_Keeper_init, wD_fn]
  refine ⟨rfl, ?_⟩
  unfold g_Keeper_init
  rw [wS_seq, wS_fset, wE_var]
  refine ⟨_, rfl, ?_⟩
  try dsimp only
  rw [wE_var]
  refine ⟨_, rfl, _, rfl, _, rfl, h0, ?_⟩
  try dsimp only
  rw [kSeq_nx, wS_fset, wE_make, wA_cons, wE_var]
  refine ⟨_, rfl, ?_⟩
  try dsimp only
  rw [wA_nil, F_Shelf_init, wD_fn]
  refine ⟨rfl, ?_⟩
  unfold g_Shelf_init
  rw [wS_seq, wS_fset, wE_var]
  refine ⟨_, rfl, ?_⟩
  try dsimp only
  rw [wE_var]
  refine ⟨_, rfl, _, rfl, _, rfl, h0, ?_⟩
  try dsimp only
  rw [kSeq_nx, wS_fset, wE_frz, wL_lst, wA_nil]
  refine ⟨_, rfl, by decide, ?_⟩
  try dsimp only
  rw [wE_var]
  refine ⟨_, rfl, _, rfl, _, rfl, by show 1 < 100; decide, ?_⟩
  refine ⟨rfl, ?_⟩
  try dsimp only
  rw [wE_var]
  refine ⟨_, rfl, _, rfl, _, rfl, by show 1 < 100; decide, ?_⟩
  simp only [p1, p2, p3, p4]
  exact k
end Ow
set_option Elab.async false
set_option linter.all false
set_option maxRecDepth 100000
set_option maxHeartbeats 4000000
namespace Ow
open PySem L2
/-! ### the loop's state -/
theorem Sys.set {M : Mem} {room : Int} {rs : List Rp} {asked : List (Rq × Int)} {rows : List Row} {m : Nat} {o : MO} (S : Sys M room rs asked rows) (hm : m < 8) (h2 : m ≠ 2) (h3 : m ≠ 3) (h4 : m ≠ 4) (h5 : m ≠ 5) : Sys (M.set m o) room rs asked rows := by
  obtain ⟨dv, i, v, hd⟩ := S.s5
  refine ⟨by rw [List.length_set]; exact S.len, by rw [List.getElem?_set_ne h4]; exact S.k4, by rw [List.getElem?_set_ne h2]; exact S.t2, by rw [List.getElem?_set_ne h3]; exact S.a3, dv, by rw [List.getElem?_set_ne h5]; exact i, ?_, hd⟩
  cases dv with
  | r p =>
    have := hd p rfl
    show (match (M.set m o)[p]? with
      | some (.lst xs) => some (PyData.list xs)
      | _ => none) = some (eRows rows)
    rw [List.getElem?_set_ne (by omega)]
    exact v
  | _ => exact v
theorem Sys.far {M M' : Mem} {room : Int} {rs : List Rp} {asked : List (Rq × Int)} {rows : List Row} (S : Sys M room rs asked rows) (hl : M.length ≤ M'.length) (h : ∀ m, m < M.length → M'[m]? = M[m]?) : Sys M' room rs asked rows := by
  have l := S.len
  obtain ⟨dv, i, v, hd⟩ := S.s5
  refine ⟨by omega, by rw [h _ (by omega)]; exact S.k4, by rw [h _ (by omega)]; exact S.t2, by rw [h _ (by omega)]; exact S.a3, dv, by rw [h _ (by omega)]; exact i, ?_, hd⟩
  cases dv with
  | r p =>
    have v2 : wo (view M (.r p)) (fun z => z = eRows rows) := ⟨_, v, rfl⟩
    rw [v_r] at v2
    obtain ⟨xs, e1, e2⟩ := v2
    have e3 := lstAt_ok e1
    show (match M'[p]? with
      | some (.lst xs) => some (PyData.list xs)
      | _ => none) = some (eRows rows)
    rw [h p (at_lt e3), e3]
    exact congrArg some e2
  | _ => exact v
structure St (j : Nat) (M : Mem) (room : Int) (rs : List Rp) (asked : List (Rq × Int)) (ts : List Tr) (k now : Int) : Prop where
  dr : ∃ o, M[0]? = some o ∧ DrO o
  m1 : M[1]? = some (.lst (rs.map eR))
  rl : 0 < rs.length
  rn : rs.length ≤ 10
  rb : ∀ r ∈ rs, B 1 r.fs
  sys : Sys M room rs asked (pT ts)
  m6 : M[6]? = some (stO (lT ts) k room)
  m7 : M[7]? = some (.lst (asked.map eAsk))
  od : Od k ts
  be : ∀ t ∈ ts, BE (j + 1) t.e ∧ t.e.cm ≤ now
  tl : ts.length ≤ j
  al : asked.length ≤ j
  n0 : 1000 ≤ now
  n1 : now ≤ 1000 + 90 * j
theorem St.draw {j : Nat} {M : Mem} {room : Int} {rs : List Rp} {asked : List (Rq × Int)} {ts : List Tr} {k now : Int} {o : MO} (h : St j M room rs asked ts k now) (d : DrO o) : St j (M.set 0 o) room rs asked ts k now :=
  ⟨⟨o, List.getElem?_set_self (by have := h.sys.len; omega), d⟩, by rw [List.getElem?_set_ne (by decide)]; exact h.m1, h.rl, h.rn, h.rb, h.sys.set (by decide) (by decide) (by decide) (by decide) (by decide), by rw [List.getElem?_set_ne (by decide)]; exact h.m6, by rw [List.getElem?_set_ne (by decide)]; exact h.m7, h.od, h.be, h.tl, h.al, h.n0, h.n1⟩
theorem s_kentries {M : Mem} {room : Int} {rs : List Rp} {asked : List (Rq × Int)} {rows : List Row} {Q : DV → Mem → Prop} (S : Sys M room rs asked rows) (hl : rows.length ≤ 1000) (k : Q (.r M.length) (M ++ [.lst (rows.map fun r => eE r.2)])) : wD F_Keeper_entries [.r 4] M Q := by
  obtain ⟨dv, i, v, hd⟩ := S.s5
  simp_all only [g_Keeper_entries, F_Keeper_entries, ins_of S.k4, lk_shelf, ins_of i, lk_ents, ↓ixE0, ↓ixE1, ↓ixE2, ↓ixE3, ↓ixE4, ↓ixQ0, ↓ixQ1, ↓ixQ2, ↓ixQ3, ↓ixQ4, ↓ixR0, ↓ixR1, ↓ixR2, ↓ixR3, ↓bindE, ↓bindR, ↓wWt_F, ↓add_FF]
  exact s_shelf_entries i v hl k
end Ow
set_option Elab.async false
set_option linter.all false
set_option maxRecDepth 100000
set_option maxHeartbeats 4000000
namespace Ow
open PySem L2
noncomputable def g_body1 : SS := (sSeq (sSet 10 (sOne F__law_response (sCons (sVar 1) (sCons (sOp addF (sC (.int 1000)) (sOp mulF (sC (.int 40)) (sVar 3))) sNil))))
  (sSeq (sIf (isB (sOp eqF (sOne F__law_take (sCons (sVar 1) (sCons (sC (.int 5)) sNil))) (sC (.int 0)))) (sSet 10 (sTup (sCons (sC (.int 304)) (sCons (sOp ixF (sVar 10) (sC (.int 1))) (sCons (sTup sNil) (sCons (sTup sNil) sNil)))))) sSkip)
  (sDrop (sApp (sVar 2) (sCons (sVar 10) sNil)))))
noncomputable def g_body2 : SS := (sSeq (sSet 9 (sOp addF (sVar 9) (sOp ixF (sFrz (sLst (sCons (sC (.int 0)) (sCons (sC (.int 1)) (sCons (sC (.int 20)) (sCons (sC (.int 40)) (sCons (sC (.int 90)) sNil))))))) (sOne F__law_take (sCons (sVar 1) (sCons (sC (.int 5)) sNil))))))
  (sSeq (sSet 11 (sOne F__law_ask (sCons (sVar 1) sNil)))
  (sSeq (sSet 12 (sOne F__law_plan (sCons (sVar 7) (sCons (sVar 11) (sCons (sVar 9) sNil)))))
  (sSeq (sSet 13 (sPure F__law_sent (sCons (sVar 12) (sCons (sVar 11) sNil))))
  (sSeq (sSet 10 (sC .none))
  (sSeq (sIf (isB (sOp notNF (sVar 13) (sC .none))) (sSeq (sDrop (sApp (sVar 8) (sCons (sTup (sCons (sVar 13) (sCons (sVar 9) sNil))) sNil)))
  (sSet 10 (sOp ixF (sVar 2) (sOp subF (sCB min2F (sCons (sCB lenF (sCons (sVar 8) sNil)) (sCons (sCB lenF (sCons (sVar 2) sNil)) sNil))) (sC (.int 1)))))) sSkip)
  (sSeq (sSet 14 (sOne F__law_done (sCons (sVar 7) (sCons (sVar 12) (sCons (sVar 11) (sCons (sVar 10) (sCons (sVar 9) sNil)))))))
  (sSeq (sSet 15 (sMeth "Keeper" "ask" F_Keeper_ask (sVar 6) (sCons (sVar 11) (sCons (sVar 9) sNil))))
  (sSeq (sSet 16 (sMeth "Keeper" "entries" F_Keeper_entries (sVar 6) sNil))
  (sSeq (sIf (sOr (isB (sOp neF (sVar 15) (sVar 14))) (sOr (isB (sOp neF (sVar 16) (sFrz (sLc (.n 17) (iL (sDGet "rows" (sVar 7))) sYes (sOp ixF (sVar 17) (sC (.int 1))) [17])))) (isB (sOp neF (sMeth "Told" "asked" F_Told_asked (sVar 4) sNil) (sVar 8))))) (sRet (sC (.bool false))) sSkip)
  (sDrop (sApp (sVar 16) (sCons (sTup sNil) sNil)))))))))))))

abbrev dsL (x0 x3 : Option DV) (room now : Int) (x10 x11 x12 x13 x14 x15 x16 x17 : Option DV) : DS :=
  [x0, some (.r 0), some (.r 1), x3, some (.r 2), some (.d (.int room)), some (.r 4), some (.r 6), some (.r 7), some (.d (.int now)), x10, x11, x12, x13, x14, x15, x16, x17]
def Lp (j : Nat) (ds : DS) (M : Mem) : Prop := ∃ (x0 x3 x10 x11 x12 x13 x14 x15 x16 x17 : Option DV) (room : Int) (rs : List Rp) (asked : List (Rq × Int)) (ts : List Tr) (k now : Int), ds = dsL x0 x3 room now x10 x11 x12 x13 x14 x15 x16 x17 ∧ St j M room rs asked ts k now
theorem plan_ok {q : Rq} {now : Int} {o : Option En} (h : ∀ e, o = some e → BE 20 e ∧ e.cm ≤ now) : PlOk now (planV q now o) := by
  unfold planV
  split
  · trivial
  · cases o with
    | none => dsimp only; split <;> trivial
    | some e =>
      obtain ⟨h1, h2⟩ := h e rfl
      dsimp only
      split
      · exact ⟨h1, h2⟩
      · split
        · trivial
        · split
          · exact h1
          · split
            · exact h1
            · exact h1
theorem ne_self {d : PyData} {P : PyData → Prop} (h : shp d = true) : wo (neF d d) P ↔ P (.bool false) := by
  rw [o_ne, SeqAt.eqv_refl_plain d (shp_1 h)]
  exact ⟨fun x => x.2, fun x => ⟨⟨h, h⟩, x⟩⟩
theorem shp_out {p : Rp × Str} : shp (eOut p) = true := shp_of (n := 4) (fl_t (fls_cons fl_R (fls_cons fl_s fls_nil))) (by decide)
theorem shp_ents {es : List En} : shp (.list (es.map eE)) = true := shp_of (n := 5) (fl_l (fls_all fun d h => by obtain ⟨x, _, rfl⟩ := List.mem_map.mp h; exact fl_E)) (by decide)
theorem shp_asks {es : List (Rq × Int)} : shp (.list (es.map eAsk)) = true := shp_of (n := 5) (fl_l (fls_all fun d h => by obtain ⟨x, _, rfl⟩ := List.mem_map.mp h; exact fl_t (fls_cons fl_Q (fls_cons fl_i fls_nil)))) (by decide)
theorem act_be {q : Rq} {r : Rp} {t : Int} {o : Option En} {n : Nat} {e' : En} (hn : 1 ≤ n) (h : ∀ e, o = some e → BE n e) (hq : B 1 q.fs) (hr : B 1 r.fs) (ha : actV q r t (planV q t o) = .put e') : BE (n + 1) e' ∧ e'.cm = t := by
  have new : ∀ e', actNew q r t = .put e' → BE (n + 1) e' ∧ e'.cm = t := fun e' h => by
    unfold actNew at h
    split at h
    · cases h; exact ⟨(new_ok hq hr).up (by omega), rfl⟩
    · cases h
  have fr : ∀ e, BE n e → BE (n + 1) (frV e r t t) ∧ (frV e r t t).cm = t := fun e he => ⟨BE_fr he hr, rfl⟩
  have ask : ∀ o', (∀ e, o' = some e → BE n e) → ∀ e', actAsk q r t o' = .put e' → BE (n + 1) e' ∧ e'.cm = t := fun o' ho e' h => by
    cases o' with
    | none => exact new e' h
    | some e =>
      have h : (if r.st = 304 ∧ agV e.rs.fs r.fs = true then Act.put (frV e r t t) else actNew q r t) = .put e' := h
      split at h
      · cases h; exact fr e (ho e rfl)
      · exact new e' h
  unfold planV at ha
  split at ha
  · have ha : (if (methN.any fun n => decide (n = q.me)) = false ∧ 200 ≤ r.st ∧ r.st ≤ 399 then Act.drop q.tg else .no) = .put e' := ha
    split at ha <;> cases ha
  · cases o with
    | none =>
      dsimp only at ha
      split at ha
      · cases ha
      · exact ask none nofun e' ha
    | some e =>
      have he := h e rfl
      dsimp only at ha
      split at ha
      · cases ha
      · split at ha
        · cases ha
        · split at ha
          · exact ask (some e) h e' ha
          · split at ha
            · rw [act_check] at ha
              split at ha
              · cases ha; exact fr e he
              · exact new e' ha
            · exact ask (some e) h e' ha
theorem s_body {j : Nat} {ds : DS} {M : Mem} (hj : j ≤ 14) (h : Lp j ds M) : wS g_body2 ds M fun fl => ∃ ds' M', fl = .nx ds' M' ∧ Lp (j + 1) ds' M' := by
  obtain ⟨x0, x3, x10, x11, x12, x13, x14, x15, x16, x17, room, rs, asked, ts, k, now, rfl, S⟩ := h
  unfold g_body2
  -- time goes on
  refine seq_step (fun ds' M' => ∃ t : Int, ds' = dsL x0 x3 room t x10 x11 x12 x13 x14 x15 x16 x17 ∧ St j M' room rs asked ts k now ∧ now ≤ t ∧ t ≤ now + 90) ?_ ?_
  · obtain ⟨o, h0, d⟩ := S.dr
    simp_all only [↓ixE0, ↓ixE1, ↓ixE2, ↓ixE3, ↓ixE4, ↓ixQ0, ↓ixQ1, ↓ixQ2, ↓ixQ3, ↓ixQ4, ↓ixR0, ↓ixR1, ↓ixR2, ↓ixR3, ↓bindE, ↓bindR, ↓wWt_F, ↓add_FF]
    refine s_takeN h0 d (by decide) (by decide) fun v o' a b d' => ?_
    simp_all only [o_ix_l, ↓ixE0, ↓ixE1, ↓ixE2, ↓ixE3, ↓ixE4, ↓ixQ0, ↓ixQ1, ↓ixQ2, ↓ixQ3, ↓ixQ4, ↓ixR0, ↓ixR1, ↓ixR2, ↓ixR3, ↓bindE, ↓bindR, ↓wWt_F, ↓add_FF]
    refine ix_any (xs := [PyData.int 0, .int 1, .int 20, .int 40, .int 90]) a b fun z hz => ?_
    have : ∃ i : Int, z = .int i ∧ 0 ≤ i ∧ i ≤ 90 := by
      simp only [List.mem_cons, List.not_mem_nil, or_false] at hz
      rcases hz with h | h | h | h | h <;> exact ⟨_, h, by decide, by decide⟩
    obtain ⟨i, rfl, i0, i1⟩ := this
    simp_all only [↓ixE0, ↓ixE1, ↓ixE2, ↓ixE3, ↓ixE4, ↓ixQ0, ↓ixQ1, ↓ixQ2, ↓ixQ3, ↓ixQ4, ↓ixR0, ↓ixR1, ↓ixR2, ↓ixR3, ↓bindE, ↓bindR, ↓wWt_F, ↓add_FF]
    exact ⟨_, _, rfl, now + i, rfl, S.draw d', by omega, by omega⟩
  rintro ds M1 ⟨t, rfl, S, t0, t1⟩
  -- a request
  refine seq_step (fun ds' M' => ∃ q : Rq, ds' = dsL x0 x3 room t x10 (some (.d (eQ q))) x12 x13 x14 x15 x16 x17 ∧ St j M' room rs asked ts k now ∧ B 1 q.fs) ?_ ?_
  · obtain ⟨o, h0, d⟩ := S.dr
    simp_all only [↓ixE0, ↓ixE1, ↓ixE2, ↓ixE3, ↓ixE4, ↓ixQ0, ↓ixQ1, ↓ixQ2, ↓ixQ3, ↓ixQ4, ↓ixR0, ↓ixR1, ↓ixR2, ↓ixR3, ↓bindE, ↓bindR, ↓wWt_F, ↓add_FF]
    refine wN_1 h0 (by obtain ⟨_, _, _, _, rfl, _⟩ := d; rfl) rfl ((s_askq d).mono fun r M' ⟨q, o', e, e2, d', hq⟩ => ⟨_, o', e, e2, by obtain ⟨_, _, _, _, rfl, _⟩ := d'; rfl, _, _, rfl, q, rfl, S.draw d', hq⟩)
  rintro ds M2 ⟨q, rfl, S, hq⟩
  have hn0 : 0 ≤ t := by have := S.n0; omega
  have hn1 : t < 86400 := by have := S.n1; omega
  have hbl : ∀ r ∈ lT ts, BE 20 r.2 := fun r hr => by
    obtain ⟨x, hx, rfl⟩ := List.mem_map.mp hr
    exact (S.be x hx).1.up (by omega)
  have hll : (lT ts).length ≤ 900 := by unfold lT; rw [List.length_map]; have := S.tl; omega
  have hbp : ∀ r ∈ pT ts, BE 20 r.2 ∧ r.2.cm ≤ t := fun r hr => by
    obtain ⟨x, hx, rfl⟩ := List.mem_map.mp hr
    exact ⟨(S.be x hx).1.up (by omega), by have := (S.be x hx).2; show x.e.cm ≤ t; omega⟩
  have hlp : (pT ts).length ≤ 900 := by unfold pT; rw [List.length_map]; have := S.tl; omega
  obtain ⟨us, a1, a2, a3, a4, a5, a6⟩ := after_t (q := q) S.od
  have hfo : ∀ e, foundV q (lT ts) = some e → BE (j + 1) e ∧ e.cm ≤ t := fun e he => by
    unfold foundV at he
    split at he
    · cases he
    · obtain ⟨b, hb, rfl⟩ := Option.map_eq_some_iff.mp he
      obtain ⟨x, hx, rfl⟩ := List.mem_map.mp (best_mem hb)
      exact ⟨(S.be x hx).1, by have := (S.be x hx).2; show x.e.cm ≤ t; omega⟩
  have hpl : PlOk t (planV q t (foundV q (lT ts))) := plan_ok fun e he => ⟨(hfo e he).1.up (by omega), (hfo e he).2⟩
  have hact := fun (r : Rp) (hr : B 1 r.fs) (e' : En) => act_be (q := q) (r := r) (t := t) (o := foundV q (lT ts)) (n := j + 1) (e' := e') (by omega) (fun e he => (hfo e he).1) hq hr
  have hkask : ∀ (Q : DV → Mem → Prop) (M : Mem), Sys M room rs asked (pT ts) → (∀ M', Fr M M' → Sys M' room rs (askedV asked q t (planV q t (foundV q (lT ts)))) (progAct room (pT us) (actV q (ansV rs (asked.length + 1)) t (planV q t (foundV q (lT ts))))) → Q (.d (eOut (outV q (ansV rs (asked.length + 1)) t (planV q t (foundV q (lT ts)))))) M') → wD F_Keeper_ask [.r 4, .d (eQ q), .d (.int t)] M Q := fun Q M S0 k0 => by
    rw [a6, ← a2] at k0
    exact s_kask S0 hbp hlp S.rl S.rb (by have := S.al; omega) hq hn0 hn1 k0
  generalize hP : planV q t (foundV q (lT ts)) = pl at hpl hact hkask
  have hrB : B 1 (ansV rs (asked.length + 1)).fs := by
    have hlt : min (asked.length + 1) rs.length - 1 < rs.length := by have := S.rl; omega
    unfold ansV
    rw [List.getD_eq_getElem?_getD, List.getElem?_eq_getElem hlt]
    exact S.rb _ (List.getElem_mem hlt)
  have hact := hact (ansV rs (asked.length + 1)) hrB
  -- the law's plan
  refine seq_step (fun ds' M' => ds' = dsL x0 x3 room t x10 (some (.d (eQ q))) (some (.d (ePl pl))) x13 x14 x15 x16 x17 ∧ M' = M2.set 6 (stO (lT us) k room)) ?_ ?_
  · simp_all only [↓ixE0, ↓ixE1, ↓ixE2, ↓ixE3, ↓ixE4, ↓ixQ0, ↓ixQ1, ↓ixQ2, ↓ixQ3, ↓ixQ4, ↓ixR0, ↓ixR1, ↓ixR2, ↓ixR3, ↓bindE, ↓bindR, ↓wWt_F, ↓add_FF]
    refine wN_1 S.m6 rfl rfl (s_law_plan hbl hq (by omega) ?_)
    rw [hP, a1]
    exact ⟨_, _, rfl, rfl, rfl, _, _, rfl, rfl, rfl⟩
  rintro ds M3 ⟨rfl, rfl⟩
  have S3 : Sys (M2.set 6 (stO (lT us) k room)) room rs asked (pT ts) := S.sys.set (by decide) (by decide) (by decide) (by decide) (by decide)
  have h61 : (M2.set 6 (stO (lT us) k room))[1]? = some (.lst (rs.map eR)) := by rw [List.getElem?_set_ne (by decide)]; exact S.m1
  have h67 : (M2.set 6 (stO (lT us) k room))[7]? = some (.lst (asked.map eAsk)) := by rw [List.getElem?_set_ne (by decide)]; exact S.m7
  have h66 : (M2.set 6 (stO (lT us) k room))[6]? = some (stO (lT us) k room) := List.getElem?_set_self (by have := S.sys.len; omega)
  have h60 : ∃ o, (M2.set 6 (stO (lT us) k room))[0]? = some o ∧ DrO o := by rw [List.getElem?_set_ne (by decide)]; exact S.dr
  generalize M2.set 6 (stO (lT us) k room) = M3 at S3 h61 h67 h66 h60 ⊢
  -- what it sends
  refine seq_step (fun ds' M' => ds' = dsL x0 x3 room t x10 (some (.d (eQ q))) (some (.d (ePl pl))) (some (.d (eSent (sentV q pl)))) x14 x15 x16 x17 ∧ M' = M3) ?_ ?_
  · simp_all only [s_law_sent hq, ↓ixE0, ↓ixE1, ↓ixE2, ↓ixE3, ↓ixE4, ↓ixQ0, ↓ixQ1, ↓ixQ2, ↓ixQ3, ↓ixQ4, ↓ixR0, ↓ixR1, ↓ixR2, ↓ixR3, ↓bindE, ↓bindR, ↓wWt_F, ↓add_FF]
    exact ⟨_, _, rfl, rfl, rfl⟩
  rintro ds M' ⟨rfl, rfl⟩
  refine seq_step (fun ds' M'' => ds' = dsL x0 x3 room t (some (.d .none)) (some (.d (eQ q))) (some (.d (ePl pl))) (some (.d (eSent (sentV q pl)))) x14 x15 x16 x17 ∧ M'' = M') ?_ ?_
  · simp_all only [↓ixE0, ↓ixE1, ↓ixE2, ↓ixE3, ↓ixE4, ↓ixQ0, ↓ixQ1, ↓ixQ2, ↓ixQ3, ↓ixQ4, ↓ixR0, ↓ixR1, ↓ixR2, ↓ixR3, ↓bindE, ↓bindR, ↓wWt_F, ↓add_FF]
    exact ⟨_, _, rfl, rfl, rfl⟩
  rintro ds M3 ⟨rfl, rfl⟩
  refine seq_step (fun ds' M' => ∃ resp : PyData, ds' = dsL x0 x3 room t (some (.d resp)) (some (.d (eQ q))) (some (.d (ePl pl))) (some (.d (eSent (sentV q pl)))) x14 x15 x16 x17 ∧ (sentV q pl ≠ none → resp = eR (ansV rs (asked.length + 1))) ∧ Sys M' room rs asked (pT ts) ∧ M'[1]? = some (.lst (rs.map eR)) ∧ M'[7]? = some (.lst ((askedV asked q t pl).map eAsk)) ∧ M'[6]? = some (stO (lT us) k room) ∧ ∃ o, M'[0]? = some o ∧ DrO o) ?_ ?_
  · cases hs : sentV q pl with
    | none =>
      simp_all only [eSent, ↓ixE0, ↓ixE1, ↓ixE2, ↓ixE3, ↓ixE4, ↓ixQ0, ↓ixQ1, ↓ixQ2, ↓ixQ3, ↓ixQ4, ↓ixR0, ↓ixR1, ↓ixR2, ↓ixR3, ↓bindE, ↓bindR, ↓wWt_F, ↓add_FF]
      refine ⟨_, _, rfl, _, rfl, fun h => absurd rfl h, S3, h61, ?_, h66, h60⟩
      unfold askedV
      rw [hs]
      exact h67
    | some q' =>
      have nq : isNb (eQ q') = false := rfl
      have hal : (asked.map eAsk).length < lim := by rw [List.length_map]; have := S.al; show _ < 1000000; omega
      simp_all only [eSent, nq, lst_of h67, hal, ↓ixE0, ↓ixE1, ↓ixE2, ↓ixE3, ↓ixE4, ↓ixQ0, ↓ixQ1, ↓ixQ2, ↓ixQ3, ↓ixQ4, ↓ixR0, ↓ixR1, ↓ixR2, ↓ixR3, ↓bindE, ↓bindR, ↓wWt_F, ↓add_FF]
      have hr1 : asked.map eAsk ++ [PyData.tuple [eQ q', .int t]] = (asked ++ [(q', t)]).map eAsk := by rw [List.map_append]; rfl
      rw [hr1]
      have S4 : Sys (M3.set 7 (.lst ((asked ++ [(q', t)]).map eAsk))) room rs asked (pT ts) := S3.set (by decide) (by decide) (by decide) (by decide) (by decide)
      have g1 : (M3.set 7 (.lst ((asked ++ [(q', t)]).map eAsk)))[1]? = some (.lst (rs.map eR)) := by rw [List.getElem?_set_ne (by decide)]; exact h61
      have g7 : (M3.set 7 (.lst ((asked ++ [(q', t)]).map eAsk)))[7]? = some (.lst ((asked ++ [(q', t)]).map eAsk)) := List.getElem?_set_self (by have := S3.len; omega)
      have g6 : (M3.set 7 (.lst ((asked ++ [(q', t)]).map eAsk)))[6]? = some (stO (lT us) k room) := by rw [List.getElem?_set_ne (by decide)]; exact h66
      have g0 : ∃ o, (M3.set 7 (.lst ((asked ++ [(q', t)]).map eAsk)))[0]? = some o ∧ DrO o := by rw [List.getElem?_set_ne (by decide)]; exact h60
      generalize M3.set 7 (.lst ((asked ++ [(q', t)]).map eAsk)) = M4 at S4 g1 g7 g6 g0 ⊢
      have hd : ((asked ++ [(q', t)]).map eAsk).length = asked.length + 1 := by simp
      simp_all only [lst_of g1, lst_of g7, hd, o_ix_l, List.length_map, ↓ixE0, ↓ixE1, ↓ixE2, ↓ixE3, ↓ixE4, ↓ixQ0, ↓ixQ1, ↓ixQ2, ↓ixQ3, ↓ixQ4, ↓ixR0, ↓ixR1, ↓ixR2, ↓ixR3, ↓bindE, ↓bindR, ↓wWt_F, ↓add_FF]
      rw [ixN_min (by omega) S.rl, wo_some]
      have hlt : min (asked.length + 1) rs.length - 1 < rs.length := by have := S.rl; omega
      rw [List.getElem?_map, List.getElem?_eq_getElem hlt]
      refine wo_some.mpr ⟨_, _, rfl, _, rfl, fun _ => ?_, S4, g1, ?_, g6, g0⟩
      · unfold ansV
        rw [List.getD_eq_getElem?_getD, List.getElem?_eq_getElem hlt]
        rfl
      · unfold askedV
        rw [hs]
        exact g7
  rintro ds M4 ⟨resp, rfl, hresp, S4, g1, g7, g6, g0⟩
  generalize hrr : ansV rs (asked.length + 1) = r at hresp hact hrB hkask
  obtain ⟨vs, k', b1, b2, b3, b4, b5⟩ := act_t (room := room) a3 (actV q r t pl)
  have hus : ∀ x ∈ lT us, SmallE x.2 := fun x hx => by
    obtain ⟨y, hy, rfl⟩ := List.mem_map.mp hx
    exact ((S.be y (a4 y hy)).1.up (by omega : j + 1 ≤ 20)).small
  have hul : (lT us).length ≤ 900 := by unfold lT; rw [List.length_map]; have := S.tl; omega
  have hvl : vs.length ≤ j + 1 := by have := S.tl; omega
  -- the law's answer
  refine seq_step (fun ds' M' => ds' = dsL x0 x3 room t (some (.d resp)) (some (.d (eQ q))) (some (.d (ePl pl))) (some (.d (eSent (sentV q pl)))) (some (.d (eOut (outV q r t pl)))) x15 x16 x17 ∧ M' = M4.set 6 (stO (lT vs) k' room)) ?_ ?_
  · simp_all only [↓ixE0, ↓ixE1, ↓ixE2, ↓ixE3, ↓ixE4, ↓ixQ0, ↓ixQ1, ↓ixQ2, ↓ixQ3, ↓ixQ4, ↓ixR0, ↓ixR1, ↓ixR2, ↓ixR3, ↓bindE, ↓bindR, ↓wWt_F, ↓add_FF]
    refine wN_1 g6 rfl rfl (s_law_done (r := r) hus (by omega) hq hrB hpl hn0 hn1 hresp ?_)
    rw [b1]
    exact ⟨_, _, rfl, rfl, rfl, _, _, rfl, rfl, rfl⟩
  rintro ds M5 ⟨rfl, rfl⟩
  have S5 : Sys (M4.set 6 (stO (lT vs) k' room)) room rs asked (pT ts) := S4.set (by decide) (by decide) (by decide) (by decide) (by decide)
  have h1 : (M4.set 6 (stO (lT vs) k' room))[1]? = some (.lst (rs.map eR)) := by rw [List.getElem?_set_ne (by decide)]; exact g1
  have h7 : (M4.set 6 (stO (lT vs) k' room))[7]? = some (.lst ((askedV asked q t pl).map eAsk)) := by rw [List.getElem?_set_ne (by decide)]; exact g7
  have h6 : (M4.set 6 (stO (lT vs) k' room))[6]? = some (stO (lT vs) k' room) := List.getElem?_set_self (by have := S4.len; omega)
  have h0 : ∃ o, (M4.set 6 (stO (lT vs) k' room))[0]? = some o ∧ DrO o := by rw [List.getElem?_set_ne (by decide)]; exact g0
  generalize M4.set 6 (stO (lT vs) k' room) = M5 at S5 h1 h7 h6 h0 ⊢
  -- the keeper's answer
  refine seq_step (fun ds' M' => ds' = dsL x0 x3 room t (some (.d resp)) (some (.d (eQ q))) (some (.d (ePl pl))) (some (.d (eSent (sentV q pl)))) (some (.d (eOut (outV q r t pl)))) (some (.d (eOut (outV q r t pl)))) x16 x17 ∧ Fr M5 M' ∧ Sys M' room rs (askedV asked q t pl) (pT vs)) ?_ ?_
  · simp_all only [ins_of S5.k4, lk_ask, ↓ixE0, ↓ixE1, ↓ixE2, ↓ixE3, ↓ixE4, ↓ixQ0, ↓ixQ1, ↓ixQ2, ↓ixQ3, ↓ixQ4, ↓ixR0, ↓ixR1, ↓ixR2, ↓ixR3, ↓bindE, ↓bindR, ↓wWt_F, ↓add_FF]
    refine hkask _ M5 S5 fun M' f S6 => ?_
    rw [b2] at S6
    exact ⟨_, _, rfl, rfl, f, S6⟩
  rintro ds M6 ⟨rfl, f6, S6⟩
  have h1 : M6[1]? = some (.lst (rs.map eR)) := by rw [f6.at_ 1 (by decide) (by decide) (by decide)]; exact h1
  have h7 : M6[7]? = some (.lst ((askedV asked q t pl).map eAsk)) := by rw [f6.at_ 7 (by decide) (by decide) (by decide)]; exact h7
  have h6 : M6[6]? = some (stO (lT vs) k' room) := by rw [f6.at_ 6 (by decide) (by decide) (by decide)]; exact h6
  have h0 : ∃ o, M6[0]? = some o ∧ DrO o := by rw [f6.at_ 0 (by decide) (by decide) (by decide)]; exact h0
  have hpv : (pT vs).length ≤ 900 := by unfold pT; rw [List.length_map]; omega
  have hlv : (lT vs).length ≤ 900 := by unfold lT; rw [List.length_map]; omega
  -- its entries
  refine seq_step (fun ds' M' => ds' = dsL x0 x3 room t (some (.d resp)) (some (.d (eQ q))) (some (.d (ePl pl))) (some (.d (eSent (sentV q pl)))) (some (.d (eOut (outV q r t pl)))) (some (.d (eOut (outV q r t pl)))) (some (.r M6.length)) x17 ∧ M' = M6 ++ [.lst ((vs.map (·.e)).map eE)]) ?_ ?_
  · simp_all only [ins_of S6.k4, lk_kents, ↓ixE0, ↓ixE1, ↓ixE2, ↓ixE3, ↓ixE4, ↓ixQ0, ↓ixQ1, ↓ixQ2, ↓ixQ3, ↓ixQ4, ↓ixR0, ↓ixR1, ↓ixR2, ↓ixR3, ↓bindE, ↓bindR, ↓wWt_F, ↓add_FF]
    refine s_kentries S6 (by omega) ⟨_, _, rfl, rfl, ?_⟩
    unfold pT
    rw [List.map_map, List.map_map]
    rfl
  rintro ds M7 ⟨rfl, rfl⟩
  have lM := S6.len
  have i7 : ∀ m, m < 8 → (M6 ++ [MO.lst ((vs.map (·.e)).map eE)])[m]? = M6[m]? := fun m hm => List.getElem?_append_left (by omega)
  have hx : (M6 ++ [MO.lst ((vs.map (·.e)).map eE)])[M6.length]? = some (.lst ((vs.map (·.e)).map eE)) := by rw [List.getElem?_append_right (Nat.le_refl _), Nat.sub_self]; rfl
  have l7 : (M6 ++ [MO.lst ((vs.map (·.e)).map eE)]).length = M6.length + 1 := by rw [List.length_append]; rfl
  have i6 : ∀ m, m < M6.length → (M6 ++ [MO.lst ((vs.map (·.e)).map eE)])[m]? = M6[m]? := fun m hm => List.getElem?_append_left hm
  have S7 : Sys (M6 ++ [MO.lst ((vs.map (·.e)).map eE)]) room rs (askedV asked q t pl) (pT vs) := S6.far (by omega) i6
  have S8 : ∀ o, Sys ((M6 ++ [MO.lst ((vs.map (·.e)).map eE)]).set M6.length o) room rs (askedV asked q t pl) (pT vs) := fun o => S6.far (by rw [List.length_set]; omega) fun m hm => by rw [List.getElem?_set_ne (by omega)]; exact i6 m hm
  have h1 := (i7 1 (by decide)).trans h1
  have h7 := (i7 7 (by decide)).trans h7
  have h6 := (i7 6 (by decide)).trans h6
  have h0 : ∃ o, (M6 ++ [MO.lst ((vs.map (·.e)).map eE)])[0]? = some o ∧ DrO o := by rw [i7 0 (by decide)]; exact h0
  generalize hM7 : M6 ++ [MO.lst ((vs.map (·.e)).map eE)] = M7 at S7 S8 h1 h7 h6 h0 hx l7 ⊢
  generalize M6.length = n6 at lM hx l7 S8 ⊢
  -- the two agree
  refine seq_step (fun ds' M' => (∃ x17, ds' = dsL x0 x3 room t (some (.d resp)) (some (.d (eQ q))) (some (.d (ePl pl))) (some (.d (eSent (sentV q pl)))) (some (.d (eOut (outV q r t pl)))) (some (.d (eOut (outV q r t pl)))) (some (.r n6)) x17) ∧ M' = M7) ?_ ?_
  · have h6' : M7[6]? = some (.dic [("rows", eRows (lT vs)), ("number", .int k'), ("room", .int room)]) := h6
    have hll2 : (lT vs).length ≤ lim := Nat.le_trans hlv (by decide)
    have hle : (lT vs).map (fun r => eE r.2) = (vs.map (·.e)).map eE := by unfold lT; rw [List.map_map, List.map_map]; rfl
    have q1 := SeqAt.eqv_refl_plain _ (shp_1 (shp_out (p := outV q r t pl)))
    have q2 : PyData.eqvAll ((vs.map (·.e)).map eE) ((vs.map (·.e)).map eE) = true := by
      have := SeqAt.eqv_refl_plain _ (shp_1 (shp_ents (es := vs.map (·.e))))
      rw [eqv_ll] at this
      exact this
    have q3 : PyData.eqvAll ((askedV asked q t pl).map eAsk) ((askedV asked q t pl).map eAsk) = true := by
      have := SeqAt.eqv_refl_plain _ (shp_1 (shp_asks (es := askedV asked q t pl)))
      rw [eqv_ll] at this
      exact this
    simp_all only [dic_of h6', dk_rows, eRows, List.length_map, hll2, ↓ixE0, ↓ixE1, ↓ixE2, ↓ixE3, ↓ixE4, ↓ixQ0, ↓ixQ1, ↓ixQ2, ↓ixQ3, ↓ixQ4, ↓ixR0, ↓ixR1, ↓ixR2, ↓ixR3, ↓bindE, ↓bindR, ↓wWt_F, ↓add_FF]
    rw [lc_run eRow (fun _ => true) (fun r => eE r.2) live_d (lT vs) fun r hr => ?_, wo_some]
    · rw [ft]
      dsimp only
      rw [hle]
      simp_all only [shp_out, q1, lst_of hx, shp_ents, q2, ins_of S7.t2, lk_askedm, Bool.true_eq_false, Bool.false_eq_true, ↓ixE0, ↓ixE1, ↓ixE2, ↓ixE3, ↓ixE4, ↓ixQ0, ↓ixQ1, ↓ixQ2, ↓ixQ3, ↓ixQ4, ↓ixR0, ↓ixR1, ↓ixR2, ↓ixR3, ↓bindE, ↓bindR, ↓wWt_F, ↓add_FF]
      refine s_asked S7.t2 S7.a3 ?_
      simp_all only [lst_of h7, shp_asks, q3, Bool.true_eq_false, Bool.false_eq_true, ↓ixE0, ↓ixE1, ↓ixE2, ↓ixE3, ↓ixE4, ↓ixQ0, ↓ixQ1, ↓ixQ2, ↓ixQ3, ↓ixQ4, ↓ixR0, ↓ixR1, ↓ixR2, ↓ixR3, ↓bindE, ↓bindR, ↓wWt_F, ↓add_FF]
      exact ⟨_, _, rfl, ⟨_, rfl⟩, rfl⟩
    · simp_all only [wipe_n, wipe_c, ixW1, ↓ixE0, ↓ixE1, ↓ixE2, ↓ixE3, ↓ixE4, ↓ixQ0, ↓ixQ1, ↓ixQ2, ↓ixQ3, ↓ixQ4, ↓ixR0, ↓ixR1, ↓ixR2, ↓ixR3, ↓bindE, ↓bindR, ↓wWt_F, ↓add_FF]
  rintro ds M8 ⟨⟨x17', rfl⟩, rfl⟩
  have hvl2 : ((vs.map (·.e)).map eE).length < lim := by rw [List.length_map, List.length_map]; show _ < 1000000; omega
  simp_all only [lst_of hx, hvl2, ↓ixE0, ↓ixE1, ↓ixE2, ↓ixE3, ↓ixE4, ↓ixQ0, ↓ixQ1, ↓ixQ2, ↓ixQ3, ↓ixQ4, ↓ixR0, ↓ixR1, ↓ixR2, ↓ixR3, ↓bindE, ↓bindR, ↓wWt_F, ↓add_FF]
  have i8 : ∀ m (o : MO), m < 8 → (M8.set n6 o)[m]? = M8[m]? := fun m o hm => List.getElem?_set_ne (by omega)
  refine ⟨_, _, rfl, x0, x3, _, _, _, _, _, _, _, _, room, rs, askedV asked q t pl, vs, k', t, rfl, ⟨by rw [i8 _ _ (by decide)]; exact h0, by rw [i8 _ _ (by decide)]; exact h1, S.rl, S.rn, S.rb, ?_, by rw [i8 _ _ (by decide)]; exact h6, by rw [i8 _ _ (by decide)]; exact h7, b3, fun x hx => ?_, hvl, ?_, by have := S.n0; omega, by have := S.n1; omega⟩⟩
  · exact S8 _
  · rcases b4 x hx with hx | hx
    · have h := S.be x (a4 x hx)
      exact ⟨h.1.up (by omega), by have := h.2; omega⟩
    · have h := hact x.e hx
      exact ⟨h.1, by rw [h.2]; exact Int.le_refl _⟩
  · unfold askedV
    have := S.al
    split
    · omega
    · rw [List.length_append]; simp only [List.length_cons, List.length_nil]; omega
end Ow
set_option Elab.async false
set_option linter.all false
set_option maxRecDepth 100000
set_option maxHeartbeats 4000000
namespace Ow
open PySem L2
/-! ### the responses -/
theorem dr_flat {o : MO} (h : DrO o) : flat o = true := by obtain ⟨_, _, _, _, rfl, _⟩ := h; rfl
abbrev dsP (x0 x3 x10 : Option DV) : DS := [x0, some (.r 0), some (.r 1), x3, none, none, none, none, none, none, x10, none, none, none, none, none, none, none]
theorem s_body1 {o : MO} {rs : List Rp} {x0 x10 : Option DV} {k : Int} (ho : DrO o) (hk : 0 ≤ k) (hk2 : k < 10) (hl : rs.length ≤ 10) : wS g_body1 (dsP x0 (some (.d (.int k))) x10) [o, .lst (rs.map eR)] fun fl => ∃ x10' o' rp, fl = .nx (dsP x0 (some (.d (.int k))) x10') [o', .lst ((rs ++ [rp]).map eR)] ∧ DrO o' ∧ B 1 rp.fs := by
  unfold g_body1
  refine seq_step (fun ds M => ∃ (o' : MO) (rp : Rp), ds = dsP x0 (some (.d (.int k))) (some (.d (eR rp))) ∧ M = [o', .lst (rs.map eR)] ∧ DrO o' ∧ B 1 rp.fs) ?_ ?_
  · simp_all only [↓ixE0, ↓ixE1, ↓ixE2, ↓ixE3, ↓ixE4, ↓ixQ0, ↓ixQ1, ↓ixQ2, ↓ixQ3, ↓ixQ4, ↓ixR0, ↓ixR1, ↓ixR2, ↓ixR3, ↓bindE, ↓bindR, ↓wWt_F, ↓add_FF]
    exact wN_1 rfl (dr_flat ho) rfl ((s_response ho (by omega) (by omega)).mono fun r M' ⟨rp, o', e, e2, d', hb⟩ => ⟨_, o', e, e2, dr_flat d', _, _, rfl, o', rp, rfl, rfl, d', hb⟩)
  rintro ds M ⟨o, rp, rfl, rfl, ho, hb⟩
  refine seq_step (fun ds M => ∃ (o' : MO) (rp : Rp), ds = dsP x0 (some (.d (.int k))) (some (.d (eR rp))) ∧ M = [o', .lst (rs.map eR)] ∧ DrO o' ∧ B 1 rp.fs) ?_ ?_
  · simp_all only [↓ixE0, ↓ixE1, ↓ixE2, ↓ixE3, ↓ixE4, ↓ixQ0, ↓ixQ1, ↓ixQ2, ↓ixQ3, ↓ixQ4, ↓ixR0, ↓ixR1, ↓ixR2, ↓ixR3, ↓bindE, ↓bindR, ↓wWt_F, ↓add_FF]
    refine s_takeN rfl ho (by decide) (by decide) fun v o' a b d => ?_
    simp_all only [↓ixE0, ↓ixE1, ↓ixE2, ↓ixE3, ↓ixE4, ↓ixQ0, ↓ixQ1, ↓ixQ2, ↓ixQ3, ↓ixQ4, ↓ixR0, ↓ixR1, ↓ixR2, ↓ixR3, ↓bindE, ↓bindR, ↓wWt_F, ↓add_FF]
    exact ⟨fun _ => ⟨_, _, rfl, o', ⟨304, rp.fs, []⟩, rfl, rfl, d, hb⟩, fun _ => ⟨_, _, rfl, o', rp, rfl, rfl, d, hb⟩⟩
  rintro ds M ⟨o, rp, rfl, rfl, ho, hb⟩
  have h : (rs.map eR).length < lim := by rw [List.length_map]; show _ < 1000000; omega
  simp_all only [h, lst_S, lst_0, ↓ixE0, ↓ixE1, ↓ixE2, ↓ixE3, ↓ixE4, ↓ixQ0, ↓ixQ1, ↓ixQ2, ↓ixQ3, ↓ixQ4, ↓ixR0, ↓ixR1, ↓ixR2, ↓ixR3, ↓bindE, ↓bindR, ↓wWt_F, ↓add_FF]
  exact ⟨_, o, rp, by rw [List.map_append]; rfl, ho, hb⟩
theorem dic_new {room : Int} : ([("rows", .list []), ("number", .int 0), ("room", .int room)] : List (Str × PyData)).foldl (fun acc p => putKD acc p.1 p.2) [] = ([("rows", eRows []), ("number", .int 0), ("room", .int room)] : List (Str × PyData)) := by
  simp [putKD, n_rn, n_rm, n_nm, eRows]
theorem s_law {ns : List Int} (hn : ns.length ≤ 1000) : wD F_law [.s (ns.map .int)] [] fun r _ => r = .d (.bool true) := by
  rw [F_law, wD_fn]
  refine ⟨rfl, ?_⟩
  unfold g_law
  -- the draws
  refine seq_step (fun ds M => ∃ (x0 : Option DV) (o : MO), ds = [x0, some (.r 0), none, none, none, none, none, none, none, none, none, none, none, none, none, none, none, none] ∧ M = [o] ∧ DrO o) ?_ ?_
  · simp_all only [↓ixE0, ↓ixE1, ↓ixE2, ↓ixE3, ↓ixE4, ↓ixQ0, ↓ixQ1, ↓ixQ2, ↓ixQ3, ↓ixQ4, ↓ixR0, ↓ixR1, ↓ixR2, ↓ixR3, ↓bindE, ↓bindR, ↓wWt_F, ↓add_FF]
    exact s_draw hn fun o d => ⟨_, _, rfl, _, o, rfl, rfl, d⟩
  rintro ds M ⟨x0, o, rfl, rfl, ho⟩
  -- the responses
  refine seq_step (fun ds M => ∃ o : MO, ds = dsP x0 none none ∧ M = [o, .lst []] ∧ DrO o) ?_ ?_
  · simp_all only [↓ixE0, ↓ixE1, ↓ixE2, ↓ixE3, ↓ixE4, ↓ixQ0, ↓ixQ1, ↓ixQ2, ↓ixQ3, ↓ixQ4, ↓ixR0, ↓ixR1, ↓ixR2, ↓ixR3, ↓bindE, ↓bindR, ↓wWt_F, ↓add_FF]
    exact ⟨_, _, rfl, o, rfl, rfl, ho⟩
  rintro ds M ⟨o, rfl, rfl, ho⟩
  refine seq_step (fun ds M => ∃ (x3 x10 : Option DV) (o : MO) (rs : List Rp), ds = dsP x0 x3 x10 ∧ M = [o, .lst (rs.map eR)] ∧ DrO o ∧ 0 < rs.length ∧ rs.length ≤ 10 ∧ ∀ r ∈ rs, B 1 r.fs) ?_ ?_
  · rw [wS_for, wI_Ri]
    simp_all only [↓ixE0, ↓ixE1, ↓ixE2, ↓ixE3, ↓ixE4, ↓ixQ0, ↓ixQ1, ↓ixQ2, ↓ixQ3, ↓ixQ4, ↓ixR0, ↓ixR1, ↓ixR2, ↓ixR3, ↓bindE, ↓bindR, ↓wWt_F, ↓add_FF]
    refine s_takeN rfl ho (by decide) (by decide) fun v o' a b d => ?_
    simp_all only [↓ixE0, ↓ixE1, ↓ixE2, ↓ixE3, ↓ixE4, ↓ixQ0, ↓ixQ1, ↓ixQ2, ↓ixQ3, ↓ixQ4, ↓ixR0, ↓ixR1, ↓ixR2, ↓ixR3, ↓bindE, ↓bindR, ↓wWt_F, ↓add_FF]
    refine ⟨⟨by omega, by omega⟩, ?_⟩
    refine for_run (fun i : Nat => PyData.int (i : Nat)) (fun r ds M => ∃ (x3 x10 : Option DV) (o : MO) (rs : List Rp), ds = dsP x0 x3 x10 ∧ M = [o, .lst (rs.map eR)] ∧ DrO o ∧ rs.length + r.length = (1 + v).toNat ∧ (∀ i ∈ r, i < 10) ∧ ∀ r ∈ rs, B 1 r.fs) (fun _ _ _ _ => live_d) ?_ ?_ (List.range (1 + v).toNat) _ _ ⟨_, _, o', [], rfl, rfl, d, by rw [List.length_range]; exact Nat.zero_add _, fun i hi => by have := List.mem_range.mp hi; omega, nofun⟩
    · rintro i r ds M ⟨x3, x10, o, rs, rfl, rfl, ho, hr, hi, hb⟩
      have hr' : rs.length + (r.length + 1) = (1 + v).toNat := hr
      have h10 := hi i List.mem_cons_self
      refine wo_mono (wo_some.mpr rfl : wo (bindP (.n 3) (PyData.int (i : Nat)) (dsP x0 x3 x10)) fun z => z = dsP x0 (some (.d (.int (i : Nat)))) x10) fun ds1 e => ?_
      subst e
      refine (s_body1 (k := (i : Nat)) ho (by omega) (by omega) (by omega)).mono fun fl ⟨x10', o', rp, e, d, q⟩ => ?_
      subst e
      refine ⟨_, _, o', rs ++ [rp], rfl, rfl, d, by rw [List.length_append]; show rs.length + 1 + r.length = _; omega, fun i hi' => hi i (List.mem_cons_of_mem _ hi'), fun z hz => ?_⟩
      rcases List.mem_append.mp hz with h | h
      · exact hb z h
      · rw [List.mem_singleton.mp h]; exact q
    · rintro ds M ⟨x3, x10, o, rs, rfl, rfl, ho, hr, _, hb⟩
      have hr' : rs.length = (1 + v).toNat := hr
      exact ⟨_, _, rfl, x3, x10, o, rs, rfl, rfl, ho, by omega, by omega, hb⟩
  rintro ds M ⟨x3, x10, o, rs, rfl, rfl, ho, r0, r1, rb⟩
  -- the origin
  refine seq_step (fun ds M => ds = [x0, some (.r 0), some (.r 1), x3, some (.r 2), none, none, none, none, none, x10, none, none, none, none, none, none, none] ∧ M = [o, .lst (rs.map eR), .ins "Told" (tdF (.list (rs.map eR)) 3), .lst []]) ?_ ?_
  · simp_all only [↓ixE0, ↓ixE1, ↓ixE2, ↓ixE3, ↓ixE4, ↓ixQ0, ↓ixQ1, ↓ixQ2, ↓ixQ3, ↓ixQ4, ↓ixR0, ↓ixR1, ↓ixR2, ↓ixR3, ↓bindE, ↓bindR, ↓wWt_F, ↓add_FF]
    refine s_told_init rfl ?_
    rw [wU_none]
    exact ⟨_, _, rfl, rfl, rfl⟩
  rintro ds M ⟨rfl, rfl⟩
  -- the room
  refine seq_step (fun ds M => ∃ (room : Int) (o : MO), ds = [x0, some (.r 0), some (.r 1), x3, some (.r 2), some (.d (.int room)), none, none, none, none, x10, none, none, none, none, none, none, none] ∧ M = [o, .lst (rs.map eR), .ins "Told" (tdF (.list (rs.map eR)) 3), .lst []] ∧ DrO o) ?_ ?_
  · simp_all only [↓ixE0, ↓ixE1, ↓ixE2, ↓ixE3, ↓ixE4, ↓ixQ0, ↓ixQ1, ↓ixQ2, ↓ixQ3, ↓ixQ4, ↓ixR0, ↓ixR1, ↓ixR2, ↓ixR3, ↓bindE, ↓bindR, ↓wWt_F, ↓add_FF]
    refine s_takeN rfl ho (by decide) (by decide) fun v o' a b d => ?_
    exact ⟨_, _, rfl, v, o', rfl, rfl, d⟩
  rintro ds M ⟨room, o, rfl, rfl, ho⟩
  -- the keeper
  refine seq_step (fun ds M => ds = [x0, some (.r 0), some (.r 1), x3, some (.r 2), some (.d (.int room)), some (.r 4), none, none, none, x10, none, none, none, none, none, none, none] ∧ M = [o, .lst (rs.map eR), .ins "Told" (tdF (.list (rs.map eR)) 3), .lst [], .ins "Keeper" (kpF 2 5), .ins "Shelf" (shF room (.d (.list [])))]) ?_ ?_
  · simp_all only [↓ixE0, ↓ixE1, ↓ixE2, ↓ixE3, ↓ixE4, ↓ixQ0, ↓ixQ1, ↓ixQ2, ↓ixQ3, ↓ixQ4, ↓ixR0, ↓ixR1, ↓ixR2, ↓ixR3, ↓bindE, ↓bindR, ↓wWt_F, ↓add_FF]
    refine s_keeper_init ?_
    rw [wU_none]
    exact ⟨_, _, rfl, rfl, rfl⟩
  rintro ds M ⟨rfl, rfl⟩
  -- the law's shelf
  refine seq_step (fun ds M => ds = [x0, some (.r 0), some (.r 1), x3, some (.r 2), some (.d (.int room)), some (.r 4), some (.r 6), none, none, x10, none, none, none, none, none, none, none] ∧ M = [o, .lst (rs.map eR), .ins "Told" (tdF (.list (rs.map eR)) 3), .lst [], .ins "Keeper" (kpF 2 5), .ins "Shelf" (shF room (.d (.list []))), stO [] 0 room]) ?_ ?_
  · simp_all only [dic_new, ↓ixE0, ↓ixE1, ↓ixE2, ↓ixE3, ↓ixE4, ↓ixQ0, ↓ixQ1, ↓ixQ2, ↓ixQ3, ↓ixQ4, ↓ixR0, ↓ixR1, ↓ixR2, ↓ixR3, ↓bindE, ↓bindR, ↓wWt_F, ↓add_FF]
    exact ⟨_, _, rfl, rfl, rfl⟩
  rintro ds M ⟨rfl, rfl⟩
  refine seq_step (fun ds M => ds = [x0, some (.r 0), some (.r 1), x3, some (.r 2), some (.d (.int room)), some (.r 4), some (.r 6), some (.r 7), none, x10, none, none, none, none, none, none, none] ∧ M = [o, .lst (rs.map eR), .ins "Told" (tdF (.list (rs.map eR)) 3), .lst [], .ins "Keeper" (kpF 2 5), .ins "Shelf" (shF room (.d (.list []))), stO [] 0 room, .lst []]) ?_ ?_
  · simp_all only [↓ixE0, ↓ixE1, ↓ixE2, ↓ixE3, ↓ixE4, ↓ixQ0, ↓ixQ1, ↓ixQ2, ↓ixQ3, ↓ixQ4, ↓ixR0, ↓ixR1, ↓ixR2, ↓ixR3, ↓bindE, ↓bindR, ↓wWt_F, ↓add_FF]
    exact ⟨_, _, rfl, rfl, rfl⟩
  rintro ds M ⟨rfl, rfl⟩
  refine seq_step (fun ds M => Lp 0 ds M) ?_ ?_
  · simp_all only [↓ixE0, ↓ixE1, ↓ixE2, ↓ixE3, ↓ixE4, ↓ixQ0, ↓ixQ1, ↓ixQ2, ↓ixQ3, ↓ixQ4, ↓ixR0, ↓ixR1, ↓ixR2, ↓ixR3, ↓bindE, ↓bindR, ↓wWt_F, ↓add_FF]
    exact ⟨_, _, rfl, x0, x3, x10, _, _, _, _, _, _, _, room, rs, [], [], 0, 1000, rfl, ⟨⟨o, rfl, ho⟩, rfl, r0, r1, rb, ⟨Nat.le_refl 8, rfl, rfl, rfl, .d (.list []), rfl, rfl, nofun⟩, rfl, rfl, ⟨nofun, nofun⟩, nofun, by decide, by decide, by decide, by decide⟩⟩
  intro ds M h
  -- the requests
  refine seq_step (fun _ _ => True) ?_ ?_
  · rw [wS_for, wI_Ri]
    obtain ⟨x0, x3, x10, x11, x12, x13, x14, x15, x16, x17, room, rs, asked, ts, k, now, rfl, S⟩ := h
    obtain ⟨o, h0, d⟩ := S.dr
    simp_all only [↓ixE0, ↓ixE1, ↓ixE2, ↓ixE3, ↓ixE4, ↓ixQ0, ↓ixQ1, ↓ixQ2, ↓ixQ3, ↓ixQ4, ↓ixR0, ↓ixR1, ↓ixR2, ↓ixR3, ↓bindE, ↓bindR, ↓wWt_F, ↓add_FF]
    refine s_takeN h0 d (by decide) (by decide) fun v o' a b d' => ?_
    simp_all only [↓ixE0, ↓ixE1, ↓ixE2, ↓ixE3, ↓ixE4, ↓ixQ0, ↓ixQ1, ↓ixQ2, ↓ixQ3, ↓ixQ4, ↓ixR0, ↓ixR1, ↓ixR2, ↓ixR3, ↓bindE, ↓bindR, ↓wWt_F, ↓add_FF]
    refine ⟨⟨by omega, by omega⟩, ?_⟩
    refine for_run (fun i : Nat => PyData.int (i : Nat)) (fun r ds M => ∃ j, j + r.length ≤ 14 ∧ Lp j ds M) (fun _ _ _ _ => live_d) ?_ ?_ (List.range v.toNat) _ _ ⟨0, by rw [List.length_range]; omega, x0, x3, x10, x11, x12, x13, x14, x15, x16, x17, room, rs, asked, ts, k, now, rfl, S.draw d'⟩
    · rintro i r ds M ⟨j, hj, x0, x3, x10, x11, x12, x13, x14, x15, x16, x17, room, rs, asked, ts, k, now, rfl, S⟩
      have hj' : j + (r.length + 1) ≤ 14 := hj
      refine wo_mono (wo_some.mpr rfl : wo (bindP (.n 3) (PyData.int (i : Nat)) (dsL x0 x3 room now x10 x11 x12 x13 x14 x15 x16 x17)) fun z => z = dsL x0 (some (.d (.int (i : Nat)))) room now x10 x11 x12 x13 x14 x15 x16 x17) fun ds1 e => ?_
      subst e
      refine (s_body (j := j) (by omega) ⟨x0, _, x10, x11, x12, x13, x14, x15, x16, x17, room, rs, asked, ts, k, now, rfl, S⟩).mono fun fl ⟨ds', M', e, q⟩ => ?_
      subst e
      exact ⟨j + 1, by omega, q⟩
    · intro ds M _
      exact ⟨ds, M, rfl⟩
  intro ds M _
  rw [wS_ret, wE_c]
  rfl
theorem main (ns : List Int) (hn : ns.length ≤ 63) : ∃ M', F_law [.s (ns.map PyData.int)] [] = some (.d (.bool true), M') := by
  obtain ⟨⟨r, M'⟩, e, q⟩ := s_law (ns := ns) (by omega)
  have q : r = .d (.bool true) := q
  subst q
  exact ⟨M', e⟩
end Ow
theorem PySem.Challenge.cw_ownanswer_k72_whole_keeper_before_any_or_holds : PySem.Challenge.rw_ownanswer_k72_whole_keeper_before_any_or.Holds :=
  Ow.holds_of Ow.main
