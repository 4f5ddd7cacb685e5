import PyProof.Rows.All
import HandS.HeadHook1
import HandS.HeadHook2
import PySem.Challenge.RW_boastrow_k91_whole_halls_and_long_rows
import Lean
import KE.KStateDown
import HandS.Head0
import HandS.Head1
import HandS.Head2
import HandS.HeadEnd
import HandS.HeadHook3
import HandS.HeadHook4
import HandS.Words
import Wide.All
import OpenK.AllK
import Wide.FinOn
import PyProof.EqAt
import HandS.Base
import HandS.Call
import HandS.List
import HandS.Comp
import HandS.Ends
import HandS.Dict
import HandS.Iter
import HandS.Text
import HandS.More
import HandS.WordsList
import HandS.WordsDict
import HandS.Style
import HandS.IsInst
import HandS.DictComp
import HandS.WideBits
import HandS.Wide
import HandS.Walk
import HandS.OwnEq
import HandS.Defaults
import HandS.Small
set_option Elab.async false
set_option linter.all false
set_option maxRecDepth 100000
set_option maxHeartbeats 4000000
namespace Bo
open PySem PySem.Spec PyProof.Rows L2
set_option maxHeartbeats 0
def top (i : Nat) : Stmt := PySem.Challenge.pw_boastrow_k91_whole_halls_and_long_rows.main.body.getD i (.Pass ⟨0, 0, 0, 0⟩)
abbrev s_is_number : Stmt := top 12
abbrev s_is_saying : Stmt := top 13
abbrev s_need_number : Stmt := top 14
abbrev s_need_saying : Stmt := top 15
abbrev s_need_place : Stmt := top 16
abbrev s_is_so : Stmt := top 17
abbrev s_Spot__init : Stmt := inClass (top 21) 0
abbrev s_Over__init : Stmt := inClass (top 22) 0
abbrev s_laid_many : Stmt := top 23
abbrev s_people_said : Stmt := top 24
abbrev s_people_of : Stmt := top 25
abbrev s_is_long : Stmt := top 26
abbrev s_need_long : Stmt := top 27
abbrev s_planted : Stmt := top 28
abbrev s_parts_of : Stmt := top 29
abbrev s_tail : Stmt := top 30
abbrev s_head : Stmt := top 31
abbrev s_spot_at : Stmt := top 32
abbrev s_said_in : Stmt := top 33
abbrev s_people_in : Stmt := top 34
abbrev s_saying_at : Stmt := top 35
abbrev s_lesser_slack : Stmt := top 39
abbrev s_word_of : Stmt := top 40
abbrev s_add_counts : Stmt := top 41
abbrev s_through : Stmt := top 42
abbrev s_through_over : Stmt := top 43
abbrev s_wished : Stmt := top 44
abbrev s_wished_over : Stmt := top 45
abbrev s_total_of : Stmt := top 46
abbrev s_far_total : Stmt := top 47
abbrev s_least_company : Stmt := top 48
abbrev s_far_heard : Stmt := top 49
abbrev s_far_speaks : Stmt := top 50
abbrev s_account : Stmt := top 51
abbrev s_is_name : Stmt := top 55
abbrev s_need_name : Stmt := top 56
abbrev s_need_few : Stmt := top 57
abbrev s_slim : Stmt := top 58
abbrev s_over_and_over : Stmt := top 59
abbrev s_about : Stmt := top 60
abbrev s_written : Stmt := top 61
abbrev s_Hall__init : Stmt := inClass (top 62) 0
abbrev s_Hall__len : Stmt := inClass (top 62) 1
abbrev s_Hall_s10_parts : Stmt := inClass (top 62) 2
abbrev s_Hall_s10_free : Stmt := inClass (top 62) 3
abbrev s_Hall_s10_keep : Stmt := inClass (top 62) 4
abbrev s_Hall_begin : Stmt := inClass (top 62) 5
abbrev s_Hall_step_in : Stmt := inClass (top 62) 6
abbrev s_Hall_cut : Stmt := inClass (top 62) 9
abbrev s_Hall_join_to : Stmt := inClass (top 62) 10
abbrev s_Hall_say_over : Stmt := inClass (top 62) 11
abbrev s_Hall_turn_about : Stmt := inClass (top 62) 12
abbrev s_Hall_undo : Stmt := inClass (top 62) 14
abbrev s_Hall_names : Stmt := inClass (top 62) 16
abbrev s_Hall_people : Stmt := inClass (top 62) 17
abbrev s_Hall_total : Stmt := inClass (top 62) 18
abbrev s_Hall_least : Stmt := inClass (top 62) 19
abbrev s_Hall_saying : Stmt := inClass (top 62) 20
abbrev s_Hall_speaks : Stmt := inClass (top 62) 21
abbrev s_Hall_long_row : Stmt := inClass (top 62) 22
abbrev s_Lurn : Stmt := top 64
abbrev s_Lball : Stmt := top 65
abbrev s_Lsaying : Stmt := top 66
abbrev s_Lpeople : Stmt := top 67
abbrev s_Llong : Stmt := top 68
abbrev s_Lsayings : Stmt := top 69
abbrev s_Lcompany : Stmt := top 70
abbrev s_Lgreat : Stmt := top 71
abbrev s_Lmove : Stmt := top 72
abbrev s_Lplaces_right : Stmt := top 73
abbrev s_Lname_right : Stmt := top 74
abbrev s_law : Stmt := top 75
def d_is_number : He.DefD := ⟨("is_number", none), "is_number", "is_number", defArgs s_is_number, defBody s_is_number, defScope s_is_number, [], []⟩
def d_is_saying : He.DefD := ⟨("is_saying", none), "is_saying", "is_saying", defArgs s_is_saying, defBody s_is_saying, defScope s_is_saying, [], []⟩
def d_need_number : He.DefD := ⟨("need_number", none), "need_number", "need_number", defArgs s_need_number, defBody s_need_number, defScope s_need_number, [], []⟩
def d_need_saying : He.DefD := ⟨("need_saying", none), "need_saying", "need_saying", defArgs s_need_saying, defBody s_need_saying, defScope s_need_saying, [], []⟩
def d_need_place : He.DefD := ⟨("need_place", none), "need_place", "need_place", defArgs s_need_place, defBody s_need_place, defScope s_need_place, [], []⟩
def d_is_so : He.DefD := ⟨("is_so", none), "is_so", "is_so", defArgs s_is_so, defBody s_is_so, defScope s_is_so, [], []⟩
def d_Spot__init : He.DefD := ⟨("Spot", some "__init__"), "__init__", "Spot.__init__", defArgs s_Spot__init, defBody s_Spot__init, defScope s_Spot__init, [], []⟩
def d_Over__init : He.DefD := ⟨("Over", some "__init__"), "__init__", "Over.__init__", defArgs s_Over__init, defBody s_Over__init, defScope s_Over__init, [], []⟩
def d_laid_many : He.DefD := ⟨("laid_many", none), "laid_many", "laid_many", defArgs s_laid_many, defBody s_laid_many, defScope s_laid_many, [], []⟩
def d_people_said : He.DefD := ⟨("people_said", none), "people_said", "people_said", defArgs s_people_said, defBody s_people_said, defScope s_people_said, [], []⟩
def d_people_of : He.DefD := ⟨("people_of", none), "people_of", "people_of", defArgs s_people_of, defBody s_people_of, defScope s_people_of, [], []⟩
def d_is_long : He.DefD := ⟨("is_long", none), "is_long", "is_long", defArgs s_is_long, defBody s_is_long, defScope s_is_long, [], []⟩
def d_need_long : He.DefD := ⟨("need_long", none), "need_long", "need_long", defArgs s_need_long, defBody s_need_long, defScope s_need_long, [], []⟩
def d_planted : He.DefD := ⟨("planted", none), "planted", "planted", defArgs s_planted, defBody s_planted, defScope s_planted, [], []⟩
def d_parts_of : He.DefD := ⟨("parts_of", none), "parts_of", "parts_of", defArgs s_parts_of, defBody s_parts_of, defScope s_parts_of, [], []⟩
def d_tail : He.DefD := ⟨("tail", none), "tail", "tail", defArgs s_tail, defBody s_tail, defScope s_tail, [], []⟩
def d_head : He.DefD := ⟨("head", none), "head", "head", defArgs s_head, defBody s_head, defScope s_head, [], []⟩
def d_spot_at : He.DefD := ⟨("spot_at", none), "spot_at", "spot_at", defArgs s_spot_at, defBody s_spot_at, defScope s_spot_at, [], []⟩
def d_said_in : He.DefD := ⟨("said_in", none), "said_in", "said_in", defArgs s_said_in, defBody s_said_in, defScope s_said_in, [], []⟩
def d_people_in : He.DefD := ⟨("people_in", none), "people_in", "people_in", defArgs s_people_in, defBody s_people_in, defScope s_people_in, [], []⟩
def d_saying_at : He.DefD := ⟨("saying_at", none), "saying_at", "saying_at", defArgs s_saying_at, defBody s_saying_at, defScope s_saying_at, [], []⟩
def d_lesser_slack : He.DefD := ⟨("lesser_slack", none), "lesser_slack", "lesser_slack", defArgs s_lesser_slack, defBody s_lesser_slack, defScope s_lesser_slack, [], []⟩
def d_word_of : He.DefD := ⟨("word_of", none), "word_of", "word_of", defArgs s_word_of, defBody s_word_of, defScope s_word_of, [], []⟩
def d_add_counts : He.DefD := ⟨("add_counts", none), "add_counts", "add_counts", defArgs s_add_counts, defBody s_add_counts, defScope s_add_counts, [], []⟩
def d_through : He.DefD := ⟨("through", none), "through", "through", defArgs s_through, defBody s_through, defScope s_through, [], []⟩
def d_through_over : He.DefD := ⟨("through_over", none), "through_over", "through_over", defArgs s_through_over, defBody s_through_over, defScope s_through_over, [], []⟩
def d_wished : He.DefD := ⟨("wished", none), "wished", "wished", defArgs s_wished, defBody s_wished, defScope s_wished, [], []⟩
def d_wished_over : He.DefD := ⟨("wished_over", none), "wished_over", "wished_over", defArgs s_wished_over, defBody s_wished_over, defScope s_wished_over, [], []⟩
def d_total_of : He.DefD := ⟨("total_of", none), "total_of", "total_of", defArgs s_total_of, defBody s_total_of, defScope s_total_of, [], []⟩
def d_far_total : He.DefD := ⟨("far_total", none), "far_total", "far_total", defArgs s_far_total, defBody s_far_total, defScope s_far_total, [], []⟩
def d_least_company : He.DefD := ⟨("least_company", none), "least_company", "least_company", defArgs s_least_company, defBody s_least_company, defScope s_least_company, [], []⟩
def d_far_heard : He.DefD := ⟨("far_heard", none), "far_heard", "far_heard", defArgs s_far_heard, defBody s_far_heard, defScope s_far_heard, [], []⟩
def d_far_speaks : He.DefD := ⟨("far_speaks", none), "far_speaks", "far_speaks", defArgs s_far_speaks, defBody s_far_speaks, defScope s_far_speaks, [], []⟩
def d_account : He.DefD := ⟨("account", none), "account", "account", defArgs s_account, defBody s_account, defScope s_account, [], []⟩
def d_is_name : He.DefD := ⟨("is_name", none), "is_name", "is_name", defArgs s_is_name, defBody s_is_name, defScope s_is_name, [], []⟩
def d_need_name : He.DefD := ⟨("need_name", none), "need_name", "need_name", defArgs s_need_name, defBody s_need_name, defScope s_need_name, [], []⟩
def d_need_few : He.DefD := ⟨("need_few", none), "need_few", "need_few", defArgs s_need_few, defBody s_need_few, defScope s_need_few, [], []⟩
def d_slim : He.DefD := ⟨("slim", none), "slim", "slim", defArgs s_slim, defBody s_slim, defScope s_slim, [], []⟩
def d_over_and_over : He.DefD := ⟨("over_and_over", none), "over_and_over", "over_and_over", defArgs s_over_and_over, defBody s_over_and_over, defScope s_over_and_over, [], []⟩
def d_about : He.DefD := ⟨("about", none), "about", "about", defArgs s_about, defBody s_about, defScope s_about, [], []⟩
def d_written : He.DefD := ⟨("written", none), "written", "written", defArgs s_written, defBody s_written, defScope s_written, [], []⟩
def d_Hall__init : He.DefD := ⟨("Hall", some "__init__"), "__init__", "Hall.__init__", defArgs s_Hall__init, defBody s_Hall__init, defScope s_Hall__init, [], []⟩
def d_Hall__len : He.DefD := ⟨("Hall", some "__len__"), "__len__", "Hall.__len__", defArgs s_Hall__len, defBody s_Hall__len, defScope s_Hall__len, [], []⟩
def d_Hall_s10_parts : He.DefD := ⟨("Hall", some "s10_parts"), "s10_parts", "Hall.s10_parts", defArgs s_Hall_s10_parts, defBody s_Hall_s10_parts, defScope s_Hall_s10_parts, [], []⟩
def d_Hall_s10_free : He.DefD := ⟨("Hall", some "s10_free"), "s10_free", "Hall.s10_free", defArgs s_Hall_s10_free, defBody s_Hall_s10_free, defScope s_Hall_s10_free, [], []⟩
def d_Hall_s10_keep : He.DefD := ⟨("Hall", some "s10_keep"), "s10_keep", "Hall.s10_keep", defArgs s_Hall_s10_keep, defBody s_Hall_s10_keep, defScope s_Hall_s10_keep, [], []⟩
def d_Hall_begin : He.DefD := ⟨("Hall", some "begin"), "begin", "Hall.begin", defArgs s_Hall_begin, defBody s_Hall_begin, defScope s_Hall_begin, [], []⟩
def d_Hall_step_in : He.DefD := ⟨("Hall", some "step_in"), "step_in", "Hall.step_in", defArgs s_Hall_step_in, defBody s_Hall_step_in, defScope s_Hall_step_in, [], []⟩
def d_Hall_cut : He.DefD := ⟨("Hall", some "cut"), "cut", "Hall.cut", defArgs s_Hall_cut, defBody s_Hall_cut, defScope s_Hall_cut, [], []⟩
def d_Hall_join_to : He.DefD := ⟨("Hall", some "join_to"), "join_to", "Hall.join_to", defArgs s_Hall_join_to, defBody s_Hall_join_to, defScope s_Hall_join_to, [], []⟩
def d_Hall_say_over : He.DefD := ⟨("Hall", some "say_over"), "say_over", "Hall.say_over", defArgs s_Hall_say_over, defBody s_Hall_say_over, defScope s_Hall_say_over, [], []⟩
def d_Hall_turn_about : He.DefD := ⟨("Hall", some "turn_about"), "turn_about", "Hall.turn_about", defArgs s_Hall_turn_about, defBody s_Hall_turn_about, defScope s_Hall_turn_about, [], []⟩
def d_Hall_undo : He.DefD := ⟨("Hall", some "undo"), "undo", "Hall.undo", defArgs s_Hall_undo, defBody s_Hall_undo, defScope s_Hall_undo, [], []⟩
def d_Hall_names : He.DefD := ⟨("Hall", some "names"), "names", "Hall.names", defArgs s_Hall_names, defBody s_Hall_names, defScope s_Hall_names, [], []⟩
def d_Hall_people : He.DefD := ⟨("Hall", some "people"), "people", "Hall.people", defArgs s_Hall_people, defBody s_Hall_people, defScope s_Hall_people, [], []⟩
def d_Hall_total : He.DefD := ⟨("Hall", some "total"), "total", "Hall.total", defArgs s_Hall_total, defBody s_Hall_total, defScope s_Hall_total, [], []⟩
def d_Hall_least : He.DefD := ⟨("Hall", some "least"), "least", "Hall.least", defArgs s_Hall_least, defBody s_Hall_least, defScope s_Hall_least, [], []⟩
def d_Hall_saying : He.DefD := ⟨("Hall", some "saying"), "saying", "Hall.saying", defArgs s_Hall_saying, defBody s_Hall_saying, defScope s_Hall_saying, [], []⟩
def d_Hall_speaks : He.DefD := ⟨("Hall", some "speaks"), "speaks", "Hall.speaks", defArgs s_Hall_speaks, defBody s_Hall_speaks, defScope s_Hall_speaks, [], []⟩
def d_Hall_long_row : He.DefD := ⟨("Hall", some "long_row"), "long_row", "Hall.long_row", defArgs s_Hall_long_row, defBody s_Hall_long_row, defScope s_Hall_long_row, [], []⟩
def d_Lurn : He.DefD := ⟨("_law_urn", none), "_law_urn", "_law_urn", defArgs s_Lurn, defBody s_Lurn, defScope s_Lurn, [], []⟩
def d_Lball : He.DefD := ⟨("_law_ball", none), "_law_ball", "_law_ball", defArgs s_Lball, defBody s_Lball, defScope s_Lball, [], []⟩
def d_Lsaying : He.DefD := ⟨("_law_saying", none), "_law_saying", "_law_saying", defArgs s_Lsaying, defBody s_Lsaying, defScope s_Lsaying, [], []⟩
def d_Lpeople : He.DefD := ⟨("_law_people", none), "_law_people", "_law_people", defArgs s_Lpeople, defBody s_Lpeople, defScope s_Lpeople, [], []⟩
def d_Llong : He.DefD := ⟨("_law_long", none), "_law_long", "_law_long", defArgs s_Llong, defBody s_Llong, defScope s_Llong, [], []⟩
def d_Lsayings : He.DefD := ⟨("_law_sayings", none), "_law_sayings", "_law_sayings", defArgs s_Lsayings, defBody s_Lsayings, defScope s_Lsayings, [], []⟩
def d_Lcompany : He.DefD := ⟨("_law_company", none), "_law_company", "_law_company", defArgs s_Lcompany, defBody s_Lcompany, defScope s_Lcompany, [], []⟩
def d_Lgreat : He.DefD := ⟨("_law_great", none), "_law_great", "_law_great", defArgs s_Lgreat, defBody s_Lgreat, defScope s_Lgreat, [], []⟩
def d_Lmove : He.DefD := ⟨("_law_move", none), "_law_move", "_law_move", defArgs s_Lmove, defBody s_Lmove, defScope s_Lmove, [], []⟩
def d_Lplaces_right : He.DefD := ⟨("_law_places_right", none), "_law_places_right", "_law_places_right", defArgs s_Lplaces_right, defBody s_Lplaces_right, defScope s_Lplaces_right, [], []⟩
def d_Lname_right : He.DefD := ⟨("_law_name_right", none), "_law_name_right", "_law_name_right", defArgs s_Lname_right, defBody s_Lname_right, defScope s_Lname_right, [], []⟩
def d_law : He.DefD := ⟨("law", none), "law", "law", defArgs s_law, defBody s_law, defScope s_law, [], []⟩
def fn : List He.DefD := [d_is_number, d_is_saying, d_need_number, d_need_saying, d_need_place, d_is_so, d_Spot__init, d_Over__init, d_laid_many, d_people_said, d_people_of, d_is_long, d_need_long, d_planted, d_parts_of, d_tail, d_head, d_spot_at, d_said_in, d_people_in, d_saying_at, d_lesser_slack, d_word_of, d_add_counts, d_through, d_through_over, d_wished, d_wished_over, d_total_of, d_far_total, d_least_company, d_far_heard, d_far_speaks, d_account, d_is_name, d_need_name, d_need_few, d_slim, d_over_and_over, d_about, d_written, d_Hall__init, d_Hall__len, d_Hall_s10_parts, d_Hall_s10_free, d_Hall_s10_keep, d_Hall_begin, d_Hall_step_in, d_Hall_cut, d_Hall_join_to, d_Hall_say_over, d_Hall_turn_about, d_Hall_undo, d_Hall_names, d_Hall_people, d_Hall_total, d_Hall_least, d_Hall_saying, d_Hall_speaks, d_Hall_long_row, d_Lurn, d_Lball, d_Lsaying, d_Lpeople, d_Llong, d_Lsayings, d_Lcompany, d_Lgreat, d_Lmove, d_Lplaces_right, d_Lname_right, d_law]
def fa : List He.Fa := [.glo "is_number",
  .glo "is_saying",
  .glo "need_number",
  .glo "need_saying",
  .glo "need_place",
  .glo "is_so",
  .glo "laid_many",
  .glo "people_said",
  .glo "people_of",
  .glo "is_long",
  .glo "need_long",
  .glo "planted",
  .glo "parts_of",
  .glo "tail",
  .glo "head",
  .glo "spot_at",
  .glo "said_in",
  .glo "people_in",
  .glo "saying_at",
  .glo "lesser_slack",
  .glo "word_of",
  .glo "add_counts",
  .glo "through",
  .glo "through_over",
  .glo "wished",
  .glo "wished_over",
  .glo "total_of",
  .glo "far_total",
  .glo "least_company",
  .glo "far_heard",
  .glo "far_speaks",
  .glo "account",
  .glo "is_name",
  .glo "need_name",
  .glo "need_few",
  .glo "slim",
  .glo "over_and_over",
  .glo "about",
  .glo "written",
  .glo "_law_urn",
  .glo "_law_ball",
  .glo "_law_saying",
  .glo "_law_people",
  .glo "_law_long",
  .glo "_law_sayings",
  .glo "_law_company",
  .glo "_law_great",
  .glo "_law_move",
  .glo "_law_places_right",
  .glo "_law_name_right",
  .glo "law",
  .glo "Spot",
  .cls "Spot",
  .mkr "Spot",
  .glo "Over",
  .cls "Over",
  .mkr "Over",
  .glo "Hall",
  .cls "Hall",
  .mkr "Hall",
  .noat "Spot" "s8_said",
  .noat "Spot" "s8_number",
  .noat "Spot" "s8_many",
  .noat "Over" "s8_times",
  .noat "Over" "s8_parts",
  .noat "Over" "s8_once",
  .noat "Over" "s8_many",
  .noat "Hall" "s10_rows",
  .noat "Hall" "s10_done",
  .noat "Hall" "s10_undone",
  .meth "Hall" "s10_parts",
  .meth "Hall" "s10_free",
  .meth "Hall" "s10_keep",
  .meth "Hall" "begin",
  .meth "Hall" "step_in",
  .meth "Hall" "cut",
  .meth "Hall" "join_to",
  .meth "Hall" "say_over",
  .meth "Hall" "turn_about",
  .meth "Hall" "undo",
  .meth "Hall" "names",
  .meth "Hall" "people",
  .meth "Hall" "total",
  .meth "Hall" "least",
  .meth "Hall" "saying",
  .meth "Hall" "speaks",
  .meth "Hall" "long_row",
  .meth "Hall" "__len__",
  .int "MOST_PEOPLE" 999999999999999999999999999999,
  .str "AGAIN" "again",
  .int "FEW" 0,
  .int "TRUE" 1,
  .str "LETTERS" "abcdefghijklmnopqrstuvwxyz",
  .int "MOST_LETTERS" 8,
  .free "isinstance",
  .free "int",
  .free "bool",
  .free "tuple",
  .free "list",
  .free "str",
  .free "len",
  .free "sum",
  .free "divmod",
  .free "min",
  .free "max",
  .free "abs",
  .free "range",
  .free "all",
  .free "sorted",
  .free "dict",
  .free "repr"]
abbrev R : PySem.W.OpenRow := PySem.W.OpenLaw.row PySem.Challenge.rw_boastrow_k91_whole_halls_and_long_rows
def loose0 : List PySem.Str := ["_wall", "BoastError", "NoNumber", "NoSaying", "NoPlace", "NoLong", "NoName", "Taken", "NoneYet", "TooMany", "is_number", "is_saying", "need_number", "need_saying", "need_place", "is_so", "MOST_PEOPLE", "AGAIN", "Spot", "Over", "laid_many", "people_said", "people_of", "is_long", "need_long", "planted", "parts_of", "tail", "head", "spot_at"]
def loose1 : List PySem.Str := ["said_in", "people_in", "saying_at", "FEW", "TRUE", "lesser_slack", "word_of", "add_counts", "through", "through_over", "wished", "wished_over", "total_of", "far_total", "least_company", "far_heard", "far_speaks", "account", "LETTERS", "MOST_LETTERS", "is_name", "need_name", "need_few", "slim", "over_and_over", "about", "written", "Hall", "_law_urn", "_law_ball"]
def loose2 : List PySem.Str := ["_law_saying", "_law_people", "_law_long", "_law_sayings", "_law_company", "_law_great", "_law_move", "_law_places_right", "_law_name_right"]
def loose : List PySem.Str := loose0 ++ loose1 ++ loose2
def x_i1_Spot (K : PySem.W.Frag) : Bool := He.eqO (PySem.W.findIn K (.ref (He.ga K "Spot")) "__class__") (some (some (.builtin "object.__class__")))
def x_i2_Spot (K : PySem.W.Frag) : Bool := decide (PySem.W.mroIn K (He.ga K "Spot") (.type "object") = some true)
def x_i1_Over (K : PySem.W.Frag) : Bool := He.eqO (PySem.W.findIn K (.ref (He.ga K "Over")) "__class__") (some (some (.builtin "object.__class__")))
def x_i2_Over (K : PySem.W.Frag) : Bool := decide (PySem.W.mroIn K (He.ga K "Over") (.type "object") = some true)
def x_i3 (K : PySem.W.Frag) : Bool := He.eqO (PySem.W.specialIn K (.builtin "object.__class__") "__get__") (some (some (.builtin "getset_descriptor.__get__")))
def x_i4 (K : PySem.W.Frag) : Bool := decide (PySem.W.takesIn K (.builtin "object.__class__") = some true)
def x_k_Spot_Spot (K : PySem.W.Frag) : Bool := decide (PySem.W.kitOne K (.ref (He.ga K "Spot")) (.ref (He.ga K "Spot")) = some true)
def x_k_Spot_Over (K : PySem.W.Frag) : Bool := decide (PySem.W.kitOne K (.ref (He.ga K "Spot")) (.ref (He.ga K "Over")) = some false)
def x_k_Over_Spot (K : PySem.W.Frag) : Bool := decide (PySem.W.kitOne K (.ref (He.ga K "Over")) (.ref (He.ga K "Spot")) = some false)
def x_k_Over_Over (K : PySem.W.Frag) : Bool := decide (PySem.W.kitOne K (.ref (He.ga K "Over")) (.ref (He.ga K "Over")) = some true)
def exB (K : PySem.W.Frag) : Bool := x_i1_Spot K && x_i2_Spot K && x_i1_Over K && x_i2_Over K && x_i3 K && x_i4 K && x_k_Spot_Spot K && x_k_Spot_Over K && x_k_Over_Spot K && x_k_Over_Over K
abbrev hk : PySem.W.Hook := He.hookX 4 fa fn [] [] exB
def ob (s : PySem.W.SharedT) : He.AlX := He.obsX 4 fa fn [] [] exB (HandSHeadRun.getT s)
theorem ob_eq (s : PySem.W.SharedT) : ob s = hk.obs s.abs := He.obsX_eq (HandSHeadRun.getT_eq s)
theorem run (w : World) : HandSHeadRun.RunEq R (PySem.W.view R.prog [75]) hk ob 20000 loose w := by
  intro os
  kernel_rfl
set_option maxHeartbeats 4000000
/-! ### rules of my own: what the layer lacks -/
section
variable {X : Cx}
/-- len of an instance with an own __len__ -/
def rLenOwn (C : Addr) (sp : Sp) : List V → Hp → VK → Prop := fun xs H Q => ∃ a dx fs, xs = [.ref a] ∧ H a = some (.ins C dx fs) ∧
  sp [.ref a] H (fun v H' => ∃ n : Int, v = .int n ∧ 0 ≤ n ∧ n < 2 ^ 63 ∧ Q v H') E0
theorem call_lenOwn {C f : Addr} {fd : FuncData} {n : Nat} {sp : Sp} {ps : List Str} (F : FnOk X.prog X.w X.K X.mg X.base CX0 n f fd ps sp) (hr : Room (n + 1) X.A) (hm : Meth X.K C "__len__" f) (hb : Binds X.K fd ps [])
    (hx : Passes CX0 X E0 := pass0) : CallR X (.builtin "len") (rLenOwn C sp) := by
  intro pins s σ H xs us Q I r h
  obtain ⟨a, dx, fs, rfl, ha, hsp⟩ := h
  obtain ⟨u, rfl, ru⟩ := vals1 r
  cases ru
  obtain ⟨mA, J, _⟩ := ins_get I.hok ha
  obtain ⟨od, J, _⟩ := J.look
  obtain ⟨m, hF⟩ := I.fr
  refine PySem.W.len_K hF I.ok.mod.kin J hm.at_ hm.fn ?_
  have hl := F.len _ _ _ _ hsp
  have r2 : Vals [V.ref a] [Value.ref a] := .cons rfl .nil
  refine wpAny_call (codeAny_mono (F.run X.A.in1 X.stack s H ⟨[.ref a], []⟩ [.ref a] [.ref a] _ E0 hr.in1 I.env0.in1 (by
    have := hb s [.ref a] I.kIn (by simpa using hl)
    simpa using this) r2 hsp) fun r s' hq => ?_)
  cases r with
  | error e => exact hx pins σ H s e s' I hq
  | ok fl =>
    cases fl with
    | ret w =>
      obtain ⟨z, H', I', rz, k, ez, h0, h1, q⟩ := I.after hq
      subst ez
      obtain ⟨t, rfl⟩ := rz
      exact ⟨⟨h0, h1⟩, ⟨.int k, H', I'.tok _, ⟨_, rfl⟩, q⟩⟩
    | next => exact False.elim hq
    | brk => exact False.elim hq
    | cont => exact False.elim hq
/-- dict(d): a copy -/
theorem call_dictOf : CallR X (.type "dict") (fun xs H Q => ∃ a kvs, xs = [V.ref a] ∧ Rd H a (.dK kvs) ∧ ∀ p, H p = none → Q (.ref p) (upd H p (.dK kvs))) := by
  intro pins s σ H xs us Q I r h
  obtain ⟨a, kvs, rfl, ha, q⟩ := h
  obtain ⟨u, rfl, ru⟩ := vals1 r
  cases ru
  exact d_copyOf I ha fun p s' hp I' => ⟨.ref p, _, I', rfl, q p hp⟩
/-- xs == ys, lists of two lengths -/
theorem op_eqLen (hu : X.A.units < cLine) : OpR X (compareOp .Eq) (fun x y H Q => ∃ a b xs ys, x = .ref a ∧ y = .ref b ∧ H a = some (.lst xs) ∧ H b = some (.lst ys) ∧ xs.length ≠ ys.length ∧ Q (.bl false) H) := by
  intro pins s σ H x y v u Q I rx ry h
  obtain ⟨a, b, xs, ys, rfl, rfl, ha, hb, hl, q⟩ := h
  cases rx
  cases ry
  obtain ⟨z, its, k, r, e⟩ := I.hok a _ ha
  obtain ⟨z2, its2, k2, r2, e2⟩ := I.hok b _ hb
  refine SeqAt.eq_list_lengthsAt ⟨_, e, rfl, _, rfl⟩ ⟨_, e2, rfl, _, rfl⟩ ?_ hu ⟨.bl false, H, I, rfl, q⟩
  have h1 := r.length
  have h2 := r2.length
  rw [List.size_toArray, List.size_toArray, ← h1, ← h2]
  simpa using hl
/-- repr of a tuple (of data) -/
theorem call_reprT (hc : X.A.guards = some []) (hu : X.A.units + 64 < cLine) : CallR X (.builtin "repr") (fun xs H Q => ∃ a vs ds, xs = [V.ref a] ∧ SqT X.K H a vs ∧ DpAll X.K H vs ds ∧ (PyData.tuple ds).showable = true ∧ (PyData.tuple ds).hasDict = false ∧ (PyData.tuple ds).depth < 60 ∧
    (PyData.tuple ds).shown.length ≤ sizeLine ∧ Q (.str (PyData.tuple ds).shown) H) := by
  intro pins s σ H xs us Q I r h
  obtain ⟨a, vs, ds, rfl, ha, hd, h1, h2, h3, h4, q⟩ := h
  obtain ⟨u, rfl, ru⟩ := vals1 r
  cases ru
  obtain ⟨as, rd⟩ := Dp.reads I (.tuple ds) (.ref a) (.ref a) (.tup ha hd) rfl
  refine repr_of_reads' rd h1 (fun z => by rw [h2] at z; cases z) hc (by omega) (fun _ _ e => e) (fun h' u tk hk => ?_) h4
  exact ⟨.str _, H, I.kept (t' := tk) hk, ⟨_, rfl⟩, q⟩
/-- a ** b of a wide base -/
def CPowW (i j : Int) : Prop := 0 ≤ j ∧ (Builtin.Int.intBits i : Int) * j ≤ 2 ^ 27
theorem op_powW : OpR X (binaryOp .Pow) (rI CPowW fun i j => .int (i ^ j.toNat)) := opI fun _ _ _ _ _ _ _ hc q => pow_int hc.1 hc.2 q
/-- the thing that an expression hands back stays locked from there on -/
def tFrz (td : TE) : TE := fun σ H Q => td σ H fun x H1 => ∃ d u, x = .ref d ∧ H1 d = some u ∧ Mut (some u) ∧ ∀ od, Q x (upd H1 d (.frz od u))
theorem pe_frz {e : Expr} {td : TE} (he : PE X e td) : PE X e (tFrz td) := by
  refine ⟨fun pins s σ H Q I h => ?_⟩
  refine thn (he.run pins s σ H _ I h) fun u s1 ⟨x, H1, I1, rx, d, o, ex, hd, mu, q⟩ => ?_
  obtain ⟨od, I2⟩ := I1.lock hd mu
  exact ⟨x, _, I2, rx, q od⟩
end
/-! ### defs that are called where nothing is being shown (repr asks it): the same contract, the guards known -/
structure FnG (P : Program) (w : World) (K : PySem.W.Frag) (mg : Str → Option Value) (base : Heap) (k : Nat) (f : Addr) (fd : FuncData) (ps : List Str) (sp : Sp) : Prop where
  len : ∀ vs H Q E, sp vs H Q E → vs.length = ps.length
  go : ∀ (A : Around) (out : List Env) (s : Shared) (H : Hp) (as : Args) (us : List Value) (vs : List V) (Q : VK) (E : XK), A.guards = some [] → Room k A → Env0 P w K mg base A out s H →
    BindsTo s fd as (ps.zip us) → Vals vs us → sp vs H Q E → codeAny (model P w) A (.call (.ref f) as) (CR CX0 out P w H s Q E) s
theorem FnG.mono {P : Program} {w : World} {K : PySem.W.Frag} {mg : Str → Option Value} {base : Heap} {j k : Nat} {f : Addr} {fd : FuncData} {ps : List Str} {sp : Sp} (F : FnG P w K mg base j f fd ps sp) (h : j ≤ k) :
    FnG P w K mg base k f fd ps sp := ⟨F.len, fun A out s H as us vs Q E hg hr => F.go A out s H as us vs Q E hg (hr.mono h)⟩
section
variable {P : Program} {w : World} {K : PySem.W.Frag} {mg : Str → Option Value} {base : Heap} {nm qu : Str} {pr : Arguments} {bd : List Stmt} {sc : Scope} {f : Addr} {fd : FuncData}
theorem fnG {N ps : List Str} {k : Nat} {sp : Sp} (F : FunD K nm qu pr bd sc [] [] f fd) (S : FnScope N ps sc) (len : ∀ vs H Q E, sp vs H Q E → vs.length = ps.length)
    (hb : ∀ (cdv : Value) (A : Around) (out : List Env) (s : Shared) (H : Hp) (vs : List V) (Q : VK) (E : XK), A.guards = some [] → Room k (A.deeper (envOfC qu sc s.heap.objs.size f cdv)) → sp vs H Q E →
      ∃ t, PSs (cxOf CX0 P w K mg base N qu sc f cdv A out s H E) bd t ∧ t { nx := fun _ H' => Q .non H', rt := Q } (start N vs) H) : FnG P w K mg base (k + 1) f fd ps sp := by
  obtain ⟨oc, od, dV, kV, doc, pm, an, cdv, ct, osl, rfl, lk, hcd, _, _⟩ := F.ex
  refine ⟨len, fun A out s H as us vs Q E hg hr e0 hbd r hsp => ?_⟩
  have KX := e0.mod.kin.keeps (h' := s.heap) fun b o e => (e0.bs b o e).1
  have lm := e0.mod.nolimit.keeps (h' := s.heap) fun b o e => (e0.bs b o e).1
  refine codeAny_call_function hr.depth (KX _ _ lk) rfl S.co S.gen rfl (PySem.W.codeRec_of KX hcd) (hbd _ _ _ _ ?_)
  refine wpAny_newFunctionEnv_cells S.kind (fun y hy => (S.par y.1 (List.of_mem_zip hy).1).imp_right fun q => ⟨q, PySem.W.cellsFrom_some _ _ _ (.inl q)⟩) fun env he s1 x => ?_
  subst he
  refine ⟨lm.keeps x.toInCall.keep, codeAny_func ?_⟩
  obtain ⟨t, ht, hq⟩ := hb cdv A out s H vs Q E hg (hr.deeper _) hsp
  have I := inv_start (CX := CX0) (E := E) S hr.hd e0 (len _ _ _ _ hsp) r x
  refine wpAny_mono (ht.run [] s1 (start N vs) H _ I hq) (fun fl s' hs => ?_) fun _ _ z => z
  cases fl with
  | ret u => obtain ⟨v, _, H', J, rv, q⟩ := hs; exact ⟨v, H', J.os, J.bare, J.base, J.hok, rv, q⟩
  | next => obtain ⟨_, H', J, q⟩ := hs; exact ⟨V.non, H', J.os, J.bare, J.base, J.hok, rfl, q⟩
  | brk => exact hs.elim fun _ z => z.elim fun _ z => z.2.elim
  | cont => exact hs.elim fun _ z => z.elim fun _ z => z.2.elim
end
section
variable {X : Cx} {k : Nat} {f : Addr} {fd : FuncData} {ps : List Str} {sp : Sp} {x : Str} {p pos : Pos} {e : Expr} {es : List Expr} {t : TA}
theorem pe_callG (F : FnG X.prog X.w X.K X.mg X.base k f fd ps sp) (hG : X.A.guards = some []) (hr : Room k X.A) (hg : Gl X x) (hm : X.mg x = some (.ref f)) (hk : PySem.W.keepIn X.K (.ref f) = true) (hb : Binds X.K fd ps []) (hx : Passes CX0 X E0)
    (ha : PA X (e :: es) t) (hdb : (x == ("__debug__" : Str)) = false := by decide) (he : starEach (e :: es) X.env = (false, eval e X.env) :: starEach es X.env := by rfl) (hpl : (backTo pos (starEach es X.env)).any (·.1) = false := by rfl) :
    PE X (.Call (.Name x p) (e :: es) [] pos) (tCall sp [] E0 t) := by
  refine ⟨fun pins s σ H Q I h => wpAny_Call_Name_kw (ld_glob I hg hm ?_ hdb)⟩
  refine PySem.W.callWith_K (h₀ := X.base) I.ok.mod.kin hk (thn (ha.run pos pins s σ H _ I h) fun us s1 ⟨vs, H1, I1, r, q⟩ => ⟨I1.kIn, ?_⟩) he hpl
  have q' : sp vs H1 Q E0 := by rw [← List.append_nil vs]; exact q
  have hl : (us ++ []).length = ps.length := by rw [List.append_nil, ← r.length]; exact F.len _ _ _ _ q'
  have b := hb s1 us I1.kIn hl
  rw [List.append_nil] at b
  refine wpAny_call (codeAny_mono (F.go X.A X.stack s1 H1 ⟨us, []⟩ us vs Q E0 hG hr I1.env0 b r q') fun r' s' hq => ?_)
  cases r' with
  | error y => exact hx pins σ H1 s1 y s' I1 hq
  | ok fl => cases fl with
    | ret u => exact I1.after hq
    | next => exact hq.elim
    | brk => exact hq.elim
    | cont => exact hq.elim
end
/-- a law's end over such a def -/
theorem endG {P : Program} {w : World} {K : PySem.W.Frag} {mg mb : Str → Option Value} {k : Nat} {fa a : Addr} {fd : FuncData} {x : Str} {sp : Sp} {s1 : Shared} {vs : List Value} {ns : List Int}
    (KX : K.In s1.heap) (hns : s1.heap.Ns mainGlobals mg) (hb : s1.heap.Ns builtinsNs mb) (hbb : ∀ x : Str, x ≠ "__name__" → mb x = bootBuiltins x) (hlim : s1.heap.NoLimit) (hg : s1.gens = #[])
    (ha : s1.heap.get? a = some { cls := .type "list", data := .seq vs.toArray }) (hi : IntsAre vs ns) (hl : ns.length ≤ sizeLine) (hr : Room k callerA)
    (F : ∀ base : Heap, K.In base → base.Ns mainGlobals mg → FnG P w K mg base k fa fd [x] sp) (hbind : ∀ (s : Shared) (u : Value), BindsTo s fd ⟨[u], []⟩ [(x, u)])
    (hsp : ∀ H : Hp, SqL K H a (ns.map V.int) → sp [.ref a] H (fun v _ => v = .bl true) E0) :
    codeAny (model P w) callerA (.call (.ref fa) ⟨[.ref a], []⟩) (fun r s' => r = .ok (.ret (.bool true)) ∧ OldK s1.heap s'.heap ∧ s'.os = s1.os ∧ AllBare s'.gens) s1 := by
  have rv := vals_ints hi
  -- H: nothing, or the script alone
  have key : ∀ H : Hp, SqL K H a (ns.map V.int) → HOk P w H s1.heap → (∀ b u, H b = some u → b = a ∧ K.lookup a = none ∧ ∃ o ys, u = .frz o (.lst ys)) →
      codeAny (model P w) callerA (.call (.ref fa) ⟨[.ref a], []⟩) (fun r s' => r = .ok (.ret (.bool true)) ∧ OldK s1.heap s'.heap ∧ s'.os = s1.os ∧ AllBare s'.gens) s1 := by
    intro H hS hok hA
    have non : ∀ {b : Addr} {o : Obj}, s1.heap.get? b = some o → (b = a → K.lookup a ≠ none ∨ o.cls ≠ .type "list" ∨ ∀ ys n, o.data ≠ .seq ys n) → H b = none := fun {b o} e h => by
      cases q : H b with
      | none => rfl
      | some u =>
        obtain ⟨eb, hK, _⟩ := hA b u q
        rcases h eb with z | z | z
        · exact absurd hK z
        · rw [eb, ha] at e
          exact absurd (by rw [← Option.some.inj e]) z
        · rw [eb, ha] at e
          exact absurd (by rw [← Option.some.inj e]) (z vs.toArray 0)
    have nsK : ∀ {b : Addr} {m : Str → Option Value}, s1.heap.Ns b m → (hidT s1.heap H).Ns b m := fun {b m} h => by
      obtain ⟨o, es, ep, e, d, r⟩ := h
      exact ⟨o, es, ep, hidT_get e (non e fun _ => .inr (.inr fun ys n z => by rw [d] at z; cases z)), d, r⟩
    have kb : K.In (hidT s1.heap H) := fun b o e => hidT_get (KX b o e) (non (KX b o e) fun eb => .inl (by rw [← eb, e]; exact fun z => nomatch z))
    obtain ⟨mc, h1, h2⟩ := hlim
    have e0 : Env0 P w K mg (hidT s1.heap H) callerA [] s1 H :=
      ⟨rfl, ⟨kb, nsK hns, ⟨mb, nsK hb, hbb⟩, ⟨mc, nsK h1, h2⟩⟩, fun b o e => of_hidT e, Nat.le_of_eq (hidT_size _ _), trivial, (fun b z => nomatch z), hok, .of_eq hg⟩
    refine codeAny_mono ((F _ kb (nsK hns)).go callerA [] s1 H ⟨[.ref a], []⟩ [.ref a] [.ref a] _ E0 rfl hr e0 (hbind s1 _) (.cons rfl .nil) (hsp H hS)) fun r s' h => ?_
    cases r with
    | error y => exact h.elim
    | ok fl => cases fl with
      | next => exact h.elim
      | brk => exact h.elim
      | cont => exact h.elim
      | ret u =>
        obtain ⟨v, H', os, bare, un, hok', r', q⟩ := h
        have q' : v = .bl true := q
        rw [q'] at r'
        have eu : u = Value.bool true := r'
        refine ⟨by rw [eu], OldK.of_keep fun b o e => ?_, os, bare⟩
        cases q : H b with
        | none => exact un.keep b o e q (fun z => nomatch z) fun z => nomatch z
        | some y =>
          obtain ⟨_, _, ob, ys, ey⟩ := hA b y q
          rw [ey] at q
          have e1 := (hok b _ q).1
          have e2 := (hok' b _ (un.frzs b ob _ q)).1
          rw [e] at e1
          rw [Option.some.inj e1]
          exact e2
  cases hk : K.lookup a with
  | some o =>
    have e := KX a o hk
    rw [ha] at e
    have eo := Option.some.inj e
    refine key (fun _ => none) (.inr ?_) (fun _ _ z => nomatch z) fun _ _ z => nomatch z
    rw [← eo] at hk
    exact ⟨_, vs.toArray, _, hk, rfl, rfl, rfl, by rw [List.size_toArray, hi.length]; exact hl, by simpa using rv⟩
  | none =>
    have hat : ∀ b u, upd (fun _ => none) a (.frz { cls := .type "list", data := .seq vs.toArray } (.lst (ns.map V.int))) b = some u → b = a ∧ u = .frz { cls := .type "list", data := .seq vs.toArray } (.lst (ns.map V.int)) := fun b u z => by
      by_cases hb : b = a
      · rw [hb, upd_same] at z
        exact ⟨hb, (Option.some.inj z).symm⟩
      · rw [upd_ne hb] at z
        cases z
    refine key (upd (fun _ => none) a (.frz { cls := .type "list", data := .seq vs.toArray } (.lst (ns.map V.int)))) (.inl (.inr ⟨_, upd_same⟩)) (fun b u z => ?_) fun b u z => ⟨(hat b u z).1, hk, _, _, (hat b u z).2⟩
    obtain ⟨eb, eu⟩ := hat b u z
    rw [eu, eb]
    exact ⟨ha, by rw [List.length_map]; exact hl, vs, _, rv, ha⟩
theorem walkG {l : PySem.W.OpenLaw} {n k : Nat} {q : Program} {loose : List Str} {XP : (Str → Option Value) → Heap → Prop} {YP : World → Heap → Prop} {d : DefRec} {x : Str}
    (hn : l.most = some n) (hn2 : n ≤ sizeLine) (hdf : d.params.defaults = []) (hr : Room k callerA)
    (F : ∀ (w : World) (mg : Str → Option Value) (fa : Addr) (h : Heap), YP w h → h.Ns mainGlobals mg → mg d.name = some (.ref fa) →
      ∃ (K : PySem.W.Frag) (fd : FuncData) (sp : Sp), K.In h ∧ (∀ (s : Shared) (u : Value), BindsTo s fd ⟨[u], []⟩ [(x, u)]) ∧ (∀ (H : Hp) (a : Addr) (ns : List Int), ns.length ≤ n → SqL K H a (ns.map V.int) → sp [.ref a] H (fun v _ => v = .bl true) E0) ∧
        ∀ base : Heap, K.In base → base.Ns mainGlobals mg → FnG l.prog w K mg base k fa fd [x] sp) :
    PySem.W.WalkO q loose XP YP l.row.toRowW d [] (fun f vs => PySem.call f vs) :=
  Att.attach_call hn hdf fun w _ _ mg _ fa _ _ _ _ a _ ns G Y _ _ _ hmg hobj hints hlen hg => by
    obtain ⟨K, fd, sp, KX, hb, hsp, hF⟩ := F w mg fa _ Y G.T.g hmg
    exact endG KX G.T.g G.T.b G.T.builtins G.T.nolimit hg hobj hints (Nat.le_trans hlen hn2) hr hF hb fun H hS => hsp H a ns hlen hS
/-- a def's function object, by what stands at its address -/
def fdK (K : PySem.W.Frag) (q : Str × Option Str) : Option FuncData := match K.lookup (He.fAd K q) with
  | some ⟨_, _, .func fd, _⟩ => some fd
  | _ => none
theorem sc_is_number : FnScope ["thing"] ["thing"] (defScope s_is_number) := ⟨rfl, rfl, rfl, by decide +kernel, rfl, by decide +kernel, by decide +kernel⟩
theorem sc_is_saying : FnScope ["thing"] ["thing"] (defScope s_is_saying) := ⟨rfl, rfl, rfl, by decide +kernel, rfl, by decide +kernel, by decide +kernel⟩
theorem sc_need_number : FnScope ["thing"] ["thing"] (defScope s_need_number) := ⟨rfl, rfl, rfl, by decide +kernel, rfl, by decide +kernel, by decide +kernel⟩
theorem sc_need_saying : FnScope ["thing"] ["thing"] (defScope s_need_saying) := ⟨rfl, rfl, rfl, by decide +kernel, rfl, by decide +kernel, by decide +kernel⟩
theorem sc_need_place : FnScope ["thing", "most"] ["thing", "most"] (defScope s_need_place) := ⟨rfl, rfl, rfl, by decide +kernel, rfl, by decide +kernel, by decide +kernel⟩
theorem sc_is_so : FnScope ["saying", "number", "least", "most"] ["saying", "number"] (defScope s_is_so) := ⟨rfl, rfl, rfl, by decide +kernel, rfl, by decide +kernel, by decide +kernel⟩
theorem sc_Spot__init : FnScope ["self", "saying", "number"] ["self", "saying", "number"] (defScope s_Spot__init) := ⟨rfl, rfl, rfl, by decide +kernel, rfl, by decide +kernel, by decide +kernel⟩
theorem sc_Over__init : FnScope ["self", "times", "parts"] ["self", "times", "parts"] (defScope s_Over__init) := ⟨rfl, rfl, rfl, by decide +kernel, rfl, by decide +kernel, by decide +kernel⟩
theorem sc_laid_many : FnScope ["parts", "part"] ["parts"] (defScope s_laid_many) := ⟨rfl, rfl, rfl, by decide +kernel, rfl, by decide +kernel, by decide +kernel⟩
theorem sc_people_said : FnScope ["item", "inner"] ["item"] (defScope s_people_said) := ⟨rfl, rfl, rfl, by decide +kernel, rfl, by decide +kernel, by decide +kernel⟩
theorem sc_people_of : FnScope ["thing", "found", "item", "many"] ["thing"] (defScope s_people_of) := ⟨rfl, rfl, rfl, by decide +kernel, rfl, by decide +kernel, by decide +kernel⟩
theorem sc_is_long : FnScope ["thing", "many"] ["thing"] (defScope s_is_long) := ⟨rfl, rfl, rfl, by decide +kernel, rfl, by decide +kernel, by decide +kernel⟩
theorem sc_need_long : FnScope ["thing"] ["thing"] (defScope s_need_long) := ⟨rfl, rfl, rfl, by decide +kernel, rfl, by decide +kernel, by decide +kernel⟩
theorem sc_planted : FnScope ["long", "first", "parts", "item", "inner"] ["long", "first"] (defScope s_planted) := ⟨rfl, rfl, rfl, by decide +kernel, rfl, by decide +kernel, by decide +kernel⟩
theorem sc_parts_of : FnScope ["long"] ["long"] (defScope s_parts_of) := ⟨rfl, rfl, rfl, by decide +kernel, rfl, by decide +kernel, by decide +kernel⟩
theorem sc_tail : FnScope ["parts", "place", "found", "left", "part", "gone", "more"] ["parts", "place"] (defScope s_tail) := ⟨rfl, rfl, rfl, by decide +kernel, rfl, by decide +kernel, by decide +kernel⟩
theorem sc_head : FnScope ["parts", "place", "found", "left", "part", "gone", "more"] ["parts", "place"] (defScope s_head) := ⟨rfl, rfl, rfl, by decide +kernel, rfl, by decide +kernel, by decide +kernel⟩
theorem sc_spot_at : FnScope ["parts", "place", "part"] ["parts", "place"] (defScope s_spot_at) := ⟨rfl, rfl, rfl, by decide +kernel, rfl, by decide +kernel, by decide +kernel⟩
theorem sc_said_in : FnScope ["parts", "found", "part", "number", "many"] ["parts"] (defScope s_said_in) := ⟨rfl, rfl, rfl, by decide +kernel, rfl, by decide +kernel, by decide +kernel⟩
theorem sc_people_in : FnScope ["long"] ["long"] (defScope s_people_in) := ⟨rfl, rfl, rfl, by decide +kernel, rfl, by decide +kernel, by decide +kernel⟩
theorem sc_saying_at : FnScope ["long", "place", "parts"] ["long", "place"] (defScope s_saying_at) := ⟨rfl, rfl, rfl, by decide +kernel, rfl, by decide +kernel, by decide +kernel⟩
theorem sc_lesser_slack : FnScope ["one", "other"] ["one", "other"] (defScope s_lesser_slack) := ⟨rfl, rfl, rfl, by decide +kernel, rfl, by decide +kernel, by decide +kernel⟩
theorem sc_word_of : FnScope ["saying", "number", "least", "most"] ["saying", "number"] (defScope s_word_of) := ⟨rfl, rfl, rfl, by decide +kernel, rfl, by decide +kernel, by decide +kernel⟩
theorem sc_add_counts : FnScope ["counts", "more", "times", "number", "pair", "old"] ["counts", "more", "times"] (defScope s_add_counts) := ⟨rfl, rfl, rfl, by decide +kernel, rfl, by decide +kernel, by decide +kernel⟩
theorem sc_through : FnScope ["parts", "number", "slack", "counts", "part", "pair", "own", "more"] ["parts", "number"] (defScope s_through) := ⟨rfl, rfl, rfl, by decide +kernel, rfl, by decide +kernel, by decide +kernel⟩
theorem sc_through_over : FnScope ["part", "number", "slack", "counts", "left", "ahead", "own", "once", "grown", "more"] ["part", "number"] (defScope s_through_over) := ⟨rfl, rfl, rfl, by decide +kernel, rfl, by decide +kernel, by decide +kernel⟩
theorem sc_wished : FnScope ["parts", "wish", "slack", "part", "own", "least", "most"] ["parts", "wish"] (defScope s_wished) := ⟨rfl, rfl, rfl, by decide +kernel, rfl, by decide +kernel, by decide +kernel⟩
theorem sc_wished_over : FnScope ["part", "wish", "slack", "left", "ahead", "own", "fallen", "more"] ["part", "wish"] (defScope s_wished_over) := ⟨rfl, rfl, rfl, by decide +kernel, rfl, by decide +kernel, by decide +kernel⟩
theorem sc_total_of : FnScope ["parts", "number"] ["parts", "number"] (defScope s_total_of) := ⟨rfl, rfl, rfl, by decide +kernel, rfl, by decide +kernel, by decide +kernel⟩
theorem sc_far_total : FnScope ["long", "company", "parts"] ["long", "company"] (defScope s_far_total) := ⟨rfl, rfl, rfl, by decide +kernel, rfl, by decide +kernel, by decide +kernel⟩
theorem sc_least_company : FnScope ["long", "total", "parts"] ["long", "total"] (defScope s_least_company) := ⟨rfl, rfl, rfl, by decide +kernel, rfl, by decide +kernel, by decide +kernel⟩
theorem sc_far_heard : FnScope ["long", "company", "place", "parts"] ["long", "company", "place"] (defScope s_far_heard) := ⟨rfl, rfl, rfl, by decide +kernel, rfl, by decide +kernel, by decide +kernel⟩
theorem sc_far_speaks : FnScope ["long", "company", "place", "number"] ["long", "company", "place"] (defScope s_far_speaks) := ⟨rfl, rfl, rfl, by decide +kernel, rfl, by decide +kernel, by decide +kernel⟩
theorem sc_account : FnScope ["long", "company", "parts", "total", "slack", "counts", "found", "number", "pair"] ["long", "company"] (defScope s_account) := ⟨rfl, rfl, rfl, by decide +kernel, rfl, by decide +kernel, by decide +kernel⟩
theorem sc_is_name : FnScope ["thing", "sign"] ["thing"] (defScope s_is_name) := ⟨rfl, rfl, rfl, by decide +kernel, rfl, by decide +kernel, by decide +kernel⟩
theorem sc_need_name : FnScope ["thing"] ["thing"] (defScope s_need_name) := ⟨rfl, rfl, rfl, by decide +kernel, rfl, by decide +kernel, by decide +kernel⟩
theorem sc_need_few : FnScope ["many"] ["many"] (defScope s_need_few) := ⟨rfl, rfl, rfl, by decide +kernel, rfl, by decide +kernel, by decide +kernel⟩
theorem sc_slim : FnScope ["parts", "found", "part"] ["parts"] (defScope s_slim) := ⟨rfl, rfl, rfl, by decide +kernel, rfl, by decide +kernel, by decide +kernel⟩
theorem sc_over_and_over : FnScope ["parts", "times"] ["parts", "times"] (defScope s_over_and_over) := ⟨rfl, rfl, rfl, by decide +kernel, rfl, by decide +kernel, by decide +kernel⟩
theorem sc_about : FnScope ["parts", "found", "part"] ["parts"] (defScope s_about) := ⟨rfl, rfl, rfl, by decide +kernel, rfl, by decide +kernel, by decide +kernel⟩
theorem sc_written : FnScope ["parts", "found", "part", "said"] ["parts"] (defScope s_written) := ⟨rfl, rfl, rfl, by decide +kernel, rfl, by decide +kernel, by decide +kernel⟩
theorem sc_Hall__init : FnScope ["self"] ["self"] (defScope s_Hall__init) := ⟨rfl, rfl, rfl, by decide +kernel, rfl, by decide +kernel, by decide +kernel⟩
theorem sc_Hall__len : FnScope ["self"] ["self"] (defScope s_Hall__len) := ⟨rfl, rfl, rfl, by decide +kernel, rfl, by decide +kernel, by decide +kernel⟩
theorem sc_Hall_s10_parts : FnScope ["self", "name"] ["self", "name"] (defScope s_Hall_s10_parts) := ⟨rfl, rfl, rfl, by decide +kernel, rfl, by decide +kernel, by decide +kernel⟩
theorem sc_Hall_s10_free : FnScope ["self", "name"] ["self", "name"] (defScope s_Hall_s10_free) := ⟨rfl, rfl, rfl, by decide +kernel, rfl, by decide +kernel, by decide +kernel⟩
theorem sc_Hall_s10_keep : FnScope ["self", "deed", "rows", "name", "parts"] ["self", "deed", "rows"] (defScope s_Hall_s10_keep) := ⟨rfl, rfl, rfl, by decide +kernel, rfl, by decide +kernel, by decide +kernel⟩
theorem sc_Hall_begin : FnScope ["self", "name", "long", "parts", "rows"] ["self", "name", "long"] (defScope s_Hall_begin) := ⟨rfl, rfl, rfl, by decide +kernel, rfl, by decide +kernel, by decide +kernel⟩
theorem sc_Hall_step_in : FnScope ["self", "name", "place", "saying", "parts", "rows"] ["self", "name", "place", "saying"] (defScope s_Hall_step_in) := ⟨rfl, rfl, rfl, by decide +kernel, rfl, by decide +kernel, by decide +kernel⟩
theorem sc_Hall_cut : FnScope ["self", "name", "place", "other", "parts", "rows"] ["self", "name", "place", "other"] (defScope s_Hall_cut) := ⟨rfl, rfl, rfl, by decide +kernel, rfl, by decide +kernel, by decide +kernel⟩
theorem sc_Hall_join_to : FnScope ["self", "name", "other", "parts", "more", "rows"] ["self", "name", "other"] (defScope s_Hall_join_to) := ⟨rfl, rfl, rfl, by decide +kernel, rfl, by decide +kernel, by decide +kernel⟩
theorem sc_Hall_say_over : FnScope ["self", "name", "many", "parts", "rows"] ["self", "name", "many"] (defScope s_Hall_say_over) := ⟨rfl, rfl, rfl, by decide +kernel, rfl, by decide +kernel, by decide +kernel⟩
theorem sc_Hall_turn_about : FnScope ["self", "name", "parts", "rows"] ["self", "name"] (defScope s_Hall_turn_about) := ⟨rfl, rfl, rfl, by decide +kernel, rfl, by decide +kernel, by decide +kernel⟩
theorem sc_Hall_undo : FnScope ["self", "deed", "ahead"] ["self"] (defScope s_Hall_undo) := ⟨rfl, rfl, rfl, by decide +kernel, rfl, by decide +kernel, by decide +kernel⟩
theorem sc_Hall_names : FnScope ["self"] ["self"] (defScope s_Hall_names) := ⟨rfl, rfl, rfl, by decide +kernel, rfl, by decide +kernel, by decide +kernel⟩
theorem sc_Hall_people : FnScope ["self", "name"] ["self", "name"] (defScope s_Hall_people) := ⟨rfl, rfl, rfl, by decide +kernel, rfl, by decide +kernel, by decide +kernel⟩
theorem sc_Hall_total : FnScope ["self", "name", "company", "parts"] ["self", "name", "company"] (defScope s_Hall_total) := ⟨rfl, rfl, rfl, by decide +kernel, rfl, by decide +kernel, by decide +kernel⟩
theorem sc_Hall_least : FnScope ["self", "name", "total", "parts"] ["self", "name", "total"] (defScope s_Hall_least) := ⟨rfl, rfl, rfl, by decide +kernel, rfl, by decide +kernel, by decide +kernel⟩
theorem sc_Hall_saying : FnScope ["self", "name", "place", "parts"] ["self", "name", "place"] (defScope s_Hall_saying) := ⟨rfl, rfl, rfl, by decide +kernel, rfl, by decide +kernel, by decide +kernel⟩
theorem sc_Hall_speaks : FnScope ["self", "name", "company", "place", "parts"] ["self", "name", "company", "place"] (defScope s_Hall_speaks) := ⟨rfl, rfl, rfl, by decide +kernel, rfl, by decide +kernel, by decide +kernel⟩
theorem sc_Hall_long_row : FnScope ["self", "name"] ["self", "name"] (defScope s_Hall_long_row) := ⟨rfl, rfl, rfl, by decide +kernel, rfl, by decide +kernel, by decide +kernel⟩
theorem sc_Lurn : FnScope ["_law_script", "_law_k", "_law_cell"] ["_law_script", "_law_k"] (defScope s_Lurn) := ⟨rfl, rfl, rfl, by decide +kernel, rfl, by decide +kernel, by decide +kernel⟩
theorem sc_Lball : FnScope ["_law_urn_here", "_law_many", "_law_mixed", "_law_found"] ["_law_urn_here", "_law_many"] (defScope s_Lball) := ⟨rfl, rfl, rfl, by decide +kernel, rfl, by decide +kernel, by decide +kernel⟩
theorem sc_Lsaying : FnScope ["_law_urn_here", "_law_wide", "_law_least", "_law_way"] ["_law_urn_here", "_law_wide"] (defScope s_Lsaying) := ⟨rfl, rfl, rfl, by decide +kernel, rfl, by decide +kernel, by decide +kernel⟩
theorem sc_Lpeople : FnScope ["_law_long_here", "_law_found", "_law_item"] ["_law_long_here"] (defScope s_Lpeople) := ⟨rfl, rfl, rfl, by decide +kernel, rfl, by decide +kernel, by decide +kernel⟩
theorem sc_Llong : FnScope ["_law_urn_here", "_law_plan", "_law_deep", "_law_room", "_law_found", "_law_k", "_law_again", "_law_inner", "_law_many"] ["_law_urn_here", "_law_plan", "_law_deep", "_law_room"] (defScope s_Llong) := ⟨rfl, rfl, rfl, by decide +kernel, rfl, by decide +kernel, by decide +kernel⟩
theorem sc_Lsayings : FnScope ["_law_long_here", "_law_found", "_law_item"] ["_law_long_here"] (defScope s_Lsayings) := ⟨rfl, rfl, rfl, by decide +kernel, rfl, by decide +kernel, by decide +kernel⟩
theorem sc_Lcompany : FnScope ["_law_urn_here", "_law_sayings_here", "_law_least", "_law_most", "_law_near"] ["_law_urn_here", "_law_sayings_here"] (defScope s_Lcompany) := ⟨rfl, rfl, rfl, by decide +kernel, rfl, by decide +kernel, by decide +kernel⟩
theorem sc_Lgreat : FnScope ["_law_urn_here", "_law_far"] ["_law_urn_here"] (defScope s_Lgreat) := ⟨rfl, rfl, rfl, by decide +kernel, rfl, by decide +kernel, by decide +kernel⟩
theorem sc_Lmove : FnScope ["_law_urn_here", "_law_hall", "_law_left", "_law_name", "_law_many", "_law_way", "_law_most", "_law_one"] ["_law_urn_here", "_law_hall", "_law_left"] (defScope s_Lmove) := ⟨rfl, rfl, rfl, by decide +kernel, rfl, by decide +kernel, by decide +kernel⟩
theorem sc_Lplaces_right : FnScope ["_law_urn_here", "_law_hall", "_law_name", "_law_long_here", "_law_company_here", "_law_many", "_law_place"] ["_law_urn_here", "_law_hall", "_law_name", "_law_long_here", "_law_company_here"] (defScope s_Lplaces_right) := ⟨rfl, rfl, rfl, by decide +kernel, rfl, by decide +kernel, by decide +kernel⟩
theorem sc_Lname_right : FnScope ["_law_urn_here", "_law_hall", "_law_name", "_law_long_here", "_law_company_here", "_law_whole", "_law_told", "_law_again", "_law_few", "_law_good"] ["_law_urn_here", "_law_hall", "_law_name"] (defScope s_Lname_right) := ⟨rfl, rfl, rfl, by decide +kernel, rfl, by decide +kernel, by decide +kernel⟩
theorem sc_law : FnScope ["_law_script", "_law_k", "_law_urn_here", "_law_hall", "_law_left", "_law_turn", "_law_name"] ["_law_script"] (defScope s_law) := ⟨rfl, rfl, rfl, by decide +kernel, rfl, by decide +kernel, by decide +kernel⟩
/-! ### what the top has made -/
abbrev CS (K : PySem.W.Frag) : Addr := He.ga K "Spot"
abbrev CO (K : PySem.W.Frag) : Addr := He.ga K "Over"
abbrev CH (K : PySem.W.Frag) : Addr := He.ga K "Hall"
structure DefAt (K : PySem.W.Frag) (x qual : Str) (st : Stmt) (ps : List Str) (f : Addr) (fd : FuncData) : Prop where
  F : FunD K x qual (defArgs st) (defBody st) (defScope st) [] [] f fd
  b : Binds K fd ps []
structure Txt (K : PySem.W.Frag) (mg : Str → Option Value) where
  fd_is_number : FuncData
  d_is_number : DefAt K "is_number" "is_number" s_is_number ["thing"] (He.ga K "is_number") fd_is_number
  g_is_number : mg "is_number" = some (.ref (He.ga K "is_number"))
  fd_is_saying : FuncData
  d_is_saying : DefAt K "is_saying" "is_saying" s_is_saying ["thing"] (He.ga K "is_saying") fd_is_saying
  g_is_saying : mg "is_saying" = some (.ref (He.ga K "is_saying"))
  fd_need_number : FuncData
  d_need_number : DefAt K "need_number" "need_number" s_need_number ["thing"] (He.ga K "need_number") fd_need_number
  g_need_number : mg "need_number" = some (.ref (He.ga K "need_number"))
  fd_need_saying : FuncData
  d_need_saying : DefAt K "need_saying" "need_saying" s_need_saying ["thing"] (He.ga K "need_saying") fd_need_saying
  g_need_saying : mg "need_saying" = some (.ref (He.ga K "need_saying"))
  fd_need_place : FuncData
  d_need_place : DefAt K "need_place" "need_place" s_need_place ["thing", "most"] (He.ga K "need_place") fd_need_place
  g_need_place : mg "need_place" = some (.ref (He.ga K "need_place"))
  fd_is_so : FuncData
  d_is_so : DefAt K "is_so" "is_so" s_is_so ["saying", "number"] (He.ga K "is_so") fd_is_so
  g_is_so : mg "is_so" = some (.ref (He.ga K "is_so"))
  fd_Spot__init : FuncData
  d_Spot__init : DefAt K "__init__" "Spot.__init__" s_Spot__init ["self", "saying", "number"] (He.ma K (He.ga K "Spot") "__init__") fd_Spot__init
  fd_Over__init : FuncData
  d_Over__init : DefAt K "__init__" "Over.__init__" s_Over__init ["self", "times", "parts"] (He.ma K (He.ga K "Over") "__init__") fd_Over__init
  fd_laid_many : FuncData
  d_laid_many : DefAt K "laid_many" "laid_many" s_laid_many ["parts"] (He.ga K "laid_many") fd_laid_many
  g_laid_many : mg "laid_many" = some (.ref (He.ga K "laid_many"))
  fd_people_said : FuncData
  d_people_said : DefAt K "people_said" "people_said" s_people_said ["item"] (He.ga K "people_said") fd_people_said
  g_people_said : mg "people_said" = some (.ref (He.ga K "people_said"))
  fd_people_of : FuncData
  d_people_of : DefAt K "people_of" "people_of" s_people_of ["thing"] (He.ga K "people_of") fd_people_of
  g_people_of : mg "people_of" = some (.ref (He.ga K "people_of"))
  fd_is_long : FuncData
  d_is_long : DefAt K "is_long" "is_long" s_is_long ["thing"] (He.ga K "is_long") fd_is_long
  g_is_long : mg "is_long" = some (.ref (He.ga K "is_long"))
  fd_need_long : FuncData
  d_need_long : DefAt K "need_long" "need_long" s_need_long ["thing"] (He.ga K "need_long") fd_need_long
  g_need_long : mg "need_long" = some (.ref (He.ga K "need_long"))
  fd_planted : FuncData
  d_planted : DefAt K "planted" "planted" s_planted ["long", "first"] (He.ga K "planted") fd_planted
  g_planted : mg "planted" = some (.ref (He.ga K "planted"))
  fd_parts_of : FuncData
  d_parts_of : DefAt K "parts_of" "parts_of" s_parts_of ["long"] (He.ga K "parts_of") fd_parts_of
  g_parts_of : mg "parts_of" = some (.ref (He.ga K "parts_of"))
  fd_tail : FuncData
  d_tail : DefAt K "tail" "tail" s_tail ["parts", "place"] (He.ga K "tail") fd_tail
  g_tail : mg "tail" = some (.ref (He.ga K "tail"))
  fd_head : FuncData
  d_head : DefAt K "head" "head" s_head ["parts", "place"] (He.ga K "head") fd_head
  g_head : mg "head" = some (.ref (He.ga K "head"))
  fd_spot_at : FuncData
  d_spot_at : DefAt K "spot_at" "spot_at" s_spot_at ["parts", "place"] (He.ga K "spot_at") fd_spot_at
  g_spot_at : mg "spot_at" = some (.ref (He.ga K "spot_at"))
  fd_said_in : FuncData
  d_said_in : DefAt K "said_in" "said_in" s_said_in ["parts"] (He.ga K "said_in") fd_said_in
  g_said_in : mg "said_in" = some (.ref (He.ga K "said_in"))
  fd_people_in : FuncData
  d_people_in : DefAt K "people_in" "people_in" s_people_in ["long"] (He.ga K "people_in") fd_people_in
  g_people_in : mg "people_in" = some (.ref (He.ga K "people_in"))
  fd_saying_at : FuncData
  d_saying_at : DefAt K "saying_at" "saying_at" s_saying_at ["long", "place"] (He.ga K "saying_at") fd_saying_at
  g_saying_at : mg "saying_at" = some (.ref (He.ga K "saying_at"))
  fd_lesser_slack : FuncData
  d_lesser_slack : DefAt K "lesser_slack" "lesser_slack" s_lesser_slack ["one", "other"] (He.ga K "lesser_slack") fd_lesser_slack
  g_lesser_slack : mg "lesser_slack" = some (.ref (He.ga K "lesser_slack"))
  fd_word_of : FuncData
  d_word_of : DefAt K "word_of" "word_of" s_word_of ["saying", "number"] (He.ga K "word_of") fd_word_of
  g_word_of : mg "word_of" = some (.ref (He.ga K "word_of"))
  fd_add_counts : FuncData
  d_add_counts : DefAt K "add_counts" "add_counts" s_add_counts ["counts", "more", "times"] (He.ga K "add_counts") fd_add_counts
  g_add_counts : mg "add_counts" = some (.ref (He.ga K "add_counts"))
  fd_through : FuncData
  d_through : DefAt K "through" "through" s_through ["parts", "number"] (He.ga K "through") fd_through
  g_through : mg "through" = some (.ref (He.ga K "through"))
  fd_through_over : FuncData
  d_through_over : DefAt K "through_over" "through_over" s_through_over ["part", "number"] (He.ga K "through_over") fd_through_over
  g_through_over : mg "through_over" = some (.ref (He.ga K "through_over"))
  fd_wished : FuncData
  d_wished : DefAt K "wished" "wished" s_wished ["parts", "wish"] (He.ga K "wished") fd_wished
  g_wished : mg "wished" = some (.ref (He.ga K "wished"))
  fd_wished_over : FuncData
  d_wished_over : DefAt K "wished_over" "wished_over" s_wished_over ["part", "wish"] (He.ga K "wished_over") fd_wished_over
  g_wished_over : mg "wished_over" = some (.ref (He.ga K "wished_over"))
  fd_total_of : FuncData
  d_total_of : DefAt K "total_of" "total_of" s_total_of ["parts", "number"] (He.ga K "total_of") fd_total_of
  g_total_of : mg "total_of" = some (.ref (He.ga K "total_of"))
  fd_far_total : FuncData
  d_far_total : DefAt K "far_total" "far_total" s_far_total ["long", "company"] (He.ga K "far_total") fd_far_total
  g_far_total : mg "far_total" = some (.ref (He.ga K "far_total"))
  fd_least_company : FuncData
  d_least_company : DefAt K "least_company" "least_company" s_least_company ["long", "total"] (He.ga K "least_company") fd_least_company
  g_least_company : mg "least_company" = some (.ref (He.ga K "least_company"))
  fd_far_heard : FuncData
  d_far_heard : DefAt K "far_heard" "far_heard" s_far_heard ["long", "company", "place"] (He.ga K "far_heard") fd_far_heard
  g_far_heard : mg "far_heard" = some (.ref (He.ga K "far_heard"))
  fd_far_speaks : FuncData
  d_far_speaks : DefAt K "far_speaks" "far_speaks" s_far_speaks ["long", "company", "place"] (He.ga K "far_speaks") fd_far_speaks
  g_far_speaks : mg "far_speaks" = some (.ref (He.ga K "far_speaks"))
  fd_account : FuncData
  d_account : DefAt K "account" "account" s_account ["long", "company"] (He.ga K "account") fd_account
  g_account : mg "account" = some (.ref (He.ga K "account"))
  fd_is_name : FuncData
  d_is_name : DefAt K "is_name" "is_name" s_is_name ["thing"] (He.ga K "is_name") fd_is_name
  g_is_name : mg "is_name" = some (.ref (He.ga K "is_name"))
  fd_need_name : FuncData
  d_need_name : DefAt K "need_name" "need_name" s_need_name ["thing"] (He.ga K "need_name") fd_need_name
  g_need_name : mg "need_name" = some (.ref (He.ga K "need_name"))
  fd_need_few : FuncData
  d_need_few : DefAt K "need_few" "need_few" s_need_few ["many"] (He.ga K "need_few") fd_need_few
  g_need_few : mg "need_few" = some (.ref (He.ga K "need_few"))
  fd_slim : FuncData
  d_slim : DefAt K "slim" "slim" s_slim ["parts"] (He.ga K "slim") fd_slim
  g_slim : mg "slim" = some (.ref (He.ga K "slim"))
  fd_over_and_over : FuncData
  d_over_and_over : DefAt K "over_and_over" "over_and_over" s_over_and_over ["parts", "times"] (He.ga K "over_and_over") fd_over_and_over
  g_over_and_over : mg "over_and_over" = some (.ref (He.ga K "over_and_over"))
  fd_about : FuncData
  d_about : DefAt K "about" "about" s_about ["parts"] (He.ga K "about") fd_about
  g_about : mg "about" = some (.ref (He.ga K "about"))
  fd_written : FuncData
  d_written : DefAt K "written" "written" s_written ["parts"] (He.ga K "written") fd_written
  g_written : mg "written" = some (.ref (He.ga K "written"))
  fd_Hall__init : FuncData
  d_Hall__init : DefAt K "__init__" "Hall.__init__" s_Hall__init ["self"] (He.ma K (He.ga K "Hall") "__init__") fd_Hall__init
  fd_Hall__len : FuncData
  d_Hall__len : DefAt K "__len__" "Hall.__len__" s_Hall__len ["self"] (He.ma K (He.ga K "Hall") "__len__") fd_Hall__len
  m_Hall__len : Meth K (He.ga K "Hall") "__len__" (He.ma K (He.ga K "Hall") "__len__")
  fd_Hall_s10_parts : FuncData
  d_Hall_s10_parts : DefAt K "s10_parts" "Hall.s10_parts" s_Hall_s10_parts ["self", "name"] (He.ma K (He.ga K "Hall") "s10_parts") fd_Hall_s10_parts
  m_Hall_s10_parts : Meth K (He.ga K "Hall") "s10_parts" (He.ma K (He.ga K "Hall") "s10_parts")
  fd_Hall_s10_free : FuncData
  d_Hall_s10_free : DefAt K "s10_free" "Hall.s10_free" s_Hall_s10_free ["self", "name"] (He.ma K (He.ga K "Hall") "s10_free") fd_Hall_s10_free
  m_Hall_s10_free : Meth K (He.ga K "Hall") "s10_free" (He.ma K (He.ga K "Hall") "s10_free")
  fd_Hall_s10_keep : FuncData
  d_Hall_s10_keep : DefAt K "s10_keep" "Hall.s10_keep" s_Hall_s10_keep ["self", "deed", "rows"] (He.ma K (He.ga K "Hall") "s10_keep") fd_Hall_s10_keep
  m_Hall_s10_keep : Meth K (He.ga K "Hall") "s10_keep" (He.ma K (He.ga K "Hall") "s10_keep")
  fd_Hall_begin : FuncData
  d_Hall_begin : DefAt K "begin" "Hall.begin" s_Hall_begin ["self", "name", "long"] (He.ma K (He.ga K "Hall") "begin") fd_Hall_begin
  m_Hall_begin : Meth K (He.ga K "Hall") "begin" (He.ma K (He.ga K "Hall") "begin")
  fd_Hall_step_in : FuncData
  d_Hall_step_in : DefAt K "step_in" "Hall.step_in" s_Hall_step_in ["self", "name", "place", "saying"] (He.ma K (He.ga K "Hall") "step_in") fd_Hall_step_in
  m_Hall_step_in : Meth K (He.ga K "Hall") "step_in" (He.ma K (He.ga K "Hall") "step_in")
  fd_Hall_cut : FuncData
  d_Hall_cut : DefAt K "cut" "Hall.cut" s_Hall_cut ["self", "name", "place", "other"] (He.ma K (He.ga K "Hall") "cut") fd_Hall_cut
  m_Hall_cut : Meth K (He.ga K "Hall") "cut" (He.ma K (He.ga K "Hall") "cut")
  fd_Hall_join_to : FuncData
  d_Hall_join_to : DefAt K "join_to" "Hall.join_to" s_Hall_join_to ["self", "name", "other"] (He.ma K (He.ga K "Hall") "join_to") fd_Hall_join_to
  m_Hall_join_to : Meth K (He.ga K "Hall") "join_to" (He.ma K (He.ga K "Hall") "join_to")
  fd_Hall_say_over : FuncData
  d_Hall_say_over : DefAt K "say_over" "Hall.say_over" s_Hall_say_over ["self", "name", "many"] (He.ma K (He.ga K "Hall") "say_over") fd_Hall_say_over
  m_Hall_say_over : Meth K (He.ga K "Hall") "say_over" (He.ma K (He.ga K "Hall") "say_over")
  fd_Hall_turn_about : FuncData
  d_Hall_turn_about : DefAt K "turn_about" "Hall.turn_about" s_Hall_turn_about ["self", "name"] (He.ma K (He.ga K "Hall") "turn_about") fd_Hall_turn_about
  m_Hall_turn_about : Meth K (He.ga K "Hall") "turn_about" (He.ma K (He.ga K "Hall") "turn_about")
  fd_Hall_undo : FuncData
  d_Hall_undo : DefAt K "undo" "Hall.undo" s_Hall_undo ["self"] (He.ma K (He.ga K "Hall") "undo") fd_Hall_undo
  m_Hall_undo : Meth K (He.ga K "Hall") "undo" (He.ma K (He.ga K "Hall") "undo")
  fd_Hall_names : FuncData
  d_Hall_names : DefAt K "names" "Hall.names" s_Hall_names ["self"] (He.ma K (He.ga K "Hall") "names") fd_Hall_names
  m_Hall_names : Meth K (He.ga K "Hall") "names" (He.ma K (He.ga K "Hall") "names")
  fd_Hall_people : FuncData
  d_Hall_people : DefAt K "people" "Hall.people" s_Hall_people ["self", "name"] (He.ma K (He.ga K "Hall") "people") fd_Hall_people
  m_Hall_people : Meth K (He.ga K "Hall") "people" (He.ma K (He.ga K "Hall") "people")
  fd_Hall_total : FuncData
  d_Hall_total : DefAt K "total" "Hall.total" s_Hall_total ["self", "name", "company"] (He.ma K (He.ga K "Hall") "total") fd_Hall_total
  m_Hall_total : Meth K (He.ga K "Hall") "total" (He.ma K (He.ga K "Hall") "total")
  fd_Hall_least : FuncData
  d_Hall_least : DefAt K "least" "Hall.least" s_Hall_least ["self", "name", "total"] (He.ma K (He.ga K "Hall") "least") fd_Hall_least
  m_Hall_least : Meth K (He.ga K "Hall") "least" (He.ma K (He.ga K "Hall") "least")
  fd_Hall_saying : FuncData
  d_Hall_saying : DefAt K "saying" "Hall.saying" s_Hall_saying ["self", "name", "place"] (He.ma K (He.ga K "Hall") "saying") fd_Hall_saying
  m_Hall_saying : Meth K (He.ga K "Hall") "saying" (He.ma K (He.ga K "Hall") "saying")
  fd_Hall_speaks : FuncData
  d_Hall_speaks : DefAt K "speaks" "Hall.speaks" s_Hall_speaks ["self", "name", "company", "place"] (He.ma K (He.ga K "Hall") "speaks") fd_Hall_speaks
  m_Hall_speaks : Meth K (He.ga K "Hall") "speaks" (He.ma K (He.ga K "Hall") "speaks")
  fd_Hall_long_row : FuncData
  d_Hall_long_row : DefAt K "long_row" "Hall.long_row" s_Hall_long_row ["self", "name"] (He.ma K (He.ga K "Hall") "long_row") fd_Hall_long_row
  m_Hall_long_row : Meth K (He.ga K "Hall") "long_row" (He.ma K (He.ga K "Hall") "long_row")
  fd_Lurn : FuncData
  d_Lurn : DefAt K "_law_urn" "_law_urn" s_Lurn ["_law_script", "_law_k"] (He.ga K "_law_urn") fd_Lurn
  g_Lurn : mg "_law_urn" = some (.ref (He.ga K "_law_urn"))
  fd_Lball : FuncData
  d_Lball : DefAt K "_law_ball" "_law_ball" s_Lball ["_law_urn_here", "_law_many"] (He.ga K "_law_ball") fd_Lball
  g_Lball : mg "_law_ball" = some (.ref (He.ga K "_law_ball"))
  fd_Lsaying : FuncData
  d_Lsaying : DefAt K "_law_saying" "_law_saying" s_Lsaying ["_law_urn_here", "_law_wide"] (He.ga K "_law_saying") fd_Lsaying
  g_Lsaying : mg "_law_saying" = some (.ref (He.ga K "_law_saying"))
  fd_Lpeople : FuncData
  d_Lpeople : DefAt K "_law_people" "_law_people" s_Lpeople ["_law_long_here"] (He.ga K "_law_people") fd_Lpeople
  g_Lpeople : mg "_law_people" = some (.ref (He.ga K "_law_people"))
  fd_Llong : FuncData
  d_Llong : DefAt K "_law_long" "_law_long" s_Llong ["_law_urn_here", "_law_plan", "_law_deep", "_law_room"] (He.ga K "_law_long") fd_Llong
  g_Llong : mg "_law_long" = some (.ref (He.ga K "_law_long"))
  fd_Lsayings : FuncData
  d_Lsayings : DefAt K "_law_sayings" "_law_sayings" s_Lsayings ["_law_long_here"] (He.ga K "_law_sayings") fd_Lsayings
  g_Lsayings : mg "_law_sayings" = some (.ref (He.ga K "_law_sayings"))
  fd_Lcompany : FuncData
  d_Lcompany : DefAt K "_law_company" "_law_company" s_Lcompany ["_law_urn_here", "_law_sayings_here"] (He.ga K "_law_company") fd_Lcompany
  g_Lcompany : mg "_law_company" = some (.ref (He.ga K "_law_company"))
  fd_Lgreat : FuncData
  d_Lgreat : DefAt K "_law_great" "_law_great" s_Lgreat ["_law_urn_here"] (He.ga K "_law_great") fd_Lgreat
  g_Lgreat : mg "_law_great" = some (.ref (He.ga K "_law_great"))
  fd_Lmove : FuncData
  d_Lmove : DefAt K "_law_move" "_law_move" s_Lmove ["_law_urn_here", "_law_hall", "_law_left"] (He.ga K "_law_move") fd_Lmove
  g_Lmove : mg "_law_move" = some (.ref (He.ga K "_law_move"))
  fd_Lplaces_right : FuncData
  d_Lplaces_right : DefAt K "_law_places_right" "_law_places_right" s_Lplaces_right ["_law_urn_here", "_law_hall", "_law_name", "_law_long_here", "_law_company_here"] (He.ga K "_law_places_right") fd_Lplaces_right
  g_Lplaces_right : mg "_law_places_right" = some (.ref (He.ga K "_law_places_right"))
  fd_Lname_right : FuncData
  d_Lname_right : DefAt K "_law_name_right" "_law_name_right" s_Lname_right ["_law_urn_here", "_law_hall", "_law_name"] (He.ga K "_law_name_right") fd_Lname_right
  g_Lname_right : mg "_law_name_right" = some (.ref (He.ga K "_law_name_right"))
  fd_law : FuncData
  d_law : DefAt K "law" "law" s_law ["_law_script"] (He.ga K "law") fd_law
  g_law : mg "law" = some (.ref (He.ga K "law"))
  g_Spot : mg "Spot" = some (.ref (He.ga K "Spot"))
  cl_Spot : Cls K (He.ga K "Spot")
  mk_Spot : Mk K (He.ga K "Spot") (He.ma K (He.ga K "Spot") "__init__")
  g_Over : mg "Over" = some (.ref (He.ga K "Over"))
  cl_Over : Cls K (He.ga K "Over")
  mk_Over : Mk K (He.ga K "Over") (He.ma K (He.ga K "Over") "__init__")
  g_Hall : mg "Hall" = some (.ref (He.ga K "Hall"))
  cl_Hall : Cls K (He.ga K "Hall")
  mk_Hall : Mk K (He.ga K "Hall") (He.ma K (He.ga K "Hall") "__init__")
  n_Spot_s8_said : NoAttr K (He.ga K "Spot") "s8_said"
  n_Spot_s8_number : NoAttr K (He.ga K "Spot") "s8_number"
  n_Spot_s8_many : NoAttr K (He.ga K "Spot") "s8_many"
  n_Over_s8_times : NoAttr K (He.ga K "Over") "s8_times"
  n_Over_s8_parts : NoAttr K (He.ga K "Over") "s8_parts"
  n_Over_s8_once : NoAttr K (He.ga K "Over") "s8_once"
  n_Over_s8_many : NoAttr K (He.ga K "Over") "s8_many"
  n_Hall_s10_rows : NoAttr K (He.ga K "Hall") "s10_rows"
  n_Hall_s10_done : NoAttr K (He.ga K "Hall") "s10_done"
  n_Hall_s10_undone : NoAttr K (He.ga K "Hall") "s10_undone"
  t_MOST_PEOPLE : Tok
  c_MOST_PEOPLE : mg "MOST_PEOPLE" = some (.int 999999999999999999999999999999 t_MOST_PEOPLE)
  t_AGAIN : Tok
  c_AGAIN : mg "AGAIN" = some (.str "again" t_AGAIN)
  t_FEW : Tok
  c_FEW : mg "FEW" = some (.int 0 t_FEW)
  t_TRUE : Tok
  c_TRUE : mg "TRUE" = some (.int 1 t_TRUE)
  t_LETTERS : Tok
  c_LETTERS : mg "LETTERS" = some (.str "abcdefghijklmnopqrstuvwxyz" t_LETTERS)
  t_MOST_LETTERS : Tok
  c_MOST_LETTERS : mg "MOST_LETTERS" = some (.int 8 t_MOST_LETTERS)
  z_isinstance : mg "isinstance" = none
  z_int : mg "int" = none
  z_bool : mg "bool" = none
  z_tuple : mg "tuple" = none
  z_list : mg "list" = none
  z_str : mg "str" = none
  z_len : mg "len" = none
  z_sum : mg "sum" = none
  z_divmod : mg "divmod" = none
  z_min : mg "min" = none
  z_max : mg "max" = none
  z_abs : mg "abs" = none
  z_range : mg "range" = none
  z_all : mg "all" = none
  z_sorted : mg "sorted" = none
  z_dict : mg "dict" = none
  z_repr : mg "repr" = none
  i1_Spot : PySem.W.findIn K (.ref (He.ga K "Spot")) "__class__" = some (some (.builtin "object.__class__"))
  i2_Spot : PySem.W.mroIn K (He.ga K "Spot") (.type "object") = some true
  i1_Over : PySem.W.findIn K (.ref (He.ga K "Over")) "__class__" = some (some (.builtin "object.__class__"))
  i2_Over : PySem.W.mroIn K (He.ga K "Over") (.type "object") = some true
  i3 : PySem.W.specialIn K (.builtin "object.__class__") "__get__" = some (some (.builtin "getset_descriptor.__get__"))
  i4 : PySem.W.takesIn K (.builtin "object.__class__") = some true
  k_Spot_Spot : PySem.W.kitOne K (.ref (He.ga K "Spot")) (.ref (He.ga K "Spot")) = some true
  k_Spot_Over : PySem.W.kitOne K (.ref (He.ga K "Spot")) (.ref (He.ga K "Over")) = some false
  k_Over_Spot : PySem.W.kitOne K (.ref (He.ga K "Over")) (.ref (He.ga K "Spot")) = some false
  k_Over_Over : PySem.W.kitOne K (.ref (He.ga K "Over")) (.ref (He.ga K "Over")) = some true
set_option maxHeartbeats 0
theorem facts {w : World} {K : PySem.W.Frag} {h : Heap} {mg : Str → Option Value} (X : K.In h) (G : h.Ns mainGlobals mg) (c : He.SaysX fa fn [] [] exB w h K) : Nonempty (Txt K mg) := by
  have D := c.t.d
  have hx := c.more
  unfold exB at hx
  simp only [Bool.and_eq_true] at hx
  obtain ⟨⟨⟨⟨⟨⟨⟨⟨⟨hi1_Spot, hi2_Spot⟩, hi1_Over⟩, hi2_Over⟩, hi3⟩, hi4⟩, hk_Spot_Spot⟩, hk_Spot_Over⟩, hk_Over_Spot⟩, hk_Over_Over⟩ := hx
  obtain ⟨fd0, F0⟩ := D.def_ 0 (d := d_is_number) rfl
  obtain ⟨fd1, F1⟩ := D.def_ 1 (d := d_is_saying) rfl
  obtain ⟨fd2, F2⟩ := D.def_ 2 (d := d_need_number) rfl
  obtain ⟨fd3, F3⟩ := D.def_ 3 (d := d_need_saying) rfl
  obtain ⟨fd4, F4⟩ := D.def_ 4 (d := d_need_place) rfl
  obtain ⟨fd5, F5⟩ := D.def_ 5 (d := d_is_so) rfl
  obtain ⟨fd6, F6⟩ := D.def_ 6 (d := d_Spot__init) rfl
  obtain ⟨fd7, F7⟩ := D.def_ 7 (d := d_Over__init) rfl
  obtain ⟨fd8, F8⟩ := D.def_ 8 (d := d_laid_many) rfl
  obtain ⟨fd9, F9⟩ := D.def_ 9 (d := d_people_said) rfl
  obtain ⟨fd10, F10⟩ := D.def_ 10 (d := d_people_of) rfl
  obtain ⟨fd11, F11⟩ := D.def_ 11 (d := d_is_long) rfl
  obtain ⟨fd12, F12⟩ := D.def_ 12 (d := d_need_long) rfl
  obtain ⟨fd13, F13⟩ := D.def_ 13 (d := d_planted) rfl
  obtain ⟨fd14, F14⟩ := D.def_ 14 (d := d_parts_of) rfl
  obtain ⟨fd15, F15⟩ := D.def_ 15 (d := d_tail) rfl
  obtain ⟨fd16, F16⟩ := D.def_ 16 (d := d_head) rfl
  obtain ⟨fd17, F17⟩ := D.def_ 17 (d := d_spot_at) rfl
  obtain ⟨fd18, F18⟩ := D.def_ 18 (d := d_said_in) rfl
  obtain ⟨fd19, F19⟩ := D.def_ 19 (d := d_people_in) rfl
  obtain ⟨fd20, F20⟩ := D.def_ 20 (d := d_saying_at) rfl
  obtain ⟨fd21, F21⟩ := D.def_ 21 (d := d_lesser_slack) rfl
  obtain ⟨fd22, F22⟩ := D.def_ 22 (d := d_word_of) rfl
  obtain ⟨fd23, F23⟩ := D.def_ 23 (d := d_add_counts) rfl
  obtain ⟨fd24, F24⟩ := D.def_ 24 (d := d_through) rfl
  obtain ⟨fd25, F25⟩ := D.def_ 25 (d := d_through_over) rfl
  obtain ⟨fd26, F26⟩ := D.def_ 26 (d := d_wished) rfl
  obtain ⟨fd27, F27⟩ := D.def_ 27 (d := d_wished_over) rfl
  obtain ⟨fd28, F28⟩ := D.def_ 28 (d := d_total_of) rfl
  obtain ⟨fd29, F29⟩ := D.def_ 29 (d := d_far_total) rfl
  obtain ⟨fd30, F30⟩ := D.def_ 30 (d := d_least_company) rfl
  obtain ⟨fd31, F31⟩ := D.def_ 31 (d := d_far_heard) rfl
  obtain ⟨fd32, F32⟩ := D.def_ 32 (d := d_far_speaks) rfl
  obtain ⟨fd33, F33⟩ := D.def_ 33 (d := d_account) rfl
  obtain ⟨fd34, F34⟩ := D.def_ 34 (d := d_is_name) rfl
  obtain ⟨fd35, F35⟩ := D.def_ 35 (d := d_need_name) rfl
  obtain ⟨fd36, F36⟩ := D.def_ 36 (d := d_need_few) rfl
  obtain ⟨fd37, F37⟩ := D.def_ 37 (d := d_slim) rfl
  obtain ⟨fd38, F38⟩ := D.def_ 38 (d := d_over_and_over) rfl
  obtain ⟨fd39, F39⟩ := D.def_ 39 (d := d_about) rfl
  obtain ⟨fd40, F40⟩ := D.def_ 40 (d := d_written) rfl
  obtain ⟨fd41, F41⟩ := D.def_ 41 (d := d_Hall__init) rfl
  obtain ⟨fd42, F42⟩ := D.def_ 42 (d := d_Hall__len) rfl
  obtain ⟨fd43, F43⟩ := D.def_ 43 (d := d_Hall_s10_parts) rfl
  obtain ⟨fd44, F44⟩ := D.def_ 44 (d := d_Hall_s10_free) rfl
  obtain ⟨fd45, F45⟩ := D.def_ 45 (d := d_Hall_s10_keep) rfl
  obtain ⟨fd46, F46⟩ := D.def_ 46 (d := d_Hall_begin) rfl
  obtain ⟨fd47, F47⟩ := D.def_ 47 (d := d_Hall_step_in) rfl
  obtain ⟨fd48, F48⟩ := D.def_ 48 (d := d_Hall_cut) rfl
  obtain ⟨fd49, F49⟩ := D.def_ 49 (d := d_Hall_join_to) rfl
  obtain ⟨fd50, F50⟩ := D.def_ 50 (d := d_Hall_say_over) rfl
  obtain ⟨fd51, F51⟩ := D.def_ 51 (d := d_Hall_turn_about) rfl
  obtain ⟨fd52, F52⟩ := D.def_ 52 (d := d_Hall_undo) rfl
  obtain ⟨fd53, F53⟩ := D.def_ 53 (d := d_Hall_names) rfl
  obtain ⟨fd54, F54⟩ := D.def_ 54 (d := d_Hall_people) rfl
  obtain ⟨fd55, F55⟩ := D.def_ 55 (d := d_Hall_total) rfl
  obtain ⟨fd56, F56⟩ := D.def_ 56 (d := d_Hall_least) rfl
  obtain ⟨fd57, F57⟩ := D.def_ 57 (d := d_Hall_saying) rfl
  obtain ⟨fd58, F58⟩ := D.def_ 58 (d := d_Hall_speaks) rfl
  obtain ⟨fd59, F59⟩ := D.def_ 59 (d := d_Hall_long_row) rfl
  obtain ⟨fd60, F60⟩ := D.def_ 60 (d := d_Lurn) rfl
  obtain ⟨fd61, F61⟩ := D.def_ 61 (d := d_Lball) rfl
  obtain ⟨fd62, F62⟩ := D.def_ 62 (d := d_Lsaying) rfl
  obtain ⟨fd63, F63⟩ := D.def_ 63 (d := d_Lpeople) rfl
  obtain ⟨fd64, F64⟩ := D.def_ 64 (d := d_Llong) rfl
  obtain ⟨fd65, F65⟩ := D.def_ 65 (d := d_Lsayings) rfl
  obtain ⟨fd66, F66⟩ := D.def_ 66 (d := d_Lcompany) rfl
  obtain ⟨fd67, F67⟩ := D.def_ 67 (d := d_Lgreat) rfl
  obtain ⟨fd68, F68⟩ := D.def_ 68 (d := d_Lmove) rfl
  obtain ⟨fd69, F69⟩ := D.def_ 69 (d := d_Lplaces_right) rfl
  obtain ⟨fd70, F70⟩ := D.def_ 70 (d := d_Lname_right) rfl
  obtain ⟨fd71, F71⟩ := D.def_ 71 (d := d_law) rfl
  obtain ⟨t0, c0⟩ := He.int_ok X G (D.fact 88 (f := .int "MOST_PEOPLE" 999999999999999999999999999999) rfl)
  obtain ⟨t1, c1⟩ := He.str_ok X G (D.fact 89 (f := .str "AGAIN" "again") rfl)
  obtain ⟨t2, c2⟩ := He.int_ok X G (D.fact 90 (f := .int "FEW" 0) rfl)
  obtain ⟨t3, c3⟩ := He.int_ok X G (D.fact 91 (f := .int "TRUE" 1) rfl)
  obtain ⟨t4, c4⟩ := He.str_ok X G (D.fact 92 (f := .str "LETTERS" "abcdefghijklmnopqrstuvwxyz") rfl)
  obtain ⟨t5, c5⟩ := He.int_ok X G (D.fact 93 (f := .int "MOST_LETTERS" 8) rfl)
  refine ⟨{
    fd_is_number := fd0
    d_is_number := ⟨F0, FunD.bindsN F0 fun _ _ _ _ _ _ us hl => match us, hl with | [_], _ => rfl⟩
    g_is_number := He.glo_ok X G (D.fact 0 (f := .glo "is_number") rfl)
    fd_is_saying := fd1
    d_is_saying := ⟨F1, FunD.bindsN F1 fun _ _ _ _ _ _ us hl => match us, hl with | [_], _ => rfl⟩
    g_is_saying := He.glo_ok X G (D.fact 1 (f := .glo "is_saying") rfl)
    fd_need_number := fd2
    d_need_number := ⟨F2, FunD.bindsN F2 fun _ _ _ _ _ _ us hl => match us, hl with | [_], _ => rfl⟩
    g_need_number := He.glo_ok X G (D.fact 2 (f := .glo "need_number") rfl)
    fd_need_saying := fd3
    d_need_saying := ⟨F3, FunD.bindsN F3 fun _ _ _ _ _ _ us hl => match us, hl with | [_], _ => rfl⟩
    g_need_saying := He.glo_ok X G (D.fact 3 (f := .glo "need_saying") rfl)
    fd_need_place := fd4
    d_need_place := ⟨F4, FunD.bindsN F4 fun _ _ _ _ _ _ us hl => match us, hl with | [_, _], _ => rfl⟩
    g_need_place := He.glo_ok X G (D.fact 4 (f := .glo "need_place") rfl)
    fd_is_so := fd5
    d_is_so := ⟨F5, FunD.bindsN F5 fun _ _ _ _ _ _ us hl => match us, hl with | [_, _], _ => rfl⟩
    g_is_so := He.glo_ok X G (D.fact 5 (f := .glo "is_so") rfl)
    fd_Spot__init := fd6
    d_Spot__init := ⟨F6, FunD.bindsN F6 fun _ _ _ _ _ _ us hl => match us, hl with | [_, _, _], _ => rfl⟩
    fd_Over__init := fd7
    d_Over__init := ⟨F7, FunD.bindsN F7 fun _ _ _ _ _ _ us hl => match us, hl with | [_, _, _], _ => rfl⟩
    fd_laid_many := fd8
    d_laid_many := ⟨F8, FunD.bindsN F8 fun _ _ _ _ _ _ us hl => match us, hl with | [_], _ => rfl⟩
    g_laid_many := He.glo_ok X G (D.fact 6 (f := .glo "laid_many") rfl)
    fd_people_said := fd9
    d_people_said := ⟨F9, FunD.bindsN F9 fun _ _ _ _ _ _ us hl => match us, hl with | [_], _ => rfl⟩
    g_people_said := He.glo_ok X G (D.fact 7 (f := .glo "people_said") rfl)
    fd_people_of := fd10
    d_people_of := ⟨F10, FunD.bindsN F10 fun _ _ _ _ _ _ us hl => match us, hl with | [_], _ => rfl⟩
    g_people_of := He.glo_ok X G (D.fact 8 (f := .glo "people_of") rfl)
    fd_is_long := fd11
    d_is_long := ⟨F11, FunD.bindsN F11 fun _ _ _ _ _ _ us hl => match us, hl with | [_], _ => rfl⟩
    g_is_long := He.glo_ok X G (D.fact 9 (f := .glo "is_long") rfl)
    fd_need_long := fd12
    d_need_long := ⟨F12, FunD.bindsN F12 fun _ _ _ _ _ _ us hl => match us, hl with | [_], _ => rfl⟩
    g_need_long := He.glo_ok X G (D.fact 10 (f := .glo "need_long") rfl)
    fd_planted := fd13
    d_planted := ⟨F13, FunD.bindsN F13 fun _ _ _ _ _ _ us hl => match us, hl with | [_, _], _ => rfl⟩
    g_planted := He.glo_ok X G (D.fact 11 (f := .glo "planted") rfl)
    fd_parts_of := fd14
    d_parts_of := ⟨F14, FunD.bindsN F14 fun _ _ _ _ _ _ us hl => match us, hl with | [_], _ => rfl⟩
    g_parts_of := He.glo_ok X G (D.fact 12 (f := .glo "parts_of") rfl)
    fd_tail := fd15
    d_tail := ⟨F15, FunD.bindsN F15 fun _ _ _ _ _ _ us hl => match us, hl with | [_, _], _ => rfl⟩
    g_tail := He.glo_ok X G (D.fact 13 (f := .glo "tail") rfl)
    fd_head := fd16
    d_head := ⟨F16, FunD.bindsN F16 fun _ _ _ _ _ _ us hl => match us, hl with | [_, _], _ => rfl⟩
    g_head := He.glo_ok X G (D.fact 14 (f := .glo "head") rfl)
    fd_spot_at := fd17
    d_spot_at := ⟨F17, FunD.bindsN F17 fun _ _ _ _ _ _ us hl => match us, hl with | [_, _], _ => rfl⟩
    g_spot_at := He.glo_ok X G (D.fact 15 (f := .glo "spot_at") rfl)
    fd_said_in := fd18
    d_said_in := ⟨F18, FunD.bindsN F18 fun _ _ _ _ _ _ us hl => match us, hl with | [_], _ => rfl⟩
    g_said_in := He.glo_ok X G (D.fact 16 (f := .glo "said_in") rfl)
    fd_people_in := fd19
    d_people_in := ⟨F19, FunD.bindsN F19 fun _ _ _ _ _ _ us hl => match us, hl with | [_], _ => rfl⟩
    g_people_in := He.glo_ok X G (D.fact 17 (f := .glo "people_in") rfl)
    fd_saying_at := fd20
    d_saying_at := ⟨F20, FunD.bindsN F20 fun _ _ _ _ _ _ us hl => match us, hl with | [_, _], _ => rfl⟩
    g_saying_at := He.glo_ok X G (D.fact 18 (f := .glo "saying_at") rfl)
    fd_lesser_slack := fd21
    d_lesser_slack := ⟨F21, FunD.bindsN F21 fun _ _ _ _ _ _ us hl => match us, hl with | [_, _], _ => rfl⟩
    g_lesser_slack := He.glo_ok X G (D.fact 19 (f := .glo "lesser_slack") rfl)
    fd_word_of := fd22
    d_word_of := ⟨F22, FunD.bindsN F22 fun _ _ _ _ _ _ us hl => match us, hl with | [_, _], _ => rfl⟩
    g_word_of := He.glo_ok X G (D.fact 20 (f := .glo "word_of") rfl)
    fd_add_counts := fd23
    d_add_counts := ⟨F23, FunD.bindsN F23 fun _ _ _ _ _ _ us hl => match us, hl with | [_, _, _], _ => rfl⟩
    g_add_counts := He.glo_ok X G (D.fact 21 (f := .glo "add_counts") rfl)
    fd_through := fd24
    d_through := ⟨F24, FunD.bindsN F24 fun _ _ _ _ _ _ us hl => match us, hl with | [_, _], _ => rfl⟩
    g_through := He.glo_ok X G (D.fact 22 (f := .glo "through") rfl)
    fd_through_over := fd25
    d_through_over := ⟨F25, FunD.bindsN F25 fun _ _ _ _ _ _ us hl => match us, hl with | [_, _], _ => rfl⟩
    g_through_over := He.glo_ok X G (D.fact 23 (f := .glo "through_over") rfl)
    fd_wished := fd26
    d_wished := ⟨F26, FunD.bindsN F26 fun _ _ _ _ _ _ us hl => match us, hl with | [_, _], _ => rfl⟩
    g_wished := He.glo_ok X G (D.fact 24 (f := .glo "wished") rfl)
    fd_wished_over := fd27
    d_wished_over := ⟨F27, FunD.bindsN F27 fun _ _ _ _ _ _ us hl => match us, hl with | [_, _], _ => rfl⟩
    g_wished_over := He.glo_ok X G (D.fact 25 (f := .glo "wished_over") rfl)
    fd_total_of := fd28
    d_total_of := ⟨F28, FunD.bindsN F28 fun _ _ _ _ _ _ us hl => match us, hl with | [_, _], _ => rfl⟩
    g_total_of := He.glo_ok X G (D.fact 26 (f := .glo "total_of") rfl)
    fd_far_total := fd29
    d_far_total := ⟨F29, FunD.bindsN F29 fun _ _ _ _ _ _ us hl => match us, hl with | [_, _], _ => rfl⟩
    g_far_total := He.glo_ok X G (D.fact 27 (f := .glo "far_total") rfl)
    fd_least_company := fd30
    d_least_company := ⟨F30, FunD.bindsN F30 fun _ _ _ _ _ _ us hl => match us, hl with | [_, _], _ => rfl⟩
    g_least_company := He.glo_ok X G (D.fact 28 (f := .glo "least_company") rfl)
    fd_far_heard := fd31
    d_far_heard := ⟨F31, FunD.bindsN F31 fun _ _ _ _ _ _ us hl => match us, hl with | [_, _, _], _ => rfl⟩
    g_far_heard := He.glo_ok X G (D.fact 29 (f := .glo "far_heard") rfl)
    fd_far_speaks := fd32
    d_far_speaks := ⟨F32, FunD.bindsN F32 fun _ _ _ _ _ _ us hl => match us, hl with | [_, _, _], _ => rfl⟩
    g_far_speaks := He.glo_ok X G (D.fact 30 (f := .glo "far_speaks") rfl)
    fd_account := fd33
    d_account := ⟨F33, FunD.bindsN F33 fun _ _ _ _ _ _ us hl => match us, hl with | [_, _], _ => rfl⟩
    g_account := He.glo_ok X G (D.fact 31 (f := .glo "account") rfl)
    fd_is_name := fd34
    d_is_name := ⟨F34, FunD.bindsN F34 fun _ _ _ _ _ _ us hl => match us, hl with | [_], _ => rfl⟩
    g_is_name := He.glo_ok X G (D.fact 32 (f := .glo "is_name") rfl)
    fd_need_name := fd35
    d_need_name := ⟨F35, FunD.bindsN F35 fun _ _ _ _ _ _ us hl => match us, hl with | [_], _ => rfl⟩
    g_need_name := He.glo_ok X G (D.fact 33 (f := .glo "need_name") rfl)
    fd_need_few := fd36
    d_need_few := ⟨F36, FunD.bindsN F36 fun _ _ _ _ _ _ us hl => match us, hl with | [_], _ => rfl⟩
    g_need_few := He.glo_ok X G (D.fact 34 (f := .glo "need_few") rfl)
    fd_slim := fd37
    d_slim := ⟨F37, FunD.bindsN F37 fun _ _ _ _ _ _ us hl => match us, hl with | [_], _ => rfl⟩
    g_slim := He.glo_ok X G (D.fact 35 (f := .glo "slim") rfl)
    fd_over_and_over := fd38
    d_over_and_over := ⟨F38, FunD.bindsN F38 fun _ _ _ _ _ _ us hl => match us, hl with | [_, _], _ => rfl⟩
    g_over_and_over := He.glo_ok X G (D.fact 36 (f := .glo "over_and_over") rfl)
    fd_about := fd39
    d_about := ⟨F39, FunD.bindsN F39 fun _ _ _ _ _ _ us hl => match us, hl with | [_], _ => rfl⟩
    g_about := He.glo_ok X G (D.fact 37 (f := .glo "about") rfl)
    fd_written := fd40
    d_written := ⟨F40, FunD.bindsN F40 fun _ _ _ _ _ _ us hl => match us, hl with | [_], _ => rfl⟩
    g_written := He.glo_ok X G (D.fact 38 (f := .glo "written") rfl)
    fd_Hall__init := fd41
    d_Hall__init := ⟨F41, FunD.bindsN F41 fun _ _ _ _ _ _ us hl => match us, hl with | [_], _ => rfl⟩
    fd_Hall__len := fd42
    d_Hall__len := ⟨F42, FunD.bindsN F42 fun _ _ _ _ _ _ us hl => match us, hl with | [_], _ => rfl⟩
    m_Hall__len := He.meth_ok (D.fact 87 (f := .meth "Hall" "__len__") rfl)
    fd_Hall_s10_parts := fd43
    d_Hall_s10_parts := ⟨F43, FunD.bindsN F43 fun _ _ _ _ _ _ us hl => match us, hl with | [_, _], _ => rfl⟩
    m_Hall_s10_parts := He.meth_ok (D.fact 70 (f := .meth "Hall" "s10_parts") rfl)
    fd_Hall_s10_free := fd44
    d_Hall_s10_free := ⟨F44, FunD.bindsN F44 fun _ _ _ _ _ _ us hl => match us, hl with | [_, _], _ => rfl⟩
    m_Hall_s10_free := He.meth_ok (D.fact 71 (f := .meth "Hall" "s10_free") rfl)
    fd_Hall_s10_keep := fd45
    d_Hall_s10_keep := ⟨F45, FunD.bindsN F45 fun _ _ _ _ _ _ us hl => match us, hl with | [_, _, _], _ => rfl⟩
    m_Hall_s10_keep := He.meth_ok (D.fact 72 (f := .meth "Hall" "s10_keep") rfl)
    fd_Hall_begin := fd46
    d_Hall_begin := ⟨F46, FunD.bindsN F46 fun _ _ _ _ _ _ us hl => match us, hl with | [_, _, _], _ => rfl⟩
    m_Hall_begin := He.meth_ok (D.fact 73 (f := .meth "Hall" "begin") rfl)
    fd_Hall_step_in := fd47
    d_Hall_step_in := ⟨F47, FunD.bindsN F47 fun _ _ _ _ _ _ us hl => match us, hl with | [_, _, _, _], _ => rfl⟩
    m_Hall_step_in := He.meth_ok (D.fact 74 (f := .meth "Hall" "step_in") rfl)
    fd_Hall_cut := fd48
    d_Hall_cut := ⟨F48, FunD.bindsN F48 fun _ _ _ _ _ _ us hl => match us, hl with | [_, _, _, _], _ => rfl⟩
    m_Hall_cut := He.meth_ok (D.fact 75 (f := .meth "Hall" "cut") rfl)
    fd_Hall_join_to := fd49
    d_Hall_join_to := ⟨F49, FunD.bindsN F49 fun _ _ _ _ _ _ us hl => match us, hl with | [_, _, _], _ => rfl⟩
    m_Hall_join_to := He.meth_ok (D.fact 76 (f := .meth "Hall" "join_to") rfl)
    fd_Hall_say_over := fd50
    d_Hall_say_over := ⟨F50, FunD.bindsN F50 fun _ _ _ _ _ _ us hl => match us, hl with | [_, _, _], _ => rfl⟩
    m_Hall_say_over := He.meth_ok (D.fact 77 (f := .meth "Hall" "say_over") rfl)
    fd_Hall_turn_about := fd51
    d_Hall_turn_about := ⟨F51, FunD.bindsN F51 fun _ _ _ _ _ _ us hl => match us, hl with | [_, _], _ => rfl⟩
    m_Hall_turn_about := He.meth_ok (D.fact 78 (f := .meth "Hall" "turn_about") rfl)
    fd_Hall_undo := fd52
    d_Hall_undo := ⟨F52, FunD.bindsN F52 fun _ _ _ _ _ _ us hl => match us, hl with | [_], _ => rfl⟩
    m_Hall_undo := He.meth_ok (D.fact 79 (f := .meth "Hall" "undo") rfl)
    fd_Hall_names := fd53
    d_Hall_names := ⟨F53, FunD.bindsN F53 fun _ _ _ _ _ _ us hl => match us, hl with | [_], _ => rfl⟩
    m_Hall_names := He.meth_ok (D.fact 80 (f := .meth "Hall" "names") rfl)
    fd_Hall_people := fd54
    d_Hall_people := ⟨F54, FunD.bindsN F54 fun _ _ _ _ _ _ us hl => match us, hl with | [_, _], _ => rfl⟩
    m_Hall_people := He.meth_ok (D.fact 81 (f := .meth "Hall" "people") rfl)
    fd_Hall_total := fd55
    d_Hall_total := ⟨F55, FunD.bindsN F55 fun _ _ _ _ _ _ us hl => match us, hl with | [_, _, _], _ => rfl⟩
    m_Hall_total := He.meth_ok (D.fact 82 (f := .meth "Hall" "total") rfl)
    fd_Hall_least := fd56
    d_Hall_least := ⟨F56, FunD.bindsN F56 fun _ _ _ _ _ _ us hl => match us, hl with | [_, _, _], _ => rfl⟩
    m_Hall_least := He.meth_ok (D.fact 83 (f := .meth "Hall" "least") rfl)
    fd_Hall_saying := fd57
    d_Hall_saying := ⟨F57, FunD.bindsN F57 fun _ _ _ _ _ _ us hl => match us, hl with | [_, _, _], _ => rfl⟩
    m_Hall_saying := He.meth_ok (D.fact 84 (f := .meth "Hall" "saying") rfl)
    fd_Hall_speaks := fd58
    d_Hall_speaks := ⟨F58, FunD.bindsN F58 fun _ _ _ _ _ _ us hl => match us, hl with | [_, _, _, _], _ => rfl⟩
    m_Hall_speaks := He.meth_ok (D.fact 85 (f := .meth "Hall" "speaks") rfl)
    fd_Hall_long_row := fd59
    d_Hall_long_row := ⟨F59, FunD.bindsN F59 fun _ _ _ _ _ _ us hl => match us, hl with | [_, _], _ => rfl⟩
    m_Hall_long_row := He.meth_ok (D.fact 86 (f := .meth "Hall" "long_row") rfl)
    fd_Lurn := fd60
    d_Lurn := ⟨F60, FunD.bindsN F60 fun _ _ _ _ _ _ us hl => match us, hl with | [_, _], _ => rfl⟩
    g_Lurn := He.glo_ok X G (D.fact 39 (f := .glo "_law_urn") rfl)
    fd_Lball := fd61
    d_Lball := ⟨F61, FunD.bindsN F61 fun _ _ _ _ _ _ us hl => match us, hl with | [_, _], _ => rfl⟩
    g_Lball := He.glo_ok X G (D.fact 40 (f := .glo "_law_ball") rfl)
    fd_Lsaying := fd62
    d_Lsaying := ⟨F62, FunD.bindsN F62 fun _ _ _ _ _ _ us hl => match us, hl with | [_, _], _ => rfl⟩
    g_Lsaying := He.glo_ok X G (D.fact 41 (f := .glo "_law_saying") rfl)
    fd_Lpeople := fd63
    d_Lpeople := ⟨F63, FunD.bindsN F63 fun _ _ _ _ _ _ us hl => match us, hl with | [_], _ => rfl⟩
    g_Lpeople := He.glo_ok X G (D.fact 42 (f := .glo "_law_people") rfl)
    fd_Llong := fd64
    d_Llong := ⟨F64, FunD.bindsN F64 fun _ _ _ _ _ _ us hl => match us, hl with | [_, _, _, _], _ => rfl⟩
    g_Llong := He.glo_ok X G (D.fact 43 (f := .glo "_law_long") rfl)
    fd_Lsayings := fd65
    d_Lsayings := ⟨F65, FunD.bindsN F65 fun _ _ _ _ _ _ us hl => match us, hl with | [_], _ => rfl⟩
    g_Lsayings := He.glo_ok X G (D.fact 44 (f := .glo "_law_sayings") rfl)
    fd_Lcompany := fd66
    d_Lcompany := ⟨F66, FunD.bindsN F66 fun _ _ _ _ _ _ us hl => match us, hl with | [_, _], _ => rfl⟩
    g_Lcompany := He.glo_ok X G (D.fact 45 (f := .glo "_law_company") rfl)
    fd_Lgreat := fd67
    d_Lgreat := ⟨F67, FunD.bindsN F67 fun _ _ _ _ _ _ us hl => match us, hl with | [_], _ => rfl⟩
    g_Lgreat := He.glo_ok X G (D.fact 46 (f := .glo "_law_great") rfl)
    fd_Lmove := fd68
    d_Lmove := ⟨F68, FunD.bindsN F68 fun _ _ _ _ _ _ us hl => match us, hl with | [_, _, _], _ => rfl⟩
    g_Lmove := He.glo_ok X G (D.fact 47 (f := .glo "_law_move") rfl)
    fd_Lplaces_right := fd69
    d_Lplaces_right := ⟨F69, FunD.bindsN F69 fun _ _ _ _ _ _ us hl => match us, hl with | [_, _, _, _, _], _ => rfl⟩
    g_Lplaces_right := He.glo_ok X G (D.fact 48 (f := .glo "_law_places_right") rfl)
    fd_Lname_right := fd70
    d_Lname_right := ⟨F70, FunD.bindsN F70 fun _ _ _ _ _ _ us hl => match us, hl with | [_, _, _], _ => rfl⟩
    g_Lname_right := He.glo_ok X G (D.fact 49 (f := .glo "_law_name_right") rfl)
    fd_law := fd71
    d_law := ⟨F71, FunD.bindsN F71 fun _ _ _ _ _ _ us hl => match us, hl with | [_], _ => rfl⟩
    g_law := He.glo_ok X G (D.fact 50 (f := .glo "law") rfl)
    g_Spot := He.glo_ok X G (D.fact 51 (f := .glo "Spot") rfl)
    cl_Spot := He.cls_ok (D.fact 52 (f := .cls "Spot") rfl)
    mk_Spot := He.mkr_ok (D.fact 53 (f := .mkr "Spot") rfl)
    g_Over := He.glo_ok X G (D.fact 54 (f := .glo "Over") rfl)
    cl_Over := He.cls_ok (D.fact 55 (f := .cls "Over") rfl)
    mk_Over := He.mkr_ok (D.fact 56 (f := .mkr "Over") rfl)
    g_Hall := He.glo_ok X G (D.fact 57 (f := .glo "Hall") rfl)
    cl_Hall := He.cls_ok (D.fact 58 (f := .cls "Hall") rfl)
    mk_Hall := He.mkr_ok (D.fact 59 (f := .mkr "Hall") rfl)
    n_Spot_s8_said := He.noat_ok (D.fact 60 (f := .noat "Spot" "s8_said") rfl)
    n_Spot_s8_number := He.noat_ok (D.fact 61 (f := .noat "Spot" "s8_number") rfl)
    n_Spot_s8_many := He.noat_ok (D.fact 62 (f := .noat "Spot" "s8_many") rfl)
    n_Over_s8_times := He.noat_ok (D.fact 63 (f := .noat "Over" "s8_times") rfl)
    n_Over_s8_parts := He.noat_ok (D.fact 64 (f := .noat "Over" "s8_parts") rfl)
    n_Over_s8_once := He.noat_ok (D.fact 65 (f := .noat "Over" "s8_once") rfl)
    n_Over_s8_many := He.noat_ok (D.fact 66 (f := .noat "Over" "s8_many") rfl)
    n_Hall_s10_rows := He.noat_ok (D.fact 67 (f := .noat "Hall" "s10_rows") rfl)
    n_Hall_s10_done := He.noat_ok (D.fact 68 (f := .noat "Hall" "s10_done") rfl)
    n_Hall_s10_undone := He.noat_ok (D.fact 69 (f := .noat "Hall" "s10_undone") rfl)
    t_MOST_PEOPLE := t0
    c_MOST_PEOPLE := c0
    t_AGAIN := t1
    c_AGAIN := c1
    t_FEW := t2
    c_FEW := c2
    t_TRUE := t3
    c_TRUE := c3
    t_LETTERS := t4
    c_LETTERS := c4
    t_MOST_LETTERS := t5
    c_MOST_LETTERS := c5
    z_isinstance := He.free_ok X G (D.fact 94 (f := .free "isinstance") rfl)
    z_int := He.free_ok X G (D.fact 95 (f := .free "int") rfl)
    z_bool := He.free_ok X G (D.fact 96 (f := .free "bool") rfl)
    z_tuple := He.free_ok X G (D.fact 97 (f := .free "tuple") rfl)
    z_list := He.free_ok X G (D.fact 98 (f := .free "list") rfl)
    z_str := He.free_ok X G (D.fact 99 (f := .free "str") rfl)
    z_len := He.free_ok X G (D.fact 100 (f := .free "len") rfl)
    z_sum := He.free_ok X G (D.fact 101 (f := .free "sum") rfl)
    z_divmod := He.free_ok X G (D.fact 102 (f := .free "divmod") rfl)
    z_min := He.free_ok X G (D.fact 103 (f := .free "min") rfl)
    z_max := He.free_ok X G (D.fact 104 (f := .free "max") rfl)
    z_abs := He.free_ok X G (D.fact 105 (f := .free "abs") rfl)
    z_range := He.free_ok X G (D.fact 106 (f := .free "range") rfl)
    z_all := He.free_ok X G (D.fact 107 (f := .free "all") rfl)
    z_sorted := He.free_ok X G (D.fact 108 (f := .free "sorted") rfl)
    z_dict := He.free_ok X G (D.fact 109 (f := .free "dict") rfl)
    z_repr := He.free_ok X G (D.fact 110 (f := .free "repr") rfl)
    i1_Spot := He.eqO_ok hi1_Spot
    i2_Spot := of_decide_eq_true hi2_Spot
    i1_Over := He.eqO_ok hi1_Over
    i2_Over := of_decide_eq_true hi2_Over
    i3 := He.eqO_ok hi3
    i4 := of_decide_eq_true hi4
    k_Spot_Spot := of_decide_eq_true hk_Spot_Spot
    k_Spot_Over := of_decide_eq_true hk_Spot_Over
    k_Over_Spot := of_decide_eq_true hk_Over_Spot
    k_Over_Over := of_decide_eq_true hk_Over_Over
  }⟩
section
open PySem.W PySem.Calls
/-- the head done: what is left is the walk -/
theorem holds_of (F : ∀ (w : World) (K : PySem.W.Frag) (h : Heap) (mg : Str → Option Value), K.In h → h.Ns mainGlobals mg → Txt K mg → ∃ (fd : FuncData) (sp : Sp), (∀ (s : Shared) (u : Value), BindsTo s fd ⟨[u], []⟩ [("_law_script", u)]) ∧ (∀ (H : Hp) (a : Addr) (ns : List Int), ns.length ≤ 63 → SqL K H a (ns.map V.int) → sp [.ref a] H (fun v _ => v = .bl true) E0) ∧
    ∀ base : Heap, K.In base → base.Ns mainGlobals mg → FnG (PySem.Challenge.rw_boastrow_k91_whole_halls_and_long_rows).prog w K mg base 29 (He.ga K "law") fd ["_law_script"] sp) : PySem.Challenge.rw_boastrow_k91_whole_halls_and_long_rows.Holds := by
  w_on; o_law
  refine HandSHeadRun.head_any (r := OpenLaw.row PySem.Challenge.rw_boastrow_k91_whole_halls_and_long_rows) (q := view (OpenLaw.row PySem.Challenge.rw_boastrow_k91_whole_halls_and_long_rows).prog [75]) (H := Bo.hk) (ob := Bo.ob) (M := 20000) (loose := Bo.loose) (d := HandSHeadRun.topDef (OpenLaw.row PySem.Challenge.rw_boastrow_k91_whole_halls_and_long_rows).prog 75) (kwd := []) Bo.ob_eq
    (by kernel_rfl) (fun s => by kernel_rfl) Bo.run (by kernel_rfl) (by kernel_rfl) (by kernel_rfl) (by rfl) (by first | assumption | decide +kernel) (by decide +kernel) ⟨rfl, rfl, rfl, rfl, rfl, by decide +kernel⟩ ?hw ?hc
  case hw => w_witness2
  case hc =>
    refine Bo.walkG (l := PySem.Challenge.rw_boastrow_k91_whole_halls_and_long_rows) (n := 63) (k := 29) (x := "_law_script") rfl (by decide) (by kernel_rfl) ⟨rfl, by decide, by decide⟩ ?F
    intro w mg fa h Y G hmg0
    obtain ⟨K, KX, c⟩ := Y
    have hmg : mg ("law" : PySem.Str) = some (.ref fa) := by
      have e : (HandSHeadRun.topDef (OpenLaw.row PySem.Challenge.rw_boastrow_k91_whole_halls_and_long_rows).prog 75).name = ("law" : PySem.Str) := by kernel_rfl
      rw [← e]
      exact hmg0
    obtain ⟨T⟩ := Bo.facts KX G c
    have ef := hmg.symm.trans T.g_law
    cases ef
    obtain ⟨fd, sp, h1, h2, h3⟩ := F w K h mg KX G T
    exact ⟨K, fd, sp, KX, h1, h2, h3⟩
end
set_option maxHeartbeats 4000000
/-! ### readings, step by step: one lemma a word, to be taken from the left -/
section
variable {σ : L2.St} {H : Hp} {Q : VK} {te ta tb : TE} {tc td : TT} {K : PySem.W.Frag}
theorem r_var {i : Nat} {v : V} (h : σ[i]? = some (some v)) (k : Q v H) : tVar i σ H Q := ⟨v, h, k⟩
theorem r_c {v : V} (k : Q v H) : tC v σ H Q := k
theorem r_op {r : R2} (k : ta σ H fun x H1 => tb σ H1 fun y H2 => r x y H2 Q) : tOp r ta tb σ H Q := k
theorem r_un {r : V → Hp → VK → Prop} (k : ta σ H fun x H1 => r x H1 Q) : tUn r ta σ H Q := k
theorem r_I0 {g : Int → Int → V} {i j : Int} (k : Q (g i j) H) : rI0 g (.int i) (.int j) H Q := ⟨i, j, rfl, rfl, k⟩
theorem r_add {i j : Int} (k : Q (.int (i + j)) H) : rI0 (fun i j => .int (i + j)) (.int i) (.int j) H Q := ⟨i, j, rfl, rfl, k⟩
theorem r_sub {i j : Int} (k : Q (.int (i - j)) H) : rI0 (fun i j => .int (i - j)) (.int i) (.int j) H Q := ⟨i, j, rfl, rfl, k⟩
theorem r_lt {i j : Int} (k : Q (.bl (decide (i < j))) H) : rI0 (fun i j => .bl (decide (i < j))) (.int i) (.int j) H Q := ⟨i, j, rfl, rfl, k⟩
theorem r_le {i j : Int} (k : Q (.bl (decide (i ≤ j))) H) : rI0 (fun i j => .bl (decide (i ≤ j))) (.int i) (.int j) H Q := ⟨i, j, rfl, rfl, k⟩
theorem r_gt {i j : Int} (k : Q (.bl (decide (j < i))) H) : rI0 (fun i j => .bl (decide (j < i))) (.int i) (.int j) H Q := ⟨i, j, rfl, rfl, k⟩
theorem r_ge {i j : Int} (k : Q (.bl (decide (j ≤ i))) H) : rI0 (fun i j => .bl (decide (j ≤ i))) (.int i) (.int j) H Q := ⟨i, j, rfl, rfl, k⟩
theorem r_mul {i j : Int} (c : CMulW i j) (k : Q (.int (i * j)) H) : rI CMulW (fun i j => .int (i * j)) (.int i) (.int j) H Q := ⟨i, j, rfl, rfl, c, k⟩
theorem r_fdiv {i j : Int} (c : CDivW i j) (k : Q (.int (i / j)) H) : rI CDivW (fun i j => .int (i / j)) (.int i) (.int j) H Q := ⟨i, j, rfl, rfl, c, k⟩
theorem r_mod {i j : Int} (c : 0 < j) (k : Q (.int (i % j)) H) : rI (fun _ j => 0 < j) (fun i j => .int (i % j)) (.int i) (.int j) H Q := ⟨i, j, rfl, rfl, c, k⟩
theorem r_powW {i j : Int} (c : CPowW i j) (k : Q (.int (i ^ j.toNat)) H) : rI CPowW (fun i j => .int (i ^ j.toNat)) (.int i) (.int j) H Q := ⟨i, j, rfl, rfl, c, k⟩
theorem r_pow {i j : Int} (c : CPow i j) (k : Q (.int (i ^ j.toNat)) H) : rI CPow (fun i j => .int (i ^ j.toNat)) (.int i) (.int j) H Q := ⟨i, j, rfl, rfl, c, k⟩
theorem r_eq {x y : V} (c : scal x y = true) (k : Q (.bl (decide (x = y))) H) : rEq x y H Q := ⟨c, k⟩
theorem r_ne {x y : V} (c : scal x y = true) (k : Q (.bl (!decide (x = y))) H) : rNe x y H Q := ⟨c, k⟩
theorem r_eqI {i j : Int} (k : Q (.bl (decide (i = j))) H) : rEq (.int i) (.int j) H Q := by
  refine ⟨rfl, ?_⟩
  rw [show decide (V.int i = V.int j) = decide (i = j) from decide_eq_decide.mpr ⟨fun z => V.int.inj z, fun z => by rw [z]⟩]
  exact k
theorem r_neI {i j : Int} (k : Q (.bl (!decide (i = j))) H) : rNe (.int i) (.int j) H Q := by
  refine ⟨rfl, ?_⟩
  rw [show decide (V.int i = V.int j) = decide (i = j) from decide_eq_decide.mpr ⟨fun z => V.int.inj z, fun z => by rw [z]⟩]
  exact k
/-- x is None -/
def rNon : R2 := fun x y H Q => y = .non ∧ Q (.bl (decide (x = .non))) H
def rNotNon : R2 := fun x y H Q => y = .non ∧ Q (.bl (!decide (x = .non))) H
theorem op_non {X : Cx} : OpR X (compareOp .Is) rNon := op_isN
theorem op_notnon {X : Cx} : OpR X (compareOp .IsNot) rNotNon := op_notN
theorem r_isN {x : V} (k : Q (.bl (decide (x = .non))) H) : rNon x .non H Q := ⟨rfl, k⟩
theorem r_notN {x : V} (k : Q (.bl (!decide (x = .non))) H) : rNotNon x .non H Q := ⟨rfl, k⟩
/-! attributes -/
def pFld (K : PySem.W.Frag) (f : Str) (x : V) (H : Hp) (Q : VK) : Prop := ∃ a C dx fs v, x = .ref a ∧ H a = some (.ins C dx fs) ∧ Cls K C ∧ NoAttr K C f ∧ fs.lookup f = some v ∧ Q v H
theorem r_fld {f : Str} (k : ta σ H fun x H1 => pFld K f x H1 Q) : tFld K ta f σ H Q := k
theorem p_fld {f : Str} {a C dx : Addr} {fs : List (Str × V)} {v : V} (h : H a = some (.ins C dx fs)) (c : Cls K C) (n : NoAttr K C f) (l : fs.lookup f = some v) (k : Q v H) : pFld K f (.ref a) H Q := ⟨a, C, dx, fs, v, rfl, h, c, n, l, k⟩
/-! tests -/
def pBl (x : V) (H : Hp) (Q : Bool → Hp → Prop) : Prop := ∃ k, x = .bl k ∧ Q k H
theorem p_bl {b : Bool} {Q : Bool → Hp → Prop} (k : Q b H) : pBl (.bl b) H Q := ⟨b, rfl, k⟩
theorem r_yes {Q : Bool → Hp → Prop} (k : Q true H) : tYes σ H Q := k
theorem r_test {Q : Bool → Hp → Prop} (k : te σ H fun x H1 => pBl x H1 Q) : tTest te σ H Q := k
theorem r_B {Q : Bool → Hp → Prop} (k : te σ H fun x H1 => pBl x H1 Q) : tB te σ H Q := k
theorem r_not {Q : Bool → Hp → Prop} (k : tc σ H fun c H1 => Q (!c) H1) : tNot tc σ H Q := k
theorem r_and {Q : Bool → Hp → Prop} (k : tc σ H fun c H1 => if c = true then td σ H1 Q else Q false H1) : tAnd tc td σ H Q := k
theorem r_or {Q : Bool → Hp → Prop} (k : tc σ H fun c H1 => if c = true then Q true H1 else td σ H1 Q) : tOr tc td σ H Q := k
theorem r_andV (k : ta σ H fun x H1 => pBl x H1 fun c H1 => if c = true then tb σ H1 Q else Q (.bl false) H1) : tAndV ta tb σ H Q := k
theorem r_orV (k : ta σ H fun x H1 => pBl x H1 fun c H1 => if c = true then Q (.bl true) H1 else tb σ H1 Q) : tOrV ta tb σ H Q := k
theorem r_notV (k : ta σ H fun x H1 => pBl x H1 fun c H1 => Q (.bl (!c)) H1) : tNotV ta σ H Q := k
theorem r_if (k : tc σ H fun c H1 => if c = true then ta σ H1 Q else tb σ H1 Q) : tIf tc ta tb σ H Q := k
theorem r_chain {r r' : R2} {tx : TE} (k : ta σ H fun x H1 => tb σ H1 fun y H2 => r x y H2 fun z H3 => pBl z H3 fun k H3 => if k = true then tx σ H3 fun w' H4 => r' y w' H4 Q else Q (.bl false) H3) : tChain r r' ta tb tx σ H Q := k
theorem ite_d {p : Prop} [Decidable p] {A B : Prop} (h1 : p → A) (h2 : ¬ p → B) : if decide p = true then A else B := by
  by_cases h : p
  · rw [decide_eq_true h]; exact iteT (h1 h)
  · rw [decide_eq_false h]; exact iteF (h2 h)
theorem ite_n {p : Prop} [Decidable p] {A B : Prop} (h1 : ¬ p → A) (h2 : p → B) : if (!decide p) = true then A else B := by
  by_cases h : p
  · rw [decide_eq_true h]; exact iteF (h2 h)
  · rw [decide_eq_false h]; exact iteT (h1 h)
theorem ite_t {p : Prop} [Decidable p] {A B : Prop} (h : p) (h1 : A) : if decide p = true then A else B := by rw [decide_eq_true h]; exact iteT h1
theorem ite_f {p : Prop} [Decidable p] {A B : Prop} (h : ¬ p) (h1 : B) : if decide p = true then A else B := by rw [decide_eq_false h]; exact iteF h1
theorem ite_nt {p : Prop} [Decidable p] {A B : Prop} (h : ¬ p) (h1 : A) : if (!decide p) = true then A else B := by rw [decide_eq_false h]; exact iteT h1
theorem ite_nf {p : Prop} [Decidable p] {A B : Prop} (h : p) (h1 : B) : if (!decide p) = true then A else B := by rw [decide_eq_true h]; exact iteF h1
/-- two ways to one kind of end -/
theorem ifQ {p : Prop} [Decidable p] (R : V → Hp → Prop) (go : ∀ v H', R v H' → Q v H') (h1 : p → ∀ Q2 : VK, (∀ v H', R v H' → Q2 v H') → ta σ H Q2) (h2 : ¬ p → ∀ Q2 : VK, (∀ v H', R v H' → Q2 v H') → tb σ H Q2) : if decide p = true then ta σ H Q else tb σ H Q :=
  ite_d (fun c => h1 c Q go) fun c => h2 c Q go
/-! arguments, calls, displays -/
variable {t tr : TA} {QA : List V → Hp → Prop}
theorem r_nil (k : QA [] H) : tNil σ H QA := k
theorem r_cons (k : ta σ H fun x H1 => tr σ H1 fun xs H2 => QA (x :: xs) H2) : tCons ta tr σ H QA := k
theorem r_call {sp : Sp} {E : XK} (k : t σ H fun vs H1 => sp vs H1 Q E) : tCall sp [] E t σ H Q := by
  show t σ H fun vs H1 => sp (vs ++ []) H1 Q E
  simpa only [List.append_nil] using k
def pMeth (C : Addr) (m : Str) (x : V) (H : Hp) (k : V → Hp → Prop) : Prop := ∃ a dx fs, x = .ref a ∧ H a = some (.ins C dx fs) ∧ fs.lookup m = none ∧ k (.ref a) H
theorem r_meth {C : Addr} {m : Str} {sp : Sp} {E : XK} (k : ta σ H fun x H1 => pMeth C m x H1 fun y H1 => t σ H1 fun vs H2 => sp (y :: vs) H2 Q E) : tMeth C m sp [] E ta t σ H Q := by
  have e : tMeth C m sp [] E ta t σ H Q = ta σ H fun x H1 => ∃ a dx fs, x = .ref a ∧ H1 a = some (.ins C dx fs) ∧ fs.lookup m = none ∧ t σ H1 fun vs H2 => sp (x :: vs) H2 Q E := by
    unfold tMeth; simp only [List.append_nil]
  rw [e]
  have e2 : (fun (x : V) (H1 : Hp) => ∃ a dx fs, x = .ref a ∧ H1 a = some (.ins C dx fs) ∧ fs.lookup m = none ∧ t σ H1 fun vs H2 => sp (x :: vs) H2 Q E) = fun x H1 => pMeth C m x H1 fun y H1 => t σ H1 fun vs H2 => sp (y :: vs) H2 Q E := by
    funext x H1
    unfold pMeth
    apply propext
    constructor
    · rintro ⟨a, dx, fs, rfl, h1, h2, h3⟩; exact ⟨a, dx, fs, rfl, h1, h2, h3⟩
    · rintro ⟨a, dx, fs, rfl, h1, h2, h3⟩; exact ⟨a, dx, fs, rfl, h1, h2, h3⟩
  rw [e2]
  exact k
theorem p_meth {C a dx : Addr} {m : Str} {fs : List (Str × V)} {k : V → Hp → Prop} (h : H a = some (.ins C dx fs)) (l : fs.lookup m = none) (q : k (.ref a) H) : pMeth C m (.ref a) H k := ⟨a, dx, fs, rfl, h, l, q⟩
/-- a new instance, then __init__ -/
def pMake (C : Addr) (sp : Sp) (E : XK) (vs : List V) (H : Hp) (Q : VK) : Prop := ∀ x dx, H x = none → H dx = none → dx ≠ x → sp (.ref x :: vs) (upd (upd H dx (.own x)) x (.ins C dx [])) (fun v H2 => v = .non ∧ Q (.ref x) H2) E
theorem r_make {C : Addr} {sp : Sp} {E : XK} (k : t σ H fun vs H1 => pMake C sp E vs H1 Q) : tMake C sp [] E t σ H Q := by
  have e : tMake C sp [] E t σ H Q = t σ H fun vs H1 => pMake C sp E vs H1 Q := by unfold tMake pMake; simp only [List.append_nil]
  rw [e]; exact k
theorem r_CB {r : List V → Hp → VK → Prop} (k : t σ H fun vs H1 => r vs H1 Q) : tCB r t σ H Q := k
def pNew (f : List V → HO) (xs : List V) (H : Hp) (Q : VK) : Prop := xs.length ≤ sizeLine ∧ ∀ p, H p = none → Q (.ref p) (upd H p (f xs))
theorem r_lst (k : t σ H fun xs H1 => pNew .lst xs H1 Q) : tLst t σ H Q := k
theorem r_tup (k : t σ H fun xs H1 => pNew .tup xs H1 Q) : tTup t σ H Q := k
theorem p_new {f : List V → HO} {xs : List V} (l : xs.length ≤ sizeLine) (k : ∀ p, H p = none → Q (.ref p) (upd H p (f xs))) : pNew f xs H Q := ⟨l, k⟩
def pBM (K : PySem.W.Frag) (T : String) (x : V) (H : Hp) (k : Prop) : Prop := tyV K T x H ∧ k
theorem r_BM {T : String} {r : V → List V → Hp → VK → Prop} (k : ta σ H fun x H1 => pBM K T x H1 (t σ H1 fun xs H2 => r x xs H2 Q)) : tBM K T r ta t σ H Q := k
theorem r_BM0 {T : String} {r : V → List V → Hp → VK → Prop} (k : ta σ H fun x H1 => pBM K T x H1 (r x [] H1 Q)) : tBM0 K T r ta σ H Q := k
theorem p_bmL {l : Addr} {xs : List V} {k : Prop} (h : H l = some (.lst xs)) (q : k) : pBM K "list" (.ref l) H k := ⟨.inl ⟨rfl, xs, SqL.of h⟩, q⟩
theorem r_append {l : Addr} {xs : List V} {y : V} (h : H l = some (.lst xs)) (z : xs.length < sizeLine) (k : Q .non (upd H l (.lst (xs ++ [y])))) : rAppend (.ref l) [y] H Q := ⟨l, xs, y, rfl, rfl, h, z, k⟩
theorem r_extend {l b : Addr} {xs ys : List V} (h : H l = some (.lst xs)) (h2 : H b = some (.lst ys)) (z : xs.length + ys.length ≤ sizeLine) (k : Q .non (upd H l (.lst (xs ++ ys)))) : rExtend (.ref l) [.ref b] H Q := ⟨l, b, xs, ys, rfl, rfl, h, h2, z, k⟩
theorem r_ixL {p : Addr} {xs : List V} {i : Int} {v : V} (h : H p = some (.lst xs)) (a : atI xs i = some v) (k : Q v H) : rIxL K (.ref p) (.int i) H Q := ⟨p, xs, i, v, rfl, rfl, SqL.of h, a, k⟩
theorem r_ixT {p : Addr} {xs : List V} {i : Int} {v : V} (h : H p = some (.tup xs)) (a : atI xs i = some v) (k : Q v H) : rIxT K (.ref p) (.int i) H Q := ⟨p, xs, i, v, rfl, rfl, SqT.of h, a, k⟩
def pRev (K : PySem.W.Frag) (x : V) (H : Hp) (Q : VK) : Prop := ∃ a xs, x = .ref a ∧ SqL K H a xs ∧ ∀ p, H p = none → Q (.ref p) (upd H p (.lst xs.reverse))
theorem r_rev (k : te σ H fun x H1 => pRev K x H1 Q) : tRevL K te σ H Q := k
theorem p_rev {a : Addr} {xs : List V} (h : H a = some (.lst xs)) (k : ∀ p, H p = none → Q (.ref p) (upd H p (.lst xs.reverse))) : pRev K (.ref a) H Q := ⟨a, xs, rfl, SqL.of h, k⟩
/-! statements -/
variable {n b c : L2.St → Hp → Prop} {r : VK} {ts tu : TS} {g : TG}
theorem r_seq (k : ts ⟨tu ⟨n, r, b, c⟩, r, b, c⟩ σ H) : tSeq ts tu ⟨n, r, b, c⟩ σ H := k
theorem r_next (k : n σ H) : tNext ⟨n, r, b, c⟩ σ H := k
theorem r_asg {i : Nat} (k : te σ H fun x H1 => n (σ.set i (some x)) H1) : tAsg te (gName i) ⟨n, r, b, c⟩ σ H := k
theorem r_asgG (k : te σ H fun x H1 => g x σ H1 n) : tAsg te g ⟨n, r, b, c⟩ σ H := k
theorem r_drop (k : te σ H fun _ H1 => n σ H1) : tDrop te ⟨n, r, b, c⟩ σ H := k
theorem r_ret (k : te σ H r) : tRet te ⟨n, r, b, c⟩ σ H := k
theorem r_ifS (k : tc σ H fun q H1 => if q = true then ts ⟨n, r, b, c⟩ σ H1 else tu ⟨n, r, b, c⟩ σ H1) : tIfS tc ts tu ⟨n, r, b, c⟩ σ H := k
def pAug (i : Nat) (te : TE) (ti : TIp) (σ : L2.St) (H : Hp) (n : L2.St → Hp → Prop) : Prop := ∃ x, σ[i]? = some (some x) ∧ te σ H fun y H1 => ti x y H1 fun z H2 => n (σ.set i (some z)) H2
theorem r_augI {i : Nat} {f : Int → Int → Int} {x : Int} (h : σ[i]? = some (some (.int x))) (k : te σ H fun y H1 => ipI f (.int x) y H1 fun z H2 => n (σ.set i (some z)) H2) : tAug i te (ipI f) ⟨n, r, b, c⟩ σ H := ⟨_, h, k⟩
theorem r_ip {f : Int → Int → Int} {x y : Int} (k : Q (.int (f x y)) H) : ipI f (.int x) (.int y) H Q := ⟨x, y, rfl, rfl, k⟩
def pSet (K : PySem.W.Frag) (f : Str) (x y : V) (H : Hp) (n : Hp → Prop) : Prop := ∃ a C dx fs, x = .ref a ∧ H a = some (.ins C dx fs) ∧ Cls K C ∧ NoAttr K C f ∧ fs.length < 1000 ∧ n (upd H a (.ins C dx (putF f y fs)))
theorem r_sFld {tv : TE} {f : Str} (k : tv σ H fun y H1 => ta σ H1 fun x H2 => pSet K f x y H2 fun H3 => n σ H3) : sFld K ta tv f ⟨n, r, b, c⟩ σ H := k
theorem p_set {f : Str} {a C dx : Addr} {fs : List (Str × V)} {y : V} {n : Hp → Prop} (h : H a = some (.ins C dx fs)) (q : Cls K C) (m : NoAttr K C f) (l : fs.length < 1000) (k : n (upd H a (.ins C dx (putF f y fs)))) : pSet K f (.ref a) y H n := ⟨a, C, dx, fs, rfl, h, q, m, l, k⟩
/-! targets -/
variable {QG : L2.St → Hp → Prop} {gs : TGs}
theorem r_gName {i : Nat} {v : V} (k : QG (σ.set i (some v)) H) : gName i v σ H QG := k
theorem r_gTup {m : Nat} {a : Addr} {xs : List V} (h : H a = some (.tup xs)) (l : xs.length = m) (k : gs xs σ H QG) : gTup K m gs (.ref a) σ H QG := ⟨a, xs, rfl, SqT.of h, l, k⟩
theorem r_gCons {v : V} {vs : List V} (k : g v σ H fun σ' H' => gs vs σ' H' QG) : gCons g gs (v :: vs) σ H QG := ⟨v, vs, rfl, k⟩
theorem r_gNil (k : QG σ H) : gNil [] σ H QG := ⟨rfl, k⟩
/-! loops -/
def pFor (J : It) (g : TG) (tb : TS) (n b c : L2.St → Hp → Prop) (r : VK) (σ : L2.St) (H : Hp) : Prop := ∃ W : Nat → Nat → L2.St → Hp → Prop, (∃ m, W 0 m σ H) ∧ ∀ i m σ H, W i m σ H →
  (J.stop i H ∧ n σ H) ∨ (J.go i H ∧ ∃ N : L2.St → Hp → Prop, (∀ σ' H', N σ' H' → ∃ m', m' < m ∧ W (i + 1) m' σ' H') ∧ ∀ x H', J.yld i H x H' → g x σ H' fun σ2 H2 => tb ⟨N, r, n, N⟩ σ2 H2)
def pForL (K : PySem.W.Frag) (g : TG) (tb : TS) (n b c : L2.St → Hp → Prop) (r : VK) (σ : L2.St) (x : V) (H : Hp) : Prop := ∃ a, x = .ref a ∧ (∃ xs, SqL K H a xs) ∧ pFor (Itl K a) g tb n b c r σ H
theorem r_forL {tl : TE} {tb : TS} (k : tl σ H fun x H1 => pForL K g tb n b c r σ x H1) : tFor (iList K tl) g tb ⟨n, r, b, c⟩ σ H := k
theorem p_forL {a : Addr} {xs : List V} {tb : TS} (h : H a = some (.lst xs)) (Pv : Nat → L2.St → Hp → Prop) (h0 : Pv 0 σ H) (hl : ∀ i σ H, i ≤ xs.length → Pv i σ H → H a = some (.lst xs))
    (hs : ∀ i x σ H, xs[i]? = some x → Pv i σ H → g x σ H fun σ2 H2 => tb ⟨Pv (i + 1), r, n, Pv (i + 1)⟩ σ2 H2) (hd : ∀ σ H, Pv xs.length σ H → n σ H) : pForL K g tb n b c r σ (.ref a) H :=
  ⟨a, rfl, ⟨xs, SqL.of h⟩, for_list (D := ⟨n, r, b, c⟩) Pv h0 (fun i σ H hi p => SqL.of (hl i σ H hi p)) hs hd⟩
def pForR (g : TG) (tb : TS) (n b c : L2.St → Hp → Prop) (r : VK) (σ : L2.St) (vs : List V) (H : Hp) : Prop := ∃ j : Int, vs = [.int j] ∧ -(2 ^ 62) ≤ j ∧ j < 2 ^ 62 ∧ pFor (Itr 0 j.toNat) g tb n b c r σ H
theorem r_forR {tb : TS} (k : t σ H fun vs H1 => pForR g tb n b c r σ vs H1) : tFor (iRng1 t) g tb ⟨n, r, b, c⟩ σ H := k
theorem p_forR {j : Nat} {tb : TS} (hj : j < 2 ^ 62) (Pv : Nat → L2.St → Hp → Prop) (h0 : Pv 0 σ H)
    (hs : ∀ (i : Nat) σ H, i < j → Pv i σ H → g (.int i) σ H fun σ2 H2 => tb ⟨Pv (i + 1), r, n, Pv (i + 1)⟩ σ2 H2) (hd : ∀ σ H, Pv j σ H → n σ H) : pForR g tb n b c r σ [.int (j : Nat)] H := by
  refine ⟨j, rfl, by omega, by omega, ?_⟩
  rw [Int.toNat_natCast]
  refine for_range (D := ⟨n, r, b, c⟩) Pv h0 (fun i σ H hi p => ?_) hd
  rw [Int.zero_add]
  exact hs i σ H hi p
theorem r_while {tb : TS} (Pv : Nat → L2.St → Hp → Prop) (m : Nat) (h0 : Pv m σ H)
    (hs : ∀ m σ H, Pv m σ H → tc σ H fun q H1 => if q = true then ∃ N : L2.St → Hp → Prop, (∀ σ' H', N σ' H' → ∃ m', m' < m ∧ Pv m' σ' H') ∧ tb ⟨N, r, n, N⟩ σ H1 else n σ H1) : tWhile tc tb ⟨n, r, b, c⟩ σ H := ⟨Pv, ⟨m, h0⟩, hs⟩
theorem r_lock {d : Addr} {u : HO} (h : H d = some u) (m : Mut (some u)) (k : ∀ od, ts ⟨fun σ' H' => H' d = some (.frz od u) ∧ n σ' (upd H' d u), fun v H' => H' d = some (.frz od u) ∧ r v (upd H' d u), fun σ' H' => H' d = some (.frz od u) ∧ b σ' (upd H' d u),
    fun σ' H' => H' d = some (.frz od u) ∧ c σ' (upd H' d u)⟩ σ (upd H d (.frz od u))) : tLock ts ⟨n, r, b, c⟩ σ H := ⟨d, u, h, m, k⟩
end
/-! built-in functions, by names of their readings -/
def rLenS (K : PySem.W.Frag) : List V → Hp → VK → Prop := fun xs H Q => ∃ p ys, xs = [.ref p] ∧ (SqL K H p ys ∨ SqT K H p ys) ∧ Q (.int ys.length) H
def rLenD : List V → Hp → VK → Prop := fun xs H Q => ∃ a kvs, xs = [V.ref a] ∧ H a = some (.dK kvs) ∧ Q (.int kvs.length) H
def rLenStr : List V → Hp → VK → Prop := fun xs H Q => ∃ z, xs = [.str z] ∧ z.length ≤ sizeLine ∧ Q (.int z.length) H
def rDivmod : List V → Hp → VK → Prop := fun xs H Q => ∃ i j, xs = [.int i, .int j] ∧ CDivP i j ∧ ∀ p, H p = none → Q (.ref p) (upd H p (.tup [.int (i / j), .int (i % j)]))
def rMin2 : List V → Hp → VK → Prop := fun xs H Q => ∃ i j, xs = [.int i, .int j] ∧ Q (.int (if j < i then j else i)) H
def rMax2 : List V → Hp → VK → Prop := fun xs H Q => ∃ i j, xs = [.int i, .int j] ∧ Q (.int (if j > i then j else i)) H
def rAbs1 : List V → Hp → VK → Prop := fun xs H Q => ∃ i, xs = [.int i] ∧ Q (.int (if i < 0 then -i else i)) H
def rDictOf : List V → Hp → VK → Prop := fun xs H Q => ∃ a kvs, xs = [V.ref a] ∧ Rd H a (.dK kvs) ∧ ∀ p, H p = none → Q (.ref p) (upd H p (.dK kvs))
section
variable {X : Cx} {H : Hp} {Q : VK} {K : PySem.W.Frag}
theorem call_lenS : CallR X (.builtin "len") (rLenS X.K) := call_len_seq
theorem call_lenDD : CallR X (.builtin "len") rLenD := call_lenD
theorem call_lenStr : CallR X (.builtin "len") rLenStr := call_len_str
theorem call_divm : CallR X (.builtin "divmod") rDivmod := call_divmodW
theorem call_minN (hc : X.calm = true) : CallR X (.builtin "min") rMin2 := call_min2 hc
theorem call_maxN (hc : X.calm = true) : CallR X (.builtin "max") rMax2 := call_max2 hc
theorem call_absN : CallR X (.builtin "abs") rAbs1 := call_abs
theorem call_dictN : CallR X (.type "dict") rDictOf := call_dictOf
theorem len_tup {a : Addr} {xs : List V} (e : H a = some (.tup xs)) (q : Q (.int xs.length) H) : rLenS K [.ref a] H Q := ⟨a, xs, rfl, .inr (SqT.of e), q⟩
theorem len_lst {a : Addr} {xs : List V} (e : H a = some (.lst xs)) (q : Q (.int xs.length) H) : rLenS K [.ref a] H Q := ⟨a, xs, rfl, .inl (SqL.of e), q⟩
theorem len_dct {a : Addr} {kvs : List (Key × V)} (e : H a = some (.dK kvs)) (q : Q (.int kvs.length) H) : rLenD [.ref a] H Q := ⟨a, kvs, rfl, e, q⟩
theorem r_min {i j : Int} (q : Q (.int (if j < i then j else i)) H) : rMin2 [.int i, .int j] H Q := ⟨i, j, rfl, q⟩
theorem r_max {i j : Int} (q : Q (.int (if j > i then j else i)) H) : rMax2 [.int i, .int j] H Q := ⟨i, j, rfl, q⟩
theorem r_abs {i : Int} (q : Q (.int (if i < 0 then -i else i)) H) : rAbs1 [.int i] H Q := ⟨i, rfl, q⟩
theorem r_divm {i j : Int} (c : CDivP i j) (q : ∀ p, H p = none → Q (.ref p) (upd H p (.tup [.int (i / j), .int (i % j)]))) : rDivmod [.int i, .int j] H Q := ⟨i, j, rfl, c, q⟩
theorem r_dictOf {a : Addr} {kvs : List (Key × V)} (e : H a = some (.dK kvs)) (q : ∀ p, H p = none → Q (.ref p) (upd H p (.dK kvs))) : rDictOf [.ref a] H Q := ⟨a, kvs, rfl, .inl e, q⟩
end
/-! the built-ins' names -/
theorem bt_isinstance : bootBuiltins "isinstance" = some (.builtin "isinstance") := by decide +kernel
theorem bt_len : bootBuiltins "len" = some (.builtin "len") := by decide +kernel
theorem bt_sum : bootBuiltins "sum" = some (.builtin "sum") := by decide +kernel
theorem bt_divmod : bootBuiltins "divmod" = some (.builtin "divmod") := by decide +kernel
theorem bt_min : bootBuiltins "min" = some (.builtin "min") := by decide +kernel
theorem bt_max : bootBuiltins "max" = some (.builtin "max") := by decide +kernel
theorem bt_abs : bootBuiltins "abs" = some (.builtin "abs") := by decide +kernel
theorem bt_all : bootBuiltins "all" = some (.builtin "all") := by decide +kernel
theorem bt_sorted : bootBuiltins "sorted" = some (.builtin "sorted") := by decide +kernel
theorem bt_repr : bootBuiltins "repr" = some (.builtin "repr") := by decide +kernel
theorem bt_int : bootBuiltins "int" = some (.type "int") := by decide +kernel
theorem bt_bool : bootBuiltins "bool" = some (.type "bool") := by decide +kernel
theorem bt_str : bootBuiltins "str" = some (.type "str") := by decide +kernel
theorem bt_list : bootBuiltins "list" = some (.type "list") := by decide +kernel
theorem bt_tuple : bootBuiltins "tuple" = some (.type "tuple") := by decide +kernel
theorem bt_dict : bootBuiltins "dict" = some (.type "dict") := by decide +kernel
/-! ### parts of a long row as data -/
abbrev Sg := Int × Option Int
inductive Pt where
  | spot (s : Sg) (n : Int)
  | over (t : Int) (ps : List Pt)
mutual
def Pt.many : Pt → Int
  | .spot _ _ => 1
  | .over t ps => t * manys ps
def manys : List Pt → Int
  | [] => 0
  | p :: r => p.many + manys r
end
/-- a bound of all numbers in parts -/
def BB : Int := 10000000000000000000000000000000
theorem BB_pos : 1 ≤ BB := by decide
def sgOk (s : Sg) : Prop := 0 ≤ s.1 ∧ s.1 ≤ BB ∧ ∀ m, s.2 = some m → s.1 ≤ m ∧ m ≤ BB
mutual
def Pt.ok : Pt → Prop
  | .spot s _ => sgOk s
  | .over t ps => 0 ≤ t ∧ t ≤ BB ∧ manys ps ≤ BB ∧ oks ps
def oks : List Pt → Prop
  | [] => True
  | p :: r => p.ok ∧ oks r
end
mutual
def Pt.dp : Pt → Nat
  | .spot _ _ => 0
  | .over _ ps => dps ps + 1
def dps : List Pt → Nat
  | [] => 0
  | p :: r => max p.dp (dps r)
end
mutual
def Pt.wt : Pt → Nat
  | .spot _ _ => 1
  | .over _ ps => 3 * wts ps + 1
def wts : List Pt → Nat
  | [] => 0
  | p :: r => p.wt + wts r
end
mutual
def Pt.ba : Pt → Pt
  | .spot s _ => .spot s 0
  | .over t ps => .over t (bas ps)
def bas : List Pt → List Pt
  | [] => []
  | p :: r => p.ba :: bas r
end
mutual
def Pt.kn : Pt → List Int
  | .spot _ n => [n]
  | .over _ ps => kns ps
def kns : List Pt → List Int
  | [] => []
  | p :: r => p.kn ++ kns r
end
theorem manys_app : ∀ a b : List Pt, manys (a ++ b) = manys a + manys b
  | [], b => by show manys b = manys [] + manys b; rw [manys]; omega
  | p :: r, b => by show manys (p :: (r ++ b)) = _; rw [manys, manys, manys_app r b]; omega
theorem oks_app : ∀ a b : List Pt, oks (a ++ b) ↔ oks a ∧ oks b
  | [], b => by show oks b ↔ _; rw [oks]; simp
  | p :: r, b => by show oks (p :: (r ++ b)) ↔ _; rw [oks, oks, oks_app r b]; exact and_assoc.symm
theorem dps_app : ∀ a b : List Pt, dps (a ++ b) = max (dps a) (dps b)
  | [], b => by show dps b = _; rw [dps]; omega
  | p :: r, b => by show dps (p :: (r ++ b)) = _; rw [dps, dps, dps_app r b]; omega
theorem wts_app : ∀ a b : List Pt, wts (a ++ b) = wts a + wts b
  | [], b => by show wts b = _; rw [wts]; omega
  | p :: r, b => by show wts (p :: (r ++ b)) = _; rw [wts, wts, wts_app r b]; omega
theorem bas_app : ∀ a b : List Pt, bas (a ++ b) = bas a ++ bas b
  | [], b => by show bas b = _; rw [bas]; rfl
  | p :: r, b => by show bas (p :: (r ++ b)) = _; rw [bas, bas, bas_app r b]; rfl
theorem kns_app : ∀ a b : List Pt, kns (a ++ b) = kns a ++ kns b
  | [], b => by show kns b = _; rw [kns]; rfl
  | p :: r, b => by show kns (p :: (r ++ b)) = _; rw [kns, kns, kns_app r b, List.append_assoc]
theorem wt_pos : ∀ p : Pt, 1 ≤ p.wt
  | .spot _ _ => by rw [Pt.wt]; omega
  | .over _ _ => by rw [Pt.wt]; omega
theorem len_le_wts : ∀ ps : List Pt, ps.length ≤ wts ps
  | [] => by rw [wts]; exact Nat.le_refl _
  | p :: r => by rw [wts, List.length_cons]; have := len_le_wts r; have := wt_pos p; omega
mutual
theorem Pt.many_nn : ∀ p : Pt, p.ok → 0 ≤ p.many
  | .spot _ _, _ => by rw [Pt.many]; omega
  | .over t ps, h => by
    rw [Pt.many]; rw [Pt.ok] at h
    exact Int.mul_nonneg h.1 (manys_nn ps h.2.2.2)
theorem manys_nn : ∀ ps : List Pt, oks ps → 0 ≤ manys ps
  | [], _ => by rw [manys]; omega
  | p :: r, h => by
    rw [manys]; rw [oks] at h
    have h1 := p.many_nn h.1
    have h2 := manys_nn r h.2
    omega
end
/-! ### numbers left out -/
mutual
theorem Pt.many_ba : ∀ p : Pt, p.ba.many = p.many
  | .spot _ _ => by rw [Pt.ba, Pt.many, Pt.many]
  | .over t ps => by rw [Pt.ba, Pt.many, Pt.many, manys_ba ps]
theorem manys_ba : ∀ ps : List Pt, manys (bas ps) = manys ps
  | [] => by rw [bas]
  | p :: r => by rw [bas, manys, manys, p.many_ba, manys_ba r]
end
mutual
theorem Pt.ok_ba : ∀ p : Pt, p.ba.ok ↔ p.ok
  | .spot _ _ => by rw [Pt.ba, Pt.ok, Pt.ok]
  | .over t ps => by rw [Pt.ba, Pt.ok, Pt.ok, oks_ba ps, manys_ba ps]
theorem oks_ba : ∀ ps : List Pt, oks (bas ps) ↔ oks ps
  | [] => by rw [bas]
  | p :: r => by rw [bas, oks, oks, p.ok_ba, oks_ba r]
end
mutual
theorem Pt.dp_ba : ∀ p : Pt, p.ba.dp = p.dp
  | .spot _ _ => by rw [Pt.ba, Pt.dp, Pt.dp]
  | .over t ps => by rw [Pt.ba, Pt.dp, Pt.dp, dps_ba ps]
theorem dps_ba : ∀ ps : List Pt, dps (bas ps) = dps ps
  | [] => by rw [bas]
  | p :: r => by rw [bas, dps, dps, p.dp_ba, dps_ba r]
end
mutual
theorem Pt.wt_ba : ∀ p : Pt, p.ba.wt = p.wt
  | .spot _ _ => by rw [Pt.ba, Pt.wt, Pt.wt]
  | .over t ps => by rw [Pt.ba, Pt.wt, Pt.wt, wts_ba ps]
theorem wts_ba : ∀ ps : List Pt, wts (bas ps) = wts ps
  | [] => by rw [bas]
  | p :: r => by rw [bas, wts, wts, p.wt_ba, wts_ba r]
end
mutual
theorem Pt.ba_ba : ∀ p : Pt, p.ba.ba = p.ba
  | .spot _ _ => by rw [Pt.ba, Pt.ba]
  | .over t ps => by rw [Pt.ba, Pt.ba, bas_ba ps]
theorem bas_ba : ∀ ps : List Pt, bas (bas ps) = bas ps
  | [] => by rw [bas, bas]
  | p :: r => by rw [bas, bas, p.ba_ba, bas_ba r]
end
theorem bas_len : ∀ ps : List Pt, (bas ps).length = ps.length
  | [] => by rw [bas]
  | p :: r => by rw [bas, List.length_cons, List.length_cons, bas_len r]
/-! ### numbering -/
mutual
def Pt.num : Pt → Int → Pt × Int
  | .spot s _, k => (.spot s k, k + 1)
  | .over t ps, k => (.over t (nums ps k).1, (nums ps k).2)
def nums : List Pt → Int → List Pt × Int
  | [], k => ([], k)
  | p :: r, k => ((p.num k).1 :: (nums r (p.num k).2).1, (nums r (p.num k).2).2)
end
mutual
theorem Pt.ba_num : ∀ (p : Pt) (k : Int), (p.num k).1.ba = p.ba
  | .spot _ _, k => by rw [Pt.num, Pt.ba, Pt.ba]
  | .over t ps, k => by rw [Pt.num, Pt.ba, Pt.ba, bas_num ps k]
theorem bas_num : ∀ (ps : List Pt) (k : Int), bas (nums ps k).1 = bas ps
  | [], k => by rw [nums]
  | p :: r, k => by rw [nums, bas, bas, p.ba_num k, bas_num r]
end
/-- k, k + 1, .. (n of them) -/
def rg : Int → Nat → List Int
  | _, 0 => []
  | k, n + 1 => k :: rg (k + 1) n
theorem rg_add : ∀ (n m : Nat) (k : Int), rg k (n + m) = rg k n ++ rg (k + n) m
  | 0, m, k => by rw [Nat.zero_add, rg]; simp
  | n + 1, m, k => by
    rw [show n + 1 + m = (n + m) + 1 by omega, rg, rg, rg_add n m (k + 1)]
    show k :: (_ ++ _) = k :: (_ ++ _)
    rw [show k + 1 + (n : Int) = k + ((n + 1 : Nat) : Int) by omega]
theorem mem_rg : ∀ (n : Nat) (k x : Int), x ∈ rg k n ↔ k ≤ x ∧ x < k + n
  | 0, k, x => by rw [rg]; constructor
                  · intro h; cases h
                  · intro h; omega
  | n + 1, k, x => by
    rw [rg, List.mem_cons, mem_rg n (k + 1) x]
    constructor
    · rintro (h | h) <;> omega
    · intro h
      by_cases e : x = k
      · exact .inl e
      · exact .inr (by omega)
theorem nd_rg : ∀ (n : Nat) (k : Int), (rg k n).Nodup
  | 0, k => by rw [rg]; exact List.nodup_nil
  | n + 1, k => by
    rw [rg]
    refine List.nodup_cons.mpr ⟨fun h => ?_, nd_rg n _⟩
    have := (mem_rg n (k + 1) k).mp h
    omega
theorem len_rg : ∀ (n : Nat) (k : Int), (rg k n).length = n
  | 0, k => by rw [rg]; rfl
  | n + 1, k => by rw [rg, List.length_cons, len_rg n]
mutual
theorem Pt.kn_num : ∀ (p : Pt) (k : Int), ∃ n : Nat, (p.num k).1.kn = rg k n ∧ (p.num k).2 = k + n
  | .spot _ _, k => ⟨1, by rw [Pt.num, Pt.kn, rg, rg], by rw [Pt.num]; rfl⟩
  | .over t ps, k => by
    obtain ⟨n, h1, h2⟩ := kns_num ps k
    exact ⟨n, by rw [Pt.num, Pt.kn]; exact h1, by rw [Pt.num]; exact h2⟩
theorem kns_num : ∀ (ps : List Pt) (k : Int), ∃ n : Nat, kns (nums ps k).1 = rg k n ∧ (nums ps k).2 = k + n
  | [], k => ⟨0, by rw [nums, kns, rg], by rw [nums]; simp⟩
  | p :: r, k => by
    obtain ⟨n, h1, h2⟩ := p.kn_num k
    obtain ⟨m, h3, h4⟩ := kns_num r (p.num k).2
    refine ⟨n + m, ?_, ?_⟩
    · rw [nums, kns, h1, h3, h2, rg_add]
    · rw [nums]
      show (nums r (p.num k).2).2 = _
      rw [h4, h2]
      omega
end
theorem len_kns_le : ∀ ps : List Pt, (kns ps).length ≤ wts ps := by
  have go : (∀ p : Pt, p.kn.length ≤ p.wt) ∧ True := by
    refine ⟨?_, trivial⟩
    intro p
    induction p using Pt.rec (motive_2 := fun ps => (kns ps).length ≤ wts ps) with
    | spot s n => rw [Pt.kn, Pt.wt]; exact Nat.le_refl _
    | over t ps ih => rw [Pt.kn, Pt.wt]; omega
    | nil => rw [kns, wts]; exact Nat.le_refl _
    | cons p r h1 h2 => rw [kns, wts, List.length_append]; omega
  intro ps
  induction ps with
  | nil => rw [kns, wts]; exact Nat.le_refl _
  | cons p r ih => rw [kns, wts, List.length_append]; have := go.1 p; omega
/-! ### who stands at a place -/
mutual
def Pt.sa : Pt → Int → Option Sg
  | .spot s _, _ => some s
  | .over _ ps, x => sas ps (x % manys ps)
def sas : List Pt → Int → Option Sg
  | [], _ => none
  | p :: r, x => if p.many ≤ x then sas r (x - p.many) else p.sa x
end
mutual
theorem Pt.sa_ba : ∀ (p : Pt) (x : Int), p.ba.sa x = p.sa x
  | .spot _ _, x => by rw [Pt.ba, Pt.sa, Pt.sa]
  | .over t ps, x => by rw [Pt.ba, Pt.sa, Pt.sa, sas_ba ps, manys_ba]
theorem sas_ba : ∀ (ps : List Pt) (x : Int), sas (bas ps) x = sas ps x
  | [], x => by rw [bas]
  | p :: r, x => by rw [bas, sas, sas, p.sa_ba x, sas_ba r, p.many_ba]
end
theorem once_pos {t : Int} {ps : List Pt} {x : Int} (h : (Pt.over t ps).ok) (h0 : 0 ≤ x) (h1 : x < (Pt.over t ps).many) : 0 < manys ps ∧ 0 < t := by
  rw [Pt.ok] at h
  rw [Pt.many] at h1
  have hm := manys_nn ps h.2.2.2
  rcases Int.lt_or_le 0 (manys ps) with a | a
  · refine ⟨a, ?_⟩
    rcases Int.lt_or_le 0 t with b | b
    · exact b
    · have e : t = 0 := by omega
      rw [e, Int.zero_mul] at h1
      omega
  · have e : manys ps = 0 := by omega
    rw [e, Int.mul_zero] at h1
    omega
mutual
theorem Pt.sa_some : ∀ (p : Pt) (x : Int), p.ok → 0 ≤ x → x < p.many → ∃ s, p.sa x = some s ∧ sgOk s
  | .spot s _, x, h, _, _ => by rw [Pt.ok] at h; exact ⟨s, by rw [Pt.sa], h⟩
  | .over t ps, x, h, h0, h1 => by
    have hp := (once_pos h h0 h1).1
    rw [Pt.ok] at h
    rw [Pt.sa]
    exact sas_some ps _ h.2.2.2 (Int.emod_nonneg _ (by omega)) (Int.emod_lt_of_pos _ hp)
theorem sas_some : ∀ (ps : List Pt) (x : Int), oks ps → 0 ≤ x → x < manys ps → ∃ s, sas ps x = some s ∧ sgOk s
  | [], x, _, h0, h1 => by rw [manys] at h1; omega
  | p :: r, x, h, h0, h1 => by
    rw [oks] at h
    rw [manys] at h1
    rw [sas]
    by_cases c : p.many ≤ x
    · rw [if_pos c]
      exact sas_some r _ h.2 (by omega) (by omega)
    · rw [if_neg c]
      exact p.sa_some x h.1 h0 (by omega)
end
/-! ### turned about -/
mutual
def Pt.ab : Pt → Pt
  | .spot s n => .spot s n
  | .over t ps => .over t (abs_ ps)
def abs_ : List Pt → List Pt
  | [] => []
  | p :: r => abs_ r ++ [p.ab]
end
theorem manys_one (p : Pt) : manys [p] = p.many := by rw [manys, manys]; omega
theorem oks_one (p : Pt) : oks [p] ↔ p.ok := by rw [oks, oks]; simp
theorem dps_one (p : Pt) : dps [p] = p.dp := by rw [dps, dps]; omega
theorem wts_one (p : Pt) : wts [p] = p.wt := by rw [wts, wts]; omega
theorem bas_one (p : Pt) : bas [p] = [p.ba] := by rw [bas, bas]
mutual
theorem Pt.many_ab : ∀ p : Pt, p.ab.many = p.many
  | .spot _ _ => by rw [Pt.ab]
  | .over t ps => by rw [Pt.ab, Pt.many, Pt.many, manys_ab ps]
theorem manys_ab : ∀ ps : List Pt, manys (abs_ ps) = manys ps
  | [] => by rw [abs_]
  | p :: r => by rw [abs_, manys, manys_app, manys_one, p.many_ab, manys_ab r]; omega
end
mutual
theorem Pt.ok_ab : ∀ p : Pt, p.ab.ok ↔ p.ok
  | .spot _ _ => by rw [Pt.ab]
  | .over t ps => by rw [Pt.ab, Pt.ok, Pt.ok, manys_ab ps, oks_ab ps]
theorem oks_ab : ∀ ps : List Pt, oks (abs_ ps) ↔ oks ps
  | [] => by rw [abs_]
  | p :: r => by rw [abs_, oks, oks_app, oks_one, p.ok_ab, oks_ab r]; exact and_comm
end
mutual
theorem Pt.dp_ab : ∀ p : Pt, p.ab.dp = p.dp
  | .spot _ _ => by rw [Pt.ab]
  | .over t ps => by rw [Pt.ab, Pt.dp, Pt.dp, dps_ab ps]
theorem dps_ab : ∀ ps : List Pt, dps (abs_ ps) = dps ps
  | [] => by rw [abs_]
  | p :: r => by rw [abs_, dps, dps_app, dps_one, p.dp_ab, dps_ab r]; omega
end
mutual
theorem Pt.wt_ab : ∀ p : Pt, p.ab.wt = p.wt
  | .spot _ _ => by rw [Pt.ab]
  | .over t ps => by rw [Pt.ab, Pt.wt, Pt.wt, wts_ab ps]
theorem wts_ab : ∀ ps : List Pt, wts (abs_ ps) = wts ps
  | [] => by rw [abs_]
  | p :: r => by rw [abs_, wts, wts_app, wts_one, p.wt_ab, wts_ab r]; omega
end
theorem sas_cons (p : Pt) (r : List Pt) (x : Int) : sas (p :: r) x = if p.many ≤ x then sas r (x - p.many) else p.sa x := by rw [sas]
theorem sas_app : ∀ (a b : List Pt) (x : Int), oks a → 0 ≤ x → sas (a ++ b) x = if x < manys a then sas a x else sas b (x - manys a)
  | [], b, x, _, h0 => by
    show sas b x = _
    rw [manys, if_neg (by omega), Int.sub_zero]
  | p :: r, b, x, h, h0 => by
    show sas (p :: (r ++ b)) x = _
    rw [oks] at h
    have hp := p.many_nn h.1
    have hr := manys_nn r h.2
    rw [sas, sas, manys]
    by_cases c : p.many ≤ x
    · rw [if_pos c, if_pos c, sas_app r b _ h.2 (by omega)]
      by_cases d : x - p.many < manys r
      · rw [if_pos d, if_pos (by omega)]
      · rw [if_neg d, if_neg (by omega)]
        rw [show x - p.many - manys r = x - (p.many + manys r) by omega]
    · rw [if_neg c, if_pos (by omega), if_neg c]
theorem emod_turn {t o x : Int} (ho : 0 < o) : (t * o - 1 - x) % o = o - 1 - x % o := by
  have h1 := Int.emod_nonneg x (show o ≠ 0 by omega)
  have h2 := Int.emod_lt_of_pos x ho
  have h3 : x = o * (x / o) + x % o := (Int.mul_ediv_add_emod x o).symm
  have e : t * o - 1 - x = (o - 1 - x % o) + o * (t - 1 - x / o) := by
    rw [Int.mul_sub, Int.mul_sub, Int.mul_one, Int.mul_comm o t]
    omega
  rw [e, Int.add_mul_emod_self_left]
  exact Int.emod_eq_of_lt (by omega) (by omega)
mutual
theorem Pt.sa_ab : ∀ (p : Pt) (x : Int), p.ok → 0 ≤ x → x < p.many → p.ab.sa (p.many - 1 - x) = p.sa x
  | .spot _ _, x, _, _, _ => by rw [Pt.ab, Pt.sa, Pt.sa]
  | .over t ps, x, h, h0, h1 => by
    have hp := (once_pos h h0 h1).1
    rw [Pt.ok] at h
    rw [Pt.ab, Pt.sa, Pt.sa, Pt.many, manys_ab, emod_turn hp]
    exact sas_ab ps _ h.2.2.2 (Int.emod_nonneg _ (by omega)) (Int.emod_lt_of_pos _ hp)
theorem sas_ab : ∀ (ps : List Pt) (x : Int), oks ps → 0 ≤ x → x < manys ps → sas (abs_ ps) (manys ps - 1 - x) = sas ps x
  | [], x, _, h0, h1 => by rw [manys] at h1; omega
  | p :: r, x, h, h0, h1 => by
    rw [oks] at h
    rw [manys] at h1
    have hp := p.many_nn h.1
    have hr := manys_nn r h.2
    rw [abs_, sas_app _ _ _ ((oks_ab r).mpr h.2) (by rw [manys]; omega), manys_ab, manys, sas_cons p.ab, sas_cons p r]
    by_cases c : p.many ≤ x
    · rw [if_pos c, if_pos (by omega), show p.many + manys r - 1 - x = manys r - 1 - (x - p.many) by omega]
      exact sas_ab r _ h.2 (by omega) (by omega)
    · rw [if_neg c, if_neg (by omega), p.many_ab, if_neg (by omega), show p.many + manys r - 1 - x - manys r = p.many - 1 - x by omega]
      exact p.sa_ab x h.1 h0 (by omega)
end
/-! ### made slim -/
mutual
def Pt.sl : Pt → List Pt
  | .spot s n => [.spot s n]
  | .over t ps => if t = 1 then sls ps else if 0 < t * manys ps then [.over t ps] else []
def sls : List Pt → List Pt
  | [] => []
  | p :: r => p.sl ++ sls r
end
def isSl : List Pt → Prop
  | [] => True
  | .spot _ _ :: r => isSl r
  | .over t ps :: r => t ≠ 1 ∧ 0 < t * manys ps ∧ isSl r
theorem isSl_app : ∀ a b : List Pt, isSl a → isSl b → isSl (a ++ b)
  | [], b, _, hb => hb
  | .spot _ _ :: r, b, ha, hb => isSl_app r b ha hb
  | .over t ps :: r, b, ha, hb => ⟨ha.1, ha.2.1, isSl_app r b ha.2.2 hb⟩
mutual
theorem Pt.isSl_sl : ∀ p : Pt, isSl p.sl
  | .spot s n => by rw [Pt.sl]; exact trivial
  | .over t ps => by
    rw [Pt.sl]
    by_cases c : t = 1
    · rw [if_pos c]; exact isSl_sls ps
    · rw [if_neg c]
      by_cases d : 0 < t * manys ps
      · rw [if_pos d]; exact ⟨c, d, trivial⟩
      · rw [if_neg d]; exact trivial
theorem isSl_sls : ∀ ps : List Pt, isSl (sls ps)
  | [] => by rw [sls]; exact trivial
  | p :: r => by rw [sls]; exact isSl_app _ _ p.isSl_sl (isSl_sls r)
end
theorem sls_id : ∀ ps : List Pt, isSl ps → sls ps = ps
  | [], _ => by rw [sls]
  | .spot s n :: r, h => by rw [sls, Pt.sl, sls_id r h]; rfl
  | .over t ps :: r, h => by rw [sls, Pt.sl, if_neg h.1, if_pos h.2.1, sls_id r h.2.2]; rfl
theorem isSl_ab : ∀ ps : List Pt, isSl ps → isSl (abs_ ps)
  | [], _ => by rw [abs_]; exact trivial
  | .spot s n :: r, h => by rw [abs_, Pt.ab]; exact isSl_app _ _ (isSl_ab r h) trivial
  | .over t ps :: r, h => by
    rw [abs_, Pt.ab]
    exact isSl_app _ _ (isSl_ab r h.2.2) ⟨h.1, by rw [manys_ab]; exact h.2.1, trivial⟩
theorem isSl_ba : ∀ ps : List Pt, isSl (bas ps) ↔ isSl ps
  | [] => by rw [bas]
  | .spot s n :: r => by rw [bas, Pt.ba]; exact isSl_ba r
  | .over t ps :: r => by
    rw [bas, Pt.ba]
    show t ≠ 1 ∧ 0 < t * manys (bas ps) ∧ isSl (bas r) ↔ _
    rw [manys_ba, isSl_ba r]
    exact Iff.rfl
mutual
theorem Pt.sl_facts : ∀ p : Pt, p.ok → manys p.sl = p.many ∧ oks p.sl ∧ dps p.sl ≤ p.dp ∧ wts p.sl ≤ p.wt
  | .spot s n, h => by rw [Pt.sl, manys_one, oks_one, dps_one, wts_one]; exact ⟨rfl, h, Nat.le_refl _, Nat.le_refl _⟩
  | .over t ps, h => by
    have h' := h
    rw [Pt.ok] at h
    have i := sls_facts ps h.2.2.2
    rw [Pt.sl]
    by_cases c : t = 1
    · rw [if_pos c, Pt.many, c, Int.one_mul, Pt.dp, Pt.wt]
      exact ⟨i.1, i.2.1, by omega, by omega⟩
    · rw [if_neg c]
      by_cases d : 0 < t * manys ps
      · rw [if_pos d, manys_one, oks_one, dps_one, wts_one]
        exact ⟨rfl, h', Nat.le_refl _, Nat.le_refl _⟩
      · rw [if_neg d, Pt.many]
        have e : t * manys ps = 0 := by
          have := Int.mul_nonneg h.1 (manys_nn ps h.2.2.2)
          omega
        rw [e, manys, oks, dps, wts]
        exact ⟨rfl, trivial, Nat.zero_le _, Nat.zero_le _⟩
theorem sls_facts : ∀ ps : List Pt, oks ps → manys (sls ps) = manys ps ∧ oks (sls ps) ∧ dps (sls ps) ≤ dps ps ∧ wts (sls ps) ≤ wts ps
  | [], _ => by rw [sls]; exact ⟨rfl, trivial, Nat.le_refl _, Nat.le_refl _⟩
  | p :: r, h => by
    rw [oks] at h
    have i := p.sl_facts h.1
    have j := sls_facts r h.2
    rw [sls, manys_app, oks_app, dps_app, wts_app, manys, dps, wts]
    exact ⟨by omega, ⟨i.2.1, j.2.1⟩, by omega, by omega⟩
end
/-! ### cut at a place -/
mutual
def Pt.tl : Pt → Int → List Pt
  | .spot _ _, _ => []
  | .over t ps, x => (if 0 < x % manys ps then tls ps (x % manys ps) else ps) ++ [.over (t - x / manys ps - 1) ps]
def tls : List Pt → Int → List Pt
  | [], _ => []
  | p :: r, x => if p.many ≤ x then tls r (x - p.many) else if x = 0 then p :: tls r 0 else p.tl x ++ tls r 0
end
mutual
def Pt.hd : Pt → Int → List Pt
  | .spot _ _, _ => []
  | .over t ps, x => .over (x / manys ps) ps :: hds ps (x % manys ps)
def hds : List Pt → Int → List Pt
  | [], _ => []
  | p :: r, x => if p.many ≤ x then p :: hds r (x - p.many) else if 0 < x then p.hd x ++ hds r 0 else hds r 0
end
mutual
theorem Pt.tl_ba : ∀ (p : Pt) (x : Int), p.ba.tl x = bas (p.tl x)
  | .spot _ _, x => by rw [Pt.ba, Pt.tl, Pt.tl, bas]
  | .over t ps, x => by
    rw [Pt.ba, Pt.tl, Pt.tl, manys_ba, bas_app, bas_one, Pt.ba]
    by_cases c : 0 < x % manys ps
    · rw [if_pos c, if_pos c, tls_ba ps]
    · rw [if_neg c, if_neg c]
theorem tls_ba : ∀ (ps : List Pt) (x : Int), tls (bas ps) x = bas (tls ps x)
  | [], x => by rw [bas, tls, bas]
  | p :: r, x => by
    rw [bas, tls, tls, p.many_ba]
    by_cases c : p.many ≤ x
    · rw [if_pos c, if_pos c, tls_ba r]
    · rw [if_neg c, if_neg c]
      by_cases d : x = 0
      · rw [if_pos d, if_pos d, bas, tls_ba r]
      · rw [if_neg d, if_neg d, bas_app, p.tl_ba x, tls_ba r]
end
theorem div_le {t o x : Int} (ho : 0 < o) (h0 : 0 ≤ x) (h1 : x < t * o) : 0 ≤ x / o ∧ x / o < t := by
  refine ⟨Int.ediv_nonneg h0 (by omega), ?_⟩
  exact Int.ediv_lt_of_lt_mul ho h1
structure CutOk (a b c : List Pt) (x y : Int) (w : Nat) : Prop where
  m1 : manys a = x
  m2 : manys b = y
  o1 : oks a
  o2 : oks b
  d1 : dps a ≤ dps c
  d2 : dps b ≤ dps c
  w : wts a + wts b ≤ w
theorem cut0 : ∀ ps : List Pt, oks ps → CutOk (hds ps 0) (tls ps 0) ps 0 (manys ps) (wts ps)
  | [], _ => by rw [hds, tls]; exact ⟨by rw [manys], rfl, trivial, trivial, Nat.le_refl _, Nat.le_refl _, by rw [wts]; omega⟩
  | p :: r, h => by
    rw [oks] at h
    have i := cut0 r h.2
    have hp := p.many_nn h.1
    rw [hds, tls]
    by_cases c : p.many ≤ 0
    · have e : (0 : Int) - p.many = 0 := by omega
      rw [if_pos c, if_pos c, e]
      exact ⟨by rw [manys, i.m1]; omega, by rw [i.m2, manys]; omega, by rw [oks]; exact ⟨h.1, i.o1⟩, i.o2, by rw [dps, dps]; have := i.d1; omega, by rw [dps]; have := i.d2; omega, by rw [wts, wts]; have := i.w; omega⟩
    · rw [if_neg c, if_neg c, if_neg (by omega), if_pos rfl]
      exact ⟨i.m1, by rw [manys, i.m2, manys], i.o1, by rw [oks]; exact ⟨h.1, i.o2⟩, by rw [dps]; have := i.d1; omega, by rw [dps, dps]; have := i.d2; omega, by rw [wts, wts]; have := i.w; omega⟩
mutual
theorem Pt.cut : ∀ (p : Pt) (x : Int), p.ok → 0 < x → x < p.many → manys (p.hd x) = x ∧ manys (p.tl x) = p.many - x ∧ oks (p.hd x) ∧ oks (p.tl x) ∧ dps (p.hd x) ≤ p.dp ∧ dps (p.tl x) ≤ p.dp ∧ wts (p.hd x) + wts (p.tl x) ≤ 3 * p.wt
  | .spot _ _, x, _, h0, h1 => by rw [Pt.many] at h1; omega
  | .over t ps, x, h, h0, h1 => by
    have hp := (once_pos h (by omega) h1).1
    rw [Pt.ok] at h
    rw [Pt.many] at h1
    have hd := div_le hp (show 0 ≤ x by omega) h1
    have m0 := Int.emod_nonneg x (show manys ps ≠ 0 by omega)
    have m1 := Int.emod_lt_of_pos x hp
    have hx : x = manys ps * (x / manys ps) + x % manys ps := (Int.mul_ediv_add_emod x (manys ps)).symm
    have k1 : (Pt.over (x / manys ps) ps).ok := by rw [Pt.ok]; exact ⟨hd.1, by omega, h.2.2.1, h.2.2.2⟩
    have k2 : (Pt.over (t - x / manys ps - 1) ps).ok := by rw [Pt.ok]; exact ⟨by omega, by omega, h.2.2.1, h.2.2.2⟩
    have e1 : x / manys ps * manys ps = manys ps * (x / manys ps) := Int.mul_comm _ _
    have e2 : (t - x / manys ps - 1) * manys ps = t * manys ps - manys ps * (x / manys ps) - manys ps := by rw [Int.sub_mul, Int.sub_mul, Int.one_mul, e1]
    rw [Pt.hd, Pt.tl, Pt.many, manys, manys_app, manys_one, Pt.many, Pt.many, oks, oks_app, oks_one, dps, dps_app, dps_one, wts, wts_app, wts_one, Pt.dp, Pt.dp, Pt.dp, Pt.wt, Pt.wt, Pt.wt, e1, e2]
    by_cases c : 0 < x % manys ps
    · have i := cuts ps _ h.2.2.2 m0 (by omega)
      rw [if_pos c]
      have := i.m1
      have := i.m2
      have := i.d1
      have := i.d2
      have := i.w
      exact ⟨by omega, by omega, ⟨k1, i.o1⟩, ⟨i.o2, k2⟩, by omega, by omega, by omega⟩
    · have e : x % manys ps = 0 := by omega
      rw [if_neg c, e]
      have i := cut0 ps h.2.2.2
      have := i.m1
      have := i.d1
      have := i.w
      exact ⟨by omega, by omega, ⟨k1, i.o1⟩, ⟨h.2.2.2, k2⟩, by omega, by omega, by omega⟩
theorem cuts : ∀ (ps : List Pt) (x : Int), oks ps → 0 ≤ x → x ≤ manys ps → CutOk (hds ps x) (tls ps x) ps x (manys ps - x) (3 * wts ps)
  | [], x, _, h0, h1 => by
    rw [manys] at h1
    have e : x = 0 := by omega
    rw [e, hds, tls]; exact ⟨by rw [manys], by rw [manys]; omega, trivial, trivial, Nat.le_refl _, Nat.le_refl _, by rw [wts]; omega⟩
  | p :: r, x, h, h0, h1 => by
    rw [oks] at h
    rw [manys] at h1
    have hp := p.many_nn h.1
    rw [hds, tls, manys]
    by_cases c : p.many ≤ x
    · have i := cuts r (x - p.many) h.2 (by omega) (by omega)
      rw [if_pos c, if_pos c]
      exact ⟨by rw [manys, i.m1]; omega, by rw [i.m2]; omega, by rw [oks]; exact ⟨h.1, i.o1⟩, i.o2, by rw [dps, dps]; have := i.d1; omega, by rw [dps]; have := i.d2; omega, by rw [wts, wts]; have := i.w; omega⟩
    · have i := cut0 r h.2
      rw [if_neg c, if_neg c]
      by_cases d : x = 0
      · rw [if_neg (by omega), if_pos d]
        exact ⟨by rw [i.m1, d], by rw [manys, i.m2]; omega, i.o1, by rw [oks]; exact ⟨h.1, i.o2⟩, by rw [dps]; have := i.d1; omega, by rw [dps, dps]; have := i.d2; omega, by rw [wts, wts]; have := i.w; omega⟩
      · rw [if_pos (by omega), if_neg d]
        obtain ⟨a1, a2, a3, a4, a5, a6, a7⟩ := p.cut x h.1 (by omega) (by omega)
        have := i.d1
        have := i.d2
        have := i.w
        exact ⟨by rw [manys_app, a1, i.m1]; omega, by rw [manys_app, a2, i.m2]; omega, (oks_app _ _).mpr ⟨a3, i.o1⟩, (oks_app _ _).mpr ⟨a4, i.o2⟩, by rw [dps_app, dps]; omega, by rw [dps_app, dps]; omega, by rw [wts_app, wts_app, wts]; omega⟩
end
/-! ### what comes of parts: the total and the slack, whole times at once -/
def les : Option Int → Option Int → Option Int
  | none, b => b
  | some a, none => some a
  | some a, some b => some (if b < a then b else a)
def nnO (s : Option Int) : Prop := ∀ o, s = some o → 0 ≤ o
theorem nnO_none : nnO none := fun _ h => nomatch h
theorem nnO_some {a : Int} (h : 0 ≤ a) : nnO (some a) := fun o e => by cases e; exact h
theorem nnO_les {a b : Option Int} (ha : nnO a) (hb : nnO b) : nnO (les a b) := by
  cases a with
  | none => exact hb
  | some x => cases b with
    | none => exact ha
    | some y =>
      refine nnO_some ?_
      have h1 := ha x rfl
      have h2 := hb y rfl
      split <;> omega
/-- few, true; the slack -/
def word (s : Sg) (x : Int) : (Int × Int) × Option Int :=
  if x < s.1 then ((1, 0), some (s.1 - 1 - x)) else match s.2 with
    | none => ((0, 1), none)
    | some m => if x ≤ m then ((0, 1), some (m - x)) else ((0, 0), none)
theorem word_facts (s : Sg) (x : Int) : 0 ≤ (word s x).1.1 ∧ 0 ≤ (word s x).1.2 ∧ (word s x).1.1 + (word s x).1.2 ≤ 1 ∧ nnO (word s x).2 := by
  unfold word
  split
  · exact ⟨by show (0 : Int) ≤ 1; omega, by show (0 : Int) ≤ 0; omega, by show (1 : Int) + 0 ≤ 1; omega, nnO_some (by omega)⟩
  · split
    · exact ⟨by show (0 : Int) ≤ 0; omega, by show (0 : Int) ≤ 1; omega, by show (0 : Int) + 1 ≤ 1; omega, nnO_none⟩
    · split
      · exact ⟨by show (0 : Int) ≤ 0; omega, by show (0 : Int) ≤ 1; omega, by show (0 : Int) + 1 ≤ 1; omega, nnO_some (by omega)⟩
      · exact ⟨by show (0 : Int) ≤ 0; omega, by show (0 : Int) ≤ 0; omega, by show (0 : Int) + 0 ≤ 1; omega, nnO_none⟩
/-- how many times more at once -/
def moreT (left : Int) (own : Option Int) (g : Int) : Int := match own with
  | none => left - 1
  | some o => if g = 0 then left - 1 else if o / g < left - 1 then o / g else left - 1
theorem moreT_facts {left g : Int} {own : Option Int} (hl : 0 < left) (hg : 0 ≤ g) (ho : nnO own) : 0 ≤ moreT left own g ∧ moreT left own g ≤ left - 1 ∧ ∀ o, own = some o → 0 ≤ o - moreT left own g * g := by
  cases own with
  | none => exact ⟨by show 0 ≤ left - 1; omega, by show left - 1 ≤ left - 1; omega, fun _ z => nomatch z⟩
  | some o =>
    have h0 := ho o rfl
    unfold moreT
    by_cases c : g = 0
    · simp only [c, if_true, Int.mul_zero]
      refine ⟨by omega, by omega, fun o' e => ?_⟩
      cases e; omega
    · simp only [if_neg c]
      have hd : 0 ≤ o / g := Int.ediv_nonneg h0 hg
      have hm : o / g * g ≤ o := Int.ediv_mul_le o c
      split
      · refine ⟨by omega, by omega, fun o' e => ?_⟩
        cases e
        omega
      · refine ⟨by omega, by omega, fun o' e => ?_⟩
        cases e
        have : (left - 1) * g ≤ o / g * g := Int.mul_le_mul_of_nonneg_right (by omega) hg
        omega
/-- from the back: f once, then more times -/
def goT (f : Int → Int × Option Int) : Nat → Int → Int → Option Int → Int × Option Int
  | 0, _, x, s => (x, s)
  | k + 1, left, x, s => if 0 < left then
      goT f k (left - (moreT left (f x).2 ((f x).1 - x) + 1)) ((f x).1 + moreT left (f x).2 ((f x).1 - x) * ((f x).1 - x))
        (les s ((f x).2.map fun o => o - moreT left (f x).2 ((f x).1 - x) * ((f x).1 - x)))
    else (x, s)
/-- f grows by at most o -/
def GoodT (f : Int → Int × Option Int) (o : Int) : Prop := ∀ x, x ≤ (f x).1 ∧ (f x).1 ≤ x + o ∧ nnO (f x).2
theorem goT_end {f : Int → Int × Option Int} {left x : Int} {s : Option Int} (h : left ≤ 0) : ∀ k, goT f k left x s = (x, s)
  | 0 => by rw [goT]
  | k + 1 => by rw [goT, if_neg (by omega)]
theorem goT_fuel {f : Int → Int × Option Int} {o : Int} (hf : GoodT f o) : ∀ (k k' : Nat) (left x : Int) (s : Option Int), left.toNat ≤ k → left.toNat ≤ k' → goT f k left x s = goT f k' left x s
  | 0, k', left, x, s, h, _ => by rw [goT_end (by omega), goT_end (by omega)]
  | k + 1, 0, left, x, s, _, h => by rw [goT_end (by omega), goT_end (by omega)]
  | k + 1, k' + 1, left, x, s, h, h' => by
    rw [goT, goT]
    by_cases c : 0 < left
    · rw [if_pos c, if_pos c]
      have g := hf x
      have m := moreT_facts (own := (f x).2) c (show 0 ≤ (f x).1 - x by omega) g.2.2
      exact goT_fuel hf k k' _ _ _ (by omega) (by omega)
    · rw [if_neg c, if_neg c]
theorem goT_step {f : Int → Int × Option Int} {o left x : Int} {s : Option Int} (hf : GoodT f o) (c : 0 < left) : goT f left.toNat left x s =
    goT f (left - (moreT left (f x).2 ((f x).1 - x) + 1)).toNat (left - (moreT left (f x).2 ((f x).1 - x) + 1)) ((f x).1 + moreT left (f x).2 ((f x).1 - x) * ((f x).1 - x))
      (les s ((f x).2.map fun o => o - moreT left (f x).2 ((f x).1 - x) * ((f x).1 - x))) := by
  obtain ⟨k, hk⟩ : ∃ k, left.toNat = k + 1 := ⟨left.toNat - 1, by omega⟩
  have g := hf x
  have m := moreT_facts (own := (f x).2) c (show 0 ≤ (f x).1 - x by omega) g.2.2
  rw [hk, goT, if_pos c]
  exact goT_fuel hf _ _ _ _ _ (by omega) (Nat.le_refl _)
theorem map_nn {left g : Int} {own : Option Int} (hl : 0 < left) (hg : 0 ≤ g) (ho : nnO own) : nnO (own.map fun o => o - moreT left own g * g) := fun o e => by
  cases own with
  | none => cases e
  | some a =>
    have := (moreT_facts hl hg ho).2.2 a rfl
    have e' : a - moreT left (some a) g * g = o := Option.some.inj e
    omega
theorem goT_facts {f : Int → Int × Option Int} {o : Int} (hf : GoodT f o) : ∀ (k : Nat) (left x : Int) (s : Option Int), 0 ≤ left → nnO s → 0 ≤ o → x ≤ (goT f k left x s).1 ∧ (goT f k left x s).1 ≤ x + left * o ∧ nnO (goT f k left x s).2
  | 0, left, x, s, h0, hs, ho => by
    rw [goT]
    have := Int.mul_nonneg h0 ho
    exact ⟨Int.le_refl _, by show x ≤ _; omega, hs⟩
  | k + 1, left, x, s, h0, hs, ho => by
    rw [goT]
    by_cases c : 0 < left
    · rw [if_pos c]
      have g := hf x
      have hg : 0 ≤ (f x).1 - x := by omega
      have m := moreT_facts (own := (f x).2) c hg g.2.2
      have i := goT_facts hf k (left - (moreT left (f x).2 ((f x).1 - x) + 1)) ((f x).1 + moreT left (f x).2 ((f x).1 - x) * ((f x).1 - x))
        (les s ((f x).2.map fun o => o - moreT left (f x).2 ((f x).1 - x) * ((f x).1 - x))) (by omega) (nnO_les hs (map_nn c hg g.2.2)) ho
      have p1 := Int.mul_nonneg m.1 hg
      have p2 : moreT left (f x).2 ((f x).1 - x) * ((f x).1 - x) ≤ moreT left (f x).2 ((f x).1 - x) * o := Int.mul_le_mul_of_nonneg_left (by omega) m.1
      have p3 : (left - (moreT left (f x).2 ((f x).1 - x) + 1)) * o = left * o - moreT left (f x).2 ((f x).1 - x) * o - o := by rw [Int.sub_mul, Int.add_mul, Int.one_mul]; omega
      exact ⟨by omega, by omega, i.2.2⟩
    · rw [if_neg c]
      have := Int.mul_nonneg h0 ho
      exact ⟨Int.le_refl _, by show x ≤ _; omega, hs⟩
mutual
def Pt.thr : Pt → Int → Int × Option Int
  | .spot s _, x => (x + (word s x).1.2, (word s x).2)
  | .over t ps, x => goT (fun y => thrs ps y) t.toNat t x none
def thrs : List Pt → Int → Int × Option Int
  | [], x => (x, none)
  | p :: r, x => ((p.thr (thrs r x).1).1, les (thrs r x).2 (p.thr (thrs r x).1).2)
end
theorem thr_over (t : Int) (ps : List Pt) (x : Int) : (Pt.over t ps).thr x = goT (thrs ps) t.toNat t x none := by rw [Pt.thr]
mutual
theorem Pt.thr_good : ∀ p : Pt, p.ok → GoodT p.thr p.many
  | .spot s _, _, x => by
    have w := word_facts s x
    rw [Pt.thr, Pt.many]
    exact ⟨by show x ≤ x + _; omega, by show x + _ ≤ x + 1; omega, w.2.2.2⟩
  | .over t ps, h, x => by
    rw [Pt.ok] at h
    rw [thr_over, Pt.many]
    exact goT_facts (thrs_good ps h.2.2.2) _ _ _ _ h.1 nnO_none (manys_nn ps h.2.2.2)
theorem thrs_good : ∀ ps : List Pt, oks ps → GoodT (thrs ps) (manys ps)
  | [], _, x => by rw [thrs, manys]; exact ⟨Int.le_refl _, by show x ≤ x + 0; omega, nnO_none⟩
  | p :: r, h, x => by
    rw [oks] at h
    have i := thrs_good r h.2 x
    have j := p.thr_good h.1 (thrs r x).1
    rw [thrs, manys]
    exact ⟨by show x ≤ _; omega, by show (p.thr (thrs r x).1).1 ≤ _; omega, nnO_les i.2.2 j.2.2⟩
end
mutual
theorem Pt.thr_ba : ∀ p : Pt, p.ba.thr = p.thr
  | .spot s _ => by funext x; rw [Pt.ba, Pt.thr, Pt.thr]
  | .over t ps => by funext x; rw [Pt.ba, thr_over, thr_over, thrs_ba ps]
theorem thrs_ba : ∀ ps : List Pt, thrs (bas ps) = thrs ps
  | [] => by rw [bas]
  | p :: r => by funext x; rw [bas, thrs, thrs, thrs_ba r, p.thr_ba]
end
/-! ### wishes, from the front -/
def wword (s : Sg) (w : Int) : Int × Option Int := match s.2 with
  | some m => if m + 1 < w then (w, some (w - m - 2)) else if s.1 < w then (w - 1, some (w - s.1 - 1)) else (w, none)
  | none => if s.1 < w then (w - 1, some (w - s.1 - 1)) else (w, none)
def goW (f : Int → Int × Option Int) : Nat → Int → Int → Option Int → Int × Option Int
  | 0, _, x, s => (x, s)
  | k + 1, left, x, s => if 0 < left then
      goW f k (left - (moreT left (f x).2 (x - (f x).1) + 1)) ((f x).1 - moreT left (f x).2 (x - (f x).1) * (x - (f x).1))
        (les s ((f x).2.map fun o => o - moreT left (f x).2 (x - (f x).1) * (x - (f x).1)))
    else (x, s)
def GoodW (f : Int → Int × Option Int) (o : Int) : Prop := ∀ x, (f x).1 ≤ x ∧ x - o ≤ (f x).1 ∧ nnO (f x).2
theorem goW_end {f : Int → Int × Option Int} {left x : Int} {s : Option Int} (h : left ≤ 0) : ∀ k, goW f k left x s = (x, s)
  | 0 => by rw [goW]
  | k + 1 => by rw [goW, if_neg (by omega)]
theorem goW_fuel {f : Int → Int × Option Int} {o : Int} (hf : GoodW f o) : ∀ (k k' : Nat) (left x : Int) (s : Option Int), left.toNat ≤ k → left.toNat ≤ k' → goW f k left x s = goW f k' left x s
  | 0, k', left, x, s, h, _ => by rw [goW_end (by omega), goW_end (by omega)]
  | k + 1, 0, left, x, s, _, h => by rw [goW_end (by omega), goW_end (by omega)]
  | k + 1, k' + 1, left, x, s, h, h' => by
    rw [goW, goW]
    by_cases c : 0 < left
    · rw [if_pos c, if_pos c]
      have g := hf x
      have m := moreT_facts (own := (f x).2) c (show 0 ≤ x - (f x).1 by omega) g.2.2
      exact goW_fuel hf k k' _ _ _ (by omega) (by omega)
    · rw [if_neg c, if_neg c]
theorem goW_step {f : Int → Int × Option Int} {o left x : Int} {s : Option Int} (hf : GoodW f o) (c : 0 < left) : goW f left.toNat left x s =
    goW f (left - (moreT left (f x).2 (x - (f x).1) + 1)).toNat (left - (moreT left (f x).2 (x - (f x).1) + 1)) ((f x).1 - moreT left (f x).2 (x - (f x).1) * (x - (f x).1))
      (les s ((f x).2.map fun o => o - moreT left (f x).2 (x - (f x).1) * (x - (f x).1))) := by
  obtain ⟨k, hk⟩ : ∃ k, left.toNat = k + 1 := ⟨left.toNat - 1, by omega⟩
  have g := hf x
  have m := moreT_facts (own := (f x).2) c (show 0 ≤ x - (f x).1 by omega) g.2.2
  rw [hk, goW, if_pos c]
  exact goW_fuel hf _ _ _ _ _ (by omega) (Nat.le_refl _)
theorem goW_facts {f : Int → Int × Option Int} {o : Int} (hf : GoodW f o) : ∀ (k : Nat) (left x : Int) (s : Option Int), 0 ≤ left → nnO s → 0 ≤ o → (goW f k left x s).1 ≤ x ∧ x - left * o ≤ (goW f k left x s).1 ∧ nnO (goW f k left x s).2
  | 0, left, x, s, h0, hs, ho => by
    rw [goW]
    have := Int.mul_nonneg h0 ho
    exact ⟨Int.le_refl _, by show _ ≤ x; omega, hs⟩
  | k + 1, left, x, s, h0, hs, ho => by
    rw [goW]
    by_cases c : 0 < left
    · rw [if_pos c]
      have g := hf x
      have hg : 0 ≤ x - (f x).1 := by omega
      have m := moreT_facts (own := (f x).2) c hg g.2.2
      have i := goW_facts hf k (left - (moreT left (f x).2 (x - (f x).1) + 1)) ((f x).1 - moreT left (f x).2 (x - (f x).1) * (x - (f x).1))
        (les s ((f x).2.map fun o => o - moreT left (f x).2 (x - (f x).1) * (x - (f x).1))) (by omega) (nnO_les hs (map_nn c hg g.2.2)) ho
      have p1 := Int.mul_nonneg m.1 hg
      have p2 : moreT left (f x).2 (x - (f x).1) * (x - (f x).1) ≤ moreT left (f x).2 (x - (f x).1) * o := Int.mul_le_mul_of_nonneg_left (by omega) m.1
      have p3 : (left - (moreT left (f x).2 (x - (f x).1) + 1)) * o = left * o - moreT left (f x).2 (x - (f x).1) * o - o := by rw [Int.sub_mul, Int.add_mul, Int.one_mul]; omega
      exact ⟨by omega, by omega, i.2.2⟩
    · rw [if_neg c]
      have := Int.mul_nonneg h0 ho
      exact ⟨Int.le_refl _, by show _ ≤ x; omega, hs⟩
mutual
def Pt.wsh : Pt → Int → Int × Option Int
  | .spot s _, x => wword s x
  | .over t ps, x => goW (fun y => wshs ps y none) t.toNat t x none
def wshs : List Pt → Int → Option Int → Int × Option Int
  | [], x, s => (x, s)
  | p :: r, x, s => wshs r (p.wsh x).1 (les s (p.wsh x).2)
end
theorem wsh_over (t : Int) (ps : List Pt) (x : Int) : (Pt.over t ps).wsh x = goW (fun y => wshs ps y none) t.toNat t x none := by rw [Pt.wsh]
mutual
theorem Pt.wsh_good : ∀ p : Pt, p.ok → GoodW p.wsh p.many
  | .spot s _, _, x => by
    rw [Pt.wsh, Pt.many]
    unfold wword
    split
    · split
      · exact ⟨Int.le_refl _, by show x - 1 ≤ x; omega, nnO_some (by omega)⟩
      · split
        · exact ⟨by show x - 1 ≤ x; omega, Int.le_refl _, nnO_some (by omega)⟩
        · exact ⟨Int.le_refl _, by show x - 1 ≤ x; omega, nnO_none⟩
    · split
      · exact ⟨by show x - 1 ≤ x; omega, Int.le_refl _, nnO_some (by omega)⟩
      · exact ⟨Int.le_refl _, by show x - 1 ≤ x; omega, nnO_none⟩
  | .over t ps, h, x => by
    rw [Pt.ok] at h
    rw [wsh_over, Pt.many]
    exact goW_facts (fun y => wshs_good ps h.2.2.2 y none nnO_none) _ _ _ _ h.1 nnO_none (manys_nn ps h.2.2.2)
theorem wshs_good : ∀ ps : List Pt, oks ps → ∀ x s, nnO s → (wshs ps x s).1 ≤ x ∧ x - manys ps ≤ (wshs ps x s).1 ∧ nnO (wshs ps x s).2
  | [], _, x, s, hs => by rw [wshs, manys]; exact ⟨Int.le_refl _, by show x - 0 ≤ x; omega, hs⟩
  | p :: r, h, x, s, hs => by
    rw [oks] at h
    have j := p.wsh_good h.1 x
    have i := wshs_good r h.2 (p.wsh x).1 (les s (p.wsh x).2) (nnO_les hs j.2.2)
    rw [wshs, manys]
    exact ⟨by omega, by omega, i.2.2⟩
end
mutual
theorem Pt.wsh_ba : ∀ p : Pt, p.ba.wsh = p.wsh
  | .spot s _ => by funext x; rw [Pt.ba, Pt.wsh, Pt.wsh]
  | .over t ps => by funext x; rw [Pt.ba, wsh_over, wsh_over, wshs_ba ps]
theorem wshs_ba : ∀ ps : List Pt, wshs (bas ps) = wshs ps
  | [] => by rw [bas]
  | p :: r => by funext x s; rw [bas, wshs, wshs, wshs_ba r, p.wsh_ba]
end
/-! ### pairs by keys -/
section
variable {κ : Type} [DecidableEq κ] {α : Type}
def aget (l : List (κ × α)) (k : κ) : Option α := (l.find? fun e => decide (e.1 = k)).map (·.2)
def aput (l : List (κ × α)) (k : κ) (a : α) : List (κ × α) := if (l.any fun e => decide (e.1 = k)) = true then l.map (fun e => if e.1 = k then (e.1, a) else e) else l ++ [(k, a)]
def adrop (l : List (κ × α)) (k : κ) : List (κ × α) := l.filter fun e => decide (e.1 ≠ k)
def akeys (l : List (κ × α)) : List κ := l.map (·.1)
theorem aget_nil (k : κ) : aget ([] : List (κ × α)) k = none := rfl
theorem aget_cons (p : κ × α) (l : List (κ × α)) (k : κ) : aget (p :: l) k = if p.1 = k then some p.2 else aget l k := by
  by_cases h : p.1 = k <;> simp [aget, List.find?_cons, h]
theorem aget_mem {l : List (κ × α)} {k : κ} {a : α} (h : aget l k = some a) : (k, a) ∈ l := by
  induction l with
  | nil => cases h
  | cons p l ih =>
    rw [aget_cons] at h
    by_cases c : p.1 = k
    · rw [if_pos c] at h
      have e : p = (k, a) := Prod.ext c (Option.some.inj h)
      rw [e]; exact List.mem_cons_self
    · rw [if_neg c] at h
      exact List.mem_cons_of_mem _ (ih h)
theorem aget_key {l : List (κ × α)} {k : κ} : (aget l k).isSome = true ↔ k ∈ akeys l := by
  induction l with
  | nil => simp [aget_nil, akeys]
  | cons p l ih =>
    rw [aget_cons]
    show _ ↔ k ∈ p.1 :: akeys l
    rw [List.mem_cons]
    by_cases c : p.1 = k
    · rw [if_pos c]; simp [c]
    · rw [if_neg c, ih]
      exact ⟨.inr, fun h => h.elim (fun e => absurd e.symm c) id⟩
theorem aget_none {l : List (κ × α)} {k : κ} : aget l k = none ↔ k ∉ akeys l := by
  rw [← aget_key]; cases aget l k <;> simp
theorem any_key {l : List (κ × α)} {k : κ} : (l.any fun e => decide (e.1 = k)) = true ↔ k ∈ akeys l := by
  rw [List.any_eq_true]
  unfold akeys
  rw [List.mem_map]
  exact ⟨fun ⟨e, h1, h2⟩ => ⟨e, h1, of_decide_eq_true h2⟩, fun ⟨e, h1, h2⟩ => ⟨e, h1, decide_eq_true h2⟩⟩
theorem akeys_put (l : List (κ × α)) (k : κ) (a : α) : akeys (aput l k a) = if k ∈ akeys l then akeys l else akeys l ++ [k] := by
  unfold aput
  by_cases h : (l.any fun e => decide (e.1 = k)) = true
  · rw [if_pos h, if_pos (any_key.mp h)]
    unfold akeys
    rw [List.map_map]
    refine List.map_congr_left fun e _ => ?_
    show (if e.1 = k then (e.1, a) else e).1 = e.1
    split <;> rfl
  · rw [if_neg h, if_neg fun z => h (any_key.mpr z)]
    unfold akeys
    rw [List.map_append]; rfl
theorem nd_put {l : List (κ × α)} (k : κ) (a : α) (h : (akeys l).Nodup) : (akeys (aput l k a)).Nodup := by
  rw [akeys_put]
  split
  · exact h
  · rename_i c
    rw [List.nodup_append]
    refine ⟨h, by simp, fun x hx y hy e => ?_⟩
    have : y = k := by simpa using hy
    rw [e, this] at hx
    exact c hx
theorem mem_keys_put {l : List (κ × α)} {k x : κ} {a : α} : x ∈ akeys (aput l k a) ↔ x ∈ akeys l ∨ x = k := by
  rw [akeys_put]
  split
  · rename_i c
    exact ⟨.inl, fun h => h.elim id fun e => e ▸ c⟩
  · rw [List.mem_append, List.mem_singleton]
theorem aput_cons_eq {p : κ × α} {l : List (κ × α)} {k : κ} {a : α} (c : p.1 = k) (h : k ∉ akeys l) : aput (p :: l) k a = (p.1, a) :: l := by
  unfold aput
  rw [if_pos (by rw [any_key]; show k ∈ p.1 :: akeys l; rw [c]; exact List.mem_cons_self), List.map_cons, if_pos c]
  congr 1
  rw [show l = l.map id by simp]
  rw [List.map_map]
  refine List.map_congr_left fun e he => ?_
  show (if (id e).1 = k then ((id e).1, a) else id e) = e
  rw [if_neg]
  · rfl
  · intro z
    exact h (List.mem_map.mpr ⟨e, he, z⟩)
theorem aput_cons_ne {p : κ × α} {l : List (κ × α)} {k : κ} {a : α} (c : p.1 ≠ k) : aput (p :: l) k a = p :: aput l k a := by
  unfold aput
  by_cases h : k ∈ akeys l
  · rw [if_pos (by rw [any_key]; exact List.mem_cons_of_mem _ h), if_pos (any_key.mpr h), List.map_cons, if_neg c]
  · rw [if_neg, if_neg fun z => h (any_key.mp z)]
    · rfl
    · rw [any_key]
      intro z
      rcases List.mem_cons.mp (show k ∈ p.1 :: akeys l from z) with e | e
      · exact c e.symm
      · exact h e
def asum (f : α → Int) (l : List (κ × α)) : Int := (l.map fun e => f e.2).sum
theorem asum_cons (f : α → Int) (p : κ × α) (l : List (κ × α)) : asum f (p :: l) = f p.2 + asum f l := by unfold asum; rw [List.map_cons, List.sum_cons]
def fO (f : α → Int) : Option α → Int
  | some b => f b
  | none => 0
theorem asum_put (f : α → Int) : ∀ (l : List (κ × α)) (k : κ) (a : α), (akeys l).Nodup → asum f (aput l k a) = asum f l - fO f (aget l k) + f a
  | [], k, a, _ => by
    show asum f ([] ++ [(k, a)]) = _
    rw [List.nil_append, asum_cons, aget_nil]
    show f a + asum f [] = asum f [] - 0 + f a
    omega
  | p :: l, k, a, h => by
    have hc : p.1 ∉ akeys l ∧ (akeys l).Nodup := List.nodup_cons.mp h
    rw [aget_cons]
    by_cases c : p.1 = k
    · rw [aput_cons_eq c (c ▸ hc.1), if_pos c, asum_cons, asum_cons]
      show f a + asum f l = f p.2 + asum f l - f p.2 + f a
      omega
    · rw [aput_cons_ne c, if_neg c, asum_cons, asum_cons, asum_put f l k a hc.2]
      omega
theorem asum_nn {f : α → Int} {l : List (κ × α)} (h : ∀ e ∈ l, 0 ≤ f e.2) : 0 ≤ asum f l := by
  induction l with
  | nil => exact Int.le_refl _
  | cons p l ih =>
    rw [asum_cons]
    have h1 := h p List.mem_cons_self
    have h2 := ih fun e he => h e (List.mem_cons_of_mem _ he)
    omega
theorem le_asum {f : α → Int} {l : List (κ × α)} (h : ∀ e ∈ l, 0 ≤ f e.2) {e : κ × α} (he : e ∈ l) : f e.2 ≤ asum f l := by
  induction l with
  | nil => cases he
  | cons p l ih =>
    rw [asum_cons]
    have h1 := h p List.mem_cons_self
    have h2 := asum_nn (f := f) fun e he => h e (List.mem_cons_of_mem _ he)
    rcases List.mem_cons.mp he with z | z
    · rw [z]; omega
    · have := ih (fun e he => h e (List.mem_cons_of_mem _ he)) z
      omega
theorem mem_put {l : List (κ × α)} {k : κ} {a : α} {e : κ × α} (h : e ∈ aput l k a) : e ∈ l ∨ e = (k, a) := by
  unfold aput at h
  by_cases c : (l.any fun e => decide (e.1 = k)) = true
  · rw [if_pos c] at h
    obtain ⟨q, hq, eq⟩ := List.mem_map.mp h
    by_cases d : q.1 = k
    · rw [if_pos d] at eq
      exact .inr (by rw [← eq, d])
    · rw [if_neg d] at eq
      exact .inl (eq ▸ hq)
  · rw [if_neg c] at h
    rcases List.mem_append.mp h with z | z
    · exact .inl z
    · exact .inr (List.mem_singleton.mp z)
theorem len_put (l : List (κ × α)) (k : κ) (a : α) : (aput l k a).length ≤ l.length + 1 := by
  unfold aput
  split
  · rw [List.length_map]; omega
  · rw [List.length_append]; exact Nat.le_refl _
end
/-! ### accounts -/
abbrev Ct := List (Int × (Int × Int))
def ctOk (b : Int) (c : Ct) : Prop := (akeys c).Nodup ∧ (∀ e ∈ c, 0 ≤ e.2.1 ∧ 0 ≤ e.2.2) ∧ asum (fun p => p.1 + p.2) c ≤ b
def gT (c : Ct) (k : Int) : Int := ((aget c k).getD (0, 0)).2
/-- what is counted in one time is added, so many times -/
def ctAdd1 (c : Ct) (e : Int × (Int × Int)) (n : Int) : Ct := aput c e.1 (((aget c e.1).getD (0, 0)).1 + e.2.1 * n, ((aget c e.1).getD (0, 0)).2 + e.2.2 * n)
def ctAdd (c m : Ct) (n : Int) : Ct := m.foldl (fun c e => ctAdd1 c e n) c
theorem asum_get (f : Int × Int → Int) (h0 : f (0, 0) = 0) (c : Ct) (k : Int) : fO f (aget c k) = f ((aget c k).getD (0, 0)) := by
  cases aget c k with
  | none => exact h0.symm
  | some b => rfl
theorem ctAdd1_sum (f : Int × Int → Int) (h0 : f (0, 0) = 0) (hl : ∀ a b : Int × Int, ∀ n : Int, f (a.1 + b.1 * n, a.2 + b.2 * n) = f a + f b * n) (c : Ct) (e : Int × (Int × Int)) (n : Int) (h : (akeys c).Nodup) :
    asum f (ctAdd1 c e n) = asum f c + f e.2 * n := by
  unfold ctAdd1
  rw [asum_put f c _ _ h, asum_get f h0, hl]
  omega
theorem ctAdd_facts (f : Int × Int → Int) (h0 : f (0, 0) = 0) (hl : ∀ a b : Int × Int, ∀ n : Int, f (a.1 + b.1 * n, a.2 + b.2 * n) = f a + f b * n) (n : Int) : ∀ (m c : Ct), (akeys c).Nodup →
    (akeys (ctAdd c m n)).Nodup ∧ asum f (ctAdd c m n) = asum f c + asum f m * n ∧ (∀ x, x ∈ akeys (ctAdd c m n) → x ∈ akeys c ∨ x ∈ akeys m)
  | [], c, h => ⟨h, by show asum f c = _ + 0 * n; rw [Int.zero_mul]; omega, fun x hx => .inl hx⟩
  | e :: m, c, h => by
    have h1 : (akeys (ctAdd1 c e n)).Nodup := nd_put _ _ h
    obtain ⟨a, b, d⟩ := ctAdd_facts f h0 hl n m (ctAdd1 c e n) h1
    refine ⟨a, ?_, fun x hx => ?_⟩
    · show asum f (ctAdd (ctAdd1 c e n) m n) = _
      rw [b, ctAdd1_sum f h0 hl c e n h, asum_cons, Int.add_mul]
      omega
    · rcases d x hx with z | z
      · rcases mem_keys_put.mp z with z | z
        · exact .inl z
        · exact .inr (by show x ∈ e.1 :: akeys m; rw [z]; exact List.mem_cons_self)
      · exact .inr (List.mem_cons_of_mem _ z)
theorem ctAdd_nn {n : Int} (hn : 0 ≤ n) : ∀ (m c : Ct), (∀ e ∈ c, 0 ≤ e.2.1 ∧ 0 ≤ e.2.2) → (∀ e ∈ m, 0 ≤ e.2.1 ∧ 0 ≤ e.2.2) → ∀ e ∈ ctAdd c m n, 0 ≤ e.2.1 ∧ 0 ≤ e.2.2
  | [], c, hc, _ => hc
  | q :: m, c, hc, hm => by
    refine ctAdd_nn hn m (ctAdd1 c q n) (fun e he => ?_) fun e he => hm e (List.mem_cons_of_mem _ he)
    rcases mem_put he with z | z
    · exact hc e z
    · have hq := hm q List.mem_cons_self
      have a1 := Int.mul_nonneg hq.1 hn
      have a2 := Int.mul_nonneg hq.2 hn
      have g : 0 ≤ ((aget c q.1).getD (0, 0)).1 ∧ 0 ≤ ((aget c q.1).getD (0, 0)).2 := by
        cases w : aget c q.1 with
        | none => exact ⟨Int.le_refl _, Int.le_refl _⟩
        | some b => exact hc _ (aget_mem w)
      rw [z]
      exact ⟨by show 0 ≤ _ + _; omega, by show 0 ≤ _ + _; omega⟩
theorem lin_both : ∀ a b : Int × Int, ∀ n : Int, (fun p : Int × Int => p.1 + p.2) (a.1 + b.1 * n, a.2 + b.2 * n) = (fun p : Int × Int => p.1 + p.2) a + (fun p : Int × Int => p.1 + p.2) b * n := fun a b n => by
  show a.1 + b.1 * n + (a.2 + b.2 * n) = a.1 + a.2 + (b.1 + b.2) * n
  rw [Int.add_mul]; omega
theorem lin_snd : ∀ a b : Int × Int, ∀ n : Int, (fun p : Int × Int => p.2) (a.1 + b.1 * n, a.2 + b.2 * n) = (fun p : Int × Int => p.2) a + (fun p : Int × Int => p.2) b * n := fun a b n => rfl
theorem ctAdd_ok {n b d : Int} {c m : Ct} (hn : 0 ≤ n) (hc : ctOk b c) (hm : ctOk d m) : ctOk (b + d * n) (ctAdd c m n) := by
  obtain ⟨c1, c2, c3⟩ := hc
  obtain ⟨m1, m2, m3⟩ := hm
  obtain ⟨a1, a2, a3⟩ := ctAdd_facts (fun p => p.1 + p.2) rfl lin_both n m c c1
  have := Int.mul_le_mul_of_nonneg_right m3 hn
  exact ⟨a1, ctAdd_nn hn m c c2 m2, by omega⟩
theorem ctAdd_T {n : Int} {c m : Ct} (h : (akeys c).Nodup) : asum (fun p => p.2) (ctAdd c m n) = asum (fun p => p.2) c + asum (fun p => p.2) m * n := (ctAdd_facts (fun p => p.2) rfl lin_snd n m c h).2.1
theorem ctAdd_keys {n : Int} {c m : Ct} (h : (akeys c).Nodup) : ∀ x, x ∈ akeys (ctAdd c m n) → x ∈ akeys c ∨ x ∈ akeys m := (ctAdd_facts (fun p => p.2) rfl lin_snd n m c h).2.2
/-- summed by number -/
def sumTo (c : Ct) : Nat → Int
  | 0 => 0
  | n + 1 => sumTo c n + gT c n
theorem gT_cons (p : Int × (Int × Int)) (c : Ct) (k : Int) : gT (p :: c) k = if p.1 = k then p.2.2 else gT c k := by
  unfold gT
  rw [aget_cons]
  split <;> rfl
theorem sumTo_cons (p : Int × (Int × Int)) (c : Ct) (h : p.1 ∉ akeys c) (h0 : 0 ≤ p.1) : ∀ n : Nat, sumTo (p :: c) n = sumTo c n + if p.1 < n then p.2.2 else 0
  | 0 => by rw [sumTo, sumTo, if_neg (by omega)]; rfl
  | n + 1 => by
    rw [sumTo, sumTo, sumTo_cons p c h h0 n, gT_cons]
    by_cases e : p.1 = n
    · have z : gT c n = 0 := by
        unfold gT
        rw [aget_none.mpr (e ▸ h)]; rfl
      rw [if_pos e, z, if_neg (by omega), if_pos (by omega)]
    · rw [if_neg e]
      by_cases l : p.1 < n
      · rw [if_pos l, if_pos (by omega)]; omega
      · rw [if_neg l, if_neg (by omega)]; omega
theorem sumTo_nil : ∀ n : Nat, sumTo [] n = 0
  | 0 => rfl
  | n + 1 => by rw [sumTo, sumTo_nil n]; rfl
theorem sumTo_all : ∀ (c : Ct) (n : Nat), (akeys c).Nodup → (∀ x ∈ akeys c, 0 ≤ x ∧ x < (n : Int)) → sumTo c n = asum (fun p => p.2) c
  | [], n, _, _ => sumTo_nil n
  | p :: c, n, h, hk => by
    have hc : p.1 ∉ akeys c ∧ (akeys c).Nodup := List.nodup_cons.mp h
    have hp := hk p.1 List.mem_cons_self
    rw [sumTo_cons p c hc.1 hp.1, asum_cons, sumTo_all c n hc.2 fun x hx => hk x (List.mem_cons_of_mem _ hx), if_pos hp.2]
    show _ + p.2.2 = p.2.2 + _
    omega
/-- distinct numbers that hold 0 .. m - 1 are m at least -/
theorem rg_len_le : ∀ (m : Nat) (l : List Int), l.Nodup → (∀ x ∈ rg 0 m, x ∈ l) → m ≤ l.length := by
  intro m l hl h
  have := List.Nodup.length_le_of_subset (nd_rg m 0) h
  rw [len_rg] at this
  exact this
/-! ### what stands in the heap -/
def oV : Option Int → V
  | none => .non
  | some m => .int m
def sgV (s : Sg) : List V := [.int s.1, oV s.2]
theorem oV_inj {a b : Option Int} (h : oV a = oV b) : a = b := by
  cases a <;> cases b <;> first | rfl | (cases h) | skip
  all_goals first | rfl | (injection h with h; rw [h])
/-- the attributes of a Spot, an Over -/
def fS (p : Addr) (n : Int) : List (Str × V) := [("s8_said", .ref p), ("s8_number", .int n), ("s8_many", .int 1)]
def fO4 (t : Int) (q : Addr) (o m : Int) : List (Str × V) := [("s8_times", .int t), ("s8_parts", .ref q), ("s8_once", .int o), ("s8_many", .int m)]
theorem fS_said (p : Addr) (n : Int) : (fS p n).lookup ("s8_said" : Str) = some (.ref p) := by rfl
theorem fS_number (p : Addr) (n : Int) : (fS p n).lookup ("s8_number" : Str) = some (.int n) := by rfl
theorem fS_many (p : Addr) (n : Int) : (fS p n).lookup ("s8_many" : Str) = some (.int 1) := by rfl
theorem fO_times (t : Int) (q : Addr) (o m : Int) : (fO4 t q o m).lookup ("s8_times" : Str) = some (.int t) := by rfl
theorem fO_parts (t : Int) (q : Addr) (o m : Int) : (fO4 t q o m).lookup ("s8_parts" : Str) = some (.ref q) := by rfl
theorem fO_once (t : Int) (q : Addr) (o m : Int) : (fO4 t q o m).lookup ("s8_once" : Str) = some (.int o) := by rfl
theorem fO_many (t : Int) (q : Addr) (o m : Int) : (fO4 t q o m).lookup ("s8_many" : Str) = some (.int m) := by rfl
section
variable (K : PySem.W.Frag) (M : Addr → Prop) (H : Hp)
/-! parts at a value; M: the addresses that may be written, of which none is the parts' -/
mutual
def PtA : Pt → V → Prop
  | .spot s n, v => ∃ a dx p, v = .ref a ∧ ¬ M a ∧ ¬ M p ∧ H a = some (.ins (CS K) dx (fS p n)) ∧ H p = some (.tup (sgV s))
  | .over t ps, v => ∃ a dx q vs, v = .ref a ∧ ¬ M a ∧ ¬ M q ∧ H a = some (.ins (CO K) dx (fO4 t q (manys ps) (t * manys ps))) ∧ H q = some (.lst vs) ∧ PtLA ps vs
def PtLA : List Pt → List V → Prop
  | [], vs => vs = []
  | p :: r, vs => ∃ v vr, vs = v :: vr ∧ PtA p v ∧ PtLA r vr
end
def PtsA (ps : List Pt) (q : Addr) : Prop := ¬ M q ∧ ∃ vs, H q = some (.lst vs) ∧ PtLA K M H ps vs
mutual
def LgA : Pt → V → Prop
  | .spot s _, v => ∃ p, v = .ref p ∧ ¬ M p ∧ H p = some (.tup (sgV s))
  | .over t ps, v => ∃ p b vs, v = .ref p ∧ ¬ M p ∧ ¬ M b ∧ H p = some (.tup [.str "again", .int t, .ref b]) ∧ H b = some (.lst vs) ∧ LgLA ps vs
def LgLA : List Pt → List V → Prop
  | [], vs => vs = []
  | p :: r, vs => ∃ v vr, vs = v :: vr ∧ LgA p v ∧ LgLA r vr
end
def LgsA (ps : List Pt) (q : Addr) : Prop := ¬ M q ∧ ∃ vs, H q = some (.lst vs) ∧ LgLA M H ps vs
end
/-- what is not in M stands as it stood; what is new in M' was not there -/
structure Keep (M M' : Addr → Prop) (H H' : Hp) : Prop where
  m : ∀ a, M' a → M a ∨ H a = none
  k : ∀ a o, ¬ M a → H a = some o → H' a = some o
theorem Keep.same {M : Addr → Prop} {H H' : Hp} (s : Same H H') : Keep M M H H' := ⟨fun _ h => .inl h, fun a o _ h => s a o h⟩
theorem Keep.sub {M M' : Addr → Prop} {H H' : Hp} (h : ∀ a, M' a → M a) (s : Same H H') : Keep M M' H H' := ⟨fun a z => .inl (h a z), fun a o _ h => s a o h⟩
theorem Keep.not {M M' : Addr → Prop} {H H' : Hp} (k : Keep M M' H H') {a : Addr} {o : HO} (h : ¬ M a) (e : H a = some o) : ¬ M' a := fun z => by
  rcases k.m a z with y | y
  · exact h y
  · rw [y] at e; cases e
section
variable {K : PySem.W.Frag} {M M' : Addr → Prop} {H H' : Hp}
mutual
theorem PtA.to (k : Keep M M' H H') : ∀ (p : Pt) (v : V), PtA K M H p v → PtA K M' H' p v
  | .spot s n, v, h => by
    rw [PtA] at h ⊢
    obtain ⟨a, dx, p, e, h1, h2, h3, h4⟩ := h
    exact ⟨a, dx, p, e, k.not h1 h3, k.not h2 h4, k.k _ _ h1 h3, k.k _ _ h2 h4⟩
  | .over t ps, v, h => by
    rw [PtA] at h ⊢
    obtain ⟨a, dx, q, vs, e, h1, h2, h3, h4, h5⟩ := h
    exact ⟨a, dx, q, vs, e, k.not h1 h3, k.not h2 h4, k.k _ _ h1 h3, k.k _ _ h2 h4, PtLA.to k ps vs h5⟩
theorem PtLA.to (k : Keep M M' H H') : ∀ (ps : List Pt) (vs : List V), PtLA K M H ps vs → PtLA K M' H' ps vs
  | [], vs, h => by rw [PtLA] at h ⊢; exact h
  | p :: r, vs, h => by
    rw [PtLA] at h ⊢
    obtain ⟨v, vr, e, h1, h2⟩ := h
    exact ⟨v, vr, e, PtA.to k p v h1, PtLA.to k r vr h2⟩
end
theorem PtsA.to (k : Keep M M' H H') {ps : List Pt} {q : Addr} (h : PtsA K M H ps q) : PtsA K M' H' ps q := by
  obtain ⟨h1, vs, h2, h3⟩ := h
  exact ⟨k.not h1 h2, vs, k.k _ _ h1 h2, h3.to k⟩
mutual
theorem LgA.to (k : Keep M M' H H') : ∀ (p : Pt) (v : V), LgA M H p v → LgA M' H' p v
  | .spot s n, v, h => by
    rw [LgA] at h ⊢
    obtain ⟨p, e, h1, h2⟩ := h
    exact ⟨p, e, k.not h1 h2, k.k _ _ h1 h2⟩
  | .over t ps, v, h => by
    rw [LgA] at h ⊢
    obtain ⟨p, b, vs, e, h1, h2, h3, h4, h5⟩ := h
    exact ⟨p, b, vs, e, k.not h1 h3, k.not h2 h4, k.k _ _ h1 h3, k.k _ _ h2 h4, LgLA.to k ps vs h5⟩
theorem LgLA.to (k : Keep M M' H H') : ∀ (ps : List Pt) (vs : List V), LgLA M H ps vs → LgLA M' H' ps vs
  | [], vs, h => by rw [LgLA] at h ⊢; exact h
  | p :: r, vs, h => by
    rw [LgLA] at h ⊢
    obtain ⟨v, vr, e, h1, h2⟩ := h
    exact ⟨v, vr, e, LgA.to k p v h1, LgLA.to k r vr h2⟩
end
theorem LgsA.to (k : Keep M M' H H') {ps : List Pt} {q : Addr} (h : LgsA M H ps q) : LgsA M' H' ps q := by
  obtain ⟨h1, vs, h2, h3⟩ := h
  exact ⟨k.not h1 h2, vs, k.k _ _ h1 h2, h3.to k⟩
theorem PtLA.len : ∀ (ps : List Pt) (vs : List V), PtLA K M H ps vs → vs.length = ps.length
  | [], vs, h => by rw [PtLA] at h; rw [h]; rfl
  | p :: r, vs, h => by
    rw [PtLA] at h
    obtain ⟨v, vr, e, h1, h2⟩ := h
    rw [e, List.length_cons, List.length_cons, PtLA.len r vr h2]
theorem PtLA.get : ∀ (ps : List Pt) (vs : List V) {i : Nat} {v : V}, PtLA K M H ps vs → vs[i]? = some v → ∃ p, ps[i]? = some p ∧ PtA K M H p v
  | [], vs, i, v, h, e => by rw [PtLA] at h; rw [h] at e; simp at e
  | p :: r, vs, i, v, h, e => by
    rw [PtLA] at h
    obtain ⟨v0, vr, ev, h1, h2⟩ := h
    rw [ev] at e
    cases i with
    | zero => exact ⟨p, rfl, by rw [← Option.some.inj (show some v0 = some v from e)]; exact h1⟩
    | succ i => exact PtLA.get r vr (i := i) h2 e
theorem PtLA.app : ∀ (ps qs : List Pt) (vs ws : List V), PtLA K M H ps vs → PtLA K M H qs ws → PtLA K M H (ps ++ qs) (vs ++ ws)
  | [], qs, vs, ws, h, g => by rw [PtLA] at h; rw [h]; exact g
  | p :: r, qs, vs, ws, h, g => by
    rw [PtLA] at h
    obtain ⟨v, vr, e, h1, h2⟩ := h
    rw [e]
    show PtLA K M H (p :: (r ++ qs)) (v :: (vr ++ ws))
    rw [PtLA]
    exact ⟨v, vr ++ ws, rfl, h1, PtLA.app r qs vr ws h2 g⟩
theorem PtLA.one {p : Pt} {v : V} (h : PtA K M H p v) : PtLA K M H [p] [v] := by rw [PtLA]; exact ⟨v, [], rfl, h, by rw [PtLA]⟩
theorem PtLA.nil : PtLA K M H [] [] := by rw [PtLA]
theorem LgLA.len : ∀ (ps : List Pt) (vs : List V), LgLA M H ps vs → vs.length = ps.length
  | [], vs, h => by rw [LgLA] at h; rw [h]; rfl
  | p :: r, vs, h => by
    rw [LgLA] at h
    obtain ⟨v, vr, e, h1, h2⟩ := h
    rw [e, List.length_cons, List.length_cons, LgLA.len r vr h2]
theorem LgLA.get : ∀ (ps : List Pt) (vs : List V) {i : Nat} {v : V}, LgLA M H ps vs → vs[i]? = some v → ∃ p, ps[i]? = some p ∧ LgA M H p v
  | [], vs, i, v, h, e => by rw [LgLA] at h; rw [h] at e; simp at e
  | p :: r, vs, i, v, h, e => by
    rw [LgLA] at h
    obtain ⟨v0, vr, ev, h1, h2⟩ := h
    rw [ev] at e
    cases i with
    | zero => exact ⟨p, rfl, by rw [← Option.some.inj (show some v0 = some v from e)]; exact h1⟩
    | succ i => exact LgLA.get r vr (i := i) h2 e
theorem LgLA.app : ∀ (ps qs : List Pt) (vs ws : List V), LgLA M H ps vs → LgLA M H qs ws → LgLA M H (ps ++ qs) (vs ++ ws)
  | [], qs, vs, ws, h, g => by rw [LgLA] at h; rw [h]; exact g
  | p :: r, qs, vs, ws, h, g => by
    rw [LgLA] at h
    obtain ⟨v, vr, e, h1, h2⟩ := h
    rw [e]
    show LgLA M H (p :: (r ++ qs)) (v :: (vr ++ ws))
    rw [LgLA]
    exact ⟨v, vr ++ ws, rfl, h1, LgLA.app r qs vr ws h2 g⟩
theorem LgLA.one {p : Pt} {v : V} (h : LgA M H p v) : LgLA M H [p] [v] := by rw [LgLA]; exact ⟨v, [], rfl, h, by rw [LgLA]⟩
/-- a long row does not tell its numbers -/
theorem LgA_ba : ∀ (p : Pt) (v : V), LgA M H p v ↔ LgA M H p.ba v := by
  intro p
  induction p using Pt.rec (motive_2 := fun ps => ∀ vs, LgLA M H ps vs ↔ LgLA M H (bas ps) vs) with
  | spot s n => intro v; rw [Pt.ba, LgA, LgA]
  | over t ps ih => intro v; rw [Pt.ba, LgA, LgA]; simp only [ih]
  | nil => rename_i vs; rw [bas]
  | cons p r h1 h2 => rename_i vs; rw [bas, LgLA, LgLA]; simp only [h1, h2]
theorem LgLA_ba : ∀ (ps : List Pt) (vs : List V), LgLA M H ps vs ↔ LgLA M H (bas ps) vs
  | [], vs => by rw [bas]
  | p :: r, vs => by rw [bas, LgLA, LgLA]; simp only [LgLA_ba r, ← LgA_ba p]
/-- by the heap alone: more may be written than is -/
theorem PtA.fresh {x : Addr} {p : Pt} {v : V} (h : PtA K M H p v) (hx : H x = none) : PtA K (fun a => M a ∨ a = x) H p v :=
  h.to ⟨fun a z => z.elim .inl fun e => .inr (e ▸ hx), fun _ _ _ h => h⟩
theorem PtsA.fresh {x : Addr} {ps : List Pt} {q : Addr} (h : PtsA K M H ps q) (hx : H x = none) : PtsA K (fun a => M a ∨ a = x) H ps q :=
  h.to ⟨fun a z => z.elim .inl fun e => .inr (e ▸ hx), fun _ _ _ h => h⟩
theorem PtLA.fresh {x : Addr} {ps : List Pt} {vs : List V} (h : PtLA K M H ps vs) (hx : H x = none) : PtLA K (fun a => M a ∨ a = x) H ps vs :=
  h.to ⟨fun a z => z.elim .inl fun e => .inr (e ▸ hx), fun _ _ _ h => h⟩
theorem LgLA.fresh {x : Addr} {ps : List Pt} {vs : List V} (h : LgLA M H ps vs) (hx : H x = none) : LgLA (fun a => M a ∨ a = x) H ps vs :=
  h.to ⟨fun a z => z.elim .inl fun e => .inr (e ▸ hx), fun _ _ _ h => h⟩
theorem LgsA.fresh {x : Addr} {ps : List Pt} {q : Addr} (h : LgsA M H ps q) (hx : H x = none) : LgsA (fun a => M a ∨ a = x) H ps q :=
  h.to ⟨fun a z => z.elim .inl fun e => .inr (e ▸ hx), fun _ _ _ h => h⟩
theorem keep_wr {x : Addr} {o : HO} (h : M x) : Keep M M H (upd H x o) := ⟨fun _ z => .inl z, fun a u n e => by rw [upd_ne (fun z : a = x => n (by rw [z]; exact h))]; exact e⟩
end
theorem same_upd {H : Hp} {p : Addr} {o : HO} (h : H p = none) : Same H (upd H p o) := fun b u q => by rw [upd_ne (ne_of_none q h)]; exact q
/-- what was not there at the start may be written -/
theorem _root_.L2.Same.wr {H H1 : Hp} {p : Addr} {o : HO} (s : Same H H1) (h : H p = none) : Same H (upd H1 p o) := fun b u q => by rw [upd_ne (ne_of_none q h)]; exact s b u q
theorem sz {n : Nat} (h : n ≤ 16777216) : n ≤ sizeLine := by rw [sizeLine_eq]; exact h
theorem szl {n : Nat} (h : n < 16777216) : n < sizeLine := by rw [sizeLine_eq]; exact h
/-- the parts' numbers are below 2 ^ 104 -/
theorem bb_bits : BB < 2 ^ 104 := by decide
theorem wide_of {i j : Int} (hi : i.natAbs < 2 ^ 400000) (hj : j.natAbs < 2 ^ 400000) : CMulW i j := wide_mul hi hj (by omega) (by omega) (by omega)
/-- below the bound of what is multiplied -/
def Mid (i : Int) : Prop := -(BB * BB) ≤ i ∧ i ≤ BB * BB
theorem mid_nat {i : Int} (h : Mid i) : i.natAbs < 2 ^ 250 := by
  have h1 : BB * BB = 100000000000000000000000000000000000000000000000000000000000000 := by decide
  obtain ⟨a, b⟩ := h
  rw [h1] at a b
  have e : (2 : Nat) ^ 250 = 1809251394333065553493296640760748560207343510400633813116524750123642650624 := by decide
  rw [e]
  omega
theorem mid_mul {i j : Int} (hi : Mid i) (hj : Mid j) : CMulW i j := wide_mul (mid_nat hi) (mid_nat hj) (by decide) (by decide) (by decide)
theorem mid_div {i j : Int} (hj : Mid j) (h0 : 0 < j) : CDivW i j := wide_div h0 (mid_nat hj) (by decide) (by decide)
theorem mid_of {i : Int} (h0 : 0 ≤ i) (h1 : i ≤ BB) : Mid i := by
  have : BB ≤ BB * BB := by decide
  have h2 : 0 ≤ BB * BB := by decide
  exact ⟨by omega, by omega⟩
/-! ### dicts, step by step -/
section
variable {σ : L2.St} {H : Hp} {Q : VK} {te ta tb tx td ty : TE} {tc : TT} {K : PySem.W.Frag} {t : TA}
def pDGet (x y : V) (H : Hp) (Q : VK) : Prop := ∃ a v, x = .ref a ∧ DGet H a y (some v) ∧ Q v H
theorem r_dget (k : td σ H fun x H1 => ty σ H1 fun y H2 => pDGet x y H2 Q) : tDGet td ty σ H Q := k
def pDIn (y x : V) (H : Hp) (Q : VK) : Prop := ∃ a o, x = .ref a ∧ DGet H a y o ∧ Q (.bl o.isSome) H
theorem r_din (k : ty σ H fun y H1 => td σ H1 fun x H2 => pDIn y x H2 Q) : tDIn ty td σ H Q := k
def pDNotIn (y x : V) (H : Hp) (Q : VK) : Prop := ∃ a o, x = .ref a ∧ DGet H a y o ∧ Q (.bl (!o.isSome)) H
theorem r_dnotin (k : ty σ H fun y H1 => td σ H1 fun x H2 => pDNotIn y x H2 Q) : tDNotIn ty td σ H Q := k
def pIsD (x : V) (H : Hp) (k : Prop) : Prop := (∃ a, x = .ref a ∧ IsD H a) ∧ k
def pDGet2 (x y z : V) (H : Hp) (Q : VK) : Prop := ∃ a o, x = .ref a ∧ DGet H a y o ∧ Q (o.getD z) H
theorem dref {a : Addr} {y z : V} {H : Hp} {Q : VK} : pDGet2 (.ref a) y z H Q = ∃ o, DGet H a y o ∧ Q (o.getD z) H := by
  unfold pDGet2
  apply propext
  constructor
  · rintro ⟨b, o, e, h⟩; cases e; exact ⟨o, h⟩
  · rintro ⟨o, h⟩; exact ⟨a, o, rfl, h⟩
theorem r_dget2 (k : td σ H fun x H1 => pIsD x H1 (ty σ H1 fun y H2 => tx σ H2 fun z H3 => pDGet2 x y z H3 Q)) : tDGet2 td ty tx σ H Q := by
  have e : (fun (x : V) (H1 : Hp) => ∃ a, x = .ref a ∧ IsD H1 a ∧ ty σ H1 fun y H2 => tx σ H2 fun z H3 => ∃ o, DGet H3 a y o ∧ Q (o.getD z) H3) = fun x H1 => pIsD x H1 (ty σ H1 fun y H2 => tx σ H2 fun z H3 => pDGet2 x y z H3 Q) := by
    funext x H1
    unfold pIsD
    apply propext
    constructor
    · rintro ⟨a, rfl, h, k⟩; simp only [dref]; exact ⟨⟨a, rfl, h⟩, k⟩
    · rintro ⟨⟨a, rfl, h⟩, k⟩; simp only [dref] at k; exact ⟨a, rfl, h, k⟩
  unfold tDGet2
  rw [e]
  exact k
def pDPop1 (x y : V) (H : Hp) (Q : VK) : Prop := ∃ a kvs k v, x = .ref a ∧ H a = some (.dK kvs) ∧ y = kV k ∧ valV kvs k = some v ∧ Q v (upd H a (.dK (dropK kvs k)))
theorem pref {a : Addr} {y : V} {H : Hp} {Q : VK} : pDPop1 (.ref a) y H Q = ∃ kvs k v, H a = some (.dK kvs) ∧ y = kV k ∧ valV kvs k = some v ∧ Q v (upd H a (.dK (dropK kvs k))) := by
  unfold pDPop1
  apply propext
  constructor
  · rintro ⟨b, kvs, k, v, e, h⟩; cases e; exact ⟨kvs, k, v, h⟩
  · rintro ⟨kvs, k, v, h⟩; exact ⟨a, kvs, k, v, rfl, h⟩
theorem r_dpop1 (k : td σ H fun x H1 => pIsD x H1 (ty σ H1 fun y H2 => pDPop1 x y H2 Q)) : tDPop1 td ty σ H Q := by
  have e : (fun (x : V) (H1 : Hp) => ∃ a, x = .ref a ∧ IsD H1 a ∧ ty σ H1 fun y H2 => ∃ kvs k v, H2 a = some (.dK kvs) ∧ y = kV k ∧ valV kvs k = some v ∧ Q v (upd H2 a (.dK (dropK kvs k)))) = fun x H1 => pIsD x H1 (ty σ H1 fun y H2 => pDPop1 x y H2 Q) := by
    funext x H1
    unfold pIsD
    apply propext
    constructor
    · rintro ⟨a, rfl, h, k⟩; simp only [pref]; exact ⟨⟨a, rfl, h⟩, k⟩
    · rintro ⟨⟨a, rfl, h⟩, k⟩; simp only [pref] at k; exact ⟨a, rfl, h, k⟩
  unfold tDPop1
  rw [e]
  exact k
theorem p_isD {a : Addr} {kvs : List (Key × V)} {k : Prop} (h : H a = some (.dK kvs)) (q : k) : pIsD (.ref a) H k := ⟨⟨a, rfl, .inl ⟨kvs, .inl h⟩⟩, q⟩
theorem r_dnew (k : ∀ p, H p = none → Q (.ref p) (upd H p (.dK []))) : tDNewK σ H Q := k
def pDisp1 (p : Addr) (x y : V) (H : Hp) (Q : VK) : Prop := H p = some (.dK []) ∧ ∃ k, x = kV k ∧ Q (.ref p) (upd H p (.dK [(k, y)]))
theorem r_disp1 (k : ∀ p, H p = none → ta σ (upd H p (.dK [])) fun x H1 => tb σ H1 fun y H2 => pDisp1 p x y H2 Q) : tDisp [(ta, tb)] σ H Q := by
  intro p hp
  have e : ∀ x y H2, pDisp1 p x y H2 Q → (H2 p = some (.dK []) ∧ ∃ kvs : List (Key × V), [(x, y)] = kvs.map (fun kv => (kV kv.1, kv.2)) ∧ kvs.length ≤ 15 ∧ Q (.ref p) (upd H2 p (.dK (mergeK [] kvs)))) := by
    rintro x y H2 ⟨h, k, rfl, q⟩
    exact ⟨h, [(k, y)], rfl, by show 1 ≤ 15; omega, q⟩
  have e2 : ∀ x y H2, (H2 p = some (.dK []) ∧ ∃ kvs : List (Key × V), [(x, y)] = kvs.map (fun kv => (kV kv.1, kv.2)) ∧ kvs.length ≤ 15 ∧ Q (.ref p) (upd H2 p (.dK (mergeK [] kvs)))) → pDisp1 p x y H2 Q := by
    rintro x y H2 ⟨h, kvs, ek, _, q⟩
    cases kvs with
    | nil => cases ek
    | cons a r => cases r with
      | cons b r => cases ek
      | nil => cases ek; exact ⟨h, _, rfl, q⟩
  have e3 : (fun (x : V) (H1 : Hp) => tb σ H1 fun y H2 => (H2 p = some (.dK []) ∧ ∃ kvs : List (Key × V), [(x, y)] = kvs.map (fun kv => (kV kv.1, kv.2)) ∧ kvs.length ≤ 15 ∧ Q (.ref p) (upd H2 p (.dK (mergeK [] kvs))))) = fun x H1 => tb σ H1 fun y H2 => pDisp1 p x y H2 Q := by
    funext x H1
    exact congrArg (tb σ H1) (by funext y H2; exact propext ⟨e2 x y H2, e x y H2⟩)
  show ta σ (upd H p (.dK [])) (fun x H1 => tb σ H1 fun y H2 => (H2 p = some (.dK []) ∧ ∃ kvs : List (Key × V), [(x, y)] = kvs.map (fun kv => (kV kv.1, kv.2)) ∧ kvs.length ≤ 15 ∧ Q (.ref p) (upd H2 p (.dK (mergeK [] kvs)))))
  rw [e3]
  exact k p hp
theorem r_pop0 {l : Addr} {xs : List V} {y : V} (h : H l = some (.lst xs)) (e : xs[xs.length - 1]? = some y) (k : Q y (upd H l (.lst xs.dropLast))) : rPop (.ref l) [] H Q := ⟨l, xs, y, rfl, rfl, h, e, k⟩
/-! targets -/
variable {QG : L2.St → Hp → Prop} {ts : TSet} {n b c : L2.St → Hp → Prop} {r : VK} {g : TG} {tS : TS}
theorem r_gSub {v : V} (k : ta σ H fun o H1 => tb σ H1 fun i H2 => ts o i v H2 fun H3 => QG σ H3) : gSub ta tb ts v σ H QG := k
theorem r_setD {a : Addr} {kvs : List (Key × V)} {k : Key} {v y : V} {N : Hp → Prop} (h : H a = some (.dK kvs)) (ey : y = kV k) (l : kvs.length < sizeLine) (q : N (upd H a (.dK (putK kvs k v)))) : rSetD (.ref a) y v H N := by
  subst ey
  exact ⟨a, _, rfl, DPut.k h l, q⟩
theorem r_setL {p : Addr} {xs : List V} {k : Int} {j : Nat} {v : V} {N : Hp → Prop} (h : H p = some (.lst xs)) (e : ixN xs.length k = some j) (q : N (upd H p (.lst (xs.set j v)))) : rSetL (.ref p) (.int k) v H N := ⟨p, xs, k, j, rfl, rfl, h, e, q⟩
def pDPut (x y v : V) (σ : L2.St) (H : Hp) (n : L2.St → Hp → Prop) : Prop := ∃ a H4, x = .ref a ∧ DPut H a y v H4 ∧ n σ H4
theorem r_dput {tv : TE} (k : tv σ H fun v H1 => td σ H1 fun x H2 => ty σ H2 fun y H3 => pDPut x y v σ H3 n) : sDPut td ty tv ⟨n, r, b, c⟩ σ H := k
theorem p_dput {a : Addr} {kvs : List (Key × V)} {k : Key} {v y : V} (h : H a = some (.dK kvs)) (ey : y = kV k) (l : kvs.length < sizeLine) (q : n σ (upd H a (.dK (putK kvs k v)))) : pDPut (.ref a) y v σ H n := by
  subst ey
  exact ⟨a, _, rfl, DPut.k h l, q⟩
/-! items -/
def pForI (g : TG) (tb : TS) (n b c : L2.St → Hp → Prop) (r : VK) (σ : L2.St) (x : V) (H : Hp) : Prop := ∃ d o kvs, x = .ref d ∧ H d = some (.frz o (.dK kvs)) ∧ pFor (Iti d o kvs) g tb n b c r σ H
theorem r_forI (k : te σ H fun x H1 => pForI g tS n b c r σ x H1) : tFor (iItems te) g tS ⟨n, r, b, c⟩ σ H := k
theorem p_forI {d : Addr} {o : Obj} {kvs : List (Key × V)} (h : H d = some (.frz o (.dK kvs))) (Pv : Nat → L2.St → Hp → Prop) (h0 : Pv 0 σ H) (hl : ∀ i σ H, i ≤ kvs.length → Pv i σ H → H d = some (.frz o (.dK kvs)))
    (hs : ∀ i T k v σ H, kvs[i]? = some (k, v) → H T = none → Pv i σ H → g (.ref T) σ (upd H T (.tup [kV k, v])) fun σ2 H2 => tS ⟨Pv (i + 1), r, n, Pv (i + 1)⟩ σ2 H2) (hd : ∀ σ H, Pv kvs.length σ H → n σ H) : pForI g tS n b c r σ (.ref d) H := by
  refine ⟨d, o, kvs, rfl, h, for_it (D := ⟨n, r, b, c⟩) walk_items Pv h0 hl ?_ hd⟩
  rintro i x σ H H' hi p ⟨T, x1, x2, rfl, hT, rfl, e1, e2⟩
  have e1 : (kvs[i]?.map fun kv => kV kv.1) = some x1 := e1
  have e2 : kvs[i]?.map Prod.snd = some x2 := e2
  cases hk : kvs[i]? with
  | none => rw [hk] at e1; cases e1
  | some kv =>
    rw [hk] at e1 e2
    cases e1
    cases e2
    exact hs i T kv.1 kv.2 σ H hk hT p
theorem r_frz (k : td σ H fun x H1 => ∃ d u, x = .ref d ∧ H1 d = some u ∧ Mut (some u) ∧ ∀ od, Q x (upd H1 d (.frz od u))) : tFrz td σ H Q := k
end
/-! ### pairs by keys as a dict's pairs -/
section
variable {κ α : Type} [DecidableEq κ]
def mkD (f : κ → Key) (g : α → V) (l : List (κ × α)) : List (Key × V) := l.map fun e => (f e.1, g e.2)
theorem mkD_len (f : κ → Key) (g : α → V) (l : List (κ × α)) : (mkD f g l).length = l.length := by unfold mkD; rw [List.length_map]
theorem mkD_get {f : κ → Key} {g : α → V} (l : List (κ × α)) {i : Nat} {k : Key} {v : V} (h : (mkD f g l)[i]? = some (k, v)) : ∃ e, l[i]? = some e ∧ k = f e.1 ∧ v = g e.2 := by
  unfold mkD at h
  rw [List.getElem?_map] at h
  cases q : l[i]? with
  | none => rw [q] at h; cases h
  | some e => rw [q] at h; cases h; exact ⟨e, rfl, rfl, rfl⟩
theorem mkD_val {f : κ → Key} {g : α → V} (hf : ∀ a b, f a = f b → a = b) (k : κ) : ∀ l : List (κ × α), valV (mkD f g l) (f k) = (aget l k).map g
  | [] => rfl
  | p :: l => by
    rw [aget_cons]
    show valV ((f p.1, g p.2) :: mkD f g l) (f k) = _
    by_cases c : p.1 = k
    · rw [valV_pos (by show f p.1 = f k; rw [c]), if_pos c]; rfl
    · rw [valV_neg (fun z => c (hf _ _ z)), if_neg c, mkD_val hf k l]
theorem mkD_put {f : κ → Key} {g : α → V} (hf : ∀ a b, f a = f b → a = b) (k : κ) (a : α) (l : List (κ × α)) : putK (mkD f g l) (f k) (g a) = mkD f g (aput l k a) := by
  unfold putK aput
  have e : ((mkD f g l).any fun kv => decide (kv.1 = f k)) = l.any fun e => decide (e.1 = k) := by
    unfold mkD
    rw [List.any_map]
    congr 1
    funext x
    exact decide_eq_decide.mpr ⟨fun z => hf _ _ z, fun z => by show f x.1 = f k; rw [z]⟩
  rw [e]
  split
  · unfold mkD
    rw [List.map_map, List.map_map]
    refine List.map_congr_left fun x _ => ?_
    show (if f x.1 = f k then (f x.1, g a) else (f x.1, g x.2)) = (f (if x.1 = k then (x.1, a) else x).1, g (if x.1 = k then (x.1, a) else x).2)
    by_cases c : x.1 = k
    · rw [if_pos c, if_pos (by rw [c])]
    · rw [if_neg c, if_neg fun z => c (hf _ _ z)]
  · unfold mkD
    rw [List.map_append]; rfl
theorem mkD_drop {f : κ → Key} {g : α → V} (hf : ∀ a b, f a = f b → a = b) (k : κ) (l : List (κ × α)) : dropK (mkD f g l) (f k) = mkD f g (adrop l k) := by
  unfold dropK adrop mkD
  rw [List.filter_map]
  congr 1
  refine List.filter_congr fun x _ => ?_
  show decide (f x.1 ≠ f k) = decide (x.1 ≠ k)
  exact decide_eq_decide.mpr ⟨fun z c => z (by rw [c]), fun z c => z (hf _ _ c)⟩
end
abbrev mkI (l : List (Int × Int)) : List (Key × V) := mkD Sum.inl V.int l
abbrev mkR (l : List (Int × Addr)) : List (Key × V) := mkD Sum.inl V.ref l
abbrev mkS (l : List (Str × Addr)) : List (Key × V) := mkD Sum.inr V.ref l
theorem inl_inj : ∀ a b : Int, (Sum.inl a : Key) = Sum.inl b → a = b := fun a b h => Sum.inl.inj h
theorem inr_inj : ∀ a b : Str, (Sum.inr a : Key) = Sum.inr b → a = b := fun a b h => Sum.inr.inj h
/-- all stands but at D -/
def SameX (D : Addr) (H H' : Hp) : Prop := ∀ b u, b ≠ D → H b = some u → H' b = some u
theorem SameX.refl (D : Addr) (H : Hp) : SameX D H H := fun _ _ _ h => h
theorem SameX.of {D : Addr} {H H' : Hp} (s : Same H H') : SameX D H H' := fun b u _ h => s b u h
theorem SameX.trans {D : Addr} {H H1 H2 : Hp} (s : SameX D H H1) (t : SameX D H1 H2) : SameX D H H2 := fun b u n h => t b u n (s b u n h)
theorem SameX.wr {D : Addr} {H H1 : Hp} {o : HO} (s : SameX D H H1) : SameX D H (upd H1 D o) := fun b u n h => by rw [upd_ne n]; exact s b u n h
theorem SameX.same {D : Addr} {H0 H H' : Hp} (s : Same H0 H) (h : H0 D = none) (t : SameX D H H') : Same H0 H' := fun b u q => t b u (ne_of_none q h) (s b u q)
theorem SameX.keep {D : Addr} {M : Addr → Prop} {H H' : Hp} (s : SameX D H H') (h : M D) : Keep M M H H' := ⟨fun _ z => .inl z, fun a o n e => s a o (fun z => n (z ▸ h)) e⟩
local macro_rules | `(tactic| walk_at "rd1") => `(tactic| first
  | ((with_reducible refine' r_var ?rdh ?_); (case rdh => exact rfl))
  | with_reducible refine r_c ?_ | with_reducible refine r_op ?_ | with_reducible refine r_add ?_ | with_reducible refine r_sub ?_ | with_reducible refine r_lt ?_ | with_reducible refine r_le ?_
  | with_reducible refine r_gt ?_ | with_reducible refine r_ge ?_ | with_reducible refine r_eqI ?_ | with_reducible refine r_neI ?_ | with_reducible refine r_isN ?_ | with_reducible refine r_notN ?_
  | with_reducible refine r_fld ?_ | with_reducible refine p_bl ?_ | with_reducible refine r_test ?_ | with_reducible refine r_B ?_ | with_reducible refine r_not ?_ | with_reducible refine r_and ?_ | with_reducible refine r_or ?_
  | with_reducible refine r_andV ?_ | with_reducible refine r_orV ?_ | with_reducible refine r_notV ?_ | with_reducible refine r_if ?_ | with_reducible refine r_chain ?_ | with_reducible refine r_nil ?_ | with_reducible refine r_cons ?_
  | with_reducible refine r_call ?_ | with_reducible refine r_meth ?_ | with_reducible refine r_make ?_ | with_reducible refine r_CB ?_ | with_reducible refine r_lst ?_ | with_reducible refine r_tup ?_ | with_reducible refine r_BM ?_ | with_reducible refine r_BM0 ?_
  | with_reducible refine r_rev ?_ | with_reducible refine r_yes ?_ | with_reducible refine r_min ?_ | with_reducible refine r_max ?_ | with_reducible refine r_abs ?_ | with_reducible refine r_seq ?_ | with_reducible refine r_next ?_ | with_reducible refine r_asg ?_ | with_reducible refine r_asgG ?_ | with_reducible refine r_drop ?_ | with_reducible refine r_ret ?_ | with_reducible refine r_ifS ?_
  | with_reducible refine r_sFld ?_ | with_reducible refine r_gName ?_ | with_reducible refine r_gCons ?_ | with_reducible refine r_gNil ?_ | with_reducible refine r_dput ?_ | with_reducible refine r_dget ?_ | with_reducible refine r_din ?_ | with_reducible refine r_dnotin ?_ | with_reducible refine r_dget2 ?_ | with_reducible refine r_dpop1 ?_ | with_reducible refine r_gSub ?_ | with_reducible refine r_forI ?_ | with_reducible refine r_frz ?_ | with_reducible refine r_forL ?_ | with_reducible refine r_forR ?_ | with_reducible refine r_un ?_
  | ((with_reducible refine' r_augI ?rdh ?_); (case rdh => exact rfl)) | with_reducible refine r_ip ?_)
local macro_rules | `(tactic| walk_at "rd") => `(tactic| repeat walk_at "rd1")
/-! ### promises, the small defs -/
def spNum : Sp := fun vs H Q _ => ∃ i : Int, vs = [.int i] ∧ Q (.bl (decide (0 ≤ i))) H
def spNeedNum : Sp := fun vs H Q _ => ∃ i : Int, vs = [.int i] ∧ 0 ≤ i ∧ Q .non H
def spNeedPlace : Sp := fun vs H Q _ => ∃ i m : Int, vs = [.int i, .int m] ∧ 0 ≤ i ∧ i ≤ m ∧ Q .non H
def spSaying : Sp := fun vs H Q _ => ∃ (a : Addr) (xs : List V), vs = [.ref a] ∧ H a = some (.tup xs) ∧ ((∃ s, xs = sgV s ∧ sgOk s ∧ Q (.bl true) H) ∨ (xs.length = 3 ∧ Q (.bl false) H))
def spNeedSaying : Sp := fun vs H Q _ => ∃ (a : Addr) (s : Sg), vs = [.ref a] ∧ H a = some (.tup (sgV s)) ∧ sgOk s ∧ Q .non H
def isSo (s : Sg) (x : Int) : Bool := decide (s.1 ≤ x) && (match s.2 with | none => true | some m => decide (x ≤ m))
def spIsSo : Sp := fun vs H Q _ => ∃ (a : Addr) (s : Sg) (x : Int), vs = [.ref a, .int x] ∧ H a = some (.tup (sgV s)) ∧ Q (.bl (isSo s x)) H
section
variable {P : Program} {w : World} {K : PySem.W.Frag} {mg : Str → Option Value} {base : Heap}
theorem isi_int {H : Hp} {Q : VK} {i : Int} {b : String} {r : Bool} (h : kitB "int" b = some r) (q : Q (.bl r) H) : rIsi K [.int i, .ty b] H Q := ⟨_, _, _, _, _, rfl, .ty b, .base (.int i), kit_ty h, q⟩
theorem isi_str {H : Hp} {Q : VK} {i : Str} {b : String} {r : Bool} (h : kitB "str" b = some r) (q : Q (.bl r) H) : rIsi K [.str i, .ty b] H Q := ⟨_, _, _, _, _, rfl, .ty b, .base (.str i), kit_ty h, q⟩
theorem isi_tup {H : Hp} {Q : VK} {a : Addr} {xs : List V} {b : String} {r : Bool} (e : H a = some (.tup xs)) (h : kitB "tuple" b = some r) (q : Q (.bl r) H) : rIsi K [.ref a, .ty b] H Q := ⟨_, _, _, _, _, rfl, .ty b, .base (.tup e), kit_ty h, q⟩
theorem kb1 : kitB "int" "int" = some true := by decide +kernel
theorem kb2 : kitB "int" "bool" = some false := by decide +kernel
theorem kb3 : kitB "tuple" "tuple" = some true := by decide +kernel
theorem kb4 : kitB "str" "str" = some true := by decide +kernel
theorem ok_is_number (T : Txt K mg) : FnOk P w K mg base CX0 1 (He.ga K "is_number") T.fd_is_number ["thing"] spNum := by
  refine T.d_is_number.F.ok sc_is_number (fun vs H Q E h => ?_) (fun cdv A outer s H vs Q E hr h => ⟨_, PSs.nox (pss_one (ps_ret (pe_and (pe_callB call_isi (by rfl) T.z_isinstance bt_isinstance (pa_cons (pv 0) (pa_cons (pe_bltn (v := .ty "int") (by rfl) T.z_int bt_int rfl) pa_nil))) (pe_and (pe_not (pe_callB call_isi (by rfl) T.z_isinstance bt_isinstance (pa_cons (pv 0) (pa_cons (pe_bltn (v := .ty "bool") (by rfl) T.z_bool bt_bool rfl) pa_nil)))) (pe_one (pe_cmpR op_ge (pv 0) pe_int (nomark _))))))), ?_⟩)
  · obtain ⟨i, rfl, _⟩ := h; rfl
  obtain ⟨i, rfl, q⟩ := h
  walk_at "rd"
  refine isi_int kb1 ?_
  walk_at "rd"
  refine iteT ?_
  walk_at "rd"
  refine isi_int kb2 ?_
  walk_at "rd"
  refine iteT ?_
  walk_at "rd"
  exact q
theorem atI0 {x : V} {xs : List V} : atI (x :: xs) 0 = some x := atI_nat (j := 0) rfl
theorem atI1 {x y : V} {xs : List V} : atI (x :: y :: xs) 1 = some y := atI_nat (j := 1) rfl
theorem atI2 {x y z : V} {xs : List V} : atI (x :: y :: z :: xs) 2 = some z := atI_nat (j := 2) rfl
theorem ok_is_saying (T : Txt K mg) {k : Nat} (G_is_number : FnOk P w K mg base CX0 (k + 1) (He.ga K "is_number") T.fd_is_number ["thing"] spNum) : FnOk P w K mg base CX0 (k + 2) (He.ga K "is_saying") T.fd_is_saying ["thing"] spSaying := by
  refine T.d_is_saying.F.ok sc_is_saying (fun vs H Q E h => ?_) (fun cdv A outer s H vs Q E hr h => ⟨_, PSs.nox (pss_cons (ps_if (PW.pt (pw_or (pt_not (pt_val (pe_callB call_isi (by rfl) T.z_isinstance bt_isinstance (pa_cons (pv 0) (pa_cons (pe_bltn (v := .ty "tuple") (by rfl) T.z_tuple bt_tuple rfl) pa_nil))))) (pw_or (pt_cmpR op_ne (pe_callB call_lenS (by rfl) T.z_len bt_len (pa_cons (pv 0) pa_nil)) pe_int (nomark _)) (pw_or1 (pt_not (pt_val (pe_call G_is_number (hr.mono (by omega)) rfl T.g_is_number T.d_is_number.F.kp T.d_is_number.b .nil pass0 (pa_cons (pe_ix ix_tup (pv 0) pe_int (fun _ _ => rfl)) pa_nil)))))))) (pss_one (ps_ret pe_bl)) pss_nil)
    (pss_one (ps_ret (pe_or (pe_cmpR op_non (pe_ix ix_tup (pv 0) pe_int (fun _ _ => rfl)) pe_non (nomark _)) (pe_one (pe_and (pe_call G_is_number (hr.mono (by omega)) rfl T.g_is_number T.d_is_number.F.kp T.d_is_number.b .nil pass0 (pa_cons (pe_ix ix_tup (pv 0) pe_int (fun _ _ => rfl)) pa_nil)) (pe_one (pe_cmpR op_ge (pe_ix ix_tup (pv 0) pe_int (fun _ _ => rfl)) (pe_ix ix_tup (pv 0) pe_int (fun _ _ => rfl)) (nomark _))))))))), ?_⟩)
  · obtain ⟨a, xs, rfl, _⟩ := h; rfl
  obtain ⟨a, xs, rfl, ha, q⟩ := h
  walk_at "rd"
  refine isi_tup ha kb3 ?_
  walk_at "rd"
  refine iteF ?_
  walk_at "rd"
  refine len_tup ha ?_
  walk_at "rd"
  rcases q with ⟨⟨l, m⟩, rfl, ⟨h1, h2, h3⟩, q⟩ | ⟨h3, q⟩
  · refine ite_nf rfl ?_
    walk_at "rd"
    refine r_ixT ha atI0 ?_
    walk_at "rd"
    refine ⟨_, rfl, ?_⟩
    walk_at "rd"
    have e : (!decide (0 ≤ l)) = false := by rw [decide_eq_true h1]; rfl
    rw [e]
    refine iteF ?_
    walk_at "rd"
    refine r_ixT ha atI1 ?_
    walk_at "rd"
    cases m with
    | none =>
      refine ite_t rfl ?_
      exact q
    | some m =>
      have ha : H a = some (.tup [.int l, .int m]) := ha
      have h3 : l ≤ m ∧ m ≤ BB := h3 m rfl
      refine ite_f (fun z => by cases z) ?_
      walk_at "rd"
      refine r_ixT ha atI1 ?_
      walk_at "rd"
      refine ⟨m, rfl, ?_⟩
      walk_at "rd"
      refine ite_t (by omega) ?_
      walk_at "rd"
      refine r_ixT ha atI1 ?_
      walk_at "rd"
      refine r_ixT ha atI0 ?_
      walk_at "rd"
      rw [decide_eq_true h3.1]
      exact q
  · refine ite_nt (by rw [h3]; decide) ?_
    walk_at "rd"
    refine iteT ?_
    walk_at "rd"
    exact q
theorem ok_need_number (T : Txt K mg) {k : Nat} (G_is_number : FnOk P w K mg base CX0 (k + 1) (He.ga K "is_number") T.fd_is_number ["thing"] spNum) : FnOk P w K mg base CX0 (k + 2) (He.ga K "need_number") T.fd_need_number ["thing"] spNeedNum := by
  refine T.d_need_number.F.ok sc_need_number (fun vs H Q E h => ?_) (fun cdv A outer s H vs Q E hr h => ⟨_, PSs.nox (pss_one (ps_if (pt_not (pt_val (pe_call G_is_number (hr.mono (by omega)) rfl T.g_is_number T.d_is_number.F.kp T.d_is_number.b .nil pass0 (pa_cons (pv 0) pa_nil)))) (pss_one ps_never) pss_nil)), ?_⟩)
  · obtain ⟨i, rfl, _⟩ := h; rfl
  obtain ⟨i, rfl, h0, q⟩ := h
  walk_at "rd"
  refine ⟨i, rfl, ?_⟩
  walk_at "rd"
  refine ite_nf h0 ?_
  walk_at "rd"
  exact q
theorem ok_need_saying (T : Txt K mg) {k : Nat} (G_is_saying : FnOk P w K mg base CX0 (k + 1) (He.ga K "is_saying") T.fd_is_saying ["thing"] spSaying) : FnOk P w K mg base CX0 (k + 2) (He.ga K "need_saying") T.fd_need_saying ["thing"] spNeedSaying := by
  refine T.d_need_saying.F.ok sc_need_saying (fun vs H Q E h => ?_) (fun cdv A outer s H vs Q E hr h => ⟨_, PSs.nox (pss_one (ps_if (pt_not (pt_val (pe_call G_is_saying (hr.mono (by omega)) rfl T.g_is_saying T.d_is_saying.F.kp T.d_is_saying.b .nil pass0 (pa_cons (pv 0) pa_nil)))) (pss_one ps_never) pss_nil)), ?_⟩)
  · obtain ⟨i, s, rfl, _⟩ := h; rfl
  obtain ⟨a, s, rfl, ha, h0, q⟩ := h
  walk_at "rd"
  refine ⟨a, _, rfl, ha, .inl ⟨s, rfl, h0, ?_⟩⟩
  walk_at "rd"
  refine iteF ?_
  walk_at "rd"
  exact q
theorem ok_need_place (T : Txt K mg) {k : Nat} (G_is_number : FnOk P w K mg base CX0 (k + 1) (He.ga K "is_number") T.fd_is_number ["thing"] spNum) : FnOk P w K mg base CX0 (k + 2) (He.ga K "need_place") T.fd_need_place ["thing", "most"] spNeedPlace := by
  refine T.d_need_place.F.ok sc_need_place (fun vs H Q E h => ?_) (fun cdv A outer s H vs Q E hr h => ⟨_, PSs.nox (pss_one (ps_if (PW.pt (pw_or (pt_not (pt_val (pe_call G_is_number (hr.mono (by omega)) rfl T.g_is_number T.d_is_number.F.kp T.d_is_number.b .nil pass0 (pa_cons (pv 0) pa_nil)))) (pw_or1 (pt_cmpR op_gt (pv 0) (pv 1) (nomark _))))) (pss_one ps_never) pss_nil)), ?_⟩)
  · obtain ⟨i, m, rfl, _⟩ := h; rfl
  obtain ⟨i, m, rfl, h0, h1, q⟩ := h
  walk_at "rd"
  refine ⟨i, rfl, ?_⟩
  walk_at "rd"
  refine ite_nf h0 ?_
  walk_at "rd"
  refine ite_f (by omega) ?_
  walk_at "rd"
  exact q
theorem ok_is_so (T : Txt K mg) : FnOk P w K mg base CX0 1 (He.ga K "is_so") T.fd_is_so ["saying", "number"] spIsSo := by
  refine T.d_is_so.F.ok sc_is_so (fun vs H Q E h => ?_) (fun cdv A outer s H vs Q E hr h => ⟨_, PSs.nox (pss_cons (ps_asg (pv 0) (pg_tup rfl (pgs_cons (pg_name (i := 2) sc_is_so.nd rfl (Or.inl rfl)) (pgs_cons (pg_name (i := 3) sc_is_so.nd rfl (Or.inl rfl)) pgs_nil))))
    (pss_one (ps_ret (pe_and (pe_cmpR op_le (pv 2) (pv 1) (nomark _)) (pe_one (pe_or (pe_cmpR op_non (pv 3) pe_non (nomark _)) (pe_one (pe_cmpR op_le (pv 1) (pv 3) (nomark _))))))))), ?_⟩)
  · obtain ⟨a, s, x, rfl, _⟩ := h; rfl
  obtain ⟨a, ⟨l, m⟩, x, rfl, ha, q⟩ := h
  have ha : H a = some (.tup [.int l, oV m]) := ha
  walk_at "rd"
  refine r_gTup ha rfl ?_
  walk_at "rd"
  unfold isSo at q
  dsimp only at q
  refine ite_d (fun c => ?_) fun c => ?_
  · rw [decide_eq_true c, Bool.true_and] at q
    walk_at "rd"
    cases m with
    | none =>
      refine ite_t rfl ?_
      exact q
    | some m =>
      refine ite_f (fun z => by cases z) ?_
      dsimp only [oV]
      walk_at "rd"
      exact q
  · rw [decide_eq_false c, Bool.false_and] at q
    exact q
/-! ### parts made, people counted -/
theorem fS_put (p : Addr) (n : Int) : putF "s8_many" (.int 1) (putF "s8_number" (.int n) (putF "s8_said" (.ref p) [])) = fS p n := by rfl
theorem fO_put (t : Int) (q : Addr) (o m : Int) : putF "s8_many" (.int m) (putF "s8_once" (.int o) (putF "s8_parts" (.ref q) (putF "s8_times" (.int t) []))) = fO4 t q o m := by rfl
theorem fO_l3 (t : Int) (q : Addr) (o : Int) : (putF "s8_once" (.int o) (putF "s8_parts" (.ref q) (putF "s8_times" (.int t) []))).lookup ("s8_once" : Str) = some (.int o) := by rfl
def spLaid (K : PySem.W.Frag) : Sp := fun vs H Q _ => ∃ (M : Addr → Prop) (q : Addr) (ps : List Pt), vs = [.ref q] ∧ PtsA K M H ps q ∧ wts ps ≤ 16000000 ∧ ∀ H', Same H H' → Q (.int (manys ps)) H'
def spSpotI (K : PySem.W.Frag) : Sp := fun vs H Q _ => ∃ (x dx p : Addr) (n : Int), vs = [.ref x, .ref p, .int n] ∧ H x = some (.ins (CS K) dx []) ∧
  ∀ H', H' x = some (.ins (CS K) dx (fS p n)) → (∀ b o, b ≠ x → H b = some o → H' b = some o) → Q .non H'
def spOverI (K : PySem.W.Frag) : Sp := fun vs H Q _ => ∃ (M : Addr → Prop) (x dx q : Addr) (t : Int) (ps : List Pt), vs = [.ref x, .int t, .ref q] ∧ H x = some (.ins (CO K) dx []) ∧ M x ∧ PtsA K M H ps q ∧ wts ps ≤ 16000000 ∧ (Pt.over t ps).ok ∧
  ∀ H', H' x = some (.ins (CO K) dx (fO4 t q (manys ps) (t * manys ps))) → (∀ b o, b ≠ x → H b = some o → H' b = some o) → Q .non H'
theorem ok_spot (T : Txt K mg) : FnOk P w K mg base CX0 1 (He.ma K (He.ga K "Spot") "__init__") T.fd_Spot__init ["self", "saying", "number"] (spSpotI K) := by
  refine T.d_Spot__init.F.ok sc_Spot__init (fun vs H Q E h => ?_) (fun cdv A outer s H vs Q E hr h => ⟨_, PSs.nox (pss_cons (ps_fld (pv 0) (pv 1) rfl)
    (pss_cons (ps_fld (pv 0) (pv 2) rfl)
    (pss_one (ps_fld (pv 0) pe_int rfl)))), ?_⟩)
  · obtain ⟨x, dx, p, n, rfl, _⟩ := h; rfl
  obtain ⟨x, dx, p, n, rfl, hx, q⟩ := h
  walk_at "rd"
  refine p_set hx T.cl_Spot T.n_Spot_s8_said (by show 0 < 1000; decide) ?_
  walk_at "rd"
  refine p_set upd_same T.cl_Spot T.n_Spot_s8_number (by show 1 < 1000; decide) ?_
  walk_at "rd"
  refine p_set upd_same T.cl_Spot T.n_Spot_s8_many (by show 2 < 1000; decide) ?_
  refine q _ upd_same fun b o hb e => ?_
  rw [upd_ne hb, upd_ne hb, upd_ne hb]
  exact e
/-- sum([part.s8_many for part in parts]) -/
def sumV : List Pt → List Int
  | [] => []
  | p :: r => p.many :: sumV r
theorem sumV_sum : ∀ ps : List Pt, (sumV ps).sum = manys ps
  | [] => by rw [manys]; rfl
  | p :: r => by rw [manys, ← sumV_sum r]; rfl
theorem sumV_take : ∀ (ps : List Pt) (i : Nat) {p : Pt}, ps[i]? = some p → (sumV ps).take (i + 1) = (sumV ps).take i ++ [p.many]
  | [], i, p, h => by simp at h
  | q :: r, 0, p, h => by
    have e : q = p := Option.some.inj h
    rw [e]; rfl
  | q :: r, i + 1, p, h => by
    have ih := sumV_take r i (p := p) h
    show q.many :: (sumV r).take (i + 1) = q.many :: ((sumV r).take i ++ [p.many])
    rw [ih]
theorem sumV_len : ∀ ps : List Pt, (sumV ps).length = ps.length
  | [] => rfl
  | p :: r => congrArg Nat.succ (sumV_len r)
theorem PtA.many {M : Addr → Prop} {H : Hp} {p : Pt} {v : V} (T : Txt K mg) (h : PtA K M H p v) {Q : VK} (q : Q (.int p.many) H) : pFld K "s8_many" v H Q := by
  cases p with
  | spot s n =>
    rw [PtA] at h
    obtain ⟨a, dx, p, rfl, _, _, h1, h2⟩ := h
    rw [Pt.many] at q
    exact p_fld h1 T.cl_Spot T.n_Spot_s8_many (fS_many _ _) q
  | over t ps =>
    rw [PtA] at h
    obtain ⟨a, dx, b, vs, rfl, _, _, h1, h2, _⟩ := h
    rw [Pt.many] at q
    exact p_fld h1 T.cl_Over T.n_Over_s8_many (fO_many _ _ _ _) q
theorem ok_laid_many (T : Txt K mg) : FnOk P w K mg base CX0 1 (He.ga K "laid_many") T.fd_laid_many ["parts"] (spLaid K) := by
  refine T.d_laid_many.F.ok sc_laid_many (fun vs H Q E h => ?_) (fun cdv A outer s H vs Q E hr h => ⟨_, PSs.nox (pss_one (ps_ret (pe_callB (cr_sum rfl) (by rfl) T.z_sum bt_sum (pa_cons (pe_lc (own := [("part", 1)]) (g := (gName 1)) (tt := tYes) (te := tFld K (tVar 1) "s8_many") rfl sc_laid_many.nd (pi_list (pv 0)) (blkOk_by (N := ["parts", "part"]) (sc := defScope s_laid_many) (by decide +kernel)) (fun _ _ _ _ _ => (pg_name (i := 1) sc_laid_many.nd rfl (Or.inl rfl))) (fun _ _ _ _ _ => pts_nil) (fun _ _ _ _ _ => (pe_fld (pv 1) rfl))) pa_nil)))), ?_⟩)
  · obtain ⟨M, q, ps, rfl, _⟩ := h; rfl
  obtain ⟨M, b, ps, rfl, ⟨hM, xs, hb, hx⟩, hw, q⟩ := h
  have hl := hx.len
  have hl2 := len_le_wts ps
  walk_at "rd"
  refine ⟨_, rfl, b, rfl, ⟨_, SqL.of hb⟩, fun D hD => ?_⟩
  refine lc_list (K := K) (a := b) (xs := xs) (fun i H' => Same H H' ∧ H' D = some (.lst (((sumV ps).take i).map V.int))) ⟨same_upd hD, upd_same⟩ (fun i H' _ p => SqL.of (p.1 _ _ hb)) ?_ ?_
  · intro i v H' hi p
    obtain ⟨pt, hp, hpv⟩ := PtLA.get _ _ hx hi
    refine ⟨rfl, ?_⟩
    walk_at "rd"
    refine iteT ?_
    walk_at "rd"
    refine PtA.many T (hpv.to (Keep.same p.1)) ?_
    refine ⟨_, p.2, ?_, p.1.wr hD, ?_⟩
    · rw [List.length_map]
      refine szl ?_
      have := List.length_take_le i (sumV ps)
      have h2 := (List.getElem?_eq_some_iff.mp hi).1
      omega
    · rw [upd_same, sumV_take ps i hp, List.map_append]; rfl
  · intro H' p
    have e : ((sumV ps).take xs.length) = sumV ps := List.take_of_length_le (by rw [sumV_len, hl]; exact Nat.le_refl _)
    refine ⟨D, sumV ps, rfl, SqL.of (by rw [p.2, e]), ?_⟩
    rw [sumV_sum]
    exact q _ p.1
theorem ok_over (T : Txt K mg) {k : Nat} (G_laid_many : FnOk P w K mg base CX0 (k + 1) (He.ga K "laid_many") T.fd_laid_many ["parts"] (spLaid K)) :
    FnOk P w K mg base CX0 (k + 2) (He.ma K (He.ga K "Over") "__init__") T.fd_Over__init ["self", "times", "parts"] (spOverI K) := by
  refine T.d_Over__init.F.ok sc_Over__init (fun vs H Q E h => ?_) (fun cdv A outer s H vs Q E hr h => ⟨_, PSs.nox (pss_cons (ps_fld (pv 0) (pv 1) rfl)
    (pss_cons (ps_fld (pv 0) (pv 2) rfl)
    (pss_cons (ps_fld (pv 0) (pe_call G_laid_many (hr.mono (by omega)) rfl T.g_laid_many T.d_laid_many.F.kp T.d_laid_many.b .nil pass0 (pa_cons (pv 2) pa_nil)) rfl)
    (pss_one (ps_fld (pv 0) (pe_op op_mulW (pv 1) (pe_fld (pv 0) rfl)) rfl))))), ?_⟩)
  · obtain ⟨M, x, dx, q, t, ps, rfl, _⟩ := h; rfl
  obtain ⟨M, x, dx, b, t, ps, rfl, hx, hM, hb, hw, ho, q⟩ := h
  have ho' := ho
  rw [Pt.ok] at ho'
  walk_at "rd"
  refine p_set hx T.cl_Over T.n_Over_s8_times (by show 0 < 1000; decide) ?_
  walk_at "rd"
  refine p_set upd_same T.cl_Over T.n_Over_s8_parts (by show 1 < 1000; decide) ?_
  walk_at "rd"
  refine ⟨M, b, ps, rfl, hb.to ⟨fun _ z => .inl z, fun a o n e => ?_⟩, hw, fun H1 s1 => ?_⟩
  · have na : a ≠ x := fun z => n (by rw [z]; exact hM)
    rw [upd_ne na, upd_ne na]; exact e
  walk_at "rd"
  refine p_set (s1 _ _ upd_same) T.cl_Over T.n_Over_s8_once (by show 2 < 1000; decide) ?_
  walk_at "rd"
  refine p_fld upd_same T.cl_Over T.n_Over_s8_once (fO_l3 _ _ _) ?_
  refine r_mul (mid_mul (mid_of ho'.1 ho'.2.1) (mid_of (manys_nn _ ho'.2.2.2) ho'.2.2.1)) ?_
  walk_at "rd"
  refine p_set upd_same T.cl_Over T.n_Over_s8_many (by show 3 < 1000; decide) ?_
  refine q _ upd_same fun a o ha e => ?_
  rw [upd_ne ha, upd_ne ha]
  exact s1 _ _ (by rw [upd_ne ha, upd_ne ha]; exact e)
/-- Over(t, ps), Spot(s, n) made -/
theorem make_over {M : Addr → Prop} {H : Hp} {Q : VK} {q : Addr} {t : Int} {ps : List Pt} (hb : PtsA K M H ps q) (hw : wts ps ≤ 16000000) (ho : (Pt.over t ps).ok)
    (k : ∀ x H', H x = none → Same H H' → PtA K M H' (.over t ps) (.ref x) → (∀ a, M a → H a ≠ none) → Q (.ref x) H') (hM : ∀ a, M a → H a ≠ none) : pMake (CO K) (spOverI K) E0 [.int t, .ref q] H Q := by
  intro x dx nx nd ne
  have s0 : Same H (upd (upd H dx (.own x)) x (.ins (CO K) dx [])) := fun b o e => by rw [upd_ne (ne_of_none e nx), upd_ne (ne_of_none e nd)]; exact e
  refine ⟨fun a => M a ∨ a = x, x, dx, q, t, ps, rfl, upd_same, .inr rfl, hb.to ⟨fun a z => z.elim .inl fun e => .inr (e ▸ nx), fun a o _ e => s0 a o e⟩, hw, ho, fun H' h1 h2 => ⟨rfl, ?_⟩⟩
  have s1 : Same H H' := fun b o e => h2 b o (ne_of_none e nx) (s0 b o e)
  refine k x H' nx s1 ?_ hM
  rw [PtA]
  obtain ⟨g1, vs, g2, g3⟩ := hb
  exact ⟨x, dx, q, vs, rfl, fun z => hM x z nx, g1, h1, s1 _ _ g2, g3.to (Keep.same s1)⟩
theorem make_spot {M : Addr → Prop} {H : Hp} {Q : VK} {p : Addr} {n : Int} {s : Sg} (hp : H p = some (.tup (sgV s))) (np : ¬ M p)
    (k : ∀ x H', H x = none → Same H H' → PtA K M H' (.spot s n) (.ref x) → Q (.ref x) H') (hM : ∀ a, M a → H a ≠ none) : pMake (CS K) (spSpotI K) E0 [.ref p, .int n] H Q := by
  intro x dx nx nd ne
  have s0 : Same H (upd (upd H dx (.own x)) x (.ins (CS K) dx [])) := fun b o e => by rw [upd_ne (ne_of_none e nx), upd_ne (ne_of_none e nd)]; exact e
  refine ⟨x, dx, p, n, rfl, upd_same, fun H' h1 h2 => ⟨rfl, ?_⟩⟩
  have s1 : Same H H' := fun b o e => h2 b o (ne_of_none e nx) (s0 b o e)
  refine k x H' nx s1 ?_
  rw [PtA]
  exact ⟨x, dx, p, rfl, fun z => hM x z nx, np, h1, s1 _ _ hp⟩
end
/-! ### long rows read -/
theorem take_snoc {α : Type} : ∀ {l : List α} {i : Nat} {x : α}, l[i]? = some x → l.take (i + 1) = l.take i ++ [x]
  | [], i, x, h => by simp at h
  | a :: r, 0, x, h => by
    have e : a = x := Option.some.inj h
    rw [e]; rfl
  | a :: r, i + 1, x, h => by
    show a :: r.take (i + 1) = a :: (r.take i ++ [x])
    rw [take_snoc (l := r) (i := i) h]
theorem manys_take {ps : List Pt} {i : Nat} {p : Pt} (h : ps[i]? = some p) : manys (ps.take (i + 1)) = manys (ps.take i) + p.many := by rw [take_snoc h, manys_app, manys_one]
theorem oks_get : ∀ {ps : List Pt} {i : Nat} {p : Pt}, oks ps → ps[i]? = some p → p.ok ∧ p.dp ≤ dps ps ∧ p.wt ≤ wts ps
  | [], i, p, _, h => by simp at h
  | q :: r, 0, p, ho, h => by
    have e : q = p := Option.some.inj h
    rw [oks] at ho
    rw [← e, dps, wts]
    exact ⟨ho.1, by omega, by omega⟩
  | q :: r, i + 1, p, ho, h => by
    rw [oks] at ho
    obtain ⟨a, b, c⟩ := oks_get (ps := r) (i := i) ho.2 h
    rw [dps, wts]
    exact ⟨a, by omega, by omega⟩
theorem oks_take : ∀ {ps : List Pt} (i : Nat), oks ps → oks (ps.take i)
  | [], i, _ => by rw [List.take_nil]; trivial
  | q :: r, 0, _ => by rw [List.take_zero]; trivial
  | q :: r, i + 1, ho => by
    rw [oks] at ho
    show oks (q :: r.take i)
    rw [oks]
    exact ⟨ho.1, oks_take i ho.2⟩
theorem manys_take_le {ps : List Pt} (i : Nat) (h : oks ps) : manys (ps.take i) ≤ manys ps := by
  have e : ps = ps.take i ++ ps.drop i := (List.take_append_drop i ps).symm
  have h2 := (oks_app (ps.take i) (ps.drop i)).mp (e ▸ h)
  have h3 := manys_nn _ h2.2
  have h4 := manys_app (ps.take i) (ps.drop i)
  rw [← e] at h4
  omega
theorem nums_app : ∀ (a b : List Pt) (k : Int), nums (a ++ b) k = ((nums a k).1 ++ (nums b (nums a k).2).1, (nums b (nums a k).2).2)
  | [], b, k => by rw [nums]; rfl
  | p :: r, b, k => by
    show nums (p :: (r ++ b)) k = _
    rw [nums, nums, nums_app r b]; rfl
theorem vac {P : Program} {w : World} {K : PySem.W.Frag} {mg : Str → Option Value} {base : Heap} {k : Nat} {f : Addr} {fd : FuncData} {ps : List Str} {sp : Sp} (h : ∀ vs H Q E, ¬ sp vs H Q E) : FnOk P w K mg base CX0 k f fd ps sp :=
  ⟨fun vs H Q E q => absurd q (h vs H Q E), fun A outer s H args us vs Q E _ _ _ _ q => absurd q (h vs H Q E)⟩
/-- the fields of what a long row holds -/
def spOf (d : Nat) : Sp := fun vs H Q _ => ∃ (M : Addr → Prop) (b : Addr) (ps : List Pt), vs = [.ref b] ∧ LgsA M H ps b ∧ oks ps ∧ dps ps < d ∧ manys ps ≤ BB ∧ ∀ H', Same H H' → Q (.int (manys ps)) H'
def spSaid (d : Nat) : Sp := fun vs H Q _ => ∃ (M : Addr → Prop) (p b : Addr) (t : Int) (ps : List Pt), vs = [.ref p] ∧ H p = some (.tup [.str "again", .int t, .ref b]) ∧ LgsA M H ps b ∧ (Pt.over t ps).ok ∧ dps ps < d ∧ ∀ H', Same H H' → Q (.int (t * manys ps)) H'
section
variable {P : Program} {w : World} {K : PySem.W.Frag} {mg : Str → Option Value} {base : Heap}
theorem kb5 : kitB "list" "list" = some true := by decide +kernel
theorem isiT_lst {H : Hp} {Q : VK} {a tp : Addr} {xs : List V} (e : H a = some (.lst xs)) (et : H tp = some (.tup [.ty "list", .ty "tuple"])) (q : Q (.bl true) H) : rIsiT K [.ref a, .ref tp] H Q :=
  ⟨_, _, _, _, [.type "list", .type "tuple"], true, rfl, et, .cons (.ty "list") (.cons (.ty "tuple") .nil), .base (.lst e), kitAny_cons (b := true) (kit_ty kb5) (fun z => by cases z) (fun _ => rfl), q⟩
theorem ok_people_said (T : Txt K mg) {k d : Nat} (hk : 1 ≤ k) (G_is_number : FnOk P w K mg base CX0 1 (He.ga K "is_number") T.fd_is_number ["thing"] spNum) (G_people_of : FnOk P w K mg base CX0 k (He.ga K "people_of") T.fd_people_of ["thing"] (spOf d)) :
    FnOk P w K mg base CX0 (k + 1) (He.ga K "people_said") T.fd_people_said ["item"] (spSaid d) := by
  refine T.d_people_said.F.ok sc_people_said (fun vs H Q E h => ?_) (fun cdv A outer s H vs Q E hr h => ⟨_, PSs.nox (pss_cons (ps_if (PW.pt (pw_or (pt_not (pt_val (pe_callB call_isi (by rfl) T.z_isinstance bt_isinstance (pa_cons (pv 0) (pa_cons (pe_bltn (v := .ty "tuple") (by rfl) T.z_tuple bt_tuple rfl) pa_nil))))) (pw_or (pt_cmpR op_ne (pe_callB call_lenS (by rfl) T.z_len bt_len (pa_cons (pv 0) pa_nil)) pe_int (nomark _)) (pw_or (pt_not (pt_val (pe_callB call_isi (by rfl) T.z_isinstance bt_isinstance (pa_cons (pe_ix ix_tup (pv 0) pe_int (fun _ _ => rfl)) (pa_cons (pe_bltn (v := .ty "str") (by rfl) T.z_str bt_str rfl) pa_nil))))) (pw_or1 (pt_cmpR op_ne (pe_ix ix_tup (pv 0) pe_int (fun _ _ => rfl)) (pe_glob (v := .str "again") rfl T.c_AGAIN ⟨_, rfl⟩) (nomark _))))))) (pss_one (ps_ret pe_non)) pss_nil)
    (pss_cons (ps_set (i := 1) sc_people_said.nd rfl (Or.inl rfl) (pe_call G_people_of (hr.mono (by omega)) rfl T.g_people_of T.d_people_of.F.kp T.d_people_of.b .nil pass0 (pa_cons (pe_ix ix_tup (pv 0) pe_int (fun _ _ => rfl)) pa_nil)))
    (pss_one (ps_ret (pe_ifExp (PW.pt (pw_and (pt_val (pe_call G_is_number (hr.mono (by omega)) rfl T.g_is_number T.d_is_number.F.kp T.d_is_number.b .nil pass0 (pa_cons (pe_ix ix_tup (pv 0) pe_int (fun _ _ => rfl)) pa_nil))) (pw_and1 (pt_cmpR op_notnon (pv 1) pe_non (nomark _))))) (pe_op op_mulW (pe_ix ix_tup (pv 0) pe_int (fun _ _ => rfl)) (pv 1)) pe_non))))), ?_⟩)
  · obtain ⟨M, p, b, t, ps, rfl, _⟩ := h; rfl
  obtain ⟨M, p, b, t, ps, rfl, hp, hb, ho, hd, q⟩ := h
  rw [Pt.ok] at ho
  walk_at "rd"
  refine isi_tup hp kb3 ?_
  walk_at "rd"
  refine iteF ?_
  walk_at "rd"
  refine len_tup hp ?_
  walk_at "rd"
  refine ite_nf rfl ?_
  walk_at "rd"
  refine r_ixT hp atI0 ?_
  walk_at "rd"
  refine isi_str kb4 ?_
  walk_at "rd"
  refine iteF ?_
  walk_at "rd"
  refine r_ixT hp atI0 ?_
  walk_at "rd"
  refine r_ne rfl ?_
  walk_at "rd"
  refine ite_nf rfl ?_
  walk_at "rd"
  refine r_ixT hp atI2 ?_
  walk_at "rd"
  refine ⟨M, b, ps, rfl, hb, ho.2.2.2, hd, ho.2.2.1, fun H1 s1 => ?_⟩
  have hp1 := s1 _ _ hp
  walk_at "rd"
  refine r_ixT hp1 atI1 ?_
  walk_at "rd"
  refine ⟨t, rfl, ?_⟩
  walk_at "rd"
  refine ite_t ho.1 ?_
  walk_at "rd"
  refine ite_nt (fun z => by cases z) ?_
  walk_at "rd"
  refine r_ixT hp1 atI1 ?_
  walk_at "rd"
  refine r_mul (mid_mul (mid_of ho.1 ho.2.1) (mid_of (manys_nn _ ho.2.2.2) ho.2.2.1)) ?_
  exact q _ s1
theorem ok_people_of (T : Txt K mg) {k d : Nat} (hk : 2 ≤ k) (G_is_saying : FnOk P w K mg base CX0 2 (He.ga K "is_saying") T.fd_is_saying ["thing"] spSaying) (G_people_said : FnOk P w K mg base CX0 k (He.ga K "people_said") T.fd_people_said ["item"] (spSaid d)) :
    FnOk P w K mg base CX0 (k + 1) (He.ga K "people_of") T.fd_people_of ["thing"] (spOf (d + 1)) := by
  refine T.d_people_of.F.ok sc_people_of (fun vs H Q E h => ?_) (fun cdv A outer s H vs Q E hr h => ⟨_, PSs.nox (pss_cons (ps_if (pt_not (pt_val (pe_callB call_isiT (by rfl) T.z_isinstance bt_isinstance (pa_cons (pv 0) (pa_cons (pe_tup (pa_cons (pe_bltn (v := .ty "list") (by rfl) T.z_list bt_list rfl) (pa_cons (pe_bltn (v := .ty "tuple") (by rfl) T.z_tuple bt_tuple rfl) pa_nil))) pa_nil))))) (pss_one (ps_ret pe_non)) pss_nil)
    (pss_cons (ps_set (i := 1) sc_people_of.nd rfl (Or.inl rfl) pe_int)
    (pss_cons (ps_for PassesOwn.never rfl (pi_list (pv 0)) (pg_name (i := 2) sc_people_of.nd rfl (Or.inl rfl)) (pss_cons (ps_set (i := 3) sc_people_of.nd rfl (Or.inl rfl) (pe_ifExp (pt_val (pe_call G_is_saying (hr.mono (by omega)) rfl T.g_is_saying T.d_is_saying.F.kp T.d_is_saying.b .nil pass0 (pa_cons (pv 2) pa_nil))) pe_int (pe_call G_people_said (hr.mono (by omega)) rfl T.g_people_said T.d_people_said.F.kp T.d_people_said.b .nil pass0 (pa_cons (pv 2) pa_nil))))
    (pss_cons (ps_if (pt_cmpR op_non (pv 3) pe_non (nomark _)) (pss_one (ps_ret pe_non)) pss_nil)
    (pss_one (ps_aug (i := 1) sc_people_of.nd rfl (Or.inl rfl) (pv 3) ip_add)))))
    (pss_one (ps_ret (pv 1)))))), ?_⟩)
  · obtain ⟨M, b, ps, rfl, _⟩ := h; rfl
  obtain ⟨M, b, ps, rfl, ⟨nb, xs, hb, hx⟩, ho, hd, hB, q⟩ := h
  walk_at "rd"
  refine p_new (sz (by decide)) fun tp htp => ?_
  walk_at "rd"
  have s0 : Same H (upd H tp (.tup [.ty "list", .ty "tuple"])) := same_upd htp
  refine isiT_lst (s0 _ _ hb) upd_same ?_
  walk_at "rd"
  refine iteF ?_
  walk_at "rd"
  refine p_forL (s0 _ _ hb) (fun i σ H' => ∃ v4 v5, σ = [some (.ref b), some (.int (manys (ps.take i))), v4, v5] ∧ Same H H') ⟨none, none, rfl, s0⟩ (fun i σ H' _ ⟨_, _, _, z⟩ => z _ _ hb) ?_ ?_
  · rintro i v σ H' hi ⟨v4, v5, rfl, s1⟩
    obtain ⟨pt, hp, hpv⟩ := LgLA.get _ _ hx hi
    obtain ⟨g1, g2, g3⟩ := oks_get ho hp
    have step : ∀ H2, Same H H2 → ∃ v4 v5, ([some (.ref b), some (.int (manys (ps.take i) + pt.many)), some v, some (.int pt.many)] : L2.St) = [some (.ref b), some (.int (manys (ps.take (i + 1)))), v4, v5] ∧ Same H H2 := fun H2 s2 => ⟨_, _, by rw [manys_take hp], s2⟩
    walk_at "rd"
    cases pt with
    | spot sg n =>
      rw [LgA] at hpv
      obtain ⟨p, rfl, np, h1⟩ := hpv
      rw [Pt.ok] at g1
      refine ⟨p, _, rfl, s1 _ _ h1, .inl ⟨sg, rfl, g1, ?_⟩⟩
      walk_at "rd"
      refine iteT ?_
      walk_at "rd"
      refine ite_f (fun z => by cases z) ?_
      walk_at "rd"
      rw [Pt.many] at step
      exact step _ s1
    | over t qs =>
      rw [LgA] at hpv
      obtain ⟨p, b2, ws, rfl, np, nb2, h1, h2, h3⟩ := hpv
      rw [Pt.dp] at g2
      refine ⟨p, _, rfl, s1 _ _ h1, .inr ⟨rfl, ?_⟩⟩
      walk_at "rd"
      refine iteF ?_
      walk_at "rd"
      refine ⟨M, p, b2, t, qs, rfl, s1 _ _ h1, ⟨nb2, ws, s1 _ _ h2, h3.to (Keep.same s1)⟩, g1, by omega, fun H2 s2 => ?_⟩
      walk_at "rd"
      refine ite_f (fun z => by cases z) ?_
      walk_at "rd"
      rw [Pt.many] at step
      exact step _ (s1.trans s2)
  · rintro σ H' ⟨v4, v5, rfl, s1⟩
    walk_at "rd"
    rw [List.take_of_length_le (by rw [hx.len]; exact Nat.le_refl _)]
    exact q _ s1
theorem ok_people (T : Txt K mg) (G_is_number : FnOk P w K mg base CX0 1 (He.ga K "is_number") T.fd_is_number ["thing"] spNum) (G_is_saying : FnOk P w K mg base CX0 2 (He.ga K "is_saying") T.fd_is_saying ["thing"] spSaying) :
    ∀ d : Nat, FnOk P w K mg base CX0 (2 * d + 2) (He.ga K "people_of") T.fd_people_of ["thing"] (spOf d)
  | 0 => vac fun vs H Q E h => by
    obtain ⟨M, b, ps, _, _, _, hd, _⟩ := h
    omega
  | d + 1 => (ok_people_of T (k := 2 * d + 3) (by omega) G_is_saying (ok_people_said T (by omega) G_is_number (ok_people T G_is_number G_is_saying d))).mono (by omega)
def spIsLong (d : Nat) : Sp := fun vs H Q _ => ∃ (M : Addr → Prop) (b : Addr) (ps : List Pt), vs = [.ref b] ∧ LgsA M H ps b ∧ oks ps ∧ dps ps < d ∧ manys ps ≤ 999999999999999999999999999999 ∧ ∀ H', Same H H' → Q (.bl true) H'
def spNeedLong (d : Nat) : Sp := fun vs H Q _ => ∃ (M : Addr → Prop) (b : Addr) (ps : List Pt), vs = [.ref b] ∧ LgsA M H ps b ∧ oks ps ∧ dps ps < d ∧ manys ps ≤ 999999999999999999999999999999 ∧ ∀ H', Same H H' → Q .non H'
theorem ok_is_long (T : Txt K mg) {k d : Nat} (G_people_of : FnOk P w K mg base CX0 k (He.ga K "people_of") T.fd_people_of ["thing"] (spOf d)) : FnOk P w K mg base CX0 (k + 1) (He.ga K "is_long") T.fd_is_long ["thing"] (spIsLong d) := by
  refine T.d_is_long.F.ok sc_is_long (fun vs H Q E h => ?_) (fun cdv A outer s H vs Q E hr h => ⟨_, PSs.nox (pss_cons (ps_set (i := 1) sc_is_long.nd rfl (Or.inl rfl) (pe_call G_people_of (hr.mono (by omega)) rfl T.g_people_of T.d_people_of.F.kp T.d_people_of.b .nil pass0 (pa_cons (pv 0) pa_nil)))
    (pss_one (ps_ret (pe_and (pe_cmpR op_notnon (pv 1) pe_non (nomark _)) (pe_one (pe_cmpR op_le (pv 1) (pe_glob (v := .int 999999999999999999999999999999) rfl T.c_MOST_PEOPLE ⟨_, rfl⟩) (nomark _))))))), ?_⟩)
  · obtain ⟨M, b, ps, rfl, _⟩ := h; rfl
  obtain ⟨M, b, ps, rfl, hb, ho, hd, hB, q⟩ := h
  walk_at "rd"
  refine ⟨M, b, ps, rfl, hb, ho, hd, Int.le_trans hB (by decide), fun H1 s1 => ?_⟩
  walk_at "rd"
  refine ite_nt (fun z => by cases z) ?_
  walk_at "rd"
  rw [decide_eq_true hB]
  exact q _ s1
theorem ok_need_long (T : Txt K mg) {k d : Nat} (G_is_long : FnOk P w K mg base CX0 k (He.ga K "is_long") T.fd_is_long ["thing"] (spIsLong d)) : FnOk P w K mg base CX0 (k + 1) (He.ga K "need_long") T.fd_need_long ["thing"] (spNeedLong d) := by
  refine T.d_need_long.F.ok sc_need_long (fun vs H Q E h => ?_) (fun cdv A outer s H vs Q E hr h => ⟨_, PSs.nox (pss_one (ps_if (pt_not (pt_val (pe_call G_is_long (hr.mono (by omega)) rfl T.g_is_long T.d_is_long.F.kp T.d_is_long.b .nil pass0 (pa_cons (pv 0) pa_nil)))) (pss_one ps_never) pss_nil)), ?_⟩)
  · obtain ⟨M, b, ps, rfl, _⟩ := h; rfl
  obtain ⟨M, b, ps, rfl, hb, ho, hd, hB, q⟩ := h
  walk_at "rd"
  refine ⟨M, b, ps, rfl, hb, ho, hd, hB, fun H1 s1 => ?_⟩
  walk_at "rd"
  refine iteF ?_
  walk_at "rd"
  exact q _ s1
def spPeopleIn (d : Nat) : Sp := fun vs H Q _ => ∃ (M : Addr → Prop) (b : Addr) (ps : List Pt), vs = [.ref b] ∧ LgsA M H ps b ∧ oks ps ∧ dps ps < d ∧ manys ps ≤ 999999999999999999999999999999 ∧ ∀ H', Same H H' → Q (.int (manys ps)) H'
theorem ok_people_in (T : Txt K mg) {k d : Nat} (G_people_of : FnOk P w K mg base CX0 k (He.ga K "people_of") T.fd_people_of ["thing"] (spOf d)) (G_need_long : FnOk P w K mg base CX0 k (He.ga K "need_long") T.fd_need_long ["thing"] (spNeedLong d)) :
    FnOk P w K mg base CX0 (k + 1) (He.ga K "people_in") T.fd_people_in ["long"] (spPeopleIn d) := by
  refine T.d_people_in.F.ok sc_people_in (fun vs H Q E h => ?_) (fun cdv A outer s H vs Q E hr h => ⟨_, PSs.nox (pss_cons (ps_expr (pe_call G_need_long (hr.mono (by omega)) rfl T.g_need_long T.d_need_long.F.kp T.d_need_long.b .nil pass0 (pa_cons (pv 0) pa_nil)))
    (pss_one (ps_ret (pe_call G_people_of (hr.mono (by omega)) rfl T.g_people_of T.d_people_of.F.kp T.d_people_of.b .nil pass0 (pa_cons (pv 0) pa_nil))))), ?_⟩)
  · obtain ⟨M, b, ps, rfl, _⟩ := h; rfl
  obtain ⟨M, b, ps, rfl, hb, ho, hd, hB, q⟩ := h
  walk_at "rd"
  refine ⟨M, b, ps, rfl, hb, ho, hd, hB, fun H1 s1 => ?_⟩
  walk_at "rd"
  refine ⟨M, b, ps, rfl, hb.to (Keep.same s1), ho, hd, Int.le_trans hB (by decide), fun H2 s2 => ?_⟩
  exact q _ (s1.trans s2)
/-! planted -/
def spPlanted (K : PySem.W.Frag) (d : Nat) : Sp := fun vs H Q _ => ∃ (M : Addr → Prop) (b : Addr) (ps : List Pt) (k : Int), vs = [.ref b, .int k] ∧ LgsA M H ps b ∧ (∀ a, M a → H a ≠ none) ∧ oks ps ∧ dps ps < d ∧ wts ps ≤ 16000000 ∧
  ∀ t q H', Same H H' → H' t = some (.tup [.ref q, .int (nums ps k).2]) → PtsA K M H' (nums ps k).1 q → Q (.ref t) H'
mutual
theorem Pt.num_facts : ∀ (p : Pt) (k : Int), p.ok → (p.num k).1.ok ∧ (p.num k).1.many = p.many ∧ (p.num k).1.dp = p.dp ∧ (p.num k).1.wt = p.wt := fun p k h => by
  have e := p.ba_num k
  refine ⟨?_, ?_, ?_, ?_⟩
  · rw [← Pt.ok_ba, e, Pt.ok_ba]; exact h
  · rw [← Pt.many_ba, e, Pt.many_ba]
  · rw [← Pt.dp_ba, e, Pt.dp_ba]
  · rw [← Pt.wt_ba, e, Pt.wt_ba]
end
theorem nums_facts (ps : List Pt) (k : Int) (h : oks ps) : oks (nums ps k).1 ∧ manys (nums ps k).1 = manys ps ∧ dps (nums ps k).1 = dps ps ∧ wts (nums ps k).1 = wts ps := by
  have e := bas_num ps k
  refine ⟨?_, ?_, ?_, ?_⟩
  · rw [← oks_ba, e, oks_ba]; exact h
  · rw [← manys_ba, e, manys_ba]
  · rw [← dps_ba, e, dps_ba]
  · rw [← wts_ba, e, wts_ba]
theorem ok_planted (T : Txt K mg) {k d : Nat} (hk : 3 ≤ k) (G_is_saying : FnOk P w K mg base CX0 2 (He.ga K "is_saying") T.fd_is_saying ["thing"] spSaying) (G_Spot__init : FnOk P w K mg base CX0 1 (He.ma K (He.ga K "Spot") "__init__") T.fd_Spot__init ["self", "saying", "number"] (spSpotI K))
    (G_Over__init : FnOk P w K mg base CX0 2 (He.ma K (He.ga K "Over") "__init__") T.fd_Over__init ["self", "times", "parts"] (spOverI K)) (G_planted : FnOk P w K mg base CX0 k (He.ga K "planted") T.fd_planted ["long", "first"] (spPlanted K d)) :
    FnOk P w K mg base CX0 (k + 1) (He.ga K "planted") T.fd_planted ["long", "first"] (spPlanted K (d + 1)) := by
  refine T.d_planted.F.ok sc_planted (fun vs H Q E h => ?_) (fun cdv A outer s H vs Q E hr h => ⟨_, PSs.nox (pss_cons (ps_set (i := 2) sc_planted.nd rfl (Or.inl rfl) (pe_lst pa_nil))
    (pss_cons (ps_for PassesOwn.never rfl (pi_list (pv 0)) (pg_name (i := 3) sc_planted.nd rfl (Or.inl rfl)) (pss_one (ps_if (pt_val (pe_call G_is_saying (hr.mono (by omega)) rfl T.g_is_saying T.d_is_saying.F.kp T.d_is_saying.b .nil pass0 (pa_cons (pv 3) pa_nil))) (pss_cons (ps_expr (pe_bm PySem.F.plainAttrs_list PySem.F.slot_list_append PySem.F.type_list_append mt_append (pv 2) (pa_cons (pe_make T.mk_Spot G_Spot__init (hr.mono (by omega)) rfl T.g_Spot T.d_Spot__init.b .nil pass0 (pa_cons (pv 3) (pa_cons (pv 1) pa_nil))) pa_nil)))
    (pss_one (ps_aug (i := 1) sc_planted.nd rfl (Or.inl rfl) pe_int ip_add))) (pss_cons (ps_asg (pe_call G_planted (hr.mono (by omega)) rfl T.g_planted T.d_planted.F.kp T.d_planted.b .nil pass0 (pa_cons (pe_ix ix_tup (pv 3) pe_int (fun _ _ => rfl)) (pa_cons (pv 1) pa_nil))) (pg_tup rfl (pgs_cons (pg_name (i := 4) sc_planted.nd rfl (Or.inl rfl)) (pgs_cons (pg_name (i := 1) sc_planted.nd rfl (Or.inl rfl)) pgs_nil))))
    (pss_one (ps_expr (pe_bm PySem.F.plainAttrs_list PySem.F.slot_list_append PySem.F.type_list_append mt_append (pv 2) (pa_cons (pe_make T.mk_Over G_Over__init (hr.mono (by omega)) rfl T.g_Over T.d_Over__init.b .nil pass0 (pa_cons (pe_ix ix_tup (pv 3) pe_int (fun _ _ => rfl)) (pa_cons (pv 4) pa_nil))) pa_nil))))))))
    (pss_one (ps_ret (pe_tup (pa_cons (pv 2) (pa_cons (pv 1) pa_nil))))))), ?_⟩)
  · obtain ⟨M, b, ps, k, rfl, _⟩ := h; rfl
  obtain ⟨M, b, ps, k, rfl, ⟨nb, xs, hb, hx⟩, hM, ho, hd, hw, q⟩ := h
  walk_at "rd"
  refine p_new (sz (by decide)) fun D hD => ?_
  walk_at "rd"
  have s0 : Same H (upd H D (.lst [])) := same_upd hD
  refine p_forL (s0 _ _ hb) (fun i σ H' => ∃ v4 v5 ws, σ = [some (.ref b), some (.int (nums (ps.take i) k).2), some (.ref D), v4, v5] ∧ Same H H' ∧ H' D = some (.lst ws) ∧ PtLA K (fun a => M a ∨ a = D) H' (nums (ps.take i) k).1 ws)
    ⟨none, none, [], by rw [List.take_zero, nums]; rfl, s0, upd_same, by rw [List.take_zero, nums]; exact PtLA.nil⟩ (fun i σ H' _ ⟨_, _, _, _, z, _⟩ => z _ _ hb) ?_ ?_
  · rintro i v σ H' hi ⟨v4, v5, ws, rfl, s1, hD1, hp1⟩
    obtain ⟨pt, hp, hpv⟩ := LgLA.get _ _ hx hi
    obtain ⟨g1, g2, g3⟩ := oks_get ho hp
    have il := (List.getElem?_eq_some_iff.mp hi).1
    have el : ws.length < sizeLine := by
      have h1 := hp1.len
      have h2 := len_le_wts (nums (ps.take i) k).1
      have h3 := (nums_facts (ps.take i) k (oks_take i ho)).2.2.2
      have h4 : wts (ps.take i) ≤ wts ps := by
        have e : ps = ps.take i ++ ps.drop i := (List.take_append_drop i ps).symm
        have h4 := wts_app (ps.take i) (ps.drop i)
        rw [← e] at h4
        omega
      exact szl (by omega)
    have hM1 : ∀ a, (M a ∨ a = D) → H' a ≠ none := fun a z e => by
      rcases z with z | z
      · exact hM a z (s1.free e)
      · rw [z, hD1] at e; cases e
    have et : nums (ps.take (i + 1)) k = ((nums (ps.take i) k).1 ++ [(pt.num (nums (ps.take i) k).2).1], (pt.num (nums (ps.take i) k).2).2) := by
      rw [take_snoc hp, nums_app, nums, nums]
    walk_at "rd"
    cases pt with
    | spot sg n =>
      rw [LgA] at hpv
      obtain ⟨p, rfl, np, h1⟩ := hpv
      rw [Pt.ok] at g1
      rw [Pt.num] at et
      refine ⟨p, _, rfl, s1 _ _ h1, .inl ⟨sg, rfl, g1, ?_⟩⟩
      walk_at "rd"
      refine iteT ?_
      walk_at "rd"
      refine p_bmL hD1 ?_
      walk_at "rd"
      refine make_spot (M := fun a => M a ∨ a = D) (s1 _ _ h1) (fun z => z.elim np fun e => ne_of_none h1 hD e) (fun x H2 nx s2 hs => ?_) hM1
      walk_at "rd"
      refine r_append (s2 _ _ hD1) el ?_
      walk_at "rd"
      have kk : Keep (fun a => M a ∨ a = D) (fun a => M a ∨ a = D) H2 (upd H2 D (.lst (ws ++ [.ref x]))) := keep_wr (.inr rfl)
      exact ⟨_, _, _, by rw [et]; rfl, (s1.trans s2).wr hD, upd_same, by rw [et]; exact PtLA.app _ _ _ _ ((hp1.to (Keep.same s2)).to kk) (PtLA.one (hs.to kk))⟩
    | over t qs =>
      rw [LgA] at hpv
      obtain ⟨p, b2, ys, rfl, np, nb2, h1, h2, h3⟩ := hpv
      have g1' := g1
      rw [Pt.ok] at g1'
      rw [Pt.dp] at g2
      rw [Pt.wt] at g3
      rw [Pt.num] at et
      refine ⟨p, _, rfl, s1 _ _ h1, .inr ⟨rfl, ?_⟩⟩
      walk_at "rd"
      refine iteF ?_
      walk_at "rd"
      refine r_ixT (s1 _ _ h1) atI2 ?_
      walk_at "rd"
      refine ⟨fun a => M a ∨ a = D, b2, qs, (nums (ps.take i) k).2, rfl, LgsA.to (M := fun a => M a ∨ a = D) (Keep.same s1) (LgsA.fresh ⟨nb2, ys, h2, h3⟩ hD), hM1, g1'.2.2.2, by omega, by omega, fun tt q2 H2 s2 ht hq => ?_⟩
      refine r_gTup ht rfl ?_
      walk_at "rd"
      refine p_bmL (s2 _ _ hD1) ?_
      walk_at "rd"
      refine r_ixT ((s1.trans s2) _ _ h1) atI1 ?_
      walk_at "rd"
      have nf := nums_facts qs (nums (ps.take i) k).2 g1'.2.2.2
      refine make_over hq (by rw [nf.2.2.2]; omega) (by rw [Pt.ok, nf.2.1]; exact ⟨g1'.1, g1'.2.1, g1'.2.2.1, nf.1⟩) (fun x H3 nx s3 hs hM3 => ?_) (fun a z e => hM1 a z (s2.free e))
      walk_at "rd"
      refine r_append (s3 _ _ (s2 _ _ hD1)) el ?_
      walk_at "rd"
      have kk : Keep (fun a => M a ∨ a = D) (fun a => M a ∨ a = D) H3 (upd H3 D (.lst (ws ++ [.ref x]))) := keep_wr (.inr rfl)
      exact ⟨_, _, _, by rw [et]; rfl, (s1.trans (s2.trans s3)).wr hD, upd_same, by rw [et]; exact PtLA.app _ _ _ _ ((hp1.to (Keep.same (s2.trans s3))).to kk) (PtLA.one (hs.to kk))⟩
  · rintro σ H' ⟨v4, v5, ws, rfl, s1, hD1, hp1⟩
    have e : ps.take xs.length = ps := List.take_of_length_le (by rw [hx.len]; exact Nat.le_refl _)
    rw [e] at hp1
    rw [e]
    walk_at "rd"
    refine p_new (sz (by show 2 ≤ _; decide)) fun tt htt => ?_
    have s2 : Same H' (upd H' tt (.tup [.ref D, .int (nums ps k).2])) := same_upd htt
    refine q tt D _ (s1.trans s2) upd_same ⟨fun z => hM D z hD, ws, s2 _ _ hD1, hp1.to ⟨fun a z => .inl (.inl z), fun a o _ e => s2 a o e⟩⟩
theorem ok_plant (T : Txt K mg) (G_is_saying : FnOk P w K mg base CX0 2 (He.ga K "is_saying") T.fd_is_saying ["thing"] spSaying) (G_Spot__init : FnOk P w K mg base CX0 1 (He.ma K (He.ga K "Spot") "__init__") T.fd_Spot__init ["self", "saying", "number"] (spSpotI K))
    (G_Over__init : FnOk P w K mg base CX0 2 (He.ma K (He.ga K "Over") "__init__") T.fd_Over__init ["self", "times", "parts"] (spOverI K)) : ∀ d : Nat, FnOk P w K mg base CX0 (d + 3) (He.ga K "planted") T.fd_planted ["long", "first"] (spPlanted K d)
  | 0 => vac fun vs H Q E h => by
    obtain ⟨M, b, ps, k, _, _, _, _, hd, _⟩ := h
    omega
  | d + 1 => ok_planted T (by omega) G_is_saying G_Spot__init G_Over__init (ok_plant T G_is_saying G_Spot__init G_Over__init d)
def spPartsOf (K : PySem.W.Frag) (d : Nat) : Sp := fun vs H Q _ => ∃ (M : Addr → Prop) (b : Addr) (ps : List Pt), vs = [.ref b] ∧ LgsA M H ps b ∧ (∀ a, M a → H a ≠ none) ∧ oks ps ∧ dps ps < d ∧ wts ps ≤ 16000000 ∧ manys ps ≤ 999999999999999999999999999999 ∧
  ∀ q H', Same H H' → PtsA K M H' (nums ps 0).1 q → Q (.ref q) H'
theorem ok_parts_of (T : Txt K mg) {k d : Nat} (G_need_long : FnOk P w K mg base CX0 k (He.ga K "need_long") T.fd_need_long ["thing"] (spNeedLong d)) (G_planted : FnOk P w K mg base CX0 k (He.ga K "planted") T.fd_planted ["long", "first"] (spPlanted K d)) :
    FnOk P w K mg base CX0 (k + 1) (He.ga K "parts_of") T.fd_parts_of ["long"] (spPartsOf K d) := by
  refine T.d_parts_of.F.ok sc_parts_of (fun vs H Q E h => ?_) (fun cdv A outer s H vs Q E hr h => ⟨_, PSs.nox (pss_cons (ps_expr (pe_call G_need_long (hr.mono (by omega)) rfl T.g_need_long T.d_need_long.F.kp T.d_need_long.b .nil pass0 (pa_cons (pv 0) pa_nil)))
    (pss_one (ps_ret (pe_ix ix_tup (pe_call G_planted (hr.mono (by omega)) rfl T.g_planted T.d_planted.F.kp T.d_planted.b .nil pass0 (pa_cons (pv 0) (pa_cons pe_int pa_nil))) pe_int (fun _ _ => rfl))))), ?_⟩)
  · obtain ⟨M, b, ps, rfl, _⟩ := h; rfl
  obtain ⟨M, b, ps, rfl, hb, hM, ho, hd, hw, hB, q⟩ := h
  walk_at "rd"
  refine ⟨M, b, ps, rfl, hb, ho, hd, hB, fun H1 s1 => ?_⟩
  walk_at "rd"
  refine ⟨M, b, ps, 0, rfl, hb.to (Keep.same s1), fun a z e => hM a z (s1.free e), ho, hd, hw, fun t q2 H2 s2 ht hq => ?_⟩
  walk_at "rd"
  refine r_ixT ht atI0 ?_
  exact q _ _ (s1.trans s2) hq
end
/-! ### parts cut, looked up, made slim, turned about, written -/
theorem drop_cons {α : Type} {l : List α} {i : Nat} {x : α} (h : l[i]? = some x) : l.drop i = x :: l.drop (i + 1) := by
  obtain ⟨hl, e⟩ := List.getElem?_eq_some_iff.mp h
  rw [List.drop_eq_getElem_cons hl, e]
theorem bits_small {i : Int} (h : Mid i) : Builtin.Int.intBits i ≤ 250 := PyProof.Rows.intBits_le (mid_nat h)
theorem divp_mid {i j : Int} (hi : Mid i) (hj : 0 < j) : CDivP i j := divp_ok hj (by have := bits_small hi; omega)
def isSpot : Pt → Bool
  | .spot _ _ => true
  | .over _ _ => false
section
variable {P : Program} {w : World} {K : PySem.W.Frag} {mg : Str → Option Value} {base : Heap}
theorem isi_spot (T : Txt K mg) {M : Addr → Prop} {H : Hp} {p : Pt} {v : V} (h : PtA K M H p v) {Q : VK} (q : Q (.bl (isSpot p)) H) : rIsi K [v, .ref (He.ga K "Spot")] H Q := by
  cases p with
  | spot s n =>
    rw [PtA] at h
    obtain ⟨a, dx, p, rfl, _, _, h1, h2⟩ := h
    exact ⟨_, _, _, _, _, rfl, .own _, .base (.ins h1 T.cl_Spot T.i1_Spot T.i3 T.i4 T.i2_Spot), T.k_Spot_Spot, q⟩
  | over t ps =>
    rw [PtA] at h
    obtain ⟨a, dx, b, vs, rfl, _, _, h1, h2, _⟩ := h
    exact ⟨_, _, _, _, _, rfl, .own _, .base (.ins h1 T.cl_Over T.i1_Over T.i3 T.i4 T.i2_Over), T.k_Over_Spot, q⟩
theorem isi_over (T : Txt K mg) {M : Addr → Prop} {H : Hp} {p : Pt} {v : V} (h : PtA K M H p v) {Q : VK} (q : Q (.bl (!isSpot p)) H) : rIsi K [v, .ref (He.ga K "Over")] H Q := by
  cases p with
  | spot s n =>
    rw [PtA] at h
    obtain ⟨a, dx, p, rfl, _, _, h1, h2⟩ := h
    exact ⟨_, _, _, _, _, rfl, .own _, .base (.ins h1 T.cl_Spot T.i1_Spot T.i3 T.i4 T.i2_Spot), T.k_Spot_Over, q⟩
  | over t ps =>
    rw [PtA] at h
    obtain ⟨a, dx, b, vs, rfl, _, _, h1, h2, _⟩ := h
    exact ⟨_, _, _, _, _, rfl, .own _, .base (.ins h1 T.cl_Over T.i1_Over T.i3 T.i4 T.i2_Over), T.k_Over_Over, q⟩
/-! what a cut asks -/
structure CutIn (K : PySem.W.Frag) (M : Addr → Prop) (H : Hp) (ps : List Pt) (q : Addr) (d : Nat) : Prop where
  at_ : PtsA K M H ps q
  hM : ∀ a, M a → H a ≠ none
  ok : oks ps
  dp : dps ps < d
  w : wts ps ≤ 5000000
theorem hM_same {M : Addr → Prop} {H H' : Hp} (s : Same H H') (h : ∀ a, M a → H a ≠ none) : ∀ a, M a → H' a ≠ none := fun a z e => h a z (s.free e)
theorem hM_or {M : Addr → Prop} {H : Hp} {D : Addr} (hD : H D ≠ none) (h : ∀ a, M a → H a ≠ none) : ∀ a, (M a ∨ a = D) → H a ≠ none := fun a z => z.elim (h a) fun e => e ▸ hD
theorem some_ne {H : Hp} {D : Addr} {o : HO} (h : H D = some o) : H D ≠ none := fun z => by rw [h] at z; cases z
def spTail (K : PySem.W.Frag) (d : Nat) : Sp := fun vs H Q _ => ∃ (M : Addr → Prop) (q : Addr) (ps : List Pt) (x : Int), vs = [.ref q, .int x] ∧ CutIn K M H ps q d ∧ 0 ≤ x ∧ x ≤ manys ps ∧ x ≤ BB ∧
  ∀ r H', Same H H' → PtsA K M H' (tls ps x) r → Q (.ref r) H'
def spHead (K : PySem.W.Frag) (d : Nat) : Sp := fun vs H Q _ => ∃ (M : Addr → Prop) (q : Addr) (ps : List Pt) (x : Int), vs = [.ref q, .int x] ∧ CutIn K M H ps q d ∧ 0 ≤ x ∧ x ≤ manys ps ∧ x ≤ BB ∧
  ∀ r H', Same H H' → PtsA K M H' (hds ps x) r → Q (.ref r) H'
theorem cut_len {ps : List Pt} {x : Int} (ho : oks ps) (hw : wts ps ≤ 5000000) (h0 : 0 ≤ x) (h1 : x ≤ manys ps) : (tls ps x).length ≤ 15000000 ∧ (hds ps x).length ≤ 15000000 := by
  have c := (cuts ps x ho h0 h1).w
  have := len_le_wts (tls ps x)
  have := len_le_wts (hds ps x)
  omega
/-- from the fields of an Over -/
theorem PtA.over {M : Addr → Prop} {H : Hp} {t : Int} {ps : List Pt} {v : V} (h : PtA K M H (.over t ps) v) : ∃ a dx q, v = .ref a ∧ H a = some (.ins (CO K) dx (fO4 t q (manys ps) (t * manys ps))) ∧ PtsA K M H ps q := by
  rw [PtA] at h
  obtain ⟨a, dx, b, vs, e, n1, n2, h1, h2, h3⟩ := h
  exact ⟨a, dx, b, e, h1, n2, vs, h2, h3⟩
theorem ok_tail1 (T : Txt K mg) {k d : Nat} (hk : 3 ≤ k) (G_Over__init : FnOk P w K mg base CX0 2 (He.ma K (He.ga K "Over") "__init__") T.fd_Over__init ["self", "times", "parts"] (spOverI K))
    (G_tail : FnOk P w K mg base CX0 k (He.ga K "tail") T.fd_tail ["parts", "place"] (spTail K d)) : FnOk P w K mg base CX0 (k + 1) (He.ga K "tail") T.fd_tail ["parts", "place"] (spTail K (d + 1)) := by
  refine T.d_tail.F.ok sc_tail (fun vs H Q E h => ?_) (fun cdv A outer s H vs Q E hr h => ⟨_, PSs.nox (pss_cons (ps_set (i := 2) sc_tail.nd rfl (Or.inl rfl) (pe_lst pa_nil))
    (pss_cons (ps_set (i := 3) sc_tail.nd rfl (Or.inl rfl) (pv 1))
    (pss_cons (ps_for PassesOwn.never rfl (pi_list (pv 0)) (pg_name (i := 4) sc_tail.nd rfl (Or.inl rfl)) (pss_one (ps_if (pt_cmpR op_ge (pv 3) (pe_fld (pv 4) rfl) (nomark _)) (pss_one (ps_aug (i := 3) sc_tail.nd rfl (Or.inl rfl) (pe_fld (pv 4) rfl) ip_sub)) (pss_one (ps_if (pt_cmpR op_eq (pv 3) pe_int (nomark _)) (pss_one (ps_expr (pe_bm PySem.F.plainAttrs_list PySem.F.slot_list_append PySem.F.type_list_append mt_append (pv 2) (pa_cons (pv 4) pa_nil)))) (pss_cons (ps_asg (pe_callB call_divm (by rfl) T.z_divmod bt_divmod (pa_cons (pv 3) (pa_cons (pe_fld (pv 4) rfl) pa_nil))) (pg_tup rfl (pgs_cons (pg_name (i := 5) sc_tail.nd rfl (Or.inl rfl)) (pgs_cons (pg_name (i := 6) sc_tail.nd rfl (Or.inl rfl)) pgs_nil))))
    (pss_cons (ps_expr (pe_bm PySem.F.plainAttrs_list PySem.F.slot_list_extend PySem.F.type_list_extend mt_extend (pv 2) (pa_cons (pe_ifExp (pt_cmpR op_gt (pv 6) pe_int (nomark _)) (pe_call G_tail (hr.mono (by omega)) rfl T.g_tail T.d_tail.F.kp T.d_tail.b .nil pass0 (pa_cons (pe_fld (pv 4) rfl) (pa_cons (pv 6) pa_nil))) (pe_fld (pv 4) rfl)) pa_nil)))
    (pss_cons (ps_expr (pe_bm PySem.F.plainAttrs_list PySem.F.slot_list_append PySem.F.type_list_append mt_append (pv 2) (pa_cons (pe_make T.mk_Over G_Over__init (hr.mono (by omega)) rfl T.g_Over T.d_Over__init.b .nil pass0 (pa_cons (pe_op op_sub (pe_op op_sub (pe_fld (pv 4) rfl) (pv 5)) pe_int) (pa_cons (pe_fld (pv 4) rfl) pa_nil))) pa_nil)))
    (pss_one (ps_set (i := 3) sc_tail.nd rfl (Or.inl rfl) pe_int))))))))))
    (pss_one (ps_ret (pv 2)))))), ?_⟩)
  · obtain ⟨M, b, ps, k, rfl, _⟩ := h; rfl
  obtain ⟨M, b, ps, x, rfl, ⟨⟨nb, xs, hb, hx⟩, hM, ho, hd, hw⟩, h0, h1, hB, q⟩ := h
  have cl := (cut_len ho hw h0 h1).1
  walk_at "rd"
  refine p_new (sz (by decide)) fun D hD => ?_
  walk_at "rd"
  have s0 : Same H (upd H D (.lst [])) := same_upd hD
  refine p_forL (s0 _ _ hb) (fun i σ H' => ∃ (y : Int) (dn : List Pt) (ws : List V) (v4 v5 v6 : Option V), σ = [some (.ref b), some (.int x), some (.ref D), some (.int y), v4, v5, v6] ∧ Same H H' ∧ H' D = some (.lst ws) ∧ PtLA K (fun a => M a ∨ a = D) H' dn ws ∧
      tls ps x = dn ++ tls (ps.drop i) y ∧ 0 ≤ y ∧ y ≤ BB)
    ⟨x, [], [], none, none, none, rfl, s0, upd_same, PtLA.nil, by rw [List.drop_zero]; rfl, h0, hB⟩ (fun i σ H' _ ⟨_, _, _, _, _, _, _, z, _⟩ => z _ _ hb) ?_ ?_
  · rintro i v σ H' hi ⟨y, dn, ws, v4, v5, v6, rfl, s1, hD1, hp1, et, y0, yB⟩
    obtain ⟨pt, hp, hpv⟩ := PtLA.get _ _ hx hi
    obtain ⟨g1, g2, g3⟩ := oks_get ho hp
    have hpm := pt.many_nn g1
    rw [drop_cons hp, tls] at et
    have el : ∀ zs : List Pt, tls ps x = zs ++ [] ∨ (∃ r, tls ps x = zs ++ r) → zs.length ≤ 15000000 := fun zs hz => by
      rcases hz with e | ⟨r, e⟩ <;> · rw [e, List.length_append] at cl; omega
    have ew : ws.length = dn.length := hp1.len
    have hpv1 : PtA K (fun a => M a ∨ a = D) H' pt v := (hpv.fresh hD).to (Keep.same s1)
    walk_at "rd"
    refine PtA.many T hpv1 ?_
    walk_at "rd"
    refine ite_d (fun c => ?_) fun c => ?_
    · rw [if_pos c] at et
      walk_at "rd"
      refine PtA.many T hpv1 ?_
      walk_at "rd"
      exact ⟨_, dn, ws, _, _, _, rfl, s1, hD1, hp1, et, by omega, by omega⟩
    · rw [if_neg c] at et
      walk_at "rd"
      refine ite_d (fun c2 => ?_) fun c2 => ?_
      · rw [if_pos c2] at et
        walk_at "rd"
        refine p_bmL hD1 ?_
        walk_at "rd"
        refine r_append hD1 (szl (by have := el dn (.inr ⟨_, et⟩); omega)) ?_
        have kk : Keep (fun a => M a ∨ a = D) (fun a => M a ∨ a = D) H' (upd H' D (.lst (ws ++ [v]))) := keep_wr (.inr rfl)
        exact ⟨y, dn ++ [pt], _, _, _, _, rfl, s1.wr hD, upd_same, PtLA.app _ _ _ _ (hp1.to kk) (PtLA.one (hpv1.to kk)), by rw [et, c2, List.append_assoc]; rfl, by omega, by omega⟩
      · rw [if_neg c2] at et
        cases pt with
        | spot sg n => rw [Pt.many] at c; exact absurd (show (1 : Int) ≤ y by omega) c
        | over t qs =>
          have ylt : y < (Pt.over t qs).many := by omega
          obtain ⟨on, tn⟩ := once_pos g1 y0 ylt
          have g1' := g1
          rw [Pt.ok] at g1'
          rw [Pt.many] at ylt
          rw [Pt.dp] at g2
          rw [Pt.wt] at g3
          have dv := div_le on y0 ylt
          have m0 := Int.emod_nonneg y (show manys qs ≠ 0 by omega)
          have m1 := Int.emod_lt_of_pos y on
          rw [Pt.tl] at et
          obtain ⟨a, dx, q2, rfl, hpa, hq2⟩ := hpv1.over
          have hM1 := hM_or (some_ne hD1) (hM_same s1 hM)
          have ok2 : (Pt.over (t - y / manys qs - 1) qs).ok := by rw [Pt.ok]; exact ⟨by omega, by omega, g1'.2.2.1, g1'.2.2.2⟩
          walk_at "rd"
          refine p_fld hpa T.cl_Over T.n_Over_s8_once (fO_once _ _ _ _) ?_
          walk_at "rd"
          refine r_divm (divp_mid (mid_of y0 yB) on) fun tp htp => ?_
          have s2 : Same H' (upd H' tp (.tup [.int (y / manys qs), .int (y % manys qs)])) := same_upd htp
          refine r_gTup upd_same rfl ?_
          walk_at "rd"
          refine p_bmL (s2 _ _ hD1) ?_
          walk_at "rd"
          have hq3 := hq2.to (Keep.same s2)
          have hpa3 := s2 _ _ hpa
          refine ifQ (fun v H3 => ∃ (zs : List Pt) (r : Addr) (ys : List V), v = .ref r ∧ Same H' H3 ∧ H3 r = some (.lst ys) ∧ PtLA K (fun a => M a ∨ a = D) H3 zs ys ∧
            tls ps x = dn ++ (zs ++ [.over (t - y / manys qs - 1) qs]) ++ tls (ps.drop (i + 1)) 0) ?_ (fun c3 Q2 k2 => ?_) fun c3 Q2 k2 => ?_
          · rintro _ H3 ⟨zs, r, ys, rfl, s3, hr3, hz, e⟩
            have l15 : ws.length + ys.length < 15000000 := by
              have := el (dn ++ (zs ++ [.over (t - y / manys qs - 1) qs])) (.inr ⟨_, e⟩)
              rw [List.length_append, List.length_append, List.length_singleton] at this
              have := hz.len
              omega
            walk_at "rd"
            refine r_extend (s3 _ _ hD1) hr3 (sz (by omega)) ?_
            have kk : Keep (fun a => M a ∨ a = D) (fun a => M a ∨ a = D) H3 (upd H3 D (.lst (ws ++ ys))) := keep_wr (.inr rfl)
            have na : a ≠ D := fun z => by rw [z, hD1] at hpa; cases hpa
            have hpa4 : (upd H3 D (.lst (ws ++ ys))) a = some (.ins (CO K) dx (fO4 t q2 (manys qs) (t * manys qs))) := by rw [upd_ne na]; exact s3 _ _ hpa
            walk_at "rd"
            refine p_bmL upd_same ?_
            walk_at "rd"
            refine p_fld hpa4 T.cl_Over T.n_Over_s8_times (fO_times _ _ _ _) ?_
            walk_at "rd"
            refine p_fld hpa4 T.cl_Over T.n_Over_s8_parts (fO_parts _ _ _ _) ?_
            walk_at "rd"
            refine make_over ((hq2.to (Keep.same s3)).to kk) (by omega) ok2 (fun xx H5 nx s5 hs hM5 => ?_) (hM_or (some_ne upd_same) (hM_same ((s1.trans s3).wr hD) hM))
            walk_at "rd"
            refine r_append (s5 _ _ upd_same) (szl (by rw [List.length_append]; omega)) ?_
            walk_at "rd"
            have k5 : Keep (fun a => M a ∨ a = D) (fun a => M a ∨ a = D) H5 (upd H5 D (.lst ((ws ++ ys) ++ [.ref xx]))) := keep_wr (.inr rfl)
            refine ⟨0, dn ++ (zs ++ [.over (t - y / manys qs - 1) qs]), _, _, _, _, rfl, (((s1.trans s3).wr hD).trans s5).wr hD, upd_same, ?_, e, Int.le_refl _, by have := BB_pos; omega⟩
            have h1 := (((hp1.to (Keep.same s3)).to kk).to (Keep.same s5)).to k5
            have h2 := ((hz.to kk).to (Keep.same s5)).to k5
            rw [← List.append_assoc]
            exact PtLA.app _ _ _ _ (PtLA.app _ _ _ _ h1 h2) (PtLA.one (hs.to k5))
          · rw [if_pos c3] at et
            walk_at "rd"
            refine p_fld hpa3 T.cl_Over T.n_Over_s8_parts (fO_parts _ _ _ _) ?_
            walk_at "rd"
            refine ⟨_, q2, qs, _, rfl, ⟨hq3, hM_same s2 hM1, g1'.2.2.2, by omega, by omega⟩, m0, by omega, by omega, fun r H4 s4 hr4 => ?_⟩
            obtain ⟨nr, ys, hr5, hy⟩ := hr4
            exact k2 _ _ ⟨_, r, ys, rfl, s2.trans s4, hr5, hy, by rw [et]; simp only [List.append_assoc]⟩
          · rw [if_neg c3] at et
            walk_at "rd"
            refine p_fld hpa3 T.cl_Over T.n_Over_s8_parts (fO_parts _ _ _ _) ?_
            obtain ⟨nr, ys, hr5, hy⟩ := hq3
            exact k2 _ _ ⟨_, q2, ys, rfl, s2, hr5, hy, by rw [et]; simp only [List.append_assoc]⟩
  · rintro σ H' ⟨y, dn, ws, v4, v5, v6, rfl, s1, hD1, hp1, et, y0, yB⟩
    rw [List.drop_eq_nil_of_le (by rw [hx.len]; exact Nat.le_refl _), tls, List.append_nil] at et
    walk_at "rd"
    exact q D H' s1 ⟨fun z => hM D z hD, ws, hD1, by rw [et]; exact hp1.to ⟨fun a z => .inl (.inl z), fun a o _ e => e⟩⟩
end
section
variable {P : Program} {w : World} {K : PySem.W.Frag} {mg : Str → Option Value} {base : Heap}
theorem ok_tail (T : Txt K mg) (G_Over__init : FnOk P w K mg base CX0 2 (He.ma K (He.ga K "Over") "__init__") T.fd_Over__init ["self", "times", "parts"] (spOverI K)) :
    ∀ d : Nat, FnOk P w K mg base CX0 (d + 3) (He.ga K "tail") T.fd_tail ["parts", "place"] (spTail K d)
  | 0 => vac fun vs H Q E h => by
    obtain ⟨M, b, ps, k, _, c, _⟩ := h
    exact absurd c.dp (by omega)
  | d + 1 => ok_tail1 T (by omega) G_Over__init (ok_tail T G_Over__init d)
theorem ok_head1 (T : Txt K mg) {k d : Nat} (hk : 3 ≤ k) (G_Over__init : FnOk P w K mg base CX0 2 (He.ma K (He.ga K "Over") "__init__") T.fd_Over__init ["self", "times", "parts"] (spOverI K))
    (G_head : FnOk P w K mg base CX0 k (He.ga K "head") T.fd_head ["parts", "place"] (spHead K d)) : FnOk P w K mg base CX0 (k + 1) (He.ga K "head") T.fd_head ["parts", "place"] (spHead K (d + 1)) := by
  refine T.d_head.F.ok sc_head (fun vs H Q E h => ?_) (fun cdv A outer s H vs Q E hr h => ⟨_, PSs.nox (pss_cons (ps_set (i := 2) sc_head.nd rfl (Or.inl rfl) (pe_lst pa_nil))
    (pss_cons (ps_set (i := 3) sc_head.nd rfl (Or.inl rfl) (pv 1))
    (pss_cons (ps_for PassesOwn.never rfl (pi_list (pv 0)) (pg_name (i := 4) sc_head.nd rfl (Or.inl rfl)) (pss_one (ps_if (pt_cmpR op_ge (pv 3) (pe_fld (pv 4) rfl) (nomark _)) (pss_cons (ps_expr (pe_bm PySem.F.plainAttrs_list PySem.F.slot_list_append PySem.F.type_list_append mt_append (pv 2) (pa_cons (pv 4) pa_nil)))
    (pss_one (ps_aug (i := 3) sc_head.nd rfl (Or.inl rfl) (pe_fld (pv 4) rfl) ip_sub))) (pss_one (ps_if (pt_cmpR op_gt (pv 3) pe_int (nomark _)) (pss_cons (ps_asg (pe_callB call_divm (by rfl) T.z_divmod bt_divmod (pa_cons (pv 3) (pa_cons (pe_fld (pv 4) rfl) pa_nil))) (pg_tup rfl (pgs_cons (pg_name (i := 5) sc_head.nd rfl (Or.inl rfl)) (pgs_cons (pg_name (i := 6) sc_head.nd rfl (Or.inl rfl)) pgs_nil))))
    (pss_cons (ps_expr (pe_bm PySem.F.plainAttrs_list PySem.F.slot_list_append PySem.F.type_list_append mt_append (pv 2) (pa_cons (pe_make T.mk_Over G_Over__init (hr.mono (by omega)) rfl T.g_Over T.d_Over__init.b .nil pass0 (pa_cons (pv 5) (pa_cons (pe_fld (pv 4) rfl) pa_nil))) pa_nil)))
    (pss_cons (ps_expr (pe_bm PySem.F.plainAttrs_list PySem.F.slot_list_extend PySem.F.type_list_extend mt_extend (pv 2) (pa_cons (pe_call G_head (hr.mono (by omega)) rfl T.g_head T.d_head.F.kp T.d_head.b .nil pass0 (pa_cons (pe_fld (pv 4) rfl) (pa_cons (pv 6) pa_nil))) pa_nil)))
    (pss_one (ps_set (i := 3) sc_head.nd rfl (Or.inl rfl) pe_int))))) pss_nil)))))
    (pss_one (ps_ret (pv 2)))))), ?_⟩)
  · obtain ⟨M, b, ps, k, rfl, _⟩ := h; rfl
  obtain ⟨M, b, ps, x, rfl, ⟨⟨nb, xs, hb, hx⟩, hM, ho, hd, hw⟩, h0, h1, hB, q⟩ := h
  have cl := (cut_len ho hw h0 h1).2
  walk_at "rd"
  refine p_new (sz (by decide)) fun D hD => ?_
  walk_at "rd"
  have s0 : Same H (upd H D (.lst [])) := same_upd hD
  refine p_forL (s0 _ _ hb) (fun i σ H' => ∃ (y : Int) (dn : List Pt) (ws : List V) (v4 v5 v6 : Option V), σ = [some (.ref b), some (.int x), some (.ref D), some (.int y), v4, v5, v6] ∧ Same H H' ∧ H' D = some (.lst ws) ∧ PtLA K (fun a => M a ∨ a = D) H' dn ws ∧
      hds ps x = dn ++ hds (ps.drop i) y ∧ 0 ≤ y ∧ y ≤ BB)
    ⟨x, [], [], none, none, none, rfl, s0, upd_same, PtLA.nil, by rw [List.drop_zero]; rfl, h0, hB⟩ (fun i σ H' _ ⟨_, _, _, _, _, _, _, z, _⟩ => z _ _ hb) ?_ ?_
  · rintro i v σ H' hi ⟨y, dn, ws, v4, v5, v6, rfl, s1, hD1, hp1, et, y0, yB⟩
    obtain ⟨pt, hp, hpv⟩ := PtLA.get _ _ hx hi
    obtain ⟨g1, g2, g3⟩ := oks_get ho hp
    have hpm := pt.many_nn g1
    rw [drop_cons hp, hds] at et
    have el : ∀ zs r : List Pt, hds ps x = zs ++ r → zs.length ≤ 15000000 := fun zs r e => by rw [e, List.length_append] at cl; omega
    have ew : ws.length = dn.length := hp1.len
    have hpv1 : PtA K (fun a => M a ∨ a = D) H' pt v := (hpv.fresh hD).to (Keep.same s1)
    walk_at "rd"
    refine PtA.many T hpv1 ?_
    walk_at "rd"
    refine ite_d (fun c => ?_) fun c => ?_
    · rw [if_pos c] at et
      walk_at "rd"
      refine p_bmL hD1 ?_
      walk_at "rd"
      refine r_append hD1 (szl (by have := el dn _ et; omega)) ?_
      walk_at "rd"
      have kk : Keep (fun a => M a ∨ a = D) (fun a => M a ∨ a = D) H' (upd H' D (.lst (ws ++ [v]))) := keep_wr (.inr rfl)
      refine PtA.many T (hpv1.to kk) ?_
      walk_at "rd"
      exact ⟨_, dn ++ [pt], _, _, _, _, rfl, s1.wr hD, upd_same, PtLA.app _ _ _ _ (hp1.to kk) (PtLA.one (hpv1.to kk)), by rw [et, List.append_assoc]; rfl, by omega, by omega⟩
    · rw [if_neg c] at et
      walk_at "rd"
      refine ite_d (fun c2 => ?_) fun c2 => ?_
      · rw [if_pos c2] at et
        cases pt with
        | spot sg n => rw [Pt.many] at c; exact absurd (show (1 : Int) ≤ y by omega) c
        | over t qs =>
          have ylt : y < (Pt.over t qs).many := by omega
          obtain ⟨on, tn⟩ := once_pos g1 y0 ylt
          have g1' := g1
          rw [Pt.ok] at g1'
          rw [Pt.many] at ylt
          rw [Pt.dp] at g2
          rw [Pt.wt] at g3
          have dv := div_le on y0 ylt
          have m0 := Int.emod_nonneg y (show manys qs ≠ 0 by omega)
          have m1 := Int.emod_lt_of_pos y on
          rw [Pt.hd] at et
          obtain ⟨a, dx, q2, rfl, hpa, hq2⟩ := hpv1.over
          have hM1 := hM_or (some_ne hD1) (hM_same s1 hM)
          have ok2 : (Pt.over (y / manys qs) qs).ok := by rw [Pt.ok]; exact ⟨dv.1, by omega, g1'.2.2.1, g1'.2.2.2⟩
          walk_at "rd"
          refine p_fld hpa T.cl_Over T.n_Over_s8_once (fO_once _ _ _ _) ?_
          walk_at "rd"
          refine r_divm (divp_mid (mid_of y0 yB) on) fun tp htp => ?_
          have s2 : Same H' (upd H' tp (.tup [.int (y / manys qs), .int (y % manys qs)])) := same_upd htp
          refine r_gTup upd_same rfl ?_
          walk_at "rd"
          refine p_bmL (s2 _ _ hD1) ?_
          walk_at "rd"
          refine p_fld (s2 _ _ hpa) T.cl_Over T.n_Over_s8_parts (fO_parts _ _ _ _) ?_
          walk_at "rd"
          refine make_over (hq2.to (Keep.same s2)) (by omega) ok2 (fun xx H5 nx s5 hs hM5 => ?_) (hM_same s2 hM1)
          walk_at "rd"
          have e2 : hds ps x = (dn ++ [.over (y / manys qs) qs] ++ hds qs (y % manys qs)) ++ hds (ps.drop (i + 1)) 0 := by rw [et]; simp only [List.append_assoc, List.cons_append, List.nil_append]
          have l15 := el _ _ e2
          rw [List.length_append, List.length_append, List.length_singleton] at l15
          refine r_append (s5 _ _ (s2 _ _ hD1)) (szl (by omega)) ?_
          have k5 : Keep (fun a => M a ∨ a = D) (fun a => M a ∨ a = D) H5 (upd H5 D (.lst (ws ++ [.ref xx]))) := keep_wr (.inr rfl)
          have na : a ≠ D := fun z => by rw [z, hD1] at hpa; cases hpa
          have s6 : Same H (upd H5 D (.lst (ws ++ [.ref xx]))) := (s1.trans (s2.trans s5)).wr hD
          walk_at "rd"
          refine p_bmL upd_same ?_
          walk_at "rd"
          refine p_fld (by rw [upd_ne na]; exact s5 _ _ (s2 _ _ hpa)) T.cl_Over T.n_Over_s8_parts (fO_parts _ _ _ _) ?_
          walk_at "rd"
          have hq6 := ((hq2.to (Keep.same s2)).to (Keep.same s5)).to k5
          refine ⟨_, q2, qs, _, rfl, ⟨hq6, hM_or (some_ne upd_same) (hM_same s6 hM), g1'.2.2.2, by omega, by omega⟩, m0, by omega, by omega, fun r H7 s7 hr7 => ?_⟩
          obtain ⟨nr, ys, hr8, hy⟩ := hr7
          have := hy.len
          walk_at "rd"
          refine r_extend (s7 _ _ upd_same) hr8 (sz (by rw [List.length_append, List.length_singleton]; omega)) ?_
          walk_at "rd"
          have k8 : Keep (fun a => M a ∨ a = D) (fun a => M a ∨ a = D) H7 (upd H7 D (.lst ((ws ++ [.ref xx]) ++ ys))) := keep_wr (.inr rfl)
          refine ⟨0, _, _, _, _, _, rfl, (s6.trans s7).wr hD, upd_same, ?_, e2, Int.le_refl _, by have := BB_pos; omega⟩
          have a1 := ((((hp1.to (Keep.same s2)).to (Keep.same s5)).to k5).to (Keep.same s7)).to k8
          have a2 := ((hs.to k5).to (Keep.same s7)).to k8
          exact PtLA.app _ _ _ _ (PtLA.app _ _ _ _ a1 (PtLA.one a2)) (hy.to k8)
      · rw [if_neg c2] at et
        walk_at "rd"
        exact ⟨y, dn, ws, _, _, _, rfl, s1, hD1, hp1, by rw [show y = 0 by omega]; exact et, by omega, by omega⟩
  · rintro σ H' ⟨y, dn, ws, v4, v5, v6, rfl, s1, hD1, hp1, et, y0, yB⟩
    rw [List.drop_eq_nil_of_le (by rw [hx.len]; exact Nat.le_refl _), hds, List.append_nil] at et
    walk_at "rd"
    exact q D H' s1 ⟨fun z => hM D z hD, ws, hD1, by rw [et]; exact hp1.to ⟨fun a z => .inl (.inl z), fun a o _ e => e⟩⟩
theorem ok_head (T : Txt K mg) (G_Over__init : FnOk P w K mg base CX0 2 (He.ma K (He.ga K "Over") "__init__") T.fd_Over__init ["self", "times", "parts"] (spOverI K)) :
    ∀ d : Nat, FnOk P w K mg base CX0 (d + 3) (He.ga K "head") T.fd_head ["parts", "place"] (spHead K d)
  | 0 => vac fun vs H Q E h => by
    obtain ⟨M, b, ps, k, _, c, _⟩ := h
    exact absurd c.dp (by omega)
  | d + 1 => ok_head1 T (by omega) G_Over__init (ok_head T G_Over__init d)
/-! who stands at a place -/
def spSpotAt (K : PySem.W.Frag) (d : Nat) : Sp := fun vs H Q _ => ∃ (M : Addr → Prop) (q : Addr) (ps : List Pt) (x : Int), vs = [.ref q, .int x] ∧ PtsA K M H ps q ∧ oks ps ∧ dps ps < d ∧ 0 ≤ x ∧ x < manys ps ∧
  ∀ a dx p n s H', Same H H' → sas ps x = some s → ¬ M p → H' a = some (.ins (CS K) dx (fS p n)) → H' p = some (.tup (sgV s)) → Q (.ref a) H'
theorem ok_spot_at1 (T : Txt K mg) {k d : Nat} (G_spot_at : FnOk P w K mg base CX0 k (He.ga K "spot_at") T.fd_spot_at ["parts", "place"] (spSpotAt K d)) : FnOk P w K mg base CX0 (k + 1) (He.ga K "spot_at") T.fd_spot_at ["parts", "place"] (spSpotAt K (d + 1)) := by
  refine T.d_spot_at.F.ok sc_spot_at (fun vs H Q E h => ?_) (fun cdv A outer s H vs Q E hr h => ⟨_, PSs.nox (pss_cons (ps_for PassesOwn.never rfl (pi_list (pv 0)) (pg_name (i := 2) sc_spot_at.nd rfl (Or.inl rfl)) (pss_one (ps_if (pt_cmpR op_ge (pv 1) (pe_fld (pv 2) rfl) (nomark _)) (pss_one (ps_aug (i := 1) sc_spot_at.nd rfl (Or.inl rfl) (pe_fld (pv 2) rfl) ip_sub)) (pss_one (ps_if (pt_val (pe_callB call_isi (by rfl) T.z_isinstance bt_isinstance (pa_cons (pv 2) (pa_cons (pe_glob (v := .ref (He.ga K "Spot")) rfl T.g_Spot rfl) pa_nil)))) (pss_one (ps_ret (pv 2))) (pss_one (ps_ret (pe_call G_spot_at (hr.mono (by omega)) rfl T.g_spot_at T.d_spot_at.F.kp T.d_spot_at.b .nil pass0 (pa_cons (pe_fld (pv 2) rfl) (pa_cons (pe_op op_mod (pv 1) (pe_fld (pv 2) rfl)) pa_nil))))))))))
    (pss_one (ps_ret pe_non))), ?_⟩)
  · obtain ⟨M, b, ps, k, rfl, _⟩ := h; rfl
  obtain ⟨M, b, ps, x, rfl, ⟨nb, xs, hb, hx⟩, ho, hd, h0, h1, q⟩ := h
  walk_at "rd"
  refine p_forL hb (fun i σ H' => ∃ (y : Int) (v2 : Option V), σ = [some (.ref b), some (.int y), v2] ∧ Same H H' ∧ sas ps x = sas (ps.drop i) y ∧ 0 ≤ y ∧ y < manys (ps.drop i))
    ⟨x, none, rfl, Same.refl _, by rw [List.drop_zero], h0, by rw [List.drop_zero]; exact h1⟩ (fun i σ H' _ ⟨_, _, _, z, _⟩ => z _ _ hb) ?_ ?_
  · rintro i v σ H' hi ⟨y, v2, rfl, s1, et, y0, y1⟩
    obtain ⟨pt, hp, hpv⟩ := PtLA.get _ _ hx hi
    obtain ⟨g1, g2, g3⟩ := oks_get ho hp
    have hpm := pt.many_nn g1
    rw [drop_cons hp, sas] at et
    rw [drop_cons hp, manys] at y1
    have hpv1 := hpv.to (Keep.same s1)
    walk_at "rd"
    refine PtA.many T hpv1 ?_
    walk_at "rd"
    refine ite_d (fun c => ?_) fun c => ?_
    · rw [if_pos c] at et
      walk_at "rd"
      refine PtA.many T hpv1 ?_
      walk_at "rd"
      exact ⟨_, _, rfl, s1, et, by omega, by omega⟩
    · rw [if_neg c] at et
      walk_at "rd"
      refine isi_spot T hpv1 ?_
      walk_at "rd"
      cases pt with
      | spot sg n =>
        refine iteT ?_
        walk_at "rd"
        rw [PtA] at hpv1
        obtain ⟨a, dx, p, rfl, na, np, e1, e2⟩ := hpv1
        rw [Pt.sa] at et
        exact q a dx p n sg H' s1 et np e1 e2
      | over t qs =>
        refine iteF ?_
        have ylt : y < (Pt.over t qs).many := by omega
        obtain ⟨on, tn⟩ := once_pos g1 y0 ylt
        rw [Pt.ok] at g1
        rw [Pt.dp] at g2
        rw [Pt.sa] at et
        obtain ⟨a, dx, q2, rfl, hpa, hq2⟩ := hpv1.over
        walk_at "rd"
        refine p_fld hpa T.cl_Over T.n_Over_s8_parts (fO_parts _ _ _ _) ?_
        walk_at "rd"
        refine p_fld hpa T.cl_Over T.n_Over_s8_once (fO_once _ _ _ _) ?_
        refine r_mod on ?_
        walk_at "rd"
        exact ⟨M, q2, qs, _, rfl, hq2, g1.2.2.2, by omega, Int.emod_nonneg _ (by omega), Int.emod_lt_of_pos _ on, fun a dx p n sg H2 s2 e1 np e2 e3 => q a dx p n sg H2 (s1.trans s2) (et.trans e1) np e2 e3⟩
  · rintro σ H' ⟨y, v2, rfl, s1, et, y0, y1⟩
    rw [List.drop_eq_nil_of_le (by rw [hx.len]; exact Nat.le_refl _), manys] at y1
    omega
theorem ok_spot_at (T : Txt K mg) : ∀ d : Nat, FnOk P w K mg base CX0 d (He.ga K "spot_at") T.fd_spot_at ["parts", "place"] (spSpotAt K d)
  | 0 => vac fun vs H Q E h => by
    obtain ⟨M, b, ps, k, _, _, _, c, _⟩ := h
    omega
  | d + 1 => ok_spot_at1 T (ok_spot_at T d)
/-! made slim -/
def spSlim (K : PySem.W.Frag) (d : Nat) : Sp := fun vs H Q _ => ∃ (M : Addr → Prop) (q : Addr) (ps : List Pt), vs = [.ref q] ∧ CutIn K M H ps q d ∧ ∀ r H', Same H H' → PtsA K M H' (sls ps) r → Q (.ref r) H'
theorem ok_slim1 (T : Txt K mg) {k d : Nat} (G_slim : FnOk P w K mg base CX0 k (He.ga K "slim") T.fd_slim ["parts"] (spSlim K d)) : FnOk P w K mg base CX0 (k + 1) (He.ga K "slim") T.fd_slim ["parts"] (spSlim K (d + 1)) := by
  refine T.d_slim.F.ok sc_slim (fun vs H Q E h => ?_) (fun cdv A outer s H vs Q E hr h => ⟨_, PSs.nox (pss_cons (ps_set (i := 1) sc_slim.nd rfl (Or.inl rfl) (pe_lst pa_nil))
    (pss_cons (ps_for PassesOwn.never rfl (pi_list (pv 0)) (pg_name (i := 2) sc_slim.nd rfl (Or.inl rfl)) (pss_one (ps_if (PW.pt (pw_and (pt_val (pe_callB call_isi (by rfl) T.z_isinstance bt_isinstance (pa_cons (pv 2) (pa_cons (pe_glob (v := .ref (He.ga K "Over")) rfl T.g_Over rfl) pa_nil)))) (pw_and1 (pt_cmpR op_eq (pe_fld (pv 2) rfl) pe_int (nomark _))))) (pss_one (ps_expr (pe_bm PySem.F.plainAttrs_list PySem.F.slot_list_extend PySem.F.type_list_extend mt_extend (pv 1) (pa_cons (pe_call G_slim (hr.mono (by omega)) rfl T.g_slim T.d_slim.F.kp T.d_slim.b .nil pass0 (pa_cons (pe_fld (pv 2) rfl) pa_nil)) pa_nil)))) (pss_one (ps_if (pt_cmpR op_gt (pe_fld (pv 2) rfl) pe_int (nomark _)) (pss_one (ps_expr (pe_bm PySem.F.plainAttrs_list PySem.F.slot_list_append PySem.F.type_list_append mt_append (pv 1) (pa_cons (pv 2) pa_nil)))) pss_nil)))))
    (pss_one (ps_ret (pv 1))))), ?_⟩)
  · obtain ⟨M, b, ps, rfl, _⟩ := h; rfl
  obtain ⟨M, b, ps, rfl, ⟨⟨nb, xs, hb, hx⟩, hM, ho, hd, hw⟩, q⟩ := h
  have cl : (sls ps).length ≤ 5000000 := by
    have := len_le_wts (sls ps)
    have := (sls_facts ps ho).2.2.2
    omega
  walk_at "rd"
  refine p_new (sz (by decide)) fun D hD => ?_
  walk_at "rd"
  have s0 : Same H (upd H D (.lst [])) := same_upd hD
  refine p_forL (s0 _ _ hb) (fun i σ H' => ∃ (dn : List Pt) (ws : List V) (v2 : Option V), σ = [some (.ref b), some (.ref D), v2] ∧ Same H H' ∧ H' D = some (.lst ws) ∧ PtLA K (fun a => M a ∨ a = D) H' dn ws ∧ sls ps = dn ++ sls (ps.drop i))
    ⟨[], [], none, rfl, s0, upd_same, PtLA.nil, by rw [List.drop_zero]; rfl⟩ (fun i σ H' _ ⟨_, _, _, _, z, _⟩ => z _ _ hb) ?_ ?_
  · rintro i v σ H' hi ⟨dn, ws, v2, rfl, s1, hD1, hp1, et⟩
    obtain ⟨pt, hp, hpv⟩ := PtLA.get _ _ hx hi
    obtain ⟨g1, g2, g3⟩ := oks_get ho hp
    rw [drop_cons hp, sls] at et
    have el : ∀ zs r : List Pt, sls ps = zs ++ r → zs.length ≤ 5000000 := fun zs r e => by rw [e, List.length_append] at cl; omega
    have ew : ws.length = dn.length := hp1.len
    have hpv1 : PtA K (fun a => M a ∨ a = D) H' pt v := (hpv.fresh hD).to (Keep.same s1)
    have put : pt.sl = [pt] → rAppend (.ref D) [v] H' (fun _ H2 => ∃ (dn : List Pt) (ws : List V) (v2 : Option V), ([some (.ref b), some (.ref D), some v] : L2.St) = [some (.ref b), some (.ref D), v2] ∧ Same H H2 ∧ H2 D = some (.lst ws) ∧ PtLA K (fun a => M a ∨ a = D) H2 dn ws ∧ sls ps = dn ++ sls (ps.drop (i + 1))) := fun e => by
      rw [e] at et
      refine r_append hD1 (szl (by have := el dn _ et; omega)) ?_
      have kk : Keep (fun a => M a ∨ a = D) (fun a => M a ∨ a = D) H' (upd H' D (.lst (ws ++ [v]))) := keep_wr (.inr rfl)
      exact ⟨dn ++ [pt], _, _, rfl, s1.wr hD, upd_same, PtLA.app _ _ _ _ (hp1.to kk) (PtLA.one (hpv1.to kk)), by rw [et]; simp only [List.append_assoc]⟩
    walk_at "rd"
    refine isi_over T hpv1 ?_
    walk_at "rd"
    cases pt with
    | spot sg n =>
      refine iteF ?_
      refine iteF ?_
      walk_at "rd"
      refine PtA.many T hpv1 ?_
      walk_at "rd"
      rw [Pt.many]
      refine ite_t (by decide) ?_
      walk_at "rd"
      refine p_bmL hD1 ?_
      walk_at "rd"
      exact put (by rw [Pt.sl])
    | over t qs =>
      have g1' := g1
      rw [Pt.ok] at g1'
      rw [Pt.dp] at g2
      rw [Pt.wt] at g3
      obtain ⟨a, dx, q2, rfl, hpa, hq2⟩ := hpv1.over
      refine iteT ?_
      walk_at "rd"
      refine p_fld hpa T.cl_Over T.n_Over_s8_times (fO_times _ _ _ _) ?_
      walk_at "rd"
      refine ite_d (fun c => ?_) fun c => ?_
      · rw [Pt.sl, if_pos c] at et
        walk_at "rd"
        refine p_bmL hD1 ?_
        walk_at "rd"
        refine p_fld hpa T.cl_Over T.n_Over_s8_parts (fO_parts _ _ _ _) ?_
        walk_at "rd"
        refine ⟨_, q2, qs, rfl, ⟨hq2, hM_or (some_ne hD1) (hM_same s1 hM), g1'.2.2.2, by omega, by omega⟩, fun r H4 s4 hr4 => ?_⟩
        obtain ⟨nr, ys, hr5, hy⟩ := hr4
        have e2 : sls ps = (dn ++ sls qs) ++ sls (ps.drop (i + 1)) := by rw [et]; simp only [List.append_assoc]
        have l5 := el _ _ e2
        rw [List.length_append] at l5
        have := hy.len
        walk_at "rd"
        refine r_extend (s4 _ _ hD1) hr5 (sz (by omega)) ?_
        walk_at "rd"
        have kk : Keep (fun a => M a ∨ a = D) (fun a => M a ∨ a = D) H4 (upd H4 D (.lst (ws ++ ys))) := keep_wr (.inr rfl)
        exact ⟨_, _, _, rfl, (s1.trans s4).wr hD, upd_same, PtLA.app _ _ _ _ ((hp1.to (Keep.same s4)).to kk) (hy.to kk), e2⟩
      · walk_at "rd"
        refine PtA.many T hpv1 ?_
        walk_at "rd"
        rw [Pt.many]
        refine ite_d (fun c2 => ?_) fun c2 => ?_
        · walk_at "rd"
          refine p_bmL hD1 ?_
          walk_at "rd"
          exact put (by rw [Pt.sl, if_neg c, if_pos c2])
        · rw [Pt.sl, if_neg c, if_neg c2] at et
          walk_at "rd"
          exact ⟨dn, ws, _, rfl, s1, hD1, hp1, et⟩
  · rintro σ H' ⟨dn, ws, v2, rfl, s1, hD1, hp1, et⟩
    rw [List.drop_eq_nil_of_le (by rw [hx.len]; exact Nat.le_refl _), sls, List.append_nil] at et
    walk_at "rd"
    exact q D H' s1 ⟨fun z => hM D z hD, ws, hD1, by rw [et]; exact hp1.to ⟨fun a z => .inl (.inl z), fun a o _ e => e⟩⟩
theorem ok_slim (T : Txt K mg) : ∀ d : Nat, FnOk P w K mg base CX0 d (He.ga K "slim") T.fd_slim ["parts"] (spSlim K d)
  | 0 => vac fun vs H Q E h => by
    obtain ⟨M, b, ps, _, c, _⟩ := h
    exact absurd c.dp (by omega)
  | d + 1 => ok_slim1 T (ok_slim T d)
end
/-- said over so many times -/
def ovo (ps : List Pt) (n : Int) : List Pt := match ps with
  | [.over t qs] => sls [.over (t * n) qs]
  | _ => sls [.over n ps]
theorem ovo_facts {ps : List Pt} {n : Int} (ho : oks ps) (hs : isSl ps) (h0 : 0 ≤ n) (hn : n ≤ BB) (hm : manys ps ≤ BB) (hB : manys ps * n ≤ BB) :
    manys (ovo ps n) = manys ps * n ∧ oks (ovo ps n) ∧ dps (ovo ps n) ≤ dps ps + 1 ∧ wts (ovo ps n) ≤ 3 * wts ps + 1 ∧ isSl (ovo ps n) := by
  have gen : ∀ t qs, (Pt.over t qs).ok → ∀ ps', sls [.over t qs] = ps' → manys ps' = t * manys qs ∧ oks ps' ∧ dps ps' ≤ dps qs + 1 ∧ wts ps' ≤ 3 * wts qs + 1 ∧ isSl ps' := fun t qs h ps' e => by
    have f := sls_facts [.over t qs] ((oks_one _).mpr h)
    rw [e, manys_one, dps_one, wts_one, Pt.many, Pt.dp, Pt.wt] at f
    exact ⟨f.1, f.2.1, f.2.2.1, f.2.2.2, e ▸ isSl_sls _⟩
  unfold ovo
  split
  · rename_i t qs
    rw [oks_one, Pt.ok] at ho
    rw [manys_one, Pt.many] at hB hm
    have tp : 0 < t * manys qs := hs.2.1
    have mq := manys_nn qs ho.2.2.2
    have mp : 0 < manys qs := by
      rcases Int.lt_or_le 0 (manys qs) with a | a
      · exact a
      · rw [show manys qs = 0 by omega, Int.mul_zero] at tp; omega
    have tn : t * n ≤ BB := by
      have e : t * manys qs * n = t * n * manys qs := by rw [Int.mul_assoc, Int.mul_comm (manys qs) n, Int.mul_assoc]
      rw [e] at hB
      have h1 : t * n * 1 ≤ t * n * manys qs := Int.mul_le_mul_of_nonneg_left (by omega) (Int.mul_nonneg ho.1 h0)
      omega
    have g := gen (t * n) qs (by rw [Pt.ok]; exact ⟨Int.mul_nonneg ho.1 h0, tn, ho.2.2.1, ho.2.2.2⟩) _ rfl
    rw [manys_one, dps_one, wts_one, Pt.many, Pt.dp, Pt.wt]
    refine ⟨?_, g.2.1, by have := g.2.2.1; omega, by have := g.2.2.2.1; omega, g.2.2.2.2⟩
    rw [g.1, Int.mul_assoc, Int.mul_assoc, Int.mul_comm n]
  · have g := gen n ps (by rw [Pt.ok]; exact ⟨h0, hn, hm, ho⟩) _ rfl
    refine ⟨?_, g.2.1, by have := g.2.2.1; omega, by have := g.2.2.2.1; omega, g.2.2.2.2⟩
    rw [g.1, Int.mul_comm]
section
variable {P : Program} {w : World} {K : PySem.W.Frag} {mg : Str → Option Value} {base : Heap}
def spOvo (K : PySem.W.Frag) (d : Nat) : Sp := fun vs H Q _ => ∃ (M : Addr → Prop) (q : Addr) (ps : List Pt) (n : Int), vs = [.ref q, .int n] ∧ CutIn K M H ps q d ∧ wts ps ≤ 1000000 ∧ isSl ps ∧ 0 ≤ n ∧ n ≤ BB ∧ manys ps ≤ BB ∧ manys ps * n ≤ BB ∧
  ∀ r H', Same H H' → PtsA K M H' (ovo ps n) r → Q (.ref r) H'
theorem ok_over_and_over (T : Txt K mg) {k d : Nat} (hk : 3 ≤ k) (G_Over__init : FnOk P w K mg base CX0 2 (He.ma K (He.ga K "Over") "__init__") T.fd_Over__init ["self", "times", "parts"] (spOverI K))
    (G_slim : FnOk P w K mg base CX0 k (He.ga K "slim") T.fd_slim ["parts"] (spSlim K (d + 1))) : FnOk P w K mg base CX0 (k + 1) (He.ga K "over_and_over") T.fd_over_and_over ["parts", "times"] (spOvo K d) := by
  refine T.d_over_and_over.F.ok sc_over_and_over (fun vs H Q E h => ?_) (fun cdv A outer s H vs Q E hr h => ⟨_, PSs.nox (pss_cons (ps_if (PW.pt (pw_and (pt_cmpR op_eq (pe_callB call_lenS (by rfl) T.z_len bt_len (pa_cons (pv 0) pa_nil)) pe_int (nomark _)) (pw_and1 (pt_val (pe_callB call_isi (by rfl) T.z_isinstance bt_isinstance (pa_cons (pe_ix ix_list (pv 0) pe_int (fun _ _ => rfl)) (pa_cons (pe_glob (v := .ref (He.ga K "Over")) rfl T.g_Over rfl) pa_nil))))))) (pss_one (ps_ret (pe_call G_slim (hr.mono (by omega)) rfl T.g_slim T.d_slim.F.kp T.d_slim.b .nil pass0 (pa_cons (pe_lst (pa_cons (pe_make T.mk_Over G_Over__init (hr.mono (by omega)) rfl T.g_Over T.d_Over__init.b .nil pass0 (pa_cons (pe_op op_mulW (pe_fld (pe_ix ix_list (pv 0) pe_int (fun _ _ => rfl)) rfl) (pv 1)) (pa_cons (pe_fld (pe_ix ix_list (pv 0) pe_int (fun _ _ => rfl)) rfl) pa_nil))) pa_nil)) pa_nil)))) pss_nil)
    (pss_one (ps_ret (pe_call G_slim (hr.mono (by omega)) rfl T.g_slim T.d_slim.F.kp T.d_slim.b .nil pass0 (pa_cons (pe_lst (pa_cons (pe_make T.mk_Over G_Over__init (hr.mono (by omega)) rfl T.g_Over T.d_Over__init.b .nil pass0 (pa_cons (pv 1) (pa_cons (pv 0) pa_nil))) pa_nil)) pa_nil))))), ?_⟩)
  · obtain ⟨M, b, ps, n, rfl, _⟩ := h; rfl
  obtain ⟨M, b, ps, n, rfl, ⟨⟨nb, xs, hb, hx⟩, hM, ho, hd, hw⟩, hw2, hs, h0, hn, hm, hB, q⟩ := h
  have hl := hx.len
  -- a new Over in a list, made slim
  have fin : ∀ (t : Int) (qs : List Pt) (q2 : Addr) (H1 : Hp), Same H H1 → PtsA K M H1 qs q2 → (Pt.over t qs).ok → dps qs < d → wts qs ≤ 1000000 → sls [.over t qs] = ovo ps n →
      pMake (CO K) (spOverI K) E0 [.int t, .ref q2] H1 fun x H2 => pNew .lst [x] H2 fun l H3 => spSlim K (d + 1) [l] H3 Q E0 := fun t qs q2 H1 s1 hq ok dq wq e => by
    refine make_over hq (by omega) ok (fun x H2 nx s2 hs2 hM2 => p_new (sz (by show 1 ≤ _; decide)) fun l hl => ?_) (hM_same s1 hM)
    have s3 : Same H2 (upd H2 l (.lst [.ref x])) := same_upd hl
    have hM3 := hM_same (s1.trans s2) hM
    refine ⟨M, l, [.over t qs], rfl, ⟨⟨fun z => hM3 l z hl, _, upd_same, PtLA.one (hs2.to (Keep.same s3))⟩, hM_same s3 hM3, (oks_one _).mpr ok, by rw [dps_one, Pt.dp]; omega, by rw [wts_one, Pt.wt]; omega⟩, fun r H4 s4 hr4 => ?_⟩
    rw [e] at hr4
    exact q r H4 (s1.trans (s2.trans (s3.trans s4))) hr4
  walk_at "rd"
  refine len_lst hb ?_
  walk_at "rd"
  refine ite_d (fun c => ?_) fun c => ?_
  · obtain ⟨p, ep⟩ : ∃ p, ps = [p] := List.length_eq_one_iff.mp (by omega)
    subst ep
    have hx2 := hx
    rw [PtLA] at hx2
    obtain ⟨v, vr, ev, hv, hr2⟩ := hx2
    rw [PtLA] at hr2
    subst ev hr2
    walk_at "rd"
    refine r_ixL hb atI0 ?_
    walk_at "rd"
    refine isi_over T hv ?_
    walk_at "rd"
    cases p with
    | spot sg m =>
      refine iteF ?_
      walk_at "rd"
      exact fin n [.spot sg m] b H (Same.refl _) ⟨nb, _, hb, hx⟩ (by rw [Pt.ok]; exact ⟨h0, hn, hm, ho⟩) hd hw2 rfl
    | over t qs =>
      refine iteT ?_
      obtain ⟨a, dx, q2, rfl, hpa, hq2⟩ := hv.over
      have ho2 := ho
      rw [oks_one, Pt.ok] at ho2
      have hB2 := hB
      have hm2 := hm
      rw [manys_one, Pt.many] at hB2 hm2
      have tp : 0 < t * manys qs := hs.2.1
      have mq := manys_nn qs ho2.2.2.2
      have mp : 0 < manys qs := by
        rcases Int.lt_or_le 0 (manys qs) with z | z
        · exact z
        · rw [show manys qs = 0 by omega, Int.mul_zero] at tp; omega
      have tn : t * n ≤ BB := by
        have e : t * manys qs * n = t * n * manys qs := by rw [Int.mul_assoc, Int.mul_comm (manys qs) n, Int.mul_assoc]
        rw [e] at hB2
        have h1 : t * n * 1 ≤ t * n * manys qs := Int.mul_le_mul_of_nonneg_left (by omega) (Int.mul_nonneg ho2.1 h0)
        omega
      rw [dps_one, Pt.dp] at hd
      rw [wts_one, Pt.wt] at hw2
      walk_at "rd"
      refine r_ixL hb atI0 ?_
      walk_at "rd"
      refine p_fld hpa T.cl_Over T.n_Over_s8_times (fO_times _ _ _ _) ?_
      walk_at "rd"
      refine r_mul (mid_mul (mid_of ho2.1 ho2.2.1) (mid_of h0 hn)) ?_
      walk_at "rd"
      refine r_ixL hb atI0 ?_
      walk_at "rd"
      refine p_fld hpa T.cl_Over T.n_Over_s8_parts (fO_parts _ _ _ _) ?_
      walk_at "rd"
      exact fin (t * n) qs q2 H (Same.refl _) hq2 (by rw [Pt.ok]; exact ⟨Int.mul_nonneg ho2.1 h0, tn, ho2.2.2.1, ho2.2.2.2⟩) (by omega) (by omega) rfl
  · walk_at "rd"
    refine iteF ?_
    walk_at "rd"
    exact fin n ps b H (Same.refl _) ⟨nb, xs, hb, hx⟩ (by rw [Pt.ok]; exact ⟨h0, hn, hm, ho⟩) hd hw2 (by
      unfold ovo
      split
      · exfalso
        apply c
        rw [hl]; rfl
      · rfl)
/-! turned about -/
def spAbout (K : PySem.W.Frag) (d : Nat) : Sp := fun vs H Q _ => ∃ (M : Addr → Prop) (q : Addr) (ps : List Pt), vs = [.ref q] ∧ CutIn K M H ps q d ∧ ∀ r H', Same H H' → PtsA K M H' (abs_ ps) r → Q (.ref r) H'
theorem rev_get {α : Type} {l : List α} {i : Nat} {x : α} (h : l.reverse[i]? = some x) : i < l.length ∧ l[l.length - 1 - i]? = some x := by
  have hl := (List.getElem?_eq_some_iff.mp h).1
  rw [List.length_reverse] at hl
  rw [List.getElem?_reverse hl] at h
  exact ⟨hl, h⟩
theorem abs_drop {ps : List Pt} {j : Nat} {p : Pt} (h : ps[j]? = some p) : abs_ (ps.drop j) = abs_ (ps.drop (j + 1)) ++ [p.ab] := by rw [drop_cons h, abs_]
theorem ok_about1 (T : Txt K mg) {k d : Nat} (hk : 3 ≤ k) (G_Over__init : FnOk P w K mg base CX0 2 (He.ma K (He.ga K "Over") "__init__") T.fd_Over__init ["self", "times", "parts"] (spOverI K))
    (G_about : FnOk P w K mg base CX0 k (He.ga K "about") T.fd_about ["parts"] (spAbout K d)) : FnOk P w K mg base CX0 (k + 1) (He.ga K "about") T.fd_about ["parts"] (spAbout K (d + 1)) := by
  refine T.d_about.F.ok sc_about (fun vs H Q E h => ?_) (fun cdv A outer s H vs Q E hr h => ⟨_, PSs.nox (pss_cons (ps_set (i := 1) sc_about.nd rfl (Or.inl rfl) (pe_lst pa_nil))
    (pss_cons (ps_for PassesOwn.never rfl (pi_list (pe_revL (pv 0))) (pg_name (i := 2) sc_about.nd rfl (Or.inl rfl)) (pss_one (ps_expr (pe_bm PySem.F.plainAttrs_list PySem.F.slot_list_append PySem.F.type_list_append mt_append (pv 1) (pa_cons (pe_ifExp (pt_val (pe_callB call_isi (by rfl) T.z_isinstance bt_isinstance (pa_cons (pv 2) (pa_cons (pe_glob (v := .ref (He.ga K "Spot")) rfl T.g_Spot rfl) pa_nil)))) (pv 2) (pe_make T.mk_Over G_Over__init (hr.mono (by omega)) rfl T.g_Over T.d_Over__init.b .nil pass0 (pa_cons (pe_fld (pv 2) rfl) (pa_cons (pe_call G_about (hr.mono (by omega)) rfl T.g_about T.d_about.F.kp T.d_about.b .nil pass0 (pa_cons (pe_fld (pv 2) rfl) pa_nil)) pa_nil)))) pa_nil)))))
    (pss_one (ps_ret (pv 1))))), ?_⟩)
  · obtain ⟨M, b, ps, rfl, _⟩ := h; rfl
  obtain ⟨M, b, ps, rfl, ⟨⟨nb, xs, hb, hx⟩, hM, ho, hd, hw⟩, q⟩ := h
  have hl := hx.len
  have hlw := len_le_wts ps
  walk_at "rd"
  refine p_new (sz (by decide)) fun D hD => ?_
  walk_at "rd"
  have s0 : Same H (upd H D (.lst [])) := same_upd hD
  refine p_rev (s0 _ _ hb) fun R hR => ?_
  have s00 : Same H (upd (upd H D (.lst [])) R (.lst xs.reverse)) := s0.trans (same_upd hR)
  have nDR : D ≠ R := ne_of_none upd_same hR
  refine p_forL (xs := xs.reverse) upd_same (fun i σ H' => ∃ (ws : List V) (v2 : Option V), σ = [some (.ref b), some (.ref D), v2] ∧ Same H H' ∧ H' D = some (.lst ws) ∧ H' R = some (.lst xs.reverse) ∧ PtLA K (fun a => M a ∨ a = D) H' (abs_ (ps.drop (ps.length - i))) ws)
    ⟨[], none, rfl, s00, by rw [upd_ne nDR, upd_same], upd_same, by rw [List.drop_eq_nil_of_le (by omega), abs_]; exact PtLA.nil⟩ (fun i σ H' _ ⟨_, _, _, _, _, z, _⟩ => z) ?_ ?_
  · rintro i v σ H' hi ⟨ws, v2, rfl, s1, hD1, hR1, hp1⟩
    obtain ⟨il, hi2⟩ := rev_get hi
    obtain ⟨pt, hp, hpv⟩ := PtLA.get _ _ hx hi2
    rw [hl] at hp il
    obtain ⟨g1, g2, g3⟩ := oks_get ho hp
    have ea : abs_ (ps.drop (ps.length - (i + 1))) = abs_ (ps.drop (ps.length - i)) ++ [pt.ab] := by
      rw [show ps.length - (i + 1) = ps.length - 1 - i by omega, abs_drop hp, show ps.length - 1 - i + 1 = ps.length - i by omega]
    have lw : ws.length < sizeLine := by
      have h1 := hp1.len
      have h2 := len_le_wts (abs_ (ps.drop (ps.length - i)))
      rw [wts_ab] at h2
      have h3 : ps = ps.take (ps.length - i) ++ ps.drop (ps.length - i) := (List.take_append_drop _ ps).symm
      have h4 := wts_app (ps.take (ps.length - i)) (ps.drop (ps.length - i))
      rw [← h3] at h4
      exact szl (by omega)
    have hpv1 : PtA K (fun a => M a ∨ a = D) H' pt v := (hpv.fresh hD).to (Keep.same s1)
    have put : ∀ (y : V) (H2 : Hp), Same H' H2 → PtA K (fun a => M a ∨ a = D) H2 pt.ab y → rAppend (.ref D) [y] H2 (fun _ H2 => ∃ (ws : List V) (v2 : Option V), ([some (.ref b), some (.ref D), some v] : L2.St) = [some (.ref b), some (.ref D), v2] ∧ Same H H2 ∧ H2 D = some (.lst ws) ∧ H2 R = some (.lst xs.reverse) ∧
        PtLA K (fun a => M a ∨ a = D) H2 (abs_ (ps.drop (ps.length - (i + 1)))) ws) := fun y H2 s2 hy => by
      refine r_append (s2 _ _ hD1) lw ?_
      have kk : Keep (fun a => M a ∨ a = D) (fun a => M a ∨ a = D) H2 (upd H2 D (.lst (ws ++ [y]))) := keep_wr (.inr rfl)
      exact ⟨_, _, rfl, (s1.trans s2).wr hD, upd_same, by rw [upd_ne nDR.symm]; exact s2 _ _ hR1, by rw [ea]; exact PtLA.app _ _ _ _ ((hp1.to (Keep.same s2)).to kk) (PtLA.one (hy.to kk))⟩
    walk_at "rd"
    refine p_bmL hD1 ?_
    walk_at "rd"
    refine isi_spot T hpv1 ?_
    walk_at "rd"
    cases pt with
    | spot sg n =>
      refine iteT ?_
      walk_at "rd"
      exact put _ _ (Same.refl _) (by rw [Pt.ab]; exact hpv1)
    | over t qs =>
      have g1' := g1
      rw [Pt.ok] at g1'
      rw [Pt.dp] at g2
      rw [Pt.wt] at g3
      obtain ⟨a, dx, q2, rfl, hpa, hq2⟩ := hpv1.over
      refine iteF ?_
      walk_at "rd"
      refine p_fld hpa T.cl_Over T.n_Over_s8_times (fO_times _ _ _ _) ?_
      walk_at "rd"
      refine p_fld hpa T.cl_Over T.n_Over_s8_parts (fO_parts _ _ _ _) ?_
      walk_at "rd"
      have hM1 := hM_or (some_ne hD1) (hM_same s1 hM)
      refine ⟨_, q2, qs, rfl, ⟨hq2, hM1, g1'.2.2.2, by omega, by omega⟩, fun r H4 s4 hr4 => ?_⟩
      walk_at "rd"
      refine make_over hr4 (by rw [wts_ab]; omega) (by rw [Pt.ok, manys_ab, oks_ab]; exact g1') (fun xx H5 nx s5 hs hM5 => ?_) (hM_same s4 hM1)
      walk_at "rd"
      exact put _ _ (s4.trans s5) (by rw [Pt.ab]; exact hs)
  · rintro σ H' ⟨ws, v2, rfl, s1, hD1, hR1, hp1⟩
    rw [List.length_reverse, hl, Nat.sub_self, List.drop_zero] at hp1
    walk_at "rd"
    exact q D H' s1 ⟨fun z => hM D z hD, ws, hD1, hp1.to ⟨fun a z => .inl (.inl z), fun a o _ e => e⟩⟩
theorem ok_about (T : Txt K mg) (G_Over__init : FnOk P w K mg base CX0 2 (He.ma K (He.ga K "Over") "__init__") T.fd_Over__init ["self", "times", "parts"] (spOverI K)) :
    ∀ d : Nat, FnOk P w K mg base CX0 (d + 3) (He.ga K "about") T.fd_about ["parts"] (spAbout K d)
  | 0 => vac fun vs H Q E h => by
    obtain ⟨M, b, ps, _, c, _⟩ := h
    exact absurd c.dp (by omega)
  | d + 1 => ok_about1 T (by omega) G_Over__init (ok_about T G_Over__init d)
/-! written -/
def spWritten (K : PySem.W.Frag) (d : Nat) : Sp := fun vs H Q _ => ∃ (M : Addr → Prop) (q : Addr) (ps : List Pt), vs = [.ref q] ∧ CutIn K M H ps q d ∧ ∀ r H', Same H H' → LgsA M H' ps r → Q (.ref r) H'
theorem LgLA.snoc {M : Addr → Prop} {H : Hp} {ps : List Pt} {ws : List V} {i : Nat} {p : Pt} {v : V} (h : LgLA M H (ps.take i) ws) (hp : ps[i]? = some p) (hv : LgA M H p v) : LgLA M H (ps.take (i + 1)) (ws ++ [v]) := by
  rw [take_snoc hp]; exact LgLA.app _ _ _ _ h (LgLA.one hv)
theorem ok_written1 (T : Txt K mg) {k d : Nat} (G_written : FnOk P w K mg base CX0 k (He.ga K "written") T.fd_written ["parts"] (spWritten K d)) : FnOk P w K mg base CX0 (k + 1) (He.ga K "written") T.fd_written ["parts"] (spWritten K (d + 1)) := by
  refine T.d_written.F.ok sc_written (fun vs H Q E h => ?_) (fun cdv A outer s H vs Q E hr h => ⟨_, PSs.nox (pss_cons (ps_set (i := 1) sc_written.nd rfl (Or.inl rfl) (pe_lst pa_nil))
    (pss_cons (ps_for PassesOwn.never rfl (pi_list (pv 0)) (pg_name (i := 2) sc_written.nd rfl (Or.inl rfl)) (pss_cons (ps_set (i := 3) sc_written.nd rfl (Or.inl rfl) (pe_callB call_isi (by rfl) T.z_isinstance bt_isinstance (pa_cons (pv 2) (pa_cons (pe_glob (v := .ref (He.ga K "Spot")) rfl T.g_Spot rfl) pa_nil))))
    (pss_one (ps_expr (pe_bm PySem.F.plainAttrs_list PySem.F.slot_list_append PySem.F.type_list_append mt_append (pv 1) (pa_cons (pe_ifExp (pt_val (pv 3)) (pe_fld (pv 2) rfl) (pe_tup (pa_cons pe_str (pa_cons (pe_fld (pv 2) rfl) (pa_cons (pe_call G_written (hr.mono (by omega)) rfl T.g_written T.d_written.F.kp T.d_written.b .nil pass0 (pa_cons (pe_fld (pv 2) rfl) pa_nil)) pa_nil))))) pa_nil))))))
    (pss_one (ps_ret (pv 1))))), ?_⟩)
  · obtain ⟨M, b, ps, rfl, _⟩ := h; rfl
  obtain ⟨M, b, ps, rfl, ⟨⟨nb, xs, hb, hx⟩, hM, ho, hd, hw⟩, q⟩ := h
  have hl := hx.len
  have hlw := len_le_wts ps
  walk_at "rd"
  refine p_new (sz (by decide)) fun D hD => ?_
  walk_at "rd"
  have s0 : Same H (upd H D (.lst [])) := same_upd hD
  refine p_forL (s0 _ _ hb) (fun i σ H' => ∃ (ws : List V) (v2 v3 : Option V), σ = [some (.ref b), some (.ref D), v2, v3] ∧ Same H H' ∧ H' D = some (.lst ws) ∧ LgLA (fun a => M a ∨ a = D) H' (ps.take i) ws)
    ⟨[], none, none, rfl, s0, upd_same, by rw [List.take_zero, LgLA]⟩ (fun i σ H' _ ⟨_, _, _, _, z, _⟩ => z _ _ hb) ?_ ?_
  · rintro i v σ H' hi ⟨ws, v2, v3, rfl, s1, hD1, hp1⟩
    obtain ⟨pt, hp, hpv⟩ := PtLA.get _ _ hx hi
    obtain ⟨g1, g2, g3⟩ := oks_get ho hp
    have il := (List.getElem?_eq_some_iff.mp hp).1
    have lw : ws.length < sizeLine := by
      have h1 := hp1.len
      rw [List.length_take] at h1
      exact szl (by omega)
    have hpv1 : PtA K (fun a => M a ∨ a = D) H' pt v := (hpv.fresh hD).to (Keep.same s1)
    have put : ∀ (y : V) (v3 : V) (H2 : Hp), Same H' H2 → LgA (fun a => M a ∨ a = D) H2 pt y → rAppend (.ref D) [y] H2 (fun _ H2 => ∃ (ws : List V) (v2 v3' : Option V), ([some (.ref b), some (.ref D), some v, some v3] : L2.St) = [some (.ref b), some (.ref D), v2, v3'] ∧ Same H H2 ∧ H2 D = some (.lst ws) ∧
        LgLA (fun a => M a ∨ a = D) H2 (ps.take (i + 1)) ws) := fun y v3 H2 s2 hy => by
      refine r_append (s2 _ _ hD1) lw ?_
      have kk : Keep (fun a => M a ∨ a = D) (fun a => M a ∨ a = D) H2 (upd H2 D (.lst (ws ++ [y]))) := keep_wr (.inr rfl)
      exact ⟨_, _, _, rfl, (s1.trans s2).wr hD, upd_same, LgLA.snoc ((hp1.to (Keep.same s2)).to kk) hp (hy.to kk)⟩
    walk_at "rd"
    refine isi_spot T hpv1 ?_
    walk_at "rd"
    refine p_bmL hD1 ?_
    walk_at "rd"
    cases pt with
    | spot sg n =>
      refine iteT ?_
      rw [PtA] at hpv1
      obtain ⟨a, dx, p, rfl, na, np, e1, e2⟩ := hpv1
      walk_at "rd"
      refine p_fld e1 T.cl_Spot T.n_Spot_s8_said (fS_said _ _) ?_
      walk_at "rd"
      exact put _ _ _ (Same.refl _) (by rw [LgA]; exact ⟨p, rfl, np, e2⟩)
    | over t qs =>
      have g1' := g1
      rw [Pt.ok] at g1'
      rw [Pt.dp] at g2
      rw [Pt.wt] at g3
      obtain ⟨a, dx, q2, rfl, hpa, hq2⟩ := hpv1.over
      refine iteF ?_
      walk_at "rd"
      refine p_fld hpa T.cl_Over T.n_Over_s8_times (fO_times _ _ _ _) ?_
      walk_at "rd"
      refine p_fld hpa T.cl_Over T.n_Over_s8_parts (fO_parts _ _ _ _) ?_
      walk_at "rd"
      have hM1 := hM_or (some_ne hD1) (hM_same s1 hM)
      refine ⟨_, q2, qs, rfl, ⟨hq2, hM1, g1'.2.2.2, by omega, by omega⟩, fun r H4 s4 hr4 => ?_⟩
      walk_at "rd"
      refine p_new (sz (by show 3 ≤ _; decide)) fun tt htt => ?_
      walk_at "rd"
      have s5 : Same H4 (upd H4 tt (.tup [.str "again", .int t, .ref r])) := same_upd htt
      obtain ⟨nr, ys, hr5, hy⟩ := hr4
      refine put _ _ _ (s4.trans s5) ?_
      rw [LgA]
      exact ⟨tt, r, ys, rfl, fun z => hM_same s4 hM1 tt z htt, nr, upd_same, s5 _ _ hr5, hy.to (Keep.same s5)⟩
  · rintro σ H' ⟨ws, v2, v3, rfl, s1, hD1, hp1⟩
    rw [List.take_of_length_le (by omega)] at hp1
    walk_at "rd"
    exact q D H' s1 ⟨fun z => hM D z hD, ws, hD1, hp1.to ⟨fun a z => .inl (.inl z), fun a o _ e => e⟩⟩
theorem ok_written (T : Txt K mg) : ∀ d : Nat, FnOk P w K mg base CX0 d (He.ga K "written") T.fd_written ["parts"] (spWritten K d)
  | 0 => vac fun vs H Q E h => by
    obtain ⟨M, b, ps, _, c, _⟩ := h
    exact absurd c.dp (by omega)
  | d + 1 => ok_written1 T (ok_written T d)
end
/-! ### who is said in parts, how often -/
def siOk (l : List (Int × Int)) : Prop := (akeys l).Nodup ∧ ∀ e ∈ l, 0 ≤ e.2
def addI (l : List (Int × Int)) (k m : Int) : List (Int × Int) := aput l k ((aget l k).getD 0 + m)
theorem getD_nn {l : List (Int × Int)} {k : Int} (h : siOk l) : 0 ≤ (aget l k).getD 0 := by
  cases w : aget l k with
  | none => exact Int.le_refl _
  | some b => exact h.2 _ (aget_mem w)
theorem addI_ok {l : List (Int × Int)} {k m : Int} (h : siOk l) (hm : 0 ≤ m) : siOk (addI l k m) ∧ asum id (addI l k m) = asum id l + m ∧ (∀ x, x ∈ akeys (addI l k m) ↔ x ∈ akeys l ∨ x = k) := by
  unfold addI
  have g := getD_nn (k := k) h
  refine ⟨⟨nd_put _ _ h.1, fun e he => ?_⟩, ?_, fun x => mem_keys_put⟩
  · rcases mem_put he with z | z
    · exact h.2 e z
    · rw [z]; show 0 ≤ _ + m; omega
  · rw [asum_put id l _ _ h.1]
    have : fO id (aget l k) = (aget l k).getD 0 := by cases aget l k <;> rfl
    rw [this]
    show _ - _ + (_ + m) = _
    omega
theorem keys_take {κ α : Type} [DecidableEq κ] {l : List (κ × α)} {i : Nat} {e : κ × α} (h : l[i]? = some e) (x : κ) : x ∈ akeys (l.take (i + 1)) ↔ x ∈ akeys (l.take i) ∨ x = e.1 := by
  rw [take_snoc h]
  unfold akeys
  rw [List.map_append, List.mem_append]
  simp
theorem asum_take {κ α : Type} [DecidableEq κ] {l : List (κ × α)} {i : Nat} {e : κ × α} (f : α → Int) (h : l[i]? = some e) : asum f (l.take (i + 1)) = asum f (l.take i) + f e.2 := by
  rw [take_snoc h]
  unfold asum
  rw [List.map_append, List.sum_append]
  simp
theorem kns_take {ps : List Pt} {i : Nat} {p : Pt} (h : ps[i]? = some p) (x : Int) : x ∈ kns (ps.take (i + 1)) ↔ x ∈ kns (ps.take i) ∨ x ∈ p.kn := by
  rw [take_snoc h, kns_app, List.mem_append, kns, kns, List.append_nil]
theorem kns_sub {ps : List Pt} {i : Nat} {x : Int} (h : x ∈ kns (ps.take i)) : x ∈ kns ps := by
  have e := kns_app (ps.take i) (ps.drop i)
  rw [List.take_append_drop] at e
  rw [e]
  exact List.mem_append_left _ h
theorem len_keys {κ α : Type} [DecidableEq κ] (l : List (κ × α)) : (akeys l).length = l.length := by unfold akeys; rw [List.length_map]
theorem len_of_kns {l : List (Int × Int)} {ps : List Pt} (h : (akeys l).Nodup) (hs : ∀ x, x ∈ akeys l → x ∈ kns ps) : l.length ≤ wts ps := by
  have h1 := List.Nodup.length_le_of_subset h hs
  rw [len_keys] at h1
  exact Nat.le_trans h1 (len_kns_le ps)
section
variable {P : Program} {w : World} {K : PySem.W.Frag} {mg : Str → Option Value} {base : Heap}
def spSaidIn (K : PySem.W.Frag) (d : Nat) : Sp := fun vs H Q _ => ∃ (M : Addr → Prop) (q : Addr) (ps : List Pt), vs = [.ref q] ∧ CutIn K M H ps q d ∧
  ∀ D l H', Same H H' → H D = none → H' D = some (.dK (mkI l)) → siOk l → asum id l = manys ps → (∀ x, x ∈ akeys l ↔ x ∈ kns ps) → Q (.ref D) H'
theorem ok_said_in1 (T : Txt K mg) {k d : Nat} (G_said_in : FnOk P w K mg base CX0 k (He.ga K "said_in") T.fd_said_in ["parts"] (spSaidIn K d)) : FnOk P w K mg base CX0 (k + 1) (He.ga K "said_in") T.fd_said_in ["parts"] (spSaidIn K (d + 1)) := by
  refine T.d_said_in.F.ok sc_said_in (fun vs H Q E h => ?_) (fun cdv A outer s H vs Q E hr h => ⟨_, PSs.nox (pss_cons (ps_set (i := 1) sc_said_in.nd rfl (Or.inl rfl) pe_dnewK)
    (pss_cons (ps_for PassesOwn.never rfl (pi_list (pv 0)) (pg_name (i := 2) sc_said_in.nd rfl (Or.inl rfl)) (pss_one (ps_if (pt_val (pe_callB call_isi (by rfl) T.z_isinstance bt_isinstance (pa_cons (pv 2) (pa_cons (pe_glob (v := .ref (He.ga K "Spot")) rfl T.g_Spot rfl) pa_nil)))) (pss_one (ps_dput (hu_of hr) (pv 1) (pe_fld (pv 2) rfl) (pe_op op_add (pe_dget2 (hu_of hr) (pv 1) (pe_fld (pv 2) rfl) pe_int ⟨rfl, rfl, rfl, rfl⟩) pe_int) rfl)) (pss_one (ps_for PassesOwn.never rfl (pi_items (pe_frz (pe_call G_said_in (hr.mono (by omega)) rfl T.g_said_in T.d_said_in.F.kp T.d_said_in.b .nil pass0 (pa_cons (pe_fld (pv 2) rfl) pa_nil)))) (pg_tup rfl (pgs_cons (pg_name (i := 3) sc_said_in.nd rfl (Or.inl rfl)) (pgs_cons (pg_name (i := 4) sc_said_in.nd rfl (Or.inl rfl)) pgs_nil))) (pss_one (ps_dput (hu_of hr) (pv 1) (pv 3) (pe_op op_add (pe_dget2 (hu_of hr) (pv 1) (pv 3) pe_int ⟨rfl, rfl, rfl, rfl⟩) (pe_op op_mulW (pv 4) (pe_fld (pv 2) rfl))) rfl)))))))
    (pss_one (ps_ret (pv 1))))), ?_⟩)
  · obtain ⟨M, b, ps, rfl, _⟩ := h; rfl
  obtain ⟨M, b, ps, rfl, ⟨⟨nb, xs, hb, hx⟩, hM, ho, hd, hw⟩, q⟩ := h
  have hl := hx.len
  walk_at "rd"
  refine r_dnew fun D hD => ?_
  walk_at "rd"
  have s0 : Same H (upd H D (.dK (mkI []))) := same_upd hD
  refine p_forL (s0 _ _ hb) (fun i σ H' => ∃ (l : List (Int × Int)) (v2 v3 v4 : Option V), σ = [some (.ref b), some (.ref D), v2, v3, v4] ∧ Same H H' ∧ H' D = some (.dK (mkI l)) ∧ siOk l ∧ asum id l = manys (ps.take i) ∧ (∀ x, x ∈ akeys l ↔ x ∈ kns (ps.take i)))
    ⟨[], none, none, none, rfl, s0, upd_same, ⟨List.nodup_nil, fun _ z => nomatch z⟩, by rw [List.take_zero, manys]; rfl, fun x => by rw [List.take_zero, kns]; exact Iff.rfl⟩ (fun i σ H' _ ⟨_, _, _, _, _, z, _⟩ => z _ _ hb) ?_ ?_
  · rintro i v σ H' hi ⟨l, v2, v3, v4, rfl, s1, hD1, lo, ls, lk⟩
    obtain ⟨pt, hp, hpv⟩ := PtLA.get _ _ hx hi
    obtain ⟨g1, g2, g3⟩ := oks_get ho hp
    have hpv1 : PtA K M H' pt v := hpv.to (Keep.same s1)
    have ll : l.length ≤ wts ps := len_of_kns lo.1 fun x z => kns_sub ((lk x).mp z)
    have mt := manys_take hp
    walk_at "rd"
    refine isi_spot T hpv1 ?_
    walk_at "rd"
    cases pt with
    | spot sg n =>
      refine iteT ?_
      rw [PtA] at hpv1
      obtain ⟨a, dx, p, rfl, na, np, e1, e2⟩ := hpv1
      walk_at "rd"
      refine p_isD hD1 ?_
      walk_at "rd"
      refine p_fld e1 T.cl_Spot T.n_Spot_s8_number (fS_number _ _) ?_
      walk_at "rd"
      refine ⟨D, _, rfl, DGet.k (k := .inl n) hD1, ?_⟩
      rw [mkD_val inl_inj]
      have eg : ((aget l n).map V.int).getD (.int 0) = .int ((aget l n).getD 0) := by cases aget l n <;> rfl
      rw [eg]
      walk_at "rd"
      refine p_fld e1 T.cl_Spot T.n_Spot_s8_number (fS_number _ _) ?_
      refine p_dput (k := .inl n) hD1 rfl (by rw [mkD_len]; exact szl (by omega)) ?_
      rw [mkD_put inl_inj]
      have ad := addI_ok (k := n) lo (show (0 : Int) ≤ 1 by omega)
      refine ⟨_, _, _, _, rfl, s1.wr hD, upd_same, ad.1, ?_, fun x => ?_⟩
      · show asum id (addI l n 1) = _
        rw [ad.2.1, ls, mt, Pt.many]
      · rw [kns_take hp, Pt.kn, List.mem_singleton, ← lk x]
        exact ad.2.2 x
    | over t qs =>
      have g1' := g1
      rw [Pt.ok] at g1'
      rw [Pt.dp] at g2
      rw [Pt.wt] at g3
      obtain ⟨a, dx, q2, rfl, hpa, hq2⟩ := hpv1.over
      refine iteF ?_
      walk_at "rd"
      refine p_fld hpa T.cl_Over T.n_Over_s8_parts (fO_parts _ _ _ _) ?_
      walk_at "rd"
      refine ⟨M, q2, qs, rfl, ⟨hq2, hM_same s1 hM, g1'.2.2.2, by omega, by omega⟩, fun D2 l2 H2 s2 hD2 hD2' l2o l2s l2k => ?_⟩
      walk_at "rd"
      refine ⟨D2, _, rfl, hD2', trivial, fun od => ?_⟩
      have nD : D ≠ D2 := ne_of_none hD1 hD2
      have s3 : Same H' (upd H2 D2 (.frz od (.dK (mkI l2)))) := s2.wr hD2
      refine p_forI upd_same (fun j σ H3 => ∃ (l' : List (Int × Int)) (v3 v4 : Option V), σ = [some (.ref b), some (.ref D), some (.ref a), v3, v4] ∧ Same H H3 ∧ H3 a = some (.ins (CO K) dx (fO4 t q2 (manys qs) (t * manys qs))) ∧ H3 D2 = some (.frz od (.dK (mkI l2))) ∧ H3 D = some (.dK (mkI l')) ∧ siOk l' ∧
        asum id l' = asum id l + asum id (l2.take j) * t ∧ (∀ x, x ∈ akeys l' ↔ x ∈ akeys l ∨ x ∈ akeys (l2.take j)))
        ⟨l, v3, v4, rfl, s1.trans s3, s3 _ _ hpa, upd_same, s3 _ _ hD1, lo, by rw [List.take_zero]; show _ = _ + 0 * t; rw [Int.zero_mul]; omega, fun x => by rw [List.take_zero]; show _ ↔ _ ∨ x ∈ ([] : List Int); simp⟩
        (fun j σ H3 _ ⟨_, _, _, _, _, _, z, _⟩ => z) ?_ ?_
      · rintro j TT kk vv σ H3 hj hT ⟨l', w3, w4, rfl, s4, hpa3, hf3, hD3, lo', ls', lk'⟩
        obtain ⟨⟨n, m⟩, he, ek, ev⟩ := mkD_get l2 hj
        subst ek ev
        have hm0 : 0 ≤ m := l2o.2 _ (List.mem_of_getElem? he)
        have hm1 : m ≤ asum id l2 := le_asum (f := id) (fun e z => l2o.2 e z) (List.mem_of_getElem? he)
        have hmn := Int.mul_nonneg hm0 g1'.1
        have nk : ∀ x, x ∈ akeys (l2.take (j + 1)) → x ∈ kns qs := fun x z => (l2k x).mp (by
          have e : akeys l2 = akeys (l2.take (j + 1)) ++ akeys (l2.drop (j + 1)) := by unfold akeys; rw [← List.map_append, List.take_append_drop]
          rw [e]; exact List.mem_append_left _ z)
        have ll' : l'.length ≤ wts ps := len_of_kns lo'.1 fun x z => by
          rcases (lk' x).mp z with z | z
          · exact kns_sub ((lk x).mp z)
          · refine kns_sub ((kns_take hp x).mpr (.inr ?_))
            rw [Pt.kn]
            exact nk x ((keys_take he x).mpr (.inl z))
        have nT : D ≠ TT := ne_of_none hD3 hT
        refine r_gTup upd_same rfl ?_
        walk_at "rd"
        have s5 : Same H3 (upd H3 TT (.tup [kV (.inl n), .int m])) := same_upd hT
        refine p_isD (s5 _ _ hD3) ?_
        walk_at "rd"
        refine ⟨D, _, rfl, DGet.k (k := .inl n) (s5 _ _ hD3), ?_⟩
        rw [mkD_val inl_inj]
        have eg : ((aget l' n).map V.int).getD (.int 0) = .int ((aget l' n).getD 0) := by cases aget l' n <;> rfl
        rw [eg]
        walk_at "rd"
        refine p_fld (s5 _ _ hpa3) T.cl_Over T.n_Over_s8_times (fO_times _ _ _ _) ?_
        walk_at "rd"
        refine r_mul (mid_mul (mid_of hm0 (by rw [l2s] at hm1; omega)) (mid_of g1'.1 g1'.2.1)) ?_
        walk_at "rd"
        refine p_dput (k := .inl n) (s5 _ _ hD3) rfl (by rw [mkD_len]; exact szl (by omega)) ?_
        rw [mkD_put inl_inj]
        have ad := addI_ok (k := n) lo' hmn
        have na : a ≠ D := fun z => by rw [z, hD3] at hpa3; cases hpa3
        refine ⟨_, _, _, rfl, (s4.trans s5).wr hD, by rw [upd_ne na]; exact s5 _ _ hpa3, by rw [upd_ne nD.symm]; exact s5 _ _ hf3, upd_same, ad.1, ?_, fun x => ?_⟩
        · show asum id (addI l' n (m * t)) = _
          rw [ad.2.1, ls', asum_take id he]
          show asum id l + asum id (List.take j l2) * t + m * t = asum id l + (asum id (List.take j l2) + m) * t
          rw [Int.add_mul]; omega
        · rw [keys_take he, ← or_assoc, ← lk' x]
          exact ad.2.2 x
      · rintro σ H3 ⟨l', w3, w4, rfl, s4, hpa3, hf3, hD3, lo', ls', lk'⟩
        rw [mkD_len, List.take_length] at ls' lk'
        refine ⟨_, _, _, _, rfl, s4, hD3, lo', ?_, fun x => ?_⟩
        · rw [ls', ls, l2s, mt, Pt.many, Int.mul_comm]
        · rw [lk' x, lk x, kns_take hp, Pt.kn, l2k x]
  · rintro σ H' ⟨l, v2, v3, v4, rfl, s1, hD1, lo, ls, lk⟩
    rw [List.take_of_length_le (by omega)] at ls lk
    walk_at "rd"
    exact q D l H' s1 hD hD1 lo ls lk
theorem ok_said_in (T : Txt K mg) : ∀ d : Nat, FnOk P w K mg base CX0 d (He.ga K "said_in") T.fd_said_in ["parts"] (spSaidIn K d)
  | 0 => vac fun vs H Q E h => by
    obtain ⟨M, b, ps, _, c, _⟩ := h
    exact absurd c.dp (by omega)
  | d + 1 => ok_said_in1 T (ok_said_in T d)
/-! ### the lesser slack, one word -/
def spLess : Sp := fun vs H Q _ => ∃ a b : Option Int, vs = [oV a, oV b] ∧ Q (oV (les a b)) H
theorem ok_lesser_slack (T : Txt K mg) : FnOk P w K mg base CX0 1 (He.ga K "lesser_slack") T.fd_lesser_slack ["one", "other"] spLess := by
  refine T.d_lesser_slack.F.ok sc_lesser_slack (fun vs H Q E h => ?_) (fun cdv A outer s H vs Q E hr h => ⟨_, PSs.nox (pss_cons (ps_if (PW.pt (pw_or (pt_cmpR op_non (pv 0) pe_non (nomark _)) (pw_or1 (pt_cmpR op_non (pv 1) pe_non (nomark _))))) (pss_one (ps_ret (pe_ifExp (pt_cmpR op_non (pv 0) pe_non (nomark _)) (pv 1) (pv 0)))) pss_nil)
    (pss_one (ps_ret (pe_callB (call_minN rfl) (by rfl) T.z_min bt_min (pa_cons (pv 0) (pa_cons (pv 1) pa_nil)))))), ?_⟩)
  · obtain ⟨a, b, rfl, _⟩ := h; rfl
  obtain ⟨a, b, rfl, q⟩ := h
  cases a with
  | none =>
    walk_at "rd"
    refine ite_t rfl ?_
    refine iteT ?_
    walk_at "rd"
    refine ite_t rfl ?_
    walk_at "rd"
    exact q
  | some x =>
    cases b with
    | none =>
      walk_at "rd"
      refine ite_f (fun z => nomatch z) ?_
      walk_at "rd"
      refine ite_t rfl ?_
      walk_at "rd"
      refine ite_f (fun z => nomatch z) ?_
      walk_at "rd"
      exact q
    | some y =>
      walk_at "rd"
      refine ite_f (fun z => nomatch z) ?_
      walk_at "rd"
      refine ite_f (fun z => nomatch z) ?_
      walk_at "rd"
      exact r_min q
def spWord : Sp := fun vs H Q _ => ∃ (p : Addr) (s : Sg) (x : Int), vs = [.ref p, .int x] ∧ H p = some (.tup (sgV s)) ∧
  ∀ r l H', Same H H' → H l = none → H' r = some (.tup [.ref l, oV (word s x).2]) → H' l = some (.lst [.int (word s x).1.1, .int (word s x).1.2]) → Q (.ref r) H'
theorem ok_word_of (T : Txt K mg) : FnOk P w K mg base CX0 1 (He.ga K "word_of") T.fd_word_of ["saying", "number"] spWord := by
  refine T.d_word_of.F.ok sc_word_of (fun vs H Q E h => ?_) (fun cdv A outer s H vs Q E hr h => ⟨_, PSs.nox (pss_cons (ps_asg (pv 0) (pg_tup rfl (pgs_cons (pg_name (i := 2) sc_word_of.nd rfl (Or.inl rfl)) (pgs_cons (pg_name (i := 3) sc_word_of.nd rfl (Or.inl rfl)) pgs_nil))))
    (pss_cons (ps_if (pt_cmpR op_lt (pv 1) (pv 2) (nomark _)) (pss_one (ps_ret (pe_tup (pa_cons (pe_lst (pa_cons pe_int (pa_cons pe_int pa_nil))) (pa_cons (pe_op op_sub (pe_op op_sub (pv 2) pe_int) (pv 1)) pa_nil))))) pss_nil)
    (pss_cons (ps_if (PW.pt (pw_or (pt_cmpR op_non (pv 3) pe_non (nomark _)) (pw_or1 (pt_cmpR op_le (pv 1) (pv 3) (nomark _))))) (pss_one (ps_ret (pe_tup (pa_cons (pe_lst (pa_cons pe_int (pa_cons pe_int pa_nil))) (pa_cons (pe_ifExp (pt_cmpR op_non (pv 3) pe_non (nomark _)) pe_non (pe_op op_sub (pv 3) (pv 1))) pa_nil))))) pss_nil)
    (pss_one (ps_ret (pe_tup (pa_cons (pe_lst (pa_cons pe_int (pa_cons pe_int pa_nil))) (pa_cons pe_non pa_nil)))))))), ?_⟩)
  · obtain ⟨p, s, x, rfl, _⟩ := h; rfl
  obtain ⟨p, ⟨lo, hi⟩, x, rfl, hp, q⟩ := h
  have fin : ∀ (f t : Int) (o : Option Int), word (lo, hi) x = ((f, t), o) → pNew .lst [.int f, .int t] H fun l H1 => pNew .tup [l, oV o] H1 Q := fun f t o e => by
    refine p_new (sz (by show 2 ≤ _; decide)) fun l hl => p_new (sz (by show 2 ≤ _; decide)) fun r hr => ?_
    have s1 : Same H (upd H l (.lst [.int f, .int t])) := same_upd hl
    have s2 : Same (upd H l (.lst [.int f, .int t])) (upd (upd H l (.lst [.int f, .int t])) r (.tup [.ref l, oV o])) := same_upd hr
    exact q r l _ (s1.trans s2) hl (by rw [e]; exact upd_same) (by rw [e]; exact s2 _ _ upd_same)
  cases hi with
  | none =>
    walk_at "rd"
    refine r_gTup (xs := [.int lo, .non]) hp rfl ?_
    walk_at "rd"
    refine ite_d (fun c => ?_) fun c => ?_
    · have f1 := fin 1 0 (some (lo - 1 - x)) (by unfold word; exact if_pos c)
      walk_at "rd"
      refine p_new (sz (by show 2 ≤ _; decide)) fun l hl => ?_
      walk_at "rd"
      exact f1.2 l hl
    · have f1 := fin 0 1 none (by unfold word; exact if_neg c)
      walk_at "rd"
      refine ite_t rfl ?_
      refine iteT ?_
      walk_at "rd"
      refine p_new (sz (by show 2 ≤ _; decide)) fun l hl => ?_
      walk_at "rd"
      refine ite_t rfl ?_
      walk_at "rd"
      exact f1.2 l hl
  | some m =>
    walk_at "rd"
    refine r_gTup (xs := [.int lo, .int m]) hp rfl ?_
    walk_at "rd"
    refine ite_d (fun c => ?_) fun c => ?_
    · have f1 := fin 1 0 (some (lo - 1 - x)) (by unfold word; exact if_pos c)
      walk_at "rd"
      refine p_new (sz (by show 2 ≤ _; decide)) fun l hl => ?_
      walk_at "rd"
      exact f1.2 l hl
    · walk_at "rd"
      refine ite_f (fun z => nomatch z) ?_
      walk_at "rd"
      refine ite_d (fun c2 => ?_) fun c2 => ?_
      · have f1 := fin 0 1 (some (m - x)) (by unfold word; rw [if_neg c]; exact if_pos c2)
        walk_at "rd"
        refine p_new (sz (by show 2 ≤ _; decide)) fun l hl => ?_
        walk_at "rd"
        refine ite_f (fun z => nomatch z) ?_
        walk_at "rd"
        exact f1.2 l hl
      · have f1 := fin 0 0 none (by unfold word; rw [if_neg c]; exact if_neg c2)
        walk_at "rd"
        refine p_new (sz (by show 2 ≤ _; decide)) fun l hl => ?_
        walk_at "rd"
        exact f1.2 l hl
end
/-! ### an account in the heap -/
def CtL (M : Addr → Prop) (H : Hp) : List (Int × Addr) → Ct → Prop
  | [], c => c = []
  | e :: l, c => ∃ p r, c = (e.1, p) :: r ∧ ¬ M e.2 ∧ H e.2 = some (.lst [.int p.1, .int p.2]) ∧ CtL M H l r
theorem CtL.to {M M' : Addr → Prop} {H H' : Hp} (f : ∀ a xs, ¬ M a → H a = some (.lst xs) → ¬ M' a ∧ H' a = some (.lst xs)) : ∀ {l : List (Int × Addr)} {c : Ct}, CtL M H l c → CtL M' H' l c
  | [], _, h => h
  | e :: l, c, h => by
    obtain ⟨p, r, ec, h1, h2, h3⟩ := h
    have g := f _ _ h1 h2
    exact ⟨p, r, ec, g.1, g.2, h3.to f⟩
theorem CtL.keep {M M' : Addr → Prop} {H H' : Hp} (k : Keep M M' H H') {l : List (Int × Addr)} {c : Ct} (h : CtL M H l c) : CtL M' H' l c := h.to fun a xs n e => ⟨k.not n e, k.k _ _ n e⟩
theorem CtL.keys {M : Addr → Prop} {H : Hp} : ∀ {l : List (Int × Addr)} {c : Ct}, CtL M H l c → akeys l = akeys c
  | [], _, h => by rw [show _ = [] from h]; rfl
  | e :: l, c, h => by
    obtain ⟨p, r, ec, h1, h2, h3⟩ := h
    rw [ec]
    show e.1 :: akeys l = e.1 :: akeys r
    rw [h3.keys]
theorem CtL.len {M : Addr → Prop} {H : Hp} {l : List (Int × Addr)} {c : Ct} (h : CtL M H l c) : l.length = c.length := by rw [← len_keys l, h.keys, len_keys]
theorem CtL.idx {M : Addr → Prop} {H : Hp} : ∀ {l : List (Int × Addr)} {c : Ct} {i : Nat} {e : Int × Addr}, CtL M H l c → l[i]? = some e → ∃ p, c[i]? = some (e.1, p) ∧ ¬ M e.2 ∧ H e.2 = some (.lst [.int p.1, .int p.2])
  | [], _, i, e, _, q => by simp at q
  | e0 :: l, c, i, e, h, q => by
    obtain ⟨p, r, ec, h1, h2, h3⟩ := h
    rw [ec]
    cases i with
    | zero =>
      have : e0 = e := Option.some.inj q
      subst this
      exact ⟨p, rfl, h1, h2⟩
    | succ i => exact h3.idx (i := i) q
theorem CtL.get {M : Addr → Prop} {H : Hp} (k : Int) : ∀ {l : List (Int × Addr)} {c : Ct}, CtL M H l c → (aget l k = none ∧ aget c k = none) ∨ ∃ a p, aget l k = some a ∧ aget c k = some p ∧ ¬ M a ∧ H a = some (.lst [.int p.1, .int p.2])
  | [], _, h => by rw [show _ = [] from h]; exact .inl ⟨rfl, rfl⟩
  | e :: l, c, h => by
    obtain ⟨p, r, ec, h1, h2, h3⟩ := h
    rw [ec, aget_cons, aget_cons]
    by_cases q : e.1 = k
    · rw [if_pos q, if_pos q]; exact .inr ⟨_, _, rfl, rfl, h1, h2⟩
    · rw [if_neg q, if_neg q]; exact h3.get k
theorem CtL.put {M : Addr → Prop} {H : Hp} {k : Int} {a : Addr} {p : Int × Int} (na : ¬ M a) (ha : H a = some (.lst [.int p.1, .int p.2])) : ∀ {l : List (Int × Addr)} {c : Ct}, (akeys l).Nodup → CtL M H l c → CtL M H (aput l k a) (aput c k p)
  | [], _, _, h => by rw [show _ = [] from h]; exact ⟨p, [], rfl, na, ha, rfl⟩
  | e :: l, c, hn, h => by
    obtain ⟨p0, r, ec, h1, h2, h3⟩ := h
    have hc : e.1 ∉ akeys l ∧ (akeys l).Nodup := List.nodup_cons.mp hn
    rw [ec]
    by_cases q : e.1 = k
    · rw [aput_cons_eq q (q ▸ hc.1), aput_cons_eq (p := (e.1, p0)) q (by rw [← h3.keys]; exact q ▸ hc.1)]
      exact ⟨p, r, rfl, na, ha, h3⟩
    · rw [aput_cons_ne q, aput_cons_ne (p := (e.1, p0)) q]
      exact ⟨p0, _, rfl, h1, h2, CtL.put na ha hc.2 h3⟩
theorem len_kn {α : Type} {l : List (Int × α)} {ps : List Pt} (h : (akeys l).Nodup) (hs : ∀ x, x ∈ akeys l → x ∈ kns ps) : l.length ≤ wts ps := by
  have h1 := List.Nodup.length_le_of_subset h hs
  rw [len_keys] at h1
  exact Nat.le_trans h1 (len_kns_le ps)
theorem ctAdd_len (n : Int) : ∀ (m c : Ct), (ctAdd c m n).length ≤ c.length + m.length
  | [], c => Nat.le_refl _
  | e :: m, c => by
    have h1 := ctAdd_len n m (ctAdd1 c e n)
    have h2 := len_put c e.1 (((aget c e.1).getD (0, 0)).1 + e.2.1 * n, ((aget c e.1).getD (0, 0)).2 + e.2.2 * n)
    show (ctAdd (ctAdd1 c e n) m n).length ≤ _
    unfold ctAdd1 at h1 ⊢
    rw [List.length_cons]
    omega
theorem ctAdd_snoc {c m : Ct} {n : Int} {i : Nat} {e : Int × (Int × Int)} (h : m[i]? = some e) : ctAdd c (m.take (i + 1)) n = ctAdd1 (ctAdd c (m.take i) n) e n := by
  rw [take_snoc h]
  unfold ctAdd
  rw [List.foldl_append]; rfl
theorem ctOk_nil : ctOk 0 [] := ⟨List.nodup_nil, fun _ z => (nomatch z), Int.le_refl _⟩
theorem ctOk_le {a b : Int} {c : Ct} (h : ctOk a c) (l : a ≤ b) : ctOk b c := ⟨h.1, h.2.1, by have := h.2.2; omega⟩
theorem ctOk_each {b : Int} {c : Ct} (h : ctOk b c) {e : Int × (Int × Int)} (he : e ∈ c) : 0 ≤ e.2.1 ∧ 0 ≤ e.2.2 ∧ e.2.1 ≤ b ∧ e.2.2 ≤ b := by
  have h1 := h.2.1 e he
  have h2 := le_asum (f := fun p : Int × Int => p.1 + p.2) (fun e z => by have := h.2.1 e z; show 0 ≤ _ + _; omega) he
  have h3 := h.2.2
  have h4 : e.2.1 + e.2.2 ≤ asum (fun p : Int × Int => p.1 + p.2) c := h2
  omega
theorem mid_le {i j : Int} (hj : Mid j) (h0 : 0 ≤ i) (h1 : i ≤ j) : Mid i := by
  have : 0 ≤ BB * BB := by decide
  have := hj.2
  exact ⟨by omega, by omega⟩
section
variable {P : Program} {w : World} {K : PySem.W.Frag} {mg : Str → Option Value} {base : Heap}
def spAdd : Sp := fun vs H Q _ => ∃ (M : Addr → Prop) (D D2 : Addr) (l l2 : List (Int × Addr)) (c m : Ct) (n b d : Int), vs = [.ref D, .ref D2, .int n] ∧ D ≠ D2 ∧ M D ∧ (∀ a, M a → H a ≠ none) ∧ H D = some (.dK (mkR l)) ∧ H D2 = some (.dK (mkR l2)) ∧
  CtL M H l c ∧ CtL M H l2 m ∧ ctOk b c ∧ ctOk d m ∧ Mid d ∧ Mid n ∧ c.length + m.length < 16777216 ∧
  ∀ l' H', SameX D H H' → H' D = some (.dK (mkR l')) → CtL M H' l' (ctAdd c m n) → Q .non H'
theorem atA0 {a b : V} : atI [a, b] 0 = some a := rfl
theorem atA1 {a b : V} : atI [a, b] 1 = some b := rfl
theorem ok_add_counts (T : Txt K mg) : FnOk P w K mg base CX0 1 (He.ga K "add_counts") T.fd_add_counts ["counts", "more", "times"] spAdd := by
  refine T.d_add_counts.F.ok sc_add_counts (fun vs H Q E h => ?_) (fun cdv A outer s H vs Q E hr h => ⟨_, PSs.nox (pss_one (ps_lock (ps_for PassesOwn.never rfl (pi_items (pv 1)) (pg_tup rfl (pgs_cons (pg_name (i := 3) sc_add_counts.nd rfl (Or.inl rfl)) (pgs_cons (pg_name (i := 4) sc_add_counts.nd rfl (Or.inl rfl)) pgs_nil))) (pss_cons (ps_set (i := 5) sc_add_counts.nd rfl (Or.inl rfl) (pe_dget2 (hu_of hr) (pv 0) (pv 3) (pe_lst (pa_cons pe_int (pa_cons pe_int pa_nil))) ⟨rfl, rfl, rfl, rfl⟩))
    (pss_one (ps_dput (hu_of hr) (pv 0) (pv 3) (pe_lst (pa_cons (pe_op op_add (pe_ix ix_list (pv 5) (pe_glob (v := .int 0) rfl T.c_FEW ⟨_, rfl⟩) (fun _ _ => rfl)) (pe_op op_mulW (pe_ix ix_list (pv 4) (pe_glob (v := .int 0) rfl T.c_FEW ⟨_, rfl⟩) (fun _ _ => rfl)) (pv 2))) (pa_cons (pe_op op_add (pe_ix ix_list (pv 5) (pe_glob (v := .int 1) rfl T.c_TRUE ⟨_, rfl⟩) (fun _ _ => rfl)) (pe_op op_mulW (pe_ix ix_list (pv 4) (pe_glob (v := .int 1) rfl T.c_TRUE ⟨_, rfl⟩) (fun _ _ => rfl)) (pv 2))) pa_nil))) rfl)))))), ?_⟩)
  · obtain ⟨M, D, D2, l, l2, c, m, n, b, d, rfl, _⟩ := h; rfl
  obtain ⟨M, D, D2, l, l2, c, m, n, b, d, rfl, nD, MD, hM, hD, hD2, hl, hl2, co, mo, md, mn, hlen, q⟩ := h
  walk_at "rd"
  refine r_lock hD2 trivial fun od => ?_
  walk_at "rd"
  have stay : ∀ a xs, ¬ M a → H a = some (.lst xs) → ¬ M a ∧ (upd H D2 (.frz od (.dK (mkR l2)))) a = some (.lst xs) := fun a xs na e => ⟨na, by
    rw [upd_ne (fun z => by rw [z, hD2] at e; cases e)]; exact e⟩
  refine p_forI upd_same (fun j σ H3 => ∃ (l' : List (Int × Addr)) (v3 v4 v5 : Option V), σ = [some (.ref D), some (.ref D2), some (.int n), v3, v4, v5] ∧ SameX D (upd H D2 (.frz od (.dK (mkR l2)))) H3 ∧ H3 D = some (.dK (mkR l')) ∧
      CtL M H3 l' (ctAdd c (m.take j) n)) ⟨l, none, none, none, rfl, SameX.refl _ _, by rw [upd_ne nD]; exact hD, hl.to stay⟩
    (fun j σ H3 _ ⟨_, _, _, _, _, z, _⟩ => z _ _ nD.symm upd_same) ?_ ?_
  · rintro j TT kk vv σ H3 hj hT ⟨l', v3, v4, v5, rfl, s1, hD3, hl'⟩
    obtain ⟨⟨k, a⟩, he, ek, ev⟩ := mkD_get l2 hj
    subst ek ev
    obtain ⟨⟨f, t⟩, hm, na, ha⟩ := hl2.idx he
    have pm := ctOk_each mo (List.mem_of_getElem? hm)
    have cn := (ctAdd_facts (fun p => p.1 + p.2) rfl lin_both n (m.take j) c co.1).1
    have ln := ctAdd_len n (m.take j) c
    have jl := (List.getElem?_eq_some_iff.mp hm).1
    rw [List.length_take] at ln
    have ha3 : H3 a = some (.lst [.int f, .int t]) := s1 _ _ (fun z => na (z ▸ MD)) (stay a _ na ha).2
    have s5 : Same H3 (upd H3 TT (.tup [kV (.inl k), .ref a])) := same_upd hT
    refine r_gTup upd_same rfl ?_
    walk_at "rd"
    refine p_isD (s5 _ _ hD3) ?_
    walk_at "rd"
    refine p_new (sz (by show 2 ≤ _; decide)) fun Z hZ => ?_
    have s6 : Same (upd H3 TT (.tup [kV (.inl k), .ref a])) (upd (upd H3 TT (.tup [kV (.inl k), .ref a])) Z (.lst [.int 0, .int 0])) := same_upd hZ
    have s7 := s5.trans s6
    refine ⟨D, _, rfl, DGet.k (k := .inl k) (s7 _ _ hD3), ?_⟩
    rw [mkD_val inl_inj]
    obtain ⟨u, p, eu, ep, hu⟩ : ∃ (u : Addr) (p : Int × Int), ((aget l' k).map V.ref).getD (.ref Z) = .ref u ∧ (aget (ctAdd c (m.take j) n) k).getD (0, 0) = p ∧ (upd (upd H3 TT (.tup [kV (.inl k), .ref a])) Z (.lst [.int 0, .int 0])) u = some (.lst [.int p.1, .int p.2]) := by
      rcases hl'.get k with ⟨e1, e2⟩ | ⟨a2, p, e1, e2, n2, h2⟩
      · rw [e1, e2]; exact ⟨Z, (0, 0), rfl, rfl, upd_same⟩
      · rw [e1, e2]; exact ⟨a2, p, rfl, rfl, s7 _ _ h2⟩
    rw [eu]
    walk_at "rd"
    refine r_ixL hu atA0 ?_
    walk_at "rd"
    refine r_ixL (s7 _ _ ha3) atA0 ?_
    walk_at "rd"
    refine r_mul (mid_mul (mid_le md pm.1 pm.2.2.1) mn) ?_
    walk_at "rd"
    refine r_ixL hu atA1 ?_
    walk_at "rd"
    refine r_ixL (s7 _ _ ha3) atA1 ?_
    walk_at "rd"
    refine r_mul (mid_mul (mid_le md pm.2.1 pm.2.2.2) mn) ?_
    walk_at "rd"
    refine p_new (sz (by show 2 ≤ _; decide)) fun L hL => ?_
    walk_at "rd"
    have s8 : Same H3 (upd (upd (upd H3 TT (.tup [kV (.inl k), .ref a])) Z (.lst [.int 0, .int 0])) L (.lst [.int (p.1 + f * n), .int (p.2 + t * n)])) := s7.trans (same_upd hL)
    have x1 : SameX D (upd H D2 (.frz od (.dK (mkR l2)))) (upd (upd (upd H3 TT (.tup [kV (.inl k), .ref a])) Z (.lst [.int 0, .int 0])) L (.lst [.int (p.1 + f * n), .int (p.2 + t * n)])) := s1.trans (SameX.of s8)
    have nL : ¬ M L := fun z => by
      have h2 : (upd H D2 (.frz od (.dK (mkR l2)))) L ≠ none := fun y => by
        by_cases e : L = D2
        · rw [e, upd_same] at y; cases y
        · rw [upd_ne e] at y; exact hM L z y
      by_cases e : L = D
      · rw [e, s7 _ _ hD3] at hL; cases hL
      · obtain ⟨o, ho⟩ := Option.ne_none_iff_exists'.mp h2
        rw [s7 _ _ (s1 _ _ e ho)] at hL
        cases hL
    have ll := hl'.len
    refine p_dput (k := .inl k) (s8 _ _ hD3) rfl (by rw [mkD_len]; exact szl (by omega)) ?_
    rw [mkD_put inl_inj]
    have ne : L ≠ D := fun e => by rw [e, s7 _ _ hD3] at hL; cases hL
    refine ⟨_, _, _, _, rfl, x1.wr, upd_same, ?_⟩
    rw [ctAdd_snoc hm]
    unfold ctAdd1
    rw [ep]
    have c2 : CtL M (upd (upd (upd (upd H3 TT (.tup [kV (.inl k), .ref a])) Z (.lst [.int 0, .int 0])) L (.lst [.int (p.1 + f * n), .int (p.2 + t * n)])) D (.dK (mkR (aput l' k L)))) l' (ctAdd c (m.take j) n) := hl'.to fun a xs na e => ⟨na, by rw [upd_ne (fun z : a = D => na (z ▸ MD))]; exact s8 _ _ e⟩
    exact CtL.put nL (by rw [upd_ne ne]; exact upd_same) (by rw [hl'.keys]; exact cn) c2
  · rintro σ H3 ⟨l', v3, v4, v5, rfl, s1, hD3, hl'⟩
    rw [mkD_len, hl2.len, List.take_length] at hl'
    have hf : H3 D2 = some (.frz od (.dK (mkR l2))) := s1 _ _ nD.symm upd_same
    refine ⟨hf, ?_⟩
    refine q l' _ (fun b u nb e => ?_) (by rw [upd_ne nD]; exact hD3) (hl'.to fun a xs na e => ⟨na, by rw [upd_ne (fun z => by rw [z, hf] at e; cases e)]; exact e⟩)
    by_cases eb : b = D2
    · rw [eb, upd_same, ← hD2, ← eb]; exact e
    · rw [upd_ne eb]
      exact s1 _ _ nb (by rw [upd_ne eb]; exact e)
/-! ### through parts from the back -/
def spThr (K : PySem.W.Frag) (d : Nat) : Sp := fun vs H Q _ => ∃ (M : Addr → Prop) (q : Addr) (ps : List Pt) (x : Int), vs = [.ref q, .int x] ∧ CutIn K M H ps q d ∧
  ∀ r D l c H', Same H H' → H D = none → H' r = some (.tup [.int (thrs ps x).1, oV (thrs ps x).2, .ref D]) → H' D = some (.dK (mkR l)) → CtL M H' l c → ctOk (manys ps) c → (∀ k, k ∈ akeys c → k ∈ kns ps) → asum (fun p => p.2) c = (thrs ps x).1 - x → Q (.ref r) H'
def spThrO (K : PySem.W.Frag) (d : Nat) : Sp := fun vs H Q _ => ∃ (M : Addr → Prop) (v : V) (t : Int) (ps : List Pt) (x : Int), vs = [v, .int x] ∧ PtA K M H (.over t ps) v ∧ (∀ a, M a → H a ≠ none) ∧ (Pt.over t ps).ok ∧ dps ps < d ∧ wts ps ≤ 5000000 ∧
  ∀ r D l c H', Same H H' → H D = none → H' r = some (.tup [.int ((Pt.over t ps).thr x).1, oV ((Pt.over t ps).thr x).2, .ref D]) → H' D = some (.dK (mkR l)) → CtL M H' l c → ctOk (t * manys ps) c → (∀ k, k ∈ akeys c → k ∈ kns ps) →
    asum (fun p => p.2) c = ((Pt.over t ps).thr x).1 - x → Q (.ref r) H'
theorem ok_through_over1 (T : Txt K mg) {k d : Nat} (hk : 2 ≤ k) (G_lesser_slack : FnOk P w K mg base CX0 1 (He.ga K "lesser_slack") T.fd_lesser_slack ["one", "other"] spLess) (G_add_counts : FnOk P w K mg base CX0 1 (He.ga K "add_counts") T.fd_add_counts ["counts", "more", "times"] spAdd)
    (G_through : FnOk P w K mg base CX0 k (He.ga K "through") T.fd_through ["parts", "number"] (spThr K d)) : FnOk P w K mg base CX0 (k + 1) (He.ga K "through_over") T.fd_through_over ["part", "number"] (spThrO K d) := by
  refine T.d_through_over.F.ok sc_through_over (fun vs H Q E h => ?_) (fun cdv A outer s H vs Q E hr h => ⟨_, PSs.nox (pss_cons (ps_set (i := 2) sc_through_over.nd rfl (Or.inl rfl) pe_non)
    (pss_cons (ps_set (i := 3) sc_through_over.nd rfl (Or.inl rfl) pe_dnewK)
    (pss_cons (ps_set (i := 4) sc_through_over.nd rfl (Or.inl rfl) (pe_fld (pv 0) rfl))
    (pss_cons (ps_while PassesOwn.never (pt_cmpR op_gt (pv 4) pe_int (nomark _)) (pss_cons (ps_set (i := 5) sc_through_over.nd rfl (Or.inl rfl) (pv 1))
    (pss_cons (ps_asg (pe_call G_through (hr.mono (by omega)) rfl T.g_through T.d_through.F.kp T.d_through.b .nil pass0 (pa_cons (pe_fld (pv 0) rfl) (pa_cons (pv 1) pa_nil))) (pg_tup rfl (pgs_cons (pg_name (i := 1) sc_through_over.nd rfl (Or.inl rfl)) (pgs_cons (pg_name (i := 6) sc_through_over.nd rfl (Or.inl rfl)) (pgs_cons (pg_name (i := 7) sc_through_over.nd rfl (Or.inl rfl)) pgs_nil)))))
    (pss_cons (ps_set (i := 8) sc_through_over.nd rfl (Or.inl rfl) (pe_op op_sub (pv 1) (pv 5)))
    (pss_cons (ps_set (i := 9) sc_through_over.nd rfl (Or.inl rfl) (pe_ifExp (PW.pt (pw_or (pt_cmpR op_non (pv 6) pe_non (nomark _)) (pw_or1 (pt_cmpR op_eq (pv 8) pe_int (nomark _))))) (pe_op op_sub (pv 4) pe_int) (pe_callB (call_minN rfl) (by rfl) T.z_min bt_min (pa_cons (pe_op op_sub (pv 4) pe_int) (pa_cons (pe_op op_fdivW (pv 6) (pv 8)) pa_nil)))))
    (pss_cons (ps_aug (i := 1) sc_through_over.nd rfl (Or.inl rfl) (pe_op op_mulW (pv 9) (pv 8)) ip_add)
    (pss_cons (ps_set (i := 2) sc_through_over.nd rfl (Or.inl rfl) (pe_call G_lesser_slack (hr.mono (by omega)) rfl T.g_lesser_slack T.d_lesser_slack.F.kp T.d_lesser_slack.b .nil pass0 (pa_cons (pv 2) (pa_cons (pe_ifExp (pt_cmpR op_non (pv 6) pe_non (nomark _)) pe_non (pe_op op_sub (pv 6) (pe_op op_mulW (pv 9) (pv 8)))) pa_nil))))
    (pss_cons (ps_expr (pe_call G_add_counts (hr.mono (by omega)) rfl T.g_add_counts T.d_add_counts.F.kp T.d_add_counts.b .nil pass0 (pa_cons (pv 3) (pa_cons (pv 7) (pa_cons (pe_op op_add (pv 9) pe_int) pa_nil)))))
    (pss_one (ps_aug (i := 4) sc_through_over.nd rfl (Or.inl rfl) (pe_op op_add (pv 9) pe_int) ip_sub))))))))))
    (pss_one (ps_ret (pe_tup (pa_cons (pv 1) (pa_cons (pv 2) (pa_cons (pv 3) pa_nil)))))))))), ?_⟩)
  · obtain ⟨M, v, t, ps, x, rfl, _⟩ := h; rfl
  obtain ⟨M, v, t, ps, x, rfl, hv, hM, ho, hd, hw, q⟩ := h
  obtain ⟨a, dx, b, rfl, ha, hb⟩ := hv.over
  have ho' := ho
  rw [Pt.ok] at ho'
  have gf := thrs_good ps ho'.2.2.2
  have mq := manys_nn ps ho'.2.2.2
  walk_at "rd"
  refine r_dnew fun D hD => ?_
  walk_at "rd"
  have s0 : Same H (upd H D (.dK (mkR []))) := same_upd hD
  refine p_fld (s0 _ _ ha) T.cl_Over T.n_Over_s8_times (fO_times _ _ _ _) ?_
  walk_at "rd"
  refine r_while (fun m σ H' => ∃ (left y : Int) (sl : Option Int) (l : List (Int × Addr)) (c : Ct) (v5 v6 v7 v8 v9 : Option V), σ = [some (.ref a), some (.int y), some (oV sl), some (.ref D), some (.int left), v5, v6, v7, v8, v9] ∧ m = left.toNat ∧ 0 ≤ left ∧ left ≤ t ∧
      goT (thrs ps) left.toNat left y sl = goT (thrs ps) t.toNat t x none ∧ Same H H' ∧ H' D = some (.dK (mkR l)) ∧ CtL (fun a => M a ∨ a = D) H' l c ∧ ctOk ((t - left) * manys ps) c ∧ (∀ k, k ∈ akeys c → k ∈ kns ps) ∧ asum (fun p => p.2) c = y - x)
    t.toNat ⟨t, x, none, [], [], none, none, none, none, none, rfl, rfl, ho'.1, Int.le_refl _, rfl, s0, upd_same, rfl, by rw [Int.sub_self, Int.zero_mul]; exact ctOk_nil, fun k z => (nomatch z), by show (0 : Int) = x - x; omega⟩ ?_
  rintro m σ H' ⟨left, y, sl, l, c, v5, v6, v7, v8, v9, rfl, rfl, l0, l1, eg, s1, hD1, hl1, co, ck, cs⟩
  walk_at "rd"
  refine ite_d (fun pos => ?_) fun pos => ?_
  · refine ⟨_, fun σ' H' z => z, ?_⟩
    have hM1 := hM_or (some_ne hD1) (hM_same s1 hM)
    have hb1 : PtsA K (fun a => M a ∨ a = D) H' ps b := (hb.fresh hD).to (Keep.same s1)
    walk_at "rd"
    refine p_fld (s1 _ _ ha) T.cl_Over T.n_Over_s8_parts (fO_parts _ _ _ _) ?_
    walk_at "rd"
    refine ⟨_, b, ps, y, rfl, ⟨hb1, hM1, ho'.2.2.2, hd, hw⟩, fun r D2 l2 m2 H2 s2 hD2 hr2 hD2' hl2 mo mk ms => ?_⟩
    have g := gf y
    have nDD : D ≠ D2 := ne_of_none hD1 hD2
    generalize ef : thrs ps y = fy at hr2 ms g
    obtain ⟨x1, own⟩ := fy
    have g1 : y ≤ x1 := g.1
    have g2 : x1 ≤ y + manys ps := g.2.1
    have g3 : nnO own := g.2.2
    have mt := moreT_facts (own := own) pos (show 0 ≤ x1 - y by omega) g3
    have est := goT_step (s := sl) (x := y) gf pos
    rw [ef] at est
    refine r_gTup hr2 rfl ?_
    walk_at "rd"
    -- what is left to do, more being known
    have fin : ∀ (k : Int), k = moreT left own (x1 - y) → CMulW k (x1 - y) := fun k e => mid_mul (mid_of (by omega) (by omega)) (mid_of (by omega) (by omega))
    have lenc := len_kn co.1 ck
    have lenm := len_kn mo.1 mk
    have last : ∀ (l' : List (Int × Addr)) (H3 : Hp) (v5 v6 v7 v8 v9 : Option V), SameX D H2 H3 → H3 D = some (.dK (mkR l')) → CtL (fun a => M a ∨ a = D) H3 l' (ctAdd c m2 (moreT left own (x1 - y) + 1)) →
        ∃ m', m' < left.toNat ∧ ∃ (left' y' : Int) (sl' : Option Int) (l : List (Int × Addr)) (c : Ct) (w5 w6 w7 w8 w9 : Option V), ([some (.ref a), some (.int (x1 + moreT left own (x1 - y) * (x1 - y))), some (oV (les sl (own.map fun o => o - moreT left own (x1 - y) * (x1 - y)))), some (.ref D), some (.int (left - (moreT left own (x1 - y) + 1))), v5, v6, v7, v8, v9] : L2.St) =
          [some (.ref a), some (.int y'), some (oV sl'), some (.ref D), some (.int left'), w5, w6, w7, w8, w9] ∧ m' = left'.toNat ∧ 0 ≤ left' ∧ left' ≤ t ∧
          goT (thrs ps) left'.toNat left' y' sl' = goT (thrs ps) t.toNat t x none ∧ Same H H3 ∧ H3 D = some (.dK (mkR l)) ∧ CtL (fun a => M a ∨ a = D) H3 l c ∧ ctOk ((t - left') * manys ps) c ∧ (∀ k, k ∈ akeys c → k ∈ kns ps) ∧ asum (fun p => p.2) c = y' - x :=
      fun l' H3 v5 v6 v7 v8 v9 sx hD3 hl3 => by
        refine ⟨_, ?_, _, _, _, l', _, v5, v6, v7, v8, v9, rfl, rfl, by omega, by omega, est.symm.trans eg, SameX.same (s1.trans s2) hD sx, hD3, hl3, ?_, fun k hk => ?_, ?_⟩
        · omega
        · have e : (t - left) * manys ps + manys ps * (moreT left own (x1 - y) + 1) = (t - (left - (moreT left own (x1 - y) + 1))) * manys ps := by
            rw [Int.mul_comm (manys ps), ← Int.add_mul]
            congr 1
            omega
          rw [← e]
          exact ctAdd_ok (by omega) co mo
        · rcases ctAdd_keys co.1 k hk with z | z
          · exact ck k z
          · exact mk k z
        · rw [ctAdd_T co.1, cs, ms]
          show _ + (x1 - y) * _ = _
          rw [Int.mul_add, Int.mul_one, Int.mul_comm (x1 - y)]
          omega
    have addIn : ∀ (H3 : Hp) (Q2 : VK), Same H2 H3 → (∀ l' H4, SameX D H2 H4 → H4 D = some (.dK (mkR l')) → CtL (fun a => M a ∨ a = D) H4 l' (ctAdd c m2 (moreT left own (x1 - y) + 1)) → Q2 .non H4) → spAdd [.ref D, .ref D2, .int (moreT left own (x1 - y) + 1)] H3 Q2 E0 := fun H3 Q2 s3 k =>
      ⟨fun a => M a ∨ a = D, D, D2, l, l2, c, m2, _, _, _, rfl, nDD, .inr rfl, hM_same (s2.trans s3) hM1, s3 _ _ (s2 _ _ hD1), s3 _ _ hD2', hl1.keep (Keep.same (s2.trans s3)), hl2.keep (Keep.same s3), co, mo, mid_of mq ho'.2.2.1, mid_of (by omega) (by have := BB_pos; omega), by omega,
        fun l' H4 sx hD4 hl4 => k l' H4 ((SameX.of s3).trans sx) hD4 hl4⟩
    cases own with
    | none =>
      refine ite_t rfl ?_
      refine iteT ?_
      walk_at "rd"
      refine r_mul (fin (left - 1) rfl) ?_
      walk_at "rd"
      refine ite_t rfl ?_
      walk_at "rd"
      refine ⟨sl, none, rfl, ?_⟩
      walk_at "rd"
      refine addIn H2 _ (Same.refl _) fun l' H4 sx hD4 hl4 => ?_
      walk_at "rd"
      exact last l' H4 _ _ _ _ _ sx hD4 hl4
    | some o =>
      refine ite_f (fun z => nomatch z) ?_
      walk_at "rd"
      refine ite_d (fun c0 => ?_) fun c0 => ?_
      · have em : moreT left (some o) (x1 - y) = left - 1 := if_pos c0
        rw [em] at last addIn fin
        walk_at "rd"
        refine r_mul (fin _ rfl) ?_
        walk_at "rd"
        refine ite_f (fun z => nomatch z) ?_
        walk_at "rd"
        refine r_mul (fin _ rfl) ?_
        walk_at "rd"
        refine r_sub (i := o) ?_
        walk_at "rd"
        refine ⟨sl, some _, rfl, ?_⟩
        walk_at "rd"
        refine addIn H2 _ (Same.refl _) fun l' H4 sx hD4 hl4 => ?_
        walk_at "rd"
        exact last l' H4 _ _ _ _ _ sx hD4 hl4
      · have em : moreT left (some o) (x1 - y) = (if o / (x1 - y) < left - 1 then o / (x1 - y) else left - 1) := if_neg c0
        rw [em] at last addIn fin
        walk_at "rd"
        refine r_fdiv (i := o) (mid_div (mid_of (by omega) (by omega)) (by omega)) ?_
        walk_at "rd"
        refine r_mul (fin _ rfl) ?_
        walk_at "rd"
        refine ite_f (fun z => nomatch z) ?_
        walk_at "rd"
        refine r_mul (fin _ rfl) ?_
        walk_at "rd"
        refine r_sub (i := o) ?_
        walk_at "rd"
        refine ⟨sl, some _, rfl, ?_⟩
        walk_at "rd"
        refine addIn H2 _ (Same.refl _) fun l' H4 sx hD4 hl4 => ?_
        walk_at "rd"
        exact last l' H4 _ _ _ _ _ sx hD4 hl4
  · have e0 : left = 0 := by omega
    subst e0
    have eg' : (y, sl) = (Pt.over t ps).thr x := by rw [thr_over, ← eg]; rfl
    walk_at "rd"
    refine p_new (sz (by show 3 ≤ _; decide)) fun r hr => ?_
    have s2 : Same H' (upd H' r (.tup [.int y, oV sl, .ref D])) := same_upd hr
    refine q r D l c _ (s1.trans s2) hD (by rw [← eg']; exact upd_same) (s2 _ _ hD1) ?_ (by rw [Int.sub_zero] at co; exact co) ck (by rw [← eg']; exact cs)
    exact (hl1.keep (Keep.same s2)).to fun a xs na e => ⟨fun z => na (.inl z), e⟩
end
theorem thrs_drop {ps : List Pt} {j : Nat} {p : Pt} (h : ps[j]? = some p) (x : Int) : thrs (ps.drop j) x = ((p.thr (thrs (ps.drop (j + 1)) x).1).1, les (thrs (ps.drop (j + 1)) x).2 (p.thr (thrs (ps.drop (j + 1)) x).1).2) := by rw [drop_cons h, thrs]
theorem kn_sub {ps : List Pt} {j : Nat} {p : Pt} (h : ps[j]? = some p) {x : Int} (hx : x ∈ p.kn) : x ∈ kns ps := by
  have e := kns_app (ps.take j) (ps.drop j)
  rw [List.take_append_drop] at e
  rw [e, drop_cons h, kns]
  exact List.mem_append_right _ (List.mem_append_left _ hx)
theorem oks_drop {ps : List Pt} {j : Nat} (h : oks ps) : oks (ps.drop j) := by
  have e := oks_app (ps.take j) (ps.drop j)
  rw [List.take_append_drop] at e
  exact (e.mp h).2
section
variable {P : Program} {w : World} {K : PySem.W.Frag} {mg : Str → Option Value} {base : Heap}
theorem ok_through1 (T : Txt K mg) {k d : Nat} (hk : 2 ≤ k) (G_lesser_slack : FnOk P w K mg base CX0 1 (He.ga K "lesser_slack") T.fd_lesser_slack ["one", "other"] spLess) (G_word_of : FnOk P w K mg base CX0 1 (He.ga K "word_of") T.fd_word_of ["saying", "number"] spWord)
    (G_add_counts : FnOk P w K mg base CX0 1 (He.ga K "add_counts") T.fd_add_counts ["counts", "more", "times"] spAdd)
    (G_through_over : FnOk P w K mg base CX0 k (He.ga K "through_over") T.fd_through_over ["part", "number"] (spThrO K d)) : FnOk P w K mg base CX0 (k + 1) (He.ga K "through") T.fd_through ["parts", "number"] (spThr K (d + 1)) := by
  refine T.d_through.F.ok sc_through (fun vs H Q E h => ?_) (fun cdv A outer s H vs Q E hr h => ⟨_, PSs.nox (pss_cons (ps_set (i := 2) sc_through.nd rfl (Or.inl rfl) pe_non)
    (pss_cons (ps_set (i := 3) sc_through.nd rfl (Or.inl rfl) pe_dnewK)
    (pss_cons (ps_for PassesOwn.never rfl (pi_list (pe_revL (pv 0))) (pg_name (i := 4) sc_through.nd rfl (Or.inl rfl)) (pss_cons (ps_if (pt_val (pe_callB call_isi (by rfl) T.z_isinstance bt_isinstance (pa_cons (pv 4) (pa_cons (pe_glob (v := .ref (He.ga K "Spot")) rfl T.g_Spot rfl) pa_nil)))) (pss_cons (ps_asg (pe_call G_word_of (hr.mono (by omega)) rfl T.g_word_of T.d_word_of.F.kp T.d_word_of.b .nil pass0 (pa_cons (pe_fld (pv 4) rfl) (pa_cons (pv 1) pa_nil))) (pg_tup rfl (pgs_cons (pg_name (i := 5) sc_through.nd rfl (Or.inl rfl)) (pgs_cons (pg_name (i := 6) sc_through.nd rfl (Or.inl rfl)) pgs_nil))))
    (pss_cons (ps_aug (i := 1) sc_through.nd rfl (Or.inl rfl) (pe_ix ix_list (pv 5) (pe_glob (v := .int 1) rfl T.c_TRUE ⟨_, rfl⟩) (fun _ _ => rfl)) ip_add)
    (pss_one (ps_set (i := 7) sc_through.nd rfl (Or.inl rfl) (pe_disp (pps_cons (pe_fld (pv 4) rfl) (pv 5) pps_nil) (by rfl) (by rfl) (fun z => by cases z) (by decide)))))) (pss_one (ps_asg (pe_call G_through_over (hr.mono (by omega)) rfl T.g_through_over T.d_through_over.F.kp T.d_through_over.b .nil pass0 (pa_cons (pv 4) (pa_cons (pv 1) pa_nil))) (pg_tup rfl (pgs_cons (pg_name (i := 1) sc_through.nd rfl (Or.inl rfl)) (pgs_cons (pg_name (i := 6) sc_through.nd rfl (Or.inl rfl)) (pgs_cons (pg_name (i := 7) sc_through.nd rfl (Or.inl rfl)) pgs_nil)))))))
    (pss_cons (ps_expr (pe_call G_add_counts (hr.mono (by omega)) rfl T.g_add_counts T.d_add_counts.F.kp T.d_add_counts.b .nil pass0 (pa_cons (pv 3) (pa_cons (pv 7) (pa_cons pe_int pa_nil)))))
    (pss_one (ps_set (i := 2) sc_through.nd rfl (Or.inl rfl) (pe_call G_lesser_slack (hr.mono (by omega)) rfl T.g_lesser_slack T.d_lesser_slack.F.kp T.d_lesser_slack.b .nil pass0 (pa_cons (pv 2) (pa_cons (pv 6) pa_nil))))))))
    (pss_one (ps_ret (pe_tup (pa_cons (pv 1) (pa_cons (pv 2) (pa_cons (pv 3) pa_nil))))))))), ?_⟩)
  · obtain ⟨M, b, ps, x, rfl, _⟩ := h; rfl
  obtain ⟨M, b, ps, x, rfl, ⟨⟨nb, xs, hb, hx⟩, hM, ho, hd, hw⟩, q⟩ := h
  have hl := hx.len
  walk_at "rd"
  refine r_dnew fun D hD => ?_
  walk_at "rd"
  have s0 : Same H (upd H D (.dK (mkR []))) := same_upd hD
  refine p_rev (s0 _ _ hb) fun R hR => ?_
  have s00 : Same H (upd (upd H D (.dK (mkR []))) R (.lst xs.reverse)) := s0.trans (same_upd hR)
  have nDR : D ≠ R := ne_of_none upd_same hR
  refine p_forL (xs := xs.reverse) upd_same (fun i σ H' => ∃ (l : List (Int × Addr)) (c : Ct) (v4 v5 v6 v7 : Option V), σ = [some (.ref b), some (.int (thrs (ps.drop (ps.length - i)) x).1), some (oV (thrs (ps.drop (ps.length - i)) x).2), some (.ref D), v4, v5, v6, v7] ∧ Same H H' ∧ H' D = some (.dK (mkR l)) ∧
      H' R = some (.lst xs.reverse) ∧ CtL (fun a => M a ∨ a = D) H' l c ∧ ctOk (manys (ps.drop (ps.length - i))) c ∧ (∀ k, k ∈ akeys c → k ∈ kns ps) ∧ asum (fun p => p.2) c = (thrs (ps.drop (ps.length - i)) x).1 - x)
    ⟨[], [], none, none, none, none, by rw [List.drop_eq_nil_of_le (by omega), thrs]; rfl, s00, (by rw [upd_ne nDR, upd_same]; rfl), upd_same, rfl, by rw [List.drop_eq_nil_of_le (by omega), manys]; exact ctOk_nil, fun k z => (nomatch z), by rw [List.drop_eq_nil_of_le (by omega), thrs]; show (0 : Int) = x - x; omega⟩
    (fun i σ H' _ ⟨_, _, _, _, _, _, _, _, _, z, _⟩ => z) ?_ ?_
  · rintro i v σ H' hi ⟨l, c, v4, v5, v6, v7, rfl, s1, hD1, hR1, hl1, co, ck, cs⟩
    obtain ⟨il, hi2⟩ := rev_get hi
    obtain ⟨pt, hp, hpv⟩ := PtLA.get _ _ hx hi2
    rw [hl] at hp il
    obtain ⟨g1, g2, g3⟩ := oks_get ho hp
    have ej : ps.length - (i + 1) = ps.length - 1 - i := by omega
    have et := thrs_drop hp x
    have em : manys (ps.drop (ps.length - (i + 1))) = pt.many + manys (ps.drop (ps.length - i)) := by rw [ej, drop_cons hp, manys, show ps.length - 1 - i + 1 = ps.length - i by omega]
    rw [show ps.length - 1 - i + 1 = ps.length - i by omega, ← ej] at et
    have gd := pt.thr_good g1 (thrs (ps.drop (ps.length - i)) x).1
    have mnn := pt.many_nn g1
    generalize ey : thrs (ps.drop (ps.length - i)) x = y at et gd cs
    obtain ⟨yn, ys⟩ := y
    have hpv1 : PtA K (fun a => M a ∨ a = D) H' pt v := (hpv.fresh hD).to (Keep.same s1)
    have hM1 := hM_or (some_ne hD1) (hM_same s1 hM)
    have lenc := len_kn co.1 ck
    have pB : pt.many ≤ BB * BB := by
      cases pt with
      | spot sg n => rw [Pt.many]; decide
      | over t qs =>
        rw [Pt.ok] at g1
        rw [Pt.many]
        have := manys_nn qs g1.2.2.2
        have h1 := Int.mul_le_mul_of_nonneg_right g1.2.1 this
        have h2 := Int.mul_le_mul_of_nonneg_left g1.2.2.1 (show 0 ≤ BB by decide)
        omega
    have midp : Mid pt.many := ⟨by have : 0 ≤ BB * BB := by decide
                                   omega, pB⟩
    have addIn : ∀ (H3 : Hp) (E : Addr) (lm : List (Int × Addr)) (m : Ct) (yn' : Int) (Q2 : VK), Same H' H3 → H' E = none → H3 E = some (.dK (mkR lm)) → CtL (fun a => M a ∨ a = D) H3 lm m → ctOk pt.many m → (∀ k, k ∈ akeys m → k ∈ pt.kn) → asum (fun p => p.2) m = yn' - yn →
        (∀ l' H4, Same H H4 → H4 D = some (.dK (mkR l')) → H4 R = some (.lst xs.reverse) → CtL (fun a => M a ∨ a = D) H4 l' (ctAdd c m 1) → ctOk (manys (ps.drop (ps.length - (i + 1)))) (ctAdd c m 1) → (∀ k, k ∈ akeys (ctAdd c m 1) → k ∈ kns ps) → asum (fun p => p.2) (ctAdd c m 1) = yn' - x → Q2 .non H4) →
        spAdd [.ref D, .ref E, .int 1] H3 Q2 E0 := fun H3 E lm m yn' Q2 s3 hE hE3 hl3 mo mk ms kk => by
      have lenm := len_kn mo.1 fun z hz => kn_sub hp (mk z hz)
      refine ⟨fun a => M a ∨ a = D, D, E, l, lm, c, m, _, _, _, rfl, ne_of_none hD1 hE, .inr rfl, hM_same s3 hM1, s3 _ _ hD1, hE3, hl1.keep (Keep.same s3), hl3, co, mo, midp, mid_of (by omega) BB_pos, by omega, fun l' H4 sx hD4 hl4 => ?_⟩
      refine kk l' H4 (SameX.same (s1.trans s3) hD sx) hD4 (sx _ _ nDR.symm (s3 _ _ hR1)) hl4 ?_ (fun k hk => ?_) ?_
      · have := ctAdd_ok (n := 1) (by omega) co mo
        rw [em, Int.add_comm]
        rw [Int.mul_one] at this
        exact this
      · rcases ctAdd_keys co.1 k hk with z | z
        · exact ck k z
        · exact kn_sub hp (mk k z)
      · rw [ctAdd_T co.1, cs, ms, Int.mul_one]
        show yn - x + (yn' - yn) = yn' - x
        omega
    rw [et]
    walk_at "rd"
    refine isi_spot T hpv1 ?_
    walk_at "rd"
    cases pt with
    | spot sg n =>
      refine iteT ?_
      rw [PtA] at hpv1
      obtain ⟨a, dx, p, rfl, na, np, e1, e2⟩ := hpv1
      walk_at "rd"
      refine p_fld e1 T.cl_Spot T.n_Spot_s8_said (fS_said _ _) ?_
      walk_at "rd"
      refine ⟨p, sg, yn, rfl, e2, fun r lw H2 s2 hlw hr2 hlw2 => ?_⟩
      have wf := word_facts sg yn
      generalize ew : word sg yn = wd at hr2 hlw2 wf
      obtain ⟨⟨f, t⟩, own⟩ := wd
      have w1 : 0 ≤ f := wf.1
      have w2 : 0 ≤ t := wf.2.1
      have w3 : f + t ≤ 1 := wf.2.2.1
      have eth : (Pt.spot sg n).thr yn = (yn + t, own) := by rw [Pt.thr, ew]
      refine r_gTup hr2 rfl ?_
      walk_at "rd"
      refine r_ixL hlw2 atA1 ?_
      walk_at "rd"
      refine r_disp1 fun E hE => ?_
      walk_at "rd"
      have s3 : Same H2 (upd H2 E (.dK [])) := same_upd hE
      refine p_fld (s3 _ _ (s2 _ _ e1)) T.cl_Spot T.n_Spot_s8_number (fS_number _ _) ?_
      walk_at "rd"
      refine ⟨upd_same, .inl n, rfl, ?_⟩
      walk_at "rd"
      have s4 : Same H' (upd (upd H2 E (.dK [])) E (.dK [(.inl n, .ref lw)])) := (s2.trans s3).wr (s2.free hE)
      have nlE : lw ≠ E := ne_of_none hlw2 hE
      refine addIn _ E [(n, lw)] [(n, (f, t))] (yn + t) _ s4 (s2.free hE) upd_same ⟨_, [], rfl, fun z => hM1 lw z hlw, by rw [upd_ne nlE, upd_ne nlE]; exact hlw2, rfl⟩ ⟨List.nodup_cons.mpr ⟨fun z => (nomatch z), List.nodup_nil⟩, fun e he => ?_, ?_⟩ (fun k hk => ?_) ?_ fun l' H5 s5 hD5 hR5 hl5 co5 ck5 cs5 => ?_
      · rw [List.mem_singleton.mp he]; exact ⟨w1, w2⟩
      · rw [Pt.many]; show f + t + 0 ≤ 1; omega
      · rw [Pt.kn]; exact hk
      · show t + 0 = yn + t - yn; omega
      · walk_at "rd"
        refine ⟨ys, own, rfl, ?_⟩
        rw [eth]
        exact ⟨l', _, _, _, _, _, rfl, s5, hD5, hR5, hl5, co5, ck5, cs5⟩
    | over t qs =>
      refine iteF ?_
      have g1' := g1
      rw [Pt.ok] at g1'
      rw [Pt.dp] at g2
      rw [Pt.wt] at g3
      generalize eth : (Pt.over t qs).thr yn = th at *
      obtain ⟨yn', own⟩ := th
      walk_at "rd"
      refine ⟨_, v, t, qs, yn, rfl, hpv1, hM1, g1, by omega, by omega, fun r E lm m H2 s2 hE hr2 hE2 hl2 mo mk ms => ?_⟩
      rw [eth] at hr2 ms
      refine r_gTup hr2 rfl ?_
      walk_at "rd"
      refine addIn H2 E lm m yn' _ s2 hE hE2 hl2 (by rw [Pt.many]; exact mo) (fun k hk => by rw [Pt.kn]; exact mk k hk) ms fun l' H5 s5 hD5 hR5 hl5 co5 ck5 cs5 => ?_
      walk_at "rd"
      refine ⟨ys, own, rfl, ?_⟩
      exact ⟨l', _, _, _, _, _, rfl, s5, hD5, hR5, hl5, co5, ck5, cs5⟩
  · rintro σ H' ⟨l, c, v4, v5, v6, v7, rfl, s1, hD1, hR1, hl1, co, ck, cs⟩
    rw [List.length_reverse, hl, Nat.sub_self, List.drop_zero] at co cs ⊢
    walk_at "rd"
    refine p_new (sz (by show 3 ≤ _; decide)) fun r hr => ?_
    have s2 : Same H' (upd H' r (.tup [.int (thrs ps x).1, oV (thrs ps x).2, .ref D])) := same_upd hr
    refine q r D l c _ (s1.trans s2) hD upd_same (s2 _ _ hD1) ?_ co ck cs
    exact (hl1.keep (Keep.same s2)).to fun a xs na e => ⟨fun z => na (.inl z), e⟩
theorem ok_thr (T : Txt K mg) (G_lesser_slack : FnOk P w K mg base CX0 1 (He.ga K "lesser_slack") T.fd_lesser_slack ["one", "other"] spLess) (G_word_of : FnOk P w K mg base CX0 1 (He.ga K "word_of") T.fd_word_of ["saying", "number"] spWord)
    (G_add_counts : FnOk P w K mg base CX0 1 (He.ga K "add_counts") T.fd_add_counts ["counts", "more", "times"] spAdd) :
    ∀ d : Nat, FnOk P w K mg base CX0 (2 * d + 2) (He.ga K "through") T.fd_through ["parts", "number"] (spThr K d)
  | 0 => vac fun vs H Q E h => by
    obtain ⟨M, b, ps, x, _, c, _⟩ := h
    exact absurd c.dp (by omega)
  | d + 1 => ok_through1 T (by omega) G_lesser_slack G_word_of G_add_counts (ok_through_over1 T (by omega) G_lesser_slack G_add_counts (ok_thr T G_lesser_slack G_word_of G_add_counts d))
end
section
variable {P : Program} {w : World} {K : PySem.W.Frag} {mg : Str → Option Value} {base : Heap}
/-! ### wishes -/
def spWsh (K : PySem.W.Frag) (d : Nat) : Sp := fun vs H Q _ => ∃ (M : Addr → Prop) (q : Addr) (ps : List Pt) (x : Int), vs = [.ref q, .int x] ∧ PtsA K M H ps q ∧ oks ps ∧ dps ps < d ∧
  ∀ r H', Same H H' → H' r = some (.tup [.int (wshs ps x none).1, oV (wshs ps x none).2]) → Q (.ref r) H'
def spWshO (K : PySem.W.Frag) (d : Nat) : Sp := fun vs H Q _ => ∃ (M : Addr → Prop) (v : V) (t : Int) (ps : List Pt) (x : Int), vs = [v, .int x] ∧ PtA K M H (.over t ps) v ∧ (Pt.over t ps).ok ∧ dps ps < d ∧
  ∀ r H', Same H H' → H' r = some (.tup [.int ((Pt.over t ps).wsh x).1, oV ((Pt.over t ps).wsh x).2]) → Q (.ref r) H'
theorem ok_wished_over1 (T : Txt K mg) {k d : Nat} (hk : 2 ≤ k) (G_lesser_slack : FnOk P w K mg base CX0 1 (He.ga K "lesser_slack") T.fd_lesser_slack ["one", "other"] spLess)
    (G_wished : FnOk P w K mg base CX0 k (He.ga K "wished") T.fd_wished ["parts", "wish"] (spWsh K d)) : FnOk P w K mg base CX0 (k + 1) (He.ga K "wished_over") T.fd_wished_over ["part", "wish"] (spWshO K d) := by
  refine T.d_wished_over.F.ok sc_wished_over (fun vs H Q E h => ?_) (fun cdv A outer s H vs Q E hr h => ⟨_, PSs.nox (pss_cons (ps_set (i := 2) sc_wished_over.nd rfl (Or.inl rfl) pe_non)
    (pss_cons (ps_set (i := 3) sc_wished_over.nd rfl (Or.inl rfl) (pe_fld (pv 0) rfl))
    (pss_cons (ps_while PassesOwn.never (pt_cmpR op_gt (pv 3) pe_int (nomark _)) (pss_cons (ps_set (i := 4) sc_wished_over.nd rfl (Or.inl rfl) (pv 1))
    (pss_cons (ps_asg (pe_call G_wished (hr.mono (by omega)) rfl T.g_wished T.d_wished.F.kp T.d_wished.b .nil pass0 (pa_cons (pe_fld (pv 0) rfl) (pa_cons (pv 1) pa_nil))) (pg_tup rfl (pgs_cons (pg_name (i := 1) sc_wished_over.nd rfl (Or.inl rfl)) (pgs_cons (pg_name (i := 5) sc_wished_over.nd rfl (Or.inl rfl)) pgs_nil))))
    (pss_cons (ps_set (i := 6) sc_wished_over.nd rfl (Or.inl rfl) (pe_op op_sub (pv 4) (pv 1)))
    (pss_cons (ps_set (i := 7) sc_wished_over.nd rfl (Or.inl rfl) (pe_ifExp (PW.pt (pw_or (pt_cmpR op_non (pv 5) pe_non (nomark _)) (pw_or1 (pt_cmpR op_eq (pv 6) pe_int (nomark _))))) (pe_op op_sub (pv 3) pe_int) (pe_callB (call_minN rfl) (by rfl) T.z_min bt_min (pa_cons (pe_op op_sub (pv 3) pe_int) (pa_cons (pe_op op_fdivW (pv 5) (pv 6)) pa_nil)))))
    (pss_cons (ps_aug (i := 1) sc_wished_over.nd rfl (Or.inl rfl) (pe_op op_mulW (pv 7) (pv 6)) ip_sub)
    (pss_cons (ps_set (i := 2) sc_wished_over.nd rfl (Or.inl rfl) (pe_call G_lesser_slack (hr.mono (by omega)) rfl T.g_lesser_slack T.d_lesser_slack.F.kp T.d_lesser_slack.b .nil pass0 (pa_cons (pv 2) (pa_cons (pe_ifExp (pt_cmpR op_non (pv 5) pe_non (nomark _)) pe_non (pe_op op_sub (pv 5) (pe_op op_mulW (pv 7) (pv 6)))) pa_nil))))
    (pss_one (ps_aug (i := 3) sc_wished_over.nd rfl (Or.inl rfl) (pe_op op_add (pv 7) pe_int) ip_sub)))))))))
    (pss_one (ps_ret (pe_tup (pa_cons (pv 1) (pa_cons (pv 2) pa_nil)))))))), ?_⟩)
  · obtain ⟨M, v, t, ps, x, rfl, _⟩ := h; rfl
  obtain ⟨M, v, t, ps, x, rfl, hv, ho, hd, q⟩ := h
  obtain ⟨a, dx, b, rfl, ha, hb⟩ := hv.over
  have ho' := ho
  rw [Pt.ok] at ho'
  have gf : GoodW (fun y => wshs ps y none) (manys ps) := fun y => wshs_good ps ho'.2.2.2 y none nnO_none
  have mq := manys_nn ps ho'.2.2.2
  walk_at "rd"
  refine p_fld ha T.cl_Over T.n_Over_s8_times (fO_times _ _ _ _) ?_
  walk_at "rd"
  refine r_while (fun m σ H' => ∃ (left y : Int) (sl : Option Int) (v4 v5 v6 v7 : Option V), σ = [some (.ref a), some (.int y), some (oV sl), some (.int left), v4, v5, v6, v7] ∧ m = left.toNat ∧ 0 ≤ left ∧ left ≤ t ∧
      goW (fun y => wshs ps y none) left.toNat left y sl = goW (fun y => wshs ps y none) t.toNat t x none ∧ Same H H')
    t.toNat ⟨t, x, none, none, none, none, none, rfl, rfl, ho'.1, Int.le_refl _, rfl, Same.refl _⟩ ?_
  rintro m σ H' ⟨left, y, sl, v4, v5, v6, v7, rfl, rfl, l0, l1, eg, s1⟩
  walk_at "rd"
  refine ite_d (fun pos => ?_) fun pos => ?_
  · refine ⟨_, fun σ' H' z => z, ?_⟩
    walk_at "rd"
    refine p_fld (s1 _ _ ha) T.cl_Over T.n_Over_s8_parts (fO_parts _ _ _ _) ?_
    walk_at "rd"
    refine ⟨M, b, ps, y, rfl, hb.to (Keep.same s1), ho'.2.2.2, hd, fun r H2 s2 hr2 => ?_⟩
    have g : (wshs ps y none).1 ≤ y ∧ y - manys ps ≤ (wshs ps y none).1 ∧ nnO (wshs ps y none).2 := gf y
    have est := goW_step (s := sl) (x := y) gf pos
    generalize ef : wshs ps y none = fy at hr2 g est
    obtain ⟨x1, own⟩ := fy
    have g1 : x1 ≤ y := g.1
    have g2 : y - manys ps ≤ x1 := g.2.1
    have g3 : nnO own := g.2.2
    have mt := moreT_facts (own := own) pos (show 0 ≤ y - x1 by omega) g3
    refine r_gTup hr2 rfl ?_
    walk_at "rd"
    have fin : ∀ (k : Int), k = moreT left own (y - x1) → CMulW k (y - x1) := fun k e => mid_mul (mid_of (by omega) (by omega)) (mid_of (by omega) (by omega))
    have last : ∀ (H3 : Hp) (v4 v5 v6 v7 : Option V), Same H2 H3 →
        ∃ m', m' < left.toNat ∧ ∃ (left' y' : Int) (sl' : Option Int) (w4 w5 w6 w7 : Option V), ([some (.ref a), some (.int (x1 - moreT left own (y - x1) * (y - x1))), some (oV (les sl (own.map fun o => o - moreT left own (y - x1) * (y - x1)))), some (.int (left - (moreT left own (y - x1) + 1))), v4, v5, v6, v7] : L2.St) =
          [some (.ref a), some (.int y'), some (oV sl'), some (.int left'), w4, w5, w6, w7] ∧ m' = left'.toNat ∧ 0 ≤ left' ∧ left' ≤ t ∧
          goW (fun y => wshs ps y none) left'.toNat left' y' sl' = goW (fun y => wshs ps y none) t.toNat t x none ∧ Same H H3 :=
      fun H3 v4 v5 v6 v7 s3 => ⟨_, by omega, _, _, _, v4, v5, v6, v7, rfl, rfl, by omega, by omega, est.symm.trans eg, s1.trans (s2.trans s3)⟩
    cases own with
    | none =>
      refine ite_t rfl ?_
      refine iteT ?_
      walk_at "rd"
      refine r_mul (fin (left - 1) rfl) ?_
      walk_at "rd"
      refine ite_t rfl ?_
      walk_at "rd"
      refine ⟨sl, none, rfl, ?_⟩
      walk_at "rd"
      exact last H2 _ _ _ _ (Same.refl _)
    | some o =>
      refine ite_f (fun z => nomatch z) ?_
      walk_at "rd"
      refine ite_d (fun c0 => ?_) fun c0 => ?_
      · have em : moreT left (some o) (y - x1) = left - 1 := if_pos c0
        rw [em] at last fin
        walk_at "rd"
        refine r_mul (fin _ rfl) ?_
        walk_at "rd"
        refine ite_f (fun z => nomatch z) ?_
        walk_at "rd"
        refine r_mul (fin _ rfl) ?_
        walk_at "rd"
        refine r_sub (i := o) ?_
        walk_at "rd"
        refine ⟨sl, some _, rfl, ?_⟩
        walk_at "rd"
        exact last H2 _ _ _ _ (Same.refl _)
      · have em : moreT left (some o) (y - x1) = (if o / (y - x1) < left - 1 then o / (y - x1) else left - 1) := if_neg c0
        rw [em] at last fin
        walk_at "rd"
        refine r_fdiv (i := o) (mid_div (mid_of (by omega) (by omega)) (by omega)) ?_
        walk_at "rd"
        refine r_mul (fin _ rfl) ?_
        walk_at "rd"
        refine ite_f (fun z => nomatch z) ?_
        walk_at "rd"
        refine r_mul (fin _ rfl) ?_
        walk_at "rd"
        refine r_sub (i := o) ?_
        walk_at "rd"
        refine ⟨sl, some _, rfl, ?_⟩
        walk_at "rd"
        exact last H2 _ _ _ _ (Same.refl _)
  · have e0 : left = 0 := by omega
    subst e0
    have eg' : (y, sl) = (Pt.over t ps).wsh x := by rw [wsh_over, ← eg]; rfl
    walk_at "rd"
    refine p_new (sz (by show 2 ≤ _; decide)) fun r hr => ?_
    have s2 : Same H' (upd H' r (.tup [.int y, oV sl])) := same_upd hr
    exact q r _ (s1.trans s2) (by rw [← eg']; exact upd_same)
theorem ok_wished1 (T : Txt K mg) {k d : Nat} (hk : 2 ≤ k) (G_lesser_slack : FnOk P w K mg base CX0 1 (He.ga K "lesser_slack") T.fd_lesser_slack ["one", "other"] spLess)
    (G_wished_over : FnOk P w K mg base CX0 k (He.ga K "wished_over") T.fd_wished_over ["part", "wish"] (spWshO K d)) : FnOk P w K mg base CX0 (k + 1) (He.ga K "wished") T.fd_wished ["parts", "wish"] (spWsh K (d + 1)) := by
  refine T.d_wished.F.ok sc_wished (fun vs H Q E h => ?_) (fun cdv A outer s H vs Q E hr h => ⟨_, PSs.nox (pss_cons (ps_set (i := 2) sc_wished.nd rfl (Or.inl rfl) pe_non)
    (pss_cons (ps_for PassesOwn.never rfl (pi_list (pv 0)) (pg_name (i := 3) sc_wished.nd rfl (Or.inl rfl)) (pss_cons (ps_set (i := 4) sc_wished.nd rfl (Or.inl rfl) pe_non)
    (pss_cons (ps_if (pt_not (pt_val (pe_callB call_isi (by rfl) T.z_isinstance bt_isinstance (pa_cons (pv 3) (pa_cons (pe_glob (v := .ref (He.ga K "Spot")) rfl T.g_Spot rfl) pa_nil))))) (pss_one (ps_asg (pe_call G_wished_over (hr.mono (by omega)) rfl T.g_wished_over T.d_wished_over.F.kp T.d_wished_over.b .nil pass0 (pa_cons (pv 3) (pa_cons (pv 1) pa_nil))) (pg_tup rfl (pgs_cons (pg_name (i := 1) sc_wished.nd rfl (Or.inl rfl)) (pgs_cons (pg_name (i := 4) sc_wished.nd rfl (Or.inl rfl)) pgs_nil))))) (pss_cons (ps_asg (pe_fld (pv 3) rfl) (pg_tup rfl (pgs_cons (pg_name (i := 5) sc_wished.nd rfl (Or.inl rfl)) (pgs_cons (pg_name (i := 6) sc_wished.nd rfl (Or.inl rfl)) pgs_nil))))
    (pss_one (ps_if (PW.pt (pw_and (pt_cmpR op_notnon (pv 6) pe_non (nomark _)) (pw_and1 (pt_cmpR op_gt (pv 1) (pe_op op_add (pv 6) pe_int) (nomark _))))) (pss_one (ps_set (i := 4) sc_wished.nd rfl (Or.inl rfl) (pe_op op_sub (pe_op op_sub (pv 1) (pv 6)) pe_int))) (pss_one (ps_if (pt_cmpR op_gt (pv 1) (pv 5) (nomark _)) (pss_cons (ps_set (i := 4) sc_wished.nd rfl (Or.inl rfl) (pe_op op_sub (pe_op op_sub (pv 1) (pv 5)) pe_int))
    (pss_one (ps_aug (i := 1) sc_wished.nd rfl (Or.inl rfl) pe_int ip_sub))) pss_nil))))))
    (pss_one (ps_set (i := 2) sc_wished.nd rfl (Or.inl rfl) (pe_call G_lesser_slack (hr.mono (by omega)) rfl T.g_lesser_slack T.d_lesser_slack.F.kp T.d_lesser_slack.b .nil pass0 (pa_cons (pv 2) (pa_cons (pv 4) pa_nil))))))))
    (pss_one (ps_ret (pe_tup (pa_cons (pv 1) (pa_cons (pv 2) pa_nil))))))), ?_⟩)
  · obtain ⟨M, b, ps, x, rfl, _⟩ := h; rfl
  obtain ⟨M, b, ps, x, rfl, ⟨nb, xs, hb, hx⟩, ho, hd, q⟩ := h
  have hl := hx.len
  walk_at "rd"
  refine p_forL hb (fun i σ H' => ∃ (y : Int) (sl : Option Int) (v3 v4 v5 v6 : Option V), σ = [some (.ref b), some (.int y), some (oV sl), v3, v4, v5, v6] ∧ Same H H' ∧ wshs ps x none = wshs (ps.drop i) y sl)
    ⟨x, none, none, none, none, none, rfl, Same.refl _, by rw [List.drop_zero]⟩ (fun i σ H' _ ⟨_, _, _, _, _, _, _, z, _⟩ => z _ _ hb) ?_ ?_
  · rintro i v σ H' hi ⟨y, sl, v3, v4, v5, v6, rfl, s1, ew⟩
    obtain ⟨pt, hp, hpv⟩ := PtLA.get _ _ hx hi
    obtain ⟨g1, g2, g3⟩ := oks_get ho hp
    rw [drop_cons hp, wshs] at ew
    have hpv1 : PtA K M H' pt v := hpv.to (Keep.same s1)
    have fin : ∀ (y' : Int) (own : Option Int) (w5 w6 : Option V) (H2 : Hp), Same H' H2 → pt.wsh y = (y', own) → ∃ (y : Int) (sl_1 : Option Int) (v3 v4 v5 v6 : Option V), ([some (.ref b), some (.int y'), some (oV (les sl own)), some v, some (oV own), w5, w6] : L2.St) = [some (.ref b), some (.int y), some (oV sl_1), v3, v4, v5, v6] ∧ Same H H2 ∧ wshs ps x none = wshs (ps.drop (i + 1)) y sl_1 := fun y' own w5 w6 H2 s2 e =>
      ⟨_, _, _, _, _, _, rfl, s1.trans s2, by rw [ew, e]⟩
    walk_at "rd"
    refine isi_spot T hpv1 ?_
    walk_at "rd"
    cases pt with
    | spot sg n =>
      refine iteF ?_
      rw [PtA] at hpv1
      obtain ⟨a, dx, p, rfl, na, np, e1, e2⟩ := hpv1
      rw [Pt.wsh] at fin
      obtain ⟨lo, hi⟩ := sg
      walk_at "rd"
      refine p_fld e1 T.cl_Spot T.n_Spot_s8_said (fS_said _ _) ?_
      cases hi with
      | none =>
        refine r_gTup (xs := [.int lo, .non]) e2 rfl ?_
        walk_at "rd"
        refine ite_nf rfl ?_
        refine iteF ?_
        walk_at "rd"
        refine ite_d (fun c => ?_) fun c => ?_
        · walk_at "rd"
          refine ⟨sl, some (y - lo - 1), rfl, ?_⟩
          walk_at "rd"
          exact fin (y - 1) (some (y - lo - 1)) _ _ _ (Same.refl _) (by unfold wword; exact if_pos c)
        · walk_at "rd"
          refine ⟨sl, none, rfl, ?_⟩
          walk_at "rd"
          exact fin y none _ _ _ (Same.refl _) (by unfold wword; exact if_neg c)
      | some m =>
        refine r_gTup (xs := [.int lo, .int m]) e2 rfl ?_
        walk_at "rd"
        refine ite_nt (fun z => nomatch z) ?_
        walk_at "rd"
        refine ite_d (fun c => ?_) fun c => ?_
        · walk_at "rd"
          refine ⟨sl, some (y - m - 2), rfl, ?_⟩
          walk_at "rd"
          exact fin y (some (y - m - 2)) _ _ _ (Same.refl _) (by unfold wword; exact if_pos c)
        · walk_at "rd"
          refine ite_d (fun c2 => ?_) fun c2 => ?_
          · walk_at "rd"
            refine ⟨sl, some (y - lo - 1), rfl, ?_⟩
            walk_at "rd"
            exact fin (y - 1) (some (y - lo - 1)) _ _ _ (Same.refl _) (by unfold wword; show (if m + 1 < y then _ else _) = _; rw [if_neg c]; exact if_pos c2)
          · walk_at "rd"
            refine ⟨sl, none, rfl, ?_⟩
            walk_at "rd"
            exact fin y none _ _ _ (Same.refl _) (by unfold wword; show (if m + 1 < y then _ else _) = _; rw [if_neg c]; exact if_neg c2)
    | over t qs =>
      refine iteT ?_
      have g2' := g2
      rw [Pt.dp] at g2'
      walk_at "rd"
      refine ⟨M, v, t, qs, y, rfl, hpv1, g1, by omega, fun r H2 s2 hr2 => ?_⟩
      generalize eth : (Pt.over t qs).wsh y = th at *
      obtain ⟨y', own⟩ := th
      refine r_gTup hr2 rfl ?_
      walk_at "rd"
      refine ⟨sl, own, rfl, ?_⟩
      walk_at "rd"
      exact fin y' own _ _ _ s2 rfl
  · rintro σ H' ⟨y, sl, v3, v4, v5, v6, rfl, s1, ew⟩
    rw [List.drop_eq_nil_of_le (by omega), wshs] at ew
    walk_at "rd"
    refine p_new (sz (by show 2 ≤ _; decide)) fun r hr => ?_
    exact q r _ (s1.trans (same_upd hr)) (by rw [ew]; exact upd_same)
theorem ok_wsh (T : Txt K mg) (G_lesser_slack : FnOk P w K mg base CX0 1 (He.ga K "lesser_slack") T.fd_lesser_slack ["one", "other"] spLess) :
    ∀ d : Nat, FnOk P w K mg base CX0 (2 * d + 2) (He.ga K "wished") T.fd_wished ["parts", "wish"] (spWsh K d)
  | 0 => vac fun vs H Q E h => by
    obtain ⟨M, b, ps, x, _, _, _, c, _⟩ := h
    omega
  | d + 1 => ok_wished1 T (by omega) G_lesser_slack (ok_wished_over1 T (by omega) G_lesser_slack (ok_wsh T G_lesser_slack d))
end
abbrev TOP : Int := 999999999999999999999999999999
theorem top_bb : TOP ≤ BB := by decide
/-- what the long row at b is -/
structure LgIn (M : Addr → Prop) (H : Hp) (ps : List Pt) (b : Addr) : Prop where
  at_ : LgsA M H ps b
  hM : ∀ a, M a → H a ≠ none
  ok : oks ps
  dp : dps ps < 8
  w : wts ps ≤ 1000000
  top : manys ps ≤ TOP
theorem manys_nums (ps : List Pt) (k : Int) : manys (nums ps k).1 = manys ps := by rw [← manys_ba, bas_num, manys_ba]
theorem oks_nums (ps : List Pt) (k : Int) : oks (nums ps k).1 ↔ oks ps := by rw [← oks_ba, bas_num, oks_ba]
theorem dps_nums (ps : List Pt) (k : Int) : dps (nums ps k).1 = dps ps := by rw [← dps_ba, bas_num, dps_ba]
theorem wts_nums (ps : List Pt) (k : Int) : wts (nums ps k).1 = wts ps := by rw [← wts_ba, bas_num, wts_ba]
theorem thrs_nums (ps : List Pt) (k : Int) : thrs (nums ps k).1 = thrs ps := by rw [← thrs_ba, bas_num, thrs_ba]
theorem wshs_nums (ps : List Pt) (k : Int) : wshs (nums ps k).1 = wshs ps := by rw [← wshs_ba, bas_num, wshs_ba]
theorem sas_nums (ps : List Pt) (k : Int) : sas (nums ps k).1 = sas ps := by funext x; rw [← sas_ba, bas_num, sas_ba]
theorem thrs_tls_nums (ps : List Pt) (k x : Int) : thrs (tls (nums ps k).1 x) = thrs (tls ps x) := by rw [← thrs_ba, ← tls_ba, bas_num, tls_ba, thrs_ba]
theorem cut_of {K : PySem.W.Frag} {M : Addr → Prop} {H : Hp} {ps : List Pt} {q : Addr} (hM : ∀ a, M a → H a ≠ none) (ok : oks ps) (dp : dps ps < 8) (w : wts ps ≤ 1000000) (h : PtsA K M H (nums ps 0).1 q) : CutIn K M H (nums ps 0).1 q 8 :=
  ⟨h, hM, (oks_nums ps 0).mpr ok, by rw [dps_nums]; exact dp, by rw [wts_nums]; omega⟩
/-- the module's defs, by what they keep -/
structure F1 (P : Program) (w : World) (K : PySem.W.Frag) (mg : Str → Option Value) (base : Heap) (T : Txt K mg) : Prop where
  need_number : FnOk P w K mg base CX0 22 (He.ga K "need_number") T.fd_need_number ["thing"] spNeedNum
  need_saying : FnOk P w K mg base CX0 22 (He.ga K "need_saying") T.fd_need_saying ["thing"] spNeedSaying
  need_place : FnOk P w K mg base CX0 22 (He.ga K "need_place") T.fd_need_place ["thing", "most"] spNeedPlace
  is_so : FnOk P w K mg base CX0 22 (He.ga K "is_so") T.fd_is_so ["saying", "number"] spIsSo
  spot_init : FnOk P w K mg base CX0 22 (He.ma K (He.ga K "Spot") "__init__") T.fd_Spot__init ["self", "saying", "number"] (spSpotI K)
  laid_many : FnOk P w K mg base CX0 22 (He.ga K "laid_many") T.fd_laid_many ["parts"] (spLaid K)
  people_in : FnOk P w K mg base CX0 22 (He.ga K "people_in") T.fd_people_in ["long"] (spPeopleIn 8)
  parts_of : FnOk P w K mg base CX0 22 (He.ga K "parts_of") T.fd_parts_of ["long"] (spPartsOf K 8)
  tail : FnOk P w K mg base CX0 22 (He.ga K "tail") T.fd_tail ["parts", "place"] (spTail K 8)
  head : FnOk P w K mg base CX0 22 (He.ga K "head") T.fd_head ["parts", "place"] (spHead K 8)
  spot_at : FnOk P w K mg base CX0 22 (He.ga K "spot_at") T.fd_spot_at ["parts", "place"] (spSpotAt K 8)
  said_in : FnOk P w K mg base CX0 22 (He.ga K "said_in") T.fd_said_in ["parts"] (spSaidIn K 8)
  through : FnOk P w K mg base CX0 22 (He.ga K "through") T.fd_through ["parts", "number"] (spThr K 8)
  wished : FnOk P w K mg base CX0 22 (He.ga K "wished") T.fd_wished ["parts", "wish"] (spWsh K 8)
  slim : FnOk P w K mg base CX0 22 (He.ga K "slim") T.fd_slim ["parts"] (spSlim K 8)
  ovo : FnOk P w K mg base CX0 22 (He.ga K "over_and_over") T.fd_over_and_over ["parts", "times"] (spOvo K 7)
  about : FnOk P w K mg base CX0 22 (He.ga K "about") T.fd_about ["parts"] (spAbout K 8)
  written : FnOk P w K mg base CX0 22 (He.ga K "written") T.fd_written ["parts"] (spWritten K 8)
section
variable {P : Program} {w : World} {K : PySem.W.Frag} {mg : Str → Option Value} {base : Heap}
theorem f1 (T : Txt K mg) : F1 P w K mg base T := by
  have isnum : FnOk P w K mg base CX0 1 (He.ga K "is_number") T.fd_is_number ["thing"] spNum := ok_is_number T
  have issay : FnOk P w K mg base CX0 2 (He.ga K "is_saying") T.fd_is_saying ["thing"] spSaying := ok_is_saying T isnum
  have laid : FnOk P w K mg base CX0 1 (He.ga K "laid_many") T.fd_laid_many ["parts"] (spLaid K) := ok_laid_many T
  have ov : FnOk P w K mg base CX0 2 (He.ma K (He.ga K "Over") "__init__") T.fd_Over__init ["self", "times", "parts"] (spOverI K) := ok_over T laid
  have pe : FnOk P w K mg base CX0 18 (He.ga K "people_of") T.fd_people_of ["thing"] (spOf 8) := ok_people T isnum issay 8
  have nl : FnOk P w K mg base CX0 20 (He.ga K "need_long") T.fd_need_long ["thing"] (spNeedLong 8) := ok_need_long T (ok_is_long T pe)
  have less : FnOk P w K mg base CX0 1 (He.ga K "lesser_slack") T.fd_lesser_slack ["one", "other"] spLess := ok_lesser_slack T
  exact {
    need_number := (ok_need_number T isnum).mono (by omega)
    need_saying := (ok_need_saying T (k := 1) (issay.mono (by omega))).mono (by omega)
    need_place := (ok_need_place T isnum).mono (by omega)
    is_so := (ok_is_so T).mono (by omega)
    spot_init := (ok_spot T).mono (by omega)
    laid_many := laid.mono (by omega)
    people_in := (ok_people_in T (pe.mono (by omega)) nl).mono (by omega)
    parts_of := (ok_parts_of T nl ((ok_plant T issay (ok_spot T) ov 8).mono (by omega))).mono (by omega)
    tail := (ok_tail T ov 8).mono (by omega)
    head := (ok_head T ov 8).mono (by omega)
    spot_at := (ok_spot_at T 8).mono (by omega)
    said_in := (ok_said_in T 8).mono (by omega)
    through := (ok_thr T less (ok_word_of T) (ok_add_counts T) 8).mono (by omega)
    wished := (ok_wsh T less 8).mono (by omega)
    slim := (ok_slim T 8).mono (by omega)
    ovo := (ok_over_and_over T (k := 8) (by omega) ov (ok_slim T 8)).mono (by omega)
    about := (ok_about T ov 8).mono (by omega)
    written := (ok_written T 8).mono (by omega) }
/-! ### the far defs -/
def spTotal (K : PySem.W.Frag) : Sp := fun vs H Q _ => ∃ (M : Addr → Prop) (q : Addr) (ps : List Pt) (x : Int), vs = [.ref q, .int x] ∧ CutIn K M H ps q 8 ∧ ∀ H', Same H H' → Q (.int (thrs ps x).1) H'
def spFarTotal : Sp := fun vs H Q _ => ∃ (M : Addr → Prop) (b : Addr) (ps : List Pt) (x : Int), vs = [.ref b, .int x] ∧ LgIn M H ps b ∧ 0 ≤ x ∧ ∀ H', Same H H' → Q (.int (thrs ps x).1) H'
def spLeastC : Sp := fun vs H Q _ => ∃ (M : Addr → Prop) (b : Addr) (ps : List Pt) (x : Int), vs = [.ref b, .int x] ∧ LgIn M H ps b ∧ 0 ≤ x ∧ ∀ H', Same H H' → Q (.int (wshs ps x none).1) H'
def spFarHeard : Sp := fun vs H Q _ => ∃ (M : Addr → Prop) (b : Addr) (ps : List Pt) (x l : Int), vs = [.ref b, .int x, .int l] ∧ LgIn M H ps b ∧ 0 ≤ x ∧ 0 ≤ l ∧ l < manys ps ∧ ∀ H', Same H H' → Q (.int (thrs (tls ps (l + 1)) x).1) H'
def spFarSpeaks : Sp := fun vs H Q _ => ∃ (M : Addr → Prop) (b : Addr) (ps : List Pt) (x l : Int), vs = [.ref b, .int x, .int l] ∧ LgIn M H ps b ∧ 0 ≤ x ∧ 0 ≤ l ∧ l < manys ps ∧ ∀ s H', Same H H' → sas ps l = some s → Q (.bl (isSo s (thrs (tls ps (l + 1)) x).1)) H'
def spSayAt : Sp := fun vs H Q _ => ∃ (M : Addr → Prop) (b : Addr) (ps : List Pt) (l : Int), vs = [.ref b, .int l] ∧ LgIn M H ps b ∧ 0 ≤ l ∧ l < manys ps ∧ ∀ a s H', Same H H' → sas ps l = some s → ¬ M a → H' a = some (.tup (sgV s)) → Q (.ref a) H'
/-- an account's pairs -/
def AcA (H : Hp) (c : Ct) (ys : List V) : Prop := ∀ (j : Nat) y, ys[j]? = some y → ∃ (a : Addr) (f : Int), y = .ref a ∧ H a = some (.tup [.int f, .int (gT c j)])
def spAccount : Sp := fun vs H Q _ => ∃ (M : Addr → Prop) (b : Addr) (ps : List Pt) (x : Int), vs = [.ref b, .int x] ∧ LgIn M H ps b ∧ 0 ≤ x ∧
  ∀ D ys c H', Same H H' → H' D = some (.lst ys) → ¬ M D → AcA H' c ys → ys.length ≤ 1000000 → sumTo c ys.length = (thrs ps x).1 - x → Q (.ref D) H'
theorem cutTail {K : PySem.W.Frag} {M : Addr → Prop} {H : Hp} {ps : List Pt} {l : Int} {q : Addr} (hM : ∀ a, M a → H a ≠ none) (ok : oks ps) (dp : dps ps < 8) (w : wts ps ≤ 1000000) (h0 : 0 ≤ l) (h1 : l ≤ manys ps) (h : PtsA K M H (tls ps l) q) : CutIn K M H (tls ps l) q 8 := by
  have c := cuts ps l ok h0 h1
  have h1 := c.w
  have h2 := c.d1
  have h3 := c.d2
  exact ⟨h, hM, (by first | exact c.o2 | exact c.o1), by omega, by omega⟩
theorem ok_total_of (T : Txt K mg) (B : F1 P w K mg base T) : FnOk P w K mg base CX0 23 (He.ga K "total_of") T.fd_total_of ["parts", "number"] (spTotal K) := by
  have G_through := B.through
  refine T.d_total_of.F.ok sc_total_of (fun vs H Q E h => ?_) (fun cdv A outer s H vs Q E hr h => ⟨_, PSs.nox (pss_one (ps_ret (pe_ix ix_tup (pe_call G_through (hr.mono (by omega)) rfl T.g_through T.d_through.F.kp T.d_through.b .nil pass0 (pa_cons (pv 0) (pa_cons (pv 1) pa_nil))) pe_int (fun _ _ => rfl)))), ?_⟩)
  · obtain ⟨M, b, ps, x, rfl, _⟩ := h; rfl
  obtain ⟨M, b, ps, x, rfl, hc, q⟩ := h
  walk_at "rd"
  refine ⟨M, b, ps, x, rfl, hc, fun r D l c H1 s1 _ hr1 _ _ _ _ _ => ?_⟩
  walk_at "rd"
  exact r_ixT hr1 atI0 (q _ s1)
theorem ok_far_total (T : Txt K mg) (B : F1 P w K mg base T) (G_total_of : FnOk P w K mg base CX0 23 (He.ga K "total_of") T.fd_total_of ["parts", "number"] (spTotal K)) : FnOk P w K mg base CX0 24 (He.ga K "far_total") T.fd_far_total ["long", "company"] spFarTotal := by
  have G_parts_of := B.parts_of
  have G_need_number := B.need_number
  refine T.d_far_total.F.ok sc_far_total (fun vs H Q E h => ?_) (fun cdv A outer s H vs Q E hr h => ⟨_, PSs.nox (pss_cons (ps_set (i := 2) sc_far_total.nd rfl (Or.inl rfl) (pe_call G_parts_of (hr.mono (by omega)) rfl T.g_parts_of T.d_parts_of.F.kp T.d_parts_of.b .nil pass0 (pa_cons (pv 0) pa_nil)))
    (pss_cons (ps_expr (pe_call G_need_number (hr.mono (by omega)) rfl T.g_need_number T.d_need_number.F.kp T.d_need_number.b .nil pass0 (pa_cons (pv 1) pa_nil)))
    (pss_one (ps_ret (pe_call G_total_of (hr.mono (by omega)) rfl T.g_total_of T.d_total_of.F.kp T.d_total_of.b .nil pass0 (pa_cons (pv 2) (pa_cons (pv 1) pa_nil))))))), ?_⟩)
  · obtain ⟨M, b, ps, x, rfl, _⟩ := h; rfl
  obtain ⟨M, b, ps, x, rfl, ⟨hb, hM, ho, hd, hw, ht⟩, h0, q⟩ := h
  walk_at "rd"
  refine ⟨M, b, ps, rfl, hb, hM, ho, hd, by omega, ht, fun q2 H1 s1 hq => ?_⟩
  walk_at "rd"
  refine ⟨x, rfl, h0, ?_⟩
  walk_at "rd"
  refine ⟨M, q2, _, x, rfl, cut_of (hM_same s1 hM) ho hd hw hq, fun H2 s2 => ?_⟩
  rw [thrs_nums]
  exact q _ (s1.trans s2)
theorem ok_least_company (T : Txt K mg) (B : F1 P w K mg base T) : FnOk P w K mg base CX0 24 (He.ga K "least_company") T.fd_least_company ["long", "total"] spLeastC := by
  have G_parts_of := B.parts_of
  have G_need_number := B.need_number
  have G_wished := B.wished
  refine T.d_least_company.F.ok sc_least_company (fun vs H Q E h => ?_) (fun cdv A outer s H vs Q E hr h => ⟨_, PSs.nox (pss_cons (ps_set (i := 2) sc_least_company.nd rfl (Or.inl rfl) (pe_call G_parts_of (hr.mono (by omega)) rfl T.g_parts_of T.d_parts_of.F.kp T.d_parts_of.b .nil pass0 (pa_cons (pv 0) pa_nil)))
    (pss_cons (ps_expr (pe_call G_need_number (hr.mono (by omega)) rfl T.g_need_number T.d_need_number.F.kp T.d_need_number.b .nil pass0 (pa_cons (pv 1) pa_nil)))
    (pss_one (ps_ret (pe_ix ix_tup (pe_call G_wished (hr.mono (by omega)) rfl T.g_wished T.d_wished.F.kp T.d_wished.b .nil pass0 (pa_cons (pv 2) (pa_cons (pv 1) pa_nil))) pe_int (fun _ _ => rfl)))))), ?_⟩)
  · obtain ⟨M, b, ps, x, rfl, _⟩ := h; rfl
  obtain ⟨M, b, ps, x, rfl, ⟨hb, hM, ho, hd, hw, ht⟩, h0, q⟩ := h
  walk_at "rd"
  refine ⟨M, b, ps, rfl, hb, hM, ho, hd, by omega, ht, fun q2 H1 s1 hq => ?_⟩
  walk_at "rd"
  refine ⟨x, rfl, h0, ?_⟩
  walk_at "rd"
  refine ⟨M, q2, _, x, rfl, hq, (oks_nums ps 0).mpr ho, by rw [dps_nums]; exact hd, fun r H2 s2 hr2 => ?_⟩
  rw [wshs_nums] at hr2
  walk_at "rd"
  exact r_ixT hr2 atI0 (q _ (s1.trans s2))
theorem ok_far_heard (T : Txt K mg) (B : F1 P w K mg base T) (G_total_of : FnOk P w K mg base CX0 23 (He.ga K "total_of") T.fd_total_of ["parts", "number"] (spTotal K)) : FnOk P w K mg base CX0 24 (He.ga K "far_heard") T.fd_far_heard ["long", "company", "place"] spFarHeard := by
  have G_parts_of := B.parts_of
  have G_need_number := B.need_number
  have G_need_place := B.need_place
  have G_laid_many := B.laid_many
  have G_tail := B.tail
  refine T.d_far_heard.F.ok sc_far_heard (fun vs H Q E h => ?_) (fun cdv A outer s H vs Q E hr h => ⟨_, PSs.nox (pss_cons (ps_set (i := 3) sc_far_heard.nd rfl (Or.inl rfl) (pe_call G_parts_of (hr.mono (by omega)) rfl T.g_parts_of T.d_parts_of.F.kp T.d_parts_of.b .nil pass0 (pa_cons (pv 0) pa_nil)))
    (pss_cons (ps_expr (pe_call G_need_number (hr.mono (by omega)) rfl T.g_need_number T.d_need_number.F.kp T.d_need_number.b .nil pass0 (pa_cons (pv 1) pa_nil)))
    (pss_cons (ps_expr (pe_call G_need_place (hr.mono (by omega)) rfl T.g_need_place T.d_need_place.F.kp T.d_need_place.b .nil pass0 (pa_cons (pv 2) (pa_cons (pe_op op_sub (pe_call G_laid_many (hr.mono (by omega)) rfl T.g_laid_many T.d_laid_many.F.kp T.d_laid_many.b .nil pass0 (pa_cons (pv 3) pa_nil)) pe_int) pa_nil))))
    (pss_one (ps_ret (pe_call G_total_of (hr.mono (by omega)) rfl T.g_total_of T.d_total_of.F.kp T.d_total_of.b .nil pass0 (pa_cons (pe_call G_tail (hr.mono (by omega)) rfl T.g_tail T.d_tail.F.kp T.d_tail.b .nil pass0 (pa_cons (pv 3) (pa_cons (pe_op op_add (pv 2) pe_int) pa_nil))) (pa_cons (pv 1) pa_nil)))))))), ?_⟩)
  · obtain ⟨M, b, ps, x, l, rfl, _⟩ := h; rfl
  obtain ⟨M, b, ps, x, l, rfl, ⟨hb, hM, ho, hd, hw, ht⟩, h0, l0, l1, q⟩ := h
  have tb := top_bb
  walk_at "rd"
  refine ⟨M, b, ps, rfl, hb, hM, ho, hd, by omega, ht, fun q2 H1 s1 hq => ?_⟩
  walk_at "rd"
  refine ⟨x, rfl, h0, ?_⟩
  walk_at "rd"
  refine ⟨M, q2, _, rfl, hq, by rw [wts_nums]; omega, fun H2 s2 => ?_⟩
  rw [manys_nums]
  walk_at "rd"
  refine ⟨l, _, rfl, l0, by omega, ?_⟩
  walk_at "rd"
  have c2 := cut_of (hM_same (s1.trans s2) hM) ho hd hw (hq.to (Keep.same s2))
  refine ⟨M, q2, _, _, rfl, c2, by omega, by rw [manys_nums]; omega, by omega, fun r H3 s3 hr3 => ?_⟩
  walk_at "rd"
  refine ⟨M, r, _, x, rfl, cutTail (hM_same (s1.trans (s2.trans s3)) hM) c2.ok (by rw [dps_nums]; exact hd) (by rw [wts_nums]; exact hw) (by omega) (by rw [manys_nums]; omega) hr3, fun H4 s4 => ?_⟩
  rw [thrs_tls_nums]
  exact q _ (s1.trans (s2.trans (s3.trans s4)))
theorem ok_far_speaks (T : Txt K mg) (B : F1 P w K mg base T) (G_far_heard : FnOk P w K mg base CX0 24 (He.ga K "far_heard") T.fd_far_heard ["long", "company", "place"] spFarHeard) : FnOk P w K mg base CX0 25 (He.ga K "far_speaks") T.fd_far_speaks ["long", "company", "place"] spFarSpeaks := by
  have G_parts_of := B.parts_of
  have G_spot_at := B.spot_at
  have G_is_so := B.is_so
  refine T.d_far_speaks.F.ok sc_far_speaks (fun vs H Q E h => ?_) (fun cdv A outer s H vs Q E hr h => ⟨_, PSs.nox (pss_cons (ps_set (i := 3) sc_far_speaks.nd rfl (Or.inl rfl) (pe_call G_far_heard (hr.mono (by omega)) rfl T.g_far_heard T.d_far_heard.F.kp T.d_far_heard.b .nil pass0 (pa_cons (pv 0) (pa_cons (pv 1) (pa_cons (pv 2) pa_nil)))))
    (pss_one (ps_ret (pe_call G_is_so (hr.mono (by omega)) rfl T.g_is_so T.d_is_so.F.kp T.d_is_so.b .nil pass0 (pa_cons (pe_fld (pe_call G_spot_at (hr.mono (by omega)) rfl T.g_spot_at T.d_spot_at.F.kp T.d_spot_at.b .nil pass0 (pa_cons (pe_call G_parts_of (hr.mono (by omega)) rfl T.g_parts_of T.d_parts_of.F.kp T.d_parts_of.b .nil pass0 (pa_cons (pv 0) pa_nil)) (pa_cons (pv 2) pa_nil))) rfl) (pa_cons (pv 3) pa_nil)))))), ?_⟩)
  · obtain ⟨M, b, ps, x, l, rfl, _⟩ := h; rfl
  obtain ⟨M, b, ps, x, l, rfl, hh, h0, l0, l1, q⟩ := h
  obtain ⟨hb, hM, ho, hd, hw, ht⟩ := hh
  walk_at "rd"
  refine ⟨M, b, ps, x, l, rfl, ⟨hb, hM, ho, hd, hw, ht⟩, h0, l0, l1, fun H1 s1 => ?_⟩
  walk_at "rd"
  refine ⟨M, b, ps, rfl, hb.to (Keep.same s1), hM_same s1 hM, ho, hd, by omega, ht, fun q2 H2 s2 hq => ?_⟩
  walk_at "rd"
  refine ⟨M, q2, _, l, rfl, hq, (oks_nums ps 0).mpr ho, by rw [dps_nums]; exact hd, l0, by rw [manys_nums]; exact l1, fun a dx p n s H3 s3 es np e1 e2 => ?_⟩
  rw [sas_nums] at es
  walk_at "rd"
  refine p_fld e1 T.cl_Spot T.n_Spot_s8_said (fS_said _ _) ?_
  walk_at "rd"
  exact ⟨p, s, _, rfl, e2, q s _ (s1.trans (s2.trans s3)) es⟩
theorem ok_saying_at (T : Txt K mg) (B : F1 P w K mg base T) : FnOk P w K mg base CX0 23 (He.ga K "saying_at") T.fd_saying_at ["long", "place"] spSayAt := by
  have G_parts_of := B.parts_of
  have G_need_place := B.need_place
  have G_laid_many := B.laid_many
  have G_spot_at := B.spot_at
  refine T.d_saying_at.F.ok sc_saying_at (fun vs H Q E h => ?_) (fun cdv A outer s H vs Q E hr h => ⟨_, PSs.nox (pss_cons (ps_set (i := 2) sc_saying_at.nd rfl (Or.inl rfl) (pe_call G_parts_of (hr.mono (by omega)) rfl T.g_parts_of T.d_parts_of.F.kp T.d_parts_of.b .nil pass0 (pa_cons (pv 0) pa_nil)))
    (pss_cons (ps_expr (pe_call G_need_place (hr.mono (by omega)) rfl T.g_need_place T.d_need_place.F.kp T.d_need_place.b .nil pass0 (pa_cons (pv 1) (pa_cons (pe_op op_sub (pe_call G_laid_many (hr.mono (by omega)) rfl T.g_laid_many T.d_laid_many.F.kp T.d_laid_many.b .nil pass0 (pa_cons (pv 2) pa_nil)) pe_int) pa_nil))))
    (pss_one (ps_ret (pe_fld (pe_call G_spot_at (hr.mono (by omega)) rfl T.g_spot_at T.d_spot_at.F.kp T.d_spot_at.b .nil pass0 (pa_cons (pv 2) (pa_cons (pv 1) pa_nil))) rfl))))), ?_⟩)
  · obtain ⟨M, b, ps, l, rfl, _⟩ := h; rfl
  obtain ⟨M, b, ps, l, rfl, ⟨hb, hM, ho, hd, hw, ht⟩, l0, l1, q⟩ := h
  walk_at "rd"
  refine ⟨M, b, ps, rfl, hb, hM, ho, hd, by omega, ht, fun q2 H1 s1 hq => ?_⟩
  walk_at "rd"
  refine ⟨M, q2, _, rfl, hq, by rw [wts_nums]; omega, fun H2 s2 => ?_⟩
  rw [manys_nums]
  walk_at "rd"
  refine ⟨l, _, rfl, l0, by omega, ?_⟩
  walk_at "rd"
  refine ⟨M, q2, _, l, rfl, hq.to (Keep.same s2), (oks_nums ps 0).mpr ho, by rw [dps_nums]; exact hd, l0, by rw [manys_nums]; exact l1, fun a dx p n s H3 s3 es np e1 e2 => ?_⟩
  rw [sas_nums] at es
  walk_at "rd"
  refine p_fld e1 T.cl_Spot T.n_Spot_s8_said (fS_said _ _) ?_
  exact q p s _ (s1.trans (s2.trans s3)) es np e2
theorem ok_account (T : Txt K mg) (B : F1 P w K mg base T) : FnOk P w K mg base CX0 23 (He.ga K "account") T.fd_account ["long", "company"] spAccount := by
  have G_parts_of := B.parts_of
  have G_need_number := B.need_number
  have G_through := B.through
  have G_said_in := B.said_in
  refine T.d_account.F.ok sc_account (fun vs H Q E h => ?_) (fun cdv A outer s H vs Q E hr h => ⟨_, PSs.nox (pss_cons (ps_set (i := 2) sc_account.nd rfl (Or.inl rfl) (pe_call G_parts_of (hr.mono (by omega)) rfl T.g_parts_of T.d_parts_of.F.kp T.d_parts_of.b .nil pass0 (pa_cons (pv 0) pa_nil)))
    (pss_cons (ps_expr (pe_call G_need_number (hr.mono (by omega)) rfl T.g_need_number T.d_need_number.F.kp T.d_need_number.b .nil pass0 (pa_cons (pv 1) pa_nil)))
    (pss_cons (ps_asg (pe_call G_through (hr.mono (by omega)) rfl T.g_through T.d_through.F.kp T.d_through.b .nil pass0 (pa_cons (pv 2) (pa_cons (pv 1) pa_nil))) (pg_tup rfl (pgs_cons (pg_name (i := 3) sc_account.nd rfl (Or.inl rfl)) (pgs_cons (pg_name (i := 4) sc_account.nd rfl (Or.inl rfl)) (pgs_cons (pg_name (i := 5) sc_account.nd rfl (Or.inl rfl)) pgs_nil)))))
    (pss_cons (ps_set (i := 6) sc_account.nd rfl (Or.inl rfl) (pe_lst pa_nil))
    (pss_cons (ps_for PassesOwn.never rfl (pi_range1 rfl T.z_range (pa_cons (pe_callB call_lenDD (by rfl) T.z_len bt_len (pa_cons (pe_call G_said_in (hr.mono (by omega)) rfl T.g_said_in T.d_said_in.F.kp T.d_said_in.b .nil pass0 (pa_cons (pv 2) pa_nil)) pa_nil)) pa_nil)) (pg_name (i := 7) sc_account.nd rfl (Or.inl rfl)) (pss_cons (ps_set (i := 8) sc_account.nd rfl (Or.inl rfl) (pe_dget2 (hu_of hr) (pv 5) (pv 7) (pe_lst (pa_cons pe_int (pa_cons pe_int pa_nil))) ⟨rfl, rfl, rfl, rfl⟩))
    (pss_one (ps_expr (pe_bm PySem.F.plainAttrs_list PySem.F.slot_list_append PySem.F.type_list_append mt_append (pv 6) (pa_cons (pe_tup (pa_cons (pe_ix ix_list (pv 8) (pe_glob (v := .int 0) rfl T.c_FEW ⟨_, rfl⟩) (fun _ _ => rfl)) (pa_cons (pe_ix ix_list (pv 8) (pe_glob (v := .int 1) rfl T.c_TRUE ⟨_, rfl⟩) (fun _ _ => rfl)) pa_nil))) pa_nil))))))
    (pss_one (ps_ret (pv 6)))))))), ?_⟩)
  · obtain ⟨M, b, ps, x, rfl, _⟩ := h; rfl
  obtain ⟨M, b, ps, x, rfl, ⟨hb, hM, ho, hd, hw, ht⟩, h0, q⟩ := h
  obtain ⟨n, kn, kn2⟩ := kns_num ps 0
  have nw : n ≤ wts ps := by
    have := len_kns_le (nums ps 0).1
    rw [kn, len_rg, wts_nums] at this
    exact this
  walk_at "rd"
  refine ⟨M, b, ps, rfl, hb, hM, ho, hd, by omega, ht, fun q2 H1 s1 hq => ?_⟩
  walk_at "rd"
  refine ⟨x, rfl, h0, ?_⟩
  walk_at "rd"
  refine ⟨M, q2, _, x, rfl, cut_of (hM_same s1 hM) ho hd hw hq, fun r D l c H2 s2 hD hr2 hD2 hl2 co ck cs => ?_⟩
  rw [thrs_nums] at hr2 cs
  refine r_gTup hr2 rfl ?_
  walk_at "rd"
  refine p_new (sz (by show 0 ≤ _; decide)) fun F hF => ?_
  walk_at "rd"
  have s3 : Same H2 (upd H2 F (.lst [])) := same_upd hF
  have hM3 := hM_same (s1.trans (s2.trans s3)) hM
  refine ⟨M, q2, _, rfl, cut_of hM3 ho hd hw ((hq.to (Keep.same s2)).to (Keep.same s3)), fun S sl H4 s4 hS hS4 so ssum sk => ?_⟩
  have el : sl.length = n := by
    rw [kn] at sk
    have a1 := List.Nodup.length_le_of_subset so.1 fun z hz => (sk z).mp hz
    have a2 := List.Nodup.length_le_of_subset (nd_rg n 0) fun z hz => (sk z).mpr hz
    rw [len_rg, len_keys] at a1 a2
    omega
  walk_at "rd"
  refine len_dct hS4 ?_
  walk_at "rd"
  rw [mkD_len, el]
  walk_at "rd"
  have s34 := s3.trans s4
  refine p_forR (by omega) (fun i σ H' => ∃ (ys : List V) (v7 v8 : Option V), σ = [some (.ref b), some (.int x), some (.ref q2), some (.int (thrs ps x).1), some (oV (thrs ps x).2), some (.ref D), some (.ref F), v7, v8] ∧ Same H H' ∧ H' F = some (.lst ys) ∧ H' D = some (.dK (mkR l)) ∧ CtL (fun a => M a ∨ a = F) H' l c ∧ ys.length = i ∧ AcA H' c ys)
    ⟨[], none, none, rfl, s1.trans (s2.trans s34), s4 _ _ upd_same, s34 _ _ hD2, (hl2.keep (M' := fun a => M a ∨ a = F) ⟨fun a z => z.elim .inl fun e => .inr (e ▸ hF), fun _ _ _ h => h⟩).keep (Keep.same s34), rfl, fun j y z => by simp at z⟩ ?_ ?_
  · rintro i σ H' hi ⟨ys, v7, v8, rfl, s5, hF5, hD5, hl5, yl, ac⟩
    walk_at "rd"
    refine p_isD hD5 ?_
    walk_at "rd"
    refine p_new (sz (by show 2 ≤ _; decide)) fun Z hZ => ?_
    have s6 : Same H' (upd H' Z (.lst [.int 0, .int 0])) := same_upd hZ
    refine ⟨D, _, rfl, DGet.k (k := .inl (i : Int)) (s6 _ _ hD5), ?_⟩
    rw [mkD_val inl_inj]
    obtain ⟨u, f, eu, hu⟩ : ∃ (u : Addr) (f : Int), ((aget l (i : Int)).map V.ref).getD (.ref Z) = .ref u ∧ (upd H' Z (.lst [.int 0, .int 0])) u = some (.lst [.int f, .int (gT c i)]) := by
      unfold gT
      rcases hl5.get (i : Int) with ⟨e1, e2⟩ | ⟨a2, p, e1, e2, n2, h2⟩
      · rw [e1, e2]; exact ⟨Z, 0, rfl, upd_same⟩
      · rw [e1, e2]; exact ⟨a2, p.1, rfl, s6 _ _ h2⟩
    rw [eu]
    walk_at "rd"
    refine p_bmL (s6 _ _ hF5) ?_
    walk_at "rd"
    refine r_ixL hu atA0 ?_
    walk_at "rd"
    refine r_ixL hu atA1 ?_
    walk_at "rd"
    refine p_new (sz (by show 2 ≤ _; decide)) fun t ht => ?_
    walk_at "rd"
    have s7 : Same H' (upd (upd H' Z (.lst [.int 0, .int 0])) t (.tup [.int f, .int (gT c i)])) := s6.trans (same_upd ht)
    refine r_append (s7 _ _ hF5) (szl (by omega)) ?_
    walk_at "rd"
    have hFn : H F = none := (s1.trans s2).free hF
    have stay : ∀ (a : Addr) (o : HO), (∀ zs, o ≠ .lst zs) → H' a = some o → (upd (upd (upd H' Z (.lst [.int 0, .int 0])) t (.tup [.int f, .int (gT c i)])) F (.lst (ys ++ [.ref t]))) a = some o := fun a o no e => by
      rw [upd_ne (fun z => by rw [z, hF5] at e; exact no _ (Option.some.inj e).symm)]; exact s7 _ _ e
    have nt : t ≠ F := fun z => by rw [z, s6 _ _ hF5] at ht; cases ht
    refine ⟨ys ++ [.ref t], _, _, rfl, (s5.trans s7).wr hFn, upd_same, stay _ _ (fun _ z => nomatch z) hD5, hl5.to fun a xs na e => ⟨na, ?_⟩, by rw [List.length_append, yl]; rfl, fun j y z => ?_⟩
    · rw [upd_ne fun z => na (.inr z)]; exact s7 _ _ e
    · by_cases ej : j < i
      · rw [List.getElem?_append_left (by omega)] at z
        obtain ⟨a, f2, ey, ha⟩ := ac j y z
        exact ⟨a, f2, ey, stay _ _ (fun _ z => nomatch z) ha⟩
      · rw [List.getElem?_append_right (by omega)] at z
        have e0 : j - ys.length = 0 := by
          cases e : j - ys.length with
          | zero => rfl
          | succ m => rw [e] at z; simp at z
        rw [e0] at z
        have ey : V.ref t = y := by simpa using z
        exact ⟨t, f, ey.symm, by rw [upd_ne nt, show j = i by omega]; exact upd_same⟩
  · rintro σ H' ⟨ys, v7, v8, rfl, s5, hF5, hD5, hl5, yl, ac⟩
    walk_at "rd"
    have hFn : H F = none := (s1.trans s2).free hF
    refine q F ys c H' s5 hF5 (fun z => hM F z hFn) ac (by omega) ?_
    rw [yl, sumTo_all c n co.1 fun z hz => ?_, cs]
    have := ck z hz
    rw [kn, mem_rg] at this
    omega
end
/-! ### rows by name -/
section
variable {κ α β : Type} [DecidableEq κ]
def RelL (R : α → β → Prop) : List (κ × α) → List (κ × β) → Prop
  | [], m => m = []
  | e :: l, m => ∃ y r, m = (e.1, y) :: r ∧ R e.2 y ∧ RelL R l r
theorem RelL.to {R S : α → β → Prop} (f : ∀ a y, R a y → S a y) : ∀ {l : List (κ × α)} {m : List (κ × β)}, RelL R l m → RelL S l m
  | [], _, h => h
  | e :: l, m, h => by
    obtain ⟨y, r, em, h1, h2⟩ := h
    exact ⟨y, r, em, f _ _ h1, h2.to f⟩
theorem RelL.keys {R : α → β → Prop} : ∀ {l : List (κ × α)} {m : List (κ × β)}, RelL R l m → akeys l = akeys m
  | [], _, h => by rw [show _ = [] from h]; rfl
  | e :: l, m, h => by
    obtain ⟨y, r, em, h1, h2⟩ := h
    rw [em]
    show e.1 :: akeys l = e.1 :: akeys r
    rw [h2.keys]
theorem RelL.len {R : α → β → Prop} {l : List (κ × α)} {m : List (κ × β)} (h : RelL R l m) : l.length = m.length := by rw [← len_keys l, h.keys, len_keys]
theorem RelL.idx {R : α → β → Prop} : ∀ {l : List (κ × α)} {m : List (κ × β)} {i : Nat} {e : κ × α}, RelL R l m → l[i]? = some e → ∃ y, m[i]? = some (e.1, y) ∧ R e.2 y
  | [], _, i, e, _, q => by simp at q
  | e0 :: l, m, i, e, h, q => by
    obtain ⟨y, r, em, h1, h2⟩ := h
    rw [em]
    cases i with
    | zero =>
      have : e0 = e := Option.some.inj q
      subst this
      exact ⟨y, rfl, h1⟩
    | succ i => exact h2.idx (i := i) q
theorem RelL.get {R : α → β → Prop} (k : κ) : ∀ {l : List (κ × α)} {m : List (κ × β)}, RelL R l m → (aget l k = none ∧ aget m k = none) ∨ ∃ a y, aget l k = some a ∧ aget m k = some y ∧ R a y
  | [], _, h => by rw [show _ = [] from h]; exact .inl ⟨rfl, rfl⟩
  | e :: l, m, h => by
    obtain ⟨y, r, em, h1, h2⟩ := h
    rw [em, aget_cons, aget_cons]
    by_cases q : e.1 = k
    · rw [if_pos q, if_pos q]; exact .inr ⟨_, _, rfl, rfl, h1⟩
    · rw [if_neg q, if_neg q]; exact h2.get k
theorem RelL.put {R : α → β → Prop} {k : κ} {a : α} {y : β} (ha : R a y) : ∀ {l : List (κ × α)} {m : List (κ × β)}, (akeys l).Nodup → RelL R l m → RelL R (aput l k a) (aput m k y)
  | [], _, _, h => by rw [show _ = [] from h]; exact ⟨y, [], rfl, ha, rfl⟩
  | e :: l, m, hn, h => by
    obtain ⟨y0, r, em, h1, h2⟩ := h
    have hc : e.1 ∉ akeys l ∧ (akeys l).Nodup := List.nodup_cons.mp hn
    rw [em]
    by_cases q : e.1 = k
    · rw [aput_cons_eq q (q ▸ hc.1), aput_cons_eq (p := (e.1, y0)) q (by rw [← h2.keys]; exact q ▸ hc.1)]
      exact ⟨y, r, rfl, ha, h2⟩
    · rw [aput_cons_ne q, aput_cons_ne (p := (e.1, y0)) q]
      exact ⟨y0, _, rfl, h1, RelL.put ha hc.2 h2⟩
theorem RelL.drop {R : α → β → Prop} {k : κ} : ∀ {l : List (κ × α)} {m : List (κ × β)}, RelL R l m → RelL R (adrop l k) (adrop m k)
  | [], _, h => by rw [show _ = [] from h]; rfl
  | e :: l, m, h => by
    obtain ⟨y, r, em, h1, h2⟩ := h
    rw [em]
    unfold adrop
    rw [List.filter_cons, List.filter_cons]
    by_cases q : e.1 = k
    · rw [if_neg (by simp [q]), if_neg (by simp [q])]; exact RelL.drop h2
    · rw [if_pos (by simp [q]), if_pos (by simp [q])]; exact ⟨y, _, rfl, h1, RelL.drop h2⟩
theorem RelL.snoc {R : α → β → Prop} {k : κ} {a : α} {y : β} (ha : R a y) : ∀ {l : List (κ × α)} {m : List (κ × β)}, RelL R l m → RelL R (l ++ [(k, a)]) (m ++ [(k, y)])
  | [], _, h => by rw [show _ = [] from h]; exact ⟨y, [], rfl, ha, rfl⟩
  | e :: l, m, h => by
    obtain ⟨y0, r, em, h1, h2⟩ := h
    rw [em]
    exact ⟨y0, _, rfl, h1, RelL.snoc ha h2⟩
end
/-- a dict made over what is walked -/
theorem dc_it {J : It} {n : Nat} {G : Hp → Prop} {Y : Nat → Hp → V → Hp → Prop} (w : Walk J n G Y) {g : TG} {tt : TT} {tk tv : TE} {vs : List Nat} {σ : L2.St} {H1 : Hp} {D : Addr} {Qd : Hp → Prop} (Pv : Nat → Hp → Prop) (h0 : Pv 0 (upd H1 D (.dK []))) (hG : ∀ i H, i ≤ n → Pv i H → G H)
    (hs : ∀ i x H H', i < n → Pv i H → Y i H x H' → g x (wipe σ vs) H' fun σ2 H2 => wipe σ2 vs = wipe σ vs ∧ tt σ2 H2 fun b H3 =>
      if b = true then tk σ2 H3 fun y H4 => tv σ2 H4 fun z H5 => ∃ kvs k, y = kV k ∧ H5 D = some (.dK kvs) ∧ kvs.length < sizeLine ∧ Pv (i + 1) (upd H5 D (.dK (putK kvs k z))) else Pv (i + 1) H3) (hd : ∀ H, Pv n H → Qd H) :
    ∃ W : Nat → Nat → Hp → Prop, (∃ m, W 0 m (upd H1 D (.dK []))) ∧ ∀ i m H, W i m H →
      (J.stop i H ∧ Qd H) ∨ (J.go i H ∧ ∃ Nx : Hp → Prop, (∀ H', Nx H' → ∃ m', m' < m ∧ W (i + 1) m' H') ∧ ∀ x H', J.yld i H x H' → g x (wipe σ vs) H' fun σ2 H2 => wipe σ2 vs = wipe σ vs ∧ tt σ2 H2 fun b H3 =>
        if b = true then tk σ2 H3 fun y H4 => tv σ2 H4 fun z H5 => ∃ kvs k, y = kV k ∧ H5 D = some (.dK kvs) ∧ kvs.length < sizeLine ∧ Nx (upd H5 D (.dK (putK kvs k z))) else Nx H3) := by
  refine ⟨fun i m H => m = n - i ∧ i ≤ n ∧ Pv i H, ⟨n, by simp, Nat.zero_le _, h0⟩, ?_⟩
  rintro i m H ⟨rfl, hi, p⟩
  have q := hG i H hi p
  by_cases hlt : i < n
  · refine .inr ⟨w.goes i H hlt q, Pv (i + 1), fun H' p' => ⟨n - (i + 1), by omega, rfl, hlt, p'⟩, fun x H' y => hs i x H H' hlt p (w.yields i H x H' hlt q y)⟩
  · have e : i = n := by omega
    subst e
    exact .inl ⟨w.stops H q, hd H p⟩
/-! ### names -/
def signs : List Nat := (Str.ofString "abcdefghijklmnopqrstuvwxyz").cps.toList
def nmOk (n : Str) : Bool := decide (1 ≤ n.length) && decide (n.length ≤ 8) && n.cps.toList.all fun c => decide (c ∈ signs)
def NM : List Str := ["a", "b", "c", "d", "other"]
theorem nm_ok : ∀ n ∈ NM, nmOk n = true := by decide
abbrev Rows := List (Str × List Pt)
def fH (R Dn Un : Addr) : List (Str × V) := [("s10_rows", .ref R), ("s10_done", .ref Dn), ("s10_undone", .ref Un)]
theorem fH_rows (R Dn Un : Addr) : (fH R Dn Un).lookup ("s10_rows" : Str) = some (.ref R) := by rfl
theorem fH_done (R Dn Un : Addr) : (fH R Dn Un).lookup ("s10_done" : Str) = some (.ref Dn) := by rfl
theorem fH_undone (R Dn Un : Addr) : (fH R Dn Un).lookup ("s10_undone" : Str) = some (.ref Un) := by rfl
theorem fH_put (R Dn Un : Addr) : putF "s10_undone" (.ref Un) (putF "s10_done" (.ref Dn) (putF "s10_rows" (.ref R) [])) = fH R Dn Un := by rfl
theorem fH_putR (R Dn Un R' : Addr) : putF "s10_rows" (.ref R') (fH R Dn Un) = fH R' Dn Un := by rfl
theorem fH_putU (R Dn Un U' : Addr) : putF "s10_undone" (.ref U') (fH R Dn Un) = fH R Dn U' := by rfl
abbrev RwL (K : PySem.W.Frag) (M : Addr → Prop) (H : Hp) : List (Str × Addr) → Rows → Prop := RelL fun a ps => PtsA K M H ps a
def RowsAt (K : PySem.W.Frag) (M : Addr → Prop) (H : Hp) (R : Addr) (rows : Rows) : Prop := ¬ M R ∧ ∃ l : List (Str × Addr), H R = some (.dK (mkS l)) ∧ RwL K M H l rows
theorem RwL.keep {K : PySem.W.Frag} {M M' : Addr → Prop} {H H' : Hp} (k : Keep M M' H H') {l : List (Str × Addr)} {rows : Rows} (h : RwL K M H l rows) : RwL K M' H' l rows := RelL.to (fun _ _ z => PtsA.to k z) h
theorem RowsAt.keep {K : PySem.W.Frag} {M M' : Addr → Prop} {H H' : Hp} (k : Keep M M' H H') {R : Addr} {rows : Rows} (h : RowsAt K M H R rows) : RowsAt K M' H' R rows := by
  obtain ⟨n, l, e, r⟩ := h
  exact ⟨k.not n e, l, k.k _ _ n e, RwL.keep k r⟩
/-- the deeds done -/
def DnL (K : PySem.W.Frag) (M : Addr → Prop) (H : Hp) : List V → List Rows → Prop
  | [], m => m = []
  | v :: l, m => ∃ t dv R rows r, m = rows :: r ∧ v = .ref t ∧ ¬ M t ∧ H t = some (.tup [dv, .ref R]) ∧ RowsAt K M H R rows ∧ DnL K M H l r
theorem DnL.keep {K : PySem.W.Frag} {M M' : Addr → Prop} {H H' : Hp} (k : Keep M M' H H') : ∀ {l : List V} {m : List Rows}, DnL K M H l m → DnL K M' H' l m
  | [], _, h => h
  | v :: l, m, h => by
    obtain ⟨t, dv, R, rows, r, em, ev, nt, ht, hr, h2⟩ := h
    exact ⟨t, dv, R, rows, r, em, ev, k.not nt ht, k.k _ _ nt ht, hr.keep k, h2.keep k⟩
theorem DnL.len {K : PySem.W.Frag} {M : Addr → Prop} {H : Hp} : ∀ {l : List V} {m : List Rows}, DnL K M H l m → l.length = m.length
  | [], _, h => by rw [show _ = [] from h]; rfl
  | v :: l, m, h => by
    obtain ⟨t, dv, R, rows, r, em, ev, nt, ht, hr, h2⟩ := h
    rw [em, List.length_cons, List.length_cons, h2.len]
theorem DnL.snoc {K : PySem.W.Frag} {M : Addr → Prop} {H : Hp} {t R : Addr} {dv : V} {rows : Rows} (nt : ¬ M t) (ht : H t = some (.tup [dv, .ref R])) (hr : RowsAt K M H R rows) : ∀ {l : List V} {m : List Rows}, DnL K M H l m → DnL K M H (l ++ [.ref t]) (m ++ [rows])
  | [], _, h => by rw [show _ = [] from h]; exact ⟨t, dv, R, rows, [], rfl, rfl, nt, ht, hr, rfl⟩
  | v :: l, m, h => by
    obtain ⟨t, dv, R, rows, r, em, ev, nt', ht', hr', h2⟩ := h
    rw [em]
    exact ⟨t, dv, R, rows, _, rfl, ev, nt', ht', hr', DnL.snoc nt ht hr h2⟩
theorem DnL.last {K : PySem.W.Frag} {M : Addr → Prop} {H : Hp} {rows : Rows} : ∀ {l : List V} {m : List Rows}, DnL K M H l (m ++ [rows]) → ∃ l' t dv R, l = l' ++ [.ref t] ∧ DnL K M H l' m ∧ ¬ M t ∧ H t = some (.tup [dv, .ref R]) ∧ RowsAt K M H R rows
  | [], m, h => by
    have h : m ++ [rows] = [] := h
    simp at h
  | v :: l, [], h => by
    obtain ⟨t, dv, R, rows', r, em, ev, nt, ht, hr, h2⟩ := h
    cases em
    have el : l = [] := by
      cases l with
      | nil => rfl
      | cons a b =>
        obtain ⟨_, _, _, _, _, e, _⟩ := h2
        cases e
    subst el
    exact ⟨[], t, dv, R, by rw [ev]; rfl, rfl, nt, ht, hr⟩
  | v :: l, a :: m, h => by
    obtain ⟨t, dv, R, rows', r, em, ev, nt, ht, hr, h2⟩ := h
    have em : a :: (m ++ [rows]) = rows' :: r := em
    cases em
    obtain ⟨l', t2, dv2, R2, e2, d2, n2, ht2, hr2⟩ := DnL.last h2
    refine ⟨v :: l', t2, dv2, R2, by rw [e2]; rfl, ⟨t, dv, R, _, m, rfl, ev, nt, ht, hr, d2⟩, n2, ht2, hr2⟩
/-- the hall at h: its rows, the rows ahead of each deed, how many deeds are undone at most; F: what it may write -/
structure HallAt (K : PySem.W.Frag) (F M : Addr → Prop) (H : Hp) (h : Addr) (rows : Rows) (done : List Rows) (u : Nat) : Prop where
  sub : ∀ a, F a → M a
  ex : ∃ dx R Dn Un dl ul, F h ∧ F Dn ∧ F Un ∧ Dn ≠ Un ∧ H h = some (.ins (CH K) dx (fH R Dn Un)) ∧ H Dn = some (.lst dl) ∧ H Un = some (.lst ul) ∧ ul.length ≤ u ∧ RowsAt K M H R rows ∧ DnL K M H dl done
theorem HallAt.keep {K : PySem.W.Frag} {F M M' : Addr → Prop} {H H' : Hp} {h : Addr} {rows : Rows} {done : List Rows} {u : Nat} (x : HallAt K F M H h rows done u) (k : Keep M M' H H') (f : ∀ a o, F a → H a = some o → H' a = some o) (s : ∀ a, F a → M' a) : HallAt K F M' H' h rows done u := by
  obtain ⟨_, dx, R, Dn, Un, dl, ul, f1, f2, f3, ne, e1, e2, e3, lu, hr, hd⟩ := x
  exact ⟨s, dx, R, Dn, Un, dl, ul, f1, f2, f3, ne, f _ _ f1 e1, f _ _ f2 e2, f _ _ f3 e3, lu, hr.keep k, hd.keep k⟩
theorem HallAt.same {K : PySem.W.Frag} {F M : Addr → Prop} {H H' : Hp} {h : Addr} {rows : Rows} {done : List Rows} {u : Nat} (x : HallAt K F M H h rows done u) (s : Same H H') : HallAt K F M H' h rows done u := x.keep (Keep.same s) (fun a o _ e => s a o e) x.sub
/-- how a hall's deed leaves the heap: F its own before, F2 after -/
structure Frame (F F2 : Addr → Prop) (H H' : Hp) : Prop where
  k : ∀ a o, ¬ F a → H a = some o → H' a = some o
  n : ∀ a, F2 a → F a ∨ H a = none
  h : ∀ a, F2 a → H' a ≠ none
theorem Frame.keep {F F2 M : Addr → Prop} {H H' : Hp} (f : Frame F F2 H H') (s : ∀ a, F a → M a) : Keep M (fun a => M a ∨ F2 a) H H' :=
  ⟨fun a z => z.elim .inl fun z => (f.n a z).elim (fun z => .inl (s a z)) .inr, fun a o n e => f.k a o (fun z => n (s a z)) e⟩
/-- each row -/
structure RowOk (ps : List Pt) : Prop where
  ok : oks ps
  dp : dps ps < 8
  w : wts ps ≤ 1600000
def rowsOk (rows : Rows) : Prop := (akeys rows).Nodup ∧ rows.length ≤ 100 ∧ ∀ e ∈ rows, RowOk e.2
def slimR (rows : Rows) : Rows := rows.map fun e => (e.1, sls e.2)
section
variable {P : Program} {w : World} {K : PySem.W.Frag} {mg : Str → Option Value} {base : Heap}
def spIsName : Sp := fun vs H Q _ => ∃ n : Str, vs = [.str n] ∧ nmOk n = true ∧ ∀ H', Same H H' → Q (.bl true) H'
def spNeedName : Sp := fun vs H Q _ => ∃ n : Str, vs = [.str n] ∧ nmOk n = true ∧ ∀ H', Same H H' → Q .non H'
def spNeedFew : Sp := fun vs H Q _ => ∃ n : Int, vs = [.int n] ∧ n ≤ TOP ∧ Q .non H
theorem all_true (n : Nat) : (List.replicate n true).all id = true := by
  induction n with
  | zero => rfl
  | succ n ih => rw [List.replicate_succ, List.all_cons, ih]; rfl
theorem ok_is_name (T : Txt K mg) : FnOk P w K mg base CX0 1 (He.ga K "is_name") T.fd_is_name ["thing"] spIsName := by
  refine T.d_is_name.F.ok sc_is_name (fun vs H Q E h => ?_) (fun cdv A outer s H vs Q E hr h => ⟨_, PSs.nox (pss_cons (ps_if (PW.pt (pw_or (pt_not (pt_val (pe_callB call_isi (by rfl) T.z_isinstance bt_isinstance (pa_cons (pv 0) (pa_cons (pe_bltn (v := .ty "str") (by rfl) T.z_str bt_str rfl) pa_nil))))) (pw_or1 (pt_not (pt_chain op_le op_le pe_int (pe_callB call_lenStr (by rfl) T.z_len bt_len (pa_cons (pv 0) pa_nil)) (pe_glob (v := .int 8) rfl T.c_MOST_LETTERS ⟨_, rfl⟩)))))) (pss_one (ps_ret pe_bl)) pss_nil)
    (pss_one (ps_ret (pe_callB (cr_all rfl) (by rfl) T.z_all bt_all (pa_cons (pe_lc (own := [("sign", 1)]) (g := (gName 1)) (tt := tYes) rfl sc_is_name.nd (pi_str (pv 0)) (blkOk_by (N := ["thing", "sign"]) (sc := defScope s_is_name) (by decide +kernel)) (fun _ _ _ _ _ => (pg_name (i := 1) sc_is_name.nd rfl (Or.inl rfl))) (fun _ _ _ _ _ => pts_nil) (fun _ _ _ _ _ => (pe_cmpR op_in_sign (pv 1) (pe_glob (v := .str "abcdefghijklmnopqrstuvwxyz") rfl T.c_LETTERS ⟨_, rfl⟩) rfl))) pa_nil))))), ?_⟩)
  · obtain ⟨n, rfl, _⟩ := h; rfl
  obtain ⟨n, rfl, hn, q⟩ := h
  have hn' := hn
  unfold nmOk at hn'
  rw [Bool.and_eq_true, Bool.and_eq_true] at hn'
  have n1 := of_decide_eq_true hn'.1.1
  have n2 := of_decide_eq_true hn'.1.2
  have n3 := List.all_eq_true.mp hn'.2
  have sz0 : n.cps.size ≤ 8 := n2
  walk_at "rd"
  refine isi_str (by decide +kernel : kitB "str" "str" = some true) ?_
  walk_at "rd"
  refine iteF ?_
  walk_at "rd"
  refine ⟨n, rfl, sz (by omega), ?_⟩
  walk_at "rd"
  refine ite_t (by show (1 : Int) ≤ ((n.length : Nat) : Int); omega) ?_
  walk_at "rd"
  have e8 : ((n.length : Nat) : Int) ≤ 8 := by omega
  refine ite_nf e8 ?_
  walk_at "rd"
  refine ⟨_, rfl, n, rfl, fun D hD => ?_⟩
  refine lc_it walk_str (fun i H' => Same H H' ∧ H' D = some (.lst ((List.replicate i true).map V.bl))) ⟨same_upd hD, upd_same⟩ (fun _ _ _ _ => trivial) ?_ ?_
  · rintro i x H1 H2 hi ⟨s1, hD1⟩ ⟨rfl, c, hc, rfl⟩
    refine ⟨rfl, ?_⟩
    walk_at "rd"
    refine iteT ?_
    walk_at "rd"
    refine ⟨c, _, rfl, rfl, ?_⟩
    have mem : c ∈ n.cps.toList := by
      rw [← Array.getElem?_toList] at hc
      exact List.mem_of_getElem? hc
    have cs : c ∈ (Str.ofString "abcdefghijklmnopqrstuvwxyz").cps.toList := of_decide_eq_true (n3 c mem)
    rw [decide_eq_true cs]
    refine ⟨_, hD1, szl (by rw [List.length_map, List.length_replicate]; omega), s1.wr hD, ?_⟩
    rw [upd_same, List.replicate_succ', List.map_append]; rfl
  · rintro H1 ⟨s1, hD1⟩
    walk_at "rd"
    refine ⟨D, _, rfl, SqL.of hD1, ?_⟩
    rw [all_true]
    exact q _ s1
theorem ok_need_name (T : Txt K mg) (G_is_name : FnOk P w K mg base CX0 1 (He.ga K "is_name") T.fd_is_name ["thing"] spIsName) : FnOk P w K mg base CX0 2 (He.ga K "need_name") T.fd_need_name ["thing"] spNeedName := by
  refine T.d_need_name.F.ok sc_need_name (fun vs H Q E h => ?_) (fun cdv A outer s H vs Q E hr h => ⟨_, PSs.nox (pss_one (ps_if (pt_not (pt_val (pe_call G_is_name (hr.mono (by omega)) rfl T.g_is_name T.d_is_name.F.kp T.d_is_name.b .nil pass0 (pa_cons (pv 0) pa_nil)))) (pss_one ps_never) pss_nil)), ?_⟩)
  · obtain ⟨n, rfl, _⟩ := h; rfl
  obtain ⟨n, rfl, hn, q⟩ := h
  walk_at "rd"
  refine ⟨n, rfl, hn, fun H1 s1 => ?_⟩
  walk_at "rd"
  refine iteF ?_
  walk_at "rd"
  exact q _ s1
theorem ok_need_few (T : Txt K mg) : FnOk P w K mg base CX0 1 (He.ga K "need_few") T.fd_need_few ["many"] spNeedFew := by
  refine T.d_need_few.F.ok sc_need_few (fun vs H Q E h => ?_) (fun cdv A outer s H vs Q E hr h => ⟨_, PSs.nox (pss_one (ps_if (pt_cmpR op_gt (pv 0) (pe_glob (v := .int 999999999999999999999999999999) rfl T.c_MOST_PEOPLE ⟨_, rfl⟩) (nomark _)) (pss_one ps_never) pss_nil)), ?_⟩)
  · obtain ⟨n, rfl, _⟩ := h; rfl
  obtain ⟨n, rfl, hn, q⟩ := h
  walk_at "rd"
  refine ite_f (by have : n ≤ 999999999999999999999999999999 := hn; omega) ?_
  walk_at "rd"
  exact q
end
theorem slimR_take {rows : Rows} {i : Nat} {e : Str × List Pt} (h : rows[i]? = some e) : slimR (rows.take (i + 1)) = slimR (rows.take i) ++ [(e.1, sls e.2)] := by
  rw [take_snoc h]
  unfold slimR
  rw [List.map_append]; rfl
theorem akeys_take {κ α : Type} [DecidableEq κ] {l : List (κ × α)} (h : (akeys l).Nodup) {i : Nat} {e : κ × α} (he : l[i]? = some e) : e.1 ∉ akeys (l.take i) := by
  have e1 : akeys l = akeys (l.take i) ++ akeys (l.drop i) := by unfold akeys; rw [← List.map_append, List.take_append_drop]
  rw [e1, List.nodup_append] at h
  intro z
  have e2 : e.1 ∈ akeys (l.drop i) := by
    unfold akeys
    refine List.mem_map.mpr ⟨e, ?_, rfl⟩
    rw [List.mem_iff_getElem?]
    exact ⟨0, by rw [List.getElem?_drop]; exact he⟩
  exact h.2.2 _ z _ e2 rfl
theorem aput_new {κ α : Type} [DecidableEq κ] {l : List (κ × α)} {k : κ} {a : α} (h : k ∉ akeys l) : aput l k a = l ++ [(k, a)] := by
  unfold aput
  rw [if_neg fun z => h (any_key.mp z)]
section
variable {P : Program} {w : World} {K : PySem.W.Frag} {mg : Str → Option Value} {base : Heap}
/-! ### a hall's small deeds -/
def spHallI (K : PySem.W.Frag) : Sp := fun vs H Q _ => ∃ (M : Addr → Prop) (x dx : Addr), vs = [.ref x] ∧ H x = some (.ins (CH K) dx []) ∧ (∀ a, M a → a ≠ x → H a ≠ none) ∧
  ∀ F H', (∀ b o, b ≠ x → H b = some o → H' b = some o) → (∀ a, F a → a = x ∨ H a = none) → (∀ a, F a → H' a ≠ none) → HallAt K F (fun a => M a ∨ F a) H' x [] [] 0 → Q .non H'
theorem ok_hall_init (T : Txt K mg) : FnOk P w K mg base CX0 1 (He.ma K (He.ga K "Hall") "__init__") T.fd_Hall__init ["self"] (spHallI K) := by
  refine T.d_Hall__init.F.ok sc_Hall__init (fun vs H Q E h => ?_) (fun cdv A outer s H vs Q E hr h => ⟨_, PSs.nox (pss_cons (ps_fld (pv 0) pe_dnewK rfl)
    (pss_cons (ps_fld (pv 0) (pe_lst pa_nil) rfl)
    (pss_one (ps_fld (pv 0) (pe_lst pa_nil) rfl)))), ?_⟩)
  · obtain ⟨M, x, dx, rfl, _⟩ := h; rfl
  obtain ⟨M, x, dx, rfl, hx, hM, q⟩ := h
  walk_at "rd"
  refine r_dnew fun R hR => ?_
  walk_at "rd"
  have nR : x ≠ R := ne_of_none hx hR
  refine p_set (by rw [upd_ne nR]; exact hx) T.cl_Hall T.n_Hall_s10_rows (by show 0 < 1000; decide) ?_
  walk_at "rd"
  refine p_new (sz (by show 0 ≤ _; decide)) fun Dn hDn => ?_
  have nD : x ≠ Dn := ne_of_none upd_same hDn
  have nRD : R ≠ Dn := ne_of_none (by rw [upd_ne nR.symm]; exact upd_same) hDn
  walk_at "rd"
  refine p_set (by rw [upd_ne nD]; exact upd_same) T.cl_Hall T.n_Hall_s10_done (by show 1 < 1000; decide) ?_
  walk_at "rd"
  refine p_new (sz (by show 0 ≤ _; decide)) fun Un hUn => ?_
  have nU : x ≠ Un := ne_of_none upd_same hUn
  have nDU : Dn ≠ Un := ne_of_none (by rw [upd_ne nD.symm]; exact upd_same) hUn
  have nRU : R ≠ Un := ne_of_none (by rw [upd_ne nR.symm, upd_ne nRD, upd_ne nR.symm]; exact upd_same) hUn
  walk_at "rd"
  refine p_set (by rw [upd_ne nU]; exact upd_same) T.cl_Hall T.n_Hall_s10_undone (by show 2 < 1000; decide) ?_
  rw [fH_put]
  rw [upd_ne nD.symm, upd_ne nRD.symm] at hDn
  rw [upd_ne nU.symm, upd_ne nDU.symm, upd_ne nU.symm, upd_ne nRU.symm] at hUn
  refine q (fun a => a = x ∨ a = Dn ∨ a = Un) _ (fun b o nb e => ?_) (fun a z => ?_) (fun a z => ?_) ⟨fun a z => .inr z, dx, R, Dn, Un, [], [], .inl rfl, .inr (.inl rfl), .inr (.inr rfl), nDU, upd_same, ?_, ?_, Nat.le_refl _, ⟨fun z => ?_, [], ?_, rfl⟩, rfl⟩
  · rw [upd_ne nb, upd_ne (ne_of_none e hUn), upd_ne nb, upd_ne (ne_of_none e hDn), upd_ne nb, upd_ne (ne_of_none e hR)]
    exact e
  · rcases z with z | z | z
    · exact .inl z
    · exact .inr (z ▸ hDn)
    · exact .inr (z ▸ hUn)
  · by_cases e : a = x
    · rw [e, upd_same]; exact fun z => nomatch z
    · rw [upd_ne e]
      by_cases e2 : a = Un
      · rw [e2, upd_same]; exact fun z => nomatch z
      · rw [upd_ne e2, upd_ne e]
        rcases z with z | z | z
        · exact absurd z e
        · rw [z, upd_same]; exact fun z => nomatch z
        · exact absurd z e2
  · rw [upd_ne nD.symm, upd_ne nDU, upd_ne nD.symm, upd_same]
  · rw [upd_ne nU.symm, upd_same]
  · rcases z with z | z | z | z
    · exact hM R z nR.symm hR
    · exact nR z.symm
    · exact nRD z
    · exact nRU z
  · rw [upd_ne nR.symm, upd_ne nRU, upd_ne nR.symm, upd_ne nRD, upd_ne nR.symm, upd_same]; rfl
/-- a row's parts -/
def spParts (K : PySem.W.Frag) : Sp := fun vs H Q _ => ∃ (F M : Addr → Prop) (h : Addr) (n : Str) (rows : Rows) (done : List Rows) (u : Nat) (ps : List Pt), vs = [.ref h, .str n] ∧ HallAt K F M H h rows done u ∧ nmOk n = true ∧ aget rows n = some ps ∧
  ∀ q H', Same H H' → PtsA K M H' ps q → Q (.ref q) H'
def spFree (K : PySem.W.Frag) : Sp := fun vs H Q _ => ∃ (F M : Addr → Prop) (h : Addr) (n : Str) (rows : Rows) (done : List Rows) (u : Nat), vs = [.ref h, .str n] ∧ HallAt K F M H h rows done u ∧ nmOk n = true ∧ aget rows n = none ∧ ∀ H', Same H H' → Q .non H'
theorem ok_s10_parts (T : Txt K mg) (G_need_name : FnOk P w K mg base CX0 2 (He.ga K "need_name") T.fd_need_name ["thing"] spNeedName) : FnOk P w K mg base CX0 3 (He.ma K (He.ga K "Hall") "s10_parts") T.fd_Hall_s10_parts ["self", "name"] (spParts K) := by
  refine T.d_Hall_s10_parts.F.ok sc_Hall_s10_parts (fun vs H Q E h => ?_) (fun cdv A outer s H vs Q E hr h => ⟨_, PSs.nox (pss_cons (ps_expr (pe_call G_need_name (hr.mono (by omega)) rfl T.g_need_name T.d_need_name.F.kp T.d_need_name.b .nil pass0 (pa_cons (pv 1) pa_nil)))
    (pss_cons (ps_if (pt_cmp (pc_dnotin (hu_of hr) (pv 1) (pe_fld (pv 0) rfl))) (pss_one ps_never) pss_nil)
    (pss_one (ps_ret (pe_dget (hu_of hr) (pe_fld (pv 0) rfl) (pv 1) (fun _ _ => rfl)))))), ?_⟩)
  · obtain ⟨F, M, h, n, rows, done, u, ps, rfl, _⟩ := h; rfl
  obtain ⟨F, M, h, n, rows, done, u, ps, rfl, hh, hn, hp, q⟩ := h
  obtain ⟨_, dx, R, Dn, Un, dl, ul, f1, f2, f3, ne, e1, e2, e3, lu, ⟨nR, l, eR, hl⟩, hd⟩ := hh
  walk_at "rd"
  refine ⟨n, rfl, hn, fun H1 s1 => ?_⟩
  walk_at "rd"
  refine p_fld (s1 _ _ e1) T.cl_Hall T.n_Hall_s10_rows (fH_rows _ _ _) ?_
  rcases hl.get n with ⟨_, z⟩ | ⟨a, y, ea, ey, hy⟩
  · rw [hp] at z; cases z
  rw [hp] at ey
  cases ey
  have ev : valV (mkS l) (.inr n) = some (.ref a) := by rw [mkD_val inr_inj, ea]; rfl
  refine ⟨R, _, rfl, DGet.k (k := .inr n) (s1 _ _ eR), ?_⟩
  rw [ev]
  walk_at "rd"
  refine iteF ?_
  walk_at "rd"
  refine p_fld (s1 _ _ e1) T.cl_Hall T.n_Hall_s10_rows (fH_rows _ _ _) ?_
  walk_at "rd"
  refine ⟨R, .ref a, rfl, by rw [← ev]; exact DGet.k (k := .inr n) (s1 _ _ eR), ?_⟩
  exact q a H1 s1 (hy.to (Keep.same s1))
theorem ok_s10_free (T : Txt K mg) (G_need_name : FnOk P w K mg base CX0 2 (He.ga K "need_name") T.fd_need_name ["thing"] spNeedName) : FnOk P w K mg base CX0 3 (He.ma K (He.ga K "Hall") "s10_free") T.fd_Hall_s10_free ["self", "name"] (spFree K) := by
  refine T.d_Hall_s10_free.F.ok sc_Hall_s10_free (fun vs H Q E h => ?_) (fun cdv A outer s H vs Q E hr h => ⟨_, PSs.nox (pss_cons (ps_expr (pe_call G_need_name (hr.mono (by omega)) rfl T.g_need_name T.d_need_name.F.kp T.d_need_name.b .nil pass0 (pa_cons (pv 1) pa_nil)))
    (pss_one (ps_if (pt_cmp (pc_din (hu_of hr) (pv 1) (pe_fld (pv 0) rfl))) (pss_one ps_never) pss_nil))), ?_⟩)
  · obtain ⟨F, M, h, n, rows, done, u, rfl, _⟩ := h; rfl
  obtain ⟨F, M, h, n, rows, done, u, rfl, hh, hn, hp, q⟩ := h
  obtain ⟨_, dx, R, Dn, Un, dl, ul, f1, f2, f3, ne, e1, e2, e3, lu, ⟨nR, l, eR, hl⟩, hd⟩ := hh
  walk_at "rd"
  refine ⟨n, rfl, hn, fun H1 s1 => ?_⟩
  walk_at "rd"
  refine p_fld (s1 _ _ e1) T.cl_Hall T.n_Hall_s10_rows (fH_rows _ _ _) ?_
  have ea : aget l n = none := by
    rcases hl.get n with ⟨z, _⟩ | ⟨a, y, _, ey, _⟩
    · exact z
    · rw [hp] at ey; cases ey
  have ev : valV (mkS l) (.inr n) = none := by rw [mkD_val inr_inj, ea]; rfl
  refine ⟨R, _, rfl, DGet.k (k := .inr n) (s1 _ _ eR), ?_⟩
  rw [ev]
  walk_at "rd"
  refine iteF ?_
  walk_at "rd"
  exact q H1 s1
/-- how many rows -/
def spHLen (K : PySem.W.Frag) : Sp := fun vs H Q _ => ∃ (F M : Addr → Prop) (h : Addr) (rows : Rows) (done : List Rows) (u : Nat), vs = [.ref h] ∧ HallAt K F M H h rows done u ∧ Q (.int rows.length) H
theorem ok_hall_len (T : Txt K mg) : FnOk P w K mg base CX0 1 (He.ma K (He.ga K "Hall") "__len__") T.fd_Hall__len ["self"] (spHLen K) := by
  refine T.d_Hall__len.F.ok sc_Hall__len (fun vs H Q E h => ?_) (fun cdv A outer s H vs Q E hr h => ⟨_, PSs.nox (pss_one (ps_ret (pe_callB call_lenDD (by rfl) T.z_len bt_len (pa_cons (pe_fld (pv 0) rfl) pa_nil)))), ?_⟩)
  · obtain ⟨F, M, h, rows, done, u, rfl, _⟩ := h; rfl
  obtain ⟨F, M, h, rows, done, u, rfl, hh, q⟩ := h
  obtain ⟨_, dx, R, Dn, Un, dl, ul, f1, f2, f3, ne, e1, e2, e3, lu, ⟨nR, l, eR, hl⟩, hd⟩ := hh
  walk_at "rd"
  refine p_fld e1 T.cl_Hall T.n_Hall_s10_rows (fH_rows _ _ _) ?_
  walk_at "rd"
  refine len_dct eR ?_
  rw [mkD_len, hl.len]
  exact q
/-- the names, in some order -/
def spNames (K : PySem.W.Frag) : Sp := fun vs H Q _ => ∃ (F M : Addr → Prop) (h : Addr) (rows : Rows) (done : List Rows) (u : Nat), vs = [.ref h] ∧ HallAt K F M H h rows done u ∧ rows.length < 64 ∧
  ∀ (p : Addr) (ys : List Str) (H' : Hp), Same H H' → H p = none → H' p = some (.lst (ys.map V.str)) → ys.Perm (akeys rows) → sortedS ys = true → Q (.ref p) H'
theorem ok_names (T : Txt K mg) : FnOk P w K mg base CX0 1 (He.ma K (He.ga K "Hall") "names") T.fd_Hall_names ["self"] (spNames K) := by
  refine T.d_Hall_names.F.ok sc_Hall_names (fun vs H Q E h => ?_) (fun cdv A outer s H vs Q E hr h => ⟨_, PSs.nox (pss_one (ps_ret (pe_callB (call_sortedD rfl) (by rfl) T.z_sorted bt_sorted (pa_cons (pe_fld (pv 0) rfl) pa_nil)))), ?_⟩)
  · obtain ⟨F, M, h, rows, done, u, rfl, _⟩ := h; rfl
  obtain ⟨F, M, h, rows, done, u, rfl, hh, hn, q⟩ := h
  obtain ⟨_, dx, R, Dn, Un, dl, ul, f1, f2, f3, ne, e1, e2, e3, lu, ⟨nR, l, eR, hl⟩, hd⟩ := hh
  walk_at "rd"
  refine p_fld e1 T.cl_Hall T.n_Hall_s10_rows (fH_rows _ _ _) ?_
  walk_at "rd"
  refine ⟨R, mkS l, akeys rows, rfl, .inl eR, ?_, by rw [len_keys]; exact hn, fun ys p hp hs hf => ?_⟩
  · rw [← hl.keys]
    unfold mkS mkD akeys
    rw [List.map_map, List.map_map]
    rfl
  · exact q p ys _ (same_upd hf) hf upd_same hp hs
end
/-- what trees are of -/
def Tr (o : HO) : Prop := (∃ xs, o = .lst xs) ∨ (∃ xs, o = .tup xs) ∨ ∃ C dx fs, o = .ins C dx fs
theorem tr_l (xs : List V) : Tr (.lst xs) := .inl ⟨xs, rfl⟩
theorem tr_t (xs : List V) : Tr (.tup xs) := .inr (.inl ⟨xs, rfl⟩)
theorem tr_i (C dx : Addr) (fs : List (Str × V)) : Tr (.ins C dx fs) := .inr (.inr ⟨C, dx, fs, rfl⟩)
section
variable {K : PySem.W.Frag} {M M' : Addr → Prop} {H H' : Hp}
mutual
theorem PtA.go (f : ∀ a o, ¬ M a → H a = some o → Tr o → ¬ M' a ∧ H' a = some o) : ∀ (p : Pt) (v : V), PtA K M H p v → PtA K M' H' p v
  | .spot s n, v, h => by
    rw [PtA] at h ⊢
    obtain ⟨a, dx, p, e, h1, h2, h3, h4⟩ := h
    have g1 := f _ _ h1 h3 (tr_i _ _ _)
    have g2 := f _ _ h2 h4 (tr_t _)
    exact ⟨a, dx, p, e, g1.1, g2.1, g1.2, g2.2⟩
  | .over t ps, v, h => by
    rw [PtA] at h ⊢
    obtain ⟨a, dx, q, vs, e, h1, h2, h3, h4, h5⟩ := h
    have g1 := f _ _ h1 h3 (tr_i _ _ _)
    have g2 := f _ _ h2 h4 (tr_l _)
    exact ⟨a, dx, q, vs, e, g1.1, g2.1, g1.2, g2.2, PtLA.go f ps vs h5⟩
theorem PtLA.go (f : ∀ a o, ¬ M a → H a = some o → Tr o → ¬ M' a ∧ H' a = some o) : ∀ (ps : List Pt) (vs : List V), PtLA K M H ps vs → PtLA K M' H' ps vs
  | [], vs, h => by rw [PtLA] at h ⊢; exact h
  | p :: r, vs, h => by
    rw [PtLA] at h ⊢
    obtain ⟨v, vr, e, h1, h2⟩ := h
    exact ⟨v, vr, e, PtA.go f p v h1, PtLA.go f r vr h2⟩
end
theorem PtsA.go (f : ∀ a o, ¬ M a → H a = some o → Tr o → ¬ M' a ∧ H' a = some o) {ps : List Pt} {q : Addr} (h : PtsA K M H ps q) : PtsA K M' H' ps q := by
  obtain ⟨h1, vs, h2, h3⟩ := h
  have g := f _ _ h1 h2 (tr_l _)
  exact ⟨g.1, vs, g.2, h3.go f⟩
end
theorem RwL.go {K : PySem.W.Frag} {M M' : Addr → Prop} {H H' : Hp} (f : ∀ a o, ¬ M a → H a = some o → Tr o → ¬ M' a ∧ H' a = some o) {l : List (Str × Addr)} {rows : Rows} (h : RwL K M H l rows) : RwL K M' H' l rows := RelL.to (fun _ _ z => PtsA.go f z) h
theorem RwL.put {K : PySem.W.Frag} {M : Addr → Prop} {H : Hp} {k : Str} {a : Addr} {ps : List Pt} (ha : PtsA K M H ps a) {l : List (Str × Addr)} {rows : Rows} (hn : (akeys l).Nodup) (h : RwL K M H l rows) : RwL K M H (aput l k a) (aput rows k ps) :=
  RelL.put (R := fun a ps => PtsA K M H ps a) ha hn h
theorem r_lockE {σ : L2.St} {H : Hp} {Q : VK} {t : TE} {d : Addr} {u : HO} (h : H d = some u) (m : Mut (some u)) (k : ∀ od, t σ (upd H d (.frz od u)) fun v H' => H' d = some (.frz od u) ∧ Q v (upd H' d u)) : tLockE t σ H Q := ⟨d, u, h, m, k⟩
section
variable {P : Program} {w : World} {K : PySem.W.Frag} {mg : Str → Option Value} {base : Heap}
/-- a deed is kept: the rows at Z, made slim, are the hall's -/
def spKeep (K : PySem.W.Frag) : Sp := fun vs H Q _ => ∃ (F M : Addr → Prop) (h Z : Addr) (dv : V) (l : List (Str × Addr)) (rows rowsN : Rows) (done : List Rows) (u : Nat), vs = [.ref h, dv, .ref Z] ∧ HallAt K F M H h rows done u ∧ ¬ M Z ∧ H Z = some (.dK (mkS l)) ∧ RwL K M H l rowsN ∧
  (∀ a, M a → H a ≠ none) ∧ rowsOk rowsN ∧ done.length < 100000 ∧
  ∀ F2 H', Frame F F2 H H' → HallAt K F2 (fun a => M a ∨ F2 a) H' h (slimR rowsN) (done ++ [rows]) 0 → Q .non H'
theorem ok_s10_keep (T : Txt K mg) (B : F1 P w K mg base T) : FnOk P w K mg base CX0 23 (He.ma K (He.ga K "Hall") "s10_keep") T.fd_Hall_s10_keep ["self", "deed", "rows"] (spKeep K) := by
  have G_slim := B.slim
  refine T.d_Hall_s10_keep.F.ok sc_Hall_s10_keep (fun vs H Q E h => ?_) (fun cdv A outer s H vs Q E hr h => ⟨_, PSs.nox (pss_cons (ps_expr (pe_bm PySem.F.plainAttrs_list PySem.F.slot_list_append PySem.F.type_list_append mt_append (pe_fld (pv 0) rfl) (pa_cons (pe_tup (pa_cons (pv 1) (pa_cons (pe_fld (pv 0) rfl) pa_nil))) pa_nil)))
    (pss_cons (ps_fld (pv 0) (pe_lst pa_nil) rfl)
    (pss_one (ps_fld (pv 0) (pe_lock (pe_dc (own := [("name", 3), ("parts", 4)]) (g := (gTup K 2 (gCons (gName 3) (gCons (gName 4) gNil)))) (tt := tYes) rfl sc_Hall_s10_keep.nd (pi_items (pv 2)) (blkOk_by (N := ["self", "deed", "rows", "name", "parts"]) (sc := defScope s_Hall_s10_keep) (by decide +kernel)) (fun _ _ _ _ _ => (pg_tup rfl (pgs_cons (pg_name (i := 3) sc_Hall_s10_keep.nd rfl (Or.inl rfl)) (pgs_cons (pg_name (i := 4) sc_Hall_s10_keep.nd rfl (Or.inl rfl)) pgs_nil)))) (fun _ _ _ _ _ => pts_nil) (fun _ _ _ _ _ => (pv 3)) (fun _ _ _ _ _ => (pe_call G_slim (hr.mono (by omega)) rfl T.g_slim T.d_slim.F.kp T.d_slim.b .nil pass0 (pa_cons (pv 4) pa_nil))))) rfl)))), ?_⟩)
  · obtain ⟨F, M, h, Z, dv, l, rows, rowsN, done, u, rfl, _⟩ := h; rfl
  obtain ⟨F, M, h, Z, dv, l, rows, rowsN, done, u, rfl, hh, nZ, eZ, hl, hM, ro, dl2, q⟩ := h
  obtain ⟨fs, dx, R, Dn, Un, dl, ul, f1, f2, f3, ne, e1, e2, e3, lu, hR, hd⟩ := hh
  have dlen := hd.len
  walk_at "rd"
  refine p_fld e1 T.cl_Hall T.n_Hall_s10_done (fH_done _ _ _) ?_
  refine p_bmL e2 ?_
  walk_at "rd"
  refine p_fld e1 T.cl_Hall T.n_Hall_s10_rows (fH_rows _ _ _) ?_
  walk_at "rd"
  refine p_new (sz (by show 2 ≤ _; decide)) fun t ht => ?_
  walk_at "rd"
  have s1 : Same H (upd H t (.tup [dv, .ref R])) := same_upd ht
  refine r_append (s1 _ _ e2) (szl (by omega)) ?_
  walk_at "rd"
  refine p_new (sz (by show 0 ≤ _; decide)) fun Un' hUn' => ?_
  walk_at "rd"
  have nt : t ≠ Dn := fun z => by rw [z, e2] at ht; cases ht
  have nhD : h ≠ Dn := fun z => by rw [z, e2] at e1; cases e1
  have nht : h ≠ t := ne_of_none e1 ht
  have eU1 : (upd (upd H t (.tup [dv, .ref R])) Dn (.lst (dl ++ [.ref t]))) h = some (.ins (CH K) dx (fH R Dn Un)) := by rw [upd_ne nhD, upd_ne nht]; exact e1
  have nhU : h ≠ Un' := ne_of_none eU1 hUn'
  refine p_set (by rw [upd_ne nhU]; exact eU1) T.cl_Hall T.n_Hall_s10_undone (by show 3 < 1000; decide) ?_
  rw [fH_putU]
  walk_at "rd"
  -- the heap behind the two first statements
  have hUn0 : H Un' = none ∧ Un' ≠ Dn ∧ Un' ≠ t := by
    have a1 : Un' ≠ Dn := fun z => by rw [z, upd_same] at hUn'; cases hUn'
    have a2 : Un' ≠ t := fun z => by rw [z, upd_ne nt, upd_same] at hUn'; cases hUn'
    rw [upd_ne a1, upd_ne a2] at hUn'
    exact ⟨hUn', a1, a2⟩
  generalize eH1 : upd (upd (upd (upd H t (.tup [dv, .ref R])) Dn (.lst (dl ++ [.ref t]))) Un' (.lst [])) h (.ins (CH K) dx (fH R Dn Un')) = H1
  have k1 : ∀ a o, ¬ F a → H a = some o → H1 a = some o := fun a o na e => by
    rw [← eH1, upd_ne (fun z : a = h => na (z ▸ f1)), upd_ne (ne_of_none e hUn0.1), upd_ne (fun z : a = Dn => na (z ▸ f2)), upd_ne (ne_of_none e ht)]; exact e
  have h1h : H1 h = some (.ins (CH K) dx (fH R Dn Un')) := by rw [← eH1, upd_same]
  have h1D : H1 Dn = some (.lst (dl ++ [.ref t])) := by rw [← eH1, upd_ne nhD.symm, upd_ne hUn0.2.1.symm, upd_same]
  have h1U : H1 Un' = some (.lst []) := by rw [← eH1, upd_ne nhU.symm, upd_same]
  have h1t : H1 t = some (.tup [dv, .ref R]) := by rw [← eH1, upd_ne nht.symm, upd_ne hUn0.2.2.symm, upd_ne nt, upd_same]
  have hM1 : ∀ a, M a → H1 a ≠ none := fun a z => by
    rw [← eH1]
    by_cases y1 : a = h
    · rw [y1, upd_same]; exact fun z => nomatch z
    · rw [upd_ne y1]
      by_cases y2 : a = Un'
      · rw [y2, upd_same]; exact fun z => nomatch z
      · rw [upd_ne y2]
        by_cases y3 : a = Dn
        · rw [y3, upd_same]; exact fun z => nomatch z
        · rw [upd_ne y3]
          by_cases y4 : a = t
          · rw [y4, upd_same]; exact fun z => nomatch z
          · rw [upd_ne y4]; exact hM a z
  have hM2 : ∀ a, (M a ∨ a = Un') → H1 a ≠ none := fun a z => z.elim (hM1 a) fun e => by rw [e, h1U]; exact fun z => nomatch z
  have kk : Keep M (fun a => M a ∨ a = Un') H H1 := ⟨fun a z => z.elim .inl fun e => .inr (e ▸ hUn0.1), fun a o na e => k1 a o (fun z => na (fs a z)) e⟩
  have nZ2 : ¬ (M Z ∨ Z = Un') := fun z => z.elim nZ fun z => by rw [z, hUn0.1] at eZ; cases eZ
  have eZ1 : H1 Z = some (.dK (mkS l)) := k1 _ _ (fun z => nZ (fs _ z)) eZ
  have hl1 := RwL.keep kk hl
  clear eH1 hUn'
  refine r_lockE eZ1 trivial fun od => ?_
  refine ⟨_, rfl, Z, od, _, rfl, upd_same, fun D hD => ?_⟩
  have nDZ : D ≠ Z := fun z => by rw [z, upd_same] at hD; cases hD
  rw [upd_ne nDZ] at hD
  have lkeys := hl.keys
  have lN : (akeys l).Nodup := by rw [lkeys]; exact ro.1
  have llen := hl.len
  have rowsOk := ro.2.2
  have sZ : ∀ a o, a ≠ Z → H1 a = some o → (upd H1 Z (.frz od (.dK (mkS l)))) a = some o := fun a o n e => by rw [upd_ne n]; exact e
  have toG : ∀ a o, ¬ (M a ∨ a = Un') → H1 a = some o → Tr o → ¬ ((M a ∨ a = Un') ∨ a = Z) ∧ (upd H1 Z (.frz od (.dK (mkS l)))) a = some o := fun a o na e tr => by
    have ne : a ≠ Z := fun z => by
      rw [z, eZ1] at e
      cases e
      rcases tr with ⟨_, z⟩ | ⟨_, z⟩ | ⟨_, _, _, z⟩ <;> cases z
    exact ⟨fun z => z.elim na ne, by rw [upd_ne ne]; exact e⟩
  refine dc_it walk_items (fun i H2 => Same (upd H1 Z (.frz od (.dK (mkS l)))) H2 ∧ ∃ l2, H2 D = some (.dK (mkS l2)) ∧ RwL K (fun a => (M a ∨ a = Un') ∨ a = Z) H2 l2 (slimR (rowsN.take i)) ∧ akeys l2 = akeys (l.take i)) ⟨same_upd (by rw [upd_ne nDZ]; exact hD), [], upd_same, by rw [List.take_zero]; rfl, by rw [List.take_zero]⟩
    (fun i H2 _ ⟨s2, _⟩ => s2 _ _ upd_same) ?_ ?_
  · rintro i x H2 H3 hi ⟨s2, l2, hD2, hl2, lk2⟩ ⟨T2, x1, x2, rfl, hT2, rfl, e5, e6⟩
    have e5 : ((mkS l)[i]?.map fun kv => kV kv.1) = some x1 := e5
    have e6 : (mkS l)[i]?.map Prod.snd = some x2 := e6
    obtain ⟨⟨k, a⟩, he, ex1, ex2⟩ : ∃ e : Str × Addr, l[i]? = some e ∧ x1 = .str e.1 ∧ x2 = .ref e.2 := by
      cases hk : (mkS l)[i]? with
      | none => rw [hk] at e5; cases e5
      | some kv =>
        obtain ⟨kk, vv⟩ := kv
        obtain ⟨e, h1, h2, h3⟩ := mkD_get l hk
        rw [hk] at e5 e6
        cases e5
        cases e6
        subst h2 h3
        exact ⟨e, h1, rfl, rfl⟩
    subst ex1 ex2
    obtain ⟨ps, hp, hq⟩ := hl1.idx he
    have r1 := rowsOk _ (List.mem_of_getElem? hp)
    have s3 : Same H2 (upd H2 T2 (.tup [.str k, .ref a])) := same_upd hT2
    have sZZ := s2.trans s3
    have hM3 : ∀ b, ((M b ∨ b = Un') ∨ b = Z) → (upd H2 T2 (.tup [.str k, .ref a])) b ≠ none := fun b z y => by
      by_cases eb : b = Z
      · rw [eb, sZZ _ _ upd_same] at y; cases y
      · obtain ⟨o, ho⟩ := Option.ne_none_iff_exists'.mp (hM2 b (z.elim id fun z => absurd z eb))
        rw [sZZ _ _ (sZ _ _ eb ho)] at y; cases y
    have hq3 : PtsA K (fun a => (M a ∨ a = Un') ∨ a = Z) (upd H2 T2 (.tup [.str k, .ref a])) ps a := (hq.go toG).to (Keep.same sZZ)
    refine r_gTup upd_same rfl ?_
    walk_at "rd"
    refine ⟨rfl, ?_⟩
    walk_at "rd"
    refine iteT ?_
    walk_at "rd"
    refine ⟨_, a, ps, rfl, ⟨hq3, hM3, r1.ok, r1.dp, by have h1 : wts ps ≤ 1600000 := r1.w; omega⟩, fun r H4 s4 hr4 => ?_⟩
    have kn : k ∉ akeys l2 := by rw [lk2]; exact akeys_take lN he
    have nD2 : ∀ b o, ¬ ((M b ∨ b = Un') ∨ b = Z) → H4 b = some o → Tr o → ¬ ((M b ∨ b = Un') ∨ b = Z) ∧ (upd H4 D (.dK (mkS (aput l2 k r)))) b = some o := fun b o na e tr => by
      have ne : b ≠ D := fun z => by
        rw [z, s4 _ _ (s3 _ _ hD2)] at e
        cases e
        rcases tr with ⟨_, z⟩ | ⟨_, z⟩ | ⟨_, _, _, z⟩ <;> cases z
      exact ⟨na, by rw [upd_ne ne]; exact e⟩
    have l2N : (akeys l2).Nodup := by
      rw [lk2]
      have e1 : akeys l = akeys (l.take i) ++ akeys (l.drop i) := by unfold akeys; rw [← List.map_append, List.take_append_drop]
      rw [e1, List.nodup_append] at lN
      exact lN.1
    have knR : k ∉ akeys (slimR (rowsN.take i)) := by rw [← hl2.keys]; exact kn
    have hfin : RwL K (fun a => (M a ∨ a = Un') ∨ a = Z) (upd H4 D (.dK (mkS (aput l2 k r)))) (aput l2 k r) (slimR (rowsN.take (i + 1))) := by
      rw [slimR_take hp, ← aput_new (a := sls ps) knR]
      exact RwL.put (hr4.go nD2) l2N (RwL.go nD2 (RwL.keep (Keep.same (s3.trans s4)) hl2))
    refine ⟨_, .inr k, rfl, s4 _ _ (s3 _ _ hD2), szl (by rw [mkD_len, ← len_keys, lk2, len_keys, List.length_take]; have := ro.2.1; omega), (sZZ.trans s4).wr (by rw [upd_ne nDZ]; exact hD), aput l2 k r, by rw [upd_same, mkD_put inr_inj], by rw [mkD_put inr_inj]; exact hfin, ?_⟩
    rw [aput_new kn, take_snoc he]
    unfold akeys at lk2 ⊢
    rw [List.map_append, List.map_append, lk2]; rfl
  · rintro H2 ⟨s2, l2, hD2, hl2, lk2⟩
    rw [mkD_len, llen, List.take_length] at hl2
    have hZ2 : H2 Z = some (.frz od (.dK (mkS l))) := s2 _ _ upd_same
    have nhZ : h ≠ Z := fun z => by rw [z, eZ1] at h1h; cases h1h
    have nDnZ : Dn ≠ Z := fun z => by rw [z, eZ1] at h1D; cases h1D
    have nUZ : Un' ≠ Z := fun z => by rw [z, eZ1] at h1U; cases h1U
    have ntZ : t ≠ Z := fun z => by rw [z, eZ1] at h1t; cases h1t
    have h2h : (upd H2 Z (.dK (mkS l))) h = some (.ins (CH K) dx (fH R Dn Un')) := by rw [upd_ne nhZ]; exact s2 _ _ (sZ _ _ nhZ h1h)
    refine ⟨hZ2, ?_⟩
    walk_at "rd"
    refine p_set h2h T.cl_Hall T.n_Hall_s10_rows (by show 3 < 1000; decide) ?_
    rw [fH_putR]
    have toF : ∀ a o, a ≠ h → a ≠ Z → H1 a = some o → (upd (upd H2 Z (.dK (mkS l))) h (.ins (CH K) dx (fH D Dn Un'))) a = some o := fun a o n1 n2 e => by
      rw [upd_ne n1, upd_ne n2]; exact s2 _ _ (sZ _ _ n2 e)
    have fr : Frame F (fun a => a = h ∨ a = Dn ∨ a = Un') H (upd (upd H2 Z (.dK (mkS l))) h (.ins (CH K) dx (fH D Dn Un'))) := by
      refine ⟨fun a o na e => ?_, fun a z => ?_, fun a z => ?_⟩
      · by_cases ea : a = Z
        · rw [ea, upd_ne nhZ.symm, upd_same, ← eZ, ← ea]; exact e
        · exact toF a o (fun z => na (z ▸ f1)) ea (k1 a o na e)
      · rcases z with z | z | z
        · exact .inl (z ▸ f1)
        · exact .inl (z ▸ f2)
        · exact .inr (z ▸ hUn0.1)
      · rcases z with z | z | z
        · rw [z, upd_same]; exact fun z => nomatch z
        · rw [z, toF _ _ nhD.symm nDnZ h1D]; exact fun z => nomatch z
        · rw [z, toF _ _ nhU.symm nUZ h1U]; exact fun z => nomatch z
    have kf := fr.keep fs
    have nM : ∀ a, H1 a = none → ¬ (M a ∨ a = h ∨ a = Dn ∨ a = Un') := fun a e z => by
      rcases z with z | z | z | z
      · exact hM1 a z e
      · rw [z, h1h] at e; cases e
      · rw [z, h1D] at e; cases e
      · rw [z, h1U] at e; cases e
    have ntM : ¬ (M t ∨ t = h ∨ t = Dn ∨ t = Un') := fun z => by
      rcases z with z | z | z | z
      · exact hM t z ht
      · exact nht z.symm
      · exact nt z
      · exact hUn0.2.2 z.symm
    have nDh : D ≠ h := fun z => by rw [z, h1h] at hD; cases hD
    refine q _ _ fr ⟨fun a z => .inr z, dx, D, Dn, Un', dl ++ [.ref t], [], .inl rfl, .inr (.inl rfl), .inr (.inr rfl), hUn0.2.1.symm, upd_same, toF _ _ nhD.symm nDnZ h1D, toF _ _ nhU.symm nUZ h1U, Nat.le_refl _, ⟨nM D hD, l2, by rw [upd_ne nDh, upd_ne nDZ]; exact hD2, ?_⟩, DnL.snoc ntM (toF _ _ nht.symm ntZ h1t) (hR.keep kf) (hd.keep kf)⟩
    refine RwL.go (fun a o na e _ => ⟨fun y => na ?_, ?_⟩) hl2
    · rcases y with y | y | y | y
      · exact .inl (.inl y)
      · exact .inl (.inl (fs _ (y ▸ f1)))
      · exact .inl (.inl (fs _ (y ▸ f2)))
      · exact .inl (.inr y)
    · rw [upd_ne (fun z : a = h => na (.inl (.inl (fs _ (z ▸ f1))))), upd_ne (fun z : a = Z => na (.inr z))]; exact e
end
/-- the hall as a deed wants it -/
structure HIn (K : PySem.W.Frag) (F M : Addr → Prop) (H : Hp) (h : Addr) (rows : Rows) (done : List Rows) (u : Nat) : Prop where
  at_ : HallAt K F M H h rows done u
  hM : ∀ a, M a → H a ≠ none
  ok : rowsOk rows
  len : rows.length ≤ 50
  dl : done.length < 100000
theorem notZ {M : Addr → Prop} {H : Hp} {Z : Addr} {kvs : List (Key × V)} {x : HO} (eZ : H Z = some (.dK kvs)) : ∀ a o, ¬ M a → H a = some o → Tr o → ¬ M a ∧ (upd H Z x) a = some o := fun a o na e tr => by
  have ne : a ≠ Z := fun z => by
    rw [z, eZ] at e
    cases e
    rcases tr with ⟨_, z⟩ | ⟨_, z⟩ | ⟨_, _, _, z⟩ <;> cases z
  exact ⟨na, by rw [upd_ne ne]; exact e⟩
theorem RwL.drop {K : PySem.W.Frag} {M : Addr → Prop} {H : Hp} {k : Str} {l : List (Str × Addr)} {rows : Rows} (h : RwL K M H l rows) : RwL K M H (adrop l k) (adrop rows k) := RelL.drop (R := fun a ps => PtsA K M H ps a) h
theorem rowsOk_put {rows : Rows} {n : Str} {ps : List Pt} (h : rowsOk rows) (hl : rows.length ≤ 90) (r : RowOk ps) : rowsOk (aput rows n ps) := by
  refine ⟨nd_put _ _ h.1, ?_, fun e he => ?_⟩
  · have := len_put rows n ps; omega
  · rcases mem_put he with z | z
    · exact h.2.2 e z
    · rw [z]; exact r
theorem rowsOk_drop {rows : Rows} {n : Str} (h : rowsOk rows) : rowsOk (adrop rows n) := by
  unfold adrop
  refine ⟨?_, Nat.le_trans (List.length_filter_le _ _) h.2.1, fun e he => h.2.2 e (List.mem_filter.mp he).1⟩
  exact List.Nodup.sublist (List.Sublist.map _ List.filter_sublist) h.1
theorem rowsOk_get {rows : Rows} {n : Str} {ps : List Pt} (h : rowsOk rows) (e : aget rows n = some ps) : RowOk ps := h.2.2 _ (aget_mem e)
section
variable {P : Program} {w : World} {K : PySem.W.Frag} {mg : Str → Option Value} {base : Heap}
def Done (K : PySem.W.Frag) (F M : Addr → Prop) (H : Hp) (h : Addr) (rows : Rows) (done : List Rows) (Q : VK) : Prop := ∀ F2 H', Frame F F2 H H' → HallAt K F2 (fun a => M a ∨ F2 a) H' h (slimR rows) done 0 → Q .non H'
theorem Frame.pre {F F2 : Addr → Prop} {H H1 H' : Hp} (s : Same H H1) (f : Frame F F2 H1 H') : Frame F F2 H H' :=
  ⟨fun a o n e => f.k a o n (s _ _ e), fun a z => (f.n a z).elim .inl fun e => .inr (s.free e), f.h⟩
theorem toKeep {F M : Addr → Prop} {H H1 : Hp} {h Z : Addr} {rows rowsN : Rows} {done : List Rows} {u : Nat} {l : List (Str × Addr)} {dv : V} {Q : VK} (x : HIn K F M H h rows done u) (s : Same H H1) (hZ : H Z = none) (eZ : H1 Z = some (.dK (mkS l))) (hl : RwL K M H1 l rowsN) (ro : rowsOk rowsN)
    (q : Done K F M H h rowsN (done ++ [rows]) Q) : spKeep K [.ref h, dv, .ref Z] H1 Q E0 :=
  ⟨F, M, h, Z, dv, l, rows, rowsN, done, u, rfl, x.at_.same s, fun z => x.hM Z z hZ, eZ, hl, hM_same s x.hM, ro, x.dl, fun F2 H' f hh => q F2 H' (f.pre s) hh⟩
/-- dict(self.s10_rows), one row put -/
theorem rowsDict {F M : Addr → Prop} {H : Hp} {h : Addr} {rows : Rows} {done : List Rows} {u : Nat} (x : HallAt K F M H h rows done u) : ∃ dx R Dn Un l, H h = some (.ins (CH K) dx (fH R Dn Un)) ∧ H R = some (.dK (mkS l)) ∧ RwL K M H l rows := by
  obtain ⟨_, dx, R, Dn, Un, dl, ul, f1, f2, f3, ne, e1, e2, e3, lu, ⟨nR, l, eR, hl⟩, hd⟩ := x
  exact ⟨dx, R, Dn, Un, l, e1, eR, hl⟩
theorem zput {M : Addr → Prop} {H : Hp} {Z a : Addr} {l : List (Str × Addr)} {rows : Rows} {n : Str} {ps : List Pt} (eZ : H Z = some (.dK (mkS l))) (hl : RwL K M H l rows) (hp : PtsA K M H ps a) (hn : (akeys rows).Nodup) : RwL K M (upd H Z (.dK (mkS (aput l n a)))) (aput l n a) (aput rows n ps) :=
  RwL.put (hp.go (notZ eZ)) (by rw [hl.keys]; exact hn) (RwL.go (notZ eZ) hl)
def spBegin (K : PySem.W.Frag) : Sp := fun vs H Q _ => ∃ (F M : Addr → Prop) (h b : Addr) (n : Str) (ps : List Pt) (rows : Rows) (done : List Rows) (u : Nat), vs = [.ref h, .str n, .ref b] ∧ HIn K F M H h rows done u ∧ nmOk n = true ∧ aget rows n = none ∧
  LgIn M H ps b ∧ Done K F M H h (aput rows n (nums ps 0).1) (done ++ [rows]) Q
theorem ok_begin (T : Txt K mg) (B : F1 P w K mg base T) (G_Hall_s10_free : FnOk P w K mg base CX0 3 (He.ma K (He.ga K "Hall") "s10_free") T.fd_Hall_s10_free ["self", "name"] (spFree K))
    (G_Hall_s10_keep : FnOk P w K mg base CX0 23 (He.ma K (He.ga K "Hall") "s10_keep") T.fd_Hall_s10_keep ["self", "deed", "rows"] (spKeep K)) : FnOk P w K mg base CX0 24 (He.ma K (He.ga K "Hall") "begin") T.fd_Hall_begin ["self", "name", "long"] (spBegin K) := by
  have G_parts_of := B.parts_of
  refine T.d_Hall_begin.F.ok sc_Hall_begin (fun vs H Q E h => ?_) (fun cdv A outer s H vs Q E hr h => ⟨_, PSs.nox (pss_cons (ps_expr (pe_meth (pv 0) T.cl_Hall T.m_Hall_s10_free G_Hall_s10_free (hr.mono (by omega)) T.d_Hall_s10_free.b .nil pass0 (pa_cons (pv 1) pa_nil)))
    (pss_cons (ps_set (i := 3) sc_Hall_begin.nd rfl (Or.inl rfl) (pe_call G_parts_of (hr.mono (by omega)) rfl T.g_parts_of T.d_parts_of.F.kp T.d_parts_of.b .nil pass0 (pa_cons (pv 2) pa_nil)))
    (pss_cons (ps_set (i := 4) sc_Hall_begin.nd rfl (Or.inl rfl) (pe_callTy call_dictN (by rfl) T.z_dict bt_dict (pa_cons (pe_fld (pv 0) rfl) pa_nil)))
    (pss_cons (ps_dput (hu_of hr) (pv 4) (pv 1) (pv 3) rfl)
    (pss_one (ps_expr (pe_meth (pv 0) T.cl_Hall T.m_Hall_s10_keep G_Hall_s10_keep (hr.mono (by omega)) T.d_Hall_s10_keep.b .nil pass0 (pa_cons (pe_tup (pa_cons pe_str (pa_cons (pv 1) (pa_cons (pv 3) pa_nil)))) (pa_cons (pv 4) pa_nil))))))))), ?_⟩)
  · obtain ⟨F, M, h, b, n, ps, rows, done, u, rfl, _⟩ := h; rfl
  obtain ⟨F, M, h, b, n, ps, rows, done, u, rfl, hh, hn, hg, ⟨hb, hM, ho, hd, hw, ht⟩, q⟩ := h
  obtain ⟨dx, R, Dn, Un, l, e1, eR, hl⟩ := rowsDict hh.at_
  walk_at "rd"
  refine p_meth e1 (by rfl) ?_
  walk_at "rd"
  refine ⟨F, M, h, n, rows, done, u, rfl, hh.at_, hn, hg, fun H1 s1 => ?_⟩
  walk_at "rd"
  refine ⟨M, b, ps, rfl, hb.to (Keep.same s1), hM_same s1 hM, ho, hd, by omega, ht, fun q2 H2 s2 hq => ?_⟩
  have s12 := s1.trans s2
  walk_at "rd"
  refine p_fld (s12 _ _ e1) T.cl_Hall T.n_Hall_s10_rows (fH_rows _ _ _) ?_
  walk_at "rd"
  refine r_dictOf (s12 _ _ eR) fun Z hZ => ?_
  have s3 : Same H2 (upd H2 Z (.dK (mkS l))) := same_upd hZ
  walk_at "rd"
  have ll := hl.len
  have hll := hh.len
  refine p_dput (k := .inr n) upd_same rfl (by rw [mkD_len]; exact szl (by omega)) ?_
  rw [mkD_put inr_inj]
  have hZ0 : H Z = none := s12.free hZ
  have s4 : Same H (upd (upd H2 Z (.dK (mkS l))) Z (.dK (mkS (aput l n q2)))) := (s12.trans s3).wr hZ0
  have r4 := zput (K := K) (M := M) (n := n) (upd_same : (upd H2 Z (.dK (mkS l))) Z = _) (RwL.keep (Keep.same (s12.trans s3)) hl) (hq.to (Keep.same s3)) hh.ok.1
  walk_at "rd"
  refine p_meth (s4 _ _ e1) (by rfl) ?_
  walk_at "rd"
  refine p_new (sz (by show 3 ≤ _; decide)) fun t ht2 => ?_
  walk_at "rd"
  have s5 : Same (upd (upd H2 Z (.dK (mkS l))) Z (.dK (mkS (aput l n q2)))) (upd (upd (upd H2 Z (.dK (mkS l))) Z (.dK (mkS (aput l n q2)))) t (.tup [.str "begin", .str n, .ref q2])) := same_upd ht2
  exact toKeep hh (s4.trans s5) hZ0 (s5 _ _ upd_same) (RwL.keep (Keep.same s5) r4) (rowsOk_put hh.ok (by omega) ⟨(oks_nums ps 0).mpr ho, by rw [dps_nums]; exact hd, by rw [wts_nums]; omega⟩) q
def spTurn (K : PySem.W.Frag) : Sp := fun vs H Q _ => ∃ (F M : Addr → Prop) (h : Addr) (n : Str) (ps : List Pt) (rows : Rows) (done : List Rows) (u : Nat), vs = [.ref h, .str n] ∧ HIn K F M H h rows done u ∧ nmOk n = true ∧ aget rows n = some ps ∧
  Done K F M H h (aput rows n (abs_ ps)) (done ++ [rows]) Q
theorem ok_turn_about (T : Txt K mg) (B : F1 P w K mg base T) (G_Hall_s10_parts : FnOk P w K mg base CX0 3 (He.ma K (He.ga K "Hall") "s10_parts") T.fd_Hall_s10_parts ["self", "name"] (spParts K))
    (G_Hall_s10_keep : FnOk P w K mg base CX0 23 (He.ma K (He.ga K "Hall") "s10_keep") T.fd_Hall_s10_keep ["self", "deed", "rows"] (spKeep K)) : FnOk P w K mg base CX0 24 (He.ma K (He.ga K "Hall") "turn_about") T.fd_Hall_turn_about ["self", "name"] (spTurn K) := by
  have G_about := B.about
  refine T.d_Hall_turn_about.F.ok sc_Hall_turn_about (fun vs H Q E h => ?_) (fun cdv A outer s H vs Q E hr h => ⟨_, PSs.nox (pss_cons (ps_set (i := 2) sc_Hall_turn_about.nd rfl (Or.inl rfl) (pe_meth (pv 0) T.cl_Hall T.m_Hall_s10_parts G_Hall_s10_parts (hr.mono (by omega)) T.d_Hall_s10_parts.b .nil pass0 (pa_cons (pv 1) pa_nil)))
    (pss_cons (ps_set (i := 3) sc_Hall_turn_about.nd rfl (Or.inl rfl) (pe_callTy call_dictN (by rfl) T.z_dict bt_dict (pa_cons (pe_fld (pv 0) rfl) pa_nil)))
    (pss_cons (ps_dput (hu_of hr) (pv 3) (pv 1) (pe_call G_about (hr.mono (by omega)) rfl T.g_about T.d_about.F.kp T.d_about.b .nil pass0 (pa_cons (pv 2) pa_nil)) rfl)
    (pss_one (ps_expr (pe_meth (pv 0) T.cl_Hall T.m_Hall_s10_keep G_Hall_s10_keep (hr.mono (by omega)) T.d_Hall_s10_keep.b .nil pass0 (pa_cons (pe_tup (pa_cons pe_str (pa_cons (pv 1) pa_nil))) (pa_cons (pv 3) pa_nil)))))))), ?_⟩)
  · obtain ⟨F, M, h, n, ps, rows, done, u, rfl, _⟩ := h; rfl
  obtain ⟨F, M, h, n, ps, rows, done, u, rfl, hh, hn, hg, q⟩ := h
  obtain ⟨dx, R, Dn, Un, l, e1, eR, hl⟩ := rowsDict hh.at_
  have rk := rowsOk_get hh.ok hg
  walk_at "rd"
  refine p_meth e1 (by rfl) ?_
  walk_at "rd"
  refine ⟨F, M, h, n, rows, done, u, ps, rfl, hh.at_, hn, hg, fun q1 H1 s1 hq1 => ?_⟩
  walk_at "rd"
  refine p_fld (s1 _ _ e1) T.cl_Hall T.n_Hall_s10_rows (fH_rows _ _ _) ?_
  walk_at "rd"
  refine r_dictOf (s1 _ _ eR) fun Z hZ => ?_
  have s3 : Same H1 (upd H1 Z (.dK (mkS l))) := same_upd hZ
  have hZ0 : H Z = none := s1.free hZ
  walk_at "rd"
  refine ⟨M, q1, ps, rfl, ⟨hq1.to (Keep.same s3), hM_same (s1.trans s3) hh.hM, rk.ok, rk.dp, by have := rk.w; omega⟩, fun q2 H2 s2 hq => ?_⟩
  walk_at "rd"
  have ll := hl.len
  have hll := hh.len
  have eZ2 : H2 Z = some (.dK (mkS l)) := s2 _ _ upd_same
  have s123 := s1.trans (s3.trans s2)
  refine p_dput (k := .inr n) eZ2 rfl (by rw [mkD_len]; exact szl (by omega)) ?_
  rw [mkD_put inr_inj]
  have s4 : Same H (upd H2 Z (.dK (mkS (aput l n q2)))) := s123.wr hZ0
  have r4 := zput (K := K) (M := M) (n := n) eZ2 (RwL.keep (Keep.same s123) hl) hq hh.ok.1
  walk_at "rd"
  refine p_meth (s4 _ _ e1) (by rfl) ?_
  walk_at "rd"
  refine p_new (sz (by show 2 ≤ _; decide)) fun t ht2 => ?_
  walk_at "rd"
  have s5 : Same (upd H2 Z (.dK (mkS (aput l n q2)))) (upd (upd H2 Z (.dK (mkS (aput l n q2)))) t (.tup [.str "turn_about", .str n])) := same_upd ht2
  exact toKeep hh (s4.trans s5) hZ0 (s5 _ _ upd_same) (RwL.keep (Keep.same s5) r4) (rowsOk_put hh.ok (by omega) ⟨(oks_ab ps).mpr rk.ok, by rw [dps_ab]; exact rk.dp, by rw [wts_ab]; exact rk.w⟩) q
end
section
variable {P : Program} {w : World} {K : PySem.W.Frag} {mg : Str → Option Value} {base : Heap}
def spSayOver (K : PySem.W.Frag) : Sp := fun vs H Q _ => ∃ (F M : Addr → Prop) (h : Addr) (n : Str) (m : Int) (ps : List Pt) (rows : Rows) (done : List Rows) (u : Nat), vs = [.ref h, .str n, .int m] ∧ HIn K F M H h rows done u ∧ nmOk n = true ∧ aget rows n = some ps ∧
  0 ≤ m ∧ m ≤ BB ∧ manys ps ≤ TOP ∧ manys ps * m ≤ TOP ∧ isSl ps ∧ dps ps < 7 ∧ wts ps ≤ 500000 ∧ Done K F M H h (aput rows n (ovo ps m)) (done ++ [rows]) Q
theorem ok_say_over (T : Txt K mg) (B : F1 P w K mg base T) (G_need_few : FnOk P w K mg base CX0 1 (He.ga K "need_few") T.fd_need_few ["many"] spNeedFew) (G_Hall_s10_parts : FnOk P w K mg base CX0 3 (He.ma K (He.ga K "Hall") "s10_parts") T.fd_Hall_s10_parts ["self", "name"] (spParts K))
    (G_Hall_s10_keep : FnOk P w K mg base CX0 23 (He.ma K (He.ga K "Hall") "s10_keep") T.fd_Hall_s10_keep ["self", "deed", "rows"] (spKeep K)) : FnOk P w K mg base CX0 24 (He.ma K (He.ga K "Hall") "say_over") T.fd_Hall_say_over ["self", "name", "many"] (spSayOver K) := by
  have G_over_and_over := B.ovo
  have G_need_number := B.need_number
  have G_laid_many := B.laid_many
  refine T.d_Hall_say_over.F.ok sc_Hall_say_over (fun vs H Q E h => ?_) (fun cdv A outer s H vs Q E hr h => ⟨_, PSs.nox (pss_cons (ps_set (i := 3) sc_Hall_say_over.nd rfl (Or.inl rfl) (pe_meth (pv 0) T.cl_Hall T.m_Hall_s10_parts G_Hall_s10_parts (hr.mono (by omega)) T.d_Hall_s10_parts.b .nil pass0 (pa_cons (pv 1) pa_nil)))
    (pss_cons (ps_expr (pe_call G_need_number (hr.mono (by omega)) rfl T.g_need_number T.d_need_number.F.kp T.d_need_number.b .nil pass0 (pa_cons (pv 2) pa_nil)))
    (pss_cons (ps_expr (pe_call G_need_few (hr.mono (by omega)) rfl T.g_need_few T.d_need_few.F.kp T.d_need_few.b .nil pass0 (pa_cons (pe_op op_mulW (pe_call G_laid_many (hr.mono (by omega)) rfl T.g_laid_many T.d_laid_many.F.kp T.d_laid_many.b .nil pass0 (pa_cons (pv 3) pa_nil)) (pv 2)) pa_nil)))
    (pss_cons (ps_set (i := 4) sc_Hall_say_over.nd rfl (Or.inl rfl) (pe_callTy call_dictN (by rfl) T.z_dict bt_dict (pa_cons (pe_fld (pv 0) rfl) pa_nil)))
    (pss_cons (ps_dput (hu_of hr) (pv 4) (pv 1) (pe_call G_over_and_over (hr.mono (by omega)) rfl T.g_over_and_over T.d_over_and_over.F.kp T.d_over_and_over.b .nil pass0 (pa_cons (pv 3) (pa_cons (pv 2) pa_nil))) rfl)
    (pss_one (ps_expr (pe_meth (pv 0) T.cl_Hall T.m_Hall_s10_keep G_Hall_s10_keep (hr.mono (by omega)) T.d_Hall_s10_keep.b .nil pass0 (pa_cons (pe_tup (pa_cons pe_str (pa_cons (pv 1) (pa_cons (pv 2) pa_nil)))) (pa_cons (pv 4) pa_nil)))))))))), ?_⟩)
  · obtain ⟨F, M, h, n, m, ps, rows, done, u, rfl, _⟩ := h; rfl
  obtain ⟨F, M, h, n, m, ps, rows, done, u, rfl, hh, hn, hg, m0, mB, tp, tm, sl, d7, w5, q⟩ := h
  obtain ⟨dx, R, Dn, Un, l, e1, eR, hl⟩ := rowsDict hh.at_
  have rk := rowsOk_get hh.ok hg
  have tb := top_bb
  have mn := manys_nn ps rk.ok
  walk_at "rd"
  refine p_meth e1 (by rfl) ?_
  walk_at "rd"
  refine ⟨F, M, h, n, rows, done, u, ps, rfl, hh.at_, hn, hg, fun q1 H1 s1 hq1 => ?_⟩
  walk_at "rd"
  refine ⟨m, rfl, m0, ?_⟩
  walk_at "rd"
  refine ⟨M, q1, ps, rfl, hq1, by omega, fun H1' s1' => ?_⟩
  have s11 := s1.trans s1'
  walk_at "rd"
  refine r_mul (mid_mul (mid_of mn (by omega)) (mid_of m0 mB)) ?_
  walk_at "rd"
  refine ⟨_, rfl, tm, ?_⟩
  walk_at "rd"
  refine p_fld (s11 _ _ e1) T.cl_Hall T.n_Hall_s10_rows (fH_rows _ _ _) ?_
  walk_at "rd"
  refine r_dictOf (s11 _ _ eR) fun Z hZ => ?_
  have s3 : Same H1' (upd H1' Z (.dK (mkS l))) := same_upd hZ
  have hZ0 : H Z = none := s11.free hZ
  walk_at "rd"
  refine ⟨M, q1, ps, m, rfl, ⟨(hq1.to (Keep.same s1')).to (Keep.same s3), hM_same (s11.trans s3) hh.hM, rk.ok, d7, by omega⟩, by omega, sl, m0, mB, by omega, by omega, fun q2 H2 s2 hq => ?_⟩
  have of := ovo_facts rk.ok sl m0 mB (by omega) (by omega)
  walk_at "rd"
  have ll := hl.len
  have hll := hh.len
  have eZ2 : H2 Z = some (.dK (mkS l)) := s2 _ _ upd_same
  have s123 := s11.trans (s3.trans s2)
  refine p_dput (k := .inr n) eZ2 rfl (by rw [mkD_len]; exact szl (by omega)) ?_
  rw [mkD_put inr_inj]
  have s4 : Same H (upd H2 Z (.dK (mkS (aput l n q2)))) := s123.wr hZ0
  have r4 := zput (K := K) (M := M) (n := n) eZ2 (RwL.keep (Keep.same s123) hl) hq hh.ok.1
  walk_at "rd"
  refine p_meth (s4 _ _ e1) (by rfl) ?_
  walk_at "rd"
  refine p_new (sz (by show 3 ≤ _; decide)) fun t ht2 => ?_
  walk_at "rd"
  have s5 : Same (upd H2 Z (.dK (mkS (aput l n q2)))) (upd (upd H2 Z (.dK (mkS (aput l n q2)))) t (.tup [.str "say_over", .str n, .int m])) := same_upd ht2
  exact toKeep hh (s4.trans s5) hZ0 (s5 _ _ upd_same) (RwL.keep (Keep.same s5) r4) (rowsOk_put hh.ok (by omega) ⟨of.2.1, by omega, by omega⟩) q
def spStepIn (K : PySem.W.Frag) : Sp := fun vs H Q _ => ∃ (F M : Addr → Prop) (h p : Addr) (n : Str) (x : Int) (s : Sg) (ps : List Pt) (rows : Rows) (done : List Rows) (u : Nat), vs = [.ref h, .str n, .int x, .ref p] ∧ HIn K F M H h rows done u ∧ nmOk n = true ∧ aget rows n = some ps ∧
  0 ≤ x ∧ x ≤ manys ps ∧ manys ps + 1 ≤ TOP ∧ wts ps ≤ 500000 ∧ H p = some (.tup (sgV s)) ∧ ¬ M p ∧ sgOk s ∧ Done K F M H h (aput rows n (hds ps x ++ [.spot s 0] ++ tls ps x)) (done ++ [rows]) Q
theorem ok_step_in (T : Txt K mg) (B : F1 P w K mg base T) (G_need_few : FnOk P w K mg base CX0 1 (He.ga K "need_few") T.fd_need_few ["many"] spNeedFew) (G_Hall_s10_parts : FnOk P w K mg base CX0 3 (He.ma K (He.ga K "Hall") "s10_parts") T.fd_Hall_s10_parts ["self", "name"] (spParts K))
    (G_Hall_s10_keep : FnOk P w K mg base CX0 23 (He.ma K (He.ga K "Hall") "s10_keep") T.fd_Hall_s10_keep ["self", "deed", "rows"] (spKeep K)) : FnOk P w K mg base CX0 24 (He.ma K (He.ga K "Hall") "step_in") T.fd_Hall_step_in ["self", "name", "place", "saying"] (spStepIn K) := by
  have G_head := B.head
  have G_tail := B.tail
  have G_need_place := B.need_place
  have G_need_saying := B.need_saying
  have G_laid_many := B.laid_many
  have G_Spot__init := B.spot_init
  refine T.d_Hall_step_in.F.ok sc_Hall_step_in (fun vs H Q E h => ?_) (fun cdv A outer s H vs Q E hr h => ⟨_, PSs.nox (pss_cons (ps_set (i := 4) sc_Hall_step_in.nd rfl (Or.inl rfl) (pe_meth (pv 0) T.cl_Hall T.m_Hall_s10_parts G_Hall_s10_parts (hr.mono (by omega)) T.d_Hall_s10_parts.b .nil pass0 (pa_cons (pv 1) pa_nil)))
    (pss_cons (ps_expr (pe_call G_need_place (hr.mono (by omega)) rfl T.g_need_place T.d_need_place.F.kp T.d_need_place.b .nil pass0 (pa_cons (pv 2) (pa_cons (pe_call G_laid_many (hr.mono (by omega)) rfl T.g_laid_many T.d_laid_many.F.kp T.d_laid_many.b .nil pass0 (pa_cons (pv 4) pa_nil)) pa_nil))))
    (pss_cons (ps_expr (pe_call G_need_saying (hr.mono (by omega)) rfl T.g_need_saying T.d_need_saying.F.kp T.d_need_saying.b .nil pass0 (pa_cons (pv 3) pa_nil)))
    (pss_cons (ps_expr (pe_call G_need_few (hr.mono (by omega)) rfl T.g_need_few T.d_need_few.F.kp T.d_need_few.b .nil pass0 (pa_cons (pe_op op_add (pe_call G_laid_many (hr.mono (by omega)) rfl T.g_laid_many T.d_laid_many.F.kp T.d_laid_many.b .nil pass0 (pa_cons (pv 4) pa_nil)) pe_int) pa_nil)))
    (pss_cons (ps_set (i := 5) sc_Hall_step_in.nd rfl (Or.inl rfl) (pe_callTy call_dictN (by rfl) T.z_dict bt_dict (pa_cons (pe_fld (pv 0) rfl) pa_nil)))
    (pss_cons (ps_dput (hu_of hr) (pv 5) (pv 1) (pe_op op_cat (pe_op op_cat (pe_call G_head (hr.mono (by omega)) rfl T.g_head T.d_head.F.kp T.d_head.b .nil pass0 (pa_cons (pv 4) (pa_cons (pv 2) pa_nil))) (pe_lst (pa_cons (pe_make T.mk_Spot G_Spot__init (hr.mono (by omega)) rfl T.g_Spot T.d_Spot__init.b .nil pass0 (pa_cons (pv 3) (pa_cons pe_int pa_nil))) pa_nil))) (pe_call G_tail (hr.mono (by omega)) rfl T.g_tail T.d_tail.F.kp T.d_tail.b .nil pass0 (pa_cons (pv 4) (pa_cons (pv 2) pa_nil)))) rfl)
    (pss_one (ps_expr (pe_meth (pv 0) T.cl_Hall T.m_Hall_s10_keep G_Hall_s10_keep (hr.mono (by omega)) T.d_Hall_s10_keep.b .nil pass0 (pa_cons (pe_tup (pa_cons pe_str (pa_cons (pv 1) (pa_cons (pv 2) (pa_cons (pv 3) pa_nil))))) (pa_cons (pv 5) pa_nil))))))))))), ?_⟩)
  · obtain ⟨F, M, h, p, n, x, sg, ps, rows, done, u, rfl, _⟩ := h; rfl
  obtain ⟨F, M, h, p, n, x, sg, ps, rows, done, u, rfl, hh, hn, hg, x0, x1, tm, w5, ep, np, so, q⟩ := h
  obtain ⟨dx, R, Dn, Un, l, e1, eR, hl⟩ := rowsDict hh.at_
  have rk := rowsOk_get hh.ok hg
  have tb := top_bb
  have mn := manys_nn ps rk.ok
  have cf := cuts ps x rk.ok x0 x1
  have cw := cf.w
  have cd1 := cf.d1
  have cd2 := cf.d2
  have cl := cut_len rk.ok (by omega) x0 x1
  have lh := len_le_wts (hds ps x)
  have lt := len_le_wts (tls ps x)
  walk_at "rd"
  refine p_meth e1 (by rfl) ?_
  walk_at "rd"
  refine ⟨F, M, h, n, rows, done, u, ps, rfl, hh.at_, hn, hg, fun q1 H1 s1 hq1 => ?_⟩
  walk_at "rd"
  refine ⟨M, q1, ps, rfl, hq1, by omega, fun H1a s1a => ?_⟩
  walk_at "rd"
  refine ⟨x, _, rfl, x0, x1, ?_⟩
  walk_at "rd"
  refine ⟨p, sg, rfl, s1a _ _ (s1 _ _ ep), so, ?_⟩
  walk_at "rd"
  refine ⟨M, q1, ps, rfl, hq1.to (Keep.same s1a), by omega, fun H1' s1b => ?_⟩
  have s1' := s1a.trans s1b
  have s11 := s1.trans s1'
  walk_at "rd"
  refine ⟨_, rfl, tm, ?_⟩
  walk_at "rd"
  refine p_fld (s11 _ _ e1) T.cl_Hall T.n_Hall_s10_rows (fH_rows _ _ _) ?_
  walk_at "rd"
  refine r_dictOf (s11 _ _ eR) fun Z hZ => ?_
  have s3 : Same H1' (upd H1' Z (.dK (mkS l))) := same_upd hZ
  have hZ0 : H Z = none := s11.free hZ
  have s13 := s11.trans s3
  have hq3 := (hq1.to (Keep.same s1')).to (Keep.same s3)
  walk_at "rd"
  refine ⟨M, q1, ps, x, rfl, ⟨hq3, hM_same s13 hh.hM, rk.ok, rk.dp, by omega⟩, x0, x1, by omega, fun qa Ha sa ⟨na, va, eva, hva⟩ => ?_⟩
  walk_at "rd"
  have s1a' := s13.trans sa
  refine make_spot (M := M) (s := sg) (s1a' _ _ ep) np (fun y Hy ny sy hsy => ?_) (hM_same s1a' hh.hM)
  walk_at "rd"
  refine p_new (sz (by show 1 ≤ _; decide)) fun ls hls => ?_
  have s6 : Same Hy (upd Hy ls (.lst [.ref y])) := same_upd hls
  walk_at "rd"
  refine ⟨qa, ls, va, [.ref y], rfl, rfl, s6 _ _ (sy _ _ eva), upd_same, sz (by have := hva.len; simp only [List.length_singleton]; omega), fun lc hlc => ?_⟩
  have s7 : Same (upd Hy ls (.lst [.ref y])) (upd (upd Hy ls (.lst [.ref y])) lc (.lst (va ++ [.ref y]))) := same_upd hlc
  have s17 := s1a'.trans (sy.trans (s6.trans s7))
  have sa7 := sa.trans (sy.trans (s6.trans s7))
  walk_at "rd"
  refine ⟨M, q1, ps, x, rfl, ⟨hq3.to (Keep.same sa7), hM_same s17 hh.hM, rk.ok, rk.dp, by omega⟩, x0, x1, by omega, fun qb Hb sb ⟨nb, vb, evb, hvb⟩ => ?_⟩
  refine ⟨lc, qb, va ++ [.ref y], vb, rfl, rfl, sb _ _ upd_same, evb, sz (by have := hva.len; have := hvb.len; rw [List.length_append, List.length_singleton]; omega), fun q2 hq2 => ?_⟩
  have s8 : Same Hb (upd Hb q2 (.lst (va ++ [.ref y] ++ vb))) := same_upd hq2
  have s18 := s17.trans (sb.trans s8)
  have hq : PtsA K M (upd Hb q2 (.lst (va ++ [.ref y] ++ vb))) (hds ps x ++ [.spot sg 0] ++ tls ps x) q2 := by
    refine ⟨fun z => hh.hM q2 z ((s17.trans sb).free hq2), _, upd_same, PtLA.app _ _ _ _ (PtLA.app _ _ _ _ ?_ (PtLA.one ?_)) (hvb.to (Keep.same s8))⟩
    · exact hva.to (Keep.same (sy.trans (s6.trans (s7.trans (sb.trans s8)))))
    · exact hsy.to (Keep.same (s6.trans (s7.trans (sb.trans s8))))
  walk_at "rd"
  have ll := hl.len
  have hll := hh.len
  have eZ2 : (upd Hb q2 (.lst (va ++ [.ref y] ++ vb))) Z = some (.dK (mkS l)) := (sa7.trans (sb.trans s8)) _ _ upd_same
  refine p_dput (k := .inr n) eZ2 rfl (by rw [mkD_len]; exact szl (by omega)) ?_
  rw [mkD_put inr_inj]
  have s4 := s18.wr (o := .dK (mkS (aput l n q2))) hZ0
  have r4 := zput (K := K) (M := M) (n := n) eZ2 (RwL.keep (Keep.same s18) hl) hq hh.ok.1
  walk_at "rd"
  refine p_meth (s4 _ _ e1) (by rfl) ?_
  walk_at "rd"
  refine p_new (sz (by show 4 ≤ _; decide)) fun t ht2 => ?_
  walk_at "rd"
  have s5 : Same (upd (upd Hb q2 (.lst (va ++ [.ref y] ++ vb))) Z (.dK (mkS (aput l n q2)))) (upd (upd (upd Hb q2 (.lst (va ++ [.ref y] ++ vb))) Z (.dK (mkS (aput l n q2)))) t (.tup [.str "step_in", .str n, .int x, .ref p])) := same_upd ht2
  refine toKeep hh (s4.trans s5) hZ0 (s5 _ _ upd_same) (RwL.keep (Keep.same s5) r4) (rowsOk_put hh.ok (by omega) ⟨?_, ?_, ?_⟩) q
  · rw [oks_app, oks_app, oks_one, Pt.ok]
    exact ⟨⟨cf.o1, so⟩, cf.o2⟩
  · have := rk.dp
    rw [dps_app, dps_app, dps_one, Pt.dp]
    omega
  · rw [wts_app, wts_app, wts_one, Pt.wt]
    omega
end
section
variable {P : Program} {w : World} {K : PySem.W.Frag} {mg : Str → Option Value} {base : Heap}
def pPar (i j : Nat) (n : L2.St → Hp → Prop) (σ : L2.St) (vs : List V) (H : Hp) : Prop := ∃ v w, vs = [v, w] ∧ n ((σ.set i (some v)).set j (some w)) H
theorem r_par {i j : Nat} {ta : TA} {σ : L2.St} {H : Hp} {n b c : L2.St → Hp → Prop} {r : VK} (k : ta σ H fun vs H1 => pPar i j n σ vs H1) : tPar i j ta ⟨n, r, b, c⟩ σ H := k
def spJoin (K : PySem.W.Frag) : Sp := fun vs H Q _ => ∃ (F M : Addr → Prop) (h : Addr) (n o : Str) (ps qs : List Pt) (rows : Rows) (done : List Rows) (u : Nat), vs = [.ref h, .str n, .str o] ∧ HIn K F M H h rows done u ∧ nmOk n = true ∧ nmOk o = true ∧ n ≠ o ∧ aget rows n = some ps ∧ aget rows o = some qs ∧
  manys ps + manys qs ≤ TOP ∧ wts ps + wts qs ≤ 1600000 ∧ Done K F M H h (adrop (aput rows n (ps ++ qs)) o) (done ++ [rows]) Q
theorem ok_join_to (T : Txt K mg) (B : F1 P w K mg base T) (G_need_few : FnOk P w K mg base CX0 1 (He.ga K "need_few") T.fd_need_few ["many"] spNeedFew) (G_Hall_s10_parts : FnOk P w K mg base CX0 3 (He.ma K (He.ga K "Hall") "s10_parts") T.fd_Hall_s10_parts ["self", "name"] (spParts K))
    (G_Hall_s10_keep : FnOk P w K mg base CX0 23 (He.ma K (He.ga K "Hall") "s10_keep") T.fd_Hall_s10_keep ["self", "deed", "rows"] (spKeep K)) : FnOk P w K mg base CX0 24 (He.ma K (He.ga K "Hall") "join_to") T.fd_Hall_join_to ["self", "name", "other"] (spJoin K) := by
  have G_laid_many := B.laid_many
  refine T.d_Hall_join_to.F.ok sc_Hall_join_to (fun vs H Q E h => ?_) (fun cdv A outer s H vs Q E hr h => ⟨_, PSs.nox (pss_cons (ps_par (i := 3) (j := 4) (by rfl) sc_Hall_join_to.nd rfl rfl (by decide) rfl rfl (pa_cons (pe_meth (pv 0) T.cl_Hall T.m_Hall_s10_parts G_Hall_s10_parts (hr.mono (by omega)) T.d_Hall_s10_parts.b .nil pass0 (pa_cons (pv 1) pa_nil)) (pa_cons (pe_meth (pv 0) T.cl_Hall T.m_Hall_s10_parts G_Hall_s10_parts (hr.mono (by omega)) T.d_Hall_s10_parts.b .nil pass0 (pa_cons (pv 2) pa_nil)) pa_nil)) (by rfl))
    (pss_cons (ps_if (pt_cmpR op_eq (pv 1) (pv 2) (nomark _)) (pss_one ps_never) pss_nil)
    (pss_cons (ps_expr (pe_call G_need_few (hr.mono (by omega)) rfl T.g_need_few T.d_need_few.F.kp T.d_need_few.b .nil pass0 (pa_cons (pe_op op_add (pe_call G_laid_many (hr.mono (by omega)) rfl T.g_laid_many T.d_laid_many.F.kp T.d_laid_many.b .nil pass0 (pa_cons (pv 3) pa_nil)) (pe_call G_laid_many (hr.mono (by omega)) rfl T.g_laid_many T.d_laid_many.F.kp T.d_laid_many.b .nil pass0 (pa_cons (pv 4) pa_nil))) pa_nil)))
    (pss_cons (ps_set (i := 5) sc_Hall_join_to.nd rfl (Or.inl rfl) (pe_callTy call_dictN (by rfl) T.z_dict bt_dict (pa_cons (pe_fld (pv 0) rfl) pa_nil)))
    (pss_cons (ps_dput (hu_of hr) (pv 5) (pv 1) (pe_op op_cat (pv 3) (pv 4)) rfl)
    (pss_cons (ps_expr (pe_dpop1 (pv 5) (pv 2) ⟨rfl, rfl, rfl, rfl⟩))
    (pss_one (ps_expr (pe_meth (pv 0) T.cl_Hall T.m_Hall_s10_keep G_Hall_s10_keep (hr.mono (by omega)) T.d_Hall_s10_keep.b .nil pass0 (pa_cons (pe_tup (pa_cons pe_str (pa_cons (pv 1) (pa_cons (pv 2) pa_nil)))) (pa_cons (pv 5) pa_nil))))))))))), ?_⟩)
  · obtain ⟨F, M, h, n, o, ps, qs, rows, done, u, rfl, _⟩ := h; rfl
  obtain ⟨F, M, h, n, o, ps, qs, rows, done, u, rfl, hh, hn, ho, nno, hg, hg2, tm, w5, q⟩ := h
  obtain ⟨dx, R, Dn, Un, l, e1, eR, hl⟩ := rowsDict hh.at_
  have rk := rowsOk_get hh.ok hg
  have rk2 := rowsOk_get hh.ok hg2
  have lp := len_le_wts ps
  have lq := len_le_wts qs
  walk_at "rd"
  refine r_par ?_
  walk_at "rd"
  refine p_meth e1 (by rfl) ?_
  walk_at "rd"
  refine ⟨F, M, h, n, rows, done, u, ps, rfl, hh.at_, hn, hg, fun q1 H1 s1 hq1 => ?_⟩
  walk_at "rd"
  refine p_meth (s1 _ _ e1) (by rfl) ?_
  walk_at "rd"
  refine ⟨F, M, h, o, rows, done, u, qs, rfl, hh.at_.same s1, ho, hg2, fun q2 H2 s2 hq2 => ?_⟩
  walk_at "rd"
  refine ⟨_, _, rfl, ?_⟩
  have hq1' := hq1.to (Keep.same s2)
  walk_at "rd"
  refine r_eq rfl ?_
  refine p_bl ?_
  refine ite_f (fun z => nno (V.str.inj z)) ?_
  walk_at "rd"
  refine ⟨M, q1, ps, rfl, hq1', by have := rk.w; omega, fun H3 s3 => ?_⟩
  walk_at "rd"
  refine ⟨M, q2, qs, rfl, hq2.to (Keep.same s3), by have := rk2.w; omega, fun H4 s4 => ?_⟩
  walk_at "rd"
  refine ⟨_, rfl, tm, ?_⟩
  have s14 := s1.trans (s2.trans (s3.trans s4))
  walk_at "rd"
  refine p_fld (s14 _ _ e1) T.cl_Hall T.n_Hall_s10_rows (fH_rows _ _ _) ?_
  walk_at "rd"
  refine r_dictOf (s14 _ _ eR) fun Z hZ => ?_
  have s5 : Same H4 (upd H4 Z (.dK (mkS l))) := same_upd hZ
  have hZ0 : H Z = none := s14.free hZ
  obtain ⟨n1, v1, ev1, hv1⟩ := hq1'.to (Keep.same (s3.trans (s4.trans s5)))
  obtain ⟨n2, v2, ev2, hv2⟩ := hq2.to (Keep.same (s3.trans (s4.trans s5)))
  walk_at "rd"
  refine ⟨q1, q2, v1, v2, rfl, rfl, ev1, ev2, sz (by have := hv1.len; have := hv2.len; omega), fun lc hlc => ?_⟩
  have s6 := same_upd (o := .lst (v1 ++ v2)) hlc
  have s16 := s14.trans (s5.trans s6)
  have hq : PtsA K M (upd (upd H4 Z (.dK (mkS l))) lc (.lst (v1 ++ v2))) (ps ++ qs) lc := ⟨fun z => hh.hM lc z ((s14.trans s5).free hlc), _, upd_same, PtLA.app _ _ _ _ (hv1.to (Keep.same s6)) (hv2.to (Keep.same s6))⟩
  walk_at "rd"
  have ll := hl.len
  have hll := hh.len
  have eZ2 : (upd (upd H4 Z (.dK (mkS l))) lc (.lst (v1 ++ v2))) Z = some (.dK (mkS l)) := s6 _ _ upd_same
  refine p_dput (k := .inr n) eZ2 rfl (by rw [mkD_len]; exact szl (by omega)) ?_
  rw [mkD_put inr_inj]
  have r4 := zput (K := K) (M := M) (n := n) eZ2 (RwL.keep (Keep.same s16) hl) hq hh.ok.1
  have s7 := s16.wr (o := .dK (mkS (aput l n lc))) hZ0
  have ro1 : rowsOk (aput rows n (ps ++ qs)) := rowsOk_put hh.ok (by omega) ⟨(oks_app _ _).mpr ⟨rk.ok, rk2.ok⟩, by have := rk.dp; have := rk2.dp; rw [dps_app]; omega, by rw [wts_app]; omega⟩
  have hgo : ∃ b, aget (aput l n lc) o = some b := by
    have e : (aget (aput l n lc) o).isSome = true := by
      rw [aget_key, mem_keys_put, hl.keys]
      exact .inl (aget_key.mp (by rw [hg2]; rfl))
    exact Option.isSome_iff_exists.mp e
  obtain ⟨b, hb⟩ := hgo
  walk_at "rd"
  refine p_isD upd_same ?_
  walk_at "rd"
  refine ⟨Z, _, .inr o, .ref b, rfl, upd_same, rfl, by rw [mkD_val inr_inj, hb]; rfl, ?_⟩
  rw [mkD_drop inr_inj]
  have r5 := RwL.drop (k := o) (RwL.go (notZ (x := .dK (mkS (adrop (aput l n lc) o))) (upd_same : (upd (upd (upd H4 Z (.dK (mkS l))) lc (.lst (v1 ++ v2))) Z (.dK (mkS (aput l n lc)))) Z = _)) r4)
  have s8 := s7.wr (o := .dK (mkS (adrop (aput l n lc) o))) hZ0
  walk_at "rd"
  refine p_meth (s8 _ _ e1) (by rfl) ?_
  walk_at "rd"
  refine p_new (sz (by show 3 ≤ _; decide)) fun t ht3 => ?_
  walk_at "rd"
  have s9 := same_upd (o := .tup [.str "join_to", .str n, .str o]) ht3
  exact toKeep hh (s8.trans s9) hZ0 (s9 _ _ upd_same) (RwL.keep (Keep.same s9) r5) (rowsOk_drop ro1) q
def spCut (K : PySem.W.Frag) : Sp := fun vs H Q _ => ∃ (F M : Addr → Prop) (h : Addr) (n o : Str) (x : Int) (ps : List Pt) (rows : Rows) (done : List Rows) (u : Nat), vs = [.ref h, .str n, .int x, .str o] ∧ HIn K F M H h rows done u ∧ nmOk n = true ∧ nmOk o = true ∧ aget rows n = some ps ∧ aget rows o = none ∧
  0 ≤ x ∧ x ≤ manys ps ∧ manys ps ≤ TOP ∧ wts ps ≤ 500000 ∧ Done K F M H h (aput (aput rows n (hds ps x)) o (tls ps x)) (done ++ [rows]) Q
theorem ok_cut (T : Txt K mg) (B : F1 P w K mg base T) (G_Hall_s10_parts : FnOk P w K mg base CX0 3 (He.ma K (He.ga K "Hall") "s10_parts") T.fd_Hall_s10_parts ["self", "name"] (spParts K)) (G_Hall_s10_free : FnOk P w K mg base CX0 3 (He.ma K (He.ga K "Hall") "s10_free") T.fd_Hall_s10_free ["self", "name"] (spFree K))
    (G_Hall_s10_keep : FnOk P w K mg base CX0 23 (He.ma K (He.ga K "Hall") "s10_keep") T.fd_Hall_s10_keep ["self", "deed", "rows"] (spKeep K)) : FnOk P w K mg base CX0 24 (He.ma K (He.ga K "Hall") "cut") T.fd_Hall_cut ["self", "name", "place", "other"] (spCut K) := by
  have G_head := B.head
  have G_tail := B.tail
  have G_need_place := B.need_place
  have G_laid_many := B.laid_many
  refine T.d_Hall_cut.F.ok sc_Hall_cut (fun vs H Q E h => ?_) (fun cdv A outer s H vs Q E hr h => ⟨_, PSs.nox (pss_cons (ps_set (i := 4) sc_Hall_cut.nd rfl (Or.inl rfl) (pe_meth (pv 0) T.cl_Hall T.m_Hall_s10_parts G_Hall_s10_parts (hr.mono (by omega)) T.d_Hall_s10_parts.b .nil pass0 (pa_cons (pv 1) pa_nil)))
    (pss_cons (ps_expr (pe_meth (pv 0) T.cl_Hall T.m_Hall_s10_free G_Hall_s10_free (hr.mono (by omega)) T.d_Hall_s10_free.b .nil pass0 (pa_cons (pv 3) pa_nil)))
    (pss_cons (ps_expr (pe_call G_need_place (hr.mono (by omega)) rfl T.g_need_place T.d_need_place.F.kp T.d_need_place.b .nil pass0 (pa_cons (pv 2) (pa_cons (pe_call G_laid_many (hr.mono (by omega)) rfl T.g_laid_many T.d_laid_many.F.kp T.d_laid_many.b .nil pass0 (pa_cons (pv 4) pa_nil)) pa_nil))))
    (pss_cons (ps_set (i := 5) sc_Hall_cut.nd rfl (Or.inl rfl) (pe_callTy call_dictN (by rfl) T.z_dict bt_dict (pa_cons (pe_fld (pv 0) rfl) pa_nil)))
    (pss_cons (ps_asg (pe_tup (pa_cons (pe_call G_head (hr.mono (by omega)) rfl T.g_head T.d_head.F.kp T.d_head.b .nil pass0 (pa_cons (pv 4) (pa_cons (pv 2) pa_nil))) (pa_cons (pe_call G_tail (hr.mono (by omega)) rfl T.g_tail T.d_tail.F.kp T.d_tail.b .nil pass0 (pa_cons (pv 4) (pa_cons (pv 2) pa_nil))) pa_nil))) (pg_tup rfl (pgs_cons (pg_sub (pv 5) (pv 1) (set_dict (hu_of hr))) (pgs_cons (pg_sub (pv 5) (pv 3) (set_dict (hu_of hr))) pgs_nil))))
    (pss_one (ps_expr (pe_meth (pv 0) T.cl_Hall T.m_Hall_s10_keep G_Hall_s10_keep (hr.mono (by omega)) T.d_Hall_s10_keep.b .nil pass0 (pa_cons (pe_tup (pa_cons pe_str (pa_cons (pv 1) (pa_cons (pv 2) (pa_cons (pv 3) pa_nil))))) (pa_cons (pv 5) pa_nil)))))))))), ?_⟩)
  · obtain ⟨F, M, h, n, o, x, ps, rows, done, u, rfl, _⟩ := h; rfl
  obtain ⟨F, M, h, n, o, x, ps, rows, done, u, rfl, hh, hn, ho, hg, hg2, x0, x1, tm, w5, q⟩ := h
  obtain ⟨dx, R, Dn, Un, l, e1, eR, hl⟩ := rowsDict hh.at_
  have rk := rowsOk_get hh.ok hg
  have tb := top_bb
  have cf := cuts ps x rk.ok x0 x1
  have cw := cf.w
  have cd1 := cf.d1
  have cd2 := cf.d2
  walk_at "rd"
  refine p_meth e1 (by rfl) ?_
  walk_at "rd"
  refine ⟨F, M, h, n, rows, done, u, ps, rfl, hh.at_, hn, hg, fun q1 H1 s1 hq1 => ?_⟩
  walk_at "rd"
  refine p_meth (s1 _ _ e1) (by rfl) ?_
  walk_at "rd"
  refine ⟨F, M, h, o, rows, done, u, rfl, hh.at_.same s1, ho, hg2, fun H1a s1a => ?_⟩
  walk_at "rd"
  refine ⟨M, q1, ps, rfl, hq1.to (Keep.same s1a), by omega, fun H1' s1b => ?_⟩
  walk_at "rd"
  refine ⟨x, _, rfl, x0, x1, ?_⟩
  have s1' := s1a.trans s1b
  have s11 := s1.trans s1'
  walk_at "rd"
  refine p_fld (s11 _ _ e1) T.cl_Hall T.n_Hall_s10_rows (fH_rows _ _ _) ?_
  walk_at "rd"
  refine r_dictOf (s11 _ _ eR) fun Z hZ => ?_
  have s3 : Same H1' (upd H1' Z (.dK (mkS l))) := same_upd hZ
  have hZ0 : H Z = none := s11.free hZ
  have s13 := s11.trans s3
  have hq3 := (hq1.to (Keep.same s1')).to (Keep.same s3)
  walk_at "rd"
  refine ⟨M, q1, ps, x, rfl, ⟨hq3, hM_same s13 hh.hM, rk.ok, rk.dp, by omega⟩, x0, x1, by omega, fun qa Ha sa hqa => ?_⟩
  walk_at "rd"
  have s1a' := s13.trans sa
  refine ⟨M, q1, ps, x, rfl, ⟨hq3.to (Keep.same sa), hM_same s1a' hh.hM, rk.ok, rk.dp, by omega⟩, x0, x1, by omega, fun qb Hb sb hqb => ?_⟩
  walk_at "rd"
  refine p_new (sz (by show 2 ≤ _; decide)) fun t2 ht2 => ?_
  have s6 : Same Hb (upd Hb t2 (.tup [.ref qa, .ref qb])) := same_upd ht2
  have s16 := s1a'.trans (sb.trans s6)
  have ll := hl.len
  have hll := hh.len
  have eZ2 : (upd Hb t2 (.tup [.ref qa, .ref qb])) Z = some (.dK (mkS l)) := (sa.trans (sb.trans s6)) _ _ upd_same
  refine r_gTup upd_same rfl ?_
  walk_at "rd"
  refine r_setD (k := .inr n) eZ2 rfl (by rw [mkD_len]; exact szl (by omega)) ?_
  rw [mkD_put inr_inj]
  have r4 := zput (K := K) (M := M) (n := n) eZ2 (RwL.keep (Keep.same s16) hl) ((hqa.to (Keep.same sb)).to (Keep.same s6)) hh.ok.1
  have lpn := len_put l n qa
  walk_at "rd"
  refine r_setD (k := .inr o) upd_same rfl (by rw [mkD_len]; exact szl (by omega)) ?_
  rw [mkD_put inr_inj]
  have hqb4 := (hqb.to (Keep.same s6)).go (notZ (x := .dK (mkS (aput l n qa))) eZ2)
  have ro1 : rowsOk (aput rows n (hds ps x)) := rowsOk_put hh.ok (by omega) ⟨cf.o1, by have := rk.dp; omega, by omega⟩
  have lpr := len_put rows n (hds ps x)
  have r5 := zput (K := K) (M := M) (n := o) (upd_same : (upd (upd Hb t2 (.tup [.ref qa, .ref qb])) Z (.dK (mkS (aput l n qa)))) Z = _) r4 hqb4 ro1.1
  have s4 := (s16.wr (o := .dK (mkS (aput l n qa))) hZ0).wr (o := .dK (mkS (aput (aput l n qa) o qb))) hZ0
  walk_at "rd"
  refine p_meth (s4 _ _ e1) (by rfl) ?_
  walk_at "rd"
  refine p_new (sz (by show 4 ≤ _; decide)) fun t ht3 => ?_
  walk_at "rd"
  have s5 := same_upd (o := .tup [.str "cut", .str n, .int x, .str o]) ht3
  exact toKeep hh (s4.trans s5) hZ0 (s5 _ _ upd_same) (RwL.keep (Keep.same s5) r5) (rowsOk_put ro1 (by omega) ⟨cf.o2, by have := rk.dp; omega, by omega⟩) q
end
section
variable {P : Program} {w : World} {K : PySem.W.Frag} {mg : Str → Option Value} {base : Heap}
def spUndo (K : PySem.W.Frag) : Sp := fun vs H Q _ => ∃ (F M : Addr → Prop) (h : Addr) (rows rows0 : Rows) (done : List Rows) (u : Nat), vs = [.ref h] ∧ HallAt K F M H h rows (done ++ [rows0]) u ∧ (∀ a, M a → H a ≠ none) ∧ u < 100000 ∧
  ∀ H', Frame F F H H' → HallAt K F M H' h rows0 done (u + 1) → Q .non H'
theorem ok_undo (T : Txt K mg) : FnOk P w K mg base CX0 1 (He.ma K (He.ga K "Hall") "undo") T.fd_Hall_undo ["self"] (spUndo K) := by
  refine T.d_Hall_undo.F.ok sc_Hall_undo (fun vs H Q E h => ?_) (fun cdv A outer s H vs Q E hr h => ⟨_, PSs.nox (pss_cons (ps_if (pt_cmpR (op_eqLen (Nat.lt_of_succ_lt (hu_of hr))) (pe_fld (pv 0) rfl) (pe_lst pa_nil) (nomark _)) (pss_one ps_never) pss_nil)
    (pss_cons (ps_asg (pe_bm0 PySem.F.plainAttrs_list PySem.F.slot_list_pop PySem.F.type_list_pop mt_pop (pe_fld (pv 0) rfl)) (pg_tup rfl (pgs_cons (pg_name (i := 1) sc_Hall_undo.nd rfl (Or.inl rfl)) (pgs_cons (pg_name (i := 2) sc_Hall_undo.nd rfl (Or.inl rfl)) pgs_nil))))
    (pss_cons (ps_expr (pe_bm PySem.F.plainAttrs_list PySem.F.slot_list_append PySem.F.type_list_append mt_append (pe_fld (pv 0) rfl) (pa_cons (pe_tup (pa_cons (pv 1) (pa_cons (pe_fld (pv 0) rfl) pa_nil))) pa_nil)))
    (pss_one (ps_fld (pv 0) (pv 2) rfl))))), ?_⟩)
  · obtain ⟨F, M, h, rows, rows0, done, u, rfl, _⟩ := h; rfl
  obtain ⟨F, M, h, rows, rows0, done, u, rfl, ⟨fs, dx, R, Dn, Un, dl, ul, f1, f2, f3, ne, e1, e2, e3, lu, hR, hd⟩, hM, u1, q⟩ := h
  obtain ⟨dl', t, dv, R0, edl, hd', nt, et, hR0⟩ := hd.last
  walk_at "rd"
  refine p_fld e1 T.cl_Hall T.n_Hall_s10_done (fH_done _ _ _) ?_
  walk_at "rd"
  refine p_new (sz (by show 0 ≤ _; decide)) fun Z hZ => ?_
  have s1 : Same H (upd H Z (.lst [])) := same_upd hZ
  refine ⟨Dn, Z, dl, [], rfl, rfl, s1 _ _ e2, upd_same, by rw [edl, List.length_append]; show dl'.length + 1 ≠ 0; omega, ?_⟩
  walk_at "rd"
  refine iteF ?_
  walk_at "rd"
  refine p_fld (s1 _ _ e1) T.cl_Hall T.n_Hall_s10_done (fH_done _ _ _) ?_
  refine p_bmL (s1 _ _ e2) ?_
  refine r_pop0 (s1 _ _ e2) (y := .ref t) (by rw [edl]; simp) ?_
  have edr : dl.dropLast = dl' := by rw [edl]; simp
  rw [edr]
  have nhD : h ≠ Dn := fun z => by rw [z, e2] at e1; cases e1
  have ntD : t ≠ Dn := fun z => nt (z ▸ fs _ f2)
  have nhU : h ≠ Un := fun z => by rw [z, e3] at e1; cases e1
  have etA : (upd (upd H Z (.lst [])) Dn (.lst dl')) t = some (.tup [dv, .ref R0]) := by rw [upd_ne ntD]; exact s1 _ _ et
  have ehA : (upd (upd H Z (.lst [])) Dn (.lst dl')) h = some (.ins (CH K) dx (fH R Dn Un)) := by rw [upd_ne nhD]; exact s1 _ _ e1
  have eUA : (upd (upd H Z (.lst [])) Dn (.lst dl')) Un = some (.lst ul) := by rw [upd_ne ne.symm]; exact s1 _ _ e3
  refine r_gTup etA rfl ?_
  walk_at "rd"
  refine p_fld ehA T.cl_Hall T.n_Hall_s10_undone (fH_undone _ _ _) ?_
  refine p_bmL eUA ?_
  walk_at "rd"
  refine p_fld ehA T.cl_Hall T.n_Hall_s10_rows (fH_rows _ _ _) ?_
  walk_at "rd"
  refine p_new (sz (by show 2 ≤ _; decide)) fun tt htt => ?_
  walk_at "rd"
  have s2 := same_upd (o := .tup [dv, .ref R]) htt
  refine r_append (s2 _ _ eUA) (szl (by omega)) ?_
  walk_at "rd"
  have ehB : (upd (upd (upd (upd H Z (.lst [])) Dn (.lst dl')) tt (.tup [dv, .ref R])) Un (.lst (ul ++ [.ref tt]))) h = some (.ins (CH K) dx (fH R Dn Un)) := by rw [upd_ne nhU]; exact s2 _ _ ehA
  refine p_set ehB T.cl_Hall T.n_Hall_s10_rows (by show 3 < 1000; decide) ?_
  rw [fH_putR]
  have step : ∀ a o, a ≠ h → a ≠ Dn → a ≠ Un → H a = some o → (upd (upd (upd (upd (upd H Z (.lst [])) Dn (.lst dl')) tt (.tup [dv, .ref R])) Un (.lst (ul ++ [.ref tt]))) h (.ins (CH K) dx (fH R0 Dn Un))) a = some o := fun a o n1 n2 n3 e => by
    rw [upd_ne n1, upd_ne n3]
    exact s2 _ _ (by rw [upd_ne n2]; exact s1 _ _ e)
  have ntt : tt ≠ Dn := fun z => by rw [z, upd_same] at htt; cases htt
  have eDf : (upd (upd (upd (upd (upd H Z (.lst [])) Dn (.lst dl')) tt (.tup [dv, .ref R])) Un (.lst (ul ++ [.ref tt]))) h (.ins (CH K) dx (fH R0 Dn Un))) Dn = some (.lst dl') := by rw [upd_ne nhD.symm, upd_ne ne]; exact s2 _ _ upd_same
  have eUf : (upd (upd (upd (upd (upd H Z (.lst [])) Dn (.lst dl')) tt (.tup [dv, .ref R])) Un (.lst (ul ++ [.ref tt]))) h (.ins (CH K) dx (fH R0 Dn Un))) Un = some (.lst (ul ++ [.ref tt])) := by rw [upd_ne nhU.symm, upd_same]
  have fr : Frame F F H (upd (upd (upd (upd (upd H Z (.lst [])) Dn (.lst dl')) tt (.tup [dv, .ref R])) Un (.lst (ul ++ [.ref tt]))) h (.ins (CH K) dx (fH R0 Dn Un))) := by
    refine ⟨fun a o na e => step a o (fun z => na (z ▸ f1)) (fun z => na (z ▸ f2)) (fun z => na (z ▸ f3)) e, fun a z => .inl z, fun a z y => ?_⟩
    by_cases y1 : a = h
    · rw [y1, upd_same] at y; cases y
    · by_cases y2 : a = Dn
      · rw [y2, eDf] at y; cases y
      · by_cases y3 : a = Un
        · rw [y3, eUf] at y; cases y
        · obtain ⟨o, ho⟩ := Option.ne_none_iff_exists'.mp (hM a (fs a z))
          rw [step a o y1 y2 y3 ho] at y; cases y
  have kk : Keep M M H (upd (upd (upd (upd (upd H Z (.lst [])) Dn (.lst dl')) tt (.tup [dv, .ref R])) Un (.lst (ul ++ [.ref tt]))) h (.ins (CH K) dx (fH R0 Dn Un))) := ⟨fun a z => .inl z, fun a o na e => fr.k a o (fun z => na (fs a z)) e⟩
  exact q _ fr ⟨fs, dx, R0, Dn, Un, dl', _, f1, f2, f3, ne, upd_same, eDf, eUf, by rw [List.length_append, List.length_singleton]; omega, hR0.keep kk, hd'.keep kk⟩
/-! ### what is read of a hall -/
def spPeople (K : PySem.W.Frag) : Sp := fun vs H Q _ => ∃ (F M : Addr → Prop) (h : Addr) (n : Str) (ps : List Pt) (rows : Rows) (done : List Rows) (u : Nat), vs = [.ref h, .str n] ∧ HIn K F M H h rows done u ∧ nmOk n = true ∧ aget rows n = some ps ∧ ∀ H', Same H H' → Q (.int (manys ps)) H'
theorem ok_h_people (T : Txt K mg) (B : F1 P w K mg base T) (G_Hall_s10_parts : FnOk P w K mg base CX0 3 (He.ma K (He.ga K "Hall") "s10_parts") T.fd_Hall_s10_parts ["self", "name"] (spParts K)) : FnOk P w K mg base CX0 23 (He.ma K (He.ga K "Hall") "people") T.fd_Hall_people ["self", "name"] (spPeople K) := by
  have G_laid_many := B.laid_many
  refine T.d_Hall_people.F.ok sc_Hall_people (fun vs H Q E h => ?_) (fun cdv A outer s H vs Q E hr h => ⟨_, PSs.nox (pss_one (ps_ret (pe_call G_laid_many (hr.mono (by omega)) rfl T.g_laid_many T.d_laid_many.F.kp T.d_laid_many.b .nil pass0 (pa_cons (pe_meth (pv 0) T.cl_Hall T.m_Hall_s10_parts G_Hall_s10_parts (hr.mono (by omega)) T.d_Hall_s10_parts.b .nil pass0 (pa_cons (pv 1) pa_nil)) pa_nil)))), ?_⟩)
  · obtain ⟨F, M, h, n, ps, rows, done, u, rfl, _⟩ := h; rfl
  obtain ⟨F, M, h, n, ps, rows, done, u, rfl, hh, hn, hg, q⟩ := h
  obtain ⟨dx, R, Dn, Un, l, e1, eR, hl⟩ := rowsDict hh.at_
  have rk := rowsOk_get hh.ok hg
  walk_at "rd"
  refine p_meth e1 (by rfl) ?_
  walk_at "rd"
  refine ⟨F, M, h, n, rows, done, u, ps, rfl, hh.at_, hn, hg, fun q1 H1 s1 hq1 => ?_⟩
  walk_at "rd"
  exact ⟨M, q1, ps, rfl, hq1, by have := rk.w; omega, fun H2 s2 => q _ (s1.trans s2)⟩
def spHTotal (K : PySem.W.Frag) : Sp := fun vs H Q _ => ∃ (F M : Addr → Prop) (h : Addr) (n : Str) (x : Int) (ps : List Pt) (rows : Rows) (done : List Rows) (u : Nat), vs = [.ref h, .str n, .int x] ∧ HIn K F M H h rows done u ∧ nmOk n = true ∧ aget rows n = some ps ∧ 0 ≤ x ∧ ∀ H', Same H H' → Q (.int (thrs ps x).1) H'
theorem ok_h_total (T : Txt K mg) (B : F1 P w K mg base T) (G_total_of : FnOk P w K mg base CX0 23 (He.ga K "total_of") T.fd_total_of ["parts", "number"] (spTotal K)) (G_Hall_s10_parts : FnOk P w K mg base CX0 3 (He.ma K (He.ga K "Hall") "s10_parts") T.fd_Hall_s10_parts ["self", "name"] (spParts K)) :
    FnOk P w K mg base CX0 24 (He.ma K (He.ga K "Hall") "total") T.fd_Hall_total ["self", "name", "company"] (spHTotal K) := by
  have G_need_number := B.need_number
  refine T.d_Hall_total.F.ok sc_Hall_total (fun vs H Q E h => ?_) (fun cdv A outer s H vs Q E hr h => ⟨_, PSs.nox (pss_cons (ps_set (i := 3) sc_Hall_total.nd rfl (Or.inl rfl) (pe_meth (pv 0) T.cl_Hall T.m_Hall_s10_parts G_Hall_s10_parts (hr.mono (by omega)) T.d_Hall_s10_parts.b .nil pass0 (pa_cons (pv 1) pa_nil)))
    (pss_cons (ps_expr (pe_call G_need_number (hr.mono (by omega)) rfl T.g_need_number T.d_need_number.F.kp T.d_need_number.b .nil pass0 (pa_cons (pv 2) pa_nil)))
    (pss_one (ps_ret (pe_call G_total_of (hr.mono (by omega)) rfl T.g_total_of T.d_total_of.F.kp T.d_total_of.b .nil pass0 (pa_cons (pv 3) (pa_cons (pv 2) pa_nil))))))), ?_⟩)
  · obtain ⟨F, M, h, n, x, ps, rows, done, u, rfl, _⟩ := h; rfl
  obtain ⟨F, M, h, n, x, ps, rows, done, u, rfl, hh, hn, hg, x0, q⟩ := h
  obtain ⟨dx, R, Dn, Un, l, e1, eR, hl⟩ := rowsDict hh.at_
  have rk := rowsOk_get hh.ok hg
  walk_at "rd"
  refine p_meth e1 (by rfl) ?_
  walk_at "rd"
  refine ⟨F, M, h, n, rows, done, u, ps, rfl, hh.at_, hn, hg, fun q1 H1 s1 hq1 => ?_⟩
  walk_at "rd"
  refine ⟨x, rfl, x0, ?_⟩
  walk_at "rd"
  exact ⟨M, q1, ps, x, rfl, ⟨hq1, hM_same s1 hh.hM, rk.ok, rk.dp, by have := rk.w; omega⟩, fun H2 s2 => q _ (s1.trans s2)⟩
def spHLeast (K : PySem.W.Frag) : Sp := fun vs H Q _ => ∃ (F M : Addr → Prop) (h : Addr) (n : Str) (x : Int) (ps : List Pt) (rows : Rows) (done : List Rows) (u : Nat), vs = [.ref h, .str n, .int x] ∧ HIn K F M H h rows done u ∧ nmOk n = true ∧ aget rows n = some ps ∧ 0 ≤ x ∧ ∀ H', Same H H' → Q (.int (wshs ps x none).1) H'
theorem ok_h_least (T : Txt K mg) (B : F1 P w K mg base T) (G_Hall_s10_parts : FnOk P w K mg base CX0 3 (He.ma K (He.ga K "Hall") "s10_parts") T.fd_Hall_s10_parts ["self", "name"] (spParts K)) :
    FnOk P w K mg base CX0 23 (He.ma K (He.ga K "Hall") "least") T.fd_Hall_least ["self", "name", "total"] (spHLeast K) := by
  have G_need_number := B.need_number
  have G_wished := B.wished
  refine T.d_Hall_least.F.ok sc_Hall_least (fun vs H Q E h => ?_) (fun cdv A outer s H vs Q E hr h => ⟨_, PSs.nox (pss_cons (ps_set (i := 3) sc_Hall_least.nd rfl (Or.inl rfl) (pe_meth (pv 0) T.cl_Hall T.m_Hall_s10_parts G_Hall_s10_parts (hr.mono (by omega)) T.d_Hall_s10_parts.b .nil pass0 (pa_cons (pv 1) pa_nil)))
    (pss_cons (ps_expr (pe_call G_need_number (hr.mono (by omega)) rfl T.g_need_number T.d_need_number.F.kp T.d_need_number.b .nil pass0 (pa_cons (pv 2) pa_nil)))
    (pss_one (ps_ret (pe_ix ix_tup (pe_call G_wished (hr.mono (by omega)) rfl T.g_wished T.d_wished.F.kp T.d_wished.b .nil pass0 (pa_cons (pv 3) (pa_cons (pv 2) pa_nil))) pe_int (fun _ _ => rfl)))))), ?_⟩)
  · obtain ⟨F, M, h, n, x, ps, rows, done, u, rfl, _⟩ := h; rfl
  obtain ⟨F, M, h, n, x, ps, rows, done, u, rfl, hh, hn, hg, x0, q⟩ := h
  obtain ⟨dx, R, Dn, Un, l, e1, eR, hl⟩ := rowsDict hh.at_
  have rk := rowsOk_get hh.ok hg
  walk_at "rd"
  refine p_meth e1 (by rfl) ?_
  walk_at "rd"
  refine ⟨F, M, h, n, rows, done, u, ps, rfl, hh.at_, hn, hg, fun q1 H1 s1 hq1 => ?_⟩
  walk_at "rd"
  refine ⟨x, rfl, x0, ?_⟩
  walk_at "rd"
  refine ⟨M, q1, ps, x, rfl, hq1, rk.ok, rk.dp, fun r H2 s2 hr2 => ?_⟩
  walk_at "rd"
  exact r_ixT hr2 atI0 (q _ (s1.trans s2))
def spHSaying (K : PySem.W.Frag) : Sp := fun vs H Q _ => ∃ (F M : Addr → Prop) (h : Addr) (n : Str) (x : Int) (ps : List Pt) (rows : Rows) (done : List Rows) (u : Nat), vs = [.ref h, .str n, .int x] ∧ HIn K F M H h rows done u ∧ nmOk n = true ∧ aget rows n = some ps ∧ 0 ≤ x ∧ x < manys ps ∧
  ∀ a s H', Same H H' → sas ps x = some s → ¬ M a → H' a = some (.tup (sgV s)) → Q (.ref a) H'
theorem ok_h_saying (T : Txt K mg) (B : F1 P w K mg base T) (G_Hall_s10_parts : FnOk P w K mg base CX0 3 (He.ma K (He.ga K "Hall") "s10_parts") T.fd_Hall_s10_parts ["self", "name"] (spParts K)) :
    FnOk P w K mg base CX0 23 (He.ma K (He.ga K "Hall") "saying") T.fd_Hall_saying ["self", "name", "place"] (spHSaying K) := by
  have G_need_place := B.need_place
  have G_laid_many := B.laid_many
  have G_spot_at := B.spot_at
  refine T.d_Hall_saying.F.ok sc_Hall_saying (fun vs H Q E h => ?_) (fun cdv A outer s H vs Q E hr h => ⟨_, PSs.nox (pss_cons (ps_set (i := 3) sc_Hall_saying.nd rfl (Or.inl rfl) (pe_meth (pv 0) T.cl_Hall T.m_Hall_s10_parts G_Hall_s10_parts (hr.mono (by omega)) T.d_Hall_s10_parts.b .nil pass0 (pa_cons (pv 1) pa_nil)))
    (pss_cons (ps_expr (pe_call G_need_place (hr.mono (by omega)) rfl T.g_need_place T.d_need_place.F.kp T.d_need_place.b .nil pass0 (pa_cons (pv 2) (pa_cons (pe_op op_sub (pe_call G_laid_many (hr.mono (by omega)) rfl T.g_laid_many T.d_laid_many.F.kp T.d_laid_many.b .nil pass0 (pa_cons (pv 3) pa_nil)) pe_int) pa_nil))))
    (pss_one (ps_ret (pe_fld (pe_call G_spot_at (hr.mono (by omega)) rfl T.g_spot_at T.d_spot_at.F.kp T.d_spot_at.b .nil pass0 (pa_cons (pv 3) (pa_cons (pv 2) pa_nil))) rfl))))), ?_⟩)
  · obtain ⟨F, M, h, n, x, ps, rows, done, u, rfl, _⟩ := h; rfl
  obtain ⟨F, M, h, n, x, ps, rows, done, u, rfl, hh, hn, hg, x0, x1, q⟩ := h
  obtain ⟨dx, R, Dn, Un, l, e1, eR, hl⟩ := rowsDict hh.at_
  have rk := rowsOk_get hh.ok hg
  walk_at "rd"
  refine p_meth e1 (by rfl) ?_
  walk_at "rd"
  refine ⟨F, M, h, n, rows, done, u, ps, rfl, hh.at_, hn, hg, fun q1 H1 s1 hq1 => ?_⟩
  walk_at "rd"
  refine ⟨M, q1, ps, rfl, hq1, by have := rk.w; omega, fun H2 s2 => ?_⟩
  walk_at "rd"
  refine ⟨x, _, rfl, x0, by omega, ?_⟩
  walk_at "rd"
  refine ⟨M, q1, ps, x, rfl, hq1.to (Keep.same s2), rk.ok, rk.dp, x0, x1, fun a dx p k s H3 s3 es np e3 e4 => ?_⟩
  walk_at "rd"
  refine p_fld e3 T.cl_Spot T.n_Spot_s8_said (fS_said _ _) ?_
  exact q p s _ (s1.trans (s2.trans s3)) es np e4
def spHSpeaks (K : PySem.W.Frag) : Sp := fun vs H Q _ => ∃ (F M : Addr → Prop) (h : Addr) (n : Str) (x l : Int) (ps : List Pt) (rows : Rows) (done : List Rows) (u : Nat), vs = [.ref h, .str n, .int x, .int l] ∧ HIn K F M H h rows done u ∧ nmOk n = true ∧ aget rows n = some ps ∧ 0 ≤ x ∧ 0 ≤ l ∧ l < manys ps ∧ manys ps ≤ TOP ∧ wts ps ≤ 1000000 ∧
  ∀ s H', Same H H' → sas ps l = some s → Q (.bl (isSo s (thrs (tls ps (l + 1)) x).1)) H'
theorem ok_h_speaks (T : Txt K mg) (B : F1 P w K mg base T) (G_total_of : FnOk P w K mg base CX0 23 (He.ga K "total_of") T.fd_total_of ["parts", "number"] (spTotal K)) (G_Hall_s10_parts : FnOk P w K mg base CX0 3 (He.ma K (He.ga K "Hall") "s10_parts") T.fd_Hall_s10_parts ["self", "name"] (spParts K)) :
    FnOk P w K mg base CX0 24 (He.ma K (He.ga K "Hall") "speaks") T.fd_Hall_speaks ["self", "name", "company", "place"] (spHSpeaks K) := by
  have G_need_place := B.need_place
  have G_need_number := B.need_number
  have G_laid_many := B.laid_many
  have G_spot_at := B.spot_at
  have G_tail := B.tail
  have G_is_so := B.is_so
  refine T.d_Hall_speaks.F.ok sc_Hall_speaks (fun vs H Q E h => ?_) (fun cdv A outer s H vs Q E hr h => ⟨_, PSs.nox (pss_cons (ps_set (i := 4) sc_Hall_speaks.nd rfl (Or.inl rfl) (pe_meth (pv 0) T.cl_Hall T.m_Hall_s10_parts G_Hall_s10_parts (hr.mono (by omega)) T.d_Hall_s10_parts.b .nil pass0 (pa_cons (pv 1) pa_nil)))
    (pss_cons (ps_expr (pe_call G_need_number (hr.mono (by omega)) rfl T.g_need_number T.d_need_number.F.kp T.d_need_number.b .nil pass0 (pa_cons (pv 2) pa_nil)))
    (pss_cons (ps_expr (pe_call G_need_place (hr.mono (by omega)) rfl T.g_need_place T.d_need_place.F.kp T.d_need_place.b .nil pass0 (pa_cons (pv 3) (pa_cons (pe_op op_sub (pe_call G_laid_many (hr.mono (by omega)) rfl T.g_laid_many T.d_laid_many.F.kp T.d_laid_many.b .nil pass0 (pa_cons (pv 4) pa_nil)) pe_int) pa_nil))))
    (pss_one (ps_ret (pe_call G_is_so (hr.mono (by omega)) rfl T.g_is_so T.d_is_so.F.kp T.d_is_so.b .nil pass0 (pa_cons (pe_fld (pe_call G_spot_at (hr.mono (by omega)) rfl T.g_spot_at T.d_spot_at.F.kp T.d_spot_at.b .nil pass0 (pa_cons (pv 4) (pa_cons (pv 3) pa_nil))) rfl) (pa_cons (pe_call G_total_of (hr.mono (by omega)) rfl T.g_total_of T.d_total_of.F.kp T.d_total_of.b .nil pass0 (pa_cons (pe_call G_tail (hr.mono (by omega)) rfl T.g_tail T.d_tail.F.kp T.d_tail.b .nil pass0 (pa_cons (pv 4) (pa_cons (pe_op op_add (pv 3) pe_int) pa_nil))) (pa_cons (pv 2) pa_nil))) pa_nil)))))))), ?_⟩)
  · obtain ⟨F, M, h, n, x, l, ps, rows, done, u, rfl, _⟩ := h; rfl
  obtain ⟨F, M, h, n, x, l, ps, rows, done, u, rfl, hh, hn, hg, x0, l0, l1, tp, w5, q⟩ := h
  obtain ⟨dx, R, Dn, Un, ll, e1, eR, hl⟩ := rowsDict hh.at_
  have rk := rowsOk_get hh.ok hg
  have tb := top_bb
  walk_at "rd"
  refine p_meth e1 (by rfl) ?_
  walk_at "rd"
  refine ⟨F, M, h, n, rows, done, u, ps, rfl, hh.at_, hn, hg, fun q1 H1 s1 hq1 => ?_⟩
  walk_at "rd"
  refine ⟨x, rfl, x0, ?_⟩
  walk_at "rd"
  refine ⟨M, q1, ps, rfl, hq1, by have := rk.w; omega, fun H2 s2 => ?_⟩
  walk_at "rd"
  refine ⟨l, _, rfl, l0, by omega, ?_⟩
  walk_at "rd"
  have hq2 := hq1.to (Keep.same s2)
  refine ⟨M, q1, ps, l, rfl, hq2, rk.ok, rk.dp, l0, l1, fun a dx p k s H3 s3 es np e3 e4 => ?_⟩
  walk_at "rd"
  refine p_fld e3 T.cl_Spot T.n_Spot_s8_said (fS_said _ _) ?_
  walk_at "rd"
  have s13 := s1.trans (s2.trans s3)
  refine ⟨M, q1, ps, _, rfl, ⟨hq2.to (Keep.same s3), hM_same s13 hh.hM, rk.ok, rk.dp, by omega⟩, by omega, by omega, by omega, fun r H4 s4 hr4 => ?_⟩
  walk_at "rd"
  refine ⟨M, r, _, x, rfl, cutTail (hM_same (s13.trans s4) hh.hM) rk.ok rk.dp w5 (by omega) (by omega) hr4, fun H5 s5 => ?_⟩
  walk_at "rd"
  exact ⟨p, s, _, rfl, s5 _ _ (s4 _ _ e4), q s _ (s13.trans (s4.trans s5)) es⟩
def spHLong (K : PySem.W.Frag) : Sp := fun vs H Q _ => ∃ (F M : Addr → Prop) (h : Addr) (n : Str) (ps : List Pt) (rows : Rows) (done : List Rows) (u : Nat), vs = [.ref h, .str n] ∧ HIn K F M H h rows done u ∧ nmOk n = true ∧ aget rows n = some ps ∧ ∀ r H', Same H H' → LgsA M H' ps r → Q (.ref r) H'
theorem ok_h_long (T : Txt K mg) (B : F1 P w K mg base T) (G_Hall_s10_parts : FnOk P w K mg base CX0 3 (He.ma K (He.ga K "Hall") "s10_parts") T.fd_Hall_s10_parts ["self", "name"] (spParts K)) : FnOk P w K mg base CX0 23 (He.ma K (He.ga K "Hall") "long_row") T.fd_Hall_long_row ["self", "name"] (spHLong K) := by
  have G_written := B.written
  refine T.d_Hall_long_row.F.ok sc_Hall_long_row (fun vs H Q E h => ?_) (fun cdv A outer s H vs Q E hr h => ⟨_, PSs.nox (pss_one (ps_ret (pe_call G_written (hr.mono (by omega)) rfl T.g_written T.d_written.F.kp T.d_written.b .nil pass0 (pa_cons (pe_meth (pv 0) T.cl_Hall T.m_Hall_s10_parts G_Hall_s10_parts (hr.mono (by omega)) T.d_Hall_s10_parts.b .nil pass0 (pa_cons (pv 1) pa_nil)) pa_nil)))), ?_⟩)
  · obtain ⟨F, M, h, n, ps, rows, done, u, rfl, _⟩ := h; rfl
  obtain ⟨F, M, h, n, ps, rows, done, u, rfl, hh, hn, hg, q⟩ := h
  obtain ⟨dx, R, Dn, Un, l, e1, eR, hl⟩ := rowsDict hh.at_
  have rk := rowsOk_get hh.ok hg
  walk_at "rd"
  refine p_meth e1 (by rfl) ?_
  walk_at "rd"
  refine ⟨F, M, h, n, rows, done, u, ps, rfl, hh.at_, hn, hg, fun q1 H1 s1 hq1 => ?_⟩
  walk_at "rd"
  exact ⟨M, q1, ps, rfl, ⟨hq1, hM_same s1 hh.hM, rk.ok, rk.dp, by have := rk.w; omega⟩, fun r H2 s2 hr2 => q r _ (s1.trans s2) hr2⟩
end
/-- the hall's defs and the far ones, by what they keep -/
structure F2 (P : Program) (w : World) (K : PySem.W.Frag) (mg : Str → Option Value) (base : Heap) (T : Txt K mg) : Prop where
  people_in : FnOk P w K mg base CX0 26 (He.ga K "people_in") T.fd_people_in ["long"] (spPeopleIn 8)
  far_total : FnOk P w K mg base CX0 26 (He.ga K "far_total") T.fd_far_total ["long", "company"] spFarTotal
  least_company : FnOk P w K mg base CX0 26 (He.ga K "least_company") T.fd_least_company ["long", "total"] spLeastC
  far_speaks : FnOk P w K mg base CX0 26 (He.ga K "far_speaks") T.fd_far_speaks ["long", "company", "place"] spFarSpeaks
  saying_at : FnOk P w K mg base CX0 26 (He.ga K "saying_at") T.fd_saying_at ["long", "place"] spSayAt
  account : FnOk P w K mg base CX0 26 (He.ga K "account") T.fd_account ["long", "company"] spAccount
  init : FnOk P w K mg base CX0 26 (He.ma K (He.ga K "Hall") "__init__") T.fd_Hall__init ["self"] (spHallI K)
  len : FnOk P w K mg base CX0 20 (He.ma K (He.ga K "Hall") "__len__") T.fd_Hall__len ["self"] (spHLen K)
  begin_ : FnOk P w K mg base CX0 26 (He.ma K (He.ga K "Hall") "begin") T.fd_Hall_begin ["self", "name", "long"] (spBegin K)
  step_in : FnOk P w K mg base CX0 26 (He.ma K (He.ga K "Hall") "step_in") T.fd_Hall_step_in ["self", "name", "place", "saying"] (spStepIn K)
  cut : FnOk P w K mg base CX0 26 (He.ma K (He.ga K "Hall") "cut") T.fd_Hall_cut ["self", "name", "place", "other"] (spCut K)
  join_to : FnOk P w K mg base CX0 26 (He.ma K (He.ga K "Hall") "join_to") T.fd_Hall_join_to ["self", "name", "other"] (spJoin K)
  say_over : FnOk P w K mg base CX0 26 (He.ma K (He.ga K "Hall") "say_over") T.fd_Hall_say_over ["self", "name", "many"] (spSayOver K)
  turn_about : FnOk P w K mg base CX0 26 (He.ma K (He.ga K "Hall") "turn_about") T.fd_Hall_turn_about ["self", "name"] (spTurn K)
  undo : FnOk P w K mg base CX0 26 (He.ma K (He.ga K "Hall") "undo") T.fd_Hall_undo ["self"] (spUndo K)
  names : FnOk P w K mg base CX0 26 (He.ma K (He.ga K "Hall") "names") T.fd_Hall_names ["self"] (spNames K)
  people : FnOk P w K mg base CX0 26 (He.ma K (He.ga K "Hall") "people") T.fd_Hall_people ["self", "name"] (spPeople K)
  total : FnOk P w K mg base CX0 26 (He.ma K (He.ga K "Hall") "total") T.fd_Hall_total ["self", "name", "company"] (spHTotal K)
  least : FnOk P w K mg base CX0 26 (He.ma K (He.ga K "Hall") "least") T.fd_Hall_least ["self", "name", "total"] (spHLeast K)
  saying : FnOk P w K mg base CX0 26 (He.ma K (He.ga K "Hall") "saying") T.fd_Hall_saying ["self", "name", "place"] (spHSaying K)
  speaks : FnOk P w K mg base CX0 26 (He.ma K (He.ga K "Hall") "speaks") T.fd_Hall_speaks ["self", "name", "company", "place"] (spHSpeaks K)
  long_row : FnOk P w K mg base CX0 26 (He.ma K (He.ga K "Hall") "long_row") T.fd_Hall_long_row ["self", "name"] (spHLong K)
theorem f2 {P : Program} {w : World} {K : PySem.W.Frag} {mg : Str → Option Value} {base : Heap} (T : Txt K mg) : F2 P w K mg base T := by
  have B : F1 P w K mg base T := f1 T
  have nn := ok_need_name (P := P) (w := w) (base := base) T (ok_is_name T)
  have nf := ok_need_few (P := P) (w := w) (base := base) T
  have pa := ok_s10_parts T nn
  have fr := ok_s10_free T nn
  have ke := ok_s10_keep T B
  have to := ok_total_of T B
  exact {
    people_in := B.people_in.mono (by omega)
    far_total := (ok_far_total T B to).mono (by omega)
    least_company := (ok_least_company T B).mono (by omega)
    far_speaks := (ok_far_speaks T B (ok_far_heard T B to)).mono (by omega)
    saying_at := (ok_saying_at T B).mono (by omega)
    account := (ok_account T B).mono (by omega)
    init := (ok_hall_init T).mono (by omega)
    len := (ok_hall_len T).mono (by omega)
    begin_ := (ok_begin T B fr ke).mono (by omega)
    step_in := (ok_step_in T B nf pa ke).mono (by omega)
    cut := (ok_cut T B pa fr ke).mono (by omega)
    join_to := (ok_join_to T B nf pa ke).mono (by omega)
    say_over := (ok_say_over T B nf pa ke).mono (by omega)
    turn_about := (ok_turn_about T B pa ke).mono (by omega)
    undo := (ok_undo T).mono (by omega)
    names := (ok_names T).mono (by omega)
    people := (ok_h_people T B pa).mono (by omega)
    total := (ok_h_total T B to pa).mono (by omega)
    least := (ok_h_least T B pa).mono (by omega)
    saying := (ok_h_saying T B pa).mono (by omega)
    speaks := (ok_h_speaks T B to pa).mono (by omega)
    long_row := (ok_h_long T B pa).mono (by omega) }
/-! ### the law's urn -/
def UrnAt (H : Hp) (U : Addr) (c : Nat) : Prop := ∃ a b e : Int, H U = some (.lst [.int a, .int b, .int e]) ∧ 0 ≤ a ∧ 0 ≤ b ∧ b ≤ 1000000000000000000000000000000000000000000000000000000000000 ∧ 0 ≤ e ∧ e ≤ (c : Int)
theorem UrnAt.mono {H : Hp} {U : Addr} {c d : Nat} (h : UrnAt H U c) (l : c ≤ d) : UrnAt H U d := by
  obtain ⟨a, b, e, h1, h2, h3, h4, h5, h6⟩ := h
  exact ⟨a, b, e, h1, h2, h3, h4, h5, by omega⟩
theorem UrnAt.same {H H' : Hp} {U : Addr} {c : Nat} (h : UrnAt H U c) (s : Same H H') : UrnAt H' U c := by
  obtain ⟨a, b, e, h1, r⟩ := h
  exact ⟨a, b, e, s _ _ h1, r⟩
theorem UrnAt.some {H : Hp} {U : Addr} {c : Nat} (h : UrnAt H U c) : H U ≠ none := by
  obtain ⟨a, b, e, h1, r⟩ := h
  rw [h1]; exact fun z => nomatch z
theorem atI_mem {xs : List V} {i : Int} (h0 : 0 ≤ i) (h1 : i < xs.length) : ∃ v, atI xs i = some v ∧ v ∈ xs := by
  have hl : i.toNat < xs.length := by omega
  refine ⟨xs[i.toNat], ?_, List.getElem_mem hl⟩
  unfold atI ixN
  rw [if_pos h0, if_pos h1]
  show xs[i.toNat]? = _
  simp [hl]
theorem atu0 {a b c : V} : atI [a, b, c] 0 = some a := rfl
theorem atu1 {a b c : V} : atI [a, b, c] 1 = some b := rfl
theorem atu2 {a b c : V} : atI [a, b, c] 2 = some c := rfl
theorem bits_le {x : Int} {k : Nat} (h : x.natAbs < 2 ^ k) : Builtin.Int.intBits x ≤ k + 1 := by
  unfold Builtin.Int.intBits
  split
  · omega
  · rename_i hx
    have hx : x ≠ 0 := by simpa using hx
    have h1 : x.natAbs.log2 < k := (Nat.log2_lt (by omega)).mpr h
    omega
theorem BB2 : BB * BB = 100000000000000000000000000000000000000000000000000000000000000 := by decide
theorem mid_lit {i : Int} (h0 : 0 ≤ i) (h1 : i ≤ 100000000000000000000000000000000000000000000000000000000000000) : Mid i := ⟨by rw [BB2]; omega, by rw [BB2]; omega⟩
theorem pow18 : (10 : Int) ^ (18 : Int).toNat = 1000000000000000000 := by decide
theorem pow41 : (10 : Int) ^ (41 : Int).toNat = 100000000000000000000000000000000000000000 := by decide
theorem pow42 : (10 : Int) ^ (42 : Int).toNat = 1000000000000000000000000000000000000000000 := by decide
theorem pow43 : (10 : Int) ^ (43 : Int).toNat = 10000000000000000000000000000000000000000000 := by decide
theorem pow29 : (10 : Int) ^ (29 : Int).toNat = 100000000000000000000000000000 := by decide
theorem pow5 : (10 : Int) ^ (5 : Int).toNat = 100000 := by decide
theorem pow6 : (10 : Int) ^ (6 : Int).toNat = 1000000 := by decide
theorem pow12 : (10 : Int) ^ (12 : Int).toNat = 1000000000000 := by decide
theorem pow15 : (10 : Int) ^ (15 : Int).toNat = 1000000000000000 := by decide
theorem cp {j : Int} (h0 : 0 ≤ j) (h1 : j ≤ 1000) : CPow 10 j := ⟨h0, by omega, by decide⟩
section
variable {P : Program} {w : World} {K : PySem.W.Frag} {mg : Str → Option Value} {base : Heap}
def spUrn (K : PySem.W.Frag) : Sp := fun vs H Q _ => ∃ (a : Addr) (ns : List Int) (k : Nat), vs = [.ref a, .int (k : Int)] ∧ SqL K H a (ns.map V.int) ∧ k ≤ 100 ∧ ∀ U H', Same H H' → H U = none → UrnAt H' U 0 → Q (.ref U) H'
theorem ok_urn (T : Txt K mg) : FnOk P w K mg base CX0 1 (He.ga K "_law_urn") T.fd_Lurn ["_law_script", "_law_k"] (spUrn K) := by
  refine T.d_Lurn.F.ok sc_Lurn (fun vs H Q E h => ?_) (fun cdv A outer s H vs Q E hr h => ⟨_, PSs.nox (pss_cons (ps_set (i := 2) sc_Lurn.nd rfl (Or.inl rfl) pe_int)
    (pss_cons (ps_if (pt_cmpR op_lt (pv 1) (pe_callB call_lenS (by rfl) T.z_len bt_len (pa_cons (pv 0) pa_nil)) (nomark _)) (pss_one (ps_set (i := 2) sc_Lurn.nd rfl (Or.inl rfl) (pe_ix ix_list (pv 0) (pv 1) (fun _ _ => rfl)))) pss_nil)
    (pss_one (ps_ret (pe_lst (pa_cons (pe_callB (call_maxN rfl) (by rfl) T.z_max bt_max (pa_cons pe_int (pa_cons (pe_op op_sub (pe_callB call_absN (by rfl) T.z_abs bt_abs (pa_cons (pv 2) pa_nil)) (pe_op op_pow pe_int pe_int)) pa_nil))) (pa_cons (pe_op op_add (pe_op op_add (pe_op op_mulW (pe_op op_mod (pv 2) (pe_op op_add (pe_op op_pow pe_int pe_int) pe_int)) pe_int) (pe_op op_mulW pe_int (pv 1))) pe_int) (pa_cons pe_int pa_nil)))))))), ?_⟩)
  · obtain ⟨a, ns, k, rfl, _⟩ := h; rfl
  obtain ⟨a, ns, k, rfl, ha, hk, q⟩ := h
  have fin : ∀ cell : Int, pNew .lst [.int (if (if cell < 0 then -cell else cell) - 1000000000000000000 > 0 then (if cell < 0 then -cell else cell) - 1000000000000000000 else 0), .int (cell % (100000000000000000000000000000000000000000 + 3) * 128 + 3 * (k : Int) + 1), .int 0] H Q := fun cell => by
    refine p_new (sz (by show 3 ≤ _; decide)) fun U hU => q U _ (same_upd hU) hU ⟨_, _, _, upd_same, by split <;> omega, ?_, ?_, Int.le_refl _, Int.le_refl _⟩
    · have := Int.emod_nonneg cell (show (100000000000000000000000000000000000000000 + 3 : Int) ≠ 0 by omega)
      omega
    · have := Int.emod_lt_of_pos cell (show (0 : Int) < 100000000000000000000000000000000000000000 + 3 by omega)
      omega
  have tail : ∀ cell : Int, tRet (tLst (tCons (tCB rMax2 (tCons (tC (.int 0)) (tCons (tOp (rI0 fun i j => .int (i - j)) (tCB rAbs1 (tCons (tVar 2) tNil)) (tOp (rI CPow fun i j => .int (i ^ j.toNat)) (tC (.int 10)) (tC (.int 18)))) tNil)))
      (tCons (tOp (rI0 fun i j => .int (i + j)) (tOp (rI0 fun i j => .int (i + j)) (tOp (rI CMulW fun i j => .int (i * j)) (tOp (rI (fun _ j => 0 < j) fun i j => .int (i % j)) (tVar 2) (tOp (rI0 fun i j => .int (i + j)) (tOp (rI CPow fun i j => .int (i ^ j.toNat)) (tC (.int 10)) (tC (.int 41))) (tC (.int 3)))) (tC (.int 128)))
        (tOp (rI CMulW fun i j => .int (i * j)) (tC (.int 3)) (tVar 1))) (tC (.int 1))) (tCons (tC (.int 0)) tNil)))) ⟨fun _ H' => Q .non H', Q, fun _ _ => False, fun _ _ => False⟩ [some (.ref a), some (.int (k : Int)), some (.int cell)] H := fun cell => by
    walk_at "rd"
    refine r_pow (cp (by decide) (by decide)) ?_
    rw [pow18]
    walk_at "rd"
    refine r_pow (cp (by decide) (by decide)) ?_
    rw [pow41]
    walk_at "rd"
    refine r_mod (by decide) ?_
    walk_at "rd"
    refine r_mul (mid_mul (mid_lit ?_ ?_) (mid_lit (by decide) (by decide))) ?_
    · exact Int.emod_nonneg cell (by omega)
    · have := Int.emod_lt_of_pos cell (show (0 : Int) < 100000000000000000000000000000000000000000 + 3 by omega)
      omega
    walk_at "rd"
    refine r_mul (mid_mul (mid_lit (by decide) (by decide)) (mid_lit (by omega) (by omega))) ?_
    walk_at "rd"
    exact fin cell
  walk_at "rd"
  refine ⟨a, _, rfl, .inl ha, ?_⟩
  walk_at "rd"
  refine ite_d (fun c => ?_) fun c => ?_
  · obtain ⟨v, e, hv⟩ := atI_mem (xs := ns.map V.int) (i := (k : Int)) (by omega) c
    obtain ⟨cell, _, rfl⟩ := List.mem_map.mp hv
    walk_at "rd"
    refine ⟨a, _, _, _, rfl, rfl, ha, e, ?_⟩
    exact tail cell
  · exact tail 0
def spBall : Sp := fun vs H Q _ => ∃ (U : Addr) (m : Int) (c : Nat), vs = [.ref U, .int m] ∧ 0 < m ∧ m ≤ 1000000000000000000000000000000 ∧ UrnAt H U c ∧ c < 10000000 ∧ ∀ x H', 0 ≤ x → x < m → SameX U H H' → UrnAt H' U (c + 1) → Q (.int x) H'
theorem ok_ball (T : Txt K mg) : FnOk P w K mg base CX0 1 (He.ga K "_law_ball") T.fd_Lball ["_law_urn_here", "_law_many"] spBall := by
  refine T.d_Lball.F.ok sc_Lball (fun vs H Q E h => ?_) (fun cdv A outer s H vs Q E hr h => ⟨_, PSs.nox (pss_cons (ps_if (pt_cmpR op_gt (pe_ix ix_list (pv 0) pe_int (fun _ _ => rfl)) pe_int (nomark _)) (pss_cons (ps_set (i := 3) sc_Lball.nd rfl (Or.inl rfl) (pe_op op_mod (pe_ix ix_list (pv 0) pe_int (fun _ _ => rfl)) (pv 1)))
    (pss_cons (ps_asg (pe_op op_fdivW (pe_ix ix_list (pv 0) pe_int (fun _ _ => rfl)) (pv 1)) (pg_sub (pv 0) pe_int set_list))
    (pss_one (ps_ret (pv 3))))) pss_nil)
    (pss_cons (ps_asg (pe_op op_add (pe_ix ix_list (pv 0) pe_int (fun _ _ => rfl)) pe_int) (pg_sub (pv 0) pe_int set_list))
    (pss_cons (ps_set (i := 2) sc_Lball.nd rfl (Or.inl rfl) (pe_op op_mod (pe_op op_powW (pe_op op_add (pe_ix ix_list (pv 0) pe_int (fun _ _ => rfl)) (pe_op op_mulW pe_int (pe_ix ix_list (pv 0) pe_int (fun _ _ => rfl)))) pe_int) (pe_op op_add (pe_op op_pow pe_int pe_int) pe_int)))
    (pss_cons (ps_set (i := 2) sc_Lball.nd rfl (Or.inl rfl) (pe_op op_mod (pe_op op_add (pe_op op_add (pe_op op_mulW (pv 2) (pv 2)) (pe_op op_mulW pe_int (pe_ix ix_list (pv 0) pe_int (fun _ _ => rfl)))) pe_int) (pe_op op_add (pe_op op_pow pe_int pe_int) pe_int)))
    (pss_one (ps_ret (pe_op op_mod (pe_op op_fdivW (pv 2) pe_int) (pv 1)))))))), ?_⟩)
  · obtain ⟨U, m, c, rfl, _⟩ := h; rfl
  obtain ⟨U, m, c, rfl, m0, m1, ⟨a, b, e, hU, a0, b0, b1, e0, e1⟩, hc, q⟩ := h
  have mm : Mid m := mid_lit (by omega) (by omega)
  walk_at "rd"
  refine r_ixL hU atu0 ?_
  walk_at "rd"
  refine ite_d (fun c0 => ?_) fun c0 => ?_
  · walk_at "rd"
    refine r_ixL hU atu0 ?_
    walk_at "rd"
    refine r_mod m0 ?_
    walk_at "rd"
    refine r_ixL hU atu0 ?_
    walk_at "rd"
    refine r_fdiv (mid_div mm m0) ?_
    walk_at "rd"
    refine r_setL hU (j := 0) rfl ?_
    walk_at "rd"
    refine q _ _ (Int.emod_nonneg _ (by omega)) (Int.emod_lt_of_pos _ m0) ((SameX.refl U H).wr) ⟨a / m, b, e, upd_same, Int.ediv_nonneg a0 (by omega), b0, b1, e0, by omega⟩
  · walk_at "rd"
    refine r_ixL hU atu2 ?_
    walk_at "rd"
    refine r_setL hU (j := 2) rfl ?_
    walk_at "rd"
    have hU2 : (upd H U (.lst [.int a, .int b, .int (e + 1)])) U = some (.lst [.int a, .int b, .int (e + 1)]) := upd_same
    refine r_ixL hU2 atu1 ?_
    walk_at "rd"
    refine r_ixL hU2 atu2 ?_
    walk_at "rd"
    refine r_mul (mid_mul (mid_lit (by decide) (by decide)) (mid_lit (by omega) (by omega))) ?_
    walk_at "rd"
    have mb : Mid (b + 86028121 * (e + 1)) := mid_lit (by omega) (by omega)
    refine r_powW ⟨by decide, ?_⟩ ?_
    · have := bits_le (mid_nat mb)
      omega
    walk_at "rd"
    refine r_pow (cp (by decide) (by decide)) ?_
    rw [pow43]
    walk_at "rd"
    refine r_mod (by decide) ?_
    walk_at "rd"
    generalize (b + 86028121 * (e + 1)) ^ (3 : Int).toNat = z
    have z0 := Int.emod_nonneg z (show (10000000000000000000000000000000000000000000 + 61 : Int) ≠ 0 by omega)
    have z1 := Int.emod_lt_of_pos z (show (0 : Int) < 10000000000000000000000000000000000000000000 + 61 by omega)
    refine r_mul (mid_mul (mid_lit z0 (by omega)) (mid_lit z0 (by omega))) ?_
    walk_at "rd"
    refine r_ixL hU2 atu2 ?_
    walk_at "rd"
    refine r_mul (mid_mul (mid_lit (by decide) (by decide)) (mid_lit (by omega) (by omega))) ?_
    walk_at "rd"
    refine r_pow (cp (by decide) (by decide)) ?_
    rw [pow42]
    walk_at "rd"
    refine r_mod (by decide) ?_
    walk_at "rd"
    refine r_fdiv (mid_div (mid_lit (by decide) (by decide)) (by decide)) ?_
    walk_at "rd"
    refine r_mod m0 ?_
    exact q _ _ (Int.emod_nonneg _ (by omega)) (Int.emod_lt_of_pos _ m0) ((SameX.refl U H).wr) ⟨a, b, e + 1, upd_same, a0, b0, b1, by omega, by omega⟩
end
theorem SameX.two {D E : Addr} {H H' : Hp} (s : SameX D H H') : ∀ b u, b ≠ D → b ≠ E → H b = some u → H' b = some u := fun b u n _ h => s b u n h
section
variable {P : Program} {w : World} {K : PySem.W.Frag} {mg : Str → Option Value} {base : Heap}
/-- new: was not there -/
def spSay : Sp := fun vs H Q _ => ∃ (U : Addr) (m : Int) (c : Nat), vs = [.ref U, .int m] ∧ 0 < m ∧ m ≤ 1000000000000000000000000000000 ∧ UrnAt H U c ∧ c < 9000000 ∧
  ∀ p s H', SameX U H H' → H p = none → UrnAt H' U (c + 8) → H' p = some (.tup (sgV s)) → sgOk s → Q (.ref p) H'
theorem ok_saying (T : Txt K mg) (G_Lball : FnOk P w K mg base CX0 1 (He.ga K "_law_ball") T.fd_Lball ["_law_urn_here", "_law_many"] spBall) : FnOk P w K mg base CX0 2 (He.ga K "_law_saying") T.fd_Lsaying ["_law_urn_here", "_law_wide"] spSay := by
  refine T.d_Lsaying.F.ok sc_Lsaying (fun vs H Q E h => ?_) (fun cdv A outer s H vs Q E hr h => ⟨_, PSs.nox (pss_cons (ps_set (i := 2) sc_Lsaying.nd rfl (Or.inl rfl) (pe_ix ix_list (pe_lst (pa_cons pe_int (pa_cons (pe_call G_Lball (hr.mono (by omega)) rfl T.g_Lball T.d_Lball.F.kp T.d_Lball.b .nil pass0 (pa_cons (pv 0) (pa_cons pe_int pa_nil))) (pa_cons (pe_call G_Lball (hr.mono (by omega)) rfl T.g_Lball T.d_Lball.F.kp T.d_Lball.b .nil pass0 (pa_cons (pv 0) (pa_cons (pv 1) pa_nil))) (pa_cons (pe_call G_Lball (hr.mono (by omega)) rfl T.g_Lball T.d_Lball.F.kp T.d_Lball.b .nil pass0 (pa_cons (pv 0) (pa_cons (pv 1) pa_nil))) pa_nil))))) (pe_call G_Lball (hr.mono (by omega)) rfl T.g_Lball T.d_Lball.F.kp T.d_Lball.b .nil pass0 (pa_cons (pv 0) (pa_cons pe_int pa_nil))) (fun _ _ => rfl)))
    (pss_cons (ps_set (i := 3) sc_Lsaying.nd rfl (Or.inl rfl) (pe_call G_Lball (hr.mono (by omega)) rfl T.g_Lball T.d_Lball.F.kp T.d_Lball.b .nil pass0 (pa_cons (pv 0) (pa_cons pe_int pa_nil))))
    (pss_cons (ps_if (pt_cmpR op_eq (pv 3) pe_int (nomark _)) (pss_one (ps_ret (pe_tup (pa_cons (pv 2) (pa_cons pe_non pa_nil))))) pss_nil)
    (pss_one (ps_ret (pe_tup (pa_cons (pv 2) (pa_cons (pe_op op_add (pv 2) (pe_ix ix_list (pe_lst (pa_cons pe_int (pa_cons (pe_call G_Lball (hr.mono (by omega)) rfl T.g_Lball T.d_Lball.F.kp T.d_Lball.b .nil pass0 (pa_cons (pv 0) (pa_cons pe_int pa_nil))) (pa_cons (pe_call G_Lball (hr.mono (by omega)) rfl T.g_Lball T.d_Lball.F.kp T.d_Lball.b .nil pass0 (pa_cons (pv 0) (pa_cons pe_int pa_nil))) (pa_cons (pe_call G_Lball (hr.mono (by omega)) rfl T.g_Lball T.d_Lball.F.kp T.d_Lball.b .nil pass0 (pa_cons (pv 0) (pa_cons (pv 1) pa_nil))) pa_nil))))) (pv 3) (fun _ _ => rfl))) pa_nil)))))))), ?_⟩)
  · obtain ⟨U, m, c, rfl, _⟩ := h; rfl
  obtain ⟨U, m, c, rfl, m0, m1, hU, hc, q⟩ := h
  have b30 : (1000000000000000000000000000000 : Int) ≤ BB := by decide
  have BBe : BB = 10000000000000000000000000000000 := rfl
  walk_at "rd"
  refine ⟨U, 4, c, rfl, by omega, by omega, hU, by omega, fun x1 H1 a1 b1 s1 u1 => ?_⟩
  walk_at "rd"
  refine ⟨U, m, _, rfl, m0, m1, u1, by omega, fun x2 H2 a2 b2 s2 u2 => ?_⟩
  walk_at "rd"
  refine ⟨U, m, _, rfl, m0, m1, u2, by omega, fun x3 H3 a3 b3 s3 u3 => ?_⟩
  walk_at "rd"
  refine p_new (sz (by show 4 ≤ _; decide)) fun l4 h4 => ?_
  have s4 : Same H3 (upd H3 l4 (.lst [.int 0, .int x1, .int x2, .int x3])) := same_upd h4
  walk_at "rd"
  refine ⟨U, 4, _, rfl, by omega, by omega, u3.same s4, by omega, fun i H5 i0 i1 s5 u5 => ?_⟩
  have nU : l4 ≠ U := fun z => u3.some (z ▸ h4)
  have e5 : H5 l4 = some (.lst [.int 0, .int x1, .int x2, .int x3]) := s5 _ _ nU upd_same
  obtain ⟨v, ev, hv⟩ := atI_mem (xs := [V.int 0, .int x1, .int x2, .int x3]) i0 (by show i < 4; omega)
  obtain ⟨lo, rfl, lo0, lo1⟩ : ∃ lo : Int, v = .int lo ∧ 0 ≤ lo ∧ lo < 1000000000000000000000000000004 := by
    simp only [List.mem_cons, List.not_mem_nil, or_false] at hv
    rcases hv with rfl | rfl | rfl | rfl
    · exact ⟨_, rfl, by omega, by omega⟩
    · exact ⟨_, rfl, by omega, by omega⟩
    · exact ⟨_, rfl, by omega, by omega⟩
    · exact ⟨_, rfl, by omega, by omega⟩
  refine r_ixL e5 ev ?_
  walk_at "rd"
  have sA : SameX U H H5 := s1.trans (s2.trans (s3.trans ((SameX.of s4).trans s5)))
  refine ⟨U, 5, _, rfl, by omega, by omega, u5, by omega, fun y H6 y0 y1 s6 u6 => ?_⟩
  walk_at "rd"
  have sB := sA.trans s6
  refine ite_d (fun c4 => ?_) fun c4 => ?_
  · walk_at "rd"
    refine p_new (sz (by show 2 ≤ _; decide)) fun p hp => ?_
    refine q p (lo, none) _ (sB.trans (SameX.of (same_upd hp))) ?_ ((u6.same (same_upd hp)).mono (by omega)) upd_same ⟨lo0, by show lo ≤ BB; omega, fun m z => (nomatch z)⟩
    cases e : H p with
    | none => rfl
    | some o =>
      by_cases z : p = U
      · exact absurd (z ▸ hp) u6.some
      · rw [sB _ _ z e] at hp; cases hp
  · walk_at "rd"
    refine ⟨U, 3, _, rfl, by omega, by omega, u6, by omega, fun w1 H7 a7 b7 s7 u7 => ?_⟩
    walk_at "rd"
    refine ⟨U, 9, _, rfl, by omega, by omega, u7, by omega, fun w2 H8 a8 b8 s8 u8 => ?_⟩
    walk_at "rd"
    refine ⟨U, m, _, rfl, m0, m1, u8, by omega, fun w3 H9 a9 b9 s9 u9 => ?_⟩
    walk_at "rd"
    refine p_new (sz (by show 4 ≤ _; decide)) fun l5 h5 => ?_
    walk_at "rd"
    have s10 : Same H9 (upd H9 l5 (.lst [.int 0, .int w1, .int w2, .int w3])) := same_upd h5
    obtain ⟨v2, ev2, hv2⟩ := atI_mem (xs := [V.int 0, .int w1, .int w2, .int w3]) y0 (by show y < 4; omega)
    obtain ⟨gr, rfl, gr0, gr1⟩ : ∃ lo : Int, v2 = .int lo ∧ 0 ≤ lo ∧ lo < 1000000000000000000000000000009 := by
      simp only [List.mem_cons, List.not_mem_nil, or_false] at hv2
      rcases hv2 with rfl | rfl | rfl | rfl
      · exact ⟨_, rfl, by omega, by omega⟩
      · exact ⟨_, rfl, by omega, by omega⟩
      · exact ⟨_, rfl, by omega, by omega⟩
      · exact ⟨_, rfl, by omega, by omega⟩
    refine r_ixL upd_same ev2 ?_
    walk_at "rd"
    have sC := sB.trans (s7.trans (s8.trans (s9.trans (SameX.of s10))))
    refine p_new (sz (by show 2 ≤ _; decide)) fun p hp => ?_
    refine q p (lo, some (lo + gr)) _ (sC.trans (SameX.of (same_upd hp))) ?_ (((u9.same s10).same (same_upd hp)).mono (by omega)) upd_same ⟨lo0, by show lo ≤ BB; omega, fun m z => ?_⟩
    · cases e : H p with
      | none => rfl
      | some o =>
        by_cases z : p = U
        · exact absurd (z ▸ hp) (u9.same s10).some
        · rw [sC _ _ z e] at hp; cases hp
    · cases z
      exact ⟨by show lo ≤ lo + gr; omega, by omega⟩
/-! people of a long row -/
def spLPeople (d : Nat) : Sp := fun vs H Q _ => ∃ (M : Addr → Prop) (b : Addr) (ps : List Pt), vs = [.ref b] ∧ LgsA M H ps b ∧ oks ps ∧ dps ps < d ∧ manys ps ≤ BB ∧ Q (.int (manys ps)) H
theorem ok_Lpeople1 (T : Txt K mg) {k d : Nat} (G_Lpeople : FnOk P w K mg base CX0 k (He.ga K "_law_people") T.fd_Lpeople ["_law_long_here"] (spLPeople d)) : FnOk P w K mg base CX0 (k + 1) (He.ga K "_law_people") T.fd_Lpeople ["_law_long_here"] (spLPeople (d + 1)) := by
  refine T.d_Lpeople.F.ok sc_Lpeople (fun vs H Q E h => ?_) (fun cdv A outer s H vs Q E hr h => ⟨_, PSs.nox (pss_cons (ps_set (i := 1) sc_Lpeople.nd rfl (Or.inl rfl) pe_int)
    (pss_cons (ps_for PassesOwn.never rfl (pi_list (pv 0)) (pg_name (i := 2) sc_Lpeople.nd rfl (Or.inl rfl)) (pss_one (ps_set (i := 1) sc_Lpeople.nd rfl (Or.inl rfl) (pe_op op_add (pv 1) (pe_ifExp (pt_cmpR op_eq (pe_ix ix_tup (pv 2) pe_int (fun _ _ => rfl)) pe_str (nomark _)) (pe_op op_mulW (pe_ix ix_tup (pv 2) pe_int (fun _ _ => rfl)) (pe_call G_Lpeople (hr.mono (by omega)) rfl T.g_Lpeople T.d_Lpeople.F.kp T.d_Lpeople.b .nil pass0 (pa_cons (pe_ix ix_tup (pv 2) pe_int (fun _ _ => rfl)) pa_nil))) pe_int)))))
    (pss_one (ps_ret (pv 1))))), ?_⟩)
  · obtain ⟨M, b, ps, rfl, _⟩ := h; rfl
  obtain ⟨M, b, ps, rfl, ⟨nb, xs, hb, hx⟩, ho, hd, hB, q⟩ := h
  have hl := hx.len
  walk_at "rd"
  refine p_forL hb (fun i σ H' => ∃ (v2 : Option V), σ = [some (.ref b), some (.int (manys (ps.take i))), v2] ∧ H' = H)
    ⟨none, by rw [List.take_zero, manys]; rfl, rfl⟩ (fun i σ H' _ ⟨_, _, z⟩ => z ▸ hb) ?_ ?_
  · rintro i v σ H' hi ⟨v2, rfl, rfl⟩
    obtain ⟨pt, hp, hpv⟩ := LgLA.get _ _ hx hi
    obtain ⟨g1, g2, g3⟩ := oks_get ho hp
    have mt := manys_take hp
    walk_at "rd"
    cases pt with
    | spot sg n =>
      rw [LgA] at hpv
      obtain ⟨p, rfl, np, e2⟩ := hpv
      obtain ⟨lo, hi2⟩ := sg
      refine r_ixT (v := .int lo) e2 rfl ?_
      walk_at "rd"
      refine r_eq rfl ?_
      walk_at "rd"
      refine ite_f (fun z => nomatch z) ?_
      walk_at "rd"
      exact ⟨_, by rw [mt, Pt.many]; rfl, rfl⟩
    | over t qs =>
      rw [LgA] at hpv
      obtain ⟨p, b2, vs, rfl, np, nb2, e2, e3, h3⟩ := hpv
      have g1' := g1
      rw [Pt.ok] at g1'
      rw [Pt.dp] at g2
      refine r_ixT e2 (v := .str "again") rfl ?_
      walk_at "rd"
      refine r_eq rfl ?_
      walk_at "rd"
      refine ite_t rfl ?_
      walk_at "rd"
      refine r_ixT e2 (v := .int t) rfl ?_
      walk_at "rd"
      refine r_ixT e2 (v := .ref b2) rfl ?_
      walk_at "rd"
      refine ⟨M, b2, qs, rfl, ⟨nb2, vs, e3, h3⟩, g1'.2.2.2, by omega, g1'.2.2.1, ?_⟩
      refine r_mul (mid_mul (mid_of g1'.1 g1'.2.1) (mid_of (manys_nn qs g1'.2.2.2) g1'.2.2.1)) ?_
      walk_at "rd"
      exact ⟨_, by rw [mt, Pt.many]; rfl, rfl⟩
  · rintro σ H' ⟨v2, rfl, rfl⟩
    rw [List.take_of_length_le (by omega)]
    walk_at "rd"
    exact q
theorem ok_Lpeople (T : Txt K mg) : ∀ d : Nat, FnOk P w K mg base CX0 d (He.ga K "_law_people") T.fd_Lpeople ["_law_long_here"] (spLPeople d)
  | 0 => vac fun vs H Q E h => by
    obtain ⟨M, b, ps, _, _, _, hd, _⟩ := h
    omega
  | d + 1 => ok_Lpeople1 T (ok_Lpeople T d)
/-! sayings of a long row -/
def SayL (H : Hp) (ys : List V) : Prop := ∀ y ∈ ys, ∃ p s, y = .ref p ∧ H p = some (.tup (sgV s)) ∧ sgOk s
def spLSayings (d : Nat) : Sp := fun vs H Q _ => ∃ (M : Addr → Prop) (b : Addr) (ps : List Pt), vs = [.ref b] ∧ LgsA M H ps b ∧ oks ps ∧ dps ps < d ∧ wts ps ≤ 1600000 ∧
  ∀ D ys H', Same H H' → H D = none → H' D = some (.lst ys) → ys.length ≤ wts ps → SayL H' ys → Q (.ref D) H'
theorem ok_Lsayings1 (T : Txt K mg) {k d : Nat} (G_Lsayings : FnOk P w K mg base CX0 k (He.ga K "_law_sayings") T.fd_Lsayings ["_law_long_here"] (spLSayings d)) : FnOk P w K mg base CX0 (k + 1) (He.ga K "_law_sayings") T.fd_Lsayings ["_law_long_here"] (spLSayings (d + 1)) := by
  refine T.d_Lsayings.F.ok sc_Lsayings (fun vs H Q E h => ?_) (fun cdv A outer s H vs Q E hr h => ⟨_, PSs.nox (pss_cons (ps_set (i := 1) sc_Lsayings.nd rfl (Or.inl rfl) (pe_lst pa_nil))
    (pss_cons (ps_for PassesOwn.never rfl (pi_list (pv 0)) (pg_name (i := 2) sc_Lsayings.nd rfl (Or.inl rfl)) (pss_one (ps_expr (pe_bm PySem.F.plainAttrs_list PySem.F.slot_list_extend PySem.F.type_list_extend mt_extend (pv 1) (pa_cons (pe_ifExp (pt_cmpR op_eq (pe_ix ix_tup (pv 2) pe_int (fun _ _ => rfl)) pe_str (nomark _)) (pe_call G_Lsayings (hr.mono (by omega)) rfl T.g_Lsayings T.d_Lsayings.F.kp T.d_Lsayings.b .nil pass0 (pa_cons (pe_ix ix_tup (pv 2) pe_int (fun _ _ => rfl)) pa_nil)) (pe_lst (pa_cons (pv 2) pa_nil))) pa_nil)))))
    (pss_one (ps_ret (pv 1))))), ?_⟩)
  · obtain ⟨M, b, ps, rfl, _⟩ := h; rfl
  obtain ⟨M, b, ps, rfl, ⟨nb, xs, hb, hx⟩, ho, hd, hw, q⟩ := h
  have hl := hx.len
  walk_at "rd"
  refine p_new (sz (by show 0 ≤ _; decide)) fun D hD => ?_
  walk_at "rd"
  have s0 : Same H (upd H D (.lst [])) := same_upd hD
  refine p_forL (s0 _ _ hb) (fun i σ H' => ∃ (ys : List V) (v2 : Option V), σ = [some (.ref b), some (.ref D), v2] ∧ Same H H' ∧ H' D = some (.lst ys) ∧ ys.length ≤ wts (ps.take i) ∧ SayL H' ys)
    ⟨[], none, rfl, s0, upd_same, by exact Nat.zero_le _, fun _ z => (nomatch z)⟩ (fun i σ H' _ ⟨_, _, _, z, _⟩ => z _ _ hb) ?_ ?_
  · rintro i v σ H' hi ⟨ys, v2, rfl, s1, hD1, yl, sy⟩
    obtain ⟨pt, hp, hpv⟩ := LgLA.get _ _ hx hi
    obtain ⟨g1, g2, g3⟩ := oks_get ho hp
    have wt1 : wts (ps.take (i + 1)) = wts (ps.take i) + pt.wt := by rw [take_snoc hp, wts_app, wts_one]
    have wt2 : wts (ps.take (i + 1)) ≤ wts ps := by
      have e := wts_app (ps.take (i + 1)) (ps.drop (i + 1))
      rw [List.take_append_drop] at e
      omega
    have fin : ∀ (zs : List V) (r : Addr) (H2 : Hp), Same H' H2 → H2 r = some (.lst zs) → zs.length ≤ pt.wt → SayL H2 zs →
        rExtend (.ref D) [.ref r] H2 (fun _ H2 => ∃ (ys : List V) (v2 : Option V), ([some (.ref b), some (.ref D), some v] : L2.St) = [some (.ref b), some (.ref D), v2] ∧ Same H H2 ∧ H2 D = some (.lst ys) ∧ ys.length ≤ wts (ps.take (i + 1)) ∧ SayL H2 ys) := fun zs r H2 s2 hr zl sz2 => by
      refine r_extend (s2 _ _ hD1) hr (sz (by omega)) ?_
      refine ⟨ys ++ zs, _, rfl, (s1.trans s2).wr hD, upd_same, by rw [List.length_append]; omega, fun y hy => ?_⟩
      obtain ⟨p, s, e, e2, e3⟩ : ∃ p s, y = .ref p ∧ H2 p = some (.tup (sgV s)) ∧ sgOk s := by
        rcases List.mem_append.mp hy with z | z
        · obtain ⟨p, s, e, e2, e3⟩ := sy y z
          exact ⟨p, s, e, s2 _ _ e2, e3⟩
        · exact sz2 y z
      exact ⟨p, s, e, by rw [upd_ne (fun z => by rw [z, s2 _ _ hD1] at e2; cases e2)]; exact e2, e3⟩
    walk_at "rd"
    refine p_bmL hD1 ?_
    walk_at "rd"
    cases pt with
    | spot sg n =>
      rw [LgA] at hpv
      obtain ⟨p, rfl, np, e2⟩ := hpv
      rw [Pt.ok] at g1
      obtain ⟨lo, hi2⟩ := sg
      refine r_ixT (v := .int lo) (s1 _ _ e2) rfl ?_
      walk_at "rd"
      refine r_eq rfl ?_
      walk_at "rd"
      refine ite_f (fun z => nomatch z) ?_
      walk_at "rd"
      refine p_new (sz (by show 1 ≤ _; decide)) fun r hr => ?_
      walk_at "rd"
      refine fin [.ref p] r _ (same_upd hr) upd_same (by rw [Pt.wt]; exact Nat.le_refl _) fun y hy => ?_
      rw [List.mem_singleton.mp hy]
      exact ⟨p, _, rfl, same_upd hr _ _ (s1 _ _ e2), g1⟩
    | over t qs =>
      rw [LgA] at hpv
      obtain ⟨p, b2, vs, rfl, np, nb2, e2, e3, h3⟩ := hpv
      have g1' := g1
      rw [Pt.ok] at g1'
      rw [Pt.dp] at g2
      rw [Pt.wt] at g3
      refine r_ixT (s1 _ _ e2) (v := .str "again") rfl ?_
      walk_at "rd"
      refine r_eq rfl ?_
      walk_at "rd"
      refine ite_t rfl ?_
      walk_at "rd"
      refine r_ixT (s1 _ _ e2) (v := .ref b2) rfl ?_
      walk_at "rd"
      refine ⟨M, b2, qs, rfl, LgsA.to (Keep.same s1) ⟨nb2, vs, e3, h3⟩, g1'.2.2.2, by omega, by omega, fun r zs H2 s2 hr0 hr zl sy2 => ?_⟩
      walk_at "rd"
      exact fin zs r H2 s2 hr (by rw [Pt.wt]; omega) sy2
  · rintro σ H' ⟨ys, v2, rfl, s1, hD1, yl, sy⟩
    rw [List.take_of_length_le (by omega)] at yl
    walk_at "rd"
    exact q D ys H' s1 hD hD1 yl sy
theorem ok_Lsayings (T : Txt K mg) : ∀ d : Nat, FnOk P w K mg base CX0 d (He.ga K "_law_sayings") T.fd_Lsayings ["_law_long_here"] (spLSayings d)
  | 0 => vac fun vs H Q E h => by
    obtain ⟨M, b, ps, _, _, _, hd, _⟩ := h
    omega
  | d + 1 => ok_Lsayings1 T (ok_Lsayings T d)
end
/-- all stands but at two places -/
def Same2 (D E : Addr) (H H' : Hp) : Prop := ∀ b u, b ≠ D → b ≠ E → H b = some u → H' b = some u
theorem Same2.trans {D E : Addr} {H H1 H2 : Hp} (s : Same2 D E H H1) (t : Same2 D E H1 H2) : Same2 D E H H2 := fun b u n m h => t b u n m (s b u n m h)
theorem Same2.of {D E : Addr} {H H' : Hp} (s : Same H H') : Same2 D E H H' := fun b u _ _ h => s b u h
theorem Same2.x {D E : Addr} {H H' : Hp} (s : SameX D H H') : Same2 D E H H' := fun b u n _ h => s b u n h
theorem Same2.y {D E : Addr} {H H' : Hp} (s : SameX E H H') : Same2 D E H H' := fun b u _ n h => s b u n h
theorem Same2.wr {D E p : Addr} {H H1 : Hp} {o : HO} (s : Same2 D E H H1) (h : H p = none) : Same2 D E H (upd H1 p o) := fun b u n m q => by rw [upd_ne (ne_of_none q h)]; exact s b u n m q
theorem Same2.keep {D E : Addr} {M : Addr → Prop} {H H' : Hp} (s : Same2 D E H H') (h : M D) (h2 : M E) : Keep M M H H' := ⟨fun _ z => .inl z, fun a o n e => s a o (fun z => n (z ▸ h)) (fun z => n (z ▸ h2)) e⟩
theorem Same2.free {D E : Addr} {H H' : Hp} (s : Same2 D E H H') (hD : H' D ≠ none) (hE : H' E ≠ none) {a : Addr} (h : H' a = none) : H a = none := by
  cases e : H a with
  | none => rfl
  | some o =>
    rw [s a o (fun z => hD (z ▸ h)) (fun z => hE (z ▸ h)) e] at h
    cases h
theorem Same2.hM {D E : Addr} {M : Addr → Prop} {H H' : Hp} (s : Same2 D E H H') (hD : H' D ≠ none) (hE : H' E ≠ none) (h : ∀ a, M a → H a ≠ none) : ∀ a, M a → H' a ≠ none := fun a z e => h a z (s.free hD hE e)
theorem SameX.free {D : Addr} {H H' : Hp} (s : SameX D H H') (hD : H' D ≠ none) {a : Addr} (h : H' a = none) : H a = none := by
  cases e : H a with
  | none => rfl
  | some o =>
    rw [s a o (fun z => hD (z ▸ h)) e] at h
    cases h
theorem SameX.hM {D : Addr} {M : Addr → Prop} {H H' : Hp} (s : SameX D H H') (hD : H' D ≠ none) (h : ∀ a, M a → H a ≠ none) : ∀ a, M a → H' a ≠ none := fun a z e => h a z (s.free hD e)
theorem pow10_pos (n : Nat) : 1 ≤ 10 ^ n := Nat.pos_of_ne_zero (by
  intro h
  have := Nat.pow_pos (n := n) (show 0 < 10 by decide)
  omega)
theorem many_fit {r m x : Int} (hr : 0 ≤ r) (hm : 0 ≤ m) (hx : 0 ≤ x) : 0 ≤ (if r / (if m > 1 then m else 1) < x then r / (if m > 1 then m else 1) else x) ∧ (if r / (if m > 1 then m else 1) < x then r / (if m > 1 then m else 1) else x) * m ≤ r ∧
    (if r / (if m > 1 then m else 1) < x then r / (if m > 1 then m else 1) else x) ≤ x := by
  have pm : 0 < (if m > 1 then m else 1) := by split <;> omega
  have pl : m ≤ (if m > 1 then m else 1) := by split <;> omega
  generalize (if m > 1 then m else 1) = p at *
  have d0 : 0 ≤ r / p := Int.ediv_nonneg hr (by omega)
  have d1 : r / p * p ≤ r := Int.ediv_mul_le r (by omega)
  have d2 : r / p * m ≤ r / p * p := Int.mul_le_mul_of_nonneg_left pl d0
  split
  · exact ⟨d0, by omega, by omega⟩
  · have : x * m ≤ r / p * m := Int.mul_le_mul_of_nonneg_right (by omega) hm
    exact ⟨hx, by omega, Int.le_refl _⟩
theorem ifV {σ : L2.St} {H : Hp} {Q : VK} {tb : TE} {p : Prop} [Decidable p] (R : V → Hp → Prop) (go : ∀ v H', R v H' → Q v H') (h1 : p → ∀ Q2 : VK, (∀ v H', R v H' → Q2 v H') → tb σ H Q2) (h2 : ¬ p → R (.bl false) H) : if decide p = true then tb σ H Q else Q (.bl false) H :=
  ite_d (fun c => h1 c Q go) fun c => go _ _ (h2 c)
section
variable {P : Program} {w : World} {K : PySem.W.Frag} {mg : Str → Option Value} {base : Heap}
def spLong (e : Nat) : Sp := fun vs H Q _ => ∃ (M : Addr → Prop) (U Pl : Addr) (dp n : Nat) (far wide room : Int) (c : Nat), vs = [.ref U, .ref Pl, .int (dp : Int), .int room] ∧ dp < e ∧ M U ∧ M Pl ∧ U ≠ Pl ∧ (∀ a, M a → H a ≠ none) ∧ UrnAt H U c ∧ c + 100 * 10 ^ dp ≤ 8000000 ∧
  H Pl = some (.lst [.int (n : Int), .int far, .int wide]) ∧ 0 ≤ far ∧ far ≤ 100000000000000000000000000000 ∧ 0 < wide ∧ wide ≤ 100000000000000000000000000000 ∧ 0 ≤ room ∧ room ≤ 100000000000000000000000000000 ∧
  ∀ r ps n' H', Same2 U Pl H H' → UrnAt H' U (c + 100 * 10 ^ dp) → H' Pl = some (.lst [.int ((n' : Nat) : Int), .int far, .int wide]) → H r = none → LgsA M H' ps r → oks ps → dps ps ≤ dp → wts ps + 3 ^ dp * n' ≤ 3 ^ dp * n → manys ps ≤ room → Q (.ref r) H'
theorem ok_Llong1 (T : Txt K mg) {k d : Nat} (hk : 8 ≤ k) (hd8 : d < 8) (G_Lball : FnOk P w K mg base CX0 1 (He.ga K "_law_ball") T.fd_Lball ["_law_urn_here", "_law_many"] spBall) (G_Lsaying : FnOk P w K mg base CX0 2 (He.ga K "_law_saying") T.fd_Lsaying ["_law_urn_here", "_law_wide"] spSay)
    (G_Lpeople : FnOk P w K mg base CX0 8 (He.ga K "_law_people") T.fd_Lpeople ["_law_long_here"] (spLPeople 8)) (G_Llong : FnOk P w K mg base CX0 k (He.ga K "_law_long") T.fd_Llong ["_law_urn_here", "_law_plan", "_law_deep", "_law_room"] (spLong d)) :
    FnOk P w K mg base CX0 (k + 1) (He.ga K "_law_long") T.fd_Llong ["_law_urn_here", "_law_plan", "_law_deep", "_law_room"] (spLong (d + 1)) := by
  refine T.d_Llong.F.ok sc_Llong (fun vs H Q E h => ?_) (fun cdv A outer s H vs Q E hr h => ⟨_, PSs.nox (pss_cons (ps_set (i := 4) sc_Llong.nd rfl (Or.inl rfl) (pe_lst pa_nil))
    (pss_cons (ps_for PassesOwn.never rfl (pi_range1 rfl T.z_range (pa_cons (pe_ix ix_list (pe_lst (pa_cons pe_int (pa_cons pe_int (pa_cons pe_int (pa_cons pe_int (pa_cons pe_int (pa_cons pe_int pa_nil))))))) (pe_call G_Lball (hr.mono (by omega)) rfl T.g_Lball T.d_Lball.F.kp T.d_Lball.b .nil pass0 (pa_cons (pv 0) (pa_cons pe_int pa_nil))) (fun _ _ => rfl)) pa_nil)) (pg_name (i := 5) sc_Llong.nd rfl (Or.inl rfl)) (pss_cons (ps_set (i := 6) sc_Llong.nd rfl (Or.inl rfl) (pe_and (pe_cmpR op_gt (pv 2) pe_int (nomark _)) (pe_one (pe_cmpR op_gt (pe_call G_Lball (hr.mono (by omega)) rfl T.g_Lball T.d_Lball.F.kp T.d_Lball.b .nil pass0 (pa_cons (pv 0) (pa_cons pe_int pa_nil))) pe_int (nomark _)))))
    (pss_one (ps_if (PW.pt (pw_and (pt_cmpR op_gt (pe_ix ix_list (pv 1) pe_int (fun _ _ => rfl)) pe_int (nomark _)) (pw_and1 (pt_cmpR op_gt (pv 3) pe_int (nomark _))))) (pss_cons (ps_asg (pe_op op_sub (pe_ix ix_list (pv 1) pe_int (fun _ _ => rfl)) pe_int) (pg_sub (pv 1) pe_int set_list))
    (pss_one (ps_if (pt_val (pv 6)) (pss_cons (ps_set (i := 7) sc_Llong.nd rfl (Or.inl rfl) (pe_call G_Llong (hr.mono (by omega)) rfl T.g_Llong T.d_Llong.F.kp T.d_Llong.b .nil pass0 (pa_cons (pv 0) (pa_cons (pv 1) (pa_cons (pe_op op_sub (pv 2) pe_int) (pa_cons (pv 3) pa_nil))))))
    (pss_cons (ps_set (i := 8) sc_Llong.nd rfl (Or.inl rfl) (pe_ix ix_list (pe_lst (pa_cons (pe_call G_Lball (hr.mono (by omega)) rfl T.g_Lball T.d_Lball.F.kp T.d_Lball.b .nil pass0 (pa_cons (pv 0) (pa_cons pe_int pa_nil))) (pa_cons (pe_op op_add pe_int (pe_call G_Lball (hr.mono (by omega)) rfl T.g_Lball T.d_Lball.F.kp T.d_Lball.b .nil pass0 (pa_cons (pv 0) (pa_cons pe_int pa_nil)))) (pa_cons (pe_call G_Lball (hr.mono (by omega)) rfl T.g_Lball T.d_Lball.F.kp T.d_Lball.b .nil pass0 (pa_cons (pv 0) (pa_cons (pe_op op_add (pe_ix ix_list (pv 1) pe_int (fun _ _ => rfl)) pe_int) pa_nil))) pa_nil)))) (pe_call G_Lball (hr.mono (by omega)) rfl T.g_Lball T.d_Lball.F.kp T.d_Lball.b .nil pass0 (pa_cons (pv 0) (pa_cons pe_int pa_nil))) (fun _ _ => rfl)))
    (pss_cons (ps_set (i := 8) sc_Llong.nd rfl (Or.inl rfl) (pe_callB (call_minN rfl) (by rfl) T.z_min bt_min (pa_cons (pv 8) (pa_cons (pe_op op_fdivW (pv 3) (pe_callB (call_maxN rfl) (by rfl) T.z_max bt_max (pa_cons pe_int (pa_cons (pe_call G_Lpeople (hr.mono (by omega)) rfl T.g_Lpeople T.d_Lpeople.F.kp T.d_Lpeople.b .nil pass0 (pa_cons (pv 7) pa_nil)) pa_nil)))) pa_nil))))
    (pss_cons (ps_expr (pe_bm PySem.F.plainAttrs_list PySem.F.slot_list_append PySem.F.type_list_append mt_append (pv 4) (pa_cons (pe_tup (pa_cons pe_str (pa_cons (pv 8) (pa_cons (pv 7) pa_nil)))) pa_nil)))
    (pss_one (ps_set (i := 3) sc_Llong.nd rfl (Or.inl rfl) (pe_op op_sub (pv 3) (pe_op op_mulW (pv 8) (pe_call G_Lpeople (hr.mono (by omega)) rfl T.g_Lpeople T.d_Lpeople.F.kp T.d_Lpeople.b .nil pass0 (pa_cons (pv 7) pa_nil)))))))))) (pss_cons (ps_expr (pe_bm PySem.F.plainAttrs_list PySem.F.slot_list_append PySem.F.type_list_append mt_append (pv 4) (pa_cons (pe_call G_Lsaying (hr.mono (by omega)) rfl T.g_Lsaying T.d_Lsaying.F.kp T.d_Lsaying.b .nil pass0 (pa_cons (pv 0) (pa_cons (pe_ix ix_list (pv 1) pe_int (fun _ _ => rfl)) pa_nil))) pa_nil)))
    (pss_one (ps_set (i := 3) sc_Llong.nd rfl (Or.inl rfl) (pe_op op_sub (pv 3) pe_int))))))) pss_nil))))
    (pss_one (ps_ret (pv 4))))), ?_⟩)
  · obtain ⟨M, U, Pl, dp, n, far, wide, room, c, rfl, _⟩ := h; rfl
  obtain ⟨M, U, Pl, dp, n, far, wide, room, c, rfl, dlt, MU, MP, nUP, hM, hU, hc, hP, f0, f1, w0, w1, r0, r1, q⟩ := h
  have p10 := pow10_pos dp
  walk_at "rd"
  refine p_new (sz (by show 0 ≤ _; decide)) fun D hD => ?_
  walk_at "rd"
  have s0 : Same H (upd H D (.lst [])) := same_upd hD
  refine p_new (sz (by show 6 ≤ _; decide)) fun L hL => ?_
  have s1 : Same (upd H D (.lst [])) (upd (upd H D (.lst [])) L (.lst [.int 3, .int 1, .int 2, .int 4, .int 5, .int 0])) := same_upd hL
  have s01 := s0.trans s1
  walk_at "rd"
  refine ⟨U, 6, c, rfl, by omega, by omega, hU.same s01, by omega, fun i H1 i0 i1 sx u1 => ?_⟩
  have nLU : L ≠ U := fun z => (hU.same s0).some (z ▸ hL)
  obtain ⟨v, ev, hv⟩ := atI_mem (xs := [V.int 3, .int 1, .int 2, .int 4, .int 5, .int 0]) i0 (by show i < 6; omega)
  obtain ⟨j, rfl, j5⟩ : ∃ j : Nat, v = .int (j : Int) ∧ j ≤ 5 := by
    simp only [List.mem_cons, List.not_mem_nil, or_false] at hv
    rcases hv with rfl | rfl | rfl | rfl | rfl | rfl
    · exact ⟨3, rfl, by omega⟩
    · exact ⟨1, rfl, by omega⟩
    · exact ⟨2, rfl, by omega⟩
    · exact ⟨4, rfl, by omega⟩
    · exact ⟨5, rfl, by omega⟩
    · exact ⟨0, rfl, by omega⟩
  refine r_ixL (sx _ _ nLU upd_same) ev ?_
  walk_at "rd"
  have nDU : D ≠ U := fun z => hU.some (z ▸ hD)
  have nDP : D ≠ Pl := fun z => by rw [z, hP] at hD; cases hD
  have sH1 : Same2 U Pl H H1 := (Same2.of s01).trans (Same2.x sx)
  refine p_forR (by omega) (fun i σ H' => ∃ (n' : Nat) (rm : Int) (ps : List Pt) (ws : List V) (v5 v6 v7 v8 : Option V), σ = [some (.ref U), some (.ref Pl), some (.int (dp : Int)), some (.int rm), some (.ref D), v5, v6, v7, v8] ∧ Same2 U Pl H H' ∧ UrnAt H' U (c + 1 + i * (19 * 10 ^ dp)) ∧
      H' Pl = some (.lst [.int (n' : Int), .int far, .int wide]) ∧ H' D = some (.lst ws) ∧ LgLA (fun a => M a ∨ a = D) H' ps ws ∧ oks ps ∧ dps ps ≤ dp ∧ wts ps + 3 ^ dp * n' ≤ 3 ^ dp * n ∧ manys ps + rm ≤ room ∧ 0 ≤ rm ∧ rm ≤ room ∧ ws.length ≤ i)
    ⟨n, room, [], [], none, none, none, none, rfl, sH1, u1.mono (by omega), sx _ _ nUP.symm (s01 _ _ hP), sx _ _ nDU (s1 _ _ upd_same), by rw [LgLA], trivial, by rw [dps]; omega, by rw [wts]; omega, by rw [manys]; omega, r0, Int.le_refl _, Nat.le_refl _⟩ ?_ ?_
  · rintro i σ H' hi ⟨n', rm, ps, ws, v5, v6, v7, v8, rfl, s2, u2, hP2, hD2, hl2, ok2, d2, w2, m2, rm0, rm1, wl⟩
    have hnP : ∀ {H3 : Hp} {o : HO}, H3 Pl = some o → H3 Pl ≠ none := fun e => by rw [e]; exact fun z => nomatch z
    have ci : c + 1 + i * (19 * 10 ^ dp) + 19 * 10 ^ dp ≤ c + 100 * 10 ^ dp := by
      have h1 : i * (19 * 10 ^ dp) ≤ 4 * (19 * 10 ^ dp) := Nat.mul_le_mul_right _ (by omega)
      omega
    have ci2 : c + 1 + (i + 1) * (19 * 10 ^ dp) = c + 1 + i * (19 * 10 ^ dp) + 19 * 10 ^ dp := by rw [Nat.add_mul, Nat.one_mul]; omega
    -- a thing is put
    have put : ∀ (y : V) (pt : Pt) (n2 : Nat) (rm2 : Int) (H3 : Hp) (Q2 : VK), Same2 U Pl H' H3 → UrnAt H3 U (c + 1 + (i + 1) * (19 * 10 ^ dp)) → H3 Pl = some (.lst [.int (n2 : Int), .int far, .int wide]) → LgA (fun a => M a ∨ a = D) H3 pt y →
        pt.ok → pt.dp ≤ dp → pt.wt + 3 ^ dp * n2 ≤ 3 ^ dp * n' → pt.many + rm2 ≤ rm → 0 ≤ rm2 → (∀ H4, UrnAt H4 U (c + 1 + (i + 1) * (19 * 10 ^ dp)) → (∀ b u, b ≠ D → H3 b = some u → H4 b = some u) → (∀ w5 w6 w7 w8 : Option V, ∃ (n' : Nat) (rm : Int) (ps : List Pt) (ws : List V) (v5 v6 v7 v8 : Option V), ([some (.ref U), some (.ref Pl), some (.int (dp : Int)), some (.int rm2), some (.ref D), w5, w6, w7, w8] : L2.St) = [some (.ref U), some (.ref Pl), some (.int (dp : Int)), some (.int rm), some (.ref D), v5, v6, v7, v8] ∧
          Same2 U Pl H H4 ∧ UrnAt H4 U (c + 1 + (i + 1) * (19 * 10 ^ dp)) ∧ H4 Pl = some (.lst [.int (n' : Int), .int far, .int wide]) ∧ H4 D = some (.lst ws) ∧ LgLA (fun a => M a ∨ a = D) H4 ps ws ∧ oks ps ∧ dps ps ≤ dp ∧ wts ps + 3 ^ dp * n' ≤ 3 ^ dp * n ∧ manys ps + rm ≤ room ∧ 0 ≤ rm ∧ rm ≤ room ∧ ws.length ≤ i + 1) → Q2 .non H4) →
        rAppend (.ref D) [y] H3 Q2 := fun y pt n2 rm2 H3 Q2 s3 u3 hP3 hy ok3 d3 w3 m3 rm20 kk => by
      have hD3 : H3 D = some (.lst ws) := s3 _ _ nDU nDP hD2
      refine r_append hD3 (szl (by omega)) ?_
      have kq : Keep (fun a => M a ∨ a = D) (fun a => M a ∨ a = D) H3 (upd H3 D (.lst (ws ++ [y]))) := keep_wr (.inr rfl)
      have k3 : Keep (fun a => M a ∨ a = D) (fun a => M a ∨ a = D) H' H3 := s3.keep (.inl MU) (.inl MP)
      have u4 : UrnAt (upd H3 D (.lst (ws ++ [y]))) U (c + 1 + (i + 1) * (19 * 10 ^ dp)) := by
        obtain ⟨a, b, e, h1, r⟩ := u3
        exact ⟨a, b, e, by rw [upd_ne nDU.symm]; exact h1, r⟩
      refine kk _ u4 (fun b u nb e => by rw [upd_ne nb]; exact e) fun w5 w6 w7 w8 => ⟨n2, rm2, ps ++ [pt], ws ++ [y], _, _, _, _, rfl, (s2.trans s3).wr hD, u4, by rw [upd_ne nDP.symm]; exact hP3, upd_same, LgLA.app _ _ _ _ ((hl2.to k3).to kq) (LgLA.one (hy.to kq)), (oks_app _ _).mpr ⟨ok2, (oks_one _).mpr ok3⟩, by rw [dps_app, dps_one]; omega, by rw [wts_app, wts_one]; omega,
        by rw [manys_app, manys_one]; omega, rm20, by have := pt.many_nn ok3; omega, by rw [List.length_append, List.length_singleton]; omega⟩
    have still : ∀ (v6 v7 v8 : Option V) (H4 : Hp), Same2 U Pl H' H4 → UrnAt H4 U (c + 1 + (i + 1) * (19 * 10 ^ dp)) → H4 Pl = some (.lst [.int (n' : Int), .int far, .int wide]) → (∃ (n' : Nat) (rm_1 : Int) (ps : List Pt) (ws : List V) (w5 w6 w7 w8 : Option V), ([some (.ref U), some (.ref Pl), some (.int (dp : Int)), some (.int rm), some (.ref D), some (.int (i : Int)), v6, v7, v8] : L2.St) = [some (.ref U), some (.ref Pl), some (.int (dp : Int)), some (.int rm_1), some (.ref D), w5, w6, w7, w8] ∧
          Same2 U Pl H H4 ∧ UrnAt H4 U (c + 1 + (i + 1) * (19 * 10 ^ dp)) ∧ H4 Pl = some (.lst [.int (n' : Int), .int far, .int wide]) ∧ H4 D = some (.lst ws) ∧ LgLA (fun a => M a ∨ a = D) H4 ps ws ∧ oks ps ∧ dps ps ≤ dp ∧ wts ps + 3 ^ dp * n' ≤ 3 ^ dp * n ∧ manys ps + rm_1 ≤ room ∧ 0 ≤ rm_1 ∧ rm_1 ≤ room ∧ ws.length ≤ i + 1) := fun v6 v7 v8 H4 s4 u4 hP4 =>
      ⟨n', rm, ps, ws, _, _, _, _, rfl, s2.trans s4, u4, hP4, s4 _ _ nDU nDP hD2, hl2.to (s4.keep (.inl MU) (.inl MP)), ok2, d2, w2, m2, rm0, rm1, by omega⟩
    walk_at "rd"
    refine ifV (fun v H2 => ∃ b : Bool, v = .bl b ∧ (b = true → 0 < dp) ∧ Same2 U Pl H' H2 ∧ UrnAt H2 U (c + 1 + i * (19 * 10 ^ dp) + 1) ∧ H2 Pl = some (.lst [.int (n' : Int), .int far, .int wide])) ?_ (fun c0 Q2 kk => ?_) fun c0 => ⟨false, rfl, fun z => (nomatch z), Same2.of (Same.refl _), u2.mono (by omega), hP2⟩
    · rintro _ H2 ⟨b, rfl, bd, s3, u3, hP3⟩
      walk_at "rd"
      refine r_ixL hP3 atu0 ?_
      walk_at "rd"
      refine ite_d (fun c1 => ?_) fun c1 => ?_
      · walk_at "rd"
        refine ite_d (fun c2 => ?_) fun c2 => ?_
        · obtain ⟨m, rfl⟩ : ∃ m, n' = m + 1 := ⟨n' - 1, by omega⟩
          have em : ((m + 1 : Nat) : Int) - 1 = (m : Int) := by omega
          walk_at "rd"
          refine r_ixL hP3 atu0 ?_
          walk_at "rd"
          refine r_setL hP3 (j := 0) rfl ?_
          rw [em]
          walk_at "rd"
          have u4 : UrnAt (upd H2 Pl (.lst ([.int ((m + 1 : Nat) : Int), .int far, .int wide].set 0 (.int (m : Int))))) U (c + 1 + i * (19 * 10 ^ dp) + 1) := by
            obtain ⟨a, b, e, h1, r⟩ := u3
            exact ⟨a, b, e, by rw [upd_ne nUP]; exact h1, r⟩
          have s4 : Same2 U Pl H' (upd H2 Pl (.lst ([.int ((m + 1 : Nat) : Int), .int far, .int wide].set 0 (.int (m : Int))))) := fun b u n1 n2 e => by rw [upd_ne n2]; exact s3 b u n1 n2 e
          have hP4 : (upd H2 Pl (.lst ([.int ((m + 1 : Nat) : Int), .int far, .int wide].set 0 (.int (m : Int))))) Pl = some (.lst [.int (m : Int), .int far, .int wide]) := upd_same
          generalize upd H2 Pl (.lst ([.int ((m + 1 : Nat) : Int), .int far, .int wide].set 0 (.int (m : Int)))) = H4 at u4 s4 hP4
          have hD4 : H4 D = some (.lst ws) := s4 _ _ nDU nDP hD2
          have sH4 := s2.trans s4
          have hM4 : ∀ a, (M a ∨ a = D) → H4 a ≠ none := hM_or (some_ne hD4) (sH4.hM u4.some (some_ne hP4) hM)
          have nUD : ¬ (U = D) := fun z => nDU z.symm
          cases b with
          | true =>
            refine iteT ?_
            have dpos := bd rfl
            obtain ⟨e, rfl⟩ : ∃ e, dp = e + 1 := ⟨dp - 1, by omega⟩
            have ee : ((e + 1 : Nat) : Int) - 1 = (e : Int) := by omega
            have pe : 10 ^ (e + 1) = 10 * 10 ^ e := by rw [Nat.pow_succ]; omega
            have pt3 : 3 ^ (e + 1) = 3 * 3 ^ e := by rw [Nat.pow_succ]; omega
            have pe1 := pow10_pos e
            walk_at "rd"
            rw [ee]
            refine ⟨fun a => M a ∨ a = D, U, Pl, e, m, far, wide, rm, _, rfl, by omega, .inl MU, .inl MP, nUP, hM4, u4, by omega, hP4, f0, f1, w0, w1, rm0, by omega, fun r qs n2 H5 s5 u5 hP5 hr5 hl5 ok5 d5 w5 m5 => ?_⟩
            have mq := manys_nn qs ok5
            walk_at "rd"
            refine ⟨U, 4, _, rfl, by omega, by omega, u5, by omega, fun x1 H6 a6 b6 s6 u6 => ?_⟩
            walk_at "rd"
            refine ⟨U, 9, _, rfl, by omega, by omega, u6, by omega, fun x2 H7 a7 b7 s7 u7 => ?_⟩
            walk_at "rd"
            have s67 := s6.trans s7
            refine r_ixL (s67 _ _ nUP.symm hP5) atu1 ?_
            walk_at "rd"
            refine ⟨U, far + 1, _, rfl, by omega, by omega, u7, by omega, fun x3 H8 a8 b8 s8 u8 => ?_⟩
            walk_at "rd"
            refine p_new (sz (by show 3 ≤ _; decide)) fun L2 hL2 => ?_
            walk_at "rd"
            have s9 : Same H8 (upd H8 L2 (.lst [.int x1, .int (2 + x2), .int x3])) := same_upd hL2
            refine ⟨U, 3, _, rfl, by omega, by omega, u8.same s9, by omega, fun ix H10 a10 b10 s10 u10 => ?_⟩
            have nL2U : L2 ≠ U := fun z => u8.some (z ▸ hL2)
            obtain ⟨v2, ev2, hv2⟩ := atI_mem (xs := [V.int x1, .int (2 + x2), .int x3]) a10 (by show ix < 3; omega)
            obtain ⟨x, rfl, x0, xB⟩ : ∃ x : Int, v2 = .int x ∧ 0 ≤ x ∧ x ≤ 100000000000000000000000000100 := by
              simp only [List.mem_cons, List.not_mem_nil, or_false] at hv2
              rcases hv2 with rfl | rfl | rfl
              · exact ⟨_, rfl, by omega, by omega⟩
              · exact ⟨_, rfl, by omega, by omega⟩
              · exact ⟨_, rfl, by omega, by omega⟩
            refine r_ixL (s10 _ _ nL2U upd_same) ev2 ?_
            walk_at "rd"
            have s510 : SameX U H5 H10 := s67.trans (s8.trans ((SameX.of s9).trans s10))
            have hP10 : H10 Pl = some (.lst [.int (n2 : Int), .int far, .int wide]) := s510 _ _ nUP.symm hP5
            have hl10 : LgsA (fun a => M a ∨ a = D) H10 qs r := hl5.to (s510.keep (.inl MU))
            have bbv : (100000000000000000000000000000 : Int) ≤ BB := by decide
            have bbe : BB = 10000000000000000000000000000000 := rfl
            refine ⟨_, r, qs, rfl, hl10, ok5, by omega, by omega, ?_⟩
            walk_at "rd"
            have mf := many_fit rm0 mq x0
            refine r_fdiv (mid_div (mid_of (by split <;> omega) (by split <;> omega)) (by split <;> omega)) ?_
            walk_at "rd"
            generalize (if rm / (if manys qs > 1 then manys qs else 1) < x then rm / (if manys qs > 1 then manys qs else 1) else x) = t at mf
            obtain ⟨t0, t1, t2⟩ := mf
            have s410 : Same2 U Pl H' H10 := s4.trans (s5.trans (Same2.x s510))
            refine p_bmL (s410 _ _ nDU nDP hD2) ?_
            walk_at "rd"
            refine p_new (sz (by show 3 ≤ _; decide)) fun tt htt => ?_
            have s11 : Same H10 (upd H10 tt (.tup [.str "again", .int t, .ref r])) := same_upd htt
            walk_at "rd"
            have hl11 := hl10.to (Keep.same s11)
            obtain ⟨nr, vs, evs, hvs⟩ := hl11
            have htn : ¬ (M tt ∨ tt = D) := fun z => by
              have := (s5.trans (Same2.x s510)).hM u10.some (some_ne hP10) hM4 tt z
              exact this htt
            have lgp : LgA (fun a => M a ∨ a = D) (upd H10 tt (.tup [.str "again", .int t, .ref r])) (.over t qs) (.ref tt) := by
              rw [LgA]
              exact ⟨tt, r, vs, rfl, htn, nr, upd_same, evs, hvs⟩
            refine put (.ref tt) (.over t qs) n2 (rm - t * manys qs) _ _ (s410.trans (Same2.of s11)) ((u10.same s11).mono (by omega)) (s11 _ _ hP10) lgp ?_ ?_ ?_ ?_ (by omega) fun H12 u12 st12 inv => ?_
            · rw [Pt.ok]; exact ⟨t0, by omega, by omega, ok5⟩
            · rw [Pt.dp]; omega
            · rw [Pt.wt, pt3]
              rw [Nat.mul_assoc, Nat.mul_assoc, Nat.mul_add]
              have := Nat.pow_pos (n := e) (show 0 < 3 by decide)
              omega
            · rw [Pt.many]; omega
            · walk_at "rd"
              refine ⟨_, r, qs, rfl, LgsA.to ⟨fun a z => .inl z, fun a o na e => st12 a o (fun z => na (.inr z)) e⟩ ⟨nr, vs, evs, hvs⟩, ok5, by omega, by omega, ?_⟩
              refine r_mul (mid_mul (mid_of t0 (by omega)) (mid_of mq (by omega))) ?_
              walk_at "rd"
              exact inv _ _ _ _
          | false =>
            refine iteF ?_
            walk_at "rd"
            refine p_bmL hD4 ?_
            walk_at "rd"
            refine r_ixL hP4 atu2 ?_
            walk_at "rd"
            refine ⟨U, wide, _, rfl, w0, by omega, u4, by omega, fun p sg H5 s5 hp5 u5 ep so => ?_⟩
            walk_at "rd"
            have np : ¬ (M p ∨ p = D) := fun z => hM4 p z hp5
            refine put (.ref p) (.spot sg 0) m (rm - 1) _ _ (s4.trans (Same2.x s5)) (u5.mono (by omega)) (s5 _ _ nUP.symm hP4) (by rw [LgA]; exact ⟨p, rfl, np, ep⟩) (by rw [Pt.ok]; exact so) (by rw [Pt.dp]; omega) ?_ (by rw [Pt.many]; omega) (by omega) fun H12 u12 st12 inv => ?_
            · rw [Pt.wt, Nat.mul_add]
              have := Nat.pow_pos (n := dp) (show 0 < 3 by decide)
              omega
            · walk_at "rd"
              exact inv _ _ _ _
        · exact still _ _ _ H2 s3 (u3.mono (by omega)) hP3
      · refine iteF ?_
        exact still _ _ _ H2 s3 (u3.mono (by omega)) hP3
    · walk_at "rd"
      refine ⟨U, 5, _, rfl, by omega, by omega, u2, by omega, fun x H2 x0 x1 s3 u3 => ?_⟩
      walk_at "rd"
      exact kk _ _ ⟨_, rfl, fun _ => by omega, Same2.x s3, u3, s3 _ _ nUP.symm hP2⟩
  · rintro σ H' ⟨n', rm, ps, ws, v5, v6, v7, v8, rfl, s2, u2, hP2, hD2, hl2, ok2, d2, w2, m2, rm0, rm1, wl⟩
    walk_at "rd"
    have jm : j * (19 * 10 ^ dp) ≤ 5 * (19 * 10 ^ dp) := Nat.mul_le_mul_right _ j5
    exact q D ps n' H' s2 (u2.mono (by omega)) hP2 hD ⟨fun z => hM D z hD, ws, hD2, hl2.to ⟨fun a z => .inl (.inl z), fun a o _ e => e⟩⟩ ok2 d2 w2 (by omega)
end
def rEqNil : R2 := fun x y H Q => ∃ a b xs, x = .ref a ∧ y = .ref b ∧ H a = some (.lst xs) ∧ H b = some (.lst []) ∧ Q (.bl xs.isEmpty) H
theorem op_eqNil {X : Cx} (hu : X.A.units + 64 < cLine) : OpR X (compareOp .Eq) rEqNil := by
  intro pins s σ H x y v u Q I rx ry h
  obtain ⟨a, b, xs, rfl, rfl, ha, hb, q⟩ := h
  cases xs with
  | nil => exact op_eqD hu pins s σ H _ _ v u Q I rx ry ⟨.list [], .list [], .lst (SqL.of ha) .nil, .lst (SqL.of hb) .nil, by decide, by decide, q⟩
  | cons z zs => exact op_eqLen (by omega) pins s σ H _ _ v u Q I rx ry ⟨a, b, _, _, rfl, rfl, ha, hb, fun e => (nomatch e), q⟩
theorem Same2.toX {D E : Addr} {H0 H H' : Hp} (s0 : SameX D H0 H) (h : H0 E = none) (s : Same2 D E H H') : SameX D H0 H' := fun b u n e => s b u n (ne_of_none e h) (s0 b u n e)
section
variable {P : Program} {w : World} {K : PySem.W.Frag} {mg : Str → Option Value} {base : Heap}
theorem ok_Llong (T : Txt K mg) (G_Lball : FnOk P w K mg base CX0 1 (He.ga K "_law_ball") T.fd_Lball ["_law_urn_here", "_law_many"] spBall) (G_Lsaying : FnOk P w K mg base CX0 2 (He.ga K "_law_saying") T.fd_Lsaying ["_law_urn_here", "_law_wide"] spSay)
    (G_Lpeople : FnOk P w K mg base CX0 8 (He.ga K "_law_people") T.fd_Lpeople ["_law_long_here"] (spLPeople 8)) : ∀ d : Nat, d ≤ 8 → FnOk P w K mg base CX0 (d + 8) (He.ga K "_law_long") T.fd_Llong ["_law_urn_here", "_law_plan", "_law_deep", "_law_room"] (spLong d)
  | 0, _ => vac fun vs H Q E h => by
    obtain ⟨M, U, Pl, dp, n, far, wide, room, c, _, hd, _⟩ := h
    omega
  | d + 1, h => ok_Llong1 T (by omega) (by omega) G_Lball G_Lsaying G_Lpeople (ok_Llong T G_Lball G_Lsaying G_Lpeople d (by omega))
def spGreat : Sp := fun vs H Q _ => ∃ (M : Addr → Prop) (U : Addr) (c : Nat), vs = [.ref U] ∧ M U ∧ (∀ a, M a → H a ≠ none) ∧ UrnAt H U c ∧ c + 10002 ≤ 8000000 ∧
  ∀ r ps H', SameX U H H' → UrnAt H' U (c + 10002) → H r = none → LgsA M H' ps r → oks ps → dps ps ≤ 2 → wts ps ≤ 72 → manys ps ≤ 100000000000000000000000000000 → Q (.ref r) H'
theorem ok_Lgreat (T : Txt K mg) (G_Lball : FnOk P w K mg base CX0 1 (He.ga K "_law_ball") T.fd_Lball ["_law_urn_here", "_law_many"] spBall)
    (G_Llong : FnOk P w K mg base CX0 11 (He.ga K "_law_long") T.fd_Llong ["_law_urn_here", "_law_plan", "_law_deep", "_law_room"] (spLong 3)) : FnOk P w K mg base CX0 12 (He.ga K "_law_great") T.fd_Lgreat ["_law_urn_here"] spGreat := by
  refine T.d_Lgreat.F.ok sc_Lgreat (fun vs H Q E h => ?_) (fun cdv A outer s H vs Q E hr h => ⟨_, PSs.nox (pss_cons (ps_set (i := 1) sc_Lgreat.nd rfl (Or.inl rfl) (pe_ix ix_list (pe_lst (pa_cons pe_int (pa_cons (pe_op op_pow pe_int pe_int) (pa_cons (pe_op op_pow pe_int pe_int) (pa_cons (pe_op op_pow pe_int pe_int) pa_nil))))) (pe_call G_Lball (hr.mono (by omega)) rfl T.g_Lball T.d_Lball.F.kp T.d_Lball.b .nil pass0 (pa_cons (pv 0) (pa_cons pe_int pa_nil))) (fun _ _ => rfl)))
    (pss_one (ps_ret (pe_call G_Llong (hr.mono (by omega)) rfl T.g_Llong T.d_Llong.F.kp T.d_Llong.b .nil pass0 (pa_cons (pv 0) (pa_cons (pe_lst (pa_cons pe_int (pa_cons (pv 1) (pa_cons (pe_ix ix_list (pe_lst (pa_cons pe_int (pa_cons (pe_op op_pow pe_int pe_int) (pa_cons (pe_op op_pow pe_int pe_int) (pa_cons (pe_op op_pow pe_int pe_int) pa_nil))))) (pe_call G_Lball (hr.mono (by omega)) rfl T.g_Lball T.d_Lball.F.kp T.d_Lball.b .nil pass0 (pa_cons (pv 0) (pa_cons pe_int pa_nil))) (fun _ _ => rfl)) pa_nil)))) (pa_cons pe_int (pa_cons (pe_op op_pow pe_int pe_int) pa_nil)))))))), ?_⟩)
  · obtain ⟨M, U, c, rfl, _⟩ := h; rfl
  obtain ⟨M, U, c, rfl, MU, hM, hU, hc, q⟩ := h
  walk_at "rd"
  refine r_pow (cp (by decide) (by decide)) ?_
  rw [pow5]
  walk_at "rd"
  refine r_pow (cp (by decide) (by decide)) ?_
  rw [pow12]
  walk_at "rd"
  refine r_pow (cp (by decide) (by decide)) ?_
  rw [pow29]
  walk_at "rd"
  refine p_new (sz (by show 4 ≤ _; decide)) fun L1 h1 => ?_
  walk_at "rd"
  have s1 := same_upd (o := .lst [.int 9, .int 100000, .int 1000000000000, .int 100000000000000000000000000000]) h1
  refine ⟨U, 4, _, rfl, by omega, by omega, hU.same s1, by omega, fun i H2 i0 i1 s2 u2 => ?_⟩
  have n1 : L1 ≠ U := fun z => hU.some (z ▸ h1)
  obtain ⟨v, ev, hv⟩ := atI_mem (xs := [V.int 9, .int 100000, .int 1000000000000, .int 100000000000000000000000000000]) i0 (by show i < 4; omega)
  obtain ⟨far, rfl, f0, f1⟩ : ∃ x : Int, v = .int x ∧ 0 ≤ x ∧ x ≤ 100000000000000000000000000000 := by
    simp only [List.mem_cons, List.not_mem_nil, or_false] at hv
    rcases hv with rfl | rfl | rfl | rfl
    · exact ⟨_, rfl, by omega, by omega⟩
    · exact ⟨_, rfl, by omega, by omega⟩
    · exact ⟨_, rfl, by omega, by omega⟩
    · exact ⟨_, rfl, by omega, by omega⟩
  refine r_ixL (s2 _ _ n1 upd_same) ev ?_
  walk_at "rd"
  refine r_pow (cp (by decide) (by decide)) ?_
  rw [pow6]
  walk_at "rd"
  refine r_pow (cp (by decide) (by decide)) ?_
  rw [pow15]
  walk_at "rd"
  refine r_pow (cp (by decide) (by decide)) ?_
  rw [pow29]
  walk_at "rd"
  refine p_new (sz (by show 4 ≤ _; decide)) fun L3 h3 => ?_
  walk_at "rd"
  have s3 := same_upd (o := .lst [.int 30, .int 1000000, .int 1000000000000000, .int 100000000000000000000000000000]) h3
  refine ⟨U, 4, _, rfl, by omega, by omega, u2.same s3, by omega, fun j H4 j0 j1 s4 u4 => ?_⟩
  have n3 : L3 ≠ U := fun z => u2.some (z ▸ h3)
  obtain ⟨v2, ev2, hv2⟩ := atI_mem (xs := [V.int 30, .int 1000000, .int 1000000000000000, .int 100000000000000000000000000000]) j0 (by show j < 4; omega)
  obtain ⟨wide, rfl, w0, w1⟩ : ∃ x : Int, v2 = .int x ∧ 0 < x ∧ x ≤ 100000000000000000000000000000 := by
    simp only [List.mem_cons, List.not_mem_nil, or_false] at hv2
    rcases hv2 with rfl | rfl | rfl | rfl
    · exact ⟨_, rfl, by omega, by omega⟩
    · exact ⟨_, rfl, by omega, by omega⟩
    · exact ⟨_, rfl, by omega, by omega⟩
    · exact ⟨_, rfl, by omega, by omega⟩
  refine r_ixL (s4 _ _ n3 upd_same) ev2 ?_
  walk_at "rd"
  refine p_new (sz (by show 3 ≤ _; decide)) fun Pl hPl => ?_
  have s5 := same_upd (o := .lst [.int 8, .int far, .int wide]) hPl
  walk_at "rd"
  refine r_pow (cp (by decide) (by decide)) ?_
  rw [pow29]
  walk_at "rd"
  have s05 : SameX U H (upd H4 Pl (.lst [.int 8, .int far, .int wide])) := (SameX.of s1).trans (s2.trans ((SameX.of s3).trans (s4.trans (SameX.of s5))))
  have u5 := u4.same s5
  have nUP : U ≠ Pl := fun z => u4.some (z ▸ hPl)
  have hPl0 : H Pl = none := ((SameX.of s1).trans (s2.trans ((SameX.of s3).trans s4))).free u4.some hPl
  have hM5 := s05.hM u5.some hM
  refine ⟨fun a => M a ∨ a = Pl, U, Pl, 2, 8, far, wide, 100000000000000000000000000000, _, rfl, by omega, .inl MU, .inr rfl, nUP, hM_or (some_ne upd_same) hM5, u5, by omega, upd_same, f0, f1, w0, w1, by omega, by omega, fun r ps n' H6 s6 u6 hP6 hr hl ok d2 w2 m2 => ?_⟩
  exact q r ps H6 (Same2.toX s05 hPl0 s6) (u6.mono (by omega)) (s05.free u5.some hr) (hl.to ⟨fun a z => .inl (.inl z), fun a o _ e => e⟩) ok d2 (by omega) m2
def spCompany : Sp := fun vs H Q _ => ∃ (U S : Addr) (ys : List V) (c : Nat), vs = [.ref U, .ref S] ∧ UrnAt H U c ∧ c + 5 ≤ 8000000 ∧ H S = some (.lst ys) ∧ S ≠ U ∧ SayL H ys ∧ ys.length ≤ 1600000 ∧ ∀ x H', SameX U H H' → UrnAt H' U (c + 5) → 0 ≤ x → x ≤ BB → Q (.int x) H'
theorem ok_Lcompany (T : Txt K mg) (G_Lball : FnOk P w K mg base CX0 1 (He.ga K "_law_ball") T.fd_Lball ["_law_urn_here", "_law_many"] spBall) : FnOk P w K mg base CX0 2 (He.ga K "_law_company") T.fd_Lcompany ["_law_urn_here", "_law_sayings_here"] spCompany := by
  refine T.d_Lcompany.F.ok sc_Lcompany (fun vs H Q E h => ?_) (fun cdv A outer s H vs Q E hr h => ⟨_, PSs.nox (pss_cons (ps_if (pt_cmpR (op_eqNil hr.units) (pv 1) (pe_lst pa_nil) (nomark _)) (pss_one (ps_ret (pe_call G_Lball (hr.mono (by omega)) rfl T.g_Lball T.d_Lball.F.kp T.d_Lball.b .nil pass0 (pa_cons (pv 0) (pa_cons pe_int pa_nil))))) pss_nil)
    (pss_cons (ps_asg (pe_ix ix_list (pv 1) (pe_call G_Lball (hr.mono (by omega)) rfl T.g_Lball T.d_Lball.F.kp T.d_Lball.b .nil pass0 (pa_cons (pv 0) (pa_cons (pe_callB call_lenS (by rfl) T.z_len bt_len (pa_cons (pv 1) pa_nil)) pa_nil))) (fun _ _ => rfl)) (pg_tup rfl (pgs_cons (pg_name (i := 2) sc_Lcompany.nd rfl (Or.inl rfl)) (pgs_cons (pg_name (i := 3) sc_Lcompany.nd rfl (Or.inl rfl)) pgs_nil))))
    (pss_cons (ps_set (i := 4) sc_Lcompany.nd rfl (Or.inl rfl) (pe_callB (call_maxN rfl) (by rfl) T.z_max bt_max (pa_cons pe_int (pa_cons (pe_op op_sub (pe_ifExp (pt_cmpR op_non (pv 3) pe_non (nomark _)) (pv 2) (pv 3)) (pe_call G_Lball (hr.mono (by omega)) rfl T.g_Lball T.d_Lball.F.kp T.d_Lball.b .nil pass0 (pa_cons (pv 0) (pa_cons pe_int pa_nil)))) pa_nil))))
    (pss_one (ps_ret (pe_ix ix_list (pe_lst (pa_cons pe_int (pa_cons (pe_call G_Lball (hr.mono (by omega)) rfl T.g_Lball T.d_Lball.F.kp T.d_Lball.b .nil pass0 (pa_cons (pv 0) (pa_cons pe_int pa_nil))) (pa_cons (pv 4) (pa_cons (pe_op op_fdivW (pv 4) pe_int) (pa_cons (pe_call G_Lball (hr.mono (by omega)) rfl T.g_Lball T.d_Lball.F.kp T.d_Lball.b .nil pass0 (pa_cons (pv 0) (pa_cons (pe_op op_pow pe_int pe_int) pa_nil))) pa_nil)))))) (pe_call G_Lball (hr.mono (by omega)) rfl T.g_Lball T.d_Lball.F.kp T.d_Lball.b .nil pass0 (pa_cons (pv 0) (pa_cons pe_int pa_nil))) (fun _ _ => rfl))))))), ?_⟩)
  · obtain ⟨U, S, ys, c, rfl, _⟩ := h; rfl
  obtain ⟨U, S, ys, c, rfl, hU, hc, hS, nSU, sy, yl, q⟩ := h
  have bbe : BB = 10000000000000000000000000000000 := rfl
  walk_at "rd"
  refine p_new (sz (by show 0 ≤ _; decide)) fun Z hZ => ?_
  have s1 : Same H (upd H Z (.lst [])) := same_upd hZ
  walk_at "rd"
  refine ⟨S, Z, ys, rfl, rfl, s1 _ _ hS, upd_same, ?_⟩
  walk_at "rd"
  have u1 := hU.same s1
  cases ys with
  | nil =>
    refine iteT ?_
    walk_at "rd"
    exact ⟨U, 99, _, rfl, by omega, by omega, u1, by omega, fun x H2 x0 x1 s2 u2 => q x H2 ((SameX.of s1).trans s2) (u2.mono (by omega)) x0 (by omega)⟩
  | cons y0 yr =>
    refine iteF ?_
    walk_at "rd"
    refine len_lst (s1 _ _ hS) ?_
    walk_at "rd"
    refine ⟨U, _, _, rfl, by rw [List.length_cons]; omega, by omega, u1, by omega, fun i H2 i0 i1 s2 u2 => ?_⟩
    obtain ⟨v, ev, hv⟩ := atI_mem (xs := y0 :: yr) i0 i1
    obtain ⟨p, ⟨lo, hi⟩, rfl, ep, so⟩ := sy v hv
    refine r_ixL (s2 _ _ nSU (s1 _ _ hS)) ev ?_
    have npU : p ≠ U := fun z => by
      obtain ⟨a, b, e, h1, _⟩ := hU
      rw [z, h1] at ep; cases ep
    have s02 := (SameX.of s1).trans s2
    have l0 : 0 ≤ lo := so.1
    have l1 : lo ≤ BB := so.2.1
    have l2 := so.2.2
    have ep2 : H2 p = some (.tup [.int lo, oV hi]) := s02 _ _ npU ep
    have fin : ∀ near : Int, 0 ≤ near → near ≤ BB → ∀ (H3 : Hp), SameX U H H3 → UrnAt H3 U (c + 2) → tRet (tOp (rIxL K) (tLst (tCons (tC (.int 0)) (tCons (tCall spBall [] E0 (tCons (tVar 0) (tCons (tC (.int 12)) tNil))) (tCons (tVar 4) (tCons (tOp (rI CDivW fun i j => .int (i / j)) (tVar 4) (tC (.int 2)))
        (tCons (tCall spBall [] E0 (tCons (tVar 0) (tCons (tOp (rI CPow fun i j => .int (i ^ j.toNat)) (tC (.int 10)) (tC (.int 29))) tNil))) tNil)))))) (tCall spBall [] E0 (tCons (tVar 0) (tCons (tC (.int 5)) tNil)))) ⟨fun _ H' => Q .non H', Q, fun _ _ => False, fun _ _ => False⟩
        [some (.ref U), some (.ref S), some (.int lo), some (oV hi), some (.int near)] H3 := fun near n0 n1 H3 s3 u3 => by
      walk_at "rd"
      refine ⟨U, 12, _, rfl, by omega, by omega, u3, by omega, fun x1 H4 a4 b4 s4 u4 => ?_⟩
      walk_at "rd"
      refine r_fdiv (mid_div (mid_lit (by decide) (by decide)) (by decide)) ?_
      walk_at "rd"
      refine r_pow (cp (by decide) (by decide)) ?_
      rw [pow29]
      walk_at "rd"
      refine ⟨U, _, _, rfl, by omega, by omega, u4, by omega, fun x2 H5 a5 b5 s5 u5 => ?_⟩
      walk_at "rd"
      refine p_new (sz (by show 5 ≤ _; decide)) fun L hL => ?_
      have s6 : Same H5 (upd H5 L (.lst [.int 0, .int x1, .int near, .int (near / 2), .int x2])) := same_upd hL
      walk_at "rd"
      refine ⟨U, 5, _, rfl, by omega, by omega, u5.same s6, by omega, fun j H7 j0 j1 s7 u7 => ?_⟩
      have nL : L ≠ U := fun z => u5.some (z ▸ hL)
      obtain ⟨v2, ev2, hv2⟩ := atI_mem (xs := [V.int 0, .int x1, .int near, .int (near / 2), .int x2]) j0 (by show j < 5; omega)
      obtain ⟨x, rfl, x0, xB⟩ : ∃ x : Int, v2 = .int x ∧ 0 ≤ x ∧ x ≤ BB := by
        simp only [List.mem_cons, List.not_mem_nil, or_false] at hv2
        rcases hv2 with rfl | rfl | rfl | rfl | rfl
        · exact ⟨_, rfl, by omega, by omega⟩
        · exact ⟨_, rfl, by omega, by omega⟩
        · exact ⟨_, rfl, by omega, by omega⟩
        · exact ⟨_, rfl, by omega, by omega⟩
        · exact ⟨_, rfl, by omega, by omega⟩
      refine r_ixL (s7 _ _ nL upd_same) ev2 ?_
      exact q x H7 (s3.trans (s4.trans (s5.trans ((SameX.of s6).trans s7)))) (u7.mono (by omega)) x0 xB
    cases hi with
    | none =>
      refine r_gTup (xs := [.int lo, .non]) ep2 rfl ?_
      walk_at "rd"
      refine ite_t rfl ?_
      walk_at "rd"
      refine ⟨U, 9, _, rfl, by omega, by omega, u2, by omega, fun x1 H3 a3 b3 s3 u3 => ?_⟩
      walk_at "rd"
      obtain ⟨v, hv, h⟩ := fin (if lo - x1 > 0 then lo - x1 else 0) (by split <;> omega) (by split <;> omega) H3 (s02.trans s3) u3
      cases hv
      exact h
    | some m =>
      have m1 := l2 m rfl
      refine r_gTup (xs := [.int lo, .int m]) ep2 rfl ?_
      walk_at "rd"
      refine ite_f (fun z => nomatch z) ?_
      walk_at "rd"
      refine ⟨U, 9, _, rfl, by omega, by omega, u2, by omega, fun x1 H3 a3 b3 s3 u3 => ?_⟩
      walk_at "rd"
      obtain ⟨v, hv, h⟩ := fin (if m - x1 > 0 then m - x1 else 0) (by split <;> omega) (by split <;> omega) H3 (s02.trans s3) u3
      cases hv
      exact h
end
/-! ### the rows of a law's hall, as data -/
def NM4 : List Str := ["a", "b", "c", "d"]
theorem nm4_ok : ∀ n ∈ NM4, nmOk n = true := by decide
theorem nm4_other : ∀ n ∈ NM4, n ≠ ("other" : Str) := by decide
theorem other_ok : nmOk "other" = true := by decide
abbrev leN (x y : Str) : Prop := ltCps y.cps.toList x.cps.toList = false
theorem leN_anti : ∀ x ∈ NM4, ∀ y ∈ NM4, leN x y → leN y x → x = y := by decide
theorem leN_trans : ∀ x ∈ NM4, ∀ y ∈ NM4, ∀ z ∈ NM4, leN x y → leN y z → leN x z := by decide
theorem rising_pw : ∀ (r : List Str) (p : Str), p ∈ NM4 → (∀ x ∈ r, x ∈ NM4) → risingS p r = true → (∀ y ∈ r, leN p y) ∧ r.Pairwise leN
  | [], _, _, _, _ => ⟨fun _ z => (nomatch z), List.Pairwise.nil⟩
  | x :: r, p, hp, hr, h => by
    rw [risingS, Bool.and_eq_true] at h
    have hx := hr x List.mem_cons_self
    have i := rising_pw r x hx (fun y z => hr y (List.mem_cons_of_mem _ z)) h.2
    have px : leN p x := by simpa using h.1
    refine ⟨fun y hy => ?_, List.Pairwise.cons i.1 i.2⟩
    rcases List.mem_cons.mp hy with e | z
    · rw [e]; exact px
    · exact leN_trans p hp x hx y (hr y (List.mem_cons_of_mem _ z)) px (i.1 y z)
theorem sorted_pw {l : List Str} (hl : ∀ x ∈ l, x ∈ NM4) (h : sortedS l = true) : l.Pairwise leN := by
  cases l with
  | nil => exact List.Pairwise.nil
  | cons x r =>
    have i := rising_pw r x (hl x List.mem_cons_self) (fun y z => hl y (List.mem_cons_of_mem _ z)) h
    exact List.Pairwise.cons i.1 i.2
theorem names_eq {ks ys zs : List Str} (hk : ∀ x ∈ ks, x ∈ NM4) (p1 : ys.Perm ks) (p2 : zs.Perm ks) (s1 : sortedS ys = true) (s2 : sortedS zs = true) : ys = zs := by
  have h1 : ∀ x ∈ ys, x ∈ NM4 := fun x z => hk x (p1.subset z)
  have h2 : ∀ x ∈ zs, x ∈ NM4 := fun x z => hk x (p2.subset z)
  exact List.Perm.eq_of_pairwise (fun a b ha hb => leN_anti a (h1 a ha) b (h2 b hb)) (sorted_pw h1 s1) (sorted_pw h2 s2) (p1.trans p2.symm)
section
variable {κ α : Type} [DecidableEq κ]
theorem aget_put (l : List (κ × α)) (k j : κ) (a : α) (h : (akeys l).Nodup) : aget (aput l k a) j = if j = k then some a else aget l j := by
  induction l with
  | nil =>
    show aget ([] ++ [(k, a)]) j = _
    rw [List.nil_append, aget_cons, aget_nil]
    by_cases e : k = j
    · rw [if_pos e, if_pos e.symm]
    · rw [if_neg e, if_neg fun z => e z.symm]
  | cons p l ih =>
    have hc : p.1 ∉ akeys l ∧ (akeys l).Nodup := List.nodup_cons.mp h
    by_cases c : p.1 = k
    · rw [aput_cons_eq c (c ▸ hc.1), aget_cons, aget_cons]
      by_cases e : p.1 = j
      · rw [if_pos e, if_pos (e.symm.trans c)]
      · rw [if_neg e, if_neg e, if_neg fun z => e (c.trans z.symm)]
    · rw [aput_cons_ne c, aget_cons, aget_cons, ih hc.2]
      by_cases e : p.1 = j
      · rw [if_pos e, if_pos e, if_neg fun z => c (e.trans z)]
      · rw [if_neg e, if_neg e]
theorem akeys_drop (l : List (κ × α)) (k : κ) (x : κ) : x ∈ akeys (adrop l k) ↔ x ∈ akeys l ∧ x ≠ k := by
  unfold akeys adrop
  rw [List.mem_map, List.mem_map]
  constructor
  · rintro ⟨e, he, rfl⟩
    have := List.mem_filter.mp he
    exact ⟨⟨e, this.1, rfl⟩, of_decide_eq_true this.2⟩
  · rintro ⟨⟨e, he, rfl⟩, h⟩
    exact ⟨e, List.mem_filter.mpr ⟨he, decide_eq_true h⟩, rfl⟩
theorem asum_drop (f : α → Int) : ∀ (l : List (κ × α)) (k : κ), (akeys l).Nodup → asum f (adrop l k) = asum f l - fO f (aget l k)
  | [], k, _ => by
    show (0 : Int) = 0 - 0
    omega
  | p :: l, k, h => by
    have hc : p.1 ∉ akeys l ∧ (akeys l).Nodup := List.nodup_cons.mp h
    have i := asum_drop f l k hc.2
    rw [aget_cons]
    by_cases c : p.1 = k
    · rw [if_pos c, asum_cons]
      have e : adrop (p :: l) k = adrop l k := by
        unfold adrop
        rw [List.filter_cons, if_neg (by simp [c])]
      rw [e, i, aget_none.mpr (c ▸ hc.1)]
      show asum f l - 0 = f p.2 + asum f l - f p.2
      omega
    · rw [if_neg c, asum_cons]
      have e : adrop (p :: l) k = p :: adrop l k := by
        unfold adrop
        rw [List.filter_cons, if_pos (by simp [c])]
      rw [e, asum_cons, i]
      omega
theorem asum_mem {f : α → Int} {l : List (κ × α)} (h : ∀ e ∈ l, 0 ≤ f e.2) {k : κ} {a : α} (he : aget l k = some a) : f a ≤ asum f l := le_asum h (aget_mem he)
end
/-- a row of the law's, before slim -/
structure RowG (ps : List Pt) (k lf : Nat) : Prop where
  ok : oks ps
  dp : dps ps + lf ≤ 5
  w : wts ps + 1 ≤ 73 * 3 ^ k
theorem RowG.rowOk {ps : List Pt} {k lf : Nat} (h : RowG ps k lf) (hk : k ≤ 8) : RowOk ps := by
  have h1 : 3 ^ k ≤ 3 ^ 8 := Nat.pow_le_pow_right (by decide) hk
  have h2 : (3 : Nat) ^ 8 = 6561 := by decide
  have := h.w
  have := h.dp
  exact ⟨h.ok, by omega, by omega⟩
theorem RowG.w5 {ps : List Pt} {k lf : Nat} (h : RowG ps k lf) (hk : k ≤ 8) : wts ps ≤ 480000 := by
  have h1 : 3 ^ k ≤ 3 ^ 8 := Nat.pow_le_pow_right (by decide) hk
  have h2 : (3 : Nat) ^ 8 = 6561 := by decide
  have := h.w
  omega
theorem pow3_succ (k : Nat) : 3 ^ (k + 1) = 3 * 3 ^ k := by rw [Nat.pow_succ]; omega
theorem pow3_pos (k : Nat) : 1 ≤ 3 ^ k := Nat.pow_pos (by decide)
structure RowsG (rows : Rows) (k lf : Nat) : Prop where
  nd : (akeys rows).Nodup
  nm : ∀ x ∈ akeys rows, x ∈ NM4
  each : ∀ e ∈ rows, RowG e.2 k lf
  tot : asum manys rows + (lf : Int) * 100000000000000000000000000000 ≤ 400000000000000000000000000000 + 1000000 + k
structure RowsS (rows : Rows) (k lf : Nat) : Prop extends RowsG rows k lf where
  sl : ∀ e ∈ rows, isSl e.2
theorem slimR_id : ∀ {rows : Rows}, (∀ e ∈ rows, isSl e.2) → slimR rows = rows
  | [], _ => rfl
  | e :: r, h => by
    show (e.1, sls e.2) :: slimR r = e :: r
    rw [sls_id e.2 (h e List.mem_cons_self), slimR_id fun x z => h x (List.mem_cons_of_mem _ z)]
theorem akeys_slim (rows : Rows) : akeys (slimR rows) = akeys rows := by unfold akeys slimR; rw [List.map_map]; rfl
theorem asum_slim : ∀ {rows : Rows}, (∀ e ∈ rows, oks e.2) → asum manys (slimR rows) = asum manys rows
  | [], _ => rfl
  | e :: r, h => by
    show asum manys ((e.1, sls e.2) :: slimR r) = _
    rw [asum_cons, asum_cons, asum_slim fun x z => h x (List.mem_cons_of_mem _ z), (sls_facts e.2 (h e List.mem_cons_self)).1]
theorem mem_slim {rows : Rows} {e : Str × List Pt} (h : e ∈ slimR rows) : ∃ q ∈ rows, e = (q.1, sls q.2) := by
  obtain ⟨q, hq, rfl⟩ := List.mem_map.mp h
  exact ⟨q, hq, rfl⟩
theorem RowsG.slim {rows : Rows} {k lf : Nat} (h : RowsG rows k lf) : RowsS (slimR rows) k lf := by
  refine ⟨⟨by rw [akeys_slim]; exact h.nd, by rw [akeys_slim]; exact h.nm, fun e he => ?_, by rw [asum_slim fun e he => (h.each e he).ok]; exact h.tot⟩, fun e he => ?_⟩
  · obtain ⟨q, hq, rfl⟩ := mem_slim he
    have g := h.each q hq
    have f := sls_facts q.2 g.ok
    exact ⟨f.2.1, by have := g.dp; have := f.2.2.1; show dps (sls q.2) + lf ≤ 5; omega, by have := g.w; have := f.2.2.2; show wts (sls q.2) + 1 ≤ _; omega⟩
  · obtain ⟨q, hq, rfl⟩ := mem_slim he
    exact isSl_sls q.2
theorem RowG.up {ps : List Pt} {k k' lf lf' : Nat} (h : RowG ps k lf) (hk : k ≤ k') (hl : lf' ≤ lf) : RowG ps k' lf' := by
  have h1 : 3 ^ k ≤ 3 ^ k' := Nat.pow_le_pow_right (by decide) hk
  have := h.w
  have := h.dp
  exact ⟨h.ok, by omega, by omega⟩
theorem RowsG.up {rows : Rows} {k k' lf lf' : Nat} (h : RowsG rows k lf) (hk : k ≤ k') (hl : lf' ≤ lf) : RowsG rows k' lf' := by
  have ht := h.tot
  refine ⟨h.nd, h.nm, fun e he => (h.each e he).up hk hl, ?_⟩
  omega
theorem RowsS.up {rows : Rows} {k k' lf lf' : Nat} (h : RowsS rows k lf) (hk : k ≤ k') (hl : lf' ≤ lf) : RowsS rows k' lf' := ⟨h.toRowsG.up hk hl, h.sl⟩
theorem RowsG.nn {rows : Rows} {k lf : Nat} (h : RowsG rows k lf) : ∀ e ∈ rows, 0 ≤ manys e.2 := fun e he => manys_nn _ (h.each e he).ok
/-- one row's people -/
theorem RowsG.many {rows : Rows} {k lf : Nat} (h : RowsG rows k lf) {n : Str} {ps : List Pt} (e : aget rows n = some ps) : 0 ≤ manys ps ∧ manys ps ≤ asum manys rows := ⟨manys_nn _ (h.each _ (aget_mem e)).ok, asum_mem h.nn e⟩
theorem RowsG.top {rows : Rows} {k lf : Nat} (h : RowsG rows k lf) (hk : k ≤ 100) {n : Str} {ps : List Pt} (e : aget rows n = some ps) : manys ps + 1 ≤ TOP := by
  have h1 := (h.many e).2
  have h2 := h.tot
  have h3 : TOP = 999999999999999999999999999999 := rfl
  omega
theorem RowsG.get {rows : Rows} {k lf : Nat} (h : RowsG rows k lf) {n : Str} {ps : List Pt} (e : aget rows n = some ps) : RowG ps k lf := h.each _ (aget_mem e)
theorem RowsG.len {rows : Rows} {k lf : Nat} (h : RowsG rows k lf) : rows.length ≤ 4 := by
  have := List.Nodup.length_le_of_subset h.nd fun x z => h.nm x z
  rw [len_keys] at this
  exact this
theorem RowsG.ok {rows : Rows} {k lf : Nat} (h : RowsG rows k lf) (hk : k ≤ 8) : rowsOk rows := ⟨h.nd, by have := h.len; omega, fun e he => (h.each e he).rowOk hk⟩
/-- one row put -/
theorem RowsG.put {rows : Rows} {k lf lf' : Nat} (h : RowsG rows k lf) {n : Str} {ps : List Pt} (hn : n ∈ NM4) (hl : lf' ≤ lf) (r : RowG ps (k + 1) lf') (t : manys ps - fO manys (aget rows n) ≤ 1 + ((lf : Int) - lf') * 100000000000000000000000000000) : RowsG (aput rows n ps) (k + 1) lf' := by
  refine ⟨nd_put _ _ h.nd, fun x z => ?_, fun e he => ?_, ?_⟩
  · rcases mem_keys_put.mp z with z | z
    · exact h.nm x z
    · exact z ▸ hn
  · rcases mem_put he with z | z
    · exact (h.each e z).up (by omega) hl
    · rw [z]; exact r
  · rw [asum_put manys rows n ps h.nd]
    have := h.tot
    omega
theorem RowsS.sayOver {rows : Rows} {k lf : Nat} (h : RowsS rows k (lf + 1)) (hk : k ≤ 8) {n : Str} {ps : List Pt} (e : aget rows n = some ps) {m : Int} (m0 : 0 ≤ m) (mB : m ≤ BB) (hm : manys ps * m ≤ 100000000000000000000000000000) : RowsG (aput rows n (ovo ps m)) (k + 1) lf := by
  have g := h.toRowsG.get e
  have mm := h.toRowsG.many e
  have sl := h.sl _ (aget_mem e)
  have tp := h.toRowsG.top (by omega) e
  have b := show BB = 10000000000000000000000000000000 from rfl
  have t := show TOP = 999999999999999999999999999999 from rfl
  have f := ovo_facts g.ok sl m0 mB (by omega) (by omega)
  have w := g.w
  have d := g.dp
  have p3 := pow3_succ k
  refine h.toRowsG.put (h.nm n (aget_key.mp (by rw [e]; rfl))) (by omega) ⟨f.2.1, by omega, by omega⟩ ?_
  rw [e, f.1]
  show manys ps * m - manys ps ≤ _
  omega
theorem RowsS.turn {rows : Rows} {k lf : Nat} (h : RowsS rows k lf) {n : Str} {ps : List Pt} (e : aget rows n = some ps) : RowsG (aput rows n (abs_ ps)) k lf := by
  have g := h.toRowsG.get e
  refine ⟨nd_put _ _ h.nd, fun x z => ?_, fun x he => ?_, ?_⟩
  · rcases mem_keys_put.mp z with z | z
    · exact h.nm x z
    · exact z ▸ h.nm n (aget_key.mp (by rw [e]; rfl))
  · rcases mem_put he with z | z
    · exact h.each x z
    · rw [z]; exact ⟨(oks_ab ps).mpr g.ok, by show dps (abs_ ps) + lf ≤ 5; rw [dps_ab]; exact g.dp, by show wts (abs_ ps) + 1 ≤ _; rw [wts_ab]; exact g.w⟩
  · rw [asum_put manys rows n _ h.nd, e, manys_ab]
    have := h.tot
    show asum manys rows - manys ps + manys ps + _ ≤ _
    omega
theorem RowsS.stepIn {rows : Rows} {k lf : Nat} (h : RowsS rows k lf) {n : Str} {ps : List Pt} (e : aget rows n = some ps) {x : Int} {s : Sg} (x0 : 0 ≤ x) (x1 : x ≤ manys ps) (hs : sgOk s) : RowsG (aput rows n (hds ps x ++ [.spot s 0] ++ tls ps x)) (k + 1) lf := by
  have g := h.toRowsG.get e
  have c := cuts ps x g.ok x0 x1
  have w := g.w
  have d := g.dp
  have p3 := pow3_succ k
  have cw := c.w
  have c1 := c.d1
  have c2 := c.d2
  have m1 := c.m1
  have m2 := c.m2
  refine h.toRowsG.put (h.nm n (aget_key.mp (by rw [e]; rfl))) (Nat.le_refl _) ⟨?_, ?_, ?_⟩ ?_
  · rw [oks_app, oks_app, oks_one, Pt.ok]
    exact ⟨⟨c.o1, hs⟩, c.o2⟩
  · rw [dps_app, dps_app, dps_one, Pt.dp]; omega
  · rw [wts_app, wts_app, wts_one, Pt.wt]; omega
  · rw [e, manys_app, manys_app, manys_one, Pt.many]
    show manys (hds ps x) + 1 + manys (tls ps x) - manys ps ≤ _
    omega
theorem RowsS.cut {rows : Rows} {k lf : Nat} (h : RowsS rows k lf) {n o : Str} {ps : List Pt} (e : aget rows n = some ps) (ho : o ∈ NM4) (eo : aget rows o = none) {x : Int} (x0 : 0 ≤ x) (x1 : x ≤ manys ps) : RowsG (aput (aput rows n (hds ps x)) o (tls ps x)) (k + 1) lf := by
  have g := h.toRowsG.get e
  have c := cuts ps x g.ok x0 x1
  have w := g.w
  have d := g.dp
  have p3 := pow3_succ k
  have cw := c.w
  have c1 := c.d1
  have c2 := c.d2
  have m1 := c.m1
  have m2 := c.m2
  have no : o ≠ n := fun z => by rw [z, e] at eo; cases eo
  have nn := h.nm n (aget_key.mp (by rw [e]; rfl))
  have nd1 := nd_put n (hds ps x) h.nd
  refine ⟨nd_put _ _ nd1, fun y z => ?_, fun y he => ?_, ?_⟩
  · rcases mem_keys_put.mp z with z | z
    · rcases mem_keys_put.mp z with z | z
      · exact h.nm y z
      · exact z ▸ nn
    · exact z ▸ ho
  · rcases mem_put he with z | z
    · rcases mem_put z with z | z
      · exact (h.each y z).up (by omega) (Nat.le_refl _)
      · rw [z]; exact ⟨c.o1, by show dps (hds ps x) + lf ≤ 5; omega, by show wts (hds ps x) + 1 ≤ _; omega⟩
    · rw [z]; exact ⟨c.o2, by show dps (tls ps x) + lf ≤ 5; omega, by show wts (tls ps x) + 1 ≤ _; omega⟩
  · rw [asum_put manys _ o _ nd1, asum_put manys rows n _ h.nd, aget_put _ _ _ _ h.nd, if_neg no, e, eo]
    have := h.tot
    show asum manys rows - manys ps + manys (hds ps x) - 0 + manys (tls ps x) + _ ≤ _
    omega
theorem RowsS.join {rows : Rows} {k lf : Nat} (h : RowsS rows k lf) {n o : Str} {ps qs : List Pt} (e : aget rows n = some ps) (eo : aget rows o = some qs) (no : n ≠ o) : RowsG (adrop (aput rows n (ps ++ qs)) o) (k + 1) lf := by
  have g := h.toRowsG.get e
  have g2 := h.toRowsG.get eo
  have w := g.w
  have d := g.dp
  have w2 := g2.w
  have d2 := g2.dp
  have p3 := pow3_succ k
  have nn := h.nm n (aget_key.mp (by rw [e]; rfl))
  have nd1 := nd_put n (ps ++ qs) h.nd
  refine ⟨?_, fun y z => ?_, fun y he => ?_, ?_⟩
  · unfold adrop
    exact List.Nodup.sublist (List.Sublist.map _ List.filter_sublist) nd1
  · have z := ((akeys_drop _ _ _).mp z).1
    rcases mem_keys_put.mp z with z | z
    · exact h.nm y z
    · exact z ▸ nn
  · unfold adrop at he
    rcases mem_put (List.mem_filter.mp he).1 with z | z
    · exact (h.each y z).up (by omega) (Nat.le_refl _)
    · rw [z]; exact ⟨(oks_app _ _).mpr ⟨g.ok, g2.ok⟩, by show dps (ps ++ qs) + lf ≤ 5; rw [dps_app]; omega, by show wts (ps ++ qs) + 1 ≤ _; rw [wts_app]; omega⟩
  · rw [asum_drop manys _ o nd1, asum_put manys rows n _ h.nd, aget_put _ _ _ _ h.nd, if_neg (fun z => no z.symm), e, eo, manys_app]
    have := h.tot
    show asum manys rows - manys ps + (manys ps + manys qs) - manys qs + _ ≤ _
    omega
theorem RowsS.joinTop {rows : Rows} {k lf : Nat} (h : RowsS rows k lf) (hk : k ≤ 8) {n o : Str} {ps qs : List Pt} (e : aget rows n = some ps) (eo : aget rows o = some qs) (no : n ≠ o) : manys ps + manys qs ≤ TOP := by
  have d := asum_drop manys rows n h.nd
  rw [e] at d
  have g : manys qs ≤ asum manys (adrop rows n) := by
    refine le_asum (e := (o, qs)) (fun x hx => h.toRowsG.nn x ?_) ?_
    · unfold adrop at hx; exact (List.mem_filter.mp hx).1
    · unfold adrop
      exact List.mem_filter.mpr ⟨aget_mem eo, decide_eq_true (fun z => no z.symm)⟩
  have d' : asum manys (adrop rows n) = asum manys rows - manys ps := d
  have := h.tot
  have h3 : TOP = 999999999999999999999999999999 := rfl
  omega
theorem rowsG_nil (k lf : Nat) (hl : lf ≤ 3) : RowsS [] k lf := ⟨⟨List.nodup_nil, fun _ z => (nomatch z), fun _ z => (nomatch z), by show (0 : Int) + _ ≤ _; omega⟩, fun _ z => (nomatch z)⟩
/-- a new row of people few enough -/
theorem RowsS.new {rows : Rows} {k lf : Nat} (h : RowsS rows k lf) {n : Str} {ps : List Pt} (hn : n ∈ NM4) (e : aget rows n = none) (r : RowG ps k lf) (t : asum manys rows + manys ps + (lf : Int) * 100000000000000000000000000000 ≤ 400000000000000000000000000000 + 1000000 + k) : RowsG (aput rows n ps) k lf := by
  refine ⟨nd_put _ _ h.nd, fun x z => ?_, fun x he => ?_, ?_⟩
  · rcases mem_keys_put.mp z with z | z
    · exact h.nm x z
    · exact z ▸ hn
  · rcases mem_put he with z | z
    · exact h.each x z
    · rw [z]; exact r
  · rw [asum_put manys rows n ps h.nd, e]
    show asum manys rows - 0 + manys ps + _ ≤ _
    omega
/-- what stood before each deed: at first nothing, then always a row -/
def Hist : List Rows → Rows → Prop
  | [], rows => rows = []
  | r0 :: d, rows => r0 = [] ∧ (∀ r ∈ d, r ≠ []) ∧ rows ≠ []
theorem Hist.push {done : List Rows} {rows rows' : Rows} (h : Hist done rows) (h2 : rows' ≠ []) : Hist (done ++ [rows]) rows' := by
  cases done with
  | nil => exact ⟨h, fun _ z => (nomatch z), h2⟩
  | cons r0 d =>
    refine ⟨h.1, fun r z => ?_, h2⟩
    rcases List.mem_append.mp z with z | z
    · exact h.2.1 r z
    · rw [List.mem_singleton.mp z]; exact h.2.2
theorem Hist.pop {done : List Rows} {rows rows0 : Rows} (h : Hist (done ++ [rows0]) rows) : Hist done rows0 := by
  cases done with
  | nil => exact h.1
  | cons r0 d => exact ⟨h.1, fun r z => h.2.1 r (List.mem_append_left _ z), h.2.1 rows0 (List.mem_append_right _ List.mem_cons_self)⟩
theorem Hist.some {done : List Rows} {rows : Rows} (h : Hist done rows) (h2 : rows ≠ []) : ∃ d0 r0, done = d0 ++ [r0] := by
  cases hd : done.reverse with
  | nil =>
    have : done = [] := by rw [← List.reverse_reverse done, hd]; rfl
    rw [this] at h
    exact absurd h h2
  | cons a b => exact ⟨b.reverse, a, by rw [← List.reverse_reverse done, hd, List.reverse_cons]⟩
theorem ne_put {κ α : Type} [DecidableEq κ] (l : List (κ × α)) (k : κ) (a : α) : aput l k a ≠ [] := fun z => by
  have : k ∈ akeys (aput l k a) := mem_keys_put.mpr (.inr rfl)
  rw [z] at this
  cases this
theorem ne_slim {rows : Rows} (h : rows ≠ []) : slimR rows ≠ [] := fun z => h (List.map_eq_nil_iff.mp z)
theorem ne_join {rows : Rows} {n o : Str} {ps : List Pt} (no : n ≠ o) : adrop (aput rows n ps) o ≠ [] := fun z => by
  have : n ∈ akeys (adrop (aput rows n ps) o) := (akeys_drop _ _ _).mpr ⟨mem_keys_put.mpr (.inr rfl), no⟩
  rw [z] at this
  cases this
theorem free_name {rows : Rows} (h : rows.length < 4) : ∃ o ∈ NM4, o ∉ akeys rows := by
  have : ¬ ∀ x ∈ NM4, x ∈ akeys rows := fun z => by
    have := List.Nodup.length_le_of_subset (by decide : NM4.Nodup) z
    rw [len_keys] at this
    have e : NM4.length = 4 := rfl
    omega
  simpa using this
theorem Keep.trans {M M1 M2 : Addr → Prop} {H H1 H2 : Hp} (k : Keep M M1 H H1) (l : Keep M1 M2 H1 H2) : Keep M M2 H H2 := by
  refine ⟨fun a z => ?_, fun a o n e => l.k a o (k.not n e) (k.k a o n e)⟩
  rcases l.m a z with y | y
  · exact k.m a y
  · by_cases hm : M a
    · exact .inl hm
    · cases e : H a with
      | none => exact .inr rfl
      | some o => rw [k.k a o hm e] at y; cases y
/-- where a law's turn stands -/
structure LS (K : PySem.W.Frag) (F M : Addr → Prop) (H : Hp) (U h Lf : Addr) (rows : Rows) (done : List Rows) (u c lf : Nat) : Prop where
  hall : HallAt K F M H h rows done u
  hM : ∀ a, M a → H a ≠ none
  mU : M U
  fU : ¬ F U
  mL : M Lf
  fL : ¬ F Lf
  ne : U ≠ Lf
  urn : UrnAt H U c
  left : H Lf = some (.lst [.int (lf : Int)])
section
variable {K : PySem.W.Frag} {F F2 M : Addr → Prop} {H H' : Hp} {U h Lf : Addr} {rows rows' : Rows} {done done' : List Rows} {u u' c c' lf : Nat}
theorem LS.sub (x : LS K F M H U h Lf rows done u c lf) : ∀ a, F a → M a := x.hall.sub
theorem LS.same (x : LS K F M H U h Lf rows done u c lf) (s : Same H H') : LS K F M H' U h Lf rows done u c lf :=
  ⟨x.hall.same s, hM_same s x.hM, x.mU, x.fU, x.mL, x.fL, x.ne, x.urn.same s, s _ _ x.left⟩
theorem LS.ball (x : LS K F M H U h Lf rows done u c lf) (s : SameX U H H') (hu : UrnAt H' U c') : LS K F M H' U h Lf rows done u c' lf ∧ Keep M M H H' := by
  have k : Keep M M H H' := s.keep x.mU
  exact ⟨⟨x.hall.keep k (fun a o f e => s a o (fun z => x.fU (z ▸ f)) e) x.sub, s.hM hu.some x.hM, x.mU, x.fU, x.mL, x.fL, x.ne, hu, s _ _ x.ne.symm x.left⟩, k⟩
theorem LS.deed (x : LS K F M H U h Lf rows done u c lf) (f : Frame F F2 H H') (hh : HallAt K F2 (fun a => M a ∨ F2 a) H' h rows' done' u') :
    LS K F2 (fun a => (M a ∧ ¬ F a) ∨ F2 a) H' U h Lf rows' done' u' c lf ∧ Keep M (fun a => (M a ∧ ¬ F a) ∨ F2 a) H H' := by
  have nU : ¬ F2 U := fun z => (f.n U z).elim x.fU (x.hM U x.mU)
  have nL : ¬ F2 Lf := fun z => (f.n Lf z).elim x.fL (x.hM Lf x.mL)
  have w : Keep (fun a => M a ∨ F2 a) (fun a => (M a ∧ ¬ F a) ∨ F2 a) H' H' := ⟨fun a z => .inl (z.elim (fun y => .inl y.1) .inr), fun a o _ e => e⟩
  refine ⟨⟨hh.keep w (fun a o _ e => e) (fun a z => .inr z), fun a z y => ?_, .inl ⟨x.mU, x.fU⟩, nU, .inl ⟨x.mL, x.fL⟩, nL, x.ne, ?_, f.k _ _ x.fL x.left⟩, (f.keep x.sub).trans w⟩
  · rcases z with z | z
    · obtain ⟨o, ho⟩ := Option.ne_none_iff_exists'.mp (x.hM a z.1)
      rw [f.k a o z.2 ho] at y; cases y
    · exact f.h a z y
  · obtain ⟨a, b, e, h1, r⟩ := x.urn
    exact ⟨a, b, e, f.k _ _ x.fU h1, r⟩
theorem LS.undo (x : LS K F M H U h Lf rows done u c lf) (f : Frame F F H H') (hh : HallAt K F M H' h rows' done' u') : LS K F M H' U h Lf rows' done' u' c lf ∧ Keep M M H H' := by
  refine ⟨⟨hh, fun a z y => ?_, x.mU, x.fU, x.mL, x.fL, x.ne, ?_, f.k _ _ x.fL x.left⟩, ⟨fun a z => .inl z, fun a o n e => f.k a o (fun z => n (x.sub a z)) e⟩⟩
  · by_cases fa : F a
    · exact f.h a fa y
    · obtain ⟨o, ho⟩ := Option.ne_none_iff_exists'.mp (x.hM a z)
      rw [f.k a o fa ho] at y; cases y
  · obtain ⟨a, b, e, h1, r⟩ := x.urn
    exact ⟨a, b, e, f.k _ _ x.fU h1, r⟩
theorem LS.mono (x : LS K F M H U h Lf rows done u c lf) (l : u ≤ u') (l2 : c ≤ c') : LS K F M H U h Lf rows done u' c' lf := by
  obtain ⟨⟨s, dx, R, Dn, Un, dl, ul, f1, f2, f3, ne, e1, e2, e3, lu, hr⟩, hM, a, b, c, d, e, f, g⟩ := x
  exact ⟨⟨s, dx, R, Dn, Un, dl, ul, f1, f2, f3, ne, e1, e2, e3, by omega, hr⟩, hM, a, b, c, d, e, f.mono l2, g⟩
/-- all that the law's hall has been -/
structure AG (rows : Rows) (done : List Rows) (k lf : Nat) : Prop where
  all : ∀ r, r ∈ done ++ [rows] → RowsS r k lf
  hist : Hist done rows
theorem AG.cur (a : AG rows done k lf) : RowsS rows k lf := a.all rows (List.mem_append_right _ List.mem_cons_self)
theorem AG.push {k k' lf' : Nat} (a : AG rows done k lf) (g : RowsG rows' k' lf') (hk : k ≤ k') (hl : lf' ≤ lf) (hn : rows' ≠ []) : AG (slimR rows') (done ++ [rows]) k' lf' := by
  refine ⟨fun r hr => ?_, a.hist.push (ne_slim hn)⟩
  rcases List.mem_append.mp hr with z | z
  · exact (a.all r z).up hk hl
  · rw [List.mem_singleton.mp z]; exact g.slim
theorem AG.pop {k : Nat} {rows0 : Rows} (a : AG rows (done ++ [rows0]) k lf) : AG rows0 done k lf := ⟨fun r hr => a.all r (List.mem_append_left _ hr), a.hist.pop⟩
theorem AG.up {k k' lf' : Nat} (a : AG rows done k lf) (hk : k ≤ k') (hl : lf' ≤ lf) : AG rows done k' lf' := ⟨fun r hr => (a.all r hr).up hk hl, a.hist⟩
theorem LS.hin (x : LS K F M H U h Lf rows done u c lf) (r : rowsOk rows) (l : rows.length ≤ 50) (d : done.length < 100000) : HIn K F M H h rows done u := ⟨x.hall, x.hM, r, l, d⟩
end
section
variable {P : Program} {w : World} {K : PySem.W.Frag} {mg : Str → Option Value} {base : Heap}
/-- the law's little defs -/
structure F3 (P : Program) (w : World) (K : PySem.W.Frag) (mg : Str → Option Value) (base : Heap) (T : Txt K mg) : Prop where
  urn : FnOk P w K mg base CX0 26 (He.ga K "_law_urn") T.fd_Lurn ["_law_script", "_law_k"] (spUrn K)
  ball : FnOk P w K mg base CX0 26 (He.ga K "_law_ball") T.fd_Lball ["_law_urn_here", "_law_many"] spBall
  saying : FnOk P w K mg base CX0 26 (He.ga K "_law_saying") T.fd_Lsaying ["_law_urn_here", "_law_wide"] spSay
  long : FnOk P w K mg base CX0 26 (He.ga K "_law_long") T.fd_Llong ["_law_urn_here", "_law_plan", "_law_deep", "_law_room"] (spLong 3)
  sayings : FnOk P w K mg base CX0 26 (He.ga K "_law_sayings") T.fd_Lsayings ["_law_long_here"] (spLSayings 8)
  company : FnOk P w K mg base CX0 26 (He.ga K "_law_company") T.fd_Lcompany ["_law_urn_here", "_law_sayings_here"] spCompany
  great : FnOk P w K mg base CX0 26 (He.ga K "_law_great") T.fd_Lgreat ["_law_urn_here"] spGreat
theorem f3 (T : Txt K mg) : F3 P w K mg base T := by
  have ba := ok_ball (P := P) (w := w) (base := base) T
  have sa := ok_saying T ba
  have lo := ok_Llong T ba sa (ok_Lpeople T 8) 3 (by omega)
  exact { urn := (ok_urn T).mono (by omega), ball := ba.mono (by omega), saying := sa.mono (by omega), long := lo.mono (by omega), sayings := (ok_Lsayings T 8).mono (by omega), company := (ok_Lcompany T ba).mono (by omega), great := (ok_Lgreat T ba lo).mono (by omega) }
theorem inV_str (n : Str) : ∀ ys : List Str, inV (.str n) (ys.map V.str) = decide (n ∈ ys)
  | [] => rfl
  | y :: r => by
    have i := inV_str n r
    unfold inV at i ⊢
    rw [List.map_cons, List.any_cons, i]
    show (y == n || decide (n ∈ r)) = _
    by_cases e : y = n
    · simp [e]
    · have e' : ¬ n = y := fun z => e z.symm
      simp [e, e']
theorem flat_strs : ∀ ys : List Str, (ys.map V.str).all flatV = true
  | [] => rfl
  | y :: r => by rw [List.map_cons, List.all_cons, flat_strs r]; rfl
theorem atI_z (a : V) (r : List V) : atI (a :: r) 0 = some a := by
  unfold atI ixN
  rw [if_pos (by omega), if_pos (by rw [List.length_cons]; omega)]; rfl
theorem atI_o (a b : V) (r : List V) : atI (a :: b :: r) 1 = some b := by
  unfold atI ixN
  rw [if_pos (by omega), if_pos (by rw [List.length_cons, List.length_cons]; omega)]; rfl
theorem andT {p : Prop} [Decidable p] {X S T : Prop} (hT : T) (h1 : p → T → X) : if decide p = true then X else (if false = true then S else T) := ite_d (fun c => h1 c hT) fun _ => iteF hT
theorem LS.setL {F M : Addr → Prop} {H : Hp} {U h Lf : Addr} {rows : Rows} {done : List Rows} {u c lf lf' : Nat} (x : LS K F M H U h Lf rows done u c lf) : LS K F M (upd H Lf (.lst [.int (lf' : Int)])) U h Lf rows done u c lf' ∧ Keep M M H (upd H Lf (.lst [.int (lf' : Int)])) := by
  have k : Keep M M H (upd H Lf (.lst [.int (lf' : Int)])) := keep_wr x.mL
  refine ⟨⟨x.hall.keep k (fun a o f e => by rw [upd_ne (fun z : a = Lf => x.fL (z ▸ f))]; exact e) x.sub, fun a z => ?_, x.mU, x.fU, x.mL, x.fL, x.ne, ?_, upd_same⟩, k⟩
  · by_cases e : a = Lf
    · rw [e, upd_same]; exact fun z => nomatch z
    · rw [upd_ne e]; exact x.hM a z
  · obtain ⟨a, b, e, h1, r⟩ := x.urn
    exact ⟨a, b, e, by rw [upd_ne x.ne]; exact h1, r⟩
def spMove (K : PySem.W.Frag) : Sp := fun vs H Q _ => ∃ (F M : Addr → Prop) (U h Lf : Addr) (rows : Rows) (done : List Rows) (u c lf k : Nat), vs = [.ref U, .ref h, .ref Lf] ∧ LS K F M H U h Lf rows done u c lf ∧ AG rows done k lf ∧ rows ≠ [] ∧ k < 8 ∧ done.length < 1000 ∧ u < 1000 ∧ c + 100 ≤ 8000000 ∧
  ∀ F2 M2 H' rows' done' u' lf', LS K F2 M2 H' U h Lf rows' done' u' (c + 20) lf' → Keep M M2 H H' → AG rows' done' (k + 1) lf' → done'.length ≤ done.length + 1 → u' ≤ u + 1 → Q .non H'
theorem ok_Lmove (T : Txt K mg) (B : F2 P w K mg base T) (C : F3 P w K mg base T) : FnOk P w K mg base CX0 27 (He.ga K "_law_move") T.fd_Lmove ["_law_urn_here", "_law_hall", "_law_left"] (spMove K) := by
  have G_Lball := C.ball
  have G_Lsaying := C.saying
  have G_Hall__len := B.len
  have G_Hall_names := B.names
  have G_Hall_people := B.people
  have G_Hall_say_over := B.say_over
  have G_Hall_join_to := B.join_to
  have G_Hall_cut := B.cut
  have G_Hall_turn_about := B.turn_about
  have G_Hall_undo := B.undo
  have G_Hall_step_in := B.step_in
  refine T.d_Lmove.F.ok sc_Lmove (fun vs H Q E h => ?_) (fun cdv A outer s H vs Q E hr h => ⟨_, PSs.nox (pss_cons (ps_set (i := 3) sc_Lmove.nd rfl (Or.inl rfl) (pe_ix ix_list (pe_meth0 (pv 1) T.cl_Hall T.m_Hall_names G_Hall_names (hr.mono (by omega)) T.d_Hall_names.b .nil pass0) (pe_call G_Lball (hr.mono (by omega)) rfl T.g_Lball T.d_Lball.F.kp T.d_Lball.b .nil pass0 (pa_cons (pv 0) (pa_cons (pe_callB (call_lenOwn (C := He.ga K "Hall") G_Hall__len (hr.mono (by omega)) T.m_Hall__len T.d_Hall__len.b) (by rfl) T.z_len bt_len (pa_cons (pv 1) pa_nil)) pa_nil))) (fun _ _ => rfl)))
    (pss_cons (ps_set (i := 4) sc_Lmove.nd rfl (Or.inl rfl) (pe_meth (pv 1) T.cl_Hall T.m_Hall_people G_Hall_people (hr.mono (by omega)) T.d_Hall_people.b .nil pass0 (pa_cons (pv 3) pa_nil)))
    (pss_cons (ps_set (i := 5) sc_Lmove.nd rfl (Or.inl rfl) (pe_call G_Lball (hr.mono (by omega)) rfl T.g_Lball T.d_Lball.F.kp T.d_Lball.b .nil pass0 (pa_cons (pv 0) (pa_cons pe_int pa_nil))))
    (pss_cons (ps_set (i := 6) sc_Lmove.nd rfl (Or.inl rfl) (pe_op op_fdivW (pe_op op_pow pe_int pe_int) (pe_callB (call_maxN rfl) (by rfl) T.z_max bt_max (pa_cons pe_int (pa_cons (pv 4) pa_nil)))))
    (pss_one (ps_if (PW.pt (pw_and (pt_cmpR op_eq (pv 5) pe_int (nomark _)) (pw_and1 (pt_cmpR op_gt (pe_ix ix_list (pv 2) pe_int (fun _ _ => rfl)) pe_int (nomark _))))) (pss_cons (ps_asg (pe_op op_sub (pe_ix ix_list (pv 2) pe_int (fun _ _ => rfl)) pe_int) (pg_sub (pv 2) pe_int set_list))
    (pss_one (ps_expr (pe_meth (pv 1) T.cl_Hall T.m_Hall_say_over G_Hall_say_over (hr.mono (by omega)) T.d_Hall_say_over.b .nil pass0 (pa_cons (pv 3) (pa_cons (pe_ix ix_list (pe_lst (pa_cons (pe_callB (call_minN rfl) (by rfl) T.z_min bt_min (pa_cons (pv 6) (pa_cons (pe_op op_add pe_int (pe_call G_Lball (hr.mono (by omega)) rfl T.g_Lball T.d_Lball.F.kp T.d_Lball.b .nil pass0 (pa_cons (pv 0) (pa_cons pe_int pa_nil)))) pa_nil))) (pa_cons (pe_call G_Lball (hr.mono (by omega)) rfl T.g_Lball T.d_Lball.F.kp T.d_Lball.b .nil pass0 (pa_cons (pv 0) (pa_cons (pe_op op_add (pv 6) pe_int) pa_nil))) pa_nil))) (pe_call G_Lball (hr.mono (by omega)) rfl T.g_Lball T.d_Lball.F.kp T.d_Lball.b .nil pass0 (pa_cons (pv 0) (pa_cons pe_int pa_nil))) (fun _ _ => rfl)) pa_nil)))))) (pss_one (ps_if (PW.pt (pw_and (pt_cmpR op_eq (pv 5) pe_int (nomark _)) (pw_and1 (pt_cmpR op_gt (pe_callB (call_lenOwn (C := He.ga K "Hall") G_Hall__len (hr.mono (by omega)) T.m_Hall__len T.d_Hall__len.b) (by rfl) T.z_len bt_len (pa_cons (pv 1) pa_nil)) pe_int (nomark _))))) (pss_one (ps_expr (pe_meth (pv 1) T.cl_Hall T.m_Hall_join_to G_Hall_join_to (hr.mono (by omega)) T.d_Hall_join_to.b .nil pass0 (pa_cons (pe_ix ix_list (pe_meth0 (pv 1) T.cl_Hall T.m_Hall_names G_Hall_names (hr.mono (by omega)) T.d_Hall_names.b .nil pass0) pe_int (fun _ _ => rfl)) (pa_cons (pe_ix ix_list (pe_meth0 (pv 1) T.cl_Hall T.m_Hall_names G_Hall_names (hr.mono (by omega)) T.d_Hall_names.b .nil pass0) pe_int (fun _ _ => rfl)) pa_nil))))) (pss_one (ps_if (PW.pt (pw_and (pt_cmpR op_eq (pv 5) pe_int (nomark _)) (pw_and1 (pt_cmpR op_lt (pe_callB (call_lenOwn (C := He.ga K "Hall") G_Hall__len (hr.mono (by omega)) T.m_Hall__len T.d_Hall__len.b) (by rfl) T.z_len bt_len (pa_cons (pv 1) pa_nil)) pe_int (nomark _))))) (pss_one (ps_expr (pe_meth (pv 1) T.cl_Hall T.m_Hall_cut G_Hall_cut (hr.mono (by omega)) T.d_Hall_cut.b .nil pass0 (pa_cons (pv 3) (pa_cons (pe_call G_Lball (hr.mono (by omega)) rfl T.g_Lball T.d_Lball.F.kp T.d_Lball.b .nil pass0 (pa_cons (pv 0) (pa_cons (pe_op op_add (pv 4) pe_int) pa_nil))) (pa_cons (pe_ix ix_list (pe_lc (own := [("_law_one", 7)]) (g := (gName 7)) rfl sc_Lmove.nd (pi_list (pe_lst (pa_cons pe_str (pa_cons pe_str (pa_cons pe_str (pa_cons pe_str pa_nil)))))) (blkOk_by (N := ["_law_urn_here", "_law_hall", "_law_left", "_law_name", "_law_many", "_law_way", "_law_most", "_law_one"]) (sc := defScope s_Lmove) (by decide +kernel)) (fun _ _ _ _ _ => (pg_name (i := 7) sc_Lmove.nd rfl (Or.inl rfl))) (fun _ _ _ _ _ => (pts_one (pt_cmpR (show OpR _ _ (rIn K true) from op_notIn_seq) (pv 7) (pe_meth0 (pv 1) T.cl_Hall T.m_Hall_names G_Hall_names (hr.mono (by omega)) T.d_Hall_names.b .nil pass0) rfl))) (fun _ _ _ _ _ => (pv 7))) pe_int (fun _ _ => rfl)) pa_nil)))))) (pss_one (ps_if (pt_cmpR op_eq (pv 5) pe_int (nomark _)) (pss_one (ps_expr (pe_meth (pv 1) T.cl_Hall T.m_Hall_turn_about G_Hall_turn_about (hr.mono (by omega)) T.d_Hall_turn_about.b .nil pass0 (pa_cons (pv 3) pa_nil)))) (pss_one (ps_if (pt_cmpR op_eq (pv 5) pe_int (nomark _)) (pss_one (ps_expr (pe_meth0 (pv 1) T.cl_Hall T.m_Hall_undo G_Hall_undo (hr.mono (by omega)) T.d_Hall_undo.b .nil pass0))) (pss_one (ps_expr (pe_meth (pv 1) T.cl_Hall T.m_Hall_step_in G_Hall_step_in (hr.mono (by omega)) T.d_Hall_step_in.b .nil pass0 (pa_cons (pv 3) (pa_cons (pe_call G_Lball (hr.mono (by omega)) rfl T.g_Lball T.d_Lball.F.kp T.d_Lball.b .nil pass0 (pa_cons (pv 0) (pa_cons (pe_op op_add (pv 4) pe_int) pa_nil))) (pa_cons (pe_call G_Lsaying (hr.mono (by omega)) rfl T.g_Lsaying T.d_Lsaying.F.kp T.d_Lsaying.b .nil pass0 (pa_cons (pv 0) (pa_cons (pe_ix ix_list (pe_lst (pa_cons pe_int (pa_cons (pe_op op_pow pe_int pe_int) pa_nil))) (pe_call G_Lball (hr.mono (by omega)) rfl T.g_Lball T.d_Lball.F.kp T.d_Lball.b .nil pass0 (pa_cons (pv 0) (pa_cons pe_int pa_nil))) (fun _ _ => rfl)) pa_nil))) pa_nil)))))))))))))))))))), ?_⟩)
  · obtain ⟨F, M, U, h, Lf, rows, done, u, c, lf, k, rfl, _⟩ := h; rfl
  obtain ⟨F, M, U, h, Lf, rows, done, u, c, lf, k, rfl, x, ag, hne, hk, hdl, hu, hc, q⟩ := h
  have al := ag.cur
  have rok : rowsOk rows := al.toRowsG.ok (by omega)
  have rl := al.toRowsG.len
  have rpos : 0 < rows.length := by
    cases e : rows with
    | nil => exact absurd e hne
    | cons a b => rw [List.length_cons]; omega
  have TT : TOP = 999999999999999999999999999999 := rfl
  have BBe : BB = 10000000000000000000000000000000 := rfl
  obtain ⟨dx, R, Dn, Un, l, e1, eR, hl⟩ := rowsDict x.hall
  walk_at "rd"
  refine p_meth e1 (by rfl) ?_
  refine ⟨F, M, h, rows, done, u, rfl, x.hall, by omega, fun p ys H1 s1 hp1 ep1 perm srt => ?_⟩
  have ylen : ys.length = rows.length := by rw [perm.length_eq, len_keys]
  have ymem : ∀ z ∈ ys, ∃ ps, aget rows z = some ps := fun z hz => by
    have : (aget rows z).isSome = true := aget_key.mpr (perm.subset hz)
    exact Option.isSome_iff_exists.mp this
  have x1 := x.same s1
  have h1ins := s1 _ _ e1
  walk_at "rd"
  refine ⟨h, dx, _, rfl, h1ins, ⟨F, M, h, rows, done, u, rfl, x1.hall, ⟨_, rfl, by omega, by omega, ?_⟩⟩⟩
  walk_at "rd"
  refine ⟨U, _, c, rfl, by omega, by omega, x1.urn, by omega, fun i H2 i0 i1 s2 u2 => ?_⟩
  obtain ⟨x2, k2⟩ := x1.ball s2 u2
  have npU : p ≠ U := fun z => x.urn.some (z ▸ hp1)
  obtain ⟨v, ev, hv⟩ := atI_mem (xs := ys.map V.str) i0 (by rw [List.length_map, ylen]; exact i1)
  obtain ⟨n, hn, rfl⟩ := List.mem_map.mp hv
  refine r_ixL (s2 _ _ npU ep1) ev ?_
  obtain ⟨ps, hps⟩ := ymem n hn
  have hnm : n ∈ NM4 := al.toRowsG.nm n (aget_key.mp (by rw [hps]; rfl))
  have nok := nm4_ok n hnm
  have mm := al.toRowsG.many hps
  have top := al.toRowsG.top (by omega) hps
  have g := al.toRowsG.get hps
  have w5 := g.w5 (show k ≤ 8 by omega)
  have k12 : Keep M M H H2 := (Keep.same s1).trans k2
  have h2ins : H2 h = some (.ins (CH K) dx (fH R Dn Un)) := s2 _ _ (fun z => x.fU (by
    obtain ⟨_, dx', R', Dn', Un', _, _, f1, _⟩ := x.hall
    exact z ▸ f1)) h1ins
  walk_at "rd"
  refine p_meth h2ins (by rfl) ?_
  walk_at "rd"
  refine ⟨F, M, h, n, ps, rows, done, u, rfl, x2.hin rok (by omega) (by omega), nok, hps, fun H3 s3 => ?_⟩
  have x3 := x2.same s3
  have k13 := k12.trans (Keep.same s3)
  walk_at "rd"
  refine ⟨U, 6, _, rfl, by omega, by omega, x3.urn, by omega, fun way H4 y0 y1 s4 u4 => ?_⟩
  obtain ⟨x4, k4⟩ := x3.ball s4 u4
  have k14 := k13.trans k4
  have h4ins : H4 h = some (.ins (CH K) dx (fH R Dn Un)) := s4 _ _ (fun z => x.fU (by
    obtain ⟨_, dx', R', Dn', Un', _, _, f1, _⟩ := x.hall
    exact z ▸ f1)) (s3 _ _ h2ins)
  have cc : c + 1 + 1 = c + 2 := by omega
  rw [cc] at x4
  walk_at "rd"
  refine r_pow (cp (by decide) (by decide)) ?_
  rw [pow29]
  walk_at "rd"
  have hin4 := x4.hin rok (by omega) (by omega)
  refine r_fdiv (mid_div (mid_lit (by split <;> omega) (by split <;> omega)) (by split <;> omega)) ?_
  walk_at "rd"
  have most1 : 100000000000000000000000000000 / (if manys ps > 1 then manys ps else 1) ≤ 100000000000000000000000000000 := Int.ediv_le_self _ (by omega)
  have most0 : 0 ≤ 100000000000000000000000000000 / (if manys ps > 1 then manys ps else 1) := Int.ediv_nonneg (by omega) (by split <;> omega)
  have mostm : 100000000000000000000000000000 / (if manys ps > 1 then manys ps else 1) * manys ps ≤ 100000000000000000000000000000 := by
    have pp : 0 < (if manys ps > 1 then manys ps else 1) := by split <;> omega
    have pl : manys ps ≤ (if manys ps > 1 then manys ps else 1) := by split <;> omega
    generalize (if manys ps > 1 then manys ps else 1) = pz at *
    have a1 := Int.mul_le_mul_of_nonneg_left pl most0
    have a2 := Int.ediv_mul_le 100000000000000000000000000000 (show pz ≠ 0 by omega)
    omega
  generalize (100000000000000000000000000000 : Int) / (if manys ps > 1 then manys ps else 1) = most at most0 most1 mostm
  -- the end of a deed
  have deed : ∀ (F2 : Addr → Prop) (H5 H6 : Hp) (rows' : Rows) (c' lf' : Nat), LS K F M H5 U h Lf rows done u c' lf' → Keep M M H H5 → lf' ≤ lf → c' ≤ c + 20 → Frame F F2 H5 H6 → HallAt K F2 (fun a => M a ∨ F2 a) H6 h (slimR rows') (done ++ [rows]) 0 → RowsG rows' (k + 1) lf' → rows' ≠ [] → Q .non H6 :=
    fun F2 H5 H6 rows' c' lf' x5 k5 ll lc fr hh gg nn => by
      obtain ⟨x6, k6⟩ := x5.deed fr hh
      exact q F2 _ H6 _ _ 0 lf' (x6.mono (Nat.le_refl _) lc) (k5.trans k6) (ag.push gg (by omega) ll nn) (by rw [List.length_append, List.length_singleton]; omega) (by omega)
  refine andT ?_ fun c0 t0 => ?_
  · walk_at "rd"
    refine andT ?_ fun c1 t1 => ?_
    · walk_at "rd"
      refine andT ?_ fun c2 t2 => ?_
      · walk_at "rd"
        refine ite_d (fun c3 => ?_) fun c3 => ?_
        · -- turned about
          obtain ⟨_, _, _, _, _, eh, _, _⟩ := rowsDict x4.hall
          walk_at "rd"
          refine p_meth eh (by rfl) ?_
          walk_at "rd"
          refine ⟨F, M, h, n, ps, rows, done, u, rfl, hin4, nok, hps, fun F2 H6 fr hh => ?_⟩
          exact deed F2 H4 H6 _ _ _ x4 k14 (Nat.le_refl _) (by omega) fr hh ((al.turn hps).up (by omega) (Nat.le_refl _)) (ne_put _ _ _)
        · walk_at "rd"
          refine ite_d (fun c4 => ?_) fun c4 => ?_
          · -- undone
            obtain ⟨d0, r0, hd0⟩ := ag.hist.some hne
            subst hd0
            obtain ⟨_, _, _, _, _, eh, _, _⟩ := rowsDict x4.hall
            walk_at "rd"
            refine p_meth eh (by rfl) ?_
            walk_at "rd"
            refine ⟨F, M, h, rows, r0, d0, u, rfl, x4.hall, x4.hM, by omega, fun H6 fr hh => ?_⟩
            obtain ⟨x6, k6⟩ := x4.undo fr hh
            refine q F M H6 _ _ _ lf (x6.mono (Nat.le_refl _) (by omega)) (k14.trans k6) (ag.pop.up (by omega) (Nat.le_refl _)) (by rw [List.length_append, List.length_singleton]; omega) (Nat.le_refl _)
          · -- a step in
            obtain ⟨_, _, _, _, _, eh, _, _⟩ := rowsDict x4.hall
            walk_at "rd"
            refine p_meth eh (by rfl) ?_
            walk_at "rd"
            refine ⟨U, _, _, rfl, by omega, by omega, x4.urn, by omega, fun pl H5 p0 p1 s5 u5 => ?_⟩
            obtain ⟨x5, k5⟩ := x4.ball s5 u5
            walk_at "rd"
            refine r_pow (cp (by decide) (by decide)) ?_
            rw [pow29]
            walk_at "rd"
            refine p_new (sz (by show 2 ≤ _; decide)) fun L hL => ?_
            have s6 : Same H5 (upd H5 L (.lst [.int 9, .int 100000000000000000000000000000])) := same_upd hL
            walk_at "rd"
            refine ⟨U, 2, _, rfl, by omega, by omega, u5.same s6, by omega, fun ix H7 a7 b7 s7 u7 => ?_⟩
            have nLU : L ≠ U := fun z => u5.some (z ▸ hL)
            obtain ⟨x7, k7⟩ := (x5.same s6).ball s7 u7
            obtain ⟨v2, ev2, hv2⟩ := atI_mem (xs := [V.int 9, .int 100000000000000000000000000000]) a7 (by show ix < 2; omega)
            obtain ⟨wd, rfl, wd0, wd1⟩ : ∃ y : Int, v2 = .int y ∧ 0 < y ∧ y ≤ 100000000000000000000000000000 := by
              simp only [List.mem_cons, List.not_mem_nil, or_false] at hv2
              rcases hv2 with rfl | rfl
              · exact ⟨_, rfl, by omega, by omega⟩
              · exact ⟨_, rfl, by omega, by omega⟩
            refine r_ixL (s7 _ _ nLU upd_same) ev2 ?_
            walk_at "rd"
            refine ⟨U, wd, _, rfl, wd0, by omega, u7, by omega, fun p8 sg H8 s8 hp8 u8 ep8 so => ?_⟩
            obtain ⟨x8, k8⟩ := x7.ball s8 u8
            walk_at "rd"
            have np8 : ¬ M p8 := fun z => x7.hM p8 z hp8
            refine ⟨F, M, h, p8, n, pl, sg, ps, rows, done, u, rfl, x8.hin rok (by omega) (by omega), nok, hps, p0, by omega, top, by omega, ep8, np8, so, fun F2 H9 fr hh => ?_⟩
            exact deed F2 H8 H9 _ _ _ x8 ((((k14.trans k5).trans (Keep.same s6)).trans k7).trans k8) (Nat.le_refl _) (by omega) fr hh (al.stepIn hps p0 (by omega) so) (ne_put _ _ _)
      · -- cut
        obtain ⟨_, _, _, _, _, eh, _, _⟩ := rowsDict x4.hall
        walk_at "rd"
        refine ⟨h, _, _, rfl, eh, ⟨F, M, h, rows, done, u, rfl, x4.hall, ⟨_, rfl, by omega, by omega, ?_⟩⟩⟩
        walk_at "rd"
        refine ite_d (fun c5 => ?_) fun c5 => t2
        walk_at "rd"
        refine p_meth eh (by rfl) ?_
        walk_at "rd"
        refine ⟨U, _, _, rfl, by omega, by omega, x4.urn, by omega, fun pl H5 p0 p1 s5 u5 => ?_⟩
        obtain ⟨x5, k5⟩ := x4.ball s5 u5
        walk_at "rd"
        refine ⟨sz (by show 4 ≤ _; decide), fun L hL => ⟨L, rfl, ⟨_, SqL.of upd_same⟩, fun D hD => ?_⟩⟩
        have s6 : Same H5 (upd H5 L (.lst (NM4.map V.str))) := same_upd hL
        have nLD : L ≠ D := ne_of_none upd_same hD
        refine lc_list (K := K) (a := L) (xs := NM4.map V.str) (fun i H' => Same (upd H5 L (.lst (NM4.map V.str))) H' ∧ H' D = some (.lst (((NM4.take i).filter fun z => decide (z ∉ akeys rows)).map V.str))) ⟨same_upd hD, upd_same⟩ (fun i H' _ p => SqL.of (p.1 _ _ upd_same)) ?_ ?_
        · rintro i v H' hi ⟨s7, hD7⟩
          rw [List.getElem?_map] at hi
          obtain ⟨z, hz, rfl⟩ := Option.map_eq_some_iff.mp hi
          have x7 := (x5.same s6).same s7
          obtain ⟨_, _, _, _, _, eh7, _, _⟩ := rowsDict x7.hall
          refine ⟨rfl, ?_⟩
          walk_at "rd"
          refine p_meth eh7 (by rfl) ?_
          refine ⟨F, M, h, rows, done, u, rfl, x7.hall, by omega, fun pb yb H8 s8 hpb epb permb srtb => ?_⟩
          refine ⟨pb, _, rfl, .inl (SqL.of epb), rfl, flat_strs yb, ?_⟩
          rw [inV_str]
          have il := (List.getElem?_eq_some_iff.mp hz).1
          have lenf : ((NM4.take i).filter fun z => decide (z ∉ akeys rows)).length ≤ 4 := Nat.le_trans (List.length_filter_le _ _) (Nat.le_trans (List.length_take_le _ _) (Nat.le_of_lt il))
          have iff : z ∈ yb ↔ z ∈ akeys rows := permb.mem_iff
          have e6 : (NM4.take (i + 1)).filter (fun z => decide (z ∉ akeys rows)) = (NM4.take i).filter (fun z => decide (z ∉ akeys rows)) ++ (if z ∈ akeys rows then [] else [z]) := by
            rw [take_snoc hz, List.filter_append]
            by_cases e : z ∈ akeys rows
            · simp [e]
            · simp [e]
          walk_at "rd"
          by_cases e : z ∈ akeys rows
          · rw [decide_eq_true (iff.mpr e)]
            refine iteF ?_
            exact ⟨s7.trans s8, by rw [e6, if_pos e, List.append_nil]; exact s8 _ _ hD7⟩
          · rw [decide_eq_false (fun z => e (iff.mp z))]
            refine iteT ?_
            walk_at "rd"
            refine ⟨_, s8 _ _ hD7, szl (by rw [List.length_map]; omega), (s7.trans s8).wr hD, ?_⟩
            rw [upd_same, e6, if_neg e, List.map_append]; rfl
        · rintro H' ⟨s7, hD7⟩
          rw [List.take_of_length_le (by rw [List.length_map]; exact Nat.le_refl _)] at hD7
          obtain ⟨o, ho1, ho2⟩ := free_name (rows := rows) (by omega)
          have mo : o ∈ NM4.filter fun z => decide (z ∉ akeys rows) := List.mem_filter.mpr ⟨ho1, decide_eq_true ho2⟩
          obtain ⟨o', yr, eo⟩ : ∃ o' yr, (NM4.filter fun z => decide (z ∉ akeys rows)) = o' :: yr := by
            cases e : NM4.filter fun z => decide (z ∉ akeys rows) with
            | nil => rw [e] at mo; cases mo
            | cons a b => exact ⟨a, b, rfl⟩
          have mo' : o' ∈ NM4.filter fun z => decide (z ∉ akeys rows) := by rw [eo]; exact List.mem_cons_self
          have mo2 := List.mem_filter.mp mo'
          have x7 := (x5.same s6).same s7
          walk_at "rd"
          refine r_ixL hD7 (i := 0) (v := .str o') (by rw [eo]; exact atI_z _ _) ?_
          walk_at "rd"
          refine ⟨F, M, h, n, o', pl, ps, rows, done, u, rfl, x7.hin rok (by omega) (by omega), nok, nm4_ok _ mo2.1, hps, aget_none.mpr (of_decide_eq_true mo2.2), p0, by omega, by omega, by omega, fun F2 H9 fr hh => ?_⟩
          exact deed F2 H' H9 _ _ _ x7 (((k14.trans k5).trans (Keep.same s6)).trans (Keep.same s7)) (Nat.le_refl _) (by omega) fr hh (al.cut hps mo2.1 (aget_none.mpr (of_decide_eq_true mo2.2)) p0 (by omega)) (ne_put _ _ _)
    · -- joined
      obtain ⟨_, _, _, _, _, eh, _, _⟩ := rowsDict x4.hall
      walk_at "rd"
      refine ⟨h, _, _, rfl, eh, ⟨F, M, h, rows, done, u, rfl, x4.hall, ⟨_, rfl, by omega, by omega, ?_⟩⟩⟩
      walk_at "rd"
      refine ite_d (fun c5 => ?_) fun c5 => t1
      walk_at "rd"
      refine p_meth eh (by rfl) ?_
      walk_at "rd"
      refine p_meth eh (by rfl) ?_
      refine ⟨F, M, h, rows, done, u, rfl, x4.hall, by omega, fun pa ya H5 s5 hpa epa perma srta => ?_⟩
      have x5 := x4.same s5
      have e12 := names_eq (fun z hz => al.toRowsG.nm z hz) perma perm srta srt
      subst e12
      obtain ⟨n1, n2, yr, eyr⟩ : ∃ n1 n2 yr, ya = n1 :: n2 :: yr := by
        match ya, ylen with
        | [], e => simp at e; omega
        | [a], e => simp at e; omega
        | a :: b :: r, _ => exact ⟨a, b, r, rfl⟩
      have ndy : ya.Nodup := perm.nodup_iff.mpr al.nd
      walk_at "rd"
      refine r_ixL epa (i := 0) (v := .str n1) (by rw [eyr]; exact atI_z _ _) ?_
      walk_at "rd"
      obtain ⟨_, _, _, _, _, eh5, _, _⟩ := rowsDict x5.hall
      refine p_meth eh5 (by rfl) ?_
      refine ⟨F, M, h, rows, done, u, rfl, x5.hall, by omega, fun pb yb H6 s6 hpb epb permb srtb => ?_⟩
      have x6 := x5.same s6
      have e13 := names_eq (fun z hz => al.toRowsG.nm z hz) permb perma srtb srta
      subst e13
      walk_at "rd"
      refine r_ixL epb (i := 1) (v := .str n2) (by rw [eyr]; exact atI_o _ _ _) ?_
      obtain ⟨qa, hqa⟩ := ymem n1 (by rw [eyr]; exact List.mem_cons_self)
      obtain ⟨qb, hqb⟩ := ymem n2 (by rw [eyr]; exact List.mem_cons_of_mem _ List.mem_cons_self)
      have nn : n1 ≠ n2 := by
        rw [eyr] at ndy
        exact fun z => (List.nodup_cons.mp ndy).1 (z ▸ List.mem_cons_self)
      have ga := al.toRowsG.get hqa
      have gb := al.toRowsG.get hqb
      have wa := ga.w5 (show k ≤ 8 by omega)
      have wb := gb.w5 (show k ≤ 8 by omega)
      walk_at "rd"
      refine ⟨F, M, h, n1, n2, qa, qb, rows, done, u, rfl, x6.hin rok (by omega) (by omega), nm4_ok _ (al.nm _ (aget_key.mp (by rw [hqa]; rfl))), nm4_ok _ (al.nm _ (aget_key.mp (by rw [hqb]; rfl))), nn, hqa, hqb, al.joinTop (by omega) hqa hqb nn, by omega, fun F2 H9 fr hh => ?_⟩
      exact deed F2 H6 H9 _ _ _ x6 ((k14.trans (Keep.same s5)).trans (Keep.same s6)) (Nat.le_refl _) (by omega) fr hh (al.join hqa hqb nn) (ne_join nn)
  · -- said over
    walk_at "rd"
    refine r_ixL x4.left atI0 ?_
    walk_at "rd"
    refine ite_d (fun c5 => ?_) fun c5 => t0
    obtain ⟨lf2, rfl⟩ : ∃ j, lf = j + 1 := ⟨lf - 1, by omega⟩
    walk_at "rd"
    refine r_ixL x4.left atI0 ?_
    walk_at "rd"
    refine r_setL x4.left (j := 0) rfl ?_
    rw [show ((lf2 + 1 : Nat) : Int) - 1 = (lf2 : Int) by omega]
    obtain ⟨x5, k5⟩ := x4.setL (lf' := lf2)
    have e5 : upd H4 Lf (.lst ([.int ((lf2 + 1 : Nat) : Int)].set 0 (.int (lf2 : Int)))) = upd H4 Lf (.lst [.int (lf2 : Int)]) := rfl
    rw [e5]
    generalize upd H4 Lf (.lst [.int (lf2 : Int)]) = H5 at x5 k5
    obtain ⟨_, _, _, _, _, eh, _, _⟩ := rowsDict x5.hall
    walk_at "rd"
    refine p_meth eh (by rfl) ?_
    walk_at "rd"
    refine ⟨U, 5, _, rfl, by omega, by omega, x5.urn, by omega, fun x1' H6 a6 b6 s6 u6 => ?_⟩
    obtain ⟨x6, k6⟩ := x5.ball s6 u6
    walk_at "rd"
    refine ⟨U, _, _, rfl, by omega, by omega, u6, by omega, fun x2' H7 a7 b7 s7 u7 => ?_⟩
    obtain ⟨x7, k7⟩ := x6.ball s7 u7
    walk_at "rd"
    refine p_new (sz (by show 2 ≤ _; decide)) fun L hL => ?_
    walk_at "rd"
    have s8 := same_upd (o := .lst [.int (if 2 + x1' < most then 2 + x1' else most), .int x2']) hL
    refine ⟨U, 2, _, rfl, by omega, by omega, u7.same s8, by omega, fun ix H9 a9 b9 s9 u9 => ?_⟩
    have nLU : L ≠ U := fun z => u7.some (z ▸ hL)
    obtain ⟨x9, k9⟩ := (x7.same s8).ball s9 u9
    obtain ⟨v2, ev2, hv2⟩ := atI_mem (xs := [V.int (if 2 + x1' < most then 2 + x1' else most), .int x2']) a9 (by show ix < 2; omega)
    obtain ⟨m, rfl, m0, m1⟩ : ∃ y : Int, v2 = .int y ∧ 0 ≤ y ∧ y ≤ most := by
      simp only [List.mem_cons, List.not_mem_nil, or_false] at hv2
      rcases hv2 with rfl | rfl
      · exact ⟨_, rfl, by split <;> omega, by split <;> omega⟩
      · exact ⟨_, rfl, by omega, by omega⟩
    refine r_ixL (s9 _ _ nLU upd_same) ev2 ?_
    have pm : manys ps * m ≤ 100000000000000000000000000000 := by
      have := Int.mul_le_mul_of_nonneg_right m1 mm.1
      rw [Int.mul_comm]
      omega
    walk_at "rd"
    refine ⟨F, M, h, n, m, ps, rows, done, u, rfl, x9.hin rok (by omega) (by omega), nok, hps, m0, by omega, by omega, by omega, al.sl _ (aget_mem hps), by have := g.dp; omega, by omega, fun F2 H10 fr hh => ?_⟩
    exact deed F2 H9 H10 _ _ _ x9 (((((k14.trans k5).trans k6).trans k7).trans (Keep.same s8)).trans k9) (by omega) (by omega) fr hh (al.sayOver (by omega) hps m0 (by omega) pm) (ne_put _ _ _)
end
/-! ### a saying as data -/
def oD : Option Int → PyData
  | none => .none
  | some m => .int m
def dsg (s : Sg) : List PyData := [.int s.1, oD s.2]
theorem dp_sg (K : PySem.W.Frag) (H : Hp) (s : Sg) : DpAll K H (sgV s) (dsg s) := by
  obtain ⟨a, o⟩ := s
  cases o with
  | none => exact .cons (.int a) (.cons .non .nil)
  | some m => exact .cons (.int a) (.cons (.int m) .nil)
theorem lg_lt {i : Int} (h0 : 0 ≤ i) (h1 : i ≤ BB) : i.natAbs.log2 < 104 := by
  by_cases e : i.natAbs = 0
  · rw [e]; decide
  · refine (Nat.log2_lt e).mpr ?_
    have b := show BB = 10000000000000000000000000000000 from rfl
    have : (2 : Nat) ^ 104 = 20282409603651670423947251286016 := by decide
    omega
theorem sg_show {s : Sg} (h : sgOk s) : (PyData.tuple (dsg s)).showable = true ∧ (PyData.tuple (dsg s)).hasDict = false ∧ (PyData.tuple (dsg s)).depth < 60 ∧ SeqAt.shaped (PyData.tuple (dsg s)) = true ∧ PyData.eqv (PyData.tuple (dsg s)) (PyData.tuple (dsg s)) = true := by
  obtain ⟨a, o⟩ := s
  have b1 : (0 : Int) ≤ a := h.1
  have l1 := lg_lt b1 h.2.1
  have l1 : a.natAbs.log2 < 104 := l1
  cases o with
  | none =>
    refine ⟨?_, by simp [dsg, oD, PyData.hasDict, PyData.hasDictAll], by simp [dsg, oD, PyData.depth, PyData.depthAll], by simp [dsg, oD, SeqAt.shaped, PyData.canLay0, PyData.canLayAll0, PyData.depth, PyData.depthAll], by simp [dsg, oD, PyData.eqv, PyData.eqvAll]⟩
    simp [dsg, oD, PyData.showable, PyData.showableAll]
    omega
  | some m =>
    have hm := h.2.2 m rfl
    have l2 := lg_lt (i := m) (by have : a ≤ m := hm.1; omega) hm.2
    refine ⟨?_, by simp [dsg, oD, PyData.hasDict, PyData.hasDictAll], by simp [dsg, oD, PyData.depth, PyData.depthAll], by simp [dsg, oD, SeqAt.shaped, PyData.canLay0, PyData.canLayAll0, PyData.depth, PyData.depthAll], by simp [dsg, oD, PyData.eqv, PyData.eqvAll]⟩
    simp [dsg, oD, PyData.showable, PyData.showableAll]
    omega
theorem int_len {i : Int} (h0 : 0 ≤ i) (h1 : i ≤ BB) : (PyData.shown (.int i)).length ≤ 40 := by
  have b := show BB = 10000000000000000000000000000000 from rfl
  have e := int_text_length_le10 (k := 32) (a := i) (by decide) (by
    have : (10 : Nat) ^ 32 = 100000000000000000000000000000000 := by decide
    omega)
  have e2 : (PyData.shown (.int i)).length = (toString i).length := by
    show (Str.ofString (toString i)).length = _
    rw [PySem.ofString_length]
  omega
theorem sg_len {s : Sg} (h : sgOk s) : (PyData.tuple (dsg s)).shown.length ≤ sizeLine := by
  obtain ⟨a, o⟩ := s
  have b1 : (0 : Int) ≤ a := h.1
  have l1 := int_len b1 h.2.1
  have g1 : a.natAbs.log2 < 104 := lg_lt b1 h.2.1
  cases o with
  | none =>
    have hw : (PyData.tuple (dsg (a, none))).leavesShort 40 = true := by
      simp only [dsg, oD, PyData.leavesShort, PyData.leavesShortAll, Bool.and_true, decide_eq_true_eq]; exact l1
    have sl := PyData.shown_le 40 (by decide) _ hw
    have wt : (PyData.tuple (dsg (a, none))).weight ≤ 300 := by
      simp [dsg, oD, PyData.weight, PyData.weightAll]
      split <;> omega
    refine sz ?_
    omega
  | some m =>
    have hm := h.2.2 m rfl
    have m0 : 0 ≤ m := by have : a ≤ m := hm.1; omega
    have l2 := int_len (i := m) m0 hm.2
    have g2 := lg_lt m0 hm.2
    have hw : (PyData.tuple (dsg (a, some m))).leavesShort 40 = true := by
      simp only [dsg, oD, PyData.leavesShort, PyData.leavesShortAll, Bool.and_true, Bool.and_eq_true, decide_eq_true_eq]; exact ⟨l1, l2⟩
    have sl := PyData.shown_le 40 (by decide) _ hw
    have wt : (PyData.tuple (dsg (a, some m))).weight ≤ 300 := by
      simp [dsg, oD, PyData.weight, PyData.weightAll]
      split <;> split <;> omega
    refine sz ?_
    omega
theorem LgIn.keep {M M2 : Addr → Prop} {H H2 : Hp} {ps : List Pt} {b : Addr} (l : LgIn M H ps b) (k : Keep M M2 H H2) (hM : ∀ a, M2 a → H2 a ≠ none) : LgIn M2 H2 ps b := ⟨l.at_.to k, hM, l.ok, l.dp, l.w, l.top⟩
section
variable {P : Program} {w : World} {K : PySem.W.Frag} {mg : Str → Option Value} {base : Heap}
def spPlaces (K : PySem.W.Frag) : Sp := fun vs H Q _ => ∃ (F M : Addr → Prop) (U h Lf b : Addr) (n : Str) (x : Int) (ps : List Pt) (rows : Rows) (done : List Rows) (u c lf k : Nat), vs = [.ref U, .ref h, .str n, .ref b, .int x] ∧ LS K F M H U h Lf rows done u c lf ∧ RowsS rows k lf ∧ k ≤ 8 ∧ done.length < 2000 ∧ u < 2000 ∧ c + 100 ≤ 8000000 ∧
  aget rows n = some ps ∧ LgIn M H ps b ∧ 0 ≤ x ∧ ∀ F2 M2 H' u', LS K F2 M2 H' U h Lf rows done u' (c + 1) lf → Keep M M2 H H' → u' ≤ u + 1 → Q (.bl true) H'
theorem ok_Lplaces (T : Txt K mg) (B : F2 P w K mg base T) (C : F3 P w K mg base T) : FnG P w K mg base 27 (He.ga K "_law_places_right") T.fd_Lplaces_right ["_law_urn_here", "_law_hall", "_law_name", "_law_long_here", "_law_company_here"] (spPlaces K) := by
  have G_Lball := C.ball
  have G_Hall_people := B.people
  have G_Hall_saying := B.saying
  have G_Hall_speaks := B.speaks
  have G_Hall_turn_about := B.turn_about
  have G_Hall_undo := B.undo
  have G_saying_at := B.saying_at
  have G_far_speaks := B.far_speaks
  refine fnG T.d_Lplaces_right.F sc_Lplaces_right (fun vs H Q E h => ?_) (fun cdv A outer s H vs Q E hG hr h => ⟨_, PSs.nox (pss_cons (ps_set (i := 5) sc_Lplaces_right.nd rfl (Or.inl rfl) (pe_meth (pv 1) T.cl_Hall T.m_Hall_people G_Hall_people (hr.mono (by omega)) T.d_Hall_people.b .nil pass0 (pa_cons (pv 2) pa_nil)))
    (pss_cons (ps_for PassesOwn.never rfl (pi_list (pe_lst (pa_cons pe_int (pa_cons (pe_op op_sub (pv 5) pe_int) (pa_cons (pe_call G_Lball (hr.mono (by omega)) rfl T.g_Lball T.d_Lball.F.kp T.d_Lball.b .nil pass0 (pa_cons (pv 0) (pa_cons (pe_callB (call_maxN rfl) (by rfl) T.z_max bt_max (pa_cons pe_int (pa_cons (pv 5) pa_nil))) pa_nil))) pa_nil))))) (pg_name (i := 6) sc_Lplaces_right.nd rfl (Or.inl rfl)) (pss_one (ps_if (pt_chain op_le op_lt pe_int (pv 6) (pv 5)) (pss_cons (ps_if (pt_cmpR op_ne (pe_callB (call_reprT hG hr.units) (by rfl) T.z_repr bt_repr (pa_cons (pe_call G_saying_at (hr.mono (by omega)) rfl T.g_saying_at T.d_saying_at.F.kp T.d_saying_at.b .nil pass0 (pa_cons (pv 3) (pa_cons (pv 6) pa_nil))) pa_nil)) (pe_callB (call_reprT hG hr.units) (by rfl) T.z_repr bt_repr (pa_cons (pe_meth (pv 1) T.cl_Hall T.m_Hall_saying G_Hall_saying (hr.mono (by omega)) T.d_Hall_saying.b .nil pass0 (pa_cons (pv 2) (pa_cons (pv 6) pa_nil))) pa_nil)) (nomark _)) (pss_one (ps_ret pe_bl)) pss_nil)
    (pss_cons (ps_if (pt_cmpR op_ne (pe_call G_far_speaks (hr.mono (by omega)) rfl T.g_far_speaks T.d_far_speaks.F.kp T.d_far_speaks.b .nil pass0 (pa_cons (pv 3) (pa_cons (pv 4) (pa_cons (pv 6) pa_nil)))) (pe_meth (pv 1) T.cl_Hall T.m_Hall_speaks G_Hall_speaks (hr.mono (by omega)) T.d_Hall_speaks.b .nil pass0 (pa_cons (pv 2) (pa_cons (pv 4) (pa_cons (pv 6) pa_nil)))) (nomark _)) (pss_one (ps_ret pe_bl)) pss_nil)
    (pss_cons (ps_expr (pe_meth (pv 1) T.cl_Hall T.m_Hall_turn_about G_Hall_turn_about (hr.mono (by omega)) T.d_Hall_turn_about.b .nil pass0 (pa_cons (pv 2) pa_nil)))
    (pss_cons (ps_if (pt_cmpR (op_neD hr.units) (pe_meth (pv 1) T.cl_Hall T.m_Hall_saying G_Hall_saying (hr.mono (by omega)) T.d_Hall_saying.b .nil pass0 (pa_cons (pv 2) (pa_cons (pe_op op_sub (pe_op op_sub (pv 5) pe_int) (pv 6)) pa_nil))) (pe_call G_saying_at (hr.mono (by omega)) rfl T.g_saying_at T.d_saying_at.F.kp T.d_saying_at.b .nil pass0 (pa_cons (pv 3) (pa_cons (pv 6) pa_nil))) (nomark _)) (pss_one (ps_ret pe_bl)) pss_nil)
    (pss_one (ps_expr (pe_meth0 (pv 1) T.cl_Hall T.m_Hall_undo G_Hall_undo (hr.mono (by omega)) T.d_Hall_undo.b .nil pass0))))))) pss_nil)))
    (pss_one (ps_ret pe_bl)))), ?_⟩)
  · obtain ⟨F, M, U, h, Lf, b, n, x, ps, rows, done, u, c, lf, k, rfl, _⟩ := h; rfl
  obtain ⟨F, M, U, h, Lf, b, n, x, ps, rows, done, u, c, lf, k, rfl, ls, al, hk, hdl, hu, hc, hps, lg, x0, q⟩ := h
  have rok : rowsOk rows := al.toRowsG.ok hk
  have rl := al.toRowsG.len
  have nok := nm4_ok _ (al.nm _ (aget_key.mp (by rw [hps]; rfl)))
  have mm := al.toRowsG.many hps
  have top := al.toRowsG.top (by omega) hps
  have g := al.toRowsG.get hps
  have w5 := g.w5 hk
  have TT : TOP = 999999999999999999999999999999 := rfl
  have slp := al.sl _ (aget_mem hps)
  have ag2 := al.turn hps
  have id2 : slimR (aput rows n (abs_ ps)) = aput rows n (abs_ ps) := slimR_id fun e he => by
    rcases mem_put he with z | z
    · exact al.sl e z
    · rw [z]; exact isSl_ab _ slp
  have get2 : aget (aput rows n (abs_ ps)) n = some (abs_ ps) := by rw [aget_put _ _ _ _ al.nd, if_pos rfl]
  obtain ⟨_, _, _, _, _, eh, _, _⟩ := rowsDict ls.hall
  walk_at "rd"
  refine p_meth eh (by rfl) ?_
  walk_at "rd"
  refine ⟨F, M, h, n, ps, rows, done, u, rfl, ls.hin rok (by omega) (by omega), nok, hps, fun H1 s1 => ?_⟩
  have ls1 := ls.same s1
  walk_at "rd"
  refine ⟨U, _, c, rfl, by split <;> omega, by split <;> omega, ls1.urn, by omega, fun x3 H2 a2 b2 s2 u2 => ?_⟩
  obtain ⟨ls2, k2⟩ := ls1.ball s2 u2
  walk_at "rd"
  refine p_new (sz (by show 3 ≤ _; decide)) fun L hL => ?_
  have s3 := same_upd (o := .lst [.int 0, .int (manys ps - 1), .int x3]) hL
  have ls3 := ls2.same s3
  have k13 : Keep M M H (upd H2 L (.lst [.int 0, .int (manys ps - 1), .int x3])) := ((Keep.same s1).trans k2).trans (Keep.same s3)
  have nL : ¬ M L := fun z => ls2.hM L z hL
  refine p_forL (xs := [.int 0, .int (manys ps - 1), .int x3]) upd_same (fun i σ H' => ∃ (F' M' : Addr → Prop) (u' : Nat) (v6 : Option V), σ = [some (.ref U), some (.ref h), some (.str n), some (.ref b), some (.int x), some (.int (manys ps)), v6] ∧ LS K F' M' H' U h Lf rows done u' (c + 1) lf ∧ Keep M M' (upd H2 L (.lst [.int 0, .int (manys ps - 1), .int x3])) H' ∧ u' ≤ u + 1)
    ⟨F, M, u, none, rfl, ls3, Keep.same (Same.refl _), by omega⟩ (fun i σ H' _ ⟨_, _, _, _, _, _, z, _⟩ => z.k _ _ nL upd_same) ?_ ?_
  · rintro i v σ H' hi ⟨F', M', u', v6, rfl, ls', k', hu'⟩
    have hv : v ∈ [V.int 0, .int (manys ps - 1), .int x3] := List.mem_of_getElem? hi
    obtain ⟨pl, rfl⟩ : ∃ pl : Int, v = .int pl := by
      simp only [List.mem_cons, List.not_mem_nil, or_false] at hv
      rcases hv with rfl | rfl | rfl
      · exact ⟨_, rfl⟩
      · exact ⟨_, rfl⟩
      · exact ⟨_, rfl⟩
    have lg' : LgIn M' H' ps b := lg.keep (k13.trans k') ls'.hM
    have next : ∀ (H4 : Hp) (F4 M4 : Addr → Prop) (u4 : Nat), LS K F4 M4 H4 U h Lf rows done u4 (c + 1) lf → Keep M' M4 H' H4 → u4 ≤ u + 1 → ∃ (F' M' : Addr → Prop) (u' : Nat) (v6 : Option V), ([some (.ref U), some (.ref h), some (.str n), some (.ref b), some (.int x), some (.int (manys ps)), some (.int pl)] : L2.St) = [some (.ref U), some (.ref h), some (.str n), some (.ref b), some (.int x), some (.int (manys ps)), v6] ∧
        LS K F' M' H4 U h Lf rows done u' (c + 1) lf ∧ Keep M M' (upd H2 L (.lst [.int 0, .int (manys ps - 1), .int x3])) H4 ∧ u' ≤ u + 1 := fun H4 F4 M4 u4 l4 k4 h4 => ⟨F4, M4, u4, _, rfl, l4, k'.trans k4, h4⟩
    walk_at "rd"
    refine ite_d (fun c0 => ?_) fun c0 => ?_
    · walk_at "rd"
      refine ite_d (fun c1 => ?_) fun c1 => ?_
      · obtain ⟨sg, esg, so⟩ := sas_some ps pl g.ok c0 c1
        have sh := sg_show so
        have sl := sg_len so
        walk_at "rd"
        refine ⟨M', b, ps, pl, rfl, lg', c0, c1, fun a s' H4 s4 es na ea => ?_⟩
        rw [esg] at es
        cases es
        walk_at "rd"
        refine ⟨a, _, _, rfl, SqT.of ea, dp_sg _ _ _, sh.1, sh.2.1, sh.2.2.1, sl, ?_⟩
        walk_at "rd"
        have ls4 := ls'.same s4
        obtain ⟨_, _, _, _, _, eh4, _, _⟩ := rowsDict ls4.hall
        refine p_meth eh4 (by rfl) ?_
        walk_at "rd"
        refine ⟨F', M', h, n, pl, ps, rows, done, u', rfl, ls4.hin rok (by omega) (by omega), nok, hps, c0, c1, fun a2 s' H5 s5 es2 na2 ea2 => ?_⟩
        rw [esg] at es2
        cases es2
        walk_at "rd"
        refine ⟨a2, _, _, rfl, SqT.of ea2, dp_sg _ _ _, sh.1, sh.2.1, sh.2.2.1, sl, ?_⟩
        walk_at "rd"
        refine r_ne rfl ?_
        walk_at "rd"
        refine ite_nf rfl ?_
        walk_at "rd"
        have s45 := s4.trans s5
        have ls5 := ls'.same s45
        refine ⟨M', b, ps, x, pl, rfl, lg'.keep (Keep.same s45) ls5.hM, x0, c0, c1, fun s' H6 s6 es6 => ?_⟩
        rw [esg] at es6
        cases es6
        have ls6 := ls5.same s6
        obtain ⟨_, _, _, _, _, eh6, _, _⟩ := rowsDict ls6.hall
        walk_at "rd"
        refine p_meth eh6 (by rfl) ?_
        walk_at "rd"
        refine ⟨F', M', h, n, x, pl, ps, rows, done, u', rfl, ls6.hin rok (by omega) (by omega), nok, hps, x0, c0, c1, by omega, by omega, fun s' H7 s7 es7 => ?_⟩
        rw [esg] at es7
        cases es7
        refine r_ne rfl ?_
        walk_at "rd"
        refine ite_nf rfl ?_
        have ls7 := ls6.same s7
        obtain ⟨_, _, _, _, _, eh7, _, _⟩ := rowsDict ls7.hall
        walk_at "rd"
        refine p_meth eh7 (by rfl) ?_
        walk_at "rd"
        refine ⟨F', M', h, n, ps, rows, done, u', rfl, ls7.hin rok (by omega) (by omega), nok, hps, fun F8 H8 fr8 hh8 => ?_⟩
        obtain ⟨ls8, k8⟩ := ls7.deed fr8 hh8
        rw [id2] at ls8
        have k78 := (Keep.same (s45.trans (s6.trans s7))).trans k8
        obtain ⟨_, _, _, _, _, eh8, _, _⟩ := rowsDict ls8.hall
        walk_at "rd"
        refine p_meth eh8 (by rfl) ?_
        walk_at "rd"
        refine ⟨F8, _, h, n, _, abs_ ps, _, _, 0, rfl, ls8.hin (ag2.ok hk) (by have := ag2.len; omega) (by rw [List.length_append, List.length_singleton]; omega), nok, get2, by omega, by rw [manys_ab]; omega, fun a3 s' H9 s9 es9 na9 ea9 => ?_⟩
        rw [sas_ab ps pl g.ok c0 c1, esg] at es9
        cases es9
        have ls9 := ls8.same s9
        have k79 := k78.trans (Keep.same s9)
        walk_at "rd"
        refine ⟨_, b, ps, pl, rfl, lg'.keep k79 ls9.hM, c0, c1, fun a4 s' H10 s10 es10 na10 ea10 => ?_⟩
        rw [esg] at es10
        cases es10
        refine ⟨_, _, .tup (SqT.of (s10 _ _ ea9)) (dp_sg _ _ _), .tup (SqT.of ea10) (dp_sg _ _ _), sh.2.2.2.1, sh.2.2.2.1, ?_⟩
        rw [sh.2.2.2.2]
        walk_at "rd"
        refine iteF ?_
        have ls10 := ls9.same s10
        obtain ⟨_, _, _, _, _, eh10, _, _⟩ := rowsDict ls10.hall
        walk_at "rd"
        refine p_meth eh10 (by rfl) ?_
        walk_at "rd"
        refine ⟨F8, _, h, _, rows, done, 0, rfl, ls10.hall, ls10.hM, by omega, fun H11 fr11 hh11 => ?_⟩
        obtain ⟨ls11, k11⟩ := ls10.undo fr11 hh11
        exact next H11 F8 _ _ ls11 ((k79.trans (Keep.same s10)).trans k11) (by omega)
      · exact next H' F' M' u' ls' (Keep.same (Same.refl _)) hu'
    · walk_at "rd"
      refine iteF ?_
      exact next H' F' M' u' ls' (Keep.same (Same.refl _)) hu'
  · rintro σ H' ⟨F', M', u', v6, rfl, ls', k', hu'⟩
    walk_at "rd"
    exact q F' M' H' u' ls' (k13.trans k') hu'
end
theorem isSl_nums : ∀ (ps : List Pt) (k : Int), isSl ps → isSl (nums ps k).1
  | [], k, _ => by rw [nums]; exact trivial
  | .spot s n :: r, k, h => by rw [nums, Pt.num]; exact isSl_nums r _ h
  | .over t qs :: r, k, h => by rw [nums, Pt.num]; exact ⟨h.1, by rw [manys_nums]; exact h.2.1, isSl_nums r _ h.2.2⟩
def gl (c : Ct) (i : Nat) : List Int := (List.range i).map fun j : Nat => gT c (j : Int)
theorem gl_succ (c : Ct) (i : Nat) : gl c (i + 1) = gl c i ++ [gT c i] := by unfold gl; rw [List.range_succ, List.map_append]; rfl
theorem gl_sum (c : Ct) : ∀ i, (gl c i).sum = sumTo c i
  | 0 => rfl
  | i + 1 => by rw [gl_succ, List.sum_append, gl_sum c i, sumTo]; simp
theorem gl_len (c : Ct) (i : Nat) : (gl c i).length = i := by unfold gl; rw [List.length_map, List.length_range]
theorem dp3 {K : PySem.W.Frag} {H : Hp} {L : Addr} {a b c : Int} (e : H L = some (.lst [.int a, .int b, .int c])) : Dp K H (.ref L) (.list [.int a, .int b, .int c]) := .lst (SqL.of e) (.cons (.int a) (.cons (.int b) (.cons (.int c) .nil)))
theorem sh3 (a b c : Int) : SeqAt.shaped (.list [.int a, .int b, .int c]) = true ∧ PyData.eqv (.list [.int a, .int b, .int c]) (.list [.int a, .int b, .int c]) = true :=
  ⟨by simp [SeqAt.shaped, PyData.canLay0, PyData.canLayAll0, PyData.depth, PyData.depthAll], by simp [PyData.eqv, PyData.eqvAll]⟩
section
variable {P : Program} {w : World} {K : PySem.W.Frag} {mg : Str → Option Value} {base : Heap}
def spName (K : PySem.W.Frag) : Sp := fun vs H Q _ => ∃ (F M : Addr → Prop) (U h Lf : Addr) (n : Str) (ps : List Pt) (rows : Rows) (done : List Rows) (u c lf k : Nat), vs = [.ref U, .ref h, .str n] ∧ LS K F M H U h Lf rows done u c lf ∧ RowsS rows k lf ∧ k ≤ 8 ∧ done.length < 1900 ∧ u < 1900 ∧ c + 200 ≤ 8000000 ∧
  aget rows n = some ps ∧ ∀ F2 M2 H' u', LS K F2 M2 H' U h Lf rows done u' (c + 10) lf → Keep M M2 H H' → u' ≤ 2 → Q (.bl true) H'
theorem ok_Lname (T : Txt K mg) (B : F2 P w K mg base T) (C : F3 P w K mg base T) (G_Lplaces_right : FnG P w K mg base 27 (He.ga K "_law_places_right") T.fd_Lplaces_right ["_law_urn_here", "_law_hall", "_law_name", "_law_long_here", "_law_company_here"] (spPlaces K)) :
    FnG P w K mg base 28 (He.ga K "_law_name_right") T.fd_Lname_right ["_law_urn_here", "_law_hall", "_law_name"] (spName K) := by
  have G_Lsayings := C.sayings
  have G_Lcompany := C.company
  have G_far_total := B.far_total
  have G_people_in := B.people_in
  have G_least_company := B.least_company
  have G_account := B.account
  have G_Hall_people := B.people
  have G_Hall_total := B.total
  have G_Hall_least := B.least
  have G_Hall_begin := B.begin_
  have G_Hall_undo := B.undo
  have G_Hall_long_row := B.long_row
  refine fnG T.d_Lname_right.F sc_Lname_right (fun vs H Q E h => ?_) (fun cdv A outer s H vs Q E hG hr h => ⟨_, PSs.nox (pss_cons (ps_set (i := 3) sc_Lname_right.nd rfl (Or.inl rfl) (pe_meth (pv 1) T.cl_Hall T.m_Hall_long_row G_Hall_long_row (hr.mono (by omega)) T.d_Hall_long_row.b .nil pass0 (pa_cons (pv 2) pa_nil)))
    (pss_cons (ps_set (i := 4) sc_Lname_right.nd rfl (Or.inl rfl) (pe_call G_Lcompany (hr.mono (by omega)) rfl T.g_Lcompany T.d_Lcompany.F.kp T.d_Lcompany.b .nil pass0 (pa_cons (pv 0) (pa_cons (pe_call G_Lsayings (hr.mono (by omega)) rfl T.g_Lsayings T.d_Lsayings.F.kp T.d_Lsayings.b .nil pass0 (pa_cons (pv 3) pa_nil)) pa_nil))))
    (pss_cons (ps_set (i := 5) sc_Lname_right.nd rfl (Or.inl rfl) (pe_call G_far_total (hr.mono (by omega)) rfl T.g_far_total T.d_far_total.F.kp T.d_far_total.b .nil pass0 (pa_cons (pv 3) (pa_cons (pv 4) pa_nil))))
    (pss_cons (ps_set (i := 6) sc_Lname_right.nd rfl (Or.inl rfl) (pe_lst (pa_cons (pe_call G_people_in (hr.mono (by omega)) rfl T.g_people_in T.d_people_in.F.kp T.d_people_in.b .nil pass0 (pa_cons (pv 3) pa_nil)) (pa_cons (pv 5) (pa_cons (pe_call G_least_company (hr.mono (by omega)) rfl T.g_least_company T.d_least_company.F.kp T.d_least_company.b .nil pass0 (pa_cons (pv 3) (pa_cons (pv 4) pa_nil))) pa_nil)))))
    (pss_cons (ps_if (pt_cmpR (op_neD hr.units) (pv 6) (pe_lst (pa_cons (pe_meth (pv 1) T.cl_Hall T.m_Hall_people G_Hall_people (hr.mono (by omega)) T.d_Hall_people.b .nil pass0 (pa_cons (pv 2) pa_nil)) (pa_cons (pe_meth (pv 1) T.cl_Hall T.m_Hall_total G_Hall_total (hr.mono (by omega)) T.d_Hall_total.b .nil pass0 (pa_cons (pv 2) (pa_cons (pv 4) pa_nil))) (pa_cons (pe_meth (pv 1) T.cl_Hall T.m_Hall_least G_Hall_least (hr.mono (by omega)) T.d_Hall_least.b .nil pass0 (pa_cons (pv 2) (pa_cons (pv 4) pa_nil))) pa_nil)))) (nomark _)) (pss_one (ps_ret pe_bl)) pss_nil)
    (pss_cons (ps_if (pt_cmpR op_ne (pe_op op_add (pv 4) (pe_callB (cr_sum rfl) (by rfl) T.z_sum bt_sum (pa_cons (pe_lc (own := [("_law_few", 8), ("_law_good", 9)]) (g := (gTup K 2 (gCons (gName 8) (gCons (gName 9) gNil)))) (tt := tYes) rfl sc_Lname_right.nd (pi_list (pe_call G_account (hr.mono (by omega)) rfl T.g_account T.d_account.F.kp T.d_account.b .nil pass0 (pa_cons (pv 3) (pa_cons (pv 4) pa_nil)))) (blkOk_by (N := ["_law_urn_here", "_law_hall", "_law_name", "_law_long_here", "_law_company_here", "_law_whole", "_law_told", "_law_again", "_law_few", "_law_good"]) (sc := defScope s_Lname_right) (by decide +kernel)) (fun _ _ _ _ _ => (pg_tup rfl (pgs_cons (pg_name (i := 8) sc_Lname_right.nd rfl (Or.inl rfl)) (pgs_cons (pg_name (i := 9) sc_Lname_right.nd rfl (Or.inl rfl)) pgs_nil)))) (fun _ _ _ _ _ => pts_nil) (fun _ _ _ _ _ => (pv 9))) pa_nil))) (pv 5) (nomark _)) (pss_one (ps_ret pe_bl)) pss_nil)
    (pss_cons (ps_expr (pe_meth (pv 1) T.cl_Hall T.m_Hall_begin G_Hall_begin (hr.mono (by omega)) T.d_Hall_begin.b .nil pass0 (pa_cons pe_str (pa_cons (pv 3) pa_nil))))
    (pss_cons (ps_set (i := 7) sc_Lname_right.nd rfl (Or.inl rfl) (pe_lst (pa_cons (pe_meth (pv 1) T.cl_Hall T.m_Hall_people G_Hall_people (hr.mono (by omega)) T.d_Hall_people.b .nil pass0 (pa_cons pe_str pa_nil)) (pa_cons (pe_meth (pv 1) T.cl_Hall T.m_Hall_total G_Hall_total (hr.mono (by omega)) T.d_Hall_total.b .nil pass0 (pa_cons pe_str (pa_cons (pv 4) pa_nil))) (pa_cons (pe_meth (pv 1) T.cl_Hall T.m_Hall_least G_Hall_least (hr.mono (by omega)) T.d_Hall_least.b .nil pass0 (pa_cons pe_str (pa_cons (pv 4) pa_nil))) pa_nil)))))
    (pss_cons (ps_expr (pe_meth0 (pv 1) T.cl_Hall T.m_Hall_undo G_Hall_undo (hr.mono (by omega)) T.d_Hall_undo.b .nil pass0))
    (pss_one (ps_ret (pe_and (pe_cmpR (op_eqD hr.units) (pv 7) (pv 6) (nomark _)) (pe_one (pe_callG G_Lplaces_right hG (hr.mono (by omega)) rfl T.g_Lplaces_right T.d_Lplaces_right.F.kp T.d_Lplaces_right.b pass0 (pa_cons (pv 0) (pa_cons (pv 1) (pa_cons (pv 2) (pa_cons (pv 3) (pa_cons (pv 4) pa_nil))))))))))))))))))), ?_⟩)
  · obtain ⟨F, M, U, h, Lf, n, ps, rows, done, u, c, lf, k, rfl, _⟩ := h; rfl
  obtain ⟨F, M, U, h, Lf, n, ps, rows, done, u, c, lf, k, rfl, ls, al, hk, hdl, hu, hc, hps, q⟩ := h
  have rok : rowsOk rows := al.toRowsG.ok hk
  have rl := al.toRowsG.len
  have hnm := al.nm _ (aget_key.mp (by rw [hps]; rfl))
  have nok := nm4_ok _ hnm
  have mm := al.toRowsG.many hps
  have top := al.toRowsG.top (by omega) hps
  have g := al.toRowsG.get hps
  have w5 := g.w5 hk
  have gd := g.dp
  have TT : TOP = 999999999999999999999999999999 := rfl
  have slp := al.sl _ (aget_mem hps)
  have sln := isSl_nums ps 0 slp
  have id3 : slimR (aput rows "other" (nums ps 0).1) = aput rows "other" (nums ps 0).1 := slimR_id fun e he => by
    rcases mem_put he with z | z
    · exact al.sl e z
    · rw [z]; exact sln
  have get3 : aget (aput rows "other" (nums ps 0).1) "other" = some (nums ps 0).1 := by rw [aget_put _ _ _ _ al.nd, if_pos rfl]
  have noOther : aget rows "other" = none := aget_none.mpr fun z => nm4_other _ (al.nm _ z) rfl
  have rok3 : rowsOk (aput rows "other" (nums ps 0).1) := rowsOk_put rok (by omega) ⟨(oks_nums ps 0).mpr g.ok, by rw [dps_nums]; omega, by rw [wts_nums]; omega⟩
  have rl3 := len_put rows "other" (nums ps 0).1
  obtain ⟨_, _, _, _, _, eh, _, _⟩ := rowsDict ls.hall
  walk_at "rd"
  refine p_meth eh (by rfl) ?_
  walk_at "rd"
  refine ⟨F, M, h, n, ps, rows, done, u, rfl, ls.hin rok (by omega) (by omega), nok, hps, fun b H1 s1 lga => ?_⟩
  have ls1 := ls.same s1
  have lg1 : LgIn M H1 ps b := ⟨lga, ls1.hM, g.ok, by omega, by omega, by omega⟩
  walk_at "rd"
  refine ⟨M, b, ps, rfl, lga, g.ok, by omega, by omega, fun S ys H2 s2 hS hS2 yl sy => ?_⟩
  have ls2 := ls1.same s2
  have nSU : S ≠ U := fun z => ls1.urn.some (z ▸ hS)
  walk_at "rd"
  refine ⟨U, S, ys, c, rfl, ls2.urn, by omega, hS2, nSU, sy, by omega, fun x H3 s3 u3 x0 xB => ?_⟩
  obtain ⟨ls3, k3⟩ := ls2.ball s3 u3
  have k13 : Keep M M H1 H3 := (Keep.same s2).trans k3
  have lg3 := lg1.keep k13 ls3.hM
  walk_at "rd"
  refine ⟨M, b, ps, x, rfl, lg3, x0, fun H4 s4 => ?_⟩
  have lg4 := lg3.keep (Keep.same s4) (ls3.same s4).hM
  walk_at "rd"
  refine ⟨M, b, ps, rfl, lg4.at_, g.ok, by omega, by omega, fun H5 s5 => ?_⟩
  have lg5 := lg4.keep (Keep.same s5) (hM_same s5 lg4.hM)
  walk_at "rd"
  refine ⟨M, b, ps, x, rfl, lg5, x0, fun H6 s6 => ?_⟩
  walk_at "rd"
  refine p_new (sz (by show 3 ≤ _; decide)) fun L hL => ?_
  walk_at "rd"
  have s36 := s4.trans (s5.trans s6)
  have s7 := same_upd (o := .lst [.int (manys ps), .int (thrs ps x).1, .int (wshs ps x none).1]) hL
  have ls7 := ls3.same (s36.trans s7)
  have k17 : Keep M M H1 (upd H6 L (.lst [.int (manys ps), .int (thrs ps x).1, .int (wshs ps x none).1])) := k13.trans (Keep.same (s36.trans s7))
  have eL : (upd H6 L (.lst [.int (manys ps), .int (thrs ps x).1, .int (wshs ps x none).1])) L = some (.lst [.int (manys ps), .int (thrs ps x).1, .int (wshs ps x none).1]) := upd_same
  have nL : ¬ M L := fun z => (ls3.same s36).hM L z hL
  generalize upd H6 L (.lst [.int (manys ps), .int (thrs ps x).1, .int (wshs ps x none).1]) = H7 at ls7 k17 eL
  obtain ⟨_, _, _, _, _, eh7, _, _⟩ := rowsDict ls7.hall
  refine p_meth eh7 (by rfl) ?_
  walk_at "rd"
  refine ⟨F, M, h, n, ps, rows, done, u, rfl, ls7.hin rok (by omega) (by omega), nok, hps, fun H8 s8 => ?_⟩
  have ls8 := ls7.same s8
  obtain ⟨_, _, _, _, _, eh8, _, _⟩ := rowsDict ls8.hall
  walk_at "rd"
  refine p_meth eh8 (by rfl) ?_
  walk_at "rd"
  refine ⟨F, M, h, n, x, ps, rows, done, u, rfl, ls8.hin rok (by omega) (by omega), nok, hps, x0, fun H9 s9 => ?_⟩
  have ls9 := ls8.same s9
  obtain ⟨_, _, _, _, _, eh9, _, _⟩ := rowsDict ls9.hall
  walk_at "rd"
  refine p_meth eh9 (by rfl) ?_
  walk_at "rd"
  refine ⟨F, M, h, n, x, ps, rows, done, u, rfl, ls9.hin rok (by omega) (by omega), nok, hps, x0, fun H10 s10 => ?_⟩
  walk_at "rd"
  refine p_new (sz (by show 3 ≤ _; decide)) fun L2 hL2 => ?_
  have s11 := same_upd (o := .lst [.int (manys ps), .int (thrs ps x).1, .int (wshs ps x none).1]) hL2
  have s711 := s8.trans (s9.trans (s10.trans s11))
  have sh := sh3 (manys ps) (thrs ps x).1 (wshs ps x none).1
  refine ⟨_, _, dp3 (s711 _ _ eL), dp3 upd_same, sh.1, sh.1, ?_⟩
  rw [sh.2]
  walk_at "rd"
  refine iteF ?_
  have ls11 := ls7.same s711
  have k11 := k17.trans (Keep.same s711)
  have lg11 := lg1.keep k11 ls11.hM
  have eL11 := s711 _ _ eL
  generalize upd H10 L2 (.lst [.int (manys ps), .int (thrs ps x).1, .int (wshs ps x none).1]) = H11 at ls11 k11 lg11 eL11
  walk_at "rd"
  refine ⟨_, rfl, _, rfl, M, b, ps, x, rfl, lg11, x0, fun A2 ya ct H12 s12 hA nA ac al12 sm => ?_⟩
  refine ⟨A2, rfl, ⟨_, SqL.of hA⟩, fun D hD => ?_⟩
  refine lc_list (K := K) (a := A2) (xs := ya) (fun i H' => Same H12 H' ∧ H' D = some (.lst ((gl ct i).map V.int))) ⟨same_upd hD, upd_same⟩ (fun i H' _ p => SqL.of (p.1 _ _ hA)) ?_ ?_
  · rintro i v H' hi ⟨s13, hD13⟩
    obtain ⟨a, f, rfl, ea⟩ := ac i v hi
    have il := (List.getElem?_eq_some_iff.mp hi).1
    refine r_gTup (s13 _ _ ea) rfl ?_
    walk_at "rd"
    refine ⟨rfl, ?_⟩
    walk_at "rd"
    refine iteT ?_
    walk_at "rd"
    refine ⟨_, hD13, szl (by rw [List.length_map, gl_len]; omega), s13.wr hD, ?_⟩
    rw [upd_same, gl_succ, List.map_append]; rfl
  rintro H13 ⟨s13, hD13⟩
  walk_at "rd"
  refine ⟨D, gl ct ya.length, rfl, SqL.of hD13, ?_⟩
  rw [gl_sum, sm]
  walk_at "rd"
  refine ite_nf (by omega) ?_
  have s1113 := s12.trans s13
  have ls13 := ls11.same s1113
  have lg13 := lg11.keep (Keep.same s1113) ls13.hM
  have k13' := k11.trans (Keep.same s1113)
  have eL13 := s1113 _ _ eL11
  obtain ⟨_, _, _, _, _, eh13, _, _⟩ := rowsDict ls13.hall
  walk_at "rd"
  refine p_meth eh13 (by rfl) ?_
  walk_at "rd"
  refine ⟨F, M, h, b, "other", ps, rows, done, u, rfl, ls13.hin rok (by omega) (by omega), other_ok, noOther, lg13, fun F14 H14 fr14 hh14 => ?_⟩
  obtain ⟨ls14, k14⟩ := ls13.deed fr14 hh14
  rw [id3] at ls14
  have eL14 := k14.k _ _ nL eL13
  have nL14 := k14.not nL eL13
  have dl14 : (done ++ [rows]).length < 100000 := by rw [List.length_append, List.length_singleton]; omega
  obtain ⟨_, _, _, _, _, eh14, _, _⟩ := rowsDict ls14.hall
  walk_at "rd"
  refine p_meth eh14 (by rfl) ?_
  walk_at "rd"
  refine ⟨F14, _, h, "other", _, _, _, 0, rfl, ls14.hin rok3 (by omega) dl14, other_ok, get3, fun H15 s15 => ?_⟩
  rw [manys_nums]
  have ls15 := ls14.same s15
  obtain ⟨_, _, _, _, _, eh15, _, _⟩ := rowsDict ls15.hall
  walk_at "rd"
  refine p_meth eh15 (by rfl) ?_
  walk_at "rd"
  refine ⟨F14, _, h, "other", x, _, _, _, 0, rfl, ls15.hin rok3 (by omega) dl14, other_ok, get3, x0, fun H16 s16 => ?_⟩
  rw [thrs_nums]
  have ls16 := ls15.same s16
  obtain ⟨_, _, _, _, _, eh16, _, _⟩ := rowsDict ls16.hall
  walk_at "rd"
  refine p_meth eh16 (by rfl) ?_
  walk_at "rd"
  refine ⟨F14, _, h, "other", x, _, _, _, 0, rfl, ls16.hin rok3 (by omega) dl14, other_ok, get3, x0, fun H17 s17 => ?_⟩
  rw [wshs_nums]
  walk_at "rd"
  refine p_new (sz (by show 3 ≤ _; decide)) fun L3 hL3 => ?_
  walk_at "rd"
  have s18 := same_upd (o := .lst [.int (manys ps), .int (thrs ps x).1, .int (wshs ps x none).1]) hL3
  have s1418 := s15.trans (s16.trans (s17.trans s18))
  have ls18 := ls14.same s1418
  have nL3 : ¬ ((M L3 ∧ ¬ F L3) ∨ F14 L3) := fun z => (ls14.same (s15.trans (s16.trans s17))).hM L3 z hL3
  obtain ⟨_, _, _, _, _, eh18, _, _⟩ := rowsDict ls18.hall
  refine p_meth eh18 (by rfl) ?_
  walk_at "rd"
  refine ⟨F14, _, h, _, rows, done, 0, rfl, ls18.hall, ls18.hM, by omega, fun H19 fr19 hh19 => ?_⟩
  obtain ⟨ls19, k19⟩ := ls18.undo fr19 hh19
  walk_at "rd"
  refine ⟨_, _, dp3 (k19.k _ _ nL3 upd_same), dp3 (k19.k _ _ nL14 (s1418 _ _ eL14)), sh.1, sh.1, ?_⟩
  rw [sh.2]
  refine p_bl ?_
  refine iteT ?_
  walk_at "rd"
  have kall : Keep M (fun a => (M a ∧ ¬ F a) ∨ F14 a) H1 H19 := ((k13'.trans k14).trans (Keep.same s1418)).trans k19
  refine ⟨F14, _, U, h, Lf, b, n, x, ps, rows, done, _, _, lf, k, rfl, ls19, al, hk, by omega, by omega, by omega, hps, lg1.keep kall ls19.hM, x0, fun F20 M20 H20 u20 ls20 k20 h20 => ?_⟩
  exact q F20 M20 H20 u20 (ls20.mono (Nat.le_refl _) (by omega)) (((Keep.same s1).trans kall).trans k20) (by omega)
end
/-- before there is a count left -/
structure LS0 (K : PySem.W.Frag) (F M : Addr → Prop) (H : Hp) (U h : Addr) (rows : Rows) (done : List Rows) (u c : Nat) : Prop where
  hall : HallAt K F M H h rows done u
  hM : ∀ a, M a → H a ≠ none
  mU : M U
  fU : ¬ F U
  urn : UrnAt H U c
section
variable {K : PySem.W.Frag} {F F2 M : Addr → Prop} {H H' : Hp} {U h Lf : Addr} {rows rows' : Rows} {done done' : List Rows} {u u' c c' lf : Nat}
theorem LS0.same (x : LS0 K F M H U h rows done u c) (s : Same H H') : LS0 K F M H' U h rows done u c := ⟨x.hall.same s, hM_same s x.hM, x.mU, x.fU, x.urn.same s⟩
theorem LS0.ball (x : LS0 K F M H U h rows done u c) (s : SameX U H H') (hu : UrnAt H' U c') : LS0 K F M H' U h rows done u c' ∧ Keep M M H H' := by
  have k : Keep M M H H' := s.keep x.mU
  exact ⟨⟨x.hall.keep k (fun a o f e => s a o (fun z => x.fU (z ▸ f)) e) x.hall.sub, s.hM hu.some x.hM, x.mU, x.fU, hu⟩, k⟩
theorem LS0.deed (x : LS0 K F M H U h rows done u c) (f : Frame F F2 H H') (hh : HallAt K F2 (fun a => M a ∨ F2 a) H' h rows' done' u') :
    LS0 K F2 (fun a => (M a ∧ ¬ F a) ∨ F2 a) H' U h rows' done' u' c ∧ Keep M (fun a => (M a ∧ ¬ F a) ∨ F2 a) H H' := by
  have nU : ¬ F2 U := fun z => (f.n U z).elim x.fU (x.hM U x.mU)
  have w : Keep (fun a => M a ∨ F2 a) (fun a => (M a ∧ ¬ F a) ∨ F2 a) H' H' := ⟨fun a z => .inl (z.elim (fun y => .inl y.1) .inr), fun a o _ e => e⟩
  refine ⟨⟨hh.keep w (fun a o _ e => e) (fun a z => .inr z), fun a z y => ?_, .inl ⟨x.mU, x.fU⟩, nU, ?_⟩, (f.keep x.hall.sub).trans w⟩
  · rcases z with z | z
    · obtain ⟨o, ho⟩ := Option.ne_none_iff_exists'.mp (x.hM a z.1)
      rw [f.k a o z.2 ho] at y; cases y
    · exact f.h a z y
  · obtain ⟨a, b, e, h1, r⟩ := x.urn
    exact ⟨a, b, e, f.k _ _ x.fU h1, r⟩
theorem LS0.hin (x : LS0 K F M H U h rows done u c) (r : rowsOk rows) (l : rows.length ≤ 50) (d : done.length < 100000) : HIn K F M H h rows done u := ⟨x.hall, x.hM, r, l, d⟩
theorem LS0.left (x : LS0 K F M H U h rows done u c) (hL : H Lf = none) : LS K F (fun a => M a ∨ a = Lf) (upd H Lf (.lst [.int (lf : Int)])) U h Lf rows done u c lf ∧ Keep M (fun a => M a ∨ a = Lf) H (upd H Lf (.lst [.int (lf : Int)])) := by
  have s : Same H (upd H Lf (.lst [.int (lf : Int)])) := same_upd hL
  have k : Keep M (fun a => M a ∨ a = Lf) H (upd H Lf (.lst [.int (lf : Int)])) := ⟨fun a z => z.elim .inl fun e => .inr (e ▸ hL), fun a o _ e => s a o e⟩
  exact ⟨⟨x.hall.keep k (fun a o _ e => s a o e) (fun a z => .inl (x.hall.sub a z)), hM_or (some_ne upd_same) (hM_same s x.hM), .inl x.mU, x.fU, .inr rfl, fun z => x.hM Lf (x.hall.sub Lf z) hL, fun z => x.urn.some (z ▸ hL), x.urn.same s, upd_same⟩, k⟩
end
theorem ifS {p : Prop} [Decidable p] {ts tu : TS} {n b c : L2.St → Hp → Prop} {r : VK} {σ : L2.St} {H : Hp} (R : L2.St → Hp → Prop) (go : ∀ σ H, R σ H → n σ H) (h1 : p → ∀ n2 : L2.St → Hp → Prop, (∀ σ H, R σ H → n2 σ H) → ts ⟨n2, r, b, c⟩ σ H)
    (h2 : ¬ p → ∀ n2 : L2.St → Hp → Prop, (∀ σ H, R σ H → n2 σ H) → tu ⟨n2, r, b, c⟩ σ H) : if decide p = true then ts ⟨n, r, b, c⟩ σ H else tu ⟨n, r, b, c⟩ σ H := ite_d (fun z => h1 z n go) fun z => h2 z n go
theorem sqL_same {K : PySem.W.Frag} {H H' : Hp} {a : Addr} {xs : List V} (h : SqL K H a xs) (s : Same H H') : SqL K H' a xs := by
  rcases h with (h | ⟨o, h⟩) | h
  · exact .inl (.inl (s _ _ h))
  · exact .inl (.inr ⟨o, s _ _ h⟩)
  · exact .inr h
abbrev Non : Addr → Prop := fun _ => False
theorem keep_non {M : Addr → Prop} {H H' : Hp} (k : Keep Non M H H') : Same H H' := fun a o e => k.k a o (fun z => z) e
theorem ag0 : AG [] [] 0 3 := ⟨fun r hr => by rw [List.mem_singleton.mp hr]; exact rowsG_nil 0 3 (by omega), rfl⟩
section
variable {P : Program} {w : World} {K : PySem.W.Frag} {mg : Str → Option Value} {base : Heap}
def spLaw (K : PySem.W.Frag) : Sp := fun vs H Q _ => ∃ (a : Addr) (ns : List Int), vs = [.ref a] ∧ SqL K H a (ns.map V.int) ∧ ns.length ≤ 1000000 ∧ ∀ H', Q (.bl true) H'
theorem ok_law (T : Txt K mg) (B : F2 P w K mg base T) (C : F3 P w K mg base T) (G_Lmove : FnOk P w K mg base CX0 27 (He.ga K "_law_move") T.fd_Lmove ["_law_urn_here", "_law_hall", "_law_left"] (spMove K))
    (G_Lname_right : FnG P w K mg base 28 (He.ga K "_law_name_right") T.fd_Lname_right ["_law_urn_here", "_law_hall", "_law_name"] (spName K)) : FnG P w K mg base 29 (He.ga K "law") T.fd_law ["_law_script"] (spLaw K) := by
  have G_Lurn := C.urn
  have G_Lball := C.ball
  have G_Lgreat := C.great
  have G_Llong := C.long
  have G_Hall__init := B.init
  have G_Hall__len := B.len
  have G_Hall_begin := B.begin_
  have G_Hall_names := B.names
  refine fnG T.d_law.F sc_law (fun vs H Q E h => ?_) (fun cdv A outer s H vs Q E hG hr h => ⟨_, PSs.nox (pss_cons (ps_for PassesOwn.never rfl (pi_range1 rfl T.z_range (pa_cons (pe_callB (call_maxN rfl) (by rfl) T.z_max bt_max (pa_cons pe_int (pa_cons (pe_callB (call_minN rfl) (by rfl) T.z_min bt_min (pa_cons pe_int (pa_cons (pe_callB call_lenS (by rfl) T.z_len bt_len (pa_cons (pv 0) pa_nil)) pa_nil))) pa_nil))) pa_nil)) (pg_name (i := 1) sc_law.nd rfl (Or.inl rfl)) (pss_cons (ps_set (i := 2) sc_law.nd rfl (Or.inr rfl) (pe_call G_Lurn (hr.mono (by omega)) rfl T.g_Lurn T.d_Lurn.F.kp T.d_Lurn.b .nil pass0 (pa_cons (pv 0) (pa_cons (pv 1) pa_nil))))
    (pss_cons (ps_set (i := 3) sc_law.nd rfl (Or.inr rfl) (pe_make0 T.mk_Hall G_Hall__init (hr.mono (by omega)) rfl T.g_Hall T.d_Hall__init.b .nil pass0))
    (pss_cons (ps_expr (pe_meth (pv 3) T.cl_Hall T.m_Hall_begin G_Hall_begin (hr.mono (by omega)) T.d_Hall_begin.b .nil pass0 (pa_cons pe_str (pa_cons (pe_call G_Lgreat (hr.mono (by omega)) rfl T.g_Lgreat T.d_Lgreat.F.kp T.d_Lgreat.b .nil pass0 (pa_cons (pv 2) pa_nil)) pa_nil))))
    (pss_cons (ps_expr (pe_meth (pv 3) T.cl_Hall T.m_Hall_begin G_Hall_begin (hr.mono (by omega)) T.d_Hall_begin.b .nil pass0 (pa_cons pe_str (pa_cons (pe_call G_Llong (hr.mono (by omega)) rfl T.g_Llong T.d_Llong.F.kp T.d_Llong.b .nil pass0 (pa_cons (pv 2) (pa_cons (pe_lst (pa_cons pe_int (pa_cons pe_int (pa_cons pe_int pa_nil)))) (pa_cons pe_int (pa_cons (pe_op op_pow pe_int pe_int) pa_nil))))) pa_nil))))
    (pss_cons (ps_set (i := 4) sc_law.nd rfl (Or.inl rfl) (pe_lst (pa_cons pe_int pa_nil)))
    (pss_one (ps_for PassesOwn.never rfl (pi_range1 rfl T.z_range (pa_cons (pe_op op_add pe_int (pe_call G_Lball (hr.mono (by omega)) rfl T.g_Lball T.d_Lball.F.kp T.d_Lball.b .nil pass0 (pa_cons (pv 2) (pa_cons pe_int pa_nil)))) pa_nil)) (pg_name (i := 5) sc_law.nd rfl (Or.inl rfl)) (pss_cons (ps_if (pt_cmpR op_eq (pe_callB (call_lenOwn (C := He.ga K "Hall") G_Hall__len (hr.mono (by omega)) T.m_Hall__len T.d_Hall__len.b) (by rfl) T.z_len bt_len (pa_cons (pv 3) pa_nil)) pe_int (nomark _)) (pss_one (ps_expr (pe_meth (pv 3) T.cl_Hall T.m_Hall_begin G_Hall_begin (hr.mono (by omega)) T.d_Hall_begin.b .nil pass0 (pa_cons pe_str (pa_cons (pe_lst pa_nil) pa_nil))))) pss_nil)
    (pss_cons (ps_expr (pe_call G_Lmove (hr.mono (by omega)) rfl T.g_Lmove T.d_Lmove.F.kp T.d_Lmove.b .nil pass0 (pa_cons (pv 2) (pa_cons (pv 3) (pa_cons (pv 4) pa_nil)))))
    (pss_one (ps_if (pt_cmpR (op_neD hr.units) (pe_lc (own := [("_law_name", 6)]) (g := (gName 6)) rfl sc_law.nd (pi_list (pe_meth0 (pv 3) T.cl_Hall T.m_Hall_names G_Hall_names (hr.mono (by omega)) T.d_Hall_names.b .nil pass0)) (blkOk_by (N := ["_law_script", "_law_k", "_law_urn_here", "_law_hall", "_law_left", "_law_turn", "_law_name"]) (sc := defScope s_law) (by decide +kernel)) (fun _ _ _ _ _ => (pg_name (i := 6) sc_law.nd rfl (Or.inl rfl))) (fun _ _ _ _ _ => (pts_one (pt_not (pt_val (pe_callG G_Lname_right hG (hr.mono (by omega)) rfl T.g_Lname_right T.d_Lname_right.F.kp T.d_Lname_right.b pass0 (pa_cons (pv 2) (pa_cons (pv 3) (pa_cons (pv 6) pa_nil)))))))) (fun _ _ _ _ _ => (pv 6))) (pe_lst pa_nil) (nomark _)) (pss_one (ps_ret pe_bl)) pss_nil))))))))))))
    (pss_one (ps_ret pe_bl))), ?_⟩)
  · obtain ⟨a, ns, rfl, _⟩ := h; rfl
  obtain ⟨a, ns, rfl, ha, hn, q⟩ := h
  have TT : TOP = 999999999999999999999999999999 := rfl
  walk_at "rd"
  refine ⟨a, _, rfl, .inl ha, ?_⟩
  rw [List.length_map]
  walk_at "rd"
  obtain ⟨J, eJ, J4⟩ : ∃ J : Nat, (if (if ((ns.length : Nat) : Int) < 4 then ((ns.length : Nat) : Int) else 4) > 1 then (if ((ns.length : Nat) : Int) < 4 then ((ns.length : Nat) : Int) else 4) else 1) = (J : Int) ∧ J ≤ 4 := by
    refine ⟨(if (if ((ns.length : Nat) : Int) < 4 then ((ns.length : Nat) : Int) else 4) > 1 then (if ((ns.length : Nat) : Int) < 4 then ((ns.length : Nat) : Int) else 4) else 1).toNat, ?_, ?_⟩
    · split <;> split <;> omega
    · split <;> split <;> omega
  rw [eJ]
  refine p_forR (by omega) (fun i σ H' => ∃ (v1 v2 v3 v4 v5 v6 : Option V), σ = [some (.ref a), v1, v2, v3, v4, v5, v6] ∧ SqL K H' a (ns.map V.int)) ⟨none, none, none, none, none, none, rfl, ha⟩ ?_ ?_
  · rintro i σ Hs hi ⟨v1, v2, v3, v4, v5, v6, rfl, has⟩
    walk_at "rd"
    refine ⟨a, ns, i, rfl, has, by omega, fun U H1 s1 hU u1 => ?_⟩
    walk_at "rd"
    intro x dx hx hdx ndx
    have sx : Same H1 (upd (upd H1 dx (.own x)) x (.ins (CH K) dx [])) := fun b o e => by rw [upd_ne (ne_of_none e hx), upd_ne (ne_of_none e hdx)]; exact e
    have nxU : x ≠ U := fun z => u1.some (z ▸ hx)
    refine ⟨fun a => a = U, x, dx, rfl, upd_same, fun a z _ => by rw [z]; exact (u1.same sx).some, fun F H2 fr2 fn2 fh2 hh2 => ⟨rfl, ?_⟩⟩
    have s12 : Same H1 H2 := fun b o e => fr2 b o (ne_of_none e hx) (sx b o e)
    have fnew : ∀ b, F b → H1 b = none := fun b z => (fn2 b z).elim (fun e => e ▸ hx) fun e => sx.free e
    have l2 : LS0 K F (fun a => a = U ∨ F a) H2 U x [] [] 0 0 := ⟨hh2, fun b z => z.elim (fun e => by rw [e]; exact (u1.same s12).some) (fh2 b), .inl rfl, fun z => u1.some (fnew U z), u1.same s12⟩
    have k2 : Keep Non (fun a => a = U ∨ F a) Hs H2 := ⟨fun b z => .inr (z.elim (fun e => e ▸ hU) fun z => s1.free (fnew b z)), fun b o _ e => s12 b o (s1 b o e)⟩
    walk_at "rd"
    obtain ⟨_, _, _, _, _, eh2, _, _⟩ := rowsDict l2.hall
    refine p_meth eh2 (by rfl) ?_
    walk_at "rd"
    refine ⟨_, U, 0, rfl, l2.mU, l2.hM, l2.urn, by omega, fun b ps H3 s3 u3 hb3 lg3 ok3 d3 w3 m3 => ?_⟩
    obtain ⟨l3, k3⟩ := l2.ball s3 u3
    have mn3 := manys_nn ps ok3
    walk_at "rd"
    have hin3 : HIn K F (fun a => a = U ∨ F a) H3 x [] [] 0 := l3.hin ⟨List.nodup_nil, by decide, fun _ z => (nomatch z)⟩ (by decide) (by decide)
    refine ⟨F, _, x, b, "a", ps, [], [], 0, rfl, hin3, nm4_ok _ (by decide), rfl, ⟨lg3, l3.hM, ok3, by omega, by omega, by omega⟩, fun F4 H4 fr4 hh4 => ?_⟩
    obtain ⟨l4, k4⟩ := l3.deed fr4 hh4
    have mnum := manys_nums ps 0
    have g4 : RowsG (aput [] "a" (nums ps 0).1) 0 3 := (rowsG_nil 0 3 (by omega)).new (by decide) rfl ⟨(oks_nums ps 0).mpr ok3, by rw [dps_nums]; omega, by rw [wts_nums]; omega⟩ (by rw [mnum]; show (0 : Int) + manys ps + ((3 : Nat) : Int) * _ ≤ _; omega)
    have ag4 := ag0.push g4 (Nat.le_refl _) (Nat.le_refl _) (ne_put _ _ _)
    have tot4 : asum manys (slimR (aput [] "a" (nums ps 0).1)) ≤ 100000000000000000000000000000 := by
      rw [asum_slim fun e he => (g4.each e he).ok, asum_put manys [] _ _ List.nodup_nil, mnum]
      show (0 : Int) - 0 + manys ps ≤ _
      omega
    have nb4 : aget (slimR (aput [] "a" (nums ps 0).1)) "b" = none := aget_none.mpr fun z => by
      rw [akeys_slim] at z
      rcases mem_keys_put.mp z with z | z
      · cases z
      · exact absurd z (by decide)
    generalize slimR (aput [] "a" (nums ps 0).1) = rows4 at l4 ag4 tot4 nb4
    have k24 := (k2.trans k3).trans k4
    walk_at "rd"
    obtain ⟨_, _, _, _, _, eh4, _, _⟩ := rowsDict l4.hall
    refine p_meth eh4 (by rfl) ?_
    walk_at "rd"
    refine p_new (sz (by show 3 ≤ _; decide)) fun Pl hPl => ?_
    have s5 : Same H4 (upd H4 Pl (.lst [.int 8, .int 9, .int 9])) := same_upd hPl
    have l5 := l4.same s5
    walk_at "rd"
    refine r_pow (cp (by decide) (by decide)) ?_
    rw [pow6]
    walk_at "rd"
    have nUP : U ≠ Pl := fun z => l4.urn.some (z ▸ hPl)
    refine ⟨fun a => (((a = U ∨ F a) ∧ ¬ F a) ∨ F4 a) ∨ a = Pl, U, Pl, 2, 8, 9, 9, 1000000, _, rfl, by omega, .inl l4.mU, .inr rfl, nUP, hM_or (some_ne upd_same) l5.hM, l5.urn, by omega, upd_same, by omega, by omega, by omega, by omega, by omega, by omega, fun b6 ps6 n6 H6 s6 u6 hP6 hb6 lg6 ok6 d6 w6 m6 => ?_⟩
    have s46 : SameX U H4 H6 := Same2.toX (SameX.of s5) hPl s6
    obtain ⟨l6, k6⟩ := l4.ball s46 u6
    have mn6 := manys_nn ps6 ok6
    have lg6' : LgsA (fun a => ((a = U ∨ F a) ∧ ¬ F a) ∨ F4 a) H6 ps6 b6 := lg6.to ⟨fun a z => .inl (.inl z), fun a o _ e => e⟩
    have al4 := ag4.cur
    walk_at "rd"
    refine ⟨F4, _, x, b6, "b", ps6, rows4, _, 0, rfl, l6.hin (al4.ok (by omega)) (by have := al4.len; omega) (by decide), nm4_ok _ (by decide), nb4, ⟨lg6', l6.hM, ok6, by omega, by omega, by omega⟩, fun F7 H7 fr7 hh7 => ?_⟩
    obtain ⟨l7, k7⟩ := l6.deed fr7 hh7
    have mnum6 := manys_nums ps6 0
    have g7 : RowsG (aput rows4 "b" (nums ps6 0).1) 0 3 := al4.new (by decide) nb4 ⟨(oks_nums ps6 0).mpr ok6, by rw [dps_nums]; omega, by rw [wts_nums]; omega⟩ (by rw [mnum6]; show asum manys rows4 + manys ps6 + ((3 : Nat) : Int) * _ ≤ _; omega)
    have ag7 := ag4.push g7 (Nat.le_refl _) (Nat.le_refl _) (ne_put _ _ _)
    have k27 := (k24.trans k6).trans k7
    walk_at "rd"
    refine p_new (sz (by show 1 ≤ _; decide)) fun Lf hLf => ?_
    obtain ⟨l8, k8⟩ := l7.left (lf := 3) hLf
    have k28 := k27.trans k8
    have e8 : upd H7 Lf (.lst [.int 3]) = upd H7 Lf (.lst [.int ((3 : Nat) : Int)]) := rfl
    rw [e8]
    walk_at "rd"
    generalize upd H7 Lf (.lst [.int ((3 : Nat) : Int)]) = H8 at l8 k28
    clear k8
    refine ⟨U, 7, _, rfl, by omega, by omega, l8.urn, by omega, fun tn H9 t0 t1 s9 u9 => ?_⟩
    obtain ⟨l9, k9⟩ := l8.ball s9 u9
    have k29 := k28.trans k9
    walk_at "rd"
    obtain ⟨Jt, eJt, Jt7⟩ : ∃ Jt : Nat, 1 + tn = (Jt : Int) ∧ Jt ≤ 7 := ⟨(1 + tn).toNat, by omega, by omega⟩
    rw [eJt]
    refine p_forR (by omega) (fun t σ H' => ∃ (F M : Addr → Prop) (rows : Rows) (done : List Rows) (u lf : Nat) (v5 v6 : Option V), σ = [some (.ref a), some (.int (i : Int)), some (.ref U), some (.ref x), some (.ref Lf), v5, v6] ∧ LS K F M H' U x Lf rows done u (30000 + t * 100) lf ∧ AG rows done t lf ∧ done.length ≤ 2 + 2 * t ∧ u ≤ t + 2 ∧ Keep Non M Hs H')
      ⟨_, _, _, _, 0, 3, _, _, rfl, l9.mono (Nat.le_refl _) (by omega), ag7, by show 2 ≤ _; omega, by omega, k29⟩ ?_ ?_
    · rintro t σ H10 ht ⟨F, M, rows, done, u, lf, v5, v6, rfl, l10, ag10, dl10, ul10, k10⟩
      walk_at "rd"
      obtain ⟨_, _, _, _, _, eh10, _, _⟩ := rowsDict l10.hall
      refine ⟨x, _, _, rfl, eh10, ⟨F, M, x, rows, done, u, rfl, l10.hall, ⟨_, rfl, by omega, by have := ag10.cur.len; omega, ?_⟩⟩⟩
      walk_at "rd"
      refine ifS (fun σ H' => ∃ (F M : Addr → Prop) (rows : Rows) (done : List Rows) (u lf : Nat) (v6 : Option V), σ = [some (.ref a), some (.int (i : Int)), some (.ref U), some (.ref x), some (.ref Lf), some (.int (t : Int)), v6] ∧ LS K F M H' U x Lf rows done u (30000 + t * 100) lf ∧ AG rows done t lf ∧ rows ≠ [] ∧ done.length ≤ 3 + 2 * t ∧ u ≤ t + 2 ∧ Keep Non M Hs H') ?_ (fun c0 n2 go => ?_) fun c0 n2 go => ?_
      · rintro σ H11 ⟨F, M, rows, done, u, lf, v6, rfl, l11, ag11, ne11, dl11, ul11, k11⟩
        walk_at "rd"
        refine ⟨F, M, U, x, Lf, rows, done, u, _, lf, t, rfl, l11, ag11, ne11, by omega, by omega, by omega, by omega, fun F2 M2 H12 rows2 done2 u2 lf2 l12 k12 ag12 dl12 ul12 => ?_⟩
        have al12 := ag12.cur
        have k11' := k11.trans k12
        have rl12 := al12.len
        walk_at "rd"
        obtain ⟨_, _, _, _, _, eh12, _, _⟩ := rowsDict l12.hall
        refine ⟨_, rfl, x, _, _, rfl, eh12, by rfl, F2, M2, x, rows2, done2, u2, rfl, l12.hall, by omega, fun p ys H13 s13 hp13 ep13 perm13 srt13 => ⟨p, rfl, ⟨_, SqL.of ep13⟩, fun D hD => ?_⟩⟩
        have l13 := l12.same s13
        have ylen : ys.length = rows2.length := by rw [perm13.length_eq, len_keys]
        have np13 : ¬ M2 p := fun z => l12.hM p z hp13
        have nD13 : ¬ M2 D := fun z => l13.hM D z hD
        have sD : Same H13 (upd H13 D (.lst [])) := same_upd hD
        refine lc_list (K := K) (a := p) (xs := ys.map V.str) (fun j H' => ∃ (F' M' : Addr → Prop) (u' : Nat), LS K F' M' H' U x Lf rows2 done2 u' (30000 + t * 100 + 20 + j * 10) lf2 ∧ Keep M2 M' (upd H13 D (.lst [])) H' ∧ u' ≤ t + 3)
          ⟨F2, M2, u2, (l13.same sD).mono (Nat.le_refl _) (by omega), Keep.same (Same.refl _), by omega⟩ (fun j H' _ ⟨_, _, _, _, z, _⟩ => SqL.of (z.k _ _ np13 (sD _ _ ep13))) ?_ ?_
        · rintro j v H' hj ⟨F', M', u', l', k', ul'⟩
          rw [List.getElem?_map] at hj
          obtain ⟨n, hn2, rfl⟩ := Option.map_eq_some_iff.mp hj
          have jl := (List.getElem?_eq_some_iff.mp hn2).1
          obtain ⟨ps, hps⟩ : ∃ ps, aget rows2 n = some ps := Option.isSome_iff_exists.mp (aget_key.mpr (perm13.subset (List.mem_of_getElem? hn2)))
          refine ⟨rfl, ?_⟩
          walk_at "rd"
          refine ⟨F', M', U, x, Lf, n, ps, rows2, done2, u', _, lf2, t + 1, rfl, l', al12, by omega, by omega, by omega, by omega, hps, fun F3 M3 H14 u3 l14 k14 ul14 => ?_⟩
          walk_at "rd"
          refine iteF ?_
          exact ⟨F3, M3, u3, l14.mono (Nat.le_refl _) (by omega), k'.trans k14, by omega⟩
        · rintro H' ⟨F', M', u', l', k', ul'⟩
          rw [List.length_map] at l'
          have eD : H' D = some (.lst []) := k'.k _ _ nD13 upd_same
          walk_at "rd"
          refine p_new (sz (by show 0 ≤ _; decide)) fun Z hZ => ?_
          have sZ := same_upd (o := .lst []) hZ
          refine ⟨.list [], .list [], .lst (SqL.of (sZ _ _ eD)) .nil, .lst (SqL.of upd_same) .nil, by decide, by decide, ?_⟩
          walk_at "rd"
          refine iteF ?_
          exact ⟨F', M', rows2, done2, u', lf2, _, _, rfl, (l'.same sZ).mono (Nat.le_refl _) (by omega), ag12, by omega, by omega, (((k11'.trans (Keep.same s13)).trans (Keep.same sD)).trans k').trans (Keep.same sZ)⟩
      · -- no row: one is begun
        have er : rows = [] := by
          cases e : rows with
          | nil => rfl
          | cons y z => rw [e, List.length_cons] at c0; omega
        have al10 := ag10.cur
        walk_at "rd"
        refine p_meth eh10 (by rfl) ?_
        walk_at "rd"
        refine p_new (sz (by show 0 ≤ _; decide)) fun Lz hLz => ?_
        have sz1 := same_upd (o := .lst []) hLz
        have l11 := l10.same sz1
        have nLz : ¬ M Lz := fun z => l10.hM Lz z hLz
        have en : (nums [] 0).1 = [] := by rw [nums]
        have t0' := al10.tot
        have as0 : asum manys rows = 0 := by rw [er]; rfl
        walk_at "rd"
        refine ⟨F, M, x, Lz, "a", [], rows, done, u, rfl, l11.hin (al10.ok (by omega)) (by have := al10.len; omega) (by omega), nm4_ok _ (by decide), by rw [er]; rfl, ⟨⟨nLz, [], upd_same, by rw [LgLA]⟩, l11.hM, trivial, by decide, by decide, by decide⟩, fun F3 H12 fr12 hh12 => ?_⟩
        obtain ⟨l12, k12⟩ := l11.deed fr12 hh12
        have p3 := pow3_pos t
        have g12 : RowsG (aput rows "a" (nums [] 0).1) t lf := al10.new (by decide) (by rw [er]; rfl) (by rw [en]; exact ⟨trivial, by
          rw [dps]
          omega, by rw [wts]; omega⟩) (by rw [en, manys]; omega)
        refine go _ _ ⟨F3, _, _, _, 0, lf, _, rfl, l12, ag10.push g12 (Nat.le_refl _) (Nat.le_refl _) (ne_put _ _ _), ne_slim (ne_put _ _ _), by rw [List.length_append, List.length_singleton]; omega, by omega, (k10.trans (Keep.same sz1)).trans k12⟩
      · refine go _ _ ⟨F, M, rows, done, u, lf, _, rfl, l10, ag10, fun z => c0 (by rw [z]; rfl), by omega, ul10, k10⟩
    · rintro σ H10 ⟨F, M, rows, done, u, lf, v5, v6, rfl, l10, ag10, dl10, ul10, k10⟩
      exact ⟨_, _, _, _, _, _, rfl, sqL_same has (keep_non k10)⟩
  · rintro σ H' ⟨v1, v2, v3, v4, v5, v6, rfl, has⟩
    walk_at "rd"
    exact q H'
end

end Bo
open L2 PySem PySem.Spec PyProof.Rows
theorem PySem.Challenge.cw_boastrow_k91_whole_halls_and_long_rows_holds : PySem.Challenge.rw_boastrow_k91_whole_halls_and_long_rows.Holds := by
  refine Bo.holds_of fun w K h mg KX G T => ⟨T.fd_law, Bo.spLaw K, fun s u => ?_, fun H a ns hl hS => ⟨a, ns, rfl, hS, by omega, fun _ => rfl⟩, fun base _ _ => ?_⟩
  · exact FunD.bindsA (ps := ["_law_script"]) T.d_law.F (fun _ _ _ _ _ _ us hl => match us, hl with | [_], _ => rfl) s [u] rfl
  · have B := Bo.f2 (P := (PySem.Challenge.rw_boastrow_k91_whole_halls_and_long_rows).prog) (w := w) (base := base) T
    have C := Bo.f3 (P := (PySem.Challenge.rw_boastrow_k91_whole_halls_and_long_rows).prog) (w := w) (base := base) T
    exact Bo.ok_law T B C (Bo.ok_Lmove T B C) (Bo.ok_Lname T B C (Bo.ok_Lplaces T B C))
