import PyProof.Rows.All
import Wide.All
import OpenK.AllK
import Wide.FinOn
import HandS.ForMost
import HandS.Codes
import HandS.Defaults
import HandS.HeadHook1
import HandS.HeadHook2
import HandS.HeadHook3
import HandS.HeadHook4
import PySem.Challenge.RW_strikeloom_k37_whole_rights_of_no_use
import KE.GoesZip
import KE.GoesMore
import KE.GoesEnumKw
import HandS.Base
import HandS.Call
import HandS.List
import HandS.Iter
import HandS.Dict
import HandS.Sort
import HandS.SortOrd
import HandS.Conv
import KE.KDictSum
import KE.KUnpackStar
import HandS.More
import HandS.TupSets
import HandS.Comp
import HandS.DictComp
import HandS.Wide
import HandS.Style
import HandS.IsInst
import HandS.FStr
import HandS.Deep
import HandS.RevRange
import HandS.CallLocal
import HandS.TupLen
import KE.KStateDown
import Lean
import HandS.Head0
import HandS.Head1
import HandS.Head2
import HandS.HeadEnd
import HandS.Walk
import HandS.MakeKwOnly
import HandS.RaiseMore
import HandS.TupAny
import HandS.Zip
set_option Elab.async false
set_option linter.all false
set_option maxRecDepth 100000
set_option maxHeartbeats 4000000
namespace K37
open PySem PySem.Spec PyProof.Rows L2
/-! ### the text by places -/
def top (i : Nat) : Stmt := PySem.Challenge.pw_strikeloom_k37_whole_rights_of_no_use.main.body.getD i (.Pass ⟨0, 0, 0, 0⟩)
/-- the keyword default of that name, of the def at p, where it is an object -/
def kwAd (p : Str × Option Str) (x : Str) (K : PySem.W.Frag) : Addr := match K.lookup (He.fAd K p) with
  | some ⟨_, _, .func fd, _⟩ => (match fd.kwdefaults with
    | .ref D => (match PySem.W.nsIn K D x with
      | some (some (.ref a)) => a
      | _ => 0)
    | _ => 0)
  | _ => 0
abbrev s_common : Stmt := top 16
def d_common : He.DefD := ⟨("common", none), "common", "common", defArgs s_common, defBody s_common, defScope s_common, [], []⟩
abbrev s_lowest : Stmt := top 17
def d_lowest : He.DefD := ⟨("lowest", none), "lowest", "lowest", defArgs s_lowest, defBody s_lowest, defScope s_lowest, [], []⟩
abbrev s_plus : Stmt := top 18
def d_plus : He.DefD := ⟨("plus", none), "plus", "plus", defArgs s_plus, defBody s_plus, defScope s_plus, [], []⟩
abbrev s_minus : Stmt := top 19
def d_minus : He.DefD := ⟨("minus", none), "minus", "minus", defArgs s_minus, defBody s_minus, defScope s_minus, [], []⟩
abbrev s_times : Stmt := top 20
def d_times : He.DefD := ⟨("times", none), "times", "times", defArgs s_times, defBody s_times, defScope s_times, [], []⟩
abbrev s_by : Stmt := top 21
def d_by : He.DefD := ⟨("by", none), "by", "by", defArgs s_by, defBody s_by, defScope s_by, [], []⟩
abbrev s_less : Stmt := top 22
def d_less : He.DefD := ⟨("less", none), "less", "less", defArgs s_less, defBody s_less, defScope s_less, [], []⟩
abbrev s_amount_text : Stmt := top 23
def d_amount_text : He.DefD := ⟨("amount_text", none), "amount_text", "amount_text", defArgs s_amount_text, defBody s_amount_text, defScope s_amount_text, [], []⟩
abbrev s_inner : Stmt := top 28
def d_inner : He.DefD := ⟨("inner", none), "inner", "inner", defArgs s_inner, defBody s_inner, defScope s_inner, [], []⟩
abbrev s_uses : Stmt := top 29
def d_uses : He.DefD := ⟨("uses", none), "uses", "uses", defArgs s_uses, defBody s_uses, defScope s_uses, [], []⟩
abbrev s_is_whole : Stmt := top 30
def d_is_whole : He.DefD := ⟨("is_whole", none), "is_whole", "is_whole", defArgs s_is_whole, defBody s_is_whole, defScope s_is_whole, [], []⟩
abbrev s_better : Stmt := top 31
def d_better : He.DefD := ⟨("better", none), "better", "better", defArgs s_better, defBody s_better, defScope s_better, [], []⟩
abbrev s_worse : Stmt := top 32
def d_worse : He.DefD := ⟨("worse", none), "worse", "worse", defArgs s_worse, defBody s_worse, defScope s_worse, [], []⟩
abbrev s_value_at : Stmt := top 34
def d_value_at : He.DefD := ⟨("value_at", none), "value_at", "value_at", defArgs s_value_at, defBody s_value_at, defScope s_value_at, [], []⟩
abbrev s_thing_text : Stmt := top 36
def d_thing_text : He.DefD := ⟨("thing_text", none), "thing_text", "thing_text", defArgs s_thing_text, defBody s_thing_text, defScope s_thing_text, [], []⟩
abbrev s_things_text : Stmt := top 37
def d_things_text : He.DefD := ⟨("things_text", none), "things_text", "things_text", defArgs s_things_text, defBody s_things_text, defScope s_things_text, [], []⟩
abbrev s_value_text : Stmt := top 38
def d_value_text : He.DefD := ⟨("value_text", none), "value_text", "value_text", defArgs s_value_text, defBody s_value_text, defScope s_value_text, [], []⟩
abbrev s_note_text : Stmt := top 39
def d_note_text : He.DefD := ⟨("note_text", none), "note_text", "note_text", defArgs s_note_text, defBody s_note_text, defScope s_note_text, [], []⟩
abbrev s_both_of : Stmt := top 41
def d_both_of : He.DefD := ⟨("both_of", none), "both_of", "both_of", defArgs s_both_of, defBody s_both_of, defScope s_both_of, [], []⟩
abbrev s_of_none : Stmt := top 43
def d_of_none : He.DefD := ⟨("of_none", none), "of_none", "of_none", defArgs s_of_none, defBody s_of_none, defScope s_of_none, [], []⟩
abbrev s_of_pay : Stmt := top 44
def d_of_pay : He.DefD := ⟨("of_pay", none), "of_pay", "of_pay", defArgs s_of_pay, defBody s_of_pay, defScope s_of_pay, [], []⟩
abbrev s_of_now : Stmt := top 45
def d_of_now : He.DefD := ⟨("of_now", none), "of_now", "of_now", defArgs s_of_now, defBody s_of_now, defScope s_of_now, [], []⟩
abbrev s_of_both : Stmt := top 46
def d_of_both : He.DefD := ⟨("of_both", none), "of_both", "of_both", defArgs s_of_both, defBody s_of_both, defScope s_of_both, [], []⟩
abbrev s_of_may : Stmt := top 50
def d_of_may : He.DefD := ⟨("of_may", none), "of_may", "of_may", defArgs s_of_may, defBody s_of_may, defScope s_of_may, [], []⟩
abbrev s_lived : Stmt := top 53
def d_lived : He.DefD := ⟨("lived", none), "lived", "lived", defArgs s_lived, defBody s_lived, defScope s_lived, [], []⟩
abbrev s_turned : Stmt := top 54
def d_turned : He.DefD := ⟨("turned", none), "turned", "turned", defArgs s_turned, defBody s_turned, defScope s_turned, [], [("answers", .adr (kwAd ("turned", none) "answers"))]⟩
abbrev s_endings : Stmt := top 55
def d_endings : He.DefD := ⟨("endings", none), "endings", "endings", defArgs s_endings, defBody s_endings, defScope s_endings, [], []⟩
abbrev s_look_both : Stmt := top 57
def d_look_both : He.DefD := ⟨("look_both", none), "look_both", "look_both", defArgs s_look_both, defBody s_look_both, defScope s_look_both, [], []⟩
abbrev s_Machine_init : Stmt := inClass (top 58) 0
def d_Machine_init : He.DefD := ⟨("Machine", some "__init__"), "__init__", "Machine.__init__", defArgs s_Machine_init, defBody s_Machine_init, defScope s_Machine_init, [], []⟩
abbrev s_Machine_len : Stmt := inClass (top 58) 1
def d_Machine_len : He.DefD := ⟨("Machine", some "__len__"), "__len__", "Machine.__len__", defArgs s_Machine_len, defBody s_Machine_len, defScope s_Machine_len, [], []⟩
abbrev s_Machine_later : Stmt := inClass (top 58) 2
def d_Machine_later : He.DefD := ⟨("Machine", some "later"), "later", "Machine.later", defArgs s_Machine_later, defBody s_Machine_later, defScope s_Machine_later, [], []⟩
abbrev s_Machine_stand : Stmt := inClass (top 58) 6
def d_Machine_stand : He.DefD := ⟨("Machine", some "stand"), "stand", "Machine.stand", defArgs s_Machine_stand, defBody s_Machine_stand, defScope s_Machine_stand, [], []⟩
abbrev s_Machine_at : Stmt := inClass (top 58) 7
def d_Machine_at : He.DefD := ⟨("Machine", some "at"), "at", "Machine.at", defArgs s_Machine_at, defBody s_Machine_at, defScope s_Machine_at, [], [("answers", .adr (kwAd ("Machine", some "at") "answers"))]⟩
abbrev s_Machine_ahead : Stmt := inClass (top 58) 8
def d_Machine_ahead : He.DefD := ⟨("Machine", some "ahead"), "ahead", "Machine.ahead", defArgs s_Machine_ahead, defBody s_Machine_ahead, defScope s_Machine_ahead, [], [("answers", .adr (kwAd ("Machine", some "ahead") "answers"))]⟩
abbrev s_weighed : Stmt := top 60
def d_weighed : He.DefD := ⟨("weighed", none), "weighed", "weighed", defArgs s_weighed, defBody s_weighed, defScope s_weighed, [], []⟩
abbrev s_chosen : Stmt := top 61
def d_chosen : He.DefD := ⟨("chosen", none), "chosen", "chosen", defArgs s_chosen, defBody s_chosen, defScope s_chosen, [], []⟩
abbrev s_Worth_init : Stmt := inClass (top 62) 0
def d_Worth_init : He.DefD := ⟨("Worth", some "__init__"), "__init__", "Worth.__init__", defArgs s_Worth_init, defBody s_Worth_init, defScope s_Worth_init, [], []⟩
abbrev s_Worth_reckoned : Stmt := inClass (top 62) 2
def d_Worth_reckoned : He.DefD := ⟨("Worth", some "reckoned"), "reckoned", "Worth.reckoned", defArgs s_Worth_reckoned, defBody s_Worth_reckoned, defScope s_Worth_reckoned, [], []⟩
abbrev s_Worth_worth : Stmt := inClass (top 62) 3
def d_Worth_worth : He.DefD := ⟨("Worth", some "worth"), "worth", "Worth.worth", defArgs s_Worth_worth, defBody s_Worth_worth, defScope s_Worth_worth, [.int 0], []⟩
abbrev s_Worth_plan : Stmt := inClass (top 62) 5
def d_Worth_plan : He.DefD := ⟨("Worth", some "plan"), "plan", "Worth.plan", defArgs s_Worth_plan, defBody s_Worth_plan, defScope s_Worth_plan, [.int 0], [("answers", .adr (kwAd ("Worth", some "plan") "answers"))]⟩
abbrev s_Worth_loss : Stmt := inClass (top 62) 6
def d_Worth_loss : He.DefD := ⟨("Worth", some "loss"), "loss", "Worth.loss", defArgs s_Worth_loss, defBody s_Worth_loss, defScope s_Worth_loss, [.int 0], [("answers", .adr (kwAd ("Worth", some "loss") "answers"))]⟩
abbrev s_Worth_region : Stmt := inClass (top 62) 8
def d_Worth_region : He.DefD := ⟨("Worth", some "region"), "region", "Worth.region", defArgs s_Worth_region, defBody s_Worth_region, defScope s_Worth_region, [], []⟩
abbrev s_look_shape : Stmt := top 66
def d_look_shape : He.DefD := ⟨("look_shape", none), "look_shape", "look_shape", defArgs s_look_shape, defBody s_look_shape, defScope s_look_shape, [], []⟩
abbrev s_look_above : Stmt := top 67
def d_look_above : He.DefD := ⟨("look_above", none), "look_above", "look_above", defArgs s_look_above, defBody s_look_above, defScope s_look_above, [], []⟩
abbrev s_look_steps : Stmt := top 68
def d_look_steps : He.DefD := ⟨("look_steps", none), "look_steps", "look_steps", defArgs s_look_steps, defBody s_look_steps, defScope s_look_steps, [], []⟩
abbrev s_Lattice_init : Stmt := inClass (top 69) 0
def d_Lattice_init : He.DefD := ⟨("Lattice", some "__init__"), "__init__", "Lattice.__init__", defArgs s_Lattice_init, defBody s_Lattice_init, defScope s_Lattice_init, [], []⟩
abbrev s_Lattice_last : Stmt := inClass (top 69) 4
def d_Lattice_last : He.DefD := ⟨("Lattice", some "last"), "last", "Lattice.last", defArgs s_Lattice_last, defBody s_Lattice_last, defScope s_Lattice_last, [], []⟩
abbrev s_Lattice_many : Stmt := inClass (top 69) 5
def d_Lattice_many : He.DefD := ⟨("Lattice", some "many"), "many", "Lattice.many", defArgs s_Lattice_many, defBody s_Lattice_many, defScope s_Lattice_many, [], []⟩
abbrev s_Lattice_look_node : Stmt := inClass (top 69) 6
def d_Lattice_look_node : He.DefD := ⟨("Lattice", some "look_node"), "look_node", "Lattice.look_node", defArgs s_Lattice_look_node, defBody s_Lattice_look_node, defScope s_Lattice_look_node, [], [("stepping", .bl true)]⟩
abbrev s_Lattice_price : Stmt := inClass (top 69) 7
def d_Lattice_price : He.DefD := ⟨("Lattice", some "price"), "price", "Lattice.price", defArgs s_Lattice_price, defBody s_Lattice_price, defScope s_Lattice_price, [], []⟩
abbrev s_Lattice_rate : Stmt := inClass (top 69) 8
def d_Lattice_rate : He.DefD := ⟨("Lattice", some "rate"), "rate", "Lattice.rate", defArgs s_Lattice_rate, defBody s_Lattice_rate, defScope s_Lattice_rate, [], []⟩
abbrev s_Lattice_step : Stmt := inClass (top 69) 9
def d_Lattice_step : He.DefD := ⟨("Lattice", some "step"), "step", "Lattice.step", defArgs s_Lattice_step, defBody s_Lattice_step, defScope s_Lattice_step, [], []⟩
abbrev s_Lattice_sides : Stmt := inClass (top 69) 10
def d_Lattice_sides : He.DefD := ⟨("Lattice", some "sides"), "sides", "Lattice.sides", defArgs s_Lattice_sides, defBody s_Lattice_sides, defScope s_Lattice_sides, [], []⟩
abbrev s_Lattice_share : Stmt := inClass (top 69) 11
def d_Lattice_share : He.DefD := ⟨("Lattice", some "share"), "share", "Lattice.share", defArgs s_Lattice_share, defBody s_Lattice_share, defScope s_Lattice_share, [], []⟩
abbrev s_Lattice_win : Stmt := inClass (top 69) 12
def d_Lattice_win : He.DefD := ⟨("Lattice", some "win"), "win", "Lattice.win", defArgs s_Lattice_win, defBody s_Lattice_win, defScope s_Lattice_win, [], []⟩
abbrev s_law_box : Stmt := top 71
def d_law_box : He.DefD := ⟨("_law_box", none), "_law_box", "_law_box", defArgs s_law_box, defBody s_law_box, defScope s_law_box, [], []⟩
abbrev s_law_take : Stmt := top 72
def d_law_take : He.DefD := ⟨("_law_take", none), "_law_take", "_law_take", defArgs s_law_take, defBody s_law_take, defScope s_law_take, [], []⟩
abbrev s_law_one : Stmt := top 73
def d_law_one : He.DefD := ⟨("_law_one", none), "_law_one", "_law_one", defArgs s_law_one, defBody s_law_one, defScope s_law_one, [], []⟩
abbrev s_law_near : Stmt := top 74
def d_law_near : He.DefD := ⟨("_law_near", none), "_law_near", "_law_near", defArgs s_law_near, defBody s_law_near, defScope s_law_near, [], []⟩
abbrev s_law_same : Stmt := top 75
def d_law_same : He.DefD := ⟨("_law_same", none), "_law_same", "_law_same", defArgs s_law_same, defBody s_law_same, defScope s_law_same, [], []⟩
abbrev s_law_common : Stmt := top 76
def d_law_common : He.DefD := ⟨("_law_common", none), "_law_common", "_law_common", defArgs s_law_common, defBody s_law_common, defScope s_law_common, [], []⟩
abbrev s_law_low : Stmt := top 77
def d_law_low : He.DefD := ⟨("_law_low", none), "_law_low", "_law_low", defArgs s_law_low, defBody s_law_low, defScope s_law_low, [], []⟩
abbrev s_law_sum : Stmt := top 78
def d_law_sum : He.DefD := ⟨("_law_sum", none), "_law_sum", "_law_sum", defArgs s_law_sum, defBody s_law_sum, defScope s_law_sum, [], []⟩
abbrev s_law_less_by : Stmt := top 79
def d_law_less_by : He.DefD := ⟨("_law_less_by", none), "_law_less_by", "_law_less_by", defArgs s_law_less_by, defBody s_law_less_by, defScope s_law_less_by, [], []⟩
abbrev s_law_product : Stmt := top 80
def d_law_product : He.DefD := ⟨("_law_product", none), "_law_product", "_law_product", defArgs s_law_product, defBody s_law_product, defScope s_law_product, [], []⟩
abbrev s_law_share_of : Stmt := top 81
def d_law_share_of : He.DefD := ⟨("_law_share_of", none), "_law_share_of", "_law_share_of", defArgs s_law_share_of, defBody s_law_share_of, defScope s_law_share_of, [], []⟩
abbrev s_law_under : Stmt := top 82
def d_law_under : He.DefD := ⟨("_law_under", none), "_law_under", "_law_under", defArgs s_law_under, defBody s_law_under, defScope s_law_under, [], []⟩
abbrev s_law_coin : Stmt := top 83
def d_law_coin : He.DefD := ⟨("_law_coin", none), "_law_coin", "_law_coin", defArgs s_law_coin, defBody s_law_coin, defScope s_law_coin, [], []⟩
abbrev s_law_above : Stmt := top 84
def d_law_above : He.DefD := ⟨("_law_above", none), "_law_above", "_law_above", defArgs s_law_above, defBody s_law_above, defScope s_law_above, [], []⟩
abbrev s_law_rows_between : Stmt := top 85
def d_law_rows_between : He.DefD := ⟨("_law_rows_between", none), "_law_rows_between", "_law_rows_between", defArgs s_law_rows_between, defBody s_law_rows_between, defScope s_law_rows_between, [], []⟩
abbrev s_law_steps_between : Stmt := top 86
def d_law_steps_between : He.DefD := ⟨("_law_steps_between", none), "_law_steps_between", "_law_steps_between", defArgs s_law_steps_between, defBody s_law_steps_between, defScope s_law_steps_between, [], []⟩
abbrev s_law_fair : Stmt := top 87
def d_law_fair : He.DefD := ⟨("_law_fair", none), "_law_fair", "_law_fair", defArgs s_law_fair, defBody s_law_fair, defScope s_law_fair, [], []⟩
abbrev s_law_web : Stmt := top 88
def d_law_web : He.DefD := ⟨("_law_web", none), "_law_web", "_law_web", defArgs s_law_web, defBody s_law_web, defScope s_law_web, [], []⟩
abbrev s_law_value : Stmt := top 89
def d_law_value : He.DefD := ⟨("_law_value", none), "_law_value", "_law_value", defArgs s_law_value, defBody s_law_value, defScope s_law_value, [], []⟩
abbrev s_law : Stmt := top 90
def d_law : He.DefD := ⟨("law", none), "law", "law", defArgs s_law, defBody s_law, defScope s_law, [], []⟩
def fn : List He.DefD := [d_common, d_lowest, d_plus, d_minus, d_times, d_by, d_less, d_amount_text, d_inner, d_uses, d_is_whole, d_better, d_worse, d_value_at, d_thing_text, d_things_text, d_value_text, d_note_text, d_both_of, d_of_none, d_of_pay, d_of_now, d_of_both, d_of_may, d_lived, d_turned, d_endings, d_look_both, d_Machine_init, d_Machine_len, d_Machine_later, d_Machine_stand, d_Machine_at, d_Machine_ahead, d_weighed, d_chosen, d_Worth_init, d_Worth_reckoned, d_Worth_worth, d_Worth_plan, d_Worth_loss, d_Worth_region, d_look_shape, d_look_above, d_look_steps, d_Lattice_init, d_Lattice_last, d_Lattice_many, d_Lattice_look_node, d_Lattice_price, d_Lattice_rate, d_Lattice_step, d_Lattice_sides, d_Lattice_share, d_Lattice_win, d_law_box, d_law_take, d_law_one, d_law_near, d_law_same, d_law_common, d_law_low, d_law_sum, d_law_less_by, d_law_product, d_law_share_of, d_law_under, d_law_coin, d_law_above, d_law_rows_between, d_law_steps_between, d_law_fair, d_law_web, d_law_value, d_law]
def fa : List He.Fa := [.glo "common", .glo "lowest", .glo "plus", .glo "minus", .glo "times", .glo "by", .glo "less", .glo "amount_text", .glo "inner", .glo "uses", .glo "is_whole", .glo "better", .glo "worse", .glo "value_at", .glo "thing_text", .glo "things_text", .glo "value_text", .glo "note_text", .glo "both_of", .glo "of_none", .glo "of_pay", .glo "of_now", .glo "of_both", .glo "of_may", .glo "lived", .glo "turned", .glo "endings", .glo "look_both", .meth "Machine" "__init__", .meth "Machine" "__len__", .meth "Machine" "later", .meth "Machine" "stand", .meth "Machine" "at", .meth "Machine" "ahead", .glo "weighed", .glo "chosen", .meth "Worth" "__init__", .meth "Worth" "reckoned", .meth "Worth" "worth", .meth "Worth" "plan", .meth "Worth" "loss", .meth "Worth" "region", .glo "look_shape", .glo "look_above", .glo "look_steps", .meth "Lattice" "__init__", .meth "Lattice" "last", .meth "Lattice" "many", .meth "Lattice" "look_node", .meth "Lattice" "price", .meth "Lattice" "rate", .meth "Lattice" "step", .meth "Lattice" "sides", .meth "Lattice" "share", .meth "Lattice" "win", .glo "_law_box", .glo "_law_take", .glo "_law_one", .glo "_law_near", .glo "_law_same", .glo "_law_common", .glo "_law_low", .glo "_law_sum", .glo "_law_less_by", .glo "_law_product", .glo "_law_share_of", .glo "_law_under", .glo "_law_coin", .glo "_law_above", .glo "_law_rows_between", .glo "_law_steps_between", .glo "_law_fair", .glo "_law_web", .glo "_law_value", .glo "law", .glo "Lattice", .cls "Lattice", .mkr "Lattice", .glo "Machine", .cls "Machine", .mkr "Machine", .glo "Worth", .cls "Worth", .mkr "Worth", .noat "Lattice" "prices", .noat "Lattice" "rates", .noat "Lattice" "steps", .noat "Machine" "web", .noat "Machine" "thing", .noat "Machine" "rows", .noat "Machine" "kin", .noat "Machine" "spots", .noat "Worth" "mill", .noat "Worth" "sums", .glo "NOUGHT", .glo "ONE", .glo "NONE", .glo "VALUES", .glo "NOTES", .glo "PAIRS", .glo "WAYS", .int "MOST_DATES" 7, .int "MOST_NODES" 8, .free "abs", .free "str", .free "zip", .free "sorted", .free "range", .free "len", .free "all", .free "enumerate", .free "list", .free "tuple", .free "reversed", .free "isinstance", .free "bool", .free "int", .free "set"]
/-! names of the facts by place -/
abbrev i_glo_common : Nat := 0
abbrev i_glo_lowest : Nat := 1
abbrev i_glo_plus : Nat := 2
abbrev i_glo_minus : Nat := 3
abbrev i_glo_times : Nat := 4
abbrev i_glo_by : Nat := 5
abbrev i_glo_less : Nat := 6
abbrev i_glo_amount_text : Nat := 7
abbrev i_glo_inner : Nat := 8
abbrev i_glo_uses : Nat := 9
abbrev i_glo_is_whole : Nat := 10
abbrev i_glo_better : Nat := 11
abbrev i_glo_worse : Nat := 12
abbrev i_glo_value_at : Nat := 13
abbrev i_glo_thing_text : Nat := 14
abbrev i_glo_things_text : Nat := 15
abbrev i_glo_value_text : Nat := 16
abbrev i_glo_note_text : Nat := 17
abbrev i_glo_both_of : Nat := 18
abbrev i_glo_of_none : Nat := 19
abbrev i_glo_of_pay : Nat := 20
abbrev i_glo_of_now : Nat := 21
abbrev i_glo_of_both : Nat := 22
abbrev i_glo_of_may : Nat := 23
abbrev i_glo_lived : Nat := 24
abbrev i_glo_turned : Nat := 25
abbrev i_glo_endings : Nat := 26
abbrev i_glo_look_both : Nat := 27
abbrev i_meth_Machine_init : Nat := 28
abbrev i_meth_Machine_len : Nat := 29
abbrev i_meth_Machine_later : Nat := 30
abbrev i_meth_Machine_stand : Nat := 31
abbrev i_meth_Machine_at : Nat := 32
abbrev i_meth_Machine_ahead : Nat := 33
abbrev i_glo_weighed : Nat := 34
abbrev i_glo_chosen : Nat := 35
abbrev i_meth_Worth_init : Nat := 36
abbrev i_meth_Worth_reckoned : Nat := 37
abbrev i_meth_Worth_worth : Nat := 38
abbrev i_meth_Worth_plan : Nat := 39
abbrev i_meth_Worth_loss : Nat := 40
abbrev i_meth_Worth_region : Nat := 41
abbrev i_glo_look_shape : Nat := 42
abbrev i_glo_look_above : Nat := 43
abbrev i_glo_look_steps : Nat := 44
abbrev i_meth_Lattice_init : Nat := 45
abbrev i_meth_Lattice_last : Nat := 46
abbrev i_meth_Lattice_many : Nat := 47
abbrev i_meth_Lattice_look_node : Nat := 48
abbrev i_meth_Lattice_price : Nat := 49
abbrev i_meth_Lattice_rate : Nat := 50
abbrev i_meth_Lattice_step : Nat := 51
abbrev i_meth_Lattice_sides : Nat := 52
abbrev i_meth_Lattice_share : Nat := 53
abbrev i_meth_Lattice_win : Nat := 54
abbrev i_glo_law_box : Nat := 55
abbrev i_glo_law_take : Nat := 56
abbrev i_glo_law_one : Nat := 57
abbrev i_glo_law_near : Nat := 58
abbrev i_glo_law_same : Nat := 59
abbrev i_glo_law_common : Nat := 60
abbrev i_glo_law_low : Nat := 61
abbrev i_glo_law_sum : Nat := 62
abbrev i_glo_law_less_by : Nat := 63
abbrev i_glo_law_product : Nat := 64
abbrev i_glo_law_share_of : Nat := 65
abbrev i_glo_law_under : Nat := 66
abbrev i_glo_law_coin : Nat := 67
abbrev i_glo_law_above : Nat := 68
abbrev i_glo_law_rows_between : Nat := 69
abbrev i_glo_law_steps_between : Nat := 70
abbrev i_glo_law_fair : Nat := 71
abbrev i_glo_law_web : Nat := 72
abbrev i_glo_law_value : Nat := 73
abbrev i_glo_law : Nat := 74
abbrev i_glo_Lattice : Nat := 75
abbrev i_cls_Lattice : Nat := 76
abbrev i_mkr_Lattice : Nat := 77
abbrev i_glo_Machine : Nat := 78
abbrev i_cls_Machine : Nat := 79
abbrev i_mkr_Machine : Nat := 80
abbrev i_glo_Worth : Nat := 81
abbrev i_cls_Worth : Nat := 82
abbrev i_mkr_Worth : Nat := 83
abbrev i_noat_Lattice_prices : Nat := 84
abbrev i_noat_Lattice_rates : Nat := 85
abbrev i_noat_Lattice_steps : Nat := 86
abbrev i_noat_Machine_web : Nat := 87
abbrev i_noat_Machine_thing : Nat := 88
abbrev i_noat_Machine_rows : Nat := 89
abbrev i_noat_Machine_kin : Nat := 90
abbrev i_noat_Machine_spots : Nat := 91
abbrev i_noat_Worth_mill : Nat := 92
abbrev i_noat_Worth_sums : Nat := 93
abbrev i_glo_NOUGHT : Nat := 94
abbrev i_glo_ONE : Nat := 95
abbrev i_glo_NONE : Nat := 96
abbrev i_glo_VALUES : Nat := 97
abbrev i_glo_NOTES : Nat := 98
abbrev i_glo_PAIRS : Nat := 99
abbrev i_glo_WAYS : Nat := 100
abbrev i_int_MOST_DATES_7 : Nat := 101
abbrev i_int_MOST_NODES_8 : Nat := 102
abbrev i_free_abs : Nat := 103
abbrev i_free_str : Nat := 104
abbrev i_free_zip : Nat := 105
abbrev i_free_sorted : Nat := 106
abbrev i_free_range : Nat := 107
abbrev i_free_len : Nat := 108
abbrev i_free_all : Nat := 109
abbrev i_free_enumerate : Nat := 110
abbrev i_free_list : Nat := 111
abbrev i_free_tuple : Nat := 112
abbrev i_free_reversed : Nat := 113
abbrev i_free_isinstance : Nat := 114
abbrev i_free_bool : Nat := 115
abbrev i_free_int : Nat := 116
abbrev i_free_set : Nat := 117
abbrev n_common : Nat := 0
abbrev n_lowest : Nat := 1
abbrev n_plus : Nat := 2
abbrev n_minus : Nat := 3
abbrev n_times : Nat := 4
abbrev n_by : Nat := 5
abbrev n_less : Nat := 6
abbrev n_amount_text : Nat := 7
abbrev n_inner : Nat := 8
abbrev n_uses : Nat := 9
abbrev n_is_whole : Nat := 10
abbrev n_better : Nat := 11
abbrev n_worse : Nat := 12
abbrev n_value_at : Nat := 13
abbrev n_thing_text : Nat := 14
abbrev n_things_text : Nat := 15
abbrev n_value_text : Nat := 16
abbrev n_note_text : Nat := 17
abbrev n_both_of : Nat := 18
abbrev n_of_none : Nat := 19
abbrev n_of_pay : Nat := 20
abbrev n_of_now : Nat := 21
abbrev n_of_both : Nat := 22
abbrev n_of_may : Nat := 23
abbrev n_lived : Nat := 24
abbrev n_turned : Nat := 25
abbrev n_endings : Nat := 26
abbrev n_look_both : Nat := 27
abbrev n_Machine_init : Nat := 28
abbrev n_Machine_len : Nat := 29
abbrev n_Machine_later : Nat := 30
abbrev n_Machine_stand : Nat := 31
abbrev n_Machine_at : Nat := 32
abbrev n_Machine_ahead : Nat := 33
abbrev n_weighed : Nat := 34
abbrev n_chosen : Nat := 35
abbrev n_Worth_init : Nat := 36
abbrev n_Worth_reckoned : Nat := 37
abbrev n_Worth_worth : Nat := 38
abbrev n_Worth_plan : Nat := 39
abbrev n_Worth_loss : Nat := 40
abbrev n_Worth_region : Nat := 41
abbrev n_look_shape : Nat := 42
abbrev n_look_above : Nat := 43
abbrev n_look_steps : Nat := 44
abbrev n_Lattice_init : Nat := 45
abbrev n_Lattice_last : Nat := 46
abbrev n_Lattice_many : Nat := 47
abbrev n_Lattice_look_node : Nat := 48
abbrev n_Lattice_price : Nat := 49
abbrev n_Lattice_rate : Nat := 50
abbrev n_Lattice_step : Nat := 51
abbrev n_Lattice_sides : Nat := 52
abbrev n_Lattice_share : Nat := 53
abbrev n_Lattice_win : Nat := 54
abbrev n_law_box : Nat := 55
abbrev n_law_take : Nat := 56
abbrev n_law_one : Nat := 57
abbrev n_law_near : Nat := 58
abbrev n_law_same : Nat := 59
abbrev n_law_common : Nat := 60
abbrev n_law_low : Nat := 61
abbrev n_law_sum : Nat := 62
abbrev n_law_less_by : Nat := 63
abbrev n_law_product : Nat := 64
abbrev n_law_share_of : Nat := 65
abbrev n_law_under : Nat := 66
abbrev n_law_coin : Nat := 67
abbrev n_law_above : Nat := 68
abbrev n_law_rows_between : Nat := 69
abbrev n_law_steps_between : Nat := 70
abbrev n_law_fair : Nat := 71
abbrev n_law_web : Nat := 72
abbrev n_law_value : Nat := 73
abbrev n_law : Nat := 74
def ks_VALUES : List Str := [("price" : Str), ("coin" : Str), ("of" : Str), ("plus" : Str), ("minus" : Str), ("best" : Str), ("least" : Str)]
def kv_VALUES : List (Str × He.Dv) := [("price", .str ""), ("coin", .str "a"), ("of", .str "av"), ("plus", .str "vv"), ("minus", .str "vv"), ("best", .str "vv"), ("least", .str "vv")]
def ks_NOTES : List Str := [("none" : Str), ("pay" : Str), ("now" : Str), ("both" : Str), ("times" : Str), ("turn" : Str), ("till" : Str), ("may" : Str), ("seen" : Str), ("use" : Str)]
def kv_NOTES : List (Str × He.Dv) := [("none", .str ""), ("pay", .str "dv"), ("now", .str "v"), ("both", .str "nn"), ("times", .str "an"), ("turn", .str "n"), ("till", .str "sann"), ("may", .str "moddnn"), ("seen", .str "wdaq"), ("use", .str "m")]
def ks_PAIRS : List Str := [("plus" : Str), ("minus" : Str), ("best" : Str), ("least" : Str)]
def kv_PAIRS : List (Str × He.Dv) := [("plus", .glo "plus"), ("minus", .glo "minus"), ("best", .glo "better"), ("least", .glo "worse")]
def ks_WAYS : List Str := [("none" : Str), ("pay" : Str), ("now" : Str), ("both" : Str), ("times" : Str), ("turn" : Str), ("till" : Str), ("may" : Str), ("seen" : Str)]
def kv_WAYS : List (Str × He.Dv) := [("none", .glo "of_none"), ("pay", .glo "of_pay"), ("now", .glo "of_now"), ("both", .glo "of_both"), ("times", .glo "of_times"), ("turn", .glo "of_turn"), ("till", .glo "of_till"), ("may", .glo "of_may"), ("seen", .glo "of_seen")]
def ts : List He.Tab := [(fun K => He.ga K "VALUES", ks_VALUES), (fun K => He.ga K "NOTES", ks_NOTES), (fun K => He.ga K "PAIRS", ks_PAIRS), (fun K => He.ga K "WAYS", ks_WAYS)]
abbrev t_VALUES : Nat := 0
abbrev t_NOTES : Nat := 1
abbrev t_PAIRS : Nat := 2
abbrev t_WAYS : Nat := 3
/-- the tuple at a is of these -/
def tupA (K : PySem.W.Frag) (a : Addr) (vs : List V) : Bool := match K.lookup a with
  | some ⟨.type c, _, .seq its _, _⟩ => decide (c = "tuple") && (decide (its.size ≤ sizeLine) && He.relAll vs its.toList)
  | _ => false
def ex (K : PySem.W.Frag) : Bool := tupA K (He.ga K "NOUGHT") [.int 0, .int 1] && (tupA K (He.ga K "ONE") [.int 1, .int 1] && (tupA K (He.ga K "NONE") [.str "none"] && (He.valsB K (He.ga K "VALUES") kv_VALUES && (He.valsB K (He.ga K "NOTES") kv_NOTES && (He.valsB K (He.ga K "PAIRS") kv_PAIRS && (He.valsB K (He.ga K "WAYS") kv_WAYS && (tupA K (kwAd ("turned", none) "answers" K) [] && (tupA K (kwAd ("Machine", some "at") "answers" K) [] && (tupA K (kwAd ("Machine", some "ahead") "answers" K) [] && (tupA K (kwAd ("Worth", some "plan") "answers" K) [] && (tupA K (kwAd ("Worth", some "loss") "answers" K) [])))))))))))
end K37
set_option Elab.async false
set_option maxRecDepth 100000
set_option maxHeartbeats 4000000
/-! zip(text, list or tuple, strict=True), walked: both of one length -/
namespace K37Z
open PySem PySem.Spec PyProof.Rows L2
section
variable {prog : Program} {w : World} {A : Around} {E : Value → Shared → Prop} {s : Shared} {z TI TO i1 i2 : Addr} {fp1 fp2 : List Addr} {n k : Nat} {P1 P2 : Nat → Value → Prop} {St1 St2 : Nat → Heap → Prop} {a1 a2 : Value}
/-- a strict zip as it stands -/
abbrev IsZs (h : Heap) (z TI TO : Addr) (f0 : Value) : Prop := h.get? z = some { cls := .type "zip", data := .fields #[f0, .bool false, .bool true, .ref TI, .ref TO] }
/-- the draw that tells the end apart -/
theorem draw_item {it : Addr} {fp : List Addr} {m i : Nat} {Pi : Nat → Value → Prop} {St : Nat → Heap → Prop} {Q : Option Value → Shared → Prop} (D : Draws prog w A it fp m Pi St) (hi : i < m) (st : St i s.heap)
    (hQ : ∀ x h' tk, Pi i x → St (i + 1) h' → Heap.SameBut it s.heap h' → Q (some x) { s with heap := h', toks := tk }) : wpAny (model prog w) A (Builtin.SmallTypes.nextOrEnd (.ref it)) Q E s := by
  unfold Builtin.SmallTypes.nextOrEnd
  exact wpAny_bind (wpAny_attempt (D.item i s _ _ hi st fun x h' tk a b c => wpAny_pure (hQ x h' tk a b c)))
theorem draw_done {it : Addr} {fp : List Addr} {m : Nat} {Pi : Nat → Value → Prop} {St : Nat → Heap → Prop} {Q : Option Value → Shared → Prop} (D : Draws prog w A it fp m Pi St) (st : St m s.heap)
    (hQ : ∀ h', Heap.ExtBut it s.heap h' → Q none { s with heap := h' }) : wpAny (model prog w) A (Builtin.SmallTypes.nextOrEnd (.ref it)) Q E s := by
  unfold Builtin.SmallTypes.nextOrEnd
  refine wpAny_bind (wpAny_attempt (D.done s _ _ st fun h' e hx he => ?_))
  obtain ⟨o, ho, hc⟩ := he
  refine wpAny_bind (wpAny_isInstance (T := "StopIteration") (b := true) ⟨o, ho, hc⟩ isSubtype_stop ?_)
  exact wpAny_pure (hQ h' hx)
theorem zs_item {Q : Value → Shared → Prop} (S : ZipSep2 z TI TO i1 i2 fp1 fp2) (D1 : Draws prog w A i1 fp1 n P1 St1) (D2 : Draws prog w A i2 fp2 n P2 St2)
    (hz : IsZs s.heap z TI TO .none) (hTI : IsTupOf2 s.heap TI (.ref i1) (.ref i2)) (hTO : IsTupOf2 s.heap TO a1 a2) (s1 : St1 k s.heap) (s2 : St2 k s.heap) (lt : k < n)
    (hQ : ∀ x y h' tk, P1 k x → P2 k y → IsZs h' z TI TO (rawInt s.heap.objs.size) → IsTupOf2 h' TO x y → St1 (k + 1) h' → St2 (k + 1) h' → IsTupOf2 h' s.heap.objs.size x y → h'.objs.size = s.heap.objs.size + 1 →
      (∀ c o, c ≠ z → c ≠ TO → c ≠ i1 → c ≠ i2 → s.heap.get? c = some o → h'.get? c = some o) → Q (.ref s.heap.objs.size) { s with heap := h', toks := tk }) :
    wpAny (model prog w) A (Builtin.«zip.__next__» ⟨[.ref z], []⟩) (fun fin s' => ∃ v, fin = .done (.ret v) ∧ Q v s') E s := by
  obtain ⟨hp, gs, dr, tk0, os⟩ := s
  show wpAny _ _ (field (.ref z) 2 >>= _) _ _ _
  refine wpAny_bind (wpAny_field hz rfl (x := .bool true) rfl ?_)
  show wpAny _ _ (field (.ref z) 3 >>= _) _ _ _
  refine wpAny_bind (wpAny_field hz rfl (x := .ref TI) rfl (wpAny_bind (wpAny_seqItems hTI rfl ?_)))
  show wpAny _ _ (Builtin.SmallTypes.ownedTupleIsFree (.ref z) >>= _) _ _ _
  unfold Builtin.SmallTypes.ownedTupleIsFree
  refine wpAny_bind (wpAny_bind (wpAny_field hz rfl (x := .none) rfl (wpAny_pure ?_)))
  simp only [if_true]
  refine wpAny_bind (wpAny_rule (wpAny_bind (wpAny_field hz rfl (x := .ref TO) rfl (wpAny_bind (wpAny_setField_rec hz (by simp) fun g0 z0 q0 => ?_)))))
  have z0' : IsZs g0 z TI TO .ellipsis := z0
  have q0' : Heap.SameBut z hp g0 := q0
  refine wpAny_bind ?_
  simp only [List.zipIdx_cons, List.zipIdx_nil, List.forIn_cons, List.forIn_nil]
  refine wpAny_bind (wpAny_bind (wpAny_onRaise ?_))
  show wpAny _ _ (Builtin.SmallTypes.nextOrEnd (.ref i1)) _ _ ⟨g0, gs, dr, tk0, os⟩
  refine draw_item D1 lt (D1.over s1 q0' S.zf1) fun x p1 tk1 hx sx r1 => ?_
  have r1' : Heap.SameBut i1 g0 p1 := r1
  have U1 : IsTupOf2 p1 TO a1 a2 := r1'.extBut _ _ S.Ti1 (q0'.extBut _ _ S.TOz hTO)
  refine wpAny_bind (wpAny_seqItems (s := ⟨p1, gs, dr, tk1, os⟩) U1 rfl (wpAny_bind (updateSeq_IsTupOf2 (s := ⟨p1, gs, dr, tk1, os⟩) U1 fun g1 T1 q1 => ?_)))
  have T1' : IsTupOf2 g1 TO x a2 := T1
  have q1' : Heap.SameBut TO p1 g1 := q1
  refine wpAny_bind (wpAny_letGo (wpAny_pure (wpAny_bind (wpAny_bind (wpAny_onRaise ?_)))))
  show wpAny _ _ (Builtin.SmallTypes.nextOrEnd (.ref i2)) _ _ ⟨g1, gs, dr, tk1, os⟩
  refine draw_item D2 lt (D2.over (D2.over (D2.over s2 q0' S.zf2) r1' S.sep1_2) q1' S.Tf2) fun y p2 tk2 hy sy r2 => ?_
  have r2' : Heap.SameBut i2 g1 p2 := r2
  have U2 : IsTupOf2 p2 TO x a2 := r2'.extBut _ _ S.Ti2 T1'
  refine wpAny_bind (wpAny_seqItems (s := ⟨p2, gs, dr, tk2, os⟩) U2 rfl (wpAny_bind (updateSeq_IsTupOf2 (s := ⟨p2, gs, dr, tk2, os⟩) U2 fun g2 T2 q2 => ?_)))
  have T2' : IsTupOf2 g2 TO x y := T2
  have q2' : Heap.SameBut TO p2 g2 := q2
  refine wpAny_bind (wpAny_letGo (wpAny_pure (wpAny_pure (wpAny_bind (wpAny_seqItems (s := ⟨g2, gs, dr, tk2, os⟩) T2' rfl (wpAny_bind (wpAny_newTuple ?_)))))))
  have sz : g2.objs.size = hp.objs.size := by rw [q2'.1, r2'.1, q1'.1, r1'.1, q0'.1]
  have zz : IsZs g2 z TI TO .ellipsis := q2'.extBut _ _ S.TOz.symm (r2'.extBut _ _ S.zi2 (q1'.extBut _ _ S.TOz.symm (r1'.extBut _ _ S.zi1 z0')))
  have kk : ∀ c o, c ≠ z → c ≠ TO → c ≠ i1 → c ≠ i2 → hp.get? c = some o → g2.get? c = some o := fun c o hcz hcT hc1 hc2 e =>
    q2'.extBut _ _ hcT (r2'.extBut _ _ hc2 (q1'.extBut _ _ hcT (r1'.extBut _ _ hc1 (q0'.extBut _ _ hcz e))))
  have j1 : St1 (k + 1) g2 := D1.over (D1.over (D1.over sx q1' S.Tf1) r2' S.sep2_1) q2' S.Tf1
  have j2 : St2 (k + 1) g2 := D2.over sy q2' S.Tf2
  have zlt : z < g2.objs.size := Heap.lt_size zz
  show wpAny _ _ (Builtin.SmallTypes.ownedTupleHandOut (.ref z) (.ref g2.objs.size) >>= _) _ _ ⟨g2.push { cls := .type "tuple", data := .seq #[x, y] }, gs, dr, tk2, os⟩
  unfold Builtin.SmallTypes.ownedTupleHandOut
  have z6 : IsZs (g2.push { cls := .type "tuple", data := .seq #[x, y] }) z TI TO .ellipsis := Heap.get?_push_of_some _ zz
  refine wpAny_bind (wpAny_bind (wpAny_setField_rec z6 (by simp) fun h7 z7 q7 => ?_))
  have z7' : IsZs h7 z TI TO (rawInt g2.objs.size) := z7
  refine wpAny_setField_rec z7' (by simp) fun h8 z8 q8 => ?_
  have z8' : IsZs h8 z TI TO (rawInt g2.objs.size) := z8
  have q7' : Heap.SameBut z (g2.push { cls := .type "tuple", data := .seq #[x, y] }) h7 := q7
  have q8' : Heap.SameBut z h7 h8 := q8
  have up : ∀ c o, c ≠ z → g2.get? c = some o → h8.get? c = some o := fun c o hc e => q8'.extBut _ _ hc (q7'.extBut _ _ hc (Heap.get?_push_of_some _ e))
  have T8 : IsTupOf2 h8 g2.objs.size x y := q8'.extBut _ _ (Nat.ne_of_gt zlt) (q7'.extBut _ _ (Nat.ne_of_gt zlt) (Heap.get?_push_size _ rfl))
  have sz8 : h8.objs.size = g2.objs.size + 1 := by rw [q8'.1, q7'.1, Heap.size_push]
  rw [sz] at z8' T8 sz8
  refine wpAny_pure ⟨_, rfl, ?_⟩
  show Q (.ref g2.objs.size) ⟨h8, gs, dr, tk2, os⟩
  rw [sz]
  exact hQ x y h8 tk2 hx hy z8' (up _ _ S.TOz T2') (D1.frame _ _ _ j1 fun b hb o e => up b o (fun q => S.zf1 (q ▸ hb)) e) (D2.frame _ _ _ j2 fun b hb o e => up b o (fun q => S.zf2 (q ▸ hb)) e) T8 sz8 fun c o hcz hcT hc1 hc2 e => up c o hcz (kk c o hcz hcT hc1 hc2 e)
theorem zs_end {Q : Fin → Shared → Prop} (hh : A.handled = none) (S : ZipSep2 z TI TO i1 i2 fp1 fp2) (D1 : Draws prog w A i1 fp1 n P1 St1) (D2 : Draws prog w A i2 fp2 n P2 St2)
    (hz : IsZs s.heap z TI TO .none) (hTI : IsTupOf2 s.heap TI (.ref i1) (.ref i2)) (hTO : IsTupOf2 s.heap TO a1 a2) (s1 : St1 n s.heap) (s2 : St2 n s.heap)
    (hE : ∀ h' e, (∀ c o, c ≠ z → c ≠ TO → c ≠ i1 → c ≠ i2 → s.heap.get? c = some o → h'.get? c = some o) → (∃ o, h'.get? e = some o ∧ o.cls = .type "StopIteration") → E (.ref e) { s with heap := h' }) :
    wpAny (model prog w) A (Builtin.«zip.__next__» ⟨[.ref z], []⟩) Q E s := by
  obtain ⟨hp, gs, dr, tk0, os⟩ := s
  show wpAny _ _ (field (.ref z) 2 >>= _) _ _ _
  refine wpAny_bind (wpAny_field hz rfl (x := .bool true) rfl ?_)
  show wpAny _ _ (field (.ref z) 3 >>= _) _ _ _
  refine wpAny_bind (wpAny_field hz rfl (x := .ref TI) rfl (wpAny_bind (wpAny_seqItems hTI rfl ?_)))
  show wpAny _ _ (Builtin.SmallTypes.ownedTupleIsFree (.ref z) >>= _) _ _ _
  unfold Builtin.SmallTypes.ownedTupleIsFree
  refine wpAny_bind (wpAny_bind (wpAny_field hz rfl (x := .none) rfl (wpAny_pure ?_)))
  simp only [if_true]
  refine wpAny_bind (wpAny_rule (wpAny_bind (wpAny_field hz rfl (x := .ref TO) rfl (wpAny_bind (wpAny_setField_rec hz (by simp) fun g0 z0 q0 => ?_)))))
  have z0' : IsZs g0 z TI TO .ellipsis := z0
  have q0' : Heap.SameBut z hp g0 := q0
  refine wpAny_bind ?_
  simp only [List.zipIdx_cons, List.zipIdx_nil, List.forIn_cons, List.forIn_nil]
  refine wpAny_bind (wpAny_bind (wpAny_onRaise ?_))
  show wpAny _ _ (Builtin.SmallTypes.nextOrEnd (.ref i1)) _ _ ⟨g0, gs, dr, tk0, os⟩
  refine draw_done D1 (D1.over s1 q0' S.zf1) fun p1 r1 => ?_
  have r1' : Heap.ExtBut i1 g0 p1 := r1
  have z1 : IsZs p1 z TI TO .ellipsis := r1' _ _ S.zi1 z0'
  refine wpAny_bind (wpAny_setField_rec (s := ⟨p1, gs, dr, tk0, os⟩) z1 (by simp) fun g1 z1' q1 => ?_)
  have q1' : Heap.SameBut z p1 g1 := q1
  refine wpAny_bind (wpAny_bind ?_)
  show wpAny _ _ (forIn ([Value.ref i2].zipIdx 1) _ _) _ _ ⟨g1, gs, dr, tk0, os⟩
  simp only [List.zipIdx_cons, List.zipIdx_nil, List.forIn_cons, List.forIn_nil]
  refine wpAny_bind (wpAny_bind (draw_done D2 (s := ⟨g1, gs, dr, tk0, os⟩) ?_ fun p2 r2 => ?_))
  · exact D2.frame _ _ _ s2 fun b hb o e => q1'.extBut b o (fun q => S.zf2 (q ▸ hb)) (r1' b o (fun q => S.sep1_2 (q ▸ hb)) (q0'.extBut b o (fun q => S.zf2 (q ▸ hb)) e))
  have r2' : Heap.ExtBut i2 g1 p2 := r2
  refine wpAny_pure (wpAny_pure ?_)
  refine wpAny_bind (wpAny_rule ?_)
  unfold Builtin.SmallTypes.stopIteration
  refine wpAny_bind ?_
  simp only [newExc, newTuple]
  refine wpAny_bind (wpAny_newObj_type ?_ (by size_fits))
  refine wpAny_bind (m := firstArgMember _ _) (wpAny_of_eq (a := Value.none) (by first | rfl | (simp only [firstArgMember]; rfl)) ?_)
  refine wpAny_newObj_type ?_ (by size_fits)
  simp only [raiseNew]
  refine wpAny_bind (wpAny_handled ?_)
  rw [hh]
  refine wpAny_bind (wpAny_pure (wpAny_throw ?_))
  refine hE _ _ (fun c o hcz hcT hc1 hc2 e => ?_) ⟨_, Heap.get?_push_size _ rfl, rfl⟩
  exact Heap.get?_push_of_some _ (Heap.get?_push_of_some _ (r2' _ _ hc2 (q1'.extBut _ _ hcz (r1' _ _ hc1 (q0'.extBut _ _ hcz e)))))
theorem next_item {Q : Option Value → Shared → Prop} (S : ZipSep2 z TI TO i1 i2 fp1 fp2) (D1 : Draws prog w A.in1 i1 fp1 n P1 St1) (D2 : Draws prog w A.in1 i2 fp2 n P2 St2)
    (hz : IsZs s.heap z TI TO .none) (hTI : IsTupOf2 s.heap TI (.ref i1) (.ref i2)) (hTO : IsTupOf2 s.heap TO a1 a2) (s1 : St1 k s.heap) (s2 : St2 k s.heap) (lt : k < n)
    (hQ : ∀ x y h' tk, P1 k x → P2 k y → IsZs h' z TI TO (rawInt s.heap.objs.size) → IsTupOf2 h' TO x y → St1 (k + 1) h' → St2 (k + 1) h' → IsTupOf2 h' s.heap.objs.size x y → h'.objs.size = s.heap.objs.size + 1 →
      (∀ c o, c ≠ z → c ≠ TO → c ≠ i1 → c ≠ i2 → s.heap.get? c = some o → h'.get? c = some o) → Q (some (.ref s.heap.objs.size)) { s with heap := h', toks := tk }) : wpAny (model prog w) A (pyNext (.ref z)) Q E s := by
  have hT : s.TypeIs (.ref z) "zip" := ⟨_, hz, rfl⟩
  unfold pyNext
  exact wpAny_bind (wpAny_attempt (wpAny_callSpecial?_slot (name := Str.ofString "__next__") hT F.slot_zip_next
    (wpAny_call_entry F.slot_zip_next hT F.entry_zip_next (zs_item S D1 D2 hz hTI hTO s1 s2 lt fun x y h' tk b1 b2 b3 b4 b5 b6 b7 b8 b9 => wpAny_pure (hQ x y h' tk b1 b2 b3 b4 b5 b6 b7 b8 b9)) (F.args_zip_next_1 _))))
theorem next_end {Q : Option Value → Shared → Prop} (hh : A.handled = none) (S : ZipSep2 z TI TO i1 i2 fp1 fp2) (D1 : Draws prog w A.in1 i1 fp1 n P1 St1) (D2 : Draws prog w A.in1 i2 fp2 n P2 St2)
    (hz : IsZs s.heap z TI TO .none) (hTI : IsTupOf2 s.heap TI (.ref i1) (.ref i2)) (hTO : IsTupOf2 s.heap TO a1 a2) (s1 : St1 n s.heap) (s2 : St2 n s.heap)
    (hQ : ∀ h', (∀ c o, c ≠ z → c ≠ TO → c ≠ i1 → c ≠ i2 → s.heap.get? c = some o → h'.get? c = some o) → Q none { s with heap := h' }) : wpAny (model prog w) A (pyNext (.ref z)) Q E s := by
  have hT : s.TypeIs (.ref z) "zip" := ⟨_, hz, rfl⟩
  unfold pyNext
  refine wpAny_bind (wpAny_attempt (wpAny_callSpecial?_slot (name := Str.ofString "__next__") hT F.slot_zip_next
    (wpAny_call_entry F.slot_zip_next hT F.entry_zip_next (zs_end hh S D1 D2 hz hTI hTO s1 s2 fun h' e hk he => ?_) (F.args_zip_next_1 _))))
  obtain ⟨o, ho, hc⟩ := he
  refine wpAny_bind (wpAny_isInstance (T := "StopIteration") (b := true) ⟨o, ho, hc⟩ isSubtype_stop ?_)
  exact wpAny_pure (hQ _ hk)
theorem let_go {elts : List Expr} {x1} {pos : Pos} {T : Addr} {Q : Unit → Shared → Prop} (hz : IsZs s.heap z TI TO (rawInt T))
    (hQ : ∀ h', IsZs h' z TI TO .none → Heap.SameBut z s.heap h' → Q () { s with heap := h' }) : wpAny (model prog w) A (letOwnedTupleGo (.Tuple elts x1 pos) (.ref z) (.ref T)) Q E s := by
  unfold letOwnedTupleGo
  refine wpAny_bind (wpAny_load hz ?_)
  show wpAny _ _ (if (["enumerate", "zip", "dict_itemiterator", "dict_reverseitemiterator", "odict_iterator", "itertools.zip_longest", "itertools.pairwise"].contains "zip" && (#[rawInt T, .bool false, .bool true, .ref TI, .ref TO] : Array Value)[0]? == some (rawInt T)) = true then _ else _) Q E s
  rw [if_pos (by simp)]
  refine wpAny_bind (wpAny_rule ?_)
  exact wpAny_setField_rec hz (by simp) fun h' z' q' => hQ h' z' q'
theorem iter_self {f0 : Value} {Q : Value → Shared → Prop} (hz : IsZs s.heap z TI TO f0) (h : Q (.ref z) s) : wpAny (model prog w) A (pyIter (.ref z)) Q E s := by
  have hT : s.TypeIs (.ref z) "zip" := ⟨_, hz, rfl⟩
  refine wpAny_pyIter_slot hT F.slot_zip_iter (wpAny_call_entry F.slot_zip_iter hT F.entry_zip_iter ?_ (F.args_zip_iter_1 _))
  exact wpAny_pure ⟨_, rfl, "zip", _, hT, F.slot_zip_next.lookup, h⟩
/-! ### the call -/
theorem ty_call (a b c : Value) : checkTypeCall "zip" ⟨[a, b], [("strict", c)]⟩ = pure () := by kernel_rfl
theorem new_call (a b c : Value) : checkBuiltinCall "zip.__new__" ⟨[.type "zip", a, b], [("strict", c)]⟩ = pure () := by kernel_rfl
theorem init_call (obj a b c : Value) : argsOk "object.__init__" ⟨[obj, a, b], [("strict", c)]⟩ := by unfold argsOk; kernel_rfl
abbrev hT2 (h : Heap) (o1 o2 : Obj) : Heap := ((h.push o1).push o2).push { cls := .type "tuple", data := .seq #[.ref h.objs.size, .ref (h.push o1).objs.size] }
abbrev hO2 (h : Heap) (o1 o2 : Obj) : Heap := (hT2 h o1 o2).push { cls := .type "tuple", data := .seq #[.none, .none] }
abbrev hZ2 (h : Heap) (o1 o2 : Obj) : Heap := (hO2 h o1 o2).push { cls := .type "zip", data := .fields #[.none, .bool false, .bool true, .ref ((h.push o1).push o2).objs.size, .ref (hT2 h o1 o2).objs.size] }
end
theorem meets_new {v1 v2 : Value} {o1 o2 : Obj} {H1 H2 : Heap → Prop} (B1 : Begins v1 o1 H1) (B2 : Begins v2 o2 H2) :
    Meets (Builtin.«zip.__new__» ⟨[.type "zip", v1, v2], [("strict", .bool true)]⟩) (fun _ R s => (H1 s.heap ∧ H2 s.heap) ∧ R (.ok (.ret (.ref (hO2 s.heap o1 o2).objs.size))) { s with heap := hZ2 s.heap o1 o2 }) :=
  .of_wp fun prog w A R s h => by
    obtain ⟨hp, gs, dr, tk, os⟩ := s
    obtain ⟨⟨h1, h2⟩, h⟩ := h
    have hsub := sub_zip
    have e2 : (("strict" : Str) != ("strict" : Str)) = false := by decide +kernel
    have q1 : ∀ {A' : Around} {E : Value → Shared → Prop} {Q : Value → Shared → Prop}, Q (.ref hp.objs.size) ⟨hp.push o1, gs, dr, tk, os⟩ → wpAny (model prog w) A' (pyIter v1) Q E ⟨hp, gs, dr, tk, os⟩ :=
      fun q => B1.iter prog w _ _ ⟨hp, gs, dr, tk, os⟩ _ h1 q
    have q2 : ∀ {A' : Around} {E : Value → Shared → Prop} {Q : Value → Shared → Prop}, Q (.ref (hp.push o1).objs.size) ⟨(hp.push o1).push o2, gs, dr, tk, os⟩ → wpAny (model prog w) A' (pyIter v2) Q E ⟨hp.push o1, gs, dr, tk, os⟩ :=
      fun q => B2.iter prog w _ _ ⟨hp.push o1, gs, dr, tk, os⟩ _ (B2.keeps _ _ h2 fun b o' e => Heap.get?_push_of_some _ e) q
    wp_walk using q1, q2
    exact ⟨_, rfl, h⟩
section
variable {prog : Program} {w : World} {A : Around} {E : Value → Shared → Prop} {s : Shared}
theorem call_strict {v1 v2 : Value} {o1 o2 : Obj} {H1 H2 : Heap → Prop} {Q : Value → Shared → Prop} (B1 : Begins v1 o1 H1) (B2 : Begins v2 o2 H2) (h1 : H1 s.heap) (h2 : H2 s.heap)
    (h : ∀ h', IsZs h' (s.heap.objs.size + 4) (s.heap.objs.size + 2) (s.heap.objs.size + 3) .none → IsTupOf2 h' (s.heap.objs.size + 2) (.ref s.heap.objs.size) (.ref (s.heap.objs.size + 1)) →
      IsTupOf2 h' (s.heap.objs.size + 3) .none .none → h'.get? s.heap.objs.size = some o1 → h'.get? (s.heap.objs.size + 1) = some o2 → (∀ c o, s.heap.get? c = some o → h'.get? c = some o) → Q (.ref (s.heap.objs.size + 4)) { s with heap := h' }) :
    wpAny (model prog w) A (call (.type "zip") [v1, v2] [("strict", .bool true)]) Q E s := by
  refine callType_newKw F.called_zip (by decide) (ty_call _ _ _) (new_call _ _ _) (fun obj => init_call obj _ _ _) F.entry_zip_new (meets_new B1 B2) ⟨⟨h1, h2⟩, ?_⟩
  have z1 : (s.heap.push o1).objs.size = s.heap.objs.size + 1 := Heap.size_push ..
  have z2 : ((s.heap.push o1).push o2).objs.size = s.heap.objs.size + 2 := by rw [Heap.size_push, z1]
  have zT : (hT2 s.heap o1 o2).objs.size = s.heap.objs.size + 3 := by rw [Heap.size_push, z2]
  have zO : (hO2 s.heap o1 o2).objs.size = s.heap.objs.size + 4 := by rw [Heap.size_push, zT]
  have up1 : ∀ {c : Addr} {o : Obj}, (s.heap.push o1).get? c = some o → (hZ2 s.heap o1 o2).get? c = some o := fun e => Heap.get?_push_of_some _ (Heap.get?_push_of_some _ (Heap.get?_push_of_some _ (Heap.get?_push_of_some _ e)))
  have gZ : IsZs (hZ2 s.heap o1 o2) (hO2 s.heap o1 o2).objs.size ((s.heap.push o1).push o2).objs.size (hT2 s.heap o1 o2).objs.size .none := Heap.get?_push_size _ rfl
  have gO : IsTupOf2 (hZ2 s.heap o1 o2) (hT2 s.heap o1 o2).objs.size .none .none := Heap.get?_push_of_some _ (Heap.get?_push_size _ rfl)
  have gT : IsTupOf2 (hZ2 s.heap o1 o2) ((s.heap.push o1).push o2).objs.size (.ref s.heap.objs.size) (.ref (s.heap.push o1).objs.size) := Heap.get?_push_of_some _ (Heap.get?_push_of_some _ (Heap.get?_push_size _ rfl))
  have g1 : (hZ2 s.heap o1 o2).get? s.heap.objs.size = some o1 := up1 (Heap.get?_push_size _ B1.free)
  have g2 : (hZ2 s.heap o1 o2).get? (s.heap.push o1).objs.size = some o2 := Heap.get?_push_of_some _ (Heap.get?_push_of_some _ (Heap.get?_push_of_some _ (Heap.get?_push_size _ B2.free)))
  rw [zO, zT, z2] at gZ
  rw [zT] at gO
  rw [z2, z1] at gT
  rw [z1] at g2
  show _ ∧ _
  rw [zO]
  exact ⟨⟨_, gZ, rfl⟩, h _ gZ gT gO g1 g2 fun c o e => up1 (Heap.get?_push_of_some _ e)⟩
end
/-! ### over the layer -/
/-- the second source: a list or a tuple -/
structure Src (K : PySem.W.Frag) (b : Addr) where
  rd : Hp → List V → Prop
  pl : Heap → Array Value → Prop
  st : Addr → Nat → Heap → Prop
  o : Obj
  items : ∀ {X : Cx} {pins : List (Addr × Obj)} {σ : L2.St} {H : Hp} {s : Shared} {ys : List V}, X.K = K → Inv X pins σ H s → rd H ys → ∃ its : List Value, Vals ys its ∧ pl s.heap its.toArray ∧ b < s.heap.objs.size
  inj : ∀ {X : Cx} {pins : List (Addr × Obj)} {σ : L2.St} {H : Hp} {s : Shared} {ys zs : List V}, X.K = K → Inv X pins σ H s → rd H ys → rd H zs → ys = zs
  draws : ∀ {prog : Program} {w : World} {A : Around}, A.handled = none → ∀ (it : Addr), b ≠ it → ∀ its : Array Value, Draws prog w A it [it, b] its.size (fun i v => its[i]? = some v) (fun i h => st it i h ∧ pl h its)
  begins : ∀ its : Array Value, Begins (.ref b) o fun h => pl h its
  fresh : ∀ {h : Heap} {it : Addr}, h.get? it = some o → st it 0 h
  cell : ∀ {h : Heap} {it : Addr} {i : Nat}, st it i h → ∃ ob, h.get? it = some ob ∧ ∀ v, ob.data ≠ .cell v
  keep : ∀ {h h' : Heap} {it : Addr} {i : Nat}, st it i h → (∀ ob, h.get? it = some ob → h'.get? it = some ob) → st it i h'
def srcL (K : PySem.W.Frag) (b : Addr) : Src K b where
  rd := fun H ys => SqL K H b ys
  pl := fun h its => h.IsList b its
  st := fun it i h => h.IsListIter it b i
  o := { cls := .type "list_iterator", data := .fields #[.ref b, .int 0 0] }
  items := fun hK I h => by
    subst hK
    obtain ⟨its, rv, p, _⟩ := I.list h
    exact ⟨its, rv, p.isList, p.lt⟩
  inj := fun hK I h h' => by
    subst hK
    exact I.list_inj h h'
  draws := fun hh it hne its => Draws.list hh it b hne its
  begins := fun its => begins_list b its
  fresh := fun e => ⟨_, e, rfl, rfl⟩
  cell := fun h => by
    obtain ⟨ob, e, _, d⟩ := h
    exact ⟨ob, e, fun v q => by rw [d] at q; cases q⟩
  keep := fun h k => h.at k
def srcT (K : PySem.W.Frag) (b : Addr) : Src K b where
  rd := fun H ys => SqT K H b ys
  pl := fun h its => h.IsTuple b its
  st := fun it i h => h.IsTupleIter it b i
  o := { cls := .type "tuple_iterator", data := .fields #[.ref b, .int 0 0] }
  items := fun hK I h => by
    subst hK
    obtain ⟨its, rv, p, _⟩ := I.tuple h
    exact ⟨its, rv, p, p.lt⟩
  inj := fun hK I h h' => by
    subst hK
    exact I.tuple_inj h h'
  draws := fun hh it hne its => Draws.tuple hh it b hne its
  begins := fun its => begins_tuple b its
  fresh := fun e => ⟨_, e, rfl, rfl⟩
  cell := fun h => by
    obtain ⟨ob, e, _, d⟩ := h
    exact ⟨ob, e, fun v q => by rw [d] at q; cases q⟩
  keep := fun h k => h.at k
/-- the signs of x beside the items, in new pairs -/
def Itzs {K : PySem.W.Frag} {b : Addr} (x : Str) (S : Src K b) : It :=
  ⟨fun i H => ∃ (ys : List V) (y : V), S.rd H ys ∧ ys.length = x.cps.size ∧ ys[i]? = some y,
    fun i H v H' => ∃ (T : Addr) (c : Nat) (y : V), v = .ref T ∧ H T = none ∧ H' = upd H T (.tup [.str ⟨#[c]⟩, y]) ∧ x.cps[i]? = some c ∧ ∀ ys, S.rd H ys → ys[i]? = some y,
    fun i H => ∃ ys : List V, S.rd H ys ∧ ys.length = x.cps.size ∧ i = x.cps.size⟩
theorem sep5 (n b : Nat) (h : b < n) : n + 2 ≠ n + 4 ∧ n + 3 ≠ n + 4 ∧ n + 2 ≠ n + 3 ∧ n + 2 ≠ n ∧ n + 4 ∉ [n] ∧ n + 3 ∉ [n] ∧ n + 2 ≠ n + 1 ∧ n + 4 ∉ [n + 1, b] ∧ n + 3 ∉ [n + 1, b] ∧ n ∉ [n + 1, b] ∧ n + 1 ∉ [n] := by
  refine ⟨?_, ?_, ?_, ?_, ?_, ?_, ?_, ?_, ?_, ?_, ?_⟩ <;> simp <;> omega
theorem sep_of (n b : Addr) (h : b < n) : ZipSep2 (n + 4) (n + 2) (n + 3) n (n + 1) [n] [n + 1, b] := by
  obtain ⟨q1, q2, q3, q4, q5, q6, q7, q8, q9, q10, q11⟩ := sep5 n b h
  exact ⟨q1, q2, q3, q4, List.mem_cons_self, q5, q6, q7, List.mem_cons_self, q8, q9, q10, q11⟩
theorem turn_zs {P : Program} {w : World} {K : PySem.W.Frag} {elts : List Expr} {kk : Nat} {tpos : Pos} {b z TI TO i1 i2 : Addr} {x : Str} {t : Tok} (D : ZipSep2 z TI TO i1 i2 [i1] [i2, b]) (S : Src K b) (hb : b ≠ i2) :
    Turn P w K (.Tuple elts kk tpos) (Itzs x S) [z, TI, TO, i1, i2] z (fun i h => IsZs h z TI TO .none ∧ IsTupOf2 h TI (.ref i1) (.ref i2) ∧ (∃ p q, IsTupOf2 h TO p q) ∧ h.IsStrIter i1 (strIterType x) x t i ∧ S.st i2 i h) where
  mem := by simp
  obj := fun i h st c hc => by
    obtain ⟨hz, hTI, ⟨p, q, hTO⟩, ⟨o1, e1, _, d1⟩, h2⟩ := st
    have e' : c = z ∨ c = TI ∨ c = TO ∨ c = i1 ∨ c = i2 := by simpa using hc
    rcases e' with e | e | e | e | e <;> subst e
    · exact ⟨_, hz, fun v q => nomatch q⟩
    · exact ⟨_, hTI, fun v q => nomatch q⟩
    · exact ⟨_, hTO, fun v q => nomatch q⟩
    · exact ⟨o1, e1, fun v q => by rw [d1] at q; cases q⟩
    · exact S.cell h2
  keep := fun i h h' st k => by
    obtain ⟨hz, hTI, ⟨p, q, hTO⟩, ⟨o1, e1, r1⟩, h2⟩ := st
    exact ⟨k z (by simp) _ hz, k TI (by simp) _ hTI, ⟨p, q, k TO (by simp) _ hTO⟩, ⟨o1, k i1 (by simp) _ e1, r1⟩, S.keep h2 fun o e => k i2 (by simp) o e⟩
  item := by
    intro X hP hw hK hc i pins s σ H E I hf st hg
    subst hP hw
    obtain ⟨hz, hTI, ⟨p0, q0, hTO⟩, h1, h2⟩ := st
    obtain ⟨ys, y, hr, hl, hy⟩ := hg
    obtain ⟨its, rv, pl, hlt⟩ := S.items hK I hr
    have li : i < ys.length := (List.getElem?_eq_some_iff.mp hy).1
    have hsz : its.toArray.size = x.cps.size := by rw [List.size_toArray, ← rv.length, hl]
    have hzl : z < s.heap.objs.size := Heap.lt_size hz
    have D1 := Draws.text (prog := X.prog) (w := X.w) (A := X.A.in1) (show X.A.in1.handled = none from I.ok.hd hc) i1 x t
    have D2 := S.draws (prog := X.prog) (w := X.w) (A := X.A.in1) (show X.A.in1.handled = none from I.ok.hd hc) i2 hb its.toArray
    rw [hsz] at D2
    refine next_item D D1 D2 hz hTI hTO h1 ⟨h2, pl⟩ (by omega) fun u1 u2 h' tk p1 p2 z' TO' s1' s2' hT hs hk => ?_
    obtain ⟨c, tc, hcp, rfl⟩ := p1
    obtain ⟨u, hu, ru⟩ := rv.get hy
    have eu : u2 = u := by
      have q2 : its[i]? = some u2 := by simpa using p2
      rw [hu] at q2
      exact (Option.some.inj q2).symm
    subst eu
    refine ⟨_, rfl, let_go (s := { s with heap := h', toks := tk }) z' fun h'' z'' sb => ?_⟩
    have hT2 : h''.get? s.heap.objs.size = some { cls := .type "tuple", data := .seq #[.str ⟨#[c]⟩ tc, u2] } := (sb.2 _ (Nat.ne_of_gt hzl)).trans hT
    have new : ObjOk X.prog X.w (upd H s.heap.objs.size (.tup [.str ⟨#[c]⟩, y])) h'' s.heap.objs.size (.tup [.str ⟨#[c]⟩, y]) :=
      ⟨by show 2 ≤ sizeLine; decide, [.str ⟨#[c]⟩ tc, u2], .cons ⟨tc, rfl⟩ (.cons ru .nil), ⟨_, hT2, rfl, _, rfl⟩⟩
    have I1 : Inv X pins σ (upd H s.heap.objs.size (.tup [.str ⟨#[c]⟩, y])) { s with heap := h'', toks := tk } :=
      I.turnedNew (t' := tk) (ch := [z, TI, TO, i1, i2]) (fun c' o hb' q => (sb.2 c' (fun q' => hb' (by simp [q']))).trans (hk c' o (fun q' => hb' (by simp [q'])) (fun q' => hb' (by simp [q'])) (fun q' => hb' (by simp [q'])) (fun q' => hb' (by simp [q'])) q)) hf (Nat.le_refl _) new
    refine ⟨.ref s.heap.objs.size, _, I1, rfl, ⟨_, c, y, rfl, I.hok.fresh (Nat.le_refl _), rfl, hcp, fun zs hzs => by rw [S.inj hK I hzs hr]; exact hy⟩, ⟨z'', ?_, ⟨.str ⟨#[c]⟩ tc, u2, ?_⟩, ?_, ?_⟩, fun c' hcm => ?_⟩
    · exact (sb.2 _ D.TIz).trans (hk _ _ D.TIz D.TITO D.TIi1 D.TIi2 hTI)
    · exact (sb.2 _ D.TOz).trans TO'
    · obtain ⟨o1, e1, r1⟩ := s1'
      exact ⟨o1, (sb.2 _ D.zi1.symm).trans e1, r1⟩
    · exact S.keep s2'.1 fun o e => (sb.2 _ D.zi2.symm).trans e
    · have hlt' : c' < s.heap.objs.size := by
        have e' : c' = z ∨ c' = TI ∨ c' = TO ∨ c' = i1 ∨ c' = i2 := by simpa using hcm
        rcases e' with q | q | q | q | q <;> subst q
        · exact hzl
        · exact Heap.lt_size hTI
        · exact Heap.lt_size hTO
        · obtain ⟨_, e1, _⟩ := h1
          exact Heap.lt_size e1
        · obtain ⟨_, e2, _⟩ := S.cell h2
          exact Heap.lt_size e2
      rw [upd_ne (Nat.ne_of_lt hlt')]
      exact (hf c' hcm).1
  done := by
    intro X hP hw hK hc i pins s σ H E I hf st hg
    subst hP hw
    obtain ⟨hz, hTI, ⟨p0, q0, hTO⟩, h1, h2⟩ := st
    obtain ⟨ys, hr, hl, hi⟩ := hg
    obtain ⟨its, rv, pl, hlt⟩ := S.items hK I hr
    have hsz : its.toArray.size = x.cps.size := by rw [List.size_toArray, ← rv.length, hl]
    have D1 := Draws.text (prog := X.prog) (w := X.w) (A := X.A.in1) (show X.A.in1.handled = none from I.ok.hd hc) i1 x t
    have D2 := S.draws (prog := X.prog) (w := X.w) (A := X.A.in1) (show X.A.in1.handled = none from I.ok.hd hc) i2 hb its.toArray
    rw [hsz] at D2
    subst hi
    exact next_end (I.ok.hd hc) D D1 D2 hz hTI hTO h1 ⟨h2, pl⟩ fun h' hk => ⟨rfl, I.turnedL (t' := s.toks) (ch := [z, TI, TO, i1, i2]) (fun c o hb' q =>
      hk c o (fun q' => hb' (by simp [q'])) (fun q' => hb' (by simp [q'])) (fun q' => hb' (by simp [q'])) (fun q' => hb' (by simp [q'])) q) hf⟩
  self := fun A i s Q E st h => iter_self st.1 h
def iZs {K : PySem.W.Frag} (mk : (b : Addr) → Src K b) (ta tb : TE) : TI := fun σ H R => ta σ H fun v H1 => tb σ H1 fun u H2 => ∃ (x : Str) (b : Addr) (ys : List V), v = .str x ∧ u = .ref b ∧ (mk b).rd H2 ys ∧ R (Itzs x (mk b)) H2
theorem cw_ty {M : Model} {A : Around} {E : Value → Shared → Prop} {s : Shared} {env : Env} {pos : Pos} {T : String} {e : Expr} {rest : List Expr} {kws : List Keyword} {Q : Value → Shared → Prop}
    (h : wpAny M A (spliced (backTo pos (starEach (e :: rest) env))) (fun vs s1 => wpAny M A (evalAll ((backToKw pos (keywordEach kws env)).map (·.2))) (fun ks s2 => wpAny M A (call (.type T) vs (((backToKw pos (keywordEach kws env)).filterMap (·.1)).zip ks)) Q E s2) E s1) E s)
    (he : backTo pos (starEach (e :: rest) env) = (false, eval e env) :: backTo pos (starEach rest env) := by rfl) (hp : (backTo pos (starEach (e :: rest) env)).any (·.1) = false := by rfl)
    (ha : (backToKw pos (keywordEach kws env)).all (·.1.isSome) = true := by rfl) (hk : (backToKw pos (keywordEach kws env)).any (·.1.isNone) = false := by rfl) :
    wpAny M A (callWith pos (.type T) [] (backTo pos (starEach (e :: rest) env)) (backToKw pos (keywordEach kws env))) Q E s := by
  have key : wpAny M A (evalArgs (.type T) true (backTo pos (starEach (e :: rest) env)) (backToKw pos (keywordEach kws env))) (fun a s1 => wpAny M A (call (.type T) ([] ++ a.pos) a.kw) Q E s1) E s := by
    rw [he] at h ⊢
    exact evalArgs_kwB ha h
  unfold callWith
  refine wpAny_bind (wpAny_holding (wpAny_mono key (fun a s1 h1 => wpAny_bind (wpAny_standAt ?_)) fun _ _ x => x))
  simp only [hp, hk, Bool.or_false]
  refine wpAny_bind (wpAny_pure ?_)
  exact wpAny_bind (wpAny_mono h1 (fun r s2 hr => wpAny_bind (wpAny_holding (wpAny_point (wpAny_pure hr)))) fun _ _ x => x)
theorem pi_zs {X : Cx} {e e2 : Expr} {ta tb : TE} {p pos tpos kp : Pos} {elts : List Expr} {kk : Nat} {ki : Nat} {kpos : Pos} (mk : (b : Addr) → Src X.K b) (hg : Gl X "zip") (hm : X.mg "zip" = none) (ha : PE X e ta) (hb : PE X e2 tb)
    (he : backTo pos (starEach [e, e2] X.env) = (false, eval e X.env) :: backTo pos (starEach [e2] X.env) := by rfl) (hp : (backTo pos (starEach [e, e2] X.env)).any (·.1) = false := by rfl) (hs : starEach [e, e2] X.env = (false, eval e X.env) :: starEach [e2] X.env := by rfl) (hs2 : starEach [e2] X.env = (false, eval e2 X.env) :: starEach [] X.env := by rfl) :
    PI X (.Tuple elts kk tpos) (.Call (.Name "zip" p) [e, e2] [⟨some "strict", .Constant (.bool true) ki kpos, kp⟩] pos) (iZs mk ta tb) := by
  refine ⟨fun pins s σ H R I h => ?_⟩
  refine wpAny_Call_Name_kw (ld_blt I hg hm PyProof.Rows.boot_zip ?_)
  refine cw_ty (thn ((pa_cons ha (pa_cons hb pa_nil hs2) hs).run pos pins s σ H (fun vs H2 => ∃ (v u : V), vs = [v, u] ∧ ∃ (x : Str) (b : Addr) (ys : List V), v = .str x ∧ u = .ref b ∧ (mk b).rd H2 ys ∧ R (Itzs x (mk b)) H2) I ?_) fun us s1 ⟨vs, H1, I1, r1, q1⟩ => ?_) he hp
  · show ta σ H fun v H1 => tb σ H1 fun u H2 => _
    have e0 : (fun (v : V) (H1 : Hp) => tb σ H1 fun u H2 => tNil σ H2 fun vs H3 => ∃ (v' u' : V), v :: u :: vs = [v', u'] ∧ ∃ (x : Str) (b : Addr) (ys : List V), v' = .str x ∧ u' = .ref b ∧ (mk b).rd H3 ys ∧ R (Itzs x (mk b)) H3) = fun v H1 => tb σ H1 fun u H2 => ∃ (x : Str) (b : Addr) (ys : List V), v = .str x ∧ u = .ref b ∧ (mk b).rd H2 ys ∧ R (Itzs x (mk b)) H2 := by
      funext v H1
      congr 1
      funext u H2
      apply propext
      constructor
      · rintro ⟨v', u', e, h⟩
        simp only [List.cons.injEq, and_true] at e
        obtain ⟨rfl, rfl⟩ := e
        exact h
      · intro h
        exact ⟨v, u, rfl, h⟩
    show ta σ H (fun (v : V) (H1 : Hp) => tb σ H1 fun u H2 => tNil σ H2 fun vs H3 => ∃ (v' u' : V), v :: u :: vs = [v', u'] ∧ ∃ (x : Str) (b : Addr) (ys : List V), v' = .str x ∧ u' = .ref b ∧ (mk b).rd H3 ys ∧ R (Itzs x (mk b)) H3)
    rw [e0]
    exact h
  · obtain ⟨v, u, rfl, x, b, ys, rfl, rfl, hr, q⟩ := q1
    obtain ⟨u1, u2, rfl, r2, r3⟩ := vals2 r1
    obtain ⟨t, rfl⟩ := r2
    cases r3
    refine PyProof.Rows.kws_cons (Constant_bool (PyProof.Rows.kws_nil ?_))
    obtain ⟨its, rv, pl, hlt⟩ := (mk b).items rfl I1 hr
    show wpAny _ _ (call (.type "zip") [.str x t, .ref b] [("strict", .bool true)]) _ _ _
    refine call_strict (begins_text x t) ((mk b).begins its.toArray) trivial pl fun h' hz hTI hTO g1 g2 hk => iter_self hz ?_
    have I2 : Inv X pins σ H1 { s1 with heap := h' } := I1.kept (t' := s1.toks) hk
    refine ⟨s1.heap.objs.size + 4, [s1.heap.objs.size + 4, s1.heap.objs.size + 2, s1.heap.objs.size + 3, s1.heap.objs.size, s1.heap.objs.size + 1], _, _, H1, rfl, I2, turn_zs (x := x) (t := t) (sep_of s1.heap.objs.size b hlt) (mk b) (Nat.ne_of_lt (Nat.lt_succ_of_lt hlt)),
      ⟨hz, hTI, ⟨_, _, hTO⟩, ⟨_, g1, rfl, rfl⟩, (mk b).fresh g2⟩, fun c hcm => ?_, q⟩
    have e' : c = s1.heap.objs.size + 4 ∨ c = s1.heap.objs.size + 2 ∨ c = s1.heap.objs.size + 3 ∨ c = s1.heap.objs.size ∨ c = s1.heap.objs.size + 1 := by simpa using hcm
    have hle : s1.heap.objs.size ≤ c := by
      rcases e' with z | z | z | z | z <;> subst z
      · exact Nat.le_add_right _ _
      · exact Nat.le_add_right _ _
      · exact Nat.le_add_right _ _
      · exact Nat.le_refl _
      · exact Nat.le_add_right _ _
    exact I1.fpOk hle (I1.hok.fresh hle)
end K37Z
set_option Elab.async false
set_option maxRecDepth 100000
set_option maxHeartbeats 4000000
/-! sorted(d), d a dict whose keys are pairs (int, text) -/
namespace K37S
open PySem PySem.Spec PyProof.Rows L2 SrtO
/-! ### the order -/
theorem lt_asym (a b : List Nat) (h : a < b) : ¬ b < a := List.lt_asymm h
theorem lt_tr (a b c : List Nat) (h1 : ¬ b < a) (h2 : ¬ c < b) : ¬ c < a := by
  rw [List.not_lt] at h1 h2 ⊢
  exact List.le_trans h1 h2
def lexIS (p q : Int × PySem.Str) : Bool := if p.1 = q.1 then decide (p.2.cps.toList < q.2.cps.toList) else decide (p.1 < q.1)
theorem lexIS_iff {p q : Int × PySem.Str} : lexIS p q = true ↔ p.1 < q.1 ∨ (p.1 = q.1 ∧ p.2.cps.toList < q.2.cps.toList) := by
  unfold lexIS
  by_cases e : p.1 = q.1
  · rw [if_pos e, decide_eq_true_eq]
    constructor
    · exact fun h => .inr ⟨e, h⟩
    · rintro (h | h)
      · omega
      · exact h.2
  · rw [if_neg e, decide_eq_true_eq]
    constructor
    · exact .inl
    · rintro (h | h)
      · exact h
      · exact absurd h.1 e
theorem lexIS_no {p q : Int × PySem.Str} : lexIS p q = false ↔ ¬ (p.1 < q.1 ∨ (p.1 = q.1 ∧ p.2.cps.toList < q.2.cps.toList)) := by
  rw [← lexIS_iff]
  cases lexIS p q <;> simp
theorem swo_is (k : Value → Int × PySem.Str) : Swo fun v u => lexIS (k v) (k u) := by
  refine ⟨fun x y h => ?_, fun x y z h1 h2 => ?_⟩
  · refine lexIS_no.mpr ?_
    rcases lexIS_iff.mp h with a | ⟨a, b⟩
    · omega
    · rintro (c | ⟨_, c⟩)
      · omega
      · exact lt_asym _ _ b c
  · have a := lexIS_no.mp h1
    have b := lexIS_no.mp h2
    refine lexIS_no.mpr ?_
    rintro (c | ⟨c, d⟩)
    · omega
    · have e1 : (k y).1 = (k x).1 := by omega
      have e2 : (k z).1 = (k y).1 := by omega
      exact lt_tr _ _ _ (fun q => a (.inr ⟨e1, q⟩)) (fun q => b (.inr ⟨e2, q⟩)) d
/-! ### the machine's comparison -/
def IsIS (h : Heap) (v : Value) (x : Int) (y : PySem.Str) : Prop := ∃ a o t u n, v = .ref a ∧ h.get? a = some o ∧ o.cls = .type "tuple" ∧ o.data = .seq #[.int x t, .str y u] n
theorem IsIS.keeps {h h' : Heap} {v : Value} {x : Int} {y : PySem.Str} (p : IsIS h v x y) (k : ∀ b o, h.get? b = some o → o.cls = .type "tuple" → h'.get? b = some o) : IsIS h' v x y := by
  obtain ⟨a, o, t, u, n, e, ho, hc, hd⟩ := p
  exact ⟨a, o, t, u, n, e, k _ _ ho hc, hc, hd⟩
theorem firsts_is {h : Heap} : ∀ {vs : List Value}, (∀ v ∈ vs, ∃ x y, IsIS h v x y) → ∃ fs : List Value, PySem.W.KatTups h vs fs ∧ fs.length = vs.length ∧ ∀ f ∈ fs, ∃ x t, f = Value.int x t
  | [], _ => ⟨[], PySem.W.KatTups.nil, rfl, fun _ hm => by simp at hm⟩
  | v :: vs, hp => by
    obtain ⟨fs, h1, h2, h3⟩ := firsts_is (vs := vs) fun v' hm => hp v' (List.mem_cons_of_mem _ hm)
    obtain ⟨x, y, a, o, t, u, n, e, ho, hc, hd⟩ := hp v (List.mem_cons_self ..)
    subst e
    refine ⟨.int x t :: fs, PySem.W.KatTups.cons ho hc hd rfl h1, by rw [List.length_cons, List.length_cons, h2], ?_⟩
    intro f hm
    rcases List.mem_cons.mp hm with rfl | hm
    · exact ⟨x, t, rfl⟩
    · exact h3 f hm
section
variable {prog : Program} {w : World} {A : Around} {E : Value → Shared → Prop} {s : Shared}
theorem is_cmp {vs : List Value} {k : Value → Int × PySem.Str} (hp : ∀ v ∈ vs, IsIS s.heap v (k v).1 (k v).2) : Cmp prog w A s (tuples' true) (fun p => p.1 ∈ vs) (lt2 fun v u => lexIS (k v) (k u)) := by
  intro p q hm hm'
  have h1 := hp _ hm
  have h2 := hp _ hm'
  show wpAny (model prog w) A (keyLt' (tuples' true) p.1 q.1) (fun r s' => s' = s ∧ r = lexIS (k p.1) (k q.1)) (fun _ _ => False) s
  unfold lexIS
  generalize (k p.1).1 = x at h1 ⊢
  generalize (k p.1).2 = y at h1 ⊢
  generalize (k q.1).1 = x' at h2 ⊢
  generalize (k q.1).2 = y' at h2 ⊢
  obtain ⟨a, o, t, u, n, e, ho, hc, hd⟩ := h1
  obtain ⟨a', o', t', u', n', e', ho', hc', hd'⟩ := h2
  rw [e, e']
  refine PySem.W.kat_lt ho hd ho' hd' ?_
  show PySem.W.KatLex prog w A true (decide (2 < 2)) _ [(.int x t, .int x' t'), (.str y u, .str y' u')] 0 s
  refine PySem.W.kat_cons (SeqAt.EqAt.int_int x t x' t' prog w _ _ ?_)
  refine PySem.W.kat_go (fun e1 => ?_) (fun e1 => ?_)
  · have ex : x = x' := by simpa using e1
    rw [if_pos ex]
    refine PySem.W.kat_yes (PySem.W.kat_cons (wpAny_eqBool_str ?_))
    refine PySem.W.kat_go (fun e2 => ?_) (fun e2 => ?_)
    · have ey : y = y' := of_decide_eq_true e2
      subst ey
      exact PySem.W.kat_yes (PySem.W.kat_nil ⟨rfl, (decide_eq_false fun q => lt_asym _ _ q q).symm⟩)
    · refine PySem.W.kat_no (PySem.W.kat_one _ _ (PyProof.Rows.lt_str ?_))
      exact ⟨rfl, rfl⟩
  · have ex : ¬ x = x' := by simpa using e1
    rw [if_neg ex]
    exact PySem.W.kat_no (oneLt_int ⟨rfl, rfl⟩)
theorem is_sortable {a : Addr} {vs : List Value} {k : Value → Int × PySem.Str} (h0 : 0 < vs.length) (hp : ∀ v ∈ vs, IsIS s.heap v (k v).1 (k v).2) (ha : ∀ o, s.heap.get? a = some o → o.cls ≠ .type "tuple") : SortableO prog w A s a vs fun v u => lexIS (k v) (k u) := by
  intro h' keep
  have hp' : ∀ v ∈ vs, IsIS h' v (k v).1 (k v).2 := fun v hm => (hp v hm).keeps fun b o e c => keep b o (fun z => by subst z; exact ha o e c) e
  obtain ⟨fs, h1, h2, h3⟩ := firsts_is fun v hm => ⟨_, _, hp' v hm⟩
  refine ⟨tuples' true, fun Q E hq => ?_, is_cmp hp'⟩
  refine PySem.W.kat_kind (T := .type "int") h1 (by omega) (fun f hm => ?_) (by rfl) ?_
  · obtain ⟨x, t, rfl⟩ := h3 f hm
    exact PySem.W.Looks.now
  · have e : (Value.type "int" != Value.type "tuple") = true := by decide +kernel
    rw [e]
    exact hq
end
/-! ### over the layer -/
/-- the pair that a key's tuple holds -/
def isOf (H : Hp) (v : Value) : Int × PySem.Str := match v with
  | .ref a => (match H a with
    | some (.tup [.int i, .str x]) => (i, x)
    | _ => (0, ⟨#[]⟩))
  | _ => (0, ⟨#[]⟩)
def rSortIS : List V → Hp → VK → Prop := fun xs H Q => ∃ (d : Addr) (kvs : List (List Key × V)) (ks : List (Int × PySem.Str)), xs = [V.ref d] ∧ Rd H d (.dT kvs) ∧ kvs.map (·.1) = ks.map (fun k => ([.inl k.1, .inr k.2] : List Key)) ∧
  ∀ (bs : List Addr) (js : List (Int × PySem.Str)) (p : Addr), js.Perm ks → Paired (fun b j => H b = some (.tup [.int j.1, .str j.2])) bs js → H p = none → Q (.ref p) (upd H p (.lst (bs.map V.ref)))
theorem pair_of {H : Hp} : ∀ {bs : List Addr}, (∀ b ∈ bs, ∃ i x, H b = some (.tup [.int i, .str x])) → Paired (fun b j => H b = some (.tup [.int j.1, .str j.2])) bs (bs.map fun b => isOf H (.ref b))
  | [], _ => .nil
  | b :: bs, h => by
    refine .cons ?_ (pair_of fun c hc => h c (List.mem_cons_of_mem _ hc))
    obtain ⟨i, x, e⟩ := h b (List.mem_cons_self ..)
    have e2 : isOf H (.ref b) = (i, x) := by
      unfold isOf
      simp only [e]
    show H b = some (.tup [.int (isOf H (.ref b)).1, .str (isOf H (.ref b)).2])
    rw [e2]
    exact e
theorem keys_at {H : Hp} : ∀ {kvs : List (List Key × V)} {xs : List (List Key × Addr × Value)} {ks : List (Int × PySem.Str)}, Paired (fun (p : List Key × V) (q : List Key × Addr × Value) => p.1 = q.1 ∧ H q.2.1 = some (.tup (p.1.map kV)) ∧ RelV p.2 q.2.2) kvs xs →
    kvs.map (·.1) = ks.map (fun k => ([.inl k.1, .inr k.2] : List Key)) → (∀ b ∈ xs.map (fun x => x.2.1), ∃ i x, H b = some (.tup [.int i, .str x])) ∧ (xs.map fun x => x.2.1).map (fun b => isOf H (.ref b)) = ks
  | _, _, [], .nil, _ => ⟨fun b hb => (by simp at hb), rfl⟩
  | _, _, _ :: _, .nil, h => by simp at h
  | _, _, [], .cons _ _, h => by simp at h
  | _, _, k :: ks, .cons (a := a) (b := b) r t, h => by
    rw [List.map_cons, List.map_cons] at h
    injection h with h1 h2
    obtain ⟨i1, i2⟩ := keys_at t h2
    have e : H b.2.1 = some (.tup [.int k.1, .str k.2]) := by
      have e1 := r.2.1
      rw [h1] at e1
      exact e1
    have e2 : isOf H (.ref b.2.1) = k := by
      unfold isOf
      simp only [e]
    refine ⟨fun c hc => ?_, ?_⟩
    · rcases List.mem_cons.mp hc with rfl | hc
      · exact ⟨_, _, e⟩
      · exact i1 c hc
    · show isOf H (.ref b.2.1) :: _ = _
      rw [e2]
      exact congrArg (k :: ·) i2
def unref : Value → Addr
  | .ref a => a
  | _ => 0
theorem refs_perm {out : List Value} {bs : List Addr} (h : out.Perm (bs.map Value.ref)) : out = (out.map unref).map Value.ref ∧ (out.map unref).Perm bs := by
  constructor
  · rw [List.map_map]
    have : ∀ v ∈ out, (Value.ref ∘ unref) v = v := fun v hv => by
      obtain ⟨b, _, e⟩ := List.mem_map.mp (h.mem_iff.mp hv)
      subst e
      rfl
    exact ((List.map_congr_left this).trans (List.map_id' out)).symm
  · have h2 := h.map unref
    rw [List.map_map] at h2
    have e : bs.map (unref ∘ Value.ref) = bs := List.map_id'' (fun _ => rfl) bs
    rw [e] at h2
    exact h2
theorem call_sortedIS {X : Cx} (hc : X.calm = true) : CallR X (.builtin "sorted") rSortIS := by
  intro pins s σ H xs us Q I r h
  obtain ⟨d, kvs, ks, rfl, hd, hks, q⟩ := h
  obtain ⟨u, rfl, rx⟩ := vals1 r
  cases rx
  obtain ⟨z, lo, xs, pr, o, es, ep, ho, hx, hdt, he, hn⟩ := (show ObjOk X.prog X.w H s.heap d (.dT kvs) from hd.ok I.hok)
  have l1 : es.size = xs.length := size_of_entries he
  have l2 : kvs.length = xs.length := Paired.length pr
  have l3 : kvs.length = ks.length := by
    have e := congrArg List.length hks
    rw [List.length_map, List.length_map] at e
    exact e
  refine Calls.call_function_entry kind_sorted plain_sorted entry_sorted (args_sorted1 _) ?_
  unfold Builtin.«sorted»
  refine wpAny_bind (m := checkCount "sorted" 1 1 _) (wpAny_pure ?_)
  refine wpAny_bind (PySem.W.kdu_collect (A := X.A.in1) (kdl_raw lo hx hdt) (I.ok.hd hc) ho (by omega) fun h' tk acc kp it => ?_)
  -- what came: the keys' tuples
  have ea : acc.toList = (xs.map fun x => x.2.1).map Value.ref := by
    have hl : acc.toList.length = xs.length := by rw [Array.length_toList, it.1]; exact l1
    apply List.ext_getElem?
    intro j
    rw [List.map_map, List.getElem?_map]
    cases hj : acc.toList[j]? with
    | none =>
      have h1 := List.getElem?_eq_none_iff.mp hj
      rw [List.getElem?_eq_none (by omega)]
      rfl
    | some v =>
      obtain ⟨en, hen, hv⟩ := it.2 j v (by rw [← Array.getElem?_toList]; exact hj)
      have qe := entry_at he j
      rw [hen] at qe
      cases hb : xs[j]? with
      | none =>
        rw [hb] at qe
        exact nomatch (show some en = none from qe)
      | some b =>
        rw [hb] at qe
        have e2 : en = entryOfKey (tupleKind (mixKind X.prog X.w)) b := Option.some.inj qe
        rw [hv, e2]
        rfl
  obtain ⟨kb, kk⟩ := keys_at pr hks
  have I1 : Inv X pins σ H { s with heap := h', toks := tk } := I.kept kp
  have hal : acc.toList.length = ks.length := by rw [ea, List.length_map, List.length_map]; omega
  refine wpAny_bind (wpAny_newList ?_ (by rw [hal]; omega))
  have hoL : (h'.push (seqObj "list" acc.toList.toArray 0)).get? h'.objs.size = some (seqObj "list" acc.toList.toArray 0) := Heap.get?_push_size _ rfl
  show wpAny _ _ _ _ _ { s with heap := h'.push (seqObj "list" acc.toList.toArray 0), toks := tk }
  have isk : ∀ v ∈ acc.toList, IsIS (h'.push (seqObj "list" acc.toList.toArray 0)) v (isOf H v).1 (isOf H v).2 := by
    intro v hv
    rw [ea] at hv
    obtain ⟨b, hb, rfl⟩ := List.mem_map.mp hv
    obtain ⟨i, x, e⟩ := kb b hb
    have e2 : isOf H (.ref b) = (i, x) := by
      unfold isOf
      simp only [e]
    rw [e2]
    obtain ⟨_, its, rv, ob, eo, ec, n, ed⟩ := (show ObjOk X.prog X.w H h' b (.tup [.int i, .str x]) from I1.hok b _ e)
    cases rv with
    | cons r1 rv =>
      cases rv with
      | cons r2 rv =>
        cases rv
        obtain ⟨t1, rfl⟩ := r1
        obtain ⟨t2, rfl⟩ := r2
        exact ⟨b, ob, t1, t2, n, rfl, Heap.get?_push_of_some _ eo, ec, ed⟩
  refine wpAny_bind (wpAny_holding (wpAny_call_entry slot_list_sort ⟨_, hoL, rfl⟩ entry_list_sort
    (list_sort_ord (s := { s with heap := h'.push (seqObj "list" acc.toList.toArray 0), toks := tk }) (swo_is (isOf H)) hoL (by rw [hal]; omega) (fun h2 => is_sortable (by omega) isk fun o' e' => ?_) fun out hs hb => ⟨_, rfl, ?_⟩) (args_list_sort _)))
  · have e2 : some o' = some (seqObj "list" acc.toList.toArray 0) := e'.symm.trans hoL
    cases e2
    intro c
    exact absurd (Value.type.inj c) (by decide)
  · have hp := hb.perm
    rw [ea] at hp
    obtain ⟨g1, g2⟩ := refs_perm hp
    obtain ⟨e', he'⟩ := PyProof.Rows.sortedHeap_at (vs := acc.toList) (out := out.toArray) hoL
    have hlo : ((out.map unref).map V.ref).length ≤ sizeLine := by
      rw [List.length_map, g2.length_eq, List.length_map]
      omega
    have rv : Vals ((out.map unref).map V.ref) out := by
      have := vals_refs (out.map unref)
      rw [← g1] at this
      exact this
    refine wpAny_pure ⟨_, rfl, .ref h'.objs.size, upd H h'.objs.size (.lst ((out.map unref).map V.ref)), I1.laid (t' := tk) (fun b u e => ?_) (Nat.le_refl _) ⟨hlo, out, e', rv, he'⟩, rfl, q _ ((out.map unref).map fun b => isOf H (.ref b)) _ ?_ (pair_of fun b hb' => kb b (g2.mem_iff.mp hb')) (I1.hok.fresh (Nat.le_refl _))⟩
    · have hlt : b < h'.objs.size := Heap.lt_size e
      rw [PyProof.Rows.sortedHeap_old (Nat.ne_of_lt hlt) (by rw [size_push']; exact Nat.lt_succ_of_lt hlt)]
      exact Heap.get?_push_of_some _ e
    · rw [← kk]
      exact g2.map _
end K37S
set_option Elab.async false
set_option linter.all false
set_option maxRecDepth 100000
set_option maxHeartbeats 4000000
namespace K37R
open PySem PySem.Spec PyProof.Rows L2
open C8 (Cal Met Mak CalAt pe_c pe_mt pe_mt0 pe_mk pe_gc tCut pss_cut)
/-! ### head, *things = a tuple -/
section
variable {prog : Program} {w : World} {A : Around} {E : Value → Shared → Prop} {s : Shared}
theorem unp_tail {l : Addr} {x : Value} {its : List Value} {Q : List Value → Shared → Prop} (hl : IsTup s.heap l (x :: its).toArray) (hh : A.handled = none) (hz : its.length ≤ 1000)
    (h : ∀ (h2 : Heap) tk, (∀ b o, s.heap.get? b = some o → h2.get? b = some o) → Q [x, .ref h2.objs.size] { s with heap := h2.push { cls := .type "list", data := .seq its.toArray }, toks := tk }) :
    wpAny (model prog w) A (unpackItems (.ref l) 2 (some 1)) Q E s := by
  have hll : l < s.heap.objs.size := hl.lt
  have hne : l ≠ s.heap.objs.size := Nat.ne_of_lt hll
  have hsz : (x :: its).toArray.size = its.length + 1 := by simp
  unfold unpackItems
  refine wpAny_bind ?_
  unfold notIterableAtAll
  refine wpAny_bind (wpAny_specialOf hl.typeIs slot_tuple_iter.lookup (wpAny_pure ?_))
  simp only [Bool.false_eq_true, if_false]
  refine wpAny_bind (wpAny_holding (iter_tuple hl ?_))
  refine wpAny_bind (wpAny_holding (draw_tuple hne 1 0 _ _ ⟨_, Heap.get?_push_size _ rfl, rfl, rfl⟩ (hl.push _) (by omega) fun h1 it1 q1 => ?_))
  have l1 : IsTup h1 l (x :: its).toArray := (hl.push _).extBut q1.extBut hne
  rw [Nat.zero_add] at it1
  obtain ⟨oi, hoi, _⟩ := id it1
  obtain ⟨ol, hol, _⟩ := id l1
  rw [List.drop_zero]
  have ht : (x :: its).toArray.toList.take 1 = [x] := by simp
  rw [ht]
  rw [if_neg (show ¬ (([x] : List Value).length < 1) by simp)]
  refine wpAny_bind (wpAny_holding (PySem.W.kun_collect (s := { s with heap := h1 }) (T := "tuple_iterator") (.inr (.inr (.inr rfl))) (Walks.tuple (A := A.in1) hh s.heap.objs.size l hne (x :: its).toArray) (fun j u st => st.1.typeIs) (k := 1) (by omega) ⟨it1, l1⟩ (Heap.lt_size hoi) (Heap.lt_size hol) (fun h2 tk hk => ?_) (by rw [hsz, sizeLine_eq]; omega)))
  have hd : (x :: its).toArray.toList.drop 1 = its := by simp
  rw [hd]
  show wpAny _ _ (if its.length < 2 - 1 - 1 then _ else _) _ _ _
  rw [if_neg (by omega)]
  show wpAny _ _ (newList (its.take (its.length - (2 - 1 - 1))) >>= fun d => pure ([x] ++ [d] ++ its.drop (its.length - (2 - 1 - 1)))) _ _ _
  have e1 : its.take (its.length - (2 - 1 - 1)) = its := List.take_of_length_le (by omega)
  have e2 : its.drop (its.length - (2 - 1 - 1)) = [] := List.drop_eq_nil_of_le (by omega)
  rw [e1, e2]
  refine wpAny_bind (wpAny_newList (wpAny_pure ?_) (by rw [sizeLine_eq]; omega))
  exact h h2 tk fun b o e => hk b o (Nat.ne_of_lt (Heap.lt_size e)) (q1.extBut b o (Nat.ne_of_lt (Heap.lt_size e)) (Heap.get?_push_of_some _ e))
end
def gStar (K : PySem.W.Frag) (t : TGs) : TG := fun v σ H Q => ∃ a x xs, v = .ref a ∧ SqT K H a (x :: xs) ∧ xs.length ≤ 1000 ∧ ∀ D, H D = none → t [x, .ref D] σ (upd H D (.lst xs)) Q
theorem pg_star {X : Cx} {e1 e2 : Expr} {k : Nat} {pos p2 : Pos} {t : TGs} (hc : X.calm = true) (h : PGs X [e1, e2] t) (he : (assignEach [e1, .Starred e2 p2] X.env).map (·.2) = (assignEach [e1, e2] X.env).map (·.2) := by rfl)
    (hn : (assignEach [e1, .Starred e2 p2] X.env).length = 2 := by rfl) (hs : (assignEach [e1, .Starred e2 p2] X.env).findIdx? (·.1) = some 1 := by rfl) : PG X (.Tuple [e1, .Starred e2 p2] k pos) (gStar X.K t) := by
  refine ⟨fun pins s σ H v u Q I r hw => ?_⟩
  obtain ⟨a, x, xs, rfl, hq, hl, hw⟩ := hw
  cases r
  obtain ⟨its, rv, ht, hz⟩ := I.tuple hq
  cases rv with
  | cons rx rv =>
    rename_i ux us
    rw [assign_Tuple]
    refine wpAny_bind (wpAny_standAt ?_)
    unfold unpack
    rw [hn, hs, he]
    refine wpAny_bind (wpAny_holding (unp_tail ht (I.ok.hd hc) (by rw [← rv.length]; exact hl) fun h2 tk kk => ?_))
    have I1 : Inv X pins σ H { s with heap := h2, toks := tk } := I.kept kk
    have hf : H h2.objs.size = none := I1.hok.fresh (Nat.le_refl _)
    have I2 : Inv X pins σ (upd H h2.objs.size (.lst xs)) { s with heap := h2.push { cls := .type "list", data := .seq us.toArray }, toks := tk } :=
      I1.laid (t' := tk) (fun b o e => Heap.get?_push_of_some _ e) (Nat.le_refl _) ⟨by rw [sizeLine_eq]; omega, us, 0, rv, Heap.get?_push_size _ rfl⟩
    exact h.run pins _ σ _ [x, .ref h2.objs.size] [ux, .ref h2.objs.size] Q I2 (.cons rx (.cons rfl .nil)) (hw _ hf)
/-! ### o.m(e, .., k = v, ..) -/
structure MetK (P : Program) (w : World) (K : PySem.W.Frag) (mg : Str → Option Value) (base : Heap) (k : Nat) (C : Addr) (m : Str) (sp : Sp) (n : Nat) (ks : List Str) (gV : List V → List V → List V) : Prop where
  ex : ∃ (f : Addr) (fd : FuncData) (ps : List Str) (g : List Value → List Value → List Value), Cls K C ∧ Meth K C m f ∧ FnOk P w K mg base CX0 k f fd ps sp ∧ KBn K fd ps n ks g gV
def tMethK (C : Addr) (m : Str) (n j : Nat) (sp : Sp) (gV : List V → List V → List V) (ta : TE) (t tk : TA) : TE := fun σ H Q => ta σ H fun x H1 => ∃ a dx fs, x = .ref a ∧ H1 a = some (.ins C dx fs) ∧ fs.lookup m = none ∧
  t σ H1 fun vs H2 => tk σ H2 fun zs H3 => vs.length + 1 = n ∧ zs.length = j ∧ sp (gV (x :: vs) zs) H3 Q E0
theorem pe_mtK {X : Cx} {k j n : Nat} {C : Addr} {m : Str} {sp : Sp} {ks : List Str} {gV : List V → List V → List V} {o e : Expr} {es : List Expr} {kws : List Keyword} {apos pos : Pos} {ta : TE} {t tk : TA} {pl : Sem Bool}
    (c : MetK X.prog X.w X.K X.mg X.base k C m sp n ks gV) (hr : Room j X.A) (hk : k ≤ j) (he : PE X o ta) (ha : PA X (e :: es) t) (hkw : PK X kws tk)
    (hall : (backToKw pos (keywordEach kws X.env)).all (·.1.isSome) = true := by rfl) (hks : (backToKw pos (keywordEach kws X.env)).filterMap (·.1) = ks := by rfl)
    (hst : starEach (e :: es) X.env = (false, eval e X.env) :: starEach es X.env := by rfl) (hpl : ((backTo pos (starEach (e :: es) X.env)).any (·.1) || (backToKw pos (keywordEach kws X.env)).any (·.1.isNone)) = false := by rfl)
    (ht : eval (.Call (.Attribute o m apos) (e :: es) kws pos) X.env = (do
      let ov ← eval o X.env
      standAt apos.atName
      let (f, first) ← holding [ov] (getMethod ov m pl)
      callWith pos f first (backTo pos (starEach (e :: es) X.env)) (backToKw pos (keywordEach kws X.env))) := by rfl) :
    PE X (.Call (.Attribute o m apos) (e :: es) kws pos) (tMethK C m n ks.length sp gV ta t tk) := by
  obtain ⟨f, fd, ps, g, hc, hm, F, hb⟩ := c.ex
  refine ⟨fun pins s σ H Q I h => ?_⟩
  refine PySem.W.methodCall_KW (pl := pl) (thn (he.run pins s σ H _ I h) fun u s1 ⟨x, H1, I1, rx, a, dx, fs, ex, ea, l, q⟩ => ?_) ht
  subst ex
  cases rx
  refine getmeth_ok I1 ea hc hm l ?_
  refine PySem.W.callWith_KW (first := [.ref a]) (h₀ := X.base) I.ok.mod.kin hm.kp hall (thn (ha.run pos pins s1 σ H1 _ I1 q) fun us s2 ⟨vs, H2, I2, r, q2⟩ => ?_) hpl hst
  refine thn (hkw.run pos pins s2 σ H2 _ I2 q2) fun ws s3 ⟨zs, H3, I3, rz, l1, l2, q3⟩ => ⟨I3.kIn, ?_⟩
  rw [hks]
  exact run_fnN (us := .ref a :: us) (vs := .ref a :: vs) F (hr.mono hk) hb pass0 I3 (.cons rfl r) rz (by rw [List.length_cons]; exact l1) l2 q3
/-! ### len(o), o of an own class with a __len__ -/
theorem call_lenO {X : Cx} {k j : Nat} {C : Addr} {sp : Sp} (c : Met X.prog X.w X.K X.mg X.base k C "__len__" sp []) (hr : Room j X.A) (hk : k + 1 ≤ j) :
    CallR X (.builtin "len") (fun xs H Q => ∃ a dx fs, xs = [.ref a] ∧ H a = some (.ins C dx fs) ∧ sp [.ref a] H (fun v H1 => ∃ n : Nat, v = .int n ∧ n < 2 ^ 63 ∧ Q (.int n) H1) E0) := by
  intro pins s σ H xs us Q I r h
  obtain ⟨a, dx, fs, rfl, ha, q⟩ := h
  obtain ⟨u, rfl, ru⟩ := vals1 r
  cases ru
  obtain ⟨f, fd, ps, ds, hc, hm, F, hb, hd⟩ := c.ex
  obtain ⟨mA, O, _⟩ := ins_get I.hok ha
  obtain ⟨od, J, _⟩ := O.look
  obtain ⟨m, F0⟩ := I.fr
  refine PySem.W.len_K F0 I.ok.mod.kin J hm.at_ hm.fn ?_
  have r2 : Vals ([.ref a] : List V) [Value.ref a] := .cons rfl .nil
  have r3 : Vals ([.ref a] ++ ([] : List V)) ([Value.ref a] ++ ds) := r2.append hd
  cases hd
  have hl : ([Value.ref a] ++ ([] : List Value)).length = ps.length := by rw [← r3.length]; exact F.len _ _ _ _ q
  refine wpAny_call (codeAny_mono (F.run X.A.in1 X.stack s H ⟨[.ref a], []⟩ _ _ _ E0 (hr.mono hk).in1 I.env0.in1 (hb s [.ref a] I.kIn hl) r3 q) fun rs s' hq => ?_)
  cases rs with
  | error e => exact False.elim hq
  | ok fl =>
    cases fl with
    | ret u =>
      obtain ⟨v, H', I', rv, n, rfl, hn, q'⟩ := I.after hq
      obtain ⟨t, rfl⟩ := rv
      exact ⟨⟨by omega, by omega⟩, .int n, H', I'.tok _, ⟨_, rfl⟩, q'⟩
    | next => exact False.elim hq
    | brk => exact False.elim hq
    | cont => exact False.elim hq
/-! ### d.update(e) -/
def rUpd : V → List V → Hp → VK → Prop := fun x xs H Q => ∃ (a b : Addr) (kvs more : List (Key × V)), x = .ref a ∧ xs = [.ref b] ∧ a ≠ b ∧ H a = some (.dK kvs) ∧ H b = some (.dK more) ∧ kvs.length + more.length ≤ sizeLine ∧ Q .non (upd H a (.dK (mergeK kvs more)))
theorem mt_update {X : Cx} : MtR X "dict.update" rUpd := by
  intro pins s σ H x xs v us Q I rx rs h
  obtain ⟨a, b, kvs, more, rfl, rfl, hne, ha, hb, hz, q⟩ := h
  cases rx
  obtain ⟨u, rfl, ru⟩ := vals1 rs
  cases ru
  obtain ⟨z, hd, vs, rel, dd⟩ := dk_of I.hok ha
  obtain ⟨z2, hd2, vs2, rel2, dd2⟩ := dk_of I.hok hb
  refine call_meetsIn PySem.F.slot_dict_update dd.typeIs PySem.F.entry_dict_update (PySem.F.args_dict_update_2 _ _) (meets_dict_update (mixKind X.prog X.w) a b hne hd2) ⟨vs, vs2, dd, dd2, by rw [← rel.length, ← rel2.length]; exact hz, fun h' dd' _ hs => ?_⟩
  have he : ∃ q, h'.get? a = some q := let ⟨q, _, _, hq, _⟩ := dd'; ⟨q, hq⟩
  have rm := KV.merge rel2 rel
  have hl : (mergeK kvs more).length ≤ sizeLine := by
    have e1 := merged_length_le vs vs2
    have e2 := rm.length
    have e3 := rel.length
    have e4 := rel2.length
    omega
  exact ⟨.non, _, d_write (t' := s.toks) I (by rw [ha]; exact True.intro) hs he (dk_new hl hd rm dd'), rfl, q⟩
/-! ### len of a set of tuples of ints -/
theorem call_lenST {X : Cx} : CallR X (.builtin "len") (fun xs H Q => ∃ (a : Addr) (L : List (Addr × List Int)), xs = [.ref a] ∧ H a = some (SetTO X.prog X.w a L) ∧ (∀ p ∈ L, SqT X.K H p.1 (p.2.map V.int)) ∧ ((L.map (·.2)).Nodup → Q (.int L.length) H)) := by
  intro pins s σ H xs us Q I r h
  obtain ⟨a, L, rfl, ha, ht, q⟩ := h
  obtain ⟨u, rfl, ru⟩ := vals1 r
  cases ru
  have x : SetT0 X.prog X.w s.heap a L := (show _ ∧ _ from I.hok a _ ha).1
  obtain ⟨es, ep, t, R⟩ := x.full fun p hp => I.isT (ht p hp)
  obtain ⟨o, ho, hx, hd⟩ := R.ob
  have hsz := R.size
  have hf := R.few
  refine call_len_set ho hx hd R.fits (by rw [hsz]; omega) ⟨.int L.length, H, I.tok _, ⟨_, by rw [hsz]⟩, q R.nd⟩
end K37R
set_option Elab.async false
set_option linter.all false
set_option maxRecDepth 100000
set_option maxHeartbeats 4000000
/-! {k: v for target in iter}, the keys tuples of ints and texts -/
namespace K37D
open PySem PySem.Spec PyProof.Rows L2
theorem put_tup {X : Cx} {pins : List (Addr × Obj)} {σ : L2.St} {H : Hp} {s : Shared} {E : Value → Shared → Prop} {D b : Addr} {kvs : List (List Key × V)} {k : List Key} {v : V} {r : Value} {Q : Unit → Shared → Prop} (hu : X.A.units + 1 < cLine) (I : Inv X pins σ H s)
    (hD : H D = some (.dT kvs)) (hb : H b = some (.tup (k.map kV))) (hz : kvs.length < sizeLine) (rv : RelV v r) (h : ∀ s', Inv X pins σ (upd H D (.dT (putK kvs k v))) s' → Q () s') : wpAny (model X.prog X.w) X.A (dictSet D (.ref b) r) Q E s := by
  obtain ⟨z, hd, xs, rel, dd⟩ := dt_of I.hok hD
  have hl : (putK kvs k v).length ≤ sizeLine := by have := length_putK kvs k v; omega
  refine wpAny_dictSet_heap (hsz := by rw [← Paired.length rel]; exact z) (show X.A.units < cLine by omega) (key_of I.hok hb) dd fun h' dd' hs => h _ ?_
  obtain ⟨q, es, ep, hq, h2, h3, h4, _, h5⟩ := dd'
  refine d_write I (by rw [hD]; exact True.intro) hs ⟨q, hq⟩ ⟨hl, hd, _, (rel.put k hb rv).keeps fun c ys ec => ?_, q, es, ep, hq, h2, h3, h4, h5⟩
  rw [upd_ne (ne_of ec hD (fun z => nomatch z))]
  exact ec
/-- the turn's end: the key's tuple at b, the value, the dict at D -/
def Turn1 (D : Addr) (Nx : Hp → Prop) (y z : V) (H : Hp) : Prop := ∃ (b : Addr) (kvs : List (List Key × V)) (k : List Key), y = .ref b ∧ H b = some (.tup (k.map kV)) ∧ H D = some (.dT kvs) ∧ kvs.length < sizeLine ∧ Nx (upd H D (.dT (putK kvs k z)))
def tDt (wi : TI) (g : TG) (tk tv : TE) (vs : List Nat) : TE := fun σ H Q => wi σ H fun J H1 => ∀ D, H1 D = none → ∃ W : Nat → Nat → Hp → Prop, (∃ m, W 0 m (upd H1 D (.dT []))) ∧ ∀ i m H, W i m H →
  (J.stop i H ∧ Q (.ref D) H) ∨ (J.go i H ∧ ∃ Nx : Hp → Prop, (∀ H', Nx H' → ∃ m', m' < m ∧ W (i + 1) m' H') ∧ ∀ x H', J.yld i H x H' → g x (wipe σ vs) H' fun σ2 H2 => wipe σ2 vs = wipe σ vs ∧ tk σ2 H2 fun y H4 => tv σ2 H4 fun z H5 => Turn1 D Nx y z H5)
theorem pe_dt {X : Cx} {kx vx tg iter : Expr} {scope : Scope} {own : List (Str × Nat)} {pos : Pos} {wi : TI} {g : TG} {tk tv : TE} (hu : X.A.units + 1 < cLine) (hc : X.calm = true) (hN : X.N.Nodup) (hi : PI X tg iter wi) (ok : BlkOk X.N X.env.scope scope own)
    (hg : ∀ (s : Shared) (H : Hp) (C : Addr) (cl : List (Str × Addr)) (fp : List Addr), PG (X.blk s H scope (compEnvC scope cl C X.env) fp) tg g)
    (hk : ∀ (s : Shared) (H : Hp) (C : Addr) (cl : List (Str × Addr)) (fp : List Addr), PE (X.blk s H scope (compEnvC scope cl C X.env) fp) kx tk)
    (he : ∀ (s : Shared) (H : Hp) (C : Addr) (cl : List (Str × Addr)) (fp : List Addr), PE (X.blk s H scope (compEnvC scope cl C X.env) fp) vx tv) (hs : ∀ x, foldedSetIterable iter X.env x = pure x := by intro _; rfl) :
    PE X (.DictComp kx vx [⟨tg, iter, [], 0⟩] scope pos) (tDt wi g tk tv (own.map (·.2))) := by
  refine ⟨fun pins s σ H Q I h => ?_⟩
  rw [arm_eval_DictComp]
  have cells : ∀ y ∈ scope.names, y.2 = .free → ∃ c, X.env.cells.lookup y.1 = some c := fun y hy e => (ok.free y hy e).elim (fun k => I.ok.has _ (.inl k)) fun k => I.ok.has _ (.inr k)
  refine wpAny_comprehension_free (use := none) rfl hs (closure_ok cells) ok.kind (fun y hy e => by rw [ok.uniq y hy, e]) (thn (hi.run pins s σ H _ I h) fun xv s1 hx => thn hx fun itv s2 h2 => ?_)
  obtain ⟨it, fp, tn, J, H2, rfl, I2, T, st2, f2, q⟩ := h2
  refine wpAny_newObj_type (newEnv_comp ?_)
  generalize hD : s2.heap.objs.size = D
  obtain ⟨W, ⟨m0, w0⟩, turn⟩ := q D (I2.hok.fresh (Nat.le_of_eq hD))
  generalize hs3 : ({ s2 with heap := s2.heap.push { cls := .type "dict", data := .dict #[] } } : Shared) = s3
  have h3 : s3.heap = s2.heap.push { cls := .type "dict", data := .dict #[] } := by rw [← hs3]
  have I3 : Inv X pins σ (upd H2 D (.dT [])) s3 := by
    rw [← hs3]
    refine I2.laid (t' := s2.toks) (fun b o e => Heap.get?_push_of_some _ e) (Nat.le_of_eq hD) ?_
    rw [← hD]
    exact dt_empty s2.heap I2.big
  have f3 : ∀ b ∈ fp, FpOk X pins (upd H2 D (.dT [])) b ∧ b < s3.heap.objs.size := fun b hb => by
    obtain ⟨o, eo, _⟩ := T.obj _ _ st2 b hb
    have lt := Heap.lt_size eo
    refine ⟨⟨?_, (f2 b hb).2⟩, by rw [h3, Heap.size_push]; exact Nat.lt_succ_of_lt lt⟩
    rw [upd_ne (by rw [← hD]; exact Nat.ne_of_lt lt)]
    exact (f2 b hb).1
  have st3 : tn 0 s3.heap := T.keep _ _ _ st2 fun b _ o e => by rw [h3]; exact Heap.get?_push_of_some _ e
  have I4 := block_start I3 ok hN f3
  have pg := hg s3 (upd H2 D (.dT [])) s3.heap.objs.size (cellsFrom (s3.heap.objs.size + 1) scope.names (cloFrom X.env.cells scope.names [])) fp
  have pk := hk s3 (upd H2 D (.dT [])) s3.heap.objs.size (cellsFrom (s3.heap.objs.size + 1) scope.names (cloFrom X.env.cells scope.names [])) fp
  have pe := he s3 (upd H2 D (.dT [])) s3.heap.objs.size (cellsFrom (s3.heap.objs.size + 1) scope.names (cloFrom X.env.cells scope.names [])) fp
  show codeAny _ _ (.compStart (.DictComp kx vx [⟨tg, iter, [], 0⟩] scope pos) 0 (.ref it) (.ref D) (compEnvC scope (cellsFrom (s3.heap.objs.size + 1) scope.names (cloFrom X.env.cells scope.names [])) s3.heap.objs.size X.env)) (compPost (model X.prog X.w) X.A X.xe none _ (.ref D) s3.heap.objs.size) { s3 with heap := pushCells (s3.heap.push { cls := .type "dict", data := .dict #[] }) scope.names }
  have nfp : ∀ b ∈ fp, (upd H2 D (.dT [])) b = none := fun b hb => (f3 b hb).1.1
  generalize hce : compEnvC scope (cellsFrom (s3.heap.objs.size + 1) scope.names (cloFrom X.env.cells scope.names [])) s3.heap.objs.size X.env = ce at I4 pg pk pe ⊢
  have cL : ce.locals = s3.heap.objs.size := by subst hce; rfl
  generalize hH3 : upd H2 D (.dT []) = H3 at I3 I4 pg pk pe w0 nfp f3
  generalize hs4 : ({ s3 with heap := pushCells (s3.heap.push { cls := .type "dict", data := .dict #[] }) scope.names } : Shared) = s4 at I4 ⊢
  have st4 : tn 0 s4.heap := T.keep _ _ _ st3 fun b _ o e => by rw [← hs4]; exact pushCells_keeps _ _ _ _ (Heap.get?_push_of_some _ e)
  have stat : ∀ {σ' : L2.St} {H' : Hp} {s' : Shared}, Inv (X.blk s3 H3 scope ce fp) [] σ' H' s' → (∀ b ∈ fp, H' b = none) → ∀ b ∈ fp, FpOk (X.blk s3 H3 scope ce fp) [] H' b := fun {σ' H' s'} I' hn b hb =>
    ⟨hn b hb, (I'.ok.exf b hb).1, I'.ok.exfs b hb, .inl hb, fun x c e => (I'.ok.exf b hb).2 x c e, fun p hp => absurd (show p ∈ ([] : List (Addr × Obj)) ++ [] from hp) (by simp)⟩
  have loop : codeAny (model X.prog X.w) X.A (.compLoop (.DictComp kx vx [⟨tg, iter, [], 0⟩] scope pos) 0 (.ref it) (.ref D) ce) (compPost (model X.prog X.w) X.A X.xe none (EP X pins σ Q) (.ref D) s3.heap.objs.size) s4 := by
    refine compLoop_anyD (fun n s' => ∃ i H', Inv (X.blk s3 H3 scope ce fp) [] (wipe σ (own.map (·.2))) H' s' ∧ tn i s'.heap ∧ (∀ b ∈ fp, H' b = none) ∧ W i n H') ?_ m0 ⟨0, H3, I4, st4, nfp, w0⟩
    rintro n s5 ⟨i, H5, I5, st5, n5, w5⟩
    rcases turn i n H5 w5 with ⟨stop, qq⟩ | ⟨go, Nx, hNx, step⟩
    · refine thnF (T.done (X.blk s3 H3 scope ce fp) rfl rfl rfl hc i [] s5 _ H5 (fun _ _ => False) I5 (stat I5 n5) st5 stop) fun r s6 ⟨hr, I6⟩ => ?_
      subst hr
      have I7 : Inv X pins σ H5 s6 := I3.call' (ch := fp) I6.os I6.base I6.hok I6.bare fun b hb => ⟨(f3 b hb).1.2.2.2.1, (f3 b hb).1.2.1, (f3 b hb).1.2.2.2.2.1, (f3 b hb).1.2.2.2.2.2⟩
      have nC : H5 s3.heap.objs.size = none := by
        have z : H5 ce.locals = none := I6.free
        rw [cL] at z
        exact z
      obtain ⟨m, hn, _⟩ := I6.loc
      have hn' : s6.heap.Ns ce.locals m := hn
      rw [cL] at hn'
      obtain ⟨f0, f1, f2', f3', f4, f5⟩ := I3.fpOk (Nat.le_refl _) nC
      exact ⟨m, hn', fun h'' sb => ⟨.ref D, H5, I7.turned (t' := s6.toks) (fun b o hb e => (sb.2 b hb).trans e) f0 f1 f3' f4 f5, rfl, qq⟩⟩
    · refine thnF (T.item (X.blk s3 H3 scope ce fp) rfl rfl rfl hc i [] s5 _ H5 (fun _ _ => False) I5 (stat I5 n5) st5 go) fun r s6 ⟨u, hr, h6⟩ => ?_
      subst hr
      refine thnF h6 fun _ s7 ⟨x, H7, I7, r7, y7, st7, n7⟩ => ?_
      refine thnF (pg.run _ s7 _ H7 x u _ (I7.pinned (stat I7 n7) (T.obj _ _ st7)) r7 (step x H7 y7)) fun _ s8 ⟨σ8, H8, I8, hw8, q8⟩ => ?_
      refine wpAny_tests_nil ?_
      rw [if_pos rfl]
      refine thnF (pk.run _ s8 σ8 H8 _ I8 q8) fun z s10 ⟨yk, H10, I10, r10, q10⟩ => ?_
      refine thnF (pe.run _ s10 σ8 H10 _ I10 q10) fun z2 s11 ⟨yv, H11, I11, r11, q11⟩ => ?_
      obtain ⟨b, kvs, k, rfl, hb11, hD11, hz11, nx⟩ := q11
      cases r10
      refine put_tup (X := X.blk s3 H3 scope ce fp) hu I11 hD11 hb11 hz11 r11 fun s12 I12 => ?_
      obtain ⟨m', hm, w'⟩ := hNx _ nx
      have pin' : ∀ b ∈ fp, ∀ o, s7.heap.get? b = some o → s12.heap.get? b = some o ∧ upd H11 D (.dT (putK kvs k yv)) b = none := fun b hb o e =>
        let z := I12.pin (b, o) (List.mem_append_right _ (List.mem_append_right _ (mem_pinsAt hb e)))
        ⟨z.1, z.2.1⟩
      refine ⟨m', hm, i + 1, _, (I12.unpinned (pins := [])).weak (by rw [← hw8, wipe_length]) (fun j v e => ?_), T.keep _ _ _ st7 fun b hb o e => (pin' b hb o e).1, fun b hb => ?_, w'⟩
      · rw [← hw8] at e
        exact (wipe_some e).1
      · obtain ⟨o, e, _⟩ := T.obj _ _ st7 b hb
        exact (pin' b hb o e).2
  exact codeAny_compStart_dict loop (T.self X.A 0 _ _ _ st4 loop)
end K37D
set_option Elab.async false
set_option linter.all false
set_option maxRecDepth 100000
set_option maxHeartbeats 4000000
namespace K37
open PySem PySem.Spec PyProof.Rows L2
open C8 (Cal Met Mak CalAt pe_c pe_mt pe_mt0 pe_mk pe_gc tCut pss_cut)
open He (ba)
/-! ### what the top has left -/
structure SaysY (w : World) (K : PySem.W.Frag) : Prop where
  t : He.SaysT fa fn ts w K
  more : ex K = true
structure Tx (P : Program) (w : World) (K : PySem.W.Frag) (mg : Str → Option Value) (base : Heap) : Prop where
  t : He.SaysT fa fn ts w K
  more : ex K = true
  at_ : ∃ h : Heap, K.In h ∧ h.Ns mainGlobals mg
section
variable {P : Program} {w : World} {K : PySem.W.Frag} {mg : Str → Option Value} {base : Heap}
theorem Tx.glo (T : Tx P w K mg base) (i : Nat) {x : Str} (h : fa[i]? = some (.glo x) := by rfl) : mg x = some (.ref (He.ga K x)) := by
  obtain ⟨h', X, G⟩ := T.at_
  exact He.glo_ok X G (T.t.d.fact i h)
theorem Tx.free (T : Tx P w K mg base) (i : Nat) {x : Str} (h : fa[i]? = some (.free x) := by rfl) : mg x = none := by
  obtain ⟨h', X, G⟩ := T.at_
  exact He.free_ok X G (T.t.d.fact i h)
theorem Tx.cint (T : Tx P w K mg base) (i : Nat) {x : Str} {v : Int} (h : fa[i]? = some (.int x v) := by rfl) : ∃ u, mg x = some u ∧ RelV (.int v) u := by
  obtain ⟨h', X, G⟩ := T.at_
  obtain ⟨t, e⟩ := He.int_ok X G (T.t.d.fact i h)
  exact ⟨_, e, t, rfl⟩
theorem Tx.cls (T : Tx P w K mg base) (i : Nat) {x : Str} (h : fa[i]? = some (.cls x) := by rfl) : Cls K (He.ga K x) := He.cls_ok (T.t.d.fact i h)
theorem Tx.mkr (T : Tx P w K mg base) (i : Nat) {x : Str} (h : fa[i]? = some (.mkr x) := by rfl) : Mk K (He.ga K x) (He.ma K (He.ga K x) "__init__") := He.mkr_ok (T.t.d.fact i h)
theorem Tx.noat (T : Tx P w K mg base) (i : Nat) {x f : Str} (h : fa[i]? = some (.noat x f) := by rfl) : NoAttr K (He.ga K x) f := He.noat_ok (T.t.d.fact i h)
theorem Tx.meth (T : Tx P w K mg base) (i : Nat) {x m : Str} (h : fa[i]? = some (.meth x m) := by rfl) : Meth K (He.ga K x) m (He.ma K (He.ga K x) m) := He.meth_ok (T.t.d.fact i h)
theorem Tx.g_common (T : Tx P w K mg base) : mg "common" = some (.ref (He.ga K "common")) := T.glo 0
theorem Tx.g_lowest (T : Tx P w K mg base) : mg "lowest" = some (.ref (He.ga K "lowest")) := T.glo 1
theorem Tx.g_plus (T : Tx P w K mg base) : mg "plus" = some (.ref (He.ga K "plus")) := T.glo 2
theorem Tx.g_minus (T : Tx P w K mg base) : mg "minus" = some (.ref (He.ga K "minus")) := T.glo 3
theorem Tx.g_times (T : Tx P w K mg base) : mg "times" = some (.ref (He.ga K "times")) := T.glo 4
theorem Tx.g_by (T : Tx P w K mg base) : mg "by" = some (.ref (He.ga K "by")) := T.glo 5
theorem Tx.g_less (T : Tx P w K mg base) : mg "less" = some (.ref (He.ga K "less")) := T.glo 6
theorem Tx.g_amount_text (T : Tx P w K mg base) : mg "amount_text" = some (.ref (He.ga K "amount_text")) := T.glo 7
theorem Tx.g_inner (T : Tx P w K mg base) : mg "inner" = some (.ref (He.ga K "inner")) := T.glo 8
theorem Tx.g_uses (T : Tx P w K mg base) : mg "uses" = some (.ref (He.ga K "uses")) := T.glo 9
theorem Tx.g_is_whole (T : Tx P w K mg base) : mg "is_whole" = some (.ref (He.ga K "is_whole")) := T.glo 10
theorem Tx.g_better (T : Tx P w K mg base) : mg "better" = some (.ref (He.ga K "better")) := T.glo 11
theorem Tx.g_worse (T : Tx P w K mg base) : mg "worse" = some (.ref (He.ga K "worse")) := T.glo 12
theorem Tx.g_value_at (T : Tx P w K mg base) : mg "value_at" = some (.ref (He.ga K "value_at")) := T.glo 13
theorem Tx.g_thing_text (T : Tx P w K mg base) : mg "thing_text" = some (.ref (He.ga K "thing_text")) := T.glo 14
theorem Tx.g_things_text (T : Tx P w K mg base) : mg "things_text" = some (.ref (He.ga K "things_text")) := T.glo 15
theorem Tx.g_value_text (T : Tx P w K mg base) : mg "value_text" = some (.ref (He.ga K "value_text")) := T.glo 16
theorem Tx.g_note_text (T : Tx P w K mg base) : mg "note_text" = some (.ref (He.ga K "note_text")) := T.glo 17
theorem Tx.g_both_of (T : Tx P w K mg base) : mg "both_of" = some (.ref (He.ga K "both_of")) := T.glo 18
theorem Tx.g_of_none (T : Tx P w K mg base) : mg "of_none" = some (.ref (He.ga K "of_none")) := T.glo 19
theorem Tx.g_of_pay (T : Tx P w K mg base) : mg "of_pay" = some (.ref (He.ga K "of_pay")) := T.glo 20
theorem Tx.g_of_now (T : Tx P w K mg base) : mg "of_now" = some (.ref (He.ga K "of_now")) := T.glo 21
theorem Tx.g_of_both (T : Tx P w K mg base) : mg "of_both" = some (.ref (He.ga K "of_both")) := T.glo 22
theorem Tx.g_of_may (T : Tx P w K mg base) : mg "of_may" = some (.ref (He.ga K "of_may")) := T.glo 23
theorem Tx.g_lived (T : Tx P w K mg base) : mg "lived" = some (.ref (He.ga K "lived")) := T.glo 24
theorem Tx.g_turned (T : Tx P w K mg base) : mg "turned" = some (.ref (He.ga K "turned")) := T.glo 25
theorem Tx.g_endings (T : Tx P w K mg base) : mg "endings" = some (.ref (He.ga K "endings")) := T.glo 26
theorem Tx.g_look_both (T : Tx P w K mg base) : mg "look_both" = some (.ref (He.ga K "look_both")) := T.glo 27
theorem Tx.me_Machine_len (T : Tx P w K mg base) : Meth K (He.ga K "Machine") "__len__" (He.ma K (He.ga K "Machine") "__len__") := T.meth 29
theorem Tx.me_Machine_later (T : Tx P w K mg base) : Meth K (He.ga K "Machine") "later" (He.ma K (He.ga K "Machine") "later") := T.meth 30
theorem Tx.me_Machine_stand (T : Tx P w K mg base) : Meth K (He.ga K "Machine") "stand" (He.ma K (He.ga K "Machine") "stand") := T.meth 31
theorem Tx.me_Machine_at (T : Tx P w K mg base) : Meth K (He.ga K "Machine") "at" (He.ma K (He.ga K "Machine") "at") := T.meth 32
theorem Tx.me_Machine_ahead (T : Tx P w K mg base) : Meth K (He.ga K "Machine") "ahead" (He.ma K (He.ga K "Machine") "ahead") := T.meth 33
theorem Tx.g_weighed (T : Tx P w K mg base) : mg "weighed" = some (.ref (He.ga K "weighed")) := T.glo 34
theorem Tx.g_chosen (T : Tx P w K mg base) : mg "chosen" = some (.ref (He.ga K "chosen")) := T.glo 35
theorem Tx.me_Worth_reckoned (T : Tx P w K mg base) : Meth K (He.ga K "Worth") "reckoned" (He.ma K (He.ga K "Worth") "reckoned") := T.meth 37
theorem Tx.me_Worth_worth (T : Tx P w K mg base) : Meth K (He.ga K "Worth") "worth" (He.ma K (He.ga K "Worth") "worth") := T.meth 38
theorem Tx.me_Worth_plan (T : Tx P w K mg base) : Meth K (He.ga K "Worth") "plan" (He.ma K (He.ga K "Worth") "plan") := T.meth 39
theorem Tx.me_Worth_loss (T : Tx P w K mg base) : Meth K (He.ga K "Worth") "loss" (He.ma K (He.ga K "Worth") "loss") := T.meth 40
theorem Tx.me_Worth_region (T : Tx P w K mg base) : Meth K (He.ga K "Worth") "region" (He.ma K (He.ga K "Worth") "region") := T.meth 41
theorem Tx.g_look_shape (T : Tx P w K mg base) : mg "look_shape" = some (.ref (He.ga K "look_shape")) := T.glo 42
theorem Tx.g_look_above (T : Tx P w K mg base) : mg "look_above" = some (.ref (He.ga K "look_above")) := T.glo 43
theorem Tx.g_look_steps (T : Tx P w K mg base) : mg "look_steps" = some (.ref (He.ga K "look_steps")) := T.glo 44
theorem Tx.me_Lattice_last (T : Tx P w K mg base) : Meth K (He.ga K "Lattice") "last" (He.ma K (He.ga K "Lattice") "last") := T.meth 46
theorem Tx.me_Lattice_many (T : Tx P w K mg base) : Meth K (He.ga K "Lattice") "many" (He.ma K (He.ga K "Lattice") "many") := T.meth 47
theorem Tx.me_Lattice_look_node (T : Tx P w K mg base) : Meth K (He.ga K "Lattice") "look_node" (He.ma K (He.ga K "Lattice") "look_node") := T.meth 48
theorem Tx.me_Lattice_price (T : Tx P w K mg base) : Meth K (He.ga K "Lattice") "price" (He.ma K (He.ga K "Lattice") "price") := T.meth 49
theorem Tx.me_Lattice_rate (T : Tx P w K mg base) : Meth K (He.ga K "Lattice") "rate" (He.ma K (He.ga K "Lattice") "rate") := T.meth 50
theorem Tx.me_Lattice_step (T : Tx P w K mg base) : Meth K (He.ga K "Lattice") "step" (He.ma K (He.ga K "Lattice") "step") := T.meth 51
theorem Tx.me_Lattice_sides (T : Tx P w K mg base) : Meth K (He.ga K "Lattice") "sides" (He.ma K (He.ga K "Lattice") "sides") := T.meth 52
theorem Tx.me_Lattice_share (T : Tx P w K mg base) : Meth K (He.ga K "Lattice") "share" (He.ma K (He.ga K "Lattice") "share") := T.meth 53
theorem Tx.me_Lattice_win (T : Tx P w K mg base) : Meth K (He.ga K "Lattice") "win" (He.ma K (He.ga K "Lattice") "win") := T.meth 54
theorem Tx.g_law_box (T : Tx P w K mg base) : mg "_law_box" = some (.ref (He.ga K "_law_box")) := T.glo 55
theorem Tx.g_law_take (T : Tx P w K mg base) : mg "_law_take" = some (.ref (He.ga K "_law_take")) := T.glo 56
theorem Tx.g_law_one (T : Tx P w K mg base) : mg "_law_one" = some (.ref (He.ga K "_law_one")) := T.glo 57
theorem Tx.g_law_near (T : Tx P w K mg base) : mg "_law_near" = some (.ref (He.ga K "_law_near")) := T.glo 58
theorem Tx.g_law_same (T : Tx P w K mg base) : mg "_law_same" = some (.ref (He.ga K "_law_same")) := T.glo 59
theorem Tx.g_law_common (T : Tx P w K mg base) : mg "_law_common" = some (.ref (He.ga K "_law_common")) := T.glo 60
theorem Tx.g_law_low (T : Tx P w K mg base) : mg "_law_low" = some (.ref (He.ga K "_law_low")) := T.glo 61
theorem Tx.g_law_sum (T : Tx P w K mg base) : mg "_law_sum" = some (.ref (He.ga K "_law_sum")) := T.glo 62
theorem Tx.g_law_less_by (T : Tx P w K mg base) : mg "_law_less_by" = some (.ref (He.ga K "_law_less_by")) := T.glo 63
theorem Tx.g_law_product (T : Tx P w K mg base) : mg "_law_product" = some (.ref (He.ga K "_law_product")) := T.glo 64
theorem Tx.g_law_share_of (T : Tx P w K mg base) : mg "_law_share_of" = some (.ref (He.ga K "_law_share_of")) := T.glo 65
theorem Tx.g_law_under (T : Tx P w K mg base) : mg "_law_under" = some (.ref (He.ga K "_law_under")) := T.glo 66
theorem Tx.g_law_coin (T : Tx P w K mg base) : mg "_law_coin" = some (.ref (He.ga K "_law_coin")) := T.glo 67
theorem Tx.g_law_above (T : Tx P w K mg base) : mg "_law_above" = some (.ref (He.ga K "_law_above")) := T.glo 68
theorem Tx.g_law_rows_between (T : Tx P w K mg base) : mg "_law_rows_between" = some (.ref (He.ga K "_law_rows_between")) := T.glo 69
theorem Tx.g_law_steps_between (T : Tx P w K mg base) : mg "_law_steps_between" = some (.ref (He.ga K "_law_steps_between")) := T.glo 70
theorem Tx.g_law_fair (T : Tx P w K mg base) : mg "_law_fair" = some (.ref (He.ga K "_law_fair")) := T.glo 71
theorem Tx.g_law_web (T : Tx P w K mg base) : mg "_law_web" = some (.ref (He.ga K "_law_web")) := T.glo 72
theorem Tx.g_law_value (T : Tx P w K mg base) : mg "_law_value" = some (.ref (He.ga K "_law_value")) := T.glo 73
theorem Tx.g_law (T : Tx P w K mg base) : mg "law" = some (.ref (He.ga K "law")) := T.glo 74
theorem Tx.g_Lattice (T : Tx P w K mg base) : mg "Lattice" = some (.ref (He.ga K "Lattice")) := T.glo 75
theorem Tx.cl_Lattice (T : Tx P w K mg base) : Cls K (He.ga K "Lattice") := T.cls 76
theorem Tx.mk_Lattice (T : Tx P w K mg base) : Mk K (He.ga K "Lattice") (He.ma K (He.ga K "Lattice") "__init__") := T.mkr 77
theorem Tx.g_Machine (T : Tx P w K mg base) : mg "Machine" = some (.ref (He.ga K "Machine")) := T.glo 78
theorem Tx.cl_Machine (T : Tx P w K mg base) : Cls K (He.ga K "Machine") := T.cls 79
theorem Tx.mk_Machine (T : Tx P w K mg base) : Mk K (He.ga K "Machine") (He.ma K (He.ga K "Machine") "__init__") := T.mkr 80
theorem Tx.g_Worth (T : Tx P w K mg base) : mg "Worth" = some (.ref (He.ga K "Worth")) := T.glo 81
theorem Tx.cl_Worth (T : Tx P w K mg base) : Cls K (He.ga K "Worth") := T.cls 82
theorem Tx.mk_Worth (T : Tx P w K mg base) : Mk K (He.ga K "Worth") (He.ma K (He.ga K "Worth") "__init__") := T.mkr 83
theorem Tx.na_Lattice_prices (T : Tx P w K mg base) : NoAttr K (He.ga K "Lattice") "prices" := T.noat 84
theorem Tx.na_Lattice_rates (T : Tx P w K mg base) : NoAttr K (He.ga K "Lattice") "rates" := T.noat 85
theorem Tx.na_Lattice_steps (T : Tx P w K mg base) : NoAttr K (He.ga K "Lattice") "steps" := T.noat 86
theorem Tx.na_Machine_web (T : Tx P w K mg base) : NoAttr K (He.ga K "Machine") "web" := T.noat 87
theorem Tx.na_Machine_thing (T : Tx P w K mg base) : NoAttr K (He.ga K "Machine") "thing" := T.noat 88
theorem Tx.na_Machine_rows (T : Tx P w K mg base) : NoAttr K (He.ga K "Machine") "rows" := T.noat 89
theorem Tx.na_Machine_kin (T : Tx P w K mg base) : NoAttr K (He.ga K "Machine") "kin" := T.noat 90
theorem Tx.na_Machine_spots (T : Tx P w K mg base) : NoAttr K (He.ga K "Machine") "spots" := T.noat 91
theorem Tx.na_Worth_mill (T : Tx P w K mg base) : NoAttr K (He.ga K "Worth") "mill" := T.noat 92
theorem Tx.na_Worth_sums (T : Tx P w K mg base) : NoAttr K (He.ga K "Worth") "sums" := T.noat 93
theorem Tx.g_NOUGHT (T : Tx P w K mg base) : mg "NOUGHT" = some (.ref (He.ga K "NOUGHT")) := T.glo 94
theorem Tx.c_NOUGHT (T : Tx P w K mg base) : ∃ u, mg "NOUGHT" = some u ∧ RelV (.ref (He.ga K "NOUGHT")) u := ⟨_, T.g_NOUGHT, rfl⟩
theorem Tx.g_ONE (T : Tx P w K mg base) : mg "ONE" = some (.ref (He.ga K "ONE")) := T.glo 95
theorem Tx.c_ONE (T : Tx P w K mg base) : ∃ u, mg "ONE" = some u ∧ RelV (.ref (He.ga K "ONE")) u := ⟨_, T.g_ONE, rfl⟩
theorem Tx.g_NONE (T : Tx P w K mg base) : mg "NONE" = some (.ref (He.ga K "NONE")) := T.glo 96
theorem Tx.c_NONE (T : Tx P w K mg base) : ∃ u, mg "NONE" = some u ∧ RelV (.ref (He.ga K "NONE")) u := ⟨_, T.g_NONE, rfl⟩
theorem Tx.g_VALUES (T : Tx P w K mg base) : mg "VALUES" = some (.ref (He.ga K "VALUES")) := T.glo 97
theorem Tx.c_VALUES (T : Tx P w K mg base) : ∃ u, mg "VALUES" = some u ∧ RelV (.ref (He.ga K "VALUES")) u := ⟨_, T.g_VALUES, rfl⟩
theorem Tx.g_NOTES (T : Tx P w K mg base) : mg "NOTES" = some (.ref (He.ga K "NOTES")) := T.glo 98
theorem Tx.c_NOTES (T : Tx P w K mg base) : ∃ u, mg "NOTES" = some u ∧ RelV (.ref (He.ga K "NOTES")) u := ⟨_, T.g_NOTES, rfl⟩
theorem Tx.g_PAIRS (T : Tx P w K mg base) : mg "PAIRS" = some (.ref (He.ga K "PAIRS")) := T.glo 99
theorem Tx.c_PAIRS (T : Tx P w K mg base) : ∃ u, mg "PAIRS" = some u ∧ RelV (.ref (He.ga K "PAIRS")) u := ⟨_, T.g_PAIRS, rfl⟩
theorem Tx.g_WAYS (T : Tx P w K mg base) : mg "WAYS" = some (.ref (He.ga K "WAYS")) := T.glo 100
theorem Tx.c_WAYS (T : Tx P w K mg base) : ∃ u, mg "WAYS" = some u ∧ RelV (.ref (He.ga K "WAYS")) u := ⟨_, T.g_WAYS, rfl⟩
theorem Tx.c_MOST_DATES (T : Tx P w K mg base) : ∃ u, mg "MOST_DATES" = some u ∧ RelV (.int 7) u := T.cint 101
theorem Tx.c_MOST_NODES (T : Tx P w K mg base) : ∃ u, mg "MOST_NODES" = some u ∧ RelV (.int 8) u := T.cint 102
theorem Tx.b_abs (T : Tx P w K mg base) : mg "abs" = none := T.free 103
theorem Tx.b_str (T : Tx P w K mg base) : mg "str" = none := T.free 104
theorem Tx.b_zip (T : Tx P w K mg base) : mg "zip" = none := T.free 105
theorem Tx.b_sorted (T : Tx P w K mg base) : mg "sorted" = none := T.free 106
theorem Tx.b_range (T : Tx P w K mg base) : mg "range" = none := T.free 107
theorem Tx.b_len (T : Tx P w K mg base) : mg "len" = none := T.free 108
theorem Tx.b_all (T : Tx P w K mg base) : mg "all" = none := T.free 109
theorem Tx.b_enumerate (T : Tx P w K mg base) : mg "enumerate" = none := T.free 110
theorem Tx.b_list (T : Tx P w K mg base) : mg "list" = none := T.free 111
theorem Tx.b_tuple (T : Tx P w K mg base) : mg "tuple" = none := T.free 112
theorem Tx.b_reversed (T : Tx P w K mg base) : mg "reversed" = none := T.free 113
theorem Tx.b_isinstance (T : Tx P w K mg base) : mg "isinstance" = none := T.free 114
theorem Tx.b_bool (T : Tx P w K mg base) : mg "bool" = none := T.free 115
theorem Tx.b_int (T : Tx P w K mg base) : mg "int" = none := T.free 116
theorem Tx.b_set (T : Tx P w K mg base) : mg "set" = none := T.free 117
theorem Tx.f_common (T : Tx P w K mg base) : ∃ fd, FunD K "common" "common" (defArgs s_common) (defBody s_common) (defScope s_common) [] [] (He.ga K "common") fd := T.t.d.def_ 0 (d := d_common) rfl
theorem sc_common : FnScope ["one", "other"] ["one", "other"] (defScope s_common) := ⟨rfl, rfl, rfl, by decide +kernel, rfl, by decide +kernel, by decide +kernel⟩
theorem Tx.f_lowest (T : Tx P w K mg base) : ∃ fd, FunD K "lowest" "lowest" (defArgs s_lowest) (defBody s_lowest) (defScope s_lowest) [] [] (He.ga K "lowest") fd := T.t.d.def_ 1 (d := d_lowest) rfl
theorem sc_lowest : FnScope ["over", "under", "part"] ["over", "under"] (defScope s_lowest) := ⟨rfl, rfl, rfl, by decide +kernel, rfl, by decide +kernel, by decide +kernel⟩
theorem Tx.f_plus (T : Tx P w K mg base) : ∃ fd, FunD K "plus" "plus" (defArgs s_plus) (defBody s_plus) (defScope s_plus) [] [] (He.ga K "plus") fd := T.t.d.def_ 2 (d := d_plus) rfl
theorem sc_plus : FnScope ["one", "other"] ["one", "other"] (defScope s_plus) := ⟨rfl, rfl, rfl, by decide +kernel, rfl, by decide +kernel, by decide +kernel⟩
theorem Tx.f_minus (T : Tx P w K mg base) : ∃ fd, FunD K "minus" "minus" (defArgs s_minus) (defBody s_minus) (defScope s_minus) [] [] (He.ga K "minus") fd := T.t.d.def_ 3 (d := d_minus) rfl
theorem sc_minus : FnScope ["one", "other"] ["one", "other"] (defScope s_minus) := ⟨rfl, rfl, rfl, by decide +kernel, rfl, by decide +kernel, by decide +kernel⟩
theorem Tx.f_times (T : Tx P w K mg base) : ∃ fd, FunD K "times" "times" (defArgs s_times) (defBody s_times) (defScope s_times) [] [] (He.ga K "times") fd := T.t.d.def_ 4 (d := d_times) rfl
theorem sc_times : FnScope ["one", "other"] ["one", "other"] (defScope s_times) := ⟨rfl, rfl, rfl, by decide +kernel, rfl, by decide +kernel, by decide +kernel⟩
theorem Tx.f_by (T : Tx P w K mg base) : ∃ fd, FunD K "by" "by" (defArgs s_by) (defBody s_by) (defScope s_by) [] [] (He.ga K "by") fd := T.t.d.def_ 5 (d := d_by) rfl
theorem sc_by : FnScope ["one", "other"] ["one", "other"] (defScope s_by) := ⟨rfl, rfl, rfl, by decide +kernel, rfl, by decide +kernel, by decide +kernel⟩
theorem Tx.f_less (T : Tx P w K mg base) : ∃ fd, FunD K "less" "less" (defArgs s_less) (defBody s_less) (defScope s_less) [] [] (He.ga K "less") fd := T.t.d.def_ 6 (d := d_less) rfl
theorem sc_less : FnScope ["one", "other"] ["one", "other"] (defScope s_less) := ⟨rfl, rfl, rfl, by decide +kernel, rfl, by decide +kernel, by decide +kernel⟩
theorem Tx.f_amount_text (T : Tx P w K mg base) : ∃ fd, FunD K "amount_text" "amount_text" (defArgs s_amount_text) (defBody s_amount_text) (defScope s_amount_text) [] [] (He.ga K "amount_text") fd := T.t.d.def_ 7 (d := d_amount_text) rfl
theorem sc_amount_text : FnScope ["amount", "over", "under"] ["amount"] (defScope s_amount_text) := ⟨rfl, rfl, rfl, by decide +kernel, rfl, by decide +kernel, by decide +kernel⟩
theorem Tx.f_inner (T : Tx P w K mg base) : ∃ fd, FunD K "inner" "inner" (defArgs s_inner) (defBody s_inner) (defScope s_inner) [] [] (He.ga K "inner") fd := T.t.d.def_ 8 (d := d_inner) rfl
theorem sc_inner : FnScope ["note", "sign", "one"] ["note"] (defScope s_inner) := ⟨rfl, rfl, rfl, by decide +kernel, rfl, by decide +kernel, by decide +kernel⟩
theorem Tx.f_uses (T : Tx P w K mg base) : ∃ fd, FunD K "uses" "uses" (defArgs s_uses) (defBody s_uses) (defScope s_uses) [] [] (He.ga K "uses") fd := T.t.d.def_ 9 (d := d_uses) rfl
theorem sc_uses : FnScope ["note", "found", "one", "name"] ["note"] (defScope s_uses) := ⟨rfl, rfl, rfl, by decide +kernel, rfl, by decide +kernel, by decide +kernel⟩
theorem Tx.f_is_whole (T : Tx P w K mg base) : ∃ fd, FunD K "is_whole" "is_whole" (defArgs s_is_whole) (defBody s_is_whole) (defScope s_is_whole) [] [] (He.ga K "is_whole") fd := T.t.d.def_ 10 (d := d_is_whole) rfl
theorem sc_is_whole : FnScope ["note"] ["note"] (defScope s_is_whole) := ⟨rfl, rfl, rfl, by decide +kernel, rfl, by decide +kernel, by decide +kernel⟩
theorem Tx.f_better (T : Tx P w K mg base) : ∃ fd, FunD K "better" "better" (defArgs s_better) (defBody s_better) (defScope s_better) [] [] (He.ga K "better") fd := T.t.d.def_ 11 (d := d_better) rfl
theorem sc_better : FnScope ["one", "other"] ["one", "other"] (defScope s_better) := ⟨rfl, rfl, rfl, by decide +kernel, rfl, by decide +kernel, by decide +kernel⟩
theorem Tx.f_worse (T : Tx P w K mg base) : ∃ fd, FunD K "worse" "worse" (defArgs s_worse) (defBody s_worse) (defScope s_worse) [] [] (He.ga K "worse") fd := T.t.d.def_ 12 (d := d_worse) rfl
theorem sc_worse : FnScope ["one", "other"] ["one", "other"] (defScope s_worse) := ⟨rfl, rfl, rfl, by decide +kernel, rfl, by decide +kernel, by decide +kernel⟩
theorem Tx.f_value_at (T : Tx P w K mg base) : ∃ fd, FunD K "value_at" "value_at" (defArgs s_value_at) (defBody s_value_at) (defScope s_value_at) [] [] (He.ga K "value_at") fd := T.t.d.def_ 13 (d := d_value_at) rfl
theorem sc_value_at : FnScope ["value", "price", "way"] ["value", "price"] (defScope s_value_at) := ⟨rfl, rfl, rfl, by decide +kernel, rfl, by decide +kernel, by decide +kernel⟩
theorem Tx.f_thing_text (T : Tx P w K mg base) : ∃ fd, FunD K "thing_text" "thing_text" (defArgs s_thing_text) (defBody s_thing_text) (defScope s_thing_text) [] [] (He.ga K "thing_text") fd := T.t.d.def_ 14 (d := d_thing_text) rfl
theorem sc_thing_text : FnScope ["sign", "thing"] ["sign", "thing"] (defScope s_thing_text) := ⟨rfl, rfl, rfl, by decide +kernel, rfl, by decide +kernel, by decide +kernel⟩
theorem Tx.f_things_text (T : Tx P w K mg base) : ∃ fd, FunD K "things_text" "things_text" (defArgs s_things_text) (defBody s_things_text) (defScope s_things_text) [] [] (He.ga K "things_text") fd := T.t.d.def_ 15 (d := d_things_text) rfl
theorem sc_things_text : FnScope ["head", "form", "things", "sign", "one"] ["head", "form", "things"] (defScope s_things_text) := ⟨rfl, rfl, rfl, by decide +kernel, rfl, by decide +kernel, by decide +kernel⟩
theorem Tx.f_value_text (T : Tx P w K mg base) : ∃ fd, FunD K "value_text" "value_text" (defArgs s_value_text) (defBody s_value_text) (defScope s_value_text) [] [] (He.ga K "value_text") fd := T.t.d.def_ 16 (d := d_value_text) rfl
theorem sc_value_text : FnScope ["value", "head", "things"] ["value"] (defScope s_value_text) := ⟨rfl, rfl, rfl, by decide +kernel, rfl, by decide +kernel, by decide +kernel⟩
theorem Tx.f_note_text (T : Tx P w K mg base) : ∃ fd, FunD K "note_text" "note_text" (defArgs s_note_text) (defBody s_note_text) (defScope s_note_text) [] [] (He.ga K "note_text") fd := T.t.d.def_ 17 (d := d_note_text) rfl
theorem sc_note_text : FnScope ["note", "head", "things", "word", "rest"] ["note"] (defScope s_note_text) := ⟨rfl, rfl, rfl, by decide +kernel, rfl, by decide +kernel, by decide +kernel⟩
theorem Tx.f_both_of (T : Tx P w K mg base) : ∃ fd, FunD K "both_of" "both_of" (defArgs s_both_of) (defBody s_both_of) (defScope s_both_of) [] [] (He.ga K "both_of") fd := T.t.d.def_ 18 (d := d_both_of) rfl
theorem sc_both_of : FnScope ["one", "other"] ["one", "other"] (defScope s_both_of) := ⟨rfl, rfl, rfl, by decide +kernel, rfl, by decide +kernel, by decide +kernel⟩
theorem Tx.f_of_none (T : Tx P w K mg base) : ∃ fd, FunD K "of_none" "of_none" (defArgs s_of_none) (defBody s_of_none) (defScope s_of_none) [] [] (He.ga K "of_none") fd := T.t.d.def_ 19 (d := d_of_none) rfl
theorem sc_of_none : FnScope ["note", "date", "price", "answers"] ["note", "date", "price", "answers"] (defScope s_of_none) := ⟨rfl, rfl, rfl, by decide +kernel, rfl, by decide +kernel, by decide +kernel⟩
theorem Tx.f_of_pay (T : Tx P w K mg base) : ∃ fd, FunD K "of_pay" "of_pay" (defArgs s_of_pay) (defBody s_of_pay) (defScope s_of_pay) [] [] (He.ga K "of_pay") fd := T.t.d.def_ 20 (d := d_of_pay) rfl
theorem sc_of_pay : FnScope ["note", "date", "price", "answers"] ["note", "date", "price", "answers"] (defScope s_of_pay) := ⟨rfl, rfl, rfl, by decide +kernel, rfl, by decide +kernel, by decide +kernel⟩
theorem Tx.f_of_now (T : Tx P w K mg base) : ∃ fd, FunD K "of_now" "of_now" (defArgs s_of_now) (defBody s_of_now) (defScope s_of_now) [] [] (He.ga K "of_now") fd := T.t.d.def_ 21 (d := d_of_now) rfl
theorem sc_of_now : FnScope ["note", "date", "price", "answers"] ["note", "date", "price", "answers"] (defScope s_of_now) := ⟨rfl, rfl, rfl, by decide +kernel, rfl, by decide +kernel, by decide +kernel⟩
theorem Tx.f_of_both (T : Tx P w K mg base) : ∃ fd, FunD K "of_both" "of_both" (defArgs s_of_both) (defBody s_of_both) (defScope s_of_both) [] [] (He.ga K "of_both") fd := T.t.d.def_ 22 (d := d_of_both) rfl
theorem sc_of_both : FnScope ["note", "date", "price", "answers", "first", "second"] ["note", "date", "price", "answers"] (defScope s_of_both) := ⟨rfl, rfl, rfl, by decide +kernel, rfl, by decide +kernel, by decide +kernel⟩
theorem Tx.f_of_may (T : Tx P w K mg base) : ∃ fd, FunD K "of_may" "of_may" (defArgs s_of_may) (defBody s_of_may) (defScope s_of_may) [] [] (He.ga K "of_may") fd := T.t.d.def_ 23 (d := d_of_may) rfl
theorem sc_of_may : FnScope ["note", "date", "price", "answers", "head", "name", "owner", "begin", "stop", "stay", "leave", "found"] ["note", "date", "price", "answers"] (defScope s_of_may) := ⟨rfl, rfl, rfl, by decide +kernel, rfl, by decide +kernel, by decide +kernel⟩
theorem Tx.f_lived (T : Tx P w K mg base) : ∃ fd, FunD K "lived" "lived" (defArgs s_lived) (defBody s_lived) (defScope s_lived) [] [] (He.ga K "lived") fd := T.t.d.def_ 24 (d := d_lived) rfl
theorem sc_lived : FnScope ["note", "date", "price", "answers", "way"] ["note", "date", "price", "answers"] (defScope s_lived) := ⟨rfl, rfl, rfl, by decide +kernel, rfl, by decide +kernel, by decide +kernel⟩
theorem Tx.f_turned (T : Tx P w K mg base) : ∃ fd, FunD K "turned" "turned" (defArgs s_turned) (defBody s_turned) (defScope s_turned) [] [("answers", V.ref (kwAd ("turned", none) "answers" K))] (He.ga K "turned") fd := T.t.d.def_ 25 (d := d_turned) rfl
theorem sc_turned : FnScope ["note", "date", "price", "answers", "found"] ["note", "date", "price", "answers"] (defScope s_turned) := ⟨rfl, rfl, rfl, by decide +kernel, rfl, by decide +kernel, by decide +kernel⟩
theorem Tx.f_endings (T : Tx P w K mg base) : ∃ fd, FunD K "endings" "endings" (defArgs s_endings) (defBody s_endings) (defScope s_endings) [] [] (He.ga K "endings") fd := T.t.d.def_ 26 (d := d_endings) rfl
theorem sc_endings : FnScope ["note", "date", "price", "found", "todo", "answers", "told"] ["note", "date", "price"] (defScope s_endings) := ⟨rfl, rfl, rfl, by decide +kernel, rfl, by decide +kernel, by decide +kernel⟩
theorem Tx.f_look_both (T : Tx P w K mg base) : ∃ fd, FunD K "look_both" "look_both" (defArgs s_look_both) (defBody s_look_both) (defScope s_look_both) [] [] (He.ga K "look_both") fd := T.t.d.def_ 27 (d := d_look_both) rfl
theorem sc_look_both : FnScope ["lattice", "notes", "note", "win", "date", "node", "held"] ["lattice", "notes"] (defScope s_look_both) := ⟨rfl, rfl, rfl, by decide +kernel, rfl, by decide +kernel, by decide +kernel⟩
theorem Tx.f_Machine_init (T : Tx P w K mg base) : ∃ fd, FunD K "__init__" "Machine.__init__" (defArgs s_Machine_init) (defBody s_Machine_init) (defScope s_Machine_init) [] [] (He.ma K (He.ga K "Machine") "__init__") fd := T.t.d.def_ 28 (d := d_Machine_init) rfl
theorem sc_Machine_init : FnScope ["self", "lattice", "note", "here", "date", "node", "text", "at", "row"] ["self", "lattice", "note"] (defScope s_Machine_init) := ⟨rfl, rfl, rfl, by decide +kernel, rfl, by decide +kernel, by decide +kernel⟩
theorem Tx.f_Machine_len (T : Tx P w K mg base) : ∃ fd, FunD K "__len__" "Machine.__len__" (defArgs s_Machine_len) (defBody s_Machine_len) (defScope s_Machine_len) [] [] (He.ma K (He.ga K "Machine") "__len__") fd := T.t.d.def_ 29 (d := d_Machine_len) rfl
theorem sc_Machine_len : FnScope ["self"] ["self"] (defScope s_Machine_len) := ⟨rfl, rfl, rfl, by decide +kernel, rfl, by decide +kernel, by decide +kernel⟩
theorem Tx.f_Machine_later (T : Tx P w K mg base) : ∃ fd, FunD K "later" "Machine.later" (defArgs s_Machine_later) (defBody s_Machine_later) (defScope s_Machine_later) [] [] (He.ma K (He.ga K "Machine") "later") fd := T.t.d.def_ 30 (d := d_Machine_later) rfl
theorem sc_Machine_later : FnScope ["self", "date", "here", "found", "node", "text", "price", "answers", "paid", "rest", "step"] ["self", "date", "here"] (defScope s_Machine_later) := ⟨rfl, rfl, rfl, by decide +kernel, rfl, by decide +kernel, by decide +kernel⟩
theorem Tx.f_Machine_stand (T : Tx P w K mg base) : ∃ fd, FunD K "stand" "Machine.stand" (defArgs s_Machine_stand) (defBody s_Machine_stand) (defScope s_Machine_stand) [] [] (He.ma K (He.ga K "Machine") "stand") fd := T.t.d.def_ 31 (d := d_Machine_stand) rfl
theorem sc_Machine_stand : FnScope ["self", "number"] ["self", "number"] (defScope s_Machine_stand) := ⟨rfl, rfl, rfl, by decide +kernel, rfl, by decide +kernel, by decide +kernel⟩
theorem Tx.f_Machine_at (T : Tx P w K mg base) : ∃ fd, FunD K "at" "Machine.at" (defArgs s_Machine_at) (defBody s_Machine_at) (defScope s_Machine_at) [] [("answers", V.ref (kwAd ("Machine", some "at") "answers" K))] (He.ma K (He.ga K "Machine") "at") fd := T.t.d.def_ 32 (d := d_Machine_at) rfl
theorem sc_Machine_at : FnScope ["self", "number", "answers", "date", "node", "text"] ["self", "number", "answers"] (defScope s_Machine_at) := ⟨rfl, rfl, rfl, by decide +kernel, rfl, by decide +kernel, by decide +kernel⟩
theorem Tx.f_Machine_ahead (T : Tx P w K mg base) : ∃ fd, FunD K "ahead" "Machine.ahead" (defArgs s_Machine_ahead) (defBody s_Machine_ahead) (defScope s_Machine_ahead) [] [("answers", V.ref (kwAd ("Machine", some "ahead") "answers" K))] (He.ma K (He.ga K "Machine") "ahead") fd := T.t.d.def_ 33 (d := d_Machine_ahead) rfl
theorem sc_Machine_ahead : FnScope ["self", "number", "answers", "date", "node", "text", "found", "up", "down", "rest"] ["self", "number", "answers"] (defScope s_Machine_ahead) := ⟨rfl, rfl, rfl, by decide +kernel, rfl, by decide +kernel, by decide +kernel⟩
theorem Tx.f_weighed (T : Tx P w K mg base) : ∃ fd, FunD K "weighed" "weighed" (defArgs s_weighed) (defBody s_weighed) (defScope s_weighed) [] [] (He.ga K "weighed") fd := T.t.d.def_ 34 (d := d_weighed) rfl
theorem sc_weighed : FnScope ["lattice", "date", "node", "up", "down", "share"] ["lattice", "date", "node", "up", "down"] (defScope s_weighed) := ⟨rfl, rfl, rfl, by decide +kernel, rfl, by decide +kernel, by decide +kernel⟩
theorem Tx.f_chosen (T : Tx P w K mg base) : ∃ fd, FunD K "chosen" "chosen" (defArgs s_chosen) (defBody s_chosen) (defScope s_chosen) [] [] (He.ga K "chosen") fd := T.t.d.def_ 35 (d := d_chosen) rfl
theorem sc_chosen : FnScope ["owner", "yes", "no"] ["owner", "yes", "no"] (defScope s_chosen) := ⟨rfl, rfl, rfl, by decide +kernel, rfl, by decide +kernel, by decide +kernel⟩
theorem Tx.f_Worth_init (T : Tx P w K mg base) : ∃ fd, FunD K "__init__" "Worth.__init__" (defArgs s_Worth_init) (defBody s_Worth_init) (defScope s_Worth_init) [] [] (He.ma K (He.ga K "Worth") "__init__") fd := T.t.d.def_ 36 (d := d_Worth_init) rfl
theorem sc_Worth_init : FnScope ["self", "lattice", "note", "number"] ["self", "lattice", "note"] (defScope s_Worth_init) := ⟨rfl, rfl, rfl, by decide +kernel, rfl, by decide +kernel, by decide +kernel⟩
theorem Tx.f_Worth_reckoned (T : Tx P w K mg base) : ∃ fd, FunD K "reckoned" "Worth.reckoned" (defArgs s_Worth_reckoned) (defBody s_Worth_reckoned) (defScope s_Worth_reckoned) [] [] (He.ma K (He.ga K "Worth") "reckoned") fd := T.t.d.def_ 37 (d := d_Worth_reckoned) rfl
theorem sc_Worth_reckoned : FnScope ["self", "number", "answers", "found", "yes", "no", "following", "up", "down", "date", "node", "text"] ["self", "number", "answers"] (defScope s_Worth_reckoned) := ⟨rfl, rfl, rfl, by decide +kernel, rfl, by decide +kernel, by decide +kernel⟩
theorem Tx.f_Worth_worth (T : Tx P w K mg base) : ∃ fd, FunD K "worth" "Worth.worth" (defArgs s_Worth_worth) (defBody s_Worth_worth) (defScope s_Worth_worth) [V.int 0] [] (He.ma K (He.ga K "Worth") "worth") fd := T.t.d.def_ 38 (d := d_Worth_worth) rfl
theorem sc_Worth_worth : FnScope ["self", "number"] ["self", "number"] (defScope s_Worth_worth) := ⟨rfl, rfl, rfl, by decide +kernel, rfl, by decide +kernel, by decide +kernel⟩
theorem Tx.f_Worth_plan (T : Tx P w K mg base) : ∃ fd, FunD K "plan" "Worth.plan" (defArgs s_Worth_plan) (defBody s_Worth_plan) (defScope s_Worth_plan) [V.int 0] [("answers", V.ref (kwAd ("Worth", some "plan") "answers" K))] (He.ma K (He.ga K "Worth") "plan") fd := T.t.d.def_ 39 (d := d_Worth_plan) rfl
theorem sc_Worth_plan : FnScope ["self", "number", "answers", "found", "yes"] ["self", "number", "answers"] (defScope s_Worth_plan) := ⟨rfl, rfl, rfl, by decide +kernel, rfl, by decide +kernel, by decide +kernel⟩
theorem Tx.f_Worth_loss (T : Tx P w K mg base) : ∃ fd, FunD K "loss" "Worth.loss" (defArgs s_Worth_loss) (defBody s_Worth_loss) (defScope s_Worth_loss) [V.int 0] [("answers", V.ref (kwAd ("Worth", some "loss") "answers" K))] (He.ma K (He.ga K "Worth") "loss") fd := T.t.d.def_ 40 (d := d_Worth_loss) rfl
theorem sc_Worth_loss : FnScope ["self", "answer", "number", "answers", "found", "best", "told"] ["self", "answer", "number", "answers"] (defScope s_Worth_loss) := ⟨rfl, rfl, rfl, by decide +kernel, rfl, by decide +kernel, by decide +kernel⟩
theorem Tx.f_Worth_region (T : Tx P w K mg base) : ∃ fd, FunD K "region" "Worth.region" (defArgs s_Worth_region) (defBody s_Worth_region) (defScope s_Worth_region) [] [] (He.ma K (He.ga K "Worth") "region") fd := T.t.d.def_ 41 (d := d_Worth_region) rfl
theorem sc_Worth_region : FnScope ["self", "name", "found", "number", "todo", "answers", "told"] ["self", "name"] (defScope s_Worth_region) := ⟨rfl, rfl, rfl, by decide +kernel, rfl, by decide +kernel, by decide +kernel⟩
theorem Tx.f_look_shape (T : Tx P w K mg base) : ∃ fd, FunD K "look_shape" "look_shape" (defArgs s_look_shape) (defBody s_look_shape) (defScope s_look_shape) [] [] (He.ga K "look_shape") fd := T.t.d.def_ 42 (d := d_look_shape) rfl
theorem sc_look_shape : FnScope ["prices", "rates", "steps", "date", "row"] ["prices", "rates", "steps"] (defScope s_look_shape) := ⟨rfl, rfl, rfl, by decide +kernel, rfl, by decide +kernel, by decide +kernel⟩
theorem Tx.f_look_above (T : Tx P w K mg base) : ∃ fd, FunD K "look_above" "look_above" (defArgs s_look_above) (defBody s_look_above) (defScope s_look_above) [] [] (He.ga K "look_above") fd := T.t.d.def_ 43 (d := d_look_above) rfl
theorem sc_look_above : FnScope ["rows", "rated", "date", "row", "node", "over", "under"] ["rows", "rated"] (defScope s_look_above) := ⟨rfl, rfl, rfl, by decide +kernel, rfl, by decide +kernel, by decide +kernel⟩
theorem Tx.f_look_steps (T : Tx P w K mg base) : ∃ fd, FunD K "look_steps" "look_steps" (defArgs s_look_steps) (defBody s_look_steps) (defScope s_look_steps) [] [] (He.ga K "look_steps") fd := T.t.d.def_ 44 (d := d_look_steps) rfl
theorem sc_look_steps : FnScope ["prices", "steps", "date", "row", "later", "node", "up", "down"] ["prices", "steps"] (defScope s_look_steps) := ⟨rfl, rfl, rfl, by decide +kernel, rfl, by decide +kernel, by decide +kernel⟩
theorem Tx.f_Lattice_init (T : Tx P w K mg base) : ∃ fd, FunD K "__init__" "Lattice.__init__" (defArgs s_Lattice_init) (defBody s_Lattice_init) (defScope s_Lattice_init) [] [] (He.ma K (He.ga K "Lattice") "__init__") fd := T.t.d.def_ 45 (d := d_Lattice_init) rfl
theorem sc_Lattice_init : FnScope ["self", "prices", "rates", "steps", "row", "up", "down"] ["self", "prices", "rates", "steps"] (defScope s_Lattice_init) := ⟨rfl, rfl, rfl, by decide +kernel, rfl, by decide +kernel, by decide +kernel⟩
theorem Tx.f_Lattice_last (T : Tx P w K mg base) : ∃ fd, FunD K "last" "Lattice.last" (defArgs s_Lattice_last) (defBody s_Lattice_last) (defScope s_Lattice_last) [] [] (He.ma K (He.ga K "Lattice") "last") fd := T.t.d.def_ 46 (d := d_Lattice_last) rfl
theorem sc_Lattice_last : FnScope ["self"] ["self"] (defScope s_Lattice_last) := ⟨rfl, rfl, rfl, by decide +kernel, rfl, by decide +kernel, by decide +kernel⟩
theorem Tx.f_Lattice_many (T : Tx P w K mg base) : ∃ fd, FunD K "many" "Lattice.many" (defArgs s_Lattice_many) (defBody s_Lattice_many) (defScope s_Lattice_many) [] [] (He.ma K (He.ga K "Lattice") "many") fd := T.t.d.def_ 47 (d := d_Lattice_many) rfl
theorem sc_Lattice_many : FnScope ["self", "date"] ["self", "date"] (defScope s_Lattice_many) := ⟨rfl, rfl, rfl, by decide +kernel, rfl, by decide +kernel, by decide +kernel⟩
theorem Tx.f_Lattice_look_node (T : Tx P w K mg base) : ∃ fd, FunD K "look_node" "Lattice.look_node" (defArgs s_Lattice_look_node) (defBody s_Lattice_look_node) (defScope s_Lattice_look_node) [] [("stepping", V.bl true)] (He.ma K (He.ga K "Lattice") "look_node") fd := T.t.d.def_ 48 (d := d_Lattice_look_node) rfl
theorem sc_Lattice_look_node : FnScope ["self", "date", "node", "stepping"] ["self", "date", "node", "stepping"] (defScope s_Lattice_look_node) := ⟨rfl, rfl, rfl, by decide +kernel, rfl, by decide +kernel, by decide +kernel⟩
theorem Tx.f_Lattice_price (T : Tx P w K mg base) : ∃ fd, FunD K "price" "Lattice.price" (defArgs s_Lattice_price) (defBody s_Lattice_price) (defScope s_Lattice_price) [] [] (He.ma K (He.ga K "Lattice") "price") fd := T.t.d.def_ 49 (d := d_Lattice_price) rfl
theorem sc_Lattice_price : FnScope ["self", "date", "node"] ["self", "date", "node"] (defScope s_Lattice_price) := ⟨rfl, rfl, rfl, by decide +kernel, rfl, by decide +kernel, by decide +kernel⟩
theorem Tx.f_Lattice_rate (T : Tx P w K mg base) : ∃ fd, FunD K "rate" "Lattice.rate" (defArgs s_Lattice_rate) (defBody s_Lattice_rate) (defScope s_Lattice_rate) [] [] (He.ma K (He.ga K "Lattice") "rate") fd := T.t.d.def_ 50 (d := d_Lattice_rate) rfl
theorem sc_Lattice_rate : FnScope ["self", "date", "node"] ["self", "date", "node"] (defScope s_Lattice_rate) := ⟨rfl, rfl, rfl, by decide +kernel, rfl, by decide +kernel, by decide +kernel⟩
theorem Tx.f_Lattice_step (T : Tx P w K mg base) : ∃ fd, FunD K "step" "Lattice.step" (defArgs s_Lattice_step) (defBody s_Lattice_step) (defScope s_Lattice_step) [] [] (He.ma K (He.ga K "Lattice") "step") fd := T.t.d.def_ 51 (d := d_Lattice_step) rfl
theorem sc_Lattice_step : FnScope ["self", "date", "node"] ["self", "date", "node"] (defScope s_Lattice_step) := ⟨rfl, rfl, rfl, by decide +kernel, rfl, by decide +kernel, by decide +kernel⟩
theorem Tx.f_Lattice_sides (T : Tx P w K mg base) : ∃ fd, FunD K "sides" "Lattice.sides" (defArgs s_Lattice_sides) (defBody s_Lattice_sides) (defScope s_Lattice_sides) [] [] (He.ma K (He.ga K "Lattice") "sides") fd := T.t.d.def_ 52 (d := d_Lattice_sides) rfl
theorem sc_Lattice_sides : FnScope ["self", "date", "node", "up", "down", "later"] ["self", "date", "node"] (defScope s_Lattice_sides) := ⟨rfl, rfl, rfl, by decide +kernel, rfl, by decide +kernel, by decide +kernel⟩
theorem Tx.f_Lattice_share (T : Tx P w K mg base) : ∃ fd, FunD K "share" "Lattice.share" (defArgs s_Lattice_share) (defBody s_Lattice_share) (defScope s_Lattice_share) [] [] (He.ma K (He.ga K "Lattice") "share") fd := T.t.d.def_ 53 (d := d_Lattice_share) rfl
theorem sc_Lattice_share : FnScope ["self", "date", "node", "grown", "high", "low"] ["self", "date", "node"] (defScope s_Lattice_share) := ⟨rfl, rfl, rfl, by decide +kernel, rfl, by decide +kernel, by decide +kernel⟩
theorem Tx.f_Lattice_win (T : Tx P w K mg base) : ∃ fd, FunD K "win" "Lattice.win" (defArgs s_Lattice_win) (defBody s_Lattice_win) (defScope s_Lattice_win) [] [] (He.ma K (He.ga K "Lattice") "win") fd := T.t.d.def_ 54 (d := d_Lattice_win) rfl
theorem sc_Lattice_win : FnScope ["self", "date", "node", "grown", "high", "low", "price"] ["self"] (defScope s_Lattice_win) := ⟨rfl, rfl, rfl, by decide +kernel, rfl, by decide +kernel, by decide +kernel⟩
theorem Tx.f_law_box (T : Tx P w K mg base) : ∃ fd, FunD K "_law_box" "_law_box" (defArgs s_law_box) (defBody s_law_box) (defScope s_law_box) [] [] (He.ga K "_law_box") fd := T.t.d.def_ 55 (d := d_law_box) rfl
theorem sc_law_box : FnScope ["_law_script"] ["_law_script"] (defScope s_law_box) := ⟨rfl, rfl, rfl, by decide +kernel, rfl, by decide +kernel, by decide +kernel⟩
theorem Tx.f_law_take (T : Tx P w K mg base) : ∃ fd, FunD K "_law_take" "_law_take" (defArgs s_law_take) (defBody s_law_take) (defScope s_law_take) [] [] (He.ga K "_law_take") fd := T.t.d.def_ 56 (d := d_law_take) rfl
theorem sc_law_take : FnScope ["_law_box_here", "_law_many", "_law_cell", "_law_seed", "_law_got"] ["_law_box_here", "_law_many"] (defScope s_law_take) := ⟨rfl, rfl, rfl, by decide +kernel, rfl, by decide +kernel, by decide +kernel⟩
theorem Tx.f_law_one (T : Tx P w K mg base) : ∃ fd, FunD K "_law_one" "_law_one" (defArgs s_law_one) (defBody s_law_one) (defScope s_law_one) [] [] (He.ga K "_law_one") fd := T.t.d.def_ 57 (d := d_law_one) rfl
theorem sc_law_one : FnScope ["_law_box_here", "_law_some"] ["_law_box_here", "_law_some"] (defScope s_law_one) := ⟨rfl, rfl, rfl, by decide +kernel, rfl, by decide +kernel, by decide +kernel⟩
theorem Tx.f_law_near (T : Tx P w K mg base) : ∃ fd, FunD K "_law_near" "_law_near" (defArgs s_law_near) (defBody s_law_near) (defScope s_law_near) [] [] (He.ga K "_law_near") fd := T.t.d.def_ 58 (d := d_law_near) rfl
theorem sc_law_near : FnScope ["_law_box_here", "_law_far"] ["_law_box_here", "_law_far"] (defScope s_law_near) := ⟨rfl, rfl, rfl, by decide +kernel, rfl, by decide +kernel, by decide +kernel⟩
theorem Tx.f_law_same (T : Tx P w K mg base) : ∃ fd, FunD K "_law_same" "_law_same" (defArgs s_law_same) (defBody s_law_same) (defScope s_law_same) [] [] (He.ga K "_law_same") fd := T.t.d.def_ 59 (d := d_law_same) rfl
theorem sc_law_same : FnScope ["_law_found", "_law_due", "_law_one_here", "_law_other"] ["_law_found", "_law_due"] (defScope s_law_same) := ⟨rfl, rfl, rfl, by decide +kernel, rfl, by decide +kernel, by decide +kernel⟩
theorem Tx.f_law_common (T : Tx P w K mg base) : ∃ fd, FunD K "_law_common" "_law_common" (defArgs s_law_common) (defBody s_law_common) (defScope s_law_common) [] [] (He.ga K "_law_common") fd := T.t.d.def_ 60 (d := d_law_common) rfl
theorem sc_law_common : FnScope ["_law_one_here", "_law_other"] ["_law_one_here", "_law_other"] (defScope s_law_common) := ⟨rfl, rfl, rfl, by decide +kernel, rfl, by decide +kernel, by decide +kernel⟩
theorem Tx.f_law_low (T : Tx P w K mg base) : ∃ fd, FunD K "_law_low" "_law_low" (defArgs s_law_low) (defBody s_law_low) (defScope s_law_low) [] [] (He.ga K "_law_low") fd := T.t.d.def_ 61 (d := d_law_low) rfl
theorem sc_law_low : FnScope ["_law_num", "_law_den", "_law_part_of"] ["_law_num", "_law_den"] (defScope s_law_low) := ⟨rfl, rfl, rfl, by decide +kernel, rfl, by decide +kernel, by decide +kernel⟩
theorem Tx.f_law_sum (T : Tx P w K mg base) : ∃ fd, FunD K "_law_sum" "_law_sum" (defArgs s_law_sum) (defBody s_law_sum) (defScope s_law_sum) [] [] (He.ga K "_law_sum") fd := T.t.d.def_ 62 (d := d_law_sum) rfl
theorem sc_law_sum : FnScope ["_law_one_here", "_law_other"] ["_law_one_here", "_law_other"] (defScope s_law_sum) := ⟨rfl, rfl, rfl, by decide +kernel, rfl, by decide +kernel, by decide +kernel⟩
theorem Tx.f_law_less_by (T : Tx P w K mg base) : ∃ fd, FunD K "_law_less_by" "_law_less_by" (defArgs s_law_less_by) (defBody s_law_less_by) (defScope s_law_less_by) [] [] (He.ga K "_law_less_by") fd := T.t.d.def_ 63 (d := d_law_less_by) rfl
theorem sc_law_less_by : FnScope ["_law_one_here", "_law_other"] ["_law_one_here", "_law_other"] (defScope s_law_less_by) := ⟨rfl, rfl, rfl, by decide +kernel, rfl, by decide +kernel, by decide +kernel⟩
theorem Tx.f_law_product (T : Tx P w K mg base) : ∃ fd, FunD K "_law_product" "_law_product" (defArgs s_law_product) (defBody s_law_product) (defScope s_law_product) [] [] (He.ga K "_law_product") fd := T.t.d.def_ 64 (d := d_law_product) rfl
theorem sc_law_product : FnScope ["_law_one_here", "_law_other"] ["_law_one_here", "_law_other"] (defScope s_law_product) := ⟨rfl, rfl, rfl, by decide +kernel, rfl, by decide +kernel, by decide +kernel⟩
theorem Tx.f_law_share_of (T : Tx P w K mg base) : ∃ fd, FunD K "_law_share_of" "_law_share_of" (defArgs s_law_share_of) (defBody s_law_share_of) (defScope s_law_share_of) [] [] (He.ga K "_law_share_of") fd := T.t.d.def_ 65 (d := d_law_share_of) rfl
theorem sc_law_share_of : FnScope ["_law_one_here", "_law_other"] ["_law_one_here", "_law_other"] (defScope s_law_share_of) := ⟨rfl, rfl, rfl, by decide +kernel, rfl, by decide +kernel, by decide +kernel⟩
theorem Tx.f_law_under (T : Tx P w K mg base) : ∃ fd, FunD K "_law_under" "_law_under" (defArgs s_law_under) (defBody s_law_under) (defScope s_law_under) [] [] (He.ga K "_law_under") fd := T.t.d.def_ 66 (d := d_law_under) rfl
theorem sc_law_under : FnScope ["_law_one_here", "_law_other"] ["_law_one_here", "_law_other"] (defScope s_law_under) := ⟨rfl, rfl, rfl, by decide +kernel, rfl, by decide +kernel, by decide +kernel⟩
theorem Tx.f_law_coin (T : Tx P w K mg base) : ∃ fd, FunD K "_law_coin" "_law_coin" (defArgs s_law_coin) (defBody s_law_coin) (defScope s_law_coin) [] [] (He.ga K "_law_coin") fd := T.t.d.def_ 67 (d := d_law_coin) rfl
theorem sc_law_coin : FnScope ["_law_box_here", "_law_far"] ["_law_box_here", "_law_far"] (defScope s_law_coin) := ⟨rfl, rfl, rfl, by decide +kernel, rfl, by decide +kernel, by decide +kernel⟩
theorem Tx.f_law_above (T : Tx P w K mg base) : ∃ fd, FunD K "_law_above" "_law_above" (defArgs s_law_above) (defBody s_law_above) (defScope s_law_above) [] [] (He.ga K "_law_above") fd := T.t.d.def_ 68 (d := d_law_above) rfl
theorem sc_law_above : FnScope ["_law_box_here", "_law_far"] ["_law_box_here", "_law_far"] (defScope s_law_above) := ⟨rfl, rfl, rfl, by decide +kernel, rfl, by decide +kernel, by decide +kernel⟩
theorem Tx.f_law_rows_between (T : Tx P w K mg base) : ∃ fd, FunD K "_law_rows_between" "_law_rows_between" (defArgs s_law_rows_between) (defBody s_law_rows_between) (defScope s_law_rows_between) [] [] (He.ga K "_law_rows_between") fd := T.t.d.def_ 69 (d := d_law_rows_between) rfl
theorem sc_law_rows_between : FnScope ["_law_box_here", "_law_dates", "_law_most", "_law_prices", "_law_date", "_law_row", "_law_k", "_law_price"] ["_law_box_here", "_law_dates", "_law_most"] (defScope s_law_rows_between) := ⟨rfl, rfl, rfl, by decide +kernel, rfl, by decide +kernel, by decide +kernel⟩
theorem Tx.f_law_steps_between (T : Tx P w K mg base) : ∃ fd, FunD K "_law_steps_between" "_law_steps_between" (defArgs s_law_steps_between) (defBody s_law_steps_between) (defScope s_law_steps_between) [] [] (He.ga K "_law_steps_between") fd := T.t.d.def_ 70 (d := d_law_steps_between) rfl
theorem sc_law_steps_between : FnScope ["_law_box_here", "_law_row", "_law_one_here", "_law_other", "_law_k"] ["_law_box_here", "_law_row"] (defScope s_law_steps_between) := ⟨rfl, rfl, rfl, by decide +kernel, rfl, by decide +kernel, by decide +kernel⟩
theorem Tx.f_law_fair (T : Tx P w K mg base) : ∃ fd, FunD K "_law_fair" "_law_fair" (defArgs s_law_fair) (defBody s_law_fair) (defScope s_law_fair) [] [] (He.ga K "_law_fair") fd := T.t.d.def_ 71 (d := d_law_fair) rfl
theorem sc_law_fair : FnScope ["_law_box_here", "_law_dates", "_law_most", "_law_prices", "_law_rates", "_law_steps", "_law_date", "_law_price", "_law_up", "_law_down", "_law_whole", "_law_share", "_law_high", "_law_low_here", "_law_grown"] ["_law_box_here", "_law_dates", "_law_most"] (defScope s_law_fair) := ⟨rfl, rfl, rfl, by decide +kernel, rfl, by decide +kernel, by decide +kernel⟩
theorem Tx.f_law_web (T : Tx P w K mg base) : ∃ fd, FunD K "_law_web" "_law_web" (defArgs s_law_web) (defBody s_law_web) (defScope s_law_web) [] [] (He.ga K "_law_web") fd := T.t.d.def_ 72 (d := d_law_web) rfl
theorem sc_law_web : FnScope ["_law_web_here"] ["_law_web_here"] (defScope s_law_web) := ⟨rfl, rfl, rfl, by decide +kernel, rfl, by decide +kernel, by decide +kernel⟩
theorem Tx.f_law_value (T : Tx P w K mg base) : ∃ fd, FunD K "_law_value" "_law_value" (defArgs s_law_value) (defBody s_law_value) (defScope s_law_value) [] [] (He.ga K "_law_value") fd := T.t.d.def_ 73 (d := d_law_value) rfl
theorem sc_law_value : FnScope ["_law_box_here", "_law_deep", "_law_kind", "_law_word"] ["_law_box_here", "_law_deep"] (defScope s_law_value) := ⟨rfl, rfl, rfl, by decide +kernel, rfl, by decide +kernel, by decide +kernel⟩
theorem Tx.f_law (T : Tx P w K mg base) : ∃ fd, FunD K "law" "law" (defArgs s_law) (defBody s_law) (defScope s_law) [] [] (He.ga K "law") fd := T.t.d.def_ 74 (d := d_law) rfl
theorem sc_law : FnScope ["_law_script", "_law_box_here", "_law_made", "_law_turn", "_law_value_here", "_law_date", "_law_stay", "_law_owner", "_law_sign", "_law_cost", "_law_fee", "_law_right", "_law_table"] ["_law_script"] (defScope s_law) := ⟨rfl, rfl, rfl, by decide +kernel, rfl, by decide +kernel, by decide +kernel⟩
/-! ### a def as a constant, by its body -/
/-- a def without defaults -/
theorem mkC {x : Str} {st : Stmt} {N ps : List Str} {k : Nat} {sp : Sp} (F : ∃ fd, FunD K x x (defArgs st) (defBody st) (defScope st) [] [] (He.ga K x) fd) (hm : mg x = some (.ref (He.ga K x))) (S : FnScope N ps (defScope st)) (len : ∀ vs H Q E, sp vs H Q E → vs.length = ps.length)
    (hb : ∀ (kV doc pm : Value) (an : Option Addr) (cdv ct : Value) (us : List Value), us.length = ps.length → bindArgs (PySem.W.fnOf x x (defArgs st) (defBody st) (defScope st) .none kV doc pm an cdv ct) ⟨us, []⟩ = pure (ps.zip us))
    (hbody : ∀ (cdv : Value) (A : Around) (outer : List Env) (s : Shared) (H : Hp) (vs : List V) (Q : VK) (E : XK), Room k (A.deeper (envOfC x (defScope st) s.heap.objs.size (He.ga K x) cdv)) → sp vs H Q E →
      ∃ t, PSs (cxOf CX0 P w K mg base N x (defScope st) (He.ga K x) cdv A outer s H E).nox (defBody st) t ∧ t { nx := fun _ H' => Q .non H', rt := Q } (start N vs) H) : Cal P w K mg base (k + 1) x sp [] := by
  obtain ⟨fd, F⟩ := F
  refine ⟨He.ga K x, fd, ps, [], F.ok S len (fun cdv A outer s H vs Q E hr hsp => ?_), hm, F.kp, F.bindsN hb, .nil⟩
  obtain ⟨t, h, q⟩ := hbody cdv A outer s H vs Q E hr hsp
  exact ⟨t, h.nox, q⟩
/-- a method without defaults -/
theorem mkM {c m qual : Str} {st : Stmt} {N ps : List Str} {k : Nat} {sp : Sp} (cl : Cls K (He.ga K c)) (me : Meth K (He.ga K c) m (He.ma K (He.ga K c) m)) (F : ∃ fd, FunD K m qual (defArgs st) (defBody st) (defScope st) [] [] (He.ma K (He.ga K c) m) fd) (S : FnScope N ps (defScope st))
    (len : ∀ vs H Q E, sp vs H Q E → vs.length = ps.length)
    (hb : ∀ (kV doc pm : Value) (an : Option Addr) (cdv ct : Value) (us : List Value), us.length = ps.length → bindArgs (PySem.W.fnOf m qual (defArgs st) (defBody st) (defScope st) .none kV doc pm an cdv ct) ⟨us, []⟩ = pure (ps.zip us))
    (hbody : ∀ (cdv : Value) (A : Around) (outer : List Env) (s : Shared) (H : Hp) (vs : List V) (Q : VK) (E : XK), Room k (A.deeper (envOfC qual (defScope st) s.heap.objs.size (He.ma K (He.ga K c) m) cdv)) → sp vs H Q E →
      ∃ t, PSs (cxOf CX0 P w K mg base N qual (defScope st) (He.ma K (He.ga K c) m) cdv A outer s H E).nox (defBody st) t ∧ t { nx := fun _ H' => Q .non H', rt := Q } (start N vs) H) : Met P w K mg base (k + 1) (He.ga K c) m sp [] := by
  obtain ⟨fd, F⟩ := F
  refine ⟨_, fd, ps, [], cl, me, F.ok S len (fun cdv A outer s H vs Q E hr hsp => ?_), F.bindsN hb, .nil⟩
  obtain ⟨t, h, q⟩ := hbody cdv A outer s H vs Q E hr hsp
  exact ⟨t, h.nox, q⟩
/-- a class by its __init__ without defaults -/
theorem mkI {c qual : Str} {st : Stmt} {N ps : List Str} {k : Nat} {sp : Sp} (M : Mk K (He.ga K c) (He.ma K (He.ga K c) "__init__")) (hm : mg c = some (.ref (He.ga K c))) (F : ∃ fd, FunD K "__init__" qual (defArgs st) (defBody st) (defScope st) [] [] (He.ma K (He.ga K c) "__init__") fd) (S : FnScope N ps (defScope st))
    (len : ∀ vs H Q E, sp vs H Q E → vs.length = ps.length)
    (hb : ∀ (kV doc pm : Value) (an : Option Addr) (cdv ct : Value) (us : List Value), us.length = ps.length → bindArgs (PySem.W.fnOf "__init__" qual (defArgs st) (defBody st) (defScope st) .none kV doc pm an cdv ct) ⟨us, []⟩ = pure (ps.zip us))
    (hbody : ∀ (cdv : Value) (A : Around) (outer : List Env) (s : Shared) (H : Hp) (vs : List V) (Q : VK) (E : XK), Room k (A.deeper (envOfC qual (defScope st) s.heap.objs.size (He.ma K (He.ga K c) "__init__") cdv)) → sp vs H Q E →
      ∃ t, PSs (cxOf CX0 P w K mg base N qual (defScope st) (He.ma K (He.ga K c) "__init__") cdv A outer s H E).nox (defBody st) t ∧ t { nx := fun _ H' => Q .non H', rt := Q } (start N vs) H) : Mak P w K mg base (k + 1) c (He.ga K c) sp [] := by
  obtain ⟨fd, F⟩ := F
  refine ⟨_, fd, ps, [], M, F.ok S len (fun cdv A outer s H vs Q E hr hsp => ?_), hm, F.bindsN hb, .nil⟩
  obtain ⟨t, h, q⟩ := hbody cdv A outer s H vs Q E hr hsp
  exact ⟨t, h.nox, q⟩
end
/-! ### promises by the number of arguments -/
def sp1 (f : V → Hp → VK → Prop) : Sp := fun vs H Q _ => ∃ a, vs = [a] ∧ f a H Q
def sp2 (f : V → V → Hp → VK → Prop) : Sp := fun vs H Q _ => ∃ a b, vs = [a, b] ∧ f a b H Q
def sp3 (f : V → V → V → Hp → VK → Prop) : Sp := fun vs H Q _ => ∃ a b c, vs = [a, b, c] ∧ f a b c H Q
def sp4 (f : V → V → V → V → Hp → VK → Prop) : Sp := fun vs H Q _ => ∃ a b c d, vs = [a, b, c, d] ∧ f a b c d H Q
def sp5 (f : V → V → V → V → V → Hp → VK → Prop) : Sp := fun vs H Q _ => ∃ a b c d e, vs = [a, b, c, d, e] ∧ f a b c d e H Q
theorem len1 {f} : ∀ vs H Q E, sp1 f vs H Q E → vs.length = 1 := fun _ _ _ _ ⟨_, e, _⟩ => by rw [e]; rfl
theorem len2 {f} : ∀ vs H Q E, sp2 f vs H Q E → vs.length = 2 := fun _ _ _ _ ⟨_, _, e, _⟩ => by rw [e]; rfl
theorem len3 {f} : ∀ vs H Q E, sp3 f vs H Q E → vs.length = 3 := fun _ _ _ _ ⟨_, _, _, e, _⟩ => by rw [e]; rfl
theorem len4 {f} : ∀ vs H Q E, sp4 f vs H Q E → vs.length = 4 := fun _ _ _ _ ⟨_, _, _, _, e, _⟩ => by rw [e]; rfl
theorem len5 {f} : ∀ vs H Q E, sp5 f vs H Q E → vs.length = 5 := fun _ _ _ _ ⟨_, _, _, _, _, e, _⟩ => by rw [e]; rfl
/-! ### heaps -/
theorem same_new {H : Hp} {p : Addr} {o : HO} (h : H p = none) : Same H (upd H p o) := fun b u e => by
  rw [upd_ne (ne_of_none e h)]
  exact e
theorem same_t {K : PySem.W.Frag} {H H' : Hp} {a : Addr} {xs : List V} (e : Same H H') (h : SqT K H a xs) : SqT K H' a xs := by
  rcases h with (h | ⟨o, h⟩) | h
  · exact .inl (.inl (e _ _ h))
  · exact .inl (.inr ⟨o, e _ _ h⟩)
  · exact .inr h
/-- what is tracked stands, but at the places M -/
def Kp (M : Addr → Prop) (H H' : Hp) : Prop := ∀ b o, H b = some o → ¬ M b → H' b = some o
theorem Kp.refl (M : Addr → Prop) (H : Hp) : Kp M H H := fun _ _ h _ => h
theorem Kp.trans {M : Addr → Prop} {H H1 H2 : Hp} (a : Kp M H H1) (b : Kp M H1 H2) : Kp M H H2 := fun c o h m => b c o (a c o h m) m
theorem Same.kp {M : Addr → Prop} {H H' : Hp} (e : Same H H') : Kp M H H' := fun b o h _ => e b o h
theorem kp_upd {M : Addr → Prop} {H : Hp} {p : Addr} {o : HO} (h : M p) : Kp M H (upd H p o) := fun b u e m => by
  rw [upd_ne (fun z => m (by rw [z]; exact h))]
  exact e
theorem Kp.t {K : PySem.W.Frag} {M : Addr → Prop} {H H' : Hp} {a : Addr} {xs : List V} (e : Kp M H H') (h : SqT K H a xs) (m : ∀ xs, (H a = some (.tup xs) ∨ ∃ o, H a = some (.frz o (.tup xs))) → ¬ M a) : SqT K H' a xs := by
  rcases h with (h | ⟨o, h⟩) | h
  · exact .inl (.inl (e _ _ h (m xs (.inl h))))
  · exact .inl (.inr ⟨o, e _ _ h (m xs (.inr ⟨o, h⟩))⟩)
  · exact .inr h
theorem Kp.l {K : PySem.W.Frag} {M : Addr → Prop} {H H' : Hp} {a : Addr} {xs : List V} (e : Kp M H H') (h : SqL K H a xs) (m : ¬ M a) : SqL K H' a xs := by
  rcases h with (h | ⟨o, h⟩) | h
  · exact .inl (.inl (e _ _ h m))
  · exact .inl (.inr ⟨o, e _ _ h m⟩)
  · exact .inr h
theorem sz_le {n : Nat} (h : n ≤ 100000) : n ≤ sizeLine := Nat.le_trans h (by decide)
theorem sz_lt {n : Nat} (h : n < 100000) : n < sizeLine := Nat.lt_of_lt_of_le h (by decide)
/-- the written tuples -/
theorem tupA_ok {K : PySem.W.Frag} {a : Addr} {vs : List V} (h : tupA K a vs = true) (H : Hp) : SqT K H a vs := by
  unfold tupA at h
  cases q : K.lookup a with
  | none => rw [q] at h; cases h
  | some o =>
    obtain ⟨oc, od, dt, osl⟩ := o
    rw [q] at h
    cases oc with
    | type c =>
      cases dt with
      | seq its n =>
        obtain ⟨h1, h2⟩ := ba (show (decide (c = "tuple") && (decide (its.size ≤ sizeLine) && He.relAll vs its.toList)) = true from h)
        obtain ⟨h3, h4⟩ := ba h2
        exact .inr ⟨_, its, n, q, congrArg Value.type (of_decide_eq_true h1), rfl, of_decide_eq_true h3, He.relAll_ok h4⟩
      | _ => cases h
    | _ => cases dt <;> cases h
end K37
set_option Elab.async false
set_option linter.all false
set_option maxRecDepth 100000
set_option maxHeartbeats 0
namespace K37
open PySem PySem.Spec PyProof.Rows L2
def loose0 : List Str := [("_wall" : Str), ("__name__" : Str), ("LoomError" : Str), ("Missing" : Str), ("BadShape" : Str), ("BadPrice" : Str), ("BadRate" : Str), ("BadStep" : Str), ("Winning" : Str), ("NotWhole" : Str), ("NothingAsked" : Str), ("NoNode" : Str), ("NoStand" : Str), ("NOUGHT" : Str), ("ONE" : Str), ("common" : Str), ("lowest" : Str), ("plus" : Str), ("minus" : Str), ("times" : Str), ("by" : Str), ("less" : Str), ("amount_text" : Str), ("VALUES" : Str), ("NOTES" : Str), ("NONE" : Str), ("inner" : Str), ("uses" : Str), ("is_whole" : Str), ("better" : Str), ("worse" : Str), ("PAIRS" : Str), ("value_at" : Str), ("thing_text" : Str), ("things_text" : Str)]
def loose1 : List Str := [("value_text" : Str), ("note_text" : Str), ("both_of" : Str), ("turned_owner" : Str), ("of_none" : Str), ("of_pay" : Str), ("of_now" : Str), ("of_both" : Str), ("of_times" : Str), ("of_turn" : Str), ("of_till" : Str), ("of_may" : Str), ("of_seen" : Str), ("WAYS" : Str), ("lived" : Str), ("turned" : Str), ("endings" : Str), ("look_both" : Str), ("Machine" : Str), ("weighed" : Str), ("chosen" : Str), ("Worth" : Str), ("MOST_DATES" : Str), ("MOST_NODES" : Str), ("look_shape" : Str), ("look_above" : Str), ("look_steps" : Str), ("Lattice" : Str), ("_law_box" : Str), ("_law_take" : Str), ("_law_one" : Str), ("_law_near" : Str), ("_law_same" : Str), ("_law_common" : Str), ("_law_low" : Str)]
def loose2 : List Str := [("_law_sum" : Str), ("_law_less_by" : Str), ("_law_product" : Str), ("_law_share_of" : Str), ("_law_under" : Str), ("_law_coin" : Str), ("_law_above" : Str), ("_law_rows_between" : Str), ("_law_steps_between" : Str), ("_law_fair" : Str), ("_law_web" : Str), ("_law_value" : Str)]
def loose : List Str := loose0 ++ loose1 ++ loose2
abbrev R : PySem.W.OpenRow := PySem.W.OpenLaw.row PySem.Challenge.rw_strikeloom_k37_whole_rights_of_no_use
/-- the places of what is looked at -/
def as0 : List Addr := [
  3, 757, 756, 532, 531, 636, 635, 227, 226, 234, 233, 241, 240, 248, 247, 255, 254, 262, 261, 269, 268, 276, 275, 284, 283, 289, 288, 296, 295, 303,
  302, 310, 309, 318, 317, 325, 324, 330, 329, 337, 336, 344, 343, 351, 350, 365, 364, 372, 371, 379, 378, 386, 385, 414, 413, 429, 428, 438, 437, 431,
  430, 445, 444, 450, 449, 462, 461, 469, 468, 476, 475, 504, 503, 513, 512, 506, 505, 522, 521, 515, 514, 543, 542, 550, 549, 564, 563, 578, 577, 586,
  585, 579, 606, 605, 598, 599, 597, 616, 615, 608, 609, 607, 633, 632, 647, 646, 654, 653, 661, 660, 673, 672, 697, 696, 704, 703, 712, 711, 705, 719,
  718, 726, 725, 733, 732, 740, 739, 747, 746, 754, 753, 768, 767, 775, 774, 782, 781, 789, 788, 794, 793, 801, 800, 808, 807, 815, 814, 822, 821, 829,
  828, 836, 835, 843, 842, 850, 849, 857, 856, 864, 863, 869, 868, 876, 875, 883, 882, 890, 889, 897, 896, 219, 220, 279, 277, 278, 311, 422]
abbrev AlY : Type := He.AlT × Bool
def obsY (g : Addr → Option Obj) : AlY := (He.obsT fa fn ts (He.frG g as0), ex (He.frG g as0))
def hk : PySem.W.Hook where
  α := AlY
  obs := fun s => obsY s.heap.get?
  val := fun w => (He.valT fn ts w, true)
  says := fun w h => ∃ K : PySem.W.Frag, K.In h ∧ SaysY w K
  of := fun w s e => ⟨He.frG s.heap.get? as0, He.frG_in, ⟨congrArg Prod.fst e, congrArg Prod.snd e⟩⟩
  keeps := fun _ _ _ ⟨K, hK, c⟩ k => ⟨K, PySem.W.Frag.In.keeps hK k, c⟩
def ob (s : PySem.W.SharedT) : AlY := obsY (HandSHeadRun.getT s)
theorem ob_eq (s : PySem.W.SharedT) : ob s = hk.obs s.abs := by
  have e : HandSHeadRun.getT s = s.abs.heap.get? := funext (HandSHeadRun.getT_eq s)
  show obsY (HandSHeadRun.getT s) = obsY s.abs.heap.get?
  rw [e]
theorem runF (w : World) : HandSHeadRun.RunEq R (PySem.W.view R.prog [90]) hk ob 8000 loose (w.withFollow "special-get-raises" false) := by
  intro os
  kernel_rfl
theorem runT (w : World) : HandSHeadRun.RunEq R (PySem.W.view R.prog [90]) hk ob 8000 loose (w.withFollow "special-get-raises" true) := by
  intro os
  kernel_rfl
theorem run (w : World) : HandSHeadRun.RunEq R (PySem.W.view R.prog [90]) hk ob 8000 loose w :=
  PySem.W.byRow2 "special-get-raises" (P := fun w => HandSHeadRun.RunEq R (PySem.W.view R.prog [90]) hk ob 8000 loose w) runF runT w
end K37
set_option Elab.async false
set_option linter.all false
set_option maxRecDepth 100000
set_option maxHeartbeats 4000000
namespace K37
open PySem PySem.Spec PyProof.Rows L2
open C8 (Cal Met Mak CalAt pe_c pe_mt pe_mt0 pe_mk pe_gc tCut pss_cut)
/-! ### amounts as rationals -/
def Am (K : PySem.W.Frag) (H : Hp) (v : V) (q : Rat) : Prop := ∃ a, v = .ref a ∧ SqT K H a [.int q.num, .int (q.den : Int)]
theorem Am.s {K : PySem.W.Frag} {H H' : Hp} {v : V} {q : Rat} (h : Am K H v q) (e : Same H H') : Am K H' v q := by
  obtain ⟨a, r, t⟩ := h
  exact ⟨a, r, same_t e t⟩
theorem Am.of {K : PySem.W.Frag} {H : Hp} {p : Addr} {q : Rat} (h : H p = some (.tup [.int q.num, .int (q.den : Int)])) : Am K H (.ref p) q := ⟨p, rfl, SqT.of h⟩
/-- of at most n bits -/
def Sz (n : Nat) (q : Rat) : Prop := q.num.natAbs < 2 ^ n ∧ q.den < 2 ^ n
theorem Sz.mono {n m : Nat} {q : Rat} (h : Sz n q) (l : n ≤ m) : Sz m q := by
  have e : 2 ^ n ≤ 2 ^ m := Nat.pow_le_pow_right (by decide) l
  exact ⟨Nat.lt_of_lt_of_le h.1 e, Nat.lt_of_lt_of_le h.2 e⟩
theorem sz_mk {n : Nat} {a : Int} {b : Nat} (h0 : b ≠ 0) (ha : a.natAbs < 2 ^ n) (hb : b < 2 ^ n) : Sz n (mkRat a b) := by
  refine ⟨?_, ?_⟩
  · rw [Rat.num_mkRat, if_neg h0]
    refine Nat.lt_of_le_of_lt ?_ ha
    exact Int.natAbs_ediv_le_natAbs _ _
  · rw [Rat.den_mkRat, if_neg h0]
    exact Nat.lt_of_le_of_lt (Nat.div_le_self _ _) hb
theorem lt_mul {a b n m : Nat} (ha : a < 2 ^ n) (hb : b < 2 ^ m) : a * b < 2 ^ (n + m) := by
  rw [Nat.pow_add]
  exact Nat.mul_lt_mul'' ha hb
theorem lt_mulI {a b : Int} {n m : Nat} (ha : a.natAbs < 2 ^ n) (hb : b.natAbs < 2 ^ m) : (a * b).natAbs < 2 ^ (n + m) := by
  rw [Int.natAbs_mul]
  exact lt_mul ha hb
theorem lt_addI {a b : Int} {n : Nat} (ha : a.natAbs < 2 ^ n) (hb : b.natAbs < 2 ^ n) : (a + b).natAbs < 2 ^ (n + 1) := by
  have := Int.natAbs_add_le a b
  rw [Nat.pow_succ]
  omega
theorem lt_subI {a b : Int} {n : Nat} (ha : a.natAbs < 2 ^ n) (hb : b.natAbs < 2 ^ n) : (a - b).natAbs < 2 ^ (n + 1) := by
  have := Int.natAbs_sub_le a b
  rw [Nat.pow_succ]
  omega
theorem q_add (p q : Rat) : p + q = mkRat (p.num * q.den + q.num * p.den) (p.den * q.den) := by
  rw [Rat.add_def, Rat.normalize_eq_mkRat]
theorem q_sub (p q : Rat) : p - q = mkRat (p.num * q.den - q.num * p.den) (p.den * q.den) := by
  rw [Rat.sub_def, Rat.normalize_eq_mkRat]
theorem q_mul (p q : Rat) : p * q = mkRat (p.num * q.num) (p.den * q.den) := by
  rw [Rat.mul_def, Rat.normalize_eq_mkRat]
theorem num_pos {q : Rat} (h : 0 < q) : 0 < q.num := by
  have := (Rat.lt_iff 0 q).mp h
  simpa using this
theorem q_eq (p : Rat) : p = (p.num : Rat) / ((p.den : Nat) : Rat) := by
  have h := Rat.mkRat_self p
  rw [Rat.mkRat_eq_div] at h
  exact h.symm
theorem den_ne (p : Rat) : ((p.den : Nat) : Rat) ≠ 0 := by
  have := p.den_nz
  simpa using this
theorem q_div (p q : Rat) (h : 0 < q) : p / q = mkRat (p.num * q.den) (p.den * q.num.toNat) := by
  have hn := num_pos h
  have e : ((q.num.toNat : Nat) : Int) = q.num := Int.toNat_of_nonneg (by omega)
  have e2 : ((q.num.toNat : Nat) : Rat) = (q.num : Rat) := by
    rw [← Rat.intCast_natCast, e]
  have h1 := den_ne p
  have h2 := den_ne q
  have h3 : (q.num : Rat) ≠ 0 := by
    have : q.num ≠ 0 := by omega
    simpa using this
  have e3 := q_eq p
  have e4 := q_eq q
  rw [Rat.mkRat_eq_div, Rat.natCast_mul, Rat.intCast_mul, e2, Rat.intCast_natCast]
  generalize (p.num : Rat) = a at *
  generalize (q.num : Rat) = c at *
  generalize ((p.den : Nat) : Rat) = b at *
  generalize ((q.den : Nat) : Rat) = d at *
  subst e3 e4
  grind
theorem Sz.add {n m k : Nat} {p q : Rat} (hp : Sz n p) (hq : Sz m q) (h : n + m + 1 ≤ k) : Sz k (p + q) := by
  refine Sz.mono (n := n + m + 1) ?_ h
  rw [q_add]
  refine sz_mk (Nat.mul_ne_zero p.den_nz q.den_nz) (lt_addI (lt_mulI hp.1 (by simpa using hq.2)) ?_) (Nat.lt_of_lt_of_le (lt_mul hp.2 hq.2) (Nat.pow_le_pow_right (by decide) (by omega)))
  rw [Nat.add_comm n m]
  exact lt_mulI hq.1 (by simpa using hp.2)
theorem Sz.sub {n m k : Nat} {p q : Rat} (hp : Sz n p) (hq : Sz m q) (h : n + m + 1 ≤ k) : Sz k (p - q) := by
  refine Sz.mono (n := n + m + 1) ?_ h
  rw [q_sub]
  refine sz_mk (Nat.mul_ne_zero p.den_nz q.den_nz) (lt_subI (lt_mulI hp.1 (by simpa using hq.2)) ?_) (Nat.lt_of_lt_of_le (lt_mul hp.2 hq.2) (Nat.pow_le_pow_right (by decide) (by omega)))
  rw [Nat.add_comm n m]
  exact lt_mulI hq.1 (by simpa using hp.2)
theorem Sz.mul {n m k : Nat} {p q : Rat} (hp : Sz n p) (hq : Sz m q) (h : n + m ≤ k) : Sz k (p * q) := by
  refine Sz.mono (n := n + m) ?_ h
  rw [q_mul]
  exact sz_mk (Nat.mul_ne_zero p.den_nz q.den_nz) (lt_mulI hp.1 hq.1) (lt_mul hp.2 hq.2)
theorem Sz.div {n m k : Nat} {p q : Rat} (hp : Sz n p) (hq : Sz m q) (h0 : 0 < q) (h : n + m ≤ k) : Sz k (p / q) := by
  refine Sz.mono (n := n + m) ?_ h
  rw [q_div p q h0]
  have hn := num_pos h0
  refine sz_mk (Nat.mul_ne_zero p.den_nz (by omega)) (lt_mulI hp.1 (by simpa using hq.2)) (lt_mul hp.2 ?_)
  have := hq.1
  omega
end K37
set_option Elab.async false
set_option linter.all false
set_option maxRecDepth 100000
set_option maxHeartbeats 4000000
namespace K37
open PySem PySem.Spec PyProof.Rows L2
open C8 (Cal Met Mak CalAt pe_c pe_mt pe_mt0 pe_mk pe_gc tCut pss_cut)
section
variable {P : Program} {w : World} {K : PySem.W.Frag} {mg : Str → Option Value} {base : Heap}
/-! ### common, lowest -/
def spCommon : Sp := sp2 fun x y H Q => ∃ a b : Int, x = .int a ∧ y = .int b ∧ Q (.int (Int.gcd a b : Nat)) H
theorem gcd_step {m n : Nat} : Nat.gcd n (m % n) = Nat.gcd m n := by
  rw [Nat.gcd_comm m n, Nat.gcd_rec n m, Nat.gcd_comm]
theorem abs_nat (a : Int) : (if a < 0 then -a else a) = (a.natAbs : Int) := by
  split <;> omega
theorem common_rd (a b : Int) (H : Hp) (Q : VK) (q : Q (.int (Int.gcd a b : Nat)) H) {tb : TS} {D : Ends} {σ0 : L2.St}
    (ht : tb = tPar 0 1 (tCons (tVar 1) (tCons (tOp (rI (fun _ j => 0 < j) fun i j => .int (i % j)) (tVar 0) (tVar 1)) tNil))) (hσ : σ0 = [some (.int (a.natAbs : Int)), some (.int (b.natAbs : Int))])
    (hnx : ∀ (m : Nat) (σ : L2.St), σ = [some (.int (m : Int)), some (.int 0)] → m = Nat.gcd a.natAbs b.natAbs → D.nx σ H) :
    tWhile (tTest (tOp (rI0 fun i j => .bl (decide (j < i))) (tVar 1) (tC (.int 0)))) tb D σ0 H := by
  subst ht hσ
  refine ⟨fun k σ H' => ∃ m n : Nat, σ = [some (.int (m : Int)), some (.int (n : Int))] ∧ Nat.gcd m n = Nat.gcd a.natAbs b.natAbs ∧ k = n ∧ H' = H, ⟨_, _, _, rfl, rfl, rfl, rfl⟩, ?_⟩
  rintro k σ H' ⟨m, n, rfl, hg, rfl, rfl⟩
  refine ⟨_, rfl, _, _, rfl, rfl, _, rfl, ?_⟩
  by_cases h : (0 : Int) < (k : Int)
  · rw [decide_eq_true h]
    refine iteT ?_
    refine ⟨fun σ' H'' => ∃ m n : Nat, σ' = [some (.int (m : Int)), some (.int (n : Int))] ∧ Nat.gcd m n = Nat.gcd a.natAbs b.natAbs ∧ n < k ∧ H'' = H', ?_, ?_⟩
    · rintro σ' H'' ⟨m', n', rfl, g', l', rfl⟩
      exact ⟨n', l', m', n', rfl, g', rfl, rfl⟩
    · refine ⟨_, rfl, _, rfl, _, rfl, _, _, rfl, rfl, h, _, _, rfl, ?_⟩
      refine ⟨k, m % k, ?_, ?_, Nat.mod_lt _ (by omega), rfl⟩
      · show [some (V.int (k : Int)), some (V.int ((m : Int) % (k : Int)))] = _
        rw [← Int.natCast_emod]
      · rw [gcd_step]
        exact hg
  · rw [decide_eq_false h]
    refine iteF ?_
    have h0 : k = 0 := by omega
    subst h0
    exact hnx m _ rfl (by rw [← hg, Nat.gcd_zero_right])
theorem c_common (T : Tx P w K mg base) : Cal P w K mg base 1 "common" spCommon [] := by
  refine mkC T.f_common T.g_common sc_common len2 (fun _ _ _ _ _ _ us hl => match us, hl with | [_, _], _ => rfl) fun cdv A outer s H vs Q E hr h => ?_
  obtain ⟨x, y, rfl, a, b, rfl, rfl, q⟩ := h
  refine ⟨_, (pss_cons (ps_par (i := 0) (j := 1) (by rfl) sc_common.nd rfl rfl (by decide) rfl rfl (pa_cons (pe_callB call_abs (by rfl) T.b_abs (by decide +kernel) (pa_cons (pv 0) pa_nil)) (pa_cons (pe_callB call_abs (by rfl) T.b_abs (by decide +kernel) (pa_cons (pv 1) pa_nil)) pa_nil)) (by rfl))
        (pss_cons (ps_while PassesOwn.never (pt_cmpR op_gt (pv 1) pe_int (nomark _)) (pss_one (ps_par (i := 0) (j := 1) (by rfl) sc_common.nd rfl rfl (by decide) rfl rfl (pa_cons (pv 1) (pa_cons (pe_op op_mod (pv 0) (pv 1)) pa_nil)) (by rfl))))
        (pss_one (ps_ret (pv 0))))), ?_⟩
  refine ⟨_, rfl, _, rfl, _, rfl, _, rfl, _, _, rfl, ?_⟩
  rw [abs_nat, abs_nat]
  refine common_rd a b H Q q rfl rfl fun m σ hσ hm => ?_
  subst hσ
  refine ⟨_, rfl, ?_⟩
  show Q (.int (m : Int)) H
  rw [hm]
  exact q
def spLowest : Sp := sp2 fun x y H Q => ∃ a b : Int, x = .int a ∧ y = .int b ∧ 0 < b ∧ a.natAbs < 2 ^ 8000 ∧ b.natAbs < 2 ^ 8000 ∧
  ∀ p H', Same H H' → H' p = some (.tup [.int (mkRat a b.toNat).num, .int ((mkRat a b.toNat).den : Int)]) → Q (.ref p) H'
theorem low_nums {a b : Int} (hb : 0 < b) : a / (Int.gcd a b : Nat) = (mkRat a b.toNat).num ∧ b / (Int.gcd a b : Nat) = ((mkRat a b.toNat).den : Int) := by
  have h0 : b.toNat ≠ 0 := by omega
  have e : ((b.toNat : Nat) : Int) = b := Int.toNat_of_nonneg (by omega)
  have eb : b.natAbs = b.toNat := by omega
  have eg : Int.gcd a b = Nat.gcd b.toNat a.natAbs := by
    unfold Int.gcd
    rw [eb, Nat.gcd_comm]
  constructor
  · rw [Rat.num_mkRat, if_neg h0, eg]
  · rw [Rat.den_mkRat, if_neg h0, eg, Int.natCast_ediv, e]
theorem gcd_pos {a b : Int} (hb : 0 < b) : 0 < Int.gcd a b := Int.gcd_pos_of_ne_zero_right a (by omega)
theorem gcd_le {a b : Int} (hb : 0 < b) : Int.gcd a b ≤ b.natAbs := by
  unfold Int.gcd
  exact Nat.gcd_le_right _ (by omega)
theorem c_lowest (T : Tx P w K mg base) : Cal P w K mg base 2 "lowest" spLowest [] := by
  refine mkC T.f_lowest T.g_lowest sc_lowest len2 (fun _ _ _ _ _ _ us hl => match us, hl with | [_, _], _ => rfl) fun cdv A outer s H vs Q E hr h => ?_
  obtain ⟨x, y, rfl, a, b, rfl, rfl, hb, ha8, hb8, q⟩ := h
  have hg := gcd_pos (a := a) hb
  have hl := gcd_le (a := a) hb
  have hd : ∀ i : Int, CDivW i ((Int.gcd a b : Nat) : Int) := fun i => wide_div (b := 8000) (by omega) (by omega) (by decide) (by decide)
  refine ⟨_, (pss_cons (ps_set (i := 2) sc_lowest.nd rfl (by first | exact Or.inl rfl | exact Or.inr rfl) (pe_c (c_common T) hr (by omega) rfl (pa_cons (pv 0) (pa_cons (pv 1) pa_nil))))
        (pss_cons (ps_if (pt_cmpR op_lt (pv 1) pe_int (nomark _)) (pss_one (ps_set (i := 2) sc_lowest.nd rfl (by first | exact Or.inl rfl | exact Or.inr rfl) (pe_un un_neg (pv 2)))) pss_nil)
        (pss_one (ps_ret (pe_tup (pa_cons (pe_op op_fdivW (pv 0) (pv 2)) (pa_cons (pe_op op_fdivW (pv 1) (pv 2)) pa_nil))))))), ?_⟩
  refine ⟨_, rfl, _, rfl, _, _, rfl, a, b, rfl, rfl, ?_⟩
  refine ⟨_, rfl, _, _, rfl, rfl, _, rfl, ?_⟩
  rw [decide_eq_false (by omega)]
  refine iteF ?_
  refine ⟨_, rfl, _, rfl, _, _, rfl, rfl, hd _, _, rfl, _, rfl, _, _, rfl, rfl, hd _, by show 2 ≤ sizeLine; decide, fun p np => ?_⟩
  refine q p _ (same_new np) ?_
  rw [upd_same]
  dsimp only
  rw [(low_nums hb).1, (low_nums hb).2]
/-! ### the amounts' defs -/
theorem at0 {xs : List V} {x : V} : atI (x :: xs) 0 = some x := atI_nat (j := 0) rfl
theorem at1 {xs : List V} {x y : V} : atI (x :: y :: xs) 1 = some y := atI_nat (j := 1) rfl
theorem at2 {xs : List V} {x y z : V} : atI (x :: y :: z :: xs) 2 = some z := atI_nat (j := 2) rfl
theorem at3 {xs : List V} {x y z u : V} : atI (x :: y :: z :: u :: xs) 3 = some u := atI_nat (j := 3) rfl
theorem mulW {a b : Int} (ha : a.natAbs < 2 ^ 4000) (hb : b.natAbs < 2 ^ 4000) : CMulW a b := wide_mul ha hb (by decide) (by decide) (by decide)
theorem le8 {x : Nat} {n m : Nat} (h : x < 2 ^ n) (l : n ≤ m) : x < 2 ^ m := Nat.lt_of_lt_of_le h (Nat.pow_le_pow_right (by decide) l)
/-- two amounts of at most 3999 bits, their answer -/
def spBin (f : Rat → Rat → Rat) (C : Rat → Rat → Prop) (K : PySem.W.Frag) : Sp := sp2 fun x y H Q => ∃ p q : Rat, Am K H x p ∧ Am K H y q ∧ Sz 3999 p ∧ Sz 3999 q ∧ C p q ∧ ∀ v H', Same H H' → Am K H' v (f p q) → Q v H'
theorem c_plus (T : Tx P w K mg base) : Cal P w K mg base 3 "plus" (spBin (· + ·) (fun _ _ => True) K) [] := by
  refine mkC T.f_plus T.g_plus sc_plus len2 (fun _ _ _ _ _ _ us hl => match us, hl with | [_, _], _ => rfl) fun cdv A outer s H vs Q E hr h => ?_
  obtain ⟨_, _, rfl, p, q, ⟨a, rfl, ta⟩, ⟨b, rfl, tb⟩, ⟨s1, s2⟩, ⟨s3, s4⟩, _, k⟩ := h
  have pd := p.den_pos
  have qd := q.den_pos
  refine ⟨_, (pss_one (ps_ret (pe_c (c_lowest T) hr (by omega) rfl (pa_cons (pe_op op_add (pe_op op_mulW (pe_ix ix_tup (pv 0) pe_int (fun _ _ => rfl)) (pe_ix ix_tup (pv 1) pe_int (fun _ _ => rfl))) (pe_op op_mulW (pe_ix ix_tup (pv 1) pe_int (fun _ _ => rfl)) (pe_ix ix_tup (pv 0) pe_int (fun _ _ => rfl)))) (pa_cons (pe_op op_mulW (pe_ix ix_tup (pv 0) pe_int (fun _ _ => rfl)) (pe_ix ix_tup (pv 1) pe_int (fun _ _ => rfl))) pa_nil))))), ?_⟩
  have m1 : (p.num * (q.den : Int)).natAbs < 2 ^ 7998 := lt_mulI (n := 3999) (m := 3999) s1 (by simpa using s4)
  have m2 : (q.num * (p.den : Int)).natAbs < 2 ^ 7998 := lt_mulI (n := 3999) (m := 3999) s3 (by simpa using s2)
  have m3 : ((p.den : Int) * (q.den : Int)).natAbs < 2 ^ 7998 := lt_mulI (n := 3999) (m := 3999) (by simpa using s2) (by simpa using s4)
  refine ⟨_, rfl, _, _, _, _, rfl, rfl, ta, at0, _, rfl, _, _, _, _, rfl, rfl, tb, at1, _, _, rfl, rfl, mulW (le8 s1 (by decide)) (le8 (by simpa using s4) (by decide)), ?_⟩
  refine ⟨_, rfl, _, _, _, _, rfl, rfl, tb, at0, _, rfl, _, _, _, _, rfl, rfl, ta, at1, _, _, rfl, rfl, mulW (le8 s3 (by decide)) (le8 (by simpa using s2) (by decide)), _, _, rfl, rfl, ?_⟩
  refine ⟨_, rfl, _, _, _, _, rfl, rfl, ta, at1, _, rfl, _, _, _, _, rfl, rfl, tb, at1, _, _, rfl, rfl, mulW (le8 (by simpa using s2) (by decide)) (le8 (by simpa using s4) (by decide)), ?_⟩
  refine ⟨_, _, rfl, _, _, rfl, rfl, by exact_mod_cast Nat.mul_pos pd qd, le8 (lt_addI m1 m2) (by decide), le8 m3 (by decide), fun c H' e hc => ?_⟩
  refine k _ _ e ?_
  show Am K H' _ (p + q)
  rw [q_add]
  have e3 : ((p.den : Int) * (q.den : Int)).toNat = p.den * q.den := by rw [← Int.natCast_mul]; rfl
  rw [e3] at hc
  exact Am.of hc

theorem c_minus (T : Tx P w K mg base) : Cal P w K mg base 3 "minus" (spBin (· - ·) (fun _ _ => True) K) [] := by
  refine mkC T.f_minus T.g_minus sc_minus len2 (fun _ _ _ _ _ _ us hl => match us, hl with | [_, _], _ => rfl) fun cdv A outer s H vs Q E hr h => ?_
  obtain ⟨_, _, rfl, p, q, ⟨a, rfl, ta⟩, ⟨b, rfl, tb⟩, ⟨s1, s2⟩, ⟨s3, s4⟩, C0, k⟩ := h
  have pd := p.den_pos
  have qd := q.den_pos
  refine ⟨_, (pss_one (ps_ret (pe_c (c_lowest T) hr (by omega) rfl (pa_cons (pe_op op_sub (pe_op op_mulW (pe_ix ix_tup (pv 0) pe_int (fun _ _ => rfl)) (pe_ix ix_tup (pv 1) pe_int (fun _ _ => rfl))) (pe_op op_mulW (pe_ix ix_tup (pv 1) pe_int (fun _ _ => rfl)) (pe_ix ix_tup (pv 0) pe_int (fun _ _ => rfl)))) (pa_cons (pe_op op_mulW (pe_ix ix_tup (pv 0) pe_int (fun _ _ => rfl)) (pe_ix ix_tup (pv 1) pe_int (fun _ _ => rfl))) pa_nil))))), ?_⟩
  have m1 : (p.num * (q.den : Int)).natAbs < 2 ^ 7998 := lt_mulI (n := 3999) (m := 3999) s1 (by simpa using s4)
  have m2 : (q.num * (p.den : Int)).natAbs < 2 ^ 7998 := lt_mulI (n := 3999) (m := 3999) s3 (by simpa using s2)
  have m3 : ((p.den : Int) * (q.den : Int)).natAbs < 2 ^ 7998 := lt_mulI (n := 3999) (m := 3999) (by simpa using s2) (by simpa using s4)
  refine ⟨_, rfl, _, _, _, _, rfl, rfl, ta, at0, _, rfl, _, _, _, _, rfl, rfl, tb, at1, _, _, rfl, rfl, mulW (le8 s1 (by decide)) (le8 (by simpa using s4) (by decide)), ?_⟩
  refine ⟨_, rfl, _, _, _, _, rfl, rfl, tb, at0, _, rfl, _, _, _, _, rfl, rfl, ta, at1, _, _, rfl, rfl, mulW (le8 s3 (by decide)) (le8 (by simpa using s2) (by decide)), _, _, rfl, rfl, ?_⟩
  refine ⟨_, rfl, _, _, _, _, rfl, rfl, ta, at1, _, rfl, _, _, _, _, rfl, rfl, tb, at1, _, _, rfl, rfl, mulW (le8 (by simpa using s2) (by decide)) (le8 (by simpa using s4) (by decide)), ?_⟩
  refine ⟨_, _, rfl, _, _, rfl, rfl, by exact_mod_cast Nat.mul_pos pd qd, le8 (lt_subI m1 m2) (by decide), le8 m3 (by decide), fun c H' e hc => ?_⟩
  refine k _ _ e ?_
  show Am K H' _ (p - q)
  rw [q_sub]
  have e3 : ((p.den : Int) * (q.den : Int)).toNat = p.den * q.den := by rw [← Int.natCast_mul]; rfl
  rw [e3] at hc
  exact Am.of hc

theorem c_times (T : Tx P w K mg base) : Cal P w K mg base 3 "times" (spBin (· * ·) (fun _ _ => True) K) [] := by
  refine mkC T.f_times T.g_times sc_times len2 (fun _ _ _ _ _ _ us hl => match us, hl with | [_, _], _ => rfl) fun cdv A outer s H vs Q E hr h => ?_
  obtain ⟨_, _, rfl, p, q, ⟨a, rfl, ta⟩, ⟨b, rfl, tb⟩, ⟨s1, s2⟩, ⟨s3, s4⟩, C0, k⟩ := h
  have pd := p.den_pos
  have qd := q.den_pos
  refine ⟨_, (pss_one (ps_ret (pe_c (c_lowest T) hr (by omega) rfl (pa_cons (pe_op op_mulW (pe_ix ix_tup (pv 0) pe_int (fun _ _ => rfl)) (pe_ix ix_tup (pv 1) pe_int (fun _ _ => rfl))) (pa_cons (pe_op op_mulW (pe_ix ix_tup (pv 0) pe_int (fun _ _ => rfl)) (pe_ix ix_tup (pv 1) pe_int (fun _ _ => rfl))) pa_nil))))), ?_⟩
  have m1 : (p.num * q.num).natAbs < 2 ^ 7998 := lt_mulI (n := 3999) (m := 3999) s1 s3
  have m3 : ((p.den : Int) * (q.den : Int)).natAbs < 2 ^ 7998 := lt_mulI (n := 3999) (m := 3999) (by simpa using s2) (by simpa using s4)
  refine ⟨_, rfl, _, _, _, _, rfl, rfl, ta, at0, _, rfl, _, _, _, _, rfl, rfl, tb, at0, _, _, rfl, rfl, mulW (le8 s1 (by decide)) (le8 s3 (by decide)), ?_⟩
  refine ⟨_, rfl, _, _, _, _, rfl, rfl, ta, at1, _, rfl, _, _, _, _, rfl, rfl, tb, at1, _, _, rfl, rfl, mulW (le8 (by simpa using s2) (by decide)) (le8 (by simpa using s4) (by decide)), ?_⟩
  refine ⟨_, _, rfl, _, _, rfl, rfl, by exact_mod_cast Nat.mul_pos pd qd, le8 m1 (by decide), le8 m3 (by decide), fun c H' e hc => ?_⟩
  refine k _ _ e ?_
  show Am K H' _ (p * q)
  rw [q_mul]
  have e3 : ((p.den : Int) * (q.den : Int)).toNat = p.den * q.den := by rw [← Int.natCast_mul]; rfl
  rw [e3] at hc
  exact Am.of hc

theorem c_by (T : Tx P w K mg base) : Cal P w K mg base 3 "by" (spBin (· / ·) (fun _ q => 0 < q) K) [] := by
  refine mkC T.f_by T.g_by sc_by len2 (fun _ _ _ _ _ _ us hl => match us, hl with | [_, _], _ => rfl) fun cdv A outer s H vs Q E hr h => ?_
  obtain ⟨_, _, rfl, p, q, ⟨a, rfl, ta⟩, ⟨b, rfl, tb⟩, ⟨s1, s2⟩, ⟨s3, s4⟩, C0, k⟩ := h
  have pd := p.den_pos
  have qd := q.den_pos
  refine ⟨_, (pss_one (ps_ret (pe_c (c_lowest T) hr (by omega) rfl (pa_cons (pe_op op_mulW (pe_ix ix_tup (pv 0) pe_int (fun _ _ => rfl)) (pe_ix ix_tup (pv 1) pe_int (fun _ _ => rfl))) (pa_cons (pe_op op_mulW (pe_ix ix_tup (pv 0) pe_int (fun _ _ => rfl)) (pe_ix ix_tup (pv 1) pe_int (fun _ _ => rfl))) pa_nil))))), ?_⟩
  have hn := num_pos C0
  have m1 : (p.num * (q.den : Int)).natAbs < 2 ^ 7998 := lt_mulI (n := 3999) (m := 3999) s1 (by simpa using s4)
  have m3 : ((p.den : Int) * q.num).natAbs < 2 ^ 7998 := lt_mulI (n := 3999) (m := 3999) (by simpa using s2) s3
  refine ⟨_, rfl, _, _, _, _, rfl, rfl, ta, at0, _, rfl, _, _, _, _, rfl, rfl, tb, at1, _, _, rfl, rfl, mulW (le8 s1 (by decide)) (le8 (by simpa using s4) (by decide)), ?_⟩
  refine ⟨_, rfl, _, _, _, _, rfl, rfl, ta, at1, _, rfl, _, _, _, _, rfl, rfl, tb, at0, _, _, rfl, rfl, mulW (le8 (by simpa using s2) (by decide)) (le8 s3 (by decide)), ?_⟩
  refine ⟨_, _, rfl, _, _, rfl, rfl, Int.mul_pos (by omega) hn, le8 m1 (by decide), le8 m3 (by decide), fun c H' e hc => ?_⟩
  refine k _ _ e ?_
  show Am K H' _ (p / q)
  rw [q_div p q C0]
  have e3 : ((p.den : Int) * q.num).toNat = p.den * q.num.toNat := by
    have : ((q.num.toNat : Nat) : Int) = q.num := Int.toNat_of_nonneg (by omega)
    rw [← this, ← Int.natCast_mul]
    rfl
  rw [e3] at hc
  exact Am.of hc

def spLess (K : PySem.W.Frag) : Sp := sp2 fun x y H Q => ∃ p q : Rat, Am K H x p ∧ Am K H y q ∧ Sz 3999 p ∧ Sz 3999 q ∧ Q (.bl (decide (p < q))) H
theorem c_less (T : Tx P w K mg base) : Cal P w K mg base 1 "less" (spLess K) [] := by
  refine mkC T.f_less T.g_less sc_less len2 (fun _ _ _ _ _ _ us hl => match us, hl with | [_, _], _ => rfl) fun cdv A outer s H vs Q E hr h => ?_
  obtain ⟨_, _, rfl, p, q, ⟨a, rfl, ta⟩, ⟨b, rfl, tb⟩, ⟨s1, s2⟩, ⟨s3, s4⟩, k⟩ := h
  refine ⟨_, (pss_one (ps_ret (pe_cmpR op_lt (pe_op op_mulW (pe_ix ix_tup (pv 0) pe_int (fun _ _ => rfl)) (pe_ix ix_tup (pv 1) pe_int (fun _ _ => rfl))) (pe_op op_mulW (pe_ix ix_tup (pv 1) pe_int (fun _ _ => rfl)) (pe_ix ix_tup (pv 0) pe_int (fun _ _ => rfl))) (nomark _)))), ?_⟩
  refine ⟨_, rfl, _, _, _, _, rfl, rfl, ta, at0, _, rfl, _, _, _, _, rfl, rfl, tb, at1, _, _, rfl, rfl, mulW (le8 s1 (by decide)) (le8 (by simpa using s4) (by decide)), ?_⟩
  refine ⟨_, rfl, _, _, _, _, rfl, rfl, tb, at0, _, rfl, _, _, _, _, rfl, rfl, ta, at1, _, _, rfl, rfl, mulW (le8 s3 (by decide)) (le8 (by simpa using s2) (by decide)), _, _, rfl, rfl, ?_⟩
  have e : decide (p < q) = decide (p.num * (q.den : Int) < q.num * (p.den : Int)) := by
    rw [decide_eq_decide]
    exact Rat.lt_iff p q
  rw [e] at k
  exact k
end
end K37
set_option Elab.async false
set_option linter.all false
set_option maxRecDepth 100000
set_option maxHeartbeats 4000000
namespace K37
open PySem PySem.Spec PyProof.Rows L2
open C8 (Cal Met Mak CalAt pe_c pe_mt pe_mt0 pe_mk pe_gc tCut pss_cut)
section
variable {P : Program} {w : World} {K : PySem.W.Frag} {mg : Str → Option Value} {base : Heap}
theorem c_law_common (T : Tx P w K mg base) : Cal P w K mg base 1 "_law_common" spCommon [] := by
  refine mkC T.f_law_common T.g_law_common sc_law_common len2 (fun _ _ _ _ _ _ us hl => match us, hl with | [_, _], _ => rfl) fun cdv A outer s H vs Q E hr h => ?_
  obtain ⟨x, y, rfl, a, b, rfl, rfl, q⟩ := h
  refine ⟨_, (pss_cons (ps_par (i := 0) (j := 1) (by rfl) sc_law_common.nd rfl rfl (by decide) rfl rfl (pa_cons (pe_callB call_abs (by rfl) T.b_abs (by decide +kernel) (pa_cons (pv 0) pa_nil)) (pa_cons (pe_callB call_abs (by rfl) T.b_abs (by decide +kernel) (pa_cons (pv 1) pa_nil)) pa_nil)) (by rfl))
        (pss_cons (ps_while PassesOwn.never (pt_cmpR op_gt (pv 1) pe_int (nomark _)) (pss_one (ps_par (i := 0) (j := 1) (by rfl) sc_law_common.nd rfl rfl (by decide) rfl rfl (pa_cons (pv 1) (pa_cons (pe_op op_mod (pv 0) (pv 1)) pa_nil)) (by rfl))))
        (pss_one (ps_ret (pv 0))))), ?_⟩
  refine ⟨_, rfl, _, rfl, _, rfl, _, rfl, _, _, rfl, ?_⟩
  rw [abs_nat, abs_nat]
  refine common_rd a b H Q q rfl rfl fun m σ hσ hm => ?_
  subst hσ
  refine ⟨_, rfl, ?_⟩
  show Q (.int (m : Int)) H
  rw [hm]
  exact q
theorem c_law_low (T : Tx P w K mg base) : Cal P w K mg base 2 "_law_low" spLowest [] := by
  refine mkC T.f_law_low T.g_law_low sc_law_low len2 (fun _ _ _ _ _ _ us hl => match us, hl with | [_, _], _ => rfl) fun cdv A outer s H vs Q E hr h => ?_
  obtain ⟨x, y, rfl, a, b, rfl, rfl, hb, ha8, hb8, q⟩ := h
  have hg := gcd_pos (a := a) hb
  have hl := gcd_le (a := a) hb
  have hd : ∀ i : Int, CDivW i ((Int.gcd a b : Nat) : Int) := fun i => wide_div (b := 8000) (by omega) (by omega) (by decide) (by decide)
  refine ⟨_, (pss_cons (ps_set (i := 2) sc_law_low.nd rfl (by first | exact Or.inl rfl | exact Or.inr rfl) (pe_c (c_law_common T) hr (by omega) rfl (pa_cons (pv 0) (pa_cons (pv 1) pa_nil))))
        (pss_one (ps_ret (pe_tup (pa_cons (pe_op op_fdivW (pv 0) (pv 2)) (pa_cons (pe_op op_fdivW (pv 1) (pv 2)) pa_nil)))))), ?_⟩
  refine ⟨_, rfl, _, rfl, _, _, rfl, a, b, rfl, rfl, ?_⟩
  refine ⟨_, rfl, _, rfl, _, _, rfl, rfl, hd _, _, rfl, _, rfl, _, _, rfl, rfl, hd _, by show 2 ≤ sizeLine; decide, fun p np => ?_⟩
  refine q p _ (same_new np) ?_
  rw [upd_same]
  dsimp only
  rw [(low_nums hb).1, (low_nums hb).2]
theorem c_law_sum (T : Tx P w K mg base) : Cal P w K mg base 3 "_law_sum" (spBin (· + ·) (fun _ _ => True) K) [] := by
  refine mkC T.f_law_sum T.g_law_sum sc_law_sum len2 (fun _ _ _ _ _ _ us hl => match us, hl with | [_, _], _ => rfl) fun cdv A outer s H vs Q E hr h => ?_
  obtain ⟨_, _, rfl, p, q, ⟨a, rfl, ta⟩, ⟨b, rfl, tb⟩, ⟨s1, s2⟩, ⟨s3, s4⟩, _, k⟩ := h
  have pd := p.den_pos
  have qd := q.den_pos
  refine ⟨_, (pss_one (ps_ret (pe_c (c_law_low T) hr (by omega) rfl (pa_cons (pe_op op_add (pe_op op_mulW (pe_ix ix_tup (pv 0) pe_int (fun _ _ => rfl)) (pe_ix ix_tup (pv 1) pe_int (fun _ _ => rfl))) (pe_op op_mulW (pe_ix ix_tup (pv 1) pe_int (fun _ _ => rfl)) (pe_ix ix_tup (pv 0) pe_int (fun _ _ => rfl)))) (pa_cons (pe_op op_mulW (pe_ix ix_tup (pv 0) pe_int (fun _ _ => rfl)) (pe_ix ix_tup (pv 1) pe_int (fun _ _ => rfl))) pa_nil))))), ?_⟩
  have m1 : (p.num * (q.den : Int)).natAbs < 2 ^ 7998 := lt_mulI (n := 3999) (m := 3999) s1 (by simpa using s4)
  have m2 : (q.num * (p.den : Int)).natAbs < 2 ^ 7998 := lt_mulI (n := 3999) (m := 3999) s3 (by simpa using s2)
  have m3 : ((p.den : Int) * (q.den : Int)).natAbs < 2 ^ 7998 := lt_mulI (n := 3999) (m := 3999) (by simpa using s2) (by simpa using s4)
  refine ⟨_, rfl, _, _, _, _, rfl, rfl, ta, at0, _, rfl, _, _, _, _, rfl, rfl, tb, at1, _, _, rfl, rfl, mulW (le8 s1 (by decide)) (le8 (by simpa using s4) (by decide)), ?_⟩
  refine ⟨_, rfl, _, _, _, _, rfl, rfl, tb, at0, _, rfl, _, _, _, _, rfl, rfl, ta, at1, _, _, rfl, rfl, mulW (le8 s3 (by decide)) (le8 (by simpa using s2) (by decide)), _, _, rfl, rfl, ?_⟩
  refine ⟨_, rfl, _, _, _, _, rfl, rfl, ta, at1, _, rfl, _, _, _, _, rfl, rfl, tb, at1, _, _, rfl, rfl, mulW (le8 (by simpa using s2) (by decide)) (le8 (by simpa using s4) (by decide)), ?_⟩
  refine ⟨_, _, rfl, _, _, rfl, rfl, by exact_mod_cast Nat.mul_pos pd qd, le8 (lt_addI m1 m2) (by decide), le8 m3 (by decide), fun c H' e hc => ?_⟩
  refine k _ _ e ?_
  show Am K H' _ (p + q)
  rw [q_add]
  have e3 : ((p.den : Int) * (q.den : Int)).toNat = p.den * q.den := by rw [← Int.natCast_mul]; rfl
  rw [e3] at hc
  exact Am.of hc
theorem c_law_less_by (T : Tx P w K mg base) : Cal P w K mg base 3 "_law_less_by" (spBin (· - ·) (fun _ _ => True) K) [] := by
  refine mkC T.f_law_less_by T.g_law_less_by sc_law_less_by len2 (fun _ _ _ _ _ _ us hl => match us, hl with | [_, _], _ => rfl) fun cdv A outer s H vs Q E hr h => ?_
  obtain ⟨_, _, rfl, p, q, ⟨a, rfl, ta⟩, ⟨b, rfl, tb⟩, ⟨s1, s2⟩, ⟨s3, s4⟩, C0, k⟩ := h
  have pd := p.den_pos
  have qd := q.den_pos
  refine ⟨_, (pss_one (ps_ret (pe_c (c_law_low T) hr (by omega) rfl (pa_cons (pe_op op_sub (pe_op op_mulW (pe_ix ix_tup (pv 0) pe_int (fun _ _ => rfl)) (pe_ix ix_tup (pv 1) pe_int (fun _ _ => rfl))) (pe_op op_mulW (pe_ix ix_tup (pv 1) pe_int (fun _ _ => rfl)) (pe_ix ix_tup (pv 0) pe_int (fun _ _ => rfl)))) (pa_cons (pe_op op_mulW (pe_ix ix_tup (pv 0) pe_int (fun _ _ => rfl)) (pe_ix ix_tup (pv 1) pe_int (fun _ _ => rfl))) pa_nil))))), ?_⟩
  have m1 : (p.num * (q.den : Int)).natAbs < 2 ^ 7998 := lt_mulI (n := 3999) (m := 3999) s1 (by simpa using s4)
  have m2 : (q.num * (p.den : Int)).natAbs < 2 ^ 7998 := lt_mulI (n := 3999) (m := 3999) s3 (by simpa using s2)
  have m3 : ((p.den : Int) * (q.den : Int)).natAbs < 2 ^ 7998 := lt_mulI (n := 3999) (m := 3999) (by simpa using s2) (by simpa using s4)
  refine ⟨_, rfl, _, _, _, _, rfl, rfl, ta, at0, _, rfl, _, _, _, _, rfl, rfl, tb, at1, _, _, rfl, rfl, mulW (le8 s1 (by decide)) (le8 (by simpa using s4) (by decide)), ?_⟩
  refine ⟨_, rfl, _, _, _, _, rfl, rfl, tb, at0, _, rfl, _, _, _, _, rfl, rfl, ta, at1, _, _, rfl, rfl, mulW (le8 s3 (by decide)) (le8 (by simpa using s2) (by decide)), _, _, rfl, rfl, ?_⟩
  refine ⟨_, rfl, _, _, _, _, rfl, rfl, ta, at1, _, rfl, _, _, _, _, rfl, rfl, tb, at1, _, _, rfl, rfl, mulW (le8 (by simpa using s2) (by decide)) (le8 (by simpa using s4) (by decide)), ?_⟩
  refine ⟨_, _, rfl, _, _, rfl, rfl, by exact_mod_cast Nat.mul_pos pd qd, le8 (lt_subI m1 m2) (by decide), le8 m3 (by decide), fun c H' e hc => ?_⟩
  refine k _ _ e ?_
  show Am K H' _ (p - q)
  rw [q_sub]
  have e3 : ((p.den : Int) * (q.den : Int)).toNat = p.den * q.den := by rw [← Int.natCast_mul]; rfl
  rw [e3] at hc
  exact Am.of hc
theorem c_law_product (T : Tx P w K mg base) : Cal P w K mg base 3 "_law_product" (spBin (· * ·) (fun _ _ => True) K) [] := by
  refine mkC T.f_law_product T.g_law_product sc_law_product len2 (fun _ _ _ _ _ _ us hl => match us, hl with | [_, _], _ => rfl) fun cdv A outer s H vs Q E hr h => ?_
  obtain ⟨_, _, rfl, p, q, ⟨a, rfl, ta⟩, ⟨b, rfl, tb⟩, ⟨s1, s2⟩, ⟨s3, s4⟩, C0, k⟩ := h
  have pd := p.den_pos
  have qd := q.den_pos
  refine ⟨_, (pss_one (ps_ret (pe_c (c_law_low T) hr (by omega) rfl (pa_cons (pe_op op_mulW (pe_ix ix_tup (pv 0) pe_int (fun _ _ => rfl)) (pe_ix ix_tup (pv 1) pe_int (fun _ _ => rfl))) (pa_cons (pe_op op_mulW (pe_ix ix_tup (pv 0) pe_int (fun _ _ => rfl)) (pe_ix ix_tup (pv 1) pe_int (fun _ _ => rfl))) pa_nil))))), ?_⟩
  have m1 : (p.num * q.num).natAbs < 2 ^ 7998 := lt_mulI (n := 3999) (m := 3999) s1 s3
  have m3 : ((p.den : Int) * (q.den : Int)).natAbs < 2 ^ 7998 := lt_mulI (n := 3999) (m := 3999) (by simpa using s2) (by simpa using s4)
  refine ⟨_, rfl, _, _, _, _, rfl, rfl, ta, at0, _, rfl, _, _, _, _, rfl, rfl, tb, at0, _, _, rfl, rfl, mulW (le8 s1 (by decide)) (le8 s3 (by decide)), ?_⟩
  refine ⟨_, rfl, _, _, _, _, rfl, rfl, ta, at1, _, rfl, _, _, _, _, rfl, rfl, tb, at1, _, _, rfl, rfl, mulW (le8 (by simpa using s2) (by decide)) (le8 (by simpa using s4) (by decide)), ?_⟩
  refine ⟨_, _, rfl, _, _, rfl, rfl, by exact_mod_cast Nat.mul_pos pd qd, le8 m1 (by decide), le8 m3 (by decide), fun c H' e hc => ?_⟩
  refine k _ _ e ?_
  show Am K H' _ (p * q)
  rw [q_mul]
  have e3 : ((p.den : Int) * (q.den : Int)).toNat = p.den * q.den := by rw [← Int.natCast_mul]; rfl
  rw [e3] at hc
  exact Am.of hc
/-- the first of the two not in lowest terms -/
def spProdU (K : PySem.W.Frag) : Sp := sp2 fun x y H Q => ∃ (a : Addr) (n d : Int) (q : Rat), x = .ref a ∧ SqT K H a [.int n, .int d] ∧ 0 < d ∧ n.natAbs < 2 ^ 64 ∧ d.natAbs < 2 ^ 64 ∧ Am K H y q ∧ Sz 3999 q ∧ ∀ v H', Same H H' → Am K H' v (mkRat n d.toNat * q) → Q v H'
theorem c_law_product_u (T : Tx P w K mg base) : Cal P w K mg base 3 "_law_product" (spProdU K) [] := by
  refine mkC T.f_law_product T.g_law_product sc_law_product len2 (fun _ _ _ _ _ _ us hl => match us, hl with | [_, _], _ => rfl) fun cdv A outer s H vs Q E hr h => ?_
  obtain ⟨_, _, rfl, a, n, d, q, rfl, ta, d0, s1, s2, ⟨b, rfl, tb⟩, ⟨s3, s4⟩, k⟩ := h
  have qd := q.den_pos
  refine ⟨_, (pss_one (ps_ret (pe_c (c_law_low T) hr (by omega) rfl (pa_cons (pe_op op_mulW (pe_ix ix_tup (pv 0) pe_int (fun _ _ => rfl)) (pe_ix ix_tup (pv 1) pe_int (fun _ _ => rfl))) (pa_cons (pe_op op_mulW (pe_ix ix_tup (pv 0) pe_int (fun _ _ => rfl)) (pe_ix ix_tup (pv 1) pe_int (fun _ _ => rfl))) pa_nil))))), ?_⟩
  have m1 : (n * q.num).natAbs < 2 ^ 4063 := lt_mulI (n := 64) (m := 3999) s1 s3
  have m3 : (d * (q.den : Int)).natAbs < 2 ^ 4063 := lt_mulI (n := 64) (m := 3999) s2 (by simpa using s4)
  refine ⟨_, rfl, _, _, _, _, rfl, rfl, ta, at0, _, rfl, _, _, _, _, rfl, rfl, tb, at0, _, _, rfl, rfl, mulW (le8 s1 (by decide)) (le8 s3 (by decide)), ?_⟩
  refine ⟨_, rfl, _, _, _, _, rfl, rfl, ta, at1, _, rfl, _, _, _, _, rfl, rfl, tb, at1, _, _, rfl, rfl, mulW (le8 s2 (by decide)) (le8 (by simpa using s4) (by decide)), ?_⟩
  refine ⟨_, _, rfl, _, _, rfl, rfl, Int.mul_pos d0 (by exact_mod_cast qd), le8 m1 (by decide), le8 m3 (by decide), fun c H' e hc => ?_⟩
  refine k _ _ e ?_
  have e3 : (d * (q.den : Int)).toNat = d.toNat * q.den := by
    have h1 : ((d.toNat : Nat) : Int) = d := Int.toNat_of_nonneg (by omega)
    rw [← h1, ← Int.natCast_mul]
    rfl
  rw [e3] at hc
  have e4 : mkRat n d.toNat * q = mkRat (n * q.num) (d.toNat * q.den) := by
    conv => lhs; rw [← Rat.mkRat_self q]
    rw [Rat.mkRat_mul_mkRat]
  rw [e4]
  exact Am.of hc
theorem c_law_share_of (T : Tx P w K mg base) : Cal P w K mg base 3 "_law_share_of" (spBin (· / ·) (fun _ q => 0 < q) K) [] := by
  refine mkC T.f_law_share_of T.g_law_share_of sc_law_share_of len2 (fun _ _ _ _ _ _ us hl => match us, hl with | [_, _], _ => rfl) fun cdv A outer s H vs Q E hr h => ?_
  obtain ⟨_, _, rfl, p, q, ⟨a, rfl, ta⟩, ⟨b, rfl, tb⟩, ⟨s1, s2⟩, ⟨s3, s4⟩, C0, k⟩ := h
  have pd := p.den_pos
  have qd := q.den_pos
  refine ⟨_, (pss_cons (ps_if (pt_cmpR op_lt (pe_ix ix_tup (pv 1) pe_int (fun _ _ => rfl)) pe_int (nomark _)) (pss_one (ps_ret (pe_c (c_law_low T) hr (by omega) rfl (pa_cons (pe_op op_sub pe_int (pe_op op_mulW (pe_ix ix_tup (pv 0) pe_int (fun _ _ => rfl)) (pe_ix ix_tup (pv 1) pe_int (fun _ _ => rfl)))) (pa_cons (pe_op op_sub pe_int (pe_op op_mulW (pe_ix ix_tup (pv 0) pe_int (fun _ _ => rfl)) (pe_ix ix_tup (pv 1) pe_int (fun _ _ => rfl)))) pa_nil))))) pss_nil)
        (pss_one (ps_ret (pe_c (c_law_low T) hr (by omega) rfl (pa_cons (pe_op op_mulW (pe_ix ix_tup (pv 0) pe_int (fun _ _ => rfl)) (pe_ix ix_tup (pv 1) pe_int (fun _ _ => rfl))) (pa_cons (pe_op op_mulW (pe_ix ix_tup (pv 0) pe_int (fun _ _ => rfl)) (pe_ix ix_tup (pv 1) pe_int (fun _ _ => rfl))) pa_nil)))))), ?_⟩
  have hn := num_pos C0
  have m1 : (p.num * (q.den : Int)).natAbs < 2 ^ 7998 := lt_mulI (n := 3999) (m := 3999) s1 (by simpa using s4)
  have m3 : ((p.den : Int) * q.num).natAbs < 2 ^ 7998 := lt_mulI (n := 3999) (m := 3999) (by simpa using s2) s3
  refine ⟨_, rfl, _, _, _, _, rfl, rfl, tb, at0, _, _, rfl, rfl, _, rfl, ?_⟩
  rw [decide_eq_false (by omega)]
  refine iteF ?_
  refine ⟨_, rfl, _, _, _, _, rfl, rfl, ta, at0, _, rfl, _, _, _, _, rfl, rfl, tb, at1, _, _, rfl, rfl, mulW (le8 s1 (by decide)) (le8 (by simpa using s4) (by decide)), ?_⟩
  refine ⟨_, rfl, _, _, _, _, rfl, rfl, ta, at1, _, rfl, _, _, _, _, rfl, rfl, tb, at0, _, _, rfl, rfl, mulW (le8 (by simpa using s2) (by decide)) (le8 s3 (by decide)), ?_⟩
  refine ⟨_, _, rfl, _, _, rfl, rfl, Int.mul_pos (by omega) hn, le8 m1 (by decide), le8 m3 (by decide), fun c H' e hc => ?_⟩
  refine k _ _ e ?_
  show Am K H' _ (p / q)
  rw [q_div p q C0]
  have e3 : ((p.den : Int) * q.num).toNat = p.den * q.num.toNat := by
    have : ((q.num.toNat : Nat) : Int) = q.num := Int.toNat_of_nonneg (by omega)
    rw [← this, ← Int.natCast_mul]
    rfl
  rw [e3] at hc
  exact Am.of hc
theorem c_law_under (T : Tx P w K mg base) : Cal P w K mg base 1 "_law_under" (spLess K) [] := by
  refine mkC T.f_law_under T.g_law_under sc_law_under len2 (fun _ _ _ _ _ _ us hl => match us, hl with | [_, _], _ => rfl) fun cdv A outer s H vs Q E hr h => ?_
  obtain ⟨_, _, rfl, p, q, ⟨a, rfl, ta⟩, ⟨b, rfl, tb⟩, ⟨s1, s2⟩, ⟨s3, s4⟩, k⟩ := h
  refine ⟨_, (pss_one (ps_ret (pe_cmpR op_lt (pe_op op_mulW (pe_ix ix_tup (pv 0) pe_int (fun _ _ => rfl)) (pe_ix ix_tup (pv 1) pe_int (fun _ _ => rfl))) (pe_op op_mulW (pe_ix ix_tup (pv 1) pe_int (fun _ _ => rfl)) (pe_ix ix_tup (pv 0) pe_int (fun _ _ => rfl))) (nomark _)))), ?_⟩
  refine ⟨_, rfl, _, _, _, _, rfl, rfl, ta, at0, _, rfl, _, _, _, _, rfl, rfl, tb, at1, _, _, rfl, rfl, mulW (le8 s1 (by decide)) (le8 (by simpa using s4) (by decide)), ?_⟩
  refine ⟨_, rfl, _, _, _, _, rfl, rfl, tb, at0, _, rfl, _, _, _, _, rfl, rfl, ta, at1, _, _, rfl, rfl, mulW (le8 s3 (by decide)) (le8 (by simpa using s2) (by decide)), _, _, rfl, rfl, ?_⟩
  have e : decide (p < q) = decide (p.num * (q.den : Int) < q.num * (p.den : Int)) := by
    rw [decide_eq_decide]
    exact Rat.lt_iff p q
  rw [e] at k
  exact k
end
end K37
set_option Elab.async false
set_option linter.all false
set_option maxRecDepth 100000
set_option maxHeartbeats 4000000
namespace K37
open PySem PySem.Spec PyProof.Rows L2
open C8 (Cal Met Mak CalAt pe_c pe_mt pe_mt0 pe_mk pe_gc tCut pss_cut)
theorem ixN_nat {n j : Nat} (hj : j < n) : ixN n (j : Int) = some j := by
  unfold ixN
  rw [if_pos (by omega), if_pos (by omega)]
  exact congrArg some (by omega)
/-- small products -/
theorem mulS {a b : Int} (ha : a.natAbs < 2 ^ 64) (hb : b.natAbs < 2 ^ 64) : CMulW a b := wide_mul ha hb (by decide) (by decide) (by decide)
theorem divS {a b : Int} (h : 0 < b) (hb : b.natAbs < 2 ^ 64) : CDivW a b := wide_div h hb (by decide) (by decide)
/-! ### the box of draws -/
def BoxS (H : Hp) (b l : Addr) (ns : List Int) (i m s : Int) : Prop := H b = some (.lst [.ref l, .int i, .int m, .int s]) ∧ H l = some (.lst (ns.map V.int)) ∧ ns.length ≤ 63 ∧ 0 ≤ i ∧ i ≤ 63 ∧ 0 ≤ m ∧ 0 ≤ s ∧ s < 2147482951
def Box (l : Addr) (H : Hp) (b : Addr) : Prop := ∃ ns i m s, BoxS H b l ns i m s
theorem BoxS.ne {H : Hp} {b l : Addr} {ns : List Int} {i m s : Int} (h : BoxS H b l ns i m s) : l ≠ b := by
  intro e
  subst e
  have e2 := h.1.symm.trans h.2.1
  cases ns with
  | nil => injection e2 with e3; injection e3 with e4; cases e4
  | cons n r => injection e2 with e3; injection e3 with e4; injection e4 with e5; cases e5
theorem BoxS.put {H : Hp} {b l : Addr} {ns : List Int} {i m s i' m' s' : Int} (h : BoxS H b l ns i m s) (h0 : 0 ≤ i') (h1 : i' ≤ 63) (h2 : 0 ≤ m') (h3 : 0 ≤ s') (h4 : s' < 2147482951) : BoxS (upd H b (.lst [.ref l, .int i', .int m', .int s'])) b l ns i' m' s' :=
  ⟨upd_same, by rw [upd_ne h.ne]; exact h.2.1, h.2.2.1, h0, h1, h2, h3, h4⟩
theorem Box.s {H H' : Hp} {b l : Addr} (h : Box l H b) (e : Same H H') : Box l H' b := by
  obtain ⟨ns, i, m, s, h1, h2, r⟩ := h
  exact ⟨ns, i, m, s, e _ _ h1, e _ _ h2, r⟩
theorem Box.lst {H : Hp} {b l : Addr} (h : Box l H b) : ∃ xs, H b = some (.lst xs) := by
  obtain ⟨ns, i, m, s, h1, _⟩ := h
  exact ⟨_, h1⟩
/-- a tuple stands where the box changes -/
theorem box_t {K : PySem.W.Frag} {H H' : Hp} {b a l : Addr} {xs : List V} (hb : Box l H b) (e : Kp (· = b) H H') (h : SqT K H a xs) : SqT K H' a xs := e.t h fun ys q z => by
  obtain ⟨zs, hz⟩ := hb.lst
  rcases q with q | ⟨o, q⟩
  · rw [show a = b from z, hz] at q; cases q
  · rw [show a = b from z, hz] at q; cases q
theorem box_am {K : PySem.W.Frag} {H H' : Hp} {b l : Addr} {v : V} {q : Rat} (hb : Box l H b) (e : Kp (· = b) H H') (h : Am K H v q) : Am K H' v q := by
  obtain ⟨a, r, t⟩ := h
  exact ⟨a, r, box_t hb e t⟩
section
variable {P : Program} {w : World} {K : PySem.W.Frag} {mg : Str → Option Value} {base : Heap}
def spBox (K : PySem.W.Frag) : Sp := sp1 fun x H Q => ∃ (a : Addr) (ns : List Int), x = .ref a ∧ SqL K H a (ns.map V.int) ∧ ns.length ≤ 63 ∧ ∀ b l H', Same H H' → H b = none → Box l H' b → Q (.ref b) H'
theorem six_hi {n : Nat} (h : n ≤ 63) : HT.sIx n n (some 63) = n := by
  rw [show (63 : Int) = ((63 : Nat) : Int) from rfl, HT.sIx_nat]
  omega
theorem six_lo {n : Nat} : HT.sIx n 0 none = 0 := rfl
theorem cut63 {xs : List V} (h : xs.length ≤ 63) : cutV xs none (some 63) = xs := by
  unfold cutV
  rw [six_hi h, six_lo, List.drop_zero]
  exact List.take_of_length_le (by omega)
theorem c_law_box (T : Tx P w K mg base) : Cal P w K mg base 1 "_law_box" (spBox K) [] := by
  refine mkC T.f_law_box T.g_law_box sc_law_box len1 (fun _ _ _ _ _ _ us hl => match us, hl with | [_], _ => rfl) fun cdv A outer s H vs Q E hr h => ?_
  obtain ⟨_, rfl, a, ns, rfl, hs, hl, k⟩ := h
  have hl' : (ns.map V.int).length ≤ 63 := by rw [List.length_map]; exact hl
  refine ⟨_, (pss_one (ps_ret (pe_lst (pa_cons (pe_callTy call_list_of (by rfl) T.b_list (by decide +kernel) (pa_cons (pe_slice sl_list (pv 0) po_none (po_some pe_int)) pa_nil)) (pa_cons pe_int (pa_cons pe_int (pa_cons (pe_op op_add pe_int (pe_op op_mulW pe_int (pe_callB call_len_seq (by rfl) T.b_len (by decide +kernel) (pa_cons (pe_slice sl_list (pv 0) po_none (po_some pe_int)) pa_nil)))) pa_nil))))))), ?_⟩
  refine ⟨_, rfl, _, rfl, a, _, rfl, hs, fun p np => ?_⟩
  rw [cut63 hl']
  refine ⟨p, _, rfl, .inl (SqL.of upd_same), fun l nl => ?_⟩
  refine ⟨_, rfl, _, rfl, a, ns.map V.int, rfl, ?_, fun r nr => ?_⟩
  · exact Same.seq (same_new nl) (Same.seq (same_new np) hs)
  rw [cut63 hl']
  have e1 : Same H (upd (upd (upd H p (.lst (ns.map V.int))) l (.lst (ns.map V.int))) r (.lst (ns.map V.int))) := ((same_new np).trans (same_new nl)).trans (same_new nr)
  refine ⟨r, _, rfl, .inl (SqL.of upd_same), _, _, rfl, rfl, mulS (by decide) (by simp only [List.length_map]; omega), _, _, rfl, rfl, ?_⟩
  have hn := hl
  refine ⟨by show 4 ≤ sizeLine; decide, fun b nb => ?_⟩
  refine k b l _ (e1.trans (same_new nb)) (e1.free nb) ⟨ns, _, _, _, upd_same, ?_, hl, Int.le_refl _, by decide, Int.le_refl _, ?_, ?_⟩
  · have ne1 : l ≠ b := fun z => by rw [← z, upd_ne (fun z2 => by rw [z2, upd_same] at nr; cases nr), upd_same] at nb; cases nb
    rw [upd_ne ne1, upd_ne (fun z2 => by rw [← z2, upd_same] at nr; cases nr), upd_same]
  · simp only [List.length_map]
    omega
  · simp only [List.length_map]
    omega
def spTake : Sp := sp2 fun x y H Q => ∃ (b l : Addr) (k : Int), x = .ref b ∧ y = .int k ∧ Box l H b ∧ 1 ≤ k ∧ k ≤ 1000 ∧ ∀ (j : Int) H', 0 ≤ j → j < k → Kp (· = b) H H' → Box l H' b → Q (.int j) H'
theorem c_law_take (T : Tx P w K mg base) : Cal P w K mg base 1 "_law_take" spTake [] := by
  refine mkC T.f_law_take T.g_law_take sc_law_take len2 (fun _ _ _ _ _ _ us hl => match us, hl with | [_, _], _ => rfl) fun cdv A outer s0 H vs Q E hr h => ?_
  obtain ⟨_, _, rfl, b, l, k, rfl, rfl, hB, hk0, hk1, q⟩ := h
  refine ⟨_, (pss_cut (ps_if (PW.pt (pw_and (pt_cmpR op_eq (pe_ix ix_list (pv 0) pe_int (fun _ _ => rfl)) pe_int (nomark _)) (pw_and1 (pt_cmpR op_lt (pe_ix ix_list (pv 0) pe_int (fun _ _ => rfl)) (pe_callB call_len_seq (by rfl) T.b_len (by decide +kernel) (pa_cons (pe_ix ix_list (pv 0) pe_int (fun _ _ => rfl)) pa_nil)) (nomark _))))) (pss_cons (ps_set (i := 2) sc_law_take.nd rfl (by first | exact Or.inl rfl | exact Or.inr rfl) (pe_ix ix_list (pe_ix ix_list (pv 0) pe_int (fun _ _ => rfl)) (pe_ix ix_list (pv 0) pe_int (fun _ _ => rfl)) (fun _ _ => rfl)))
        (pss_cons (ps_asg (pe_op op_add (pe_ix ix_list (pv 0) pe_int (fun _ _ => rfl)) pe_int) (pg_sub (pv 0) pe_int set_list))
        (pss_one (ps_if (pt_cmpR op_ge (pv 2) (pe_op op_pow pe_int pe_int) (nomark _)) (pss_one (ps_asg (pv 2) (pg_sub (pv 0) pe_int set_list))) (pss_cons (ps_set (i := 3) sc_law_take.nd rfl (by first | exact Or.inl rfl | exact Or.inr rfl) (pe_op op_add (pe_op op_mulW (pe_ix ix_list (pv 0) pe_int (fun _ _ => rfl)) pe_int) (pe_op op_mulW (pe_ix ix_list (pv 0) pe_int (fun _ _ => rfl)) pe_int)))
        (pss_one (ps_asg (pe_op op_mod (pe_op op_add (pv 3) (pe_op op_mulW (pe_op op_mod (pv 2) pe_int) pe_int)) pe_int) (pg_sub (pv 0) pe_int set_list)))))))) pss_nil)
        (pss_cons (ps_if (pt_cmpR op_gt (pe_ix ix_list (pv 0) pe_int (fun _ _ => rfl)) pe_int (nomark _)) (pss_cons (ps_set (i := 4) sc_law_take.nd rfl (by first | exact Or.inl rfl | exact Or.inr rfl) (pe_op op_mod (pe_ix ix_list (pv 0) pe_int (fun _ _ => rfl)) (pv 1)))
        (pss_cons (ps_asg (pe_op op_fdivW (pe_ix ix_list (pv 0) pe_int (fun _ _ => rfl)) (pv 1)) (pg_sub (pv 0) pe_int set_list))
        (pss_one (ps_ret (pv 4))))) pss_nil)
        (pss_cons (ps_set (i := 3) sc_law_take.nd rfl (by first | exact Or.inl rfl | exact Or.inr rfl) (pe_op op_add (pe_op op_add (pe_op op_mulW (pe_ix ix_list (pv 0) pe_int (fun _ _ => rfl)) (pe_ix ix_list (pv 0) pe_int (fun _ _ => rfl))) (pe_op op_mulW (pe_ix ix_list (pv 0) pe_int (fun _ _ => rfl)) pe_int)) pe_int))
        (pss_cons (ps_asg (pe_op op_mod (pe_op op_add (pv 3) (pe_op op_mulW (pe_ix ix_list (pv 0) pe_int (fun _ _ => rfl)) pe_int)) pe_int) (pg_sub (pv 0) pe_int set_list))
        (pss_one (ps_ret (pe_op op_mod (pe_op op_add (pe_op op_fdivW (pe_ix ix_list (pv 0) pe_int (fun _ _ => rfl)) pe_int) (pe_op op_mulW (pe_op op_mod (pe_ix ix_list (pv 0) pe_int (fun _ _ => rfl)) pe_int) pe_int)) (pv 1)))))))), ?_⟩
  -- the first if; behind it the box stands again
  refine ⟨fun σ' H' => (∃ v2 v3, σ' = [some (.ref b), some (.int k), v2, v3, none]) ∧ Kp (· = b) H H' ∧ Box l H' b, ?_, ?_⟩
  · obtain ⟨ns, i, m, s, S⟩ := hB
    have S1 := S.1
    have S2 := S.2.1
    obtain ⟨_, _, hn, hi0, hi1, hm, hs0, hs1⟩ := id S
    refine ⟨_, rfl, _, _, _, _, rfl, rfl, SqL.of S1, at2, rfl, _, rfl, ?_⟩
    refine ite2 (fun _ => ?_) (fun _ => iteF ⟨⟨_, _, rfl⟩, Kp.refl _ _, ⟨ns, i, m, s, S⟩⟩)
    refine ⟨_, rfl, _, _, _, _, rfl, rfl, SqL.of S1, at1, _, rfl, _, _, _, _, rfl, rfl, SqL.of S1, at0, _, _, rfl, .inl (SqL.of S2), _, _, rfl, rfl, _, rfl, ?_⟩
    refine ite2 (fun hlt => ?_) (fun _ => ⟨⟨_, _, rfl⟩, Kp.refl _ _, ⟨ns, i, m, s, S⟩⟩)
    have hlt2 : i < (ns.length : Int) := by
      have := of_decide_eq_true hlt
      rwa [List.length_map] at this
    obtain ⟨z, hz⟩ : ∃ z, (ns.map V.int)[i.toNat]? = some (.int z) := by
      have h2 : i.toNat < ns.length := by omega
      exact ⟨ns[i.toNat], by rw [List.getElem?_map, List.getElem?_eq_getElem h2]; rfl⟩
    refine ⟨_, rfl, _, _, _, _, rfl, rfl, SqL.of S1, at0, _, rfl, _, _, _, _, rfl, rfl, SqL.of S1, at1, _, _, _, _, rfl, rfl, SqL.of S2, at_of (j := i.toNat) (by omega) hz, ?_⟩
    -- box[1] = box[1] + 1
    refine ⟨_, rfl, _, _, _, _, rfl, rfl, SqL.of S1, at1, _, _, rfl, rfl, ?_⟩
    refine ⟨_, rfl, b, _, 1, 1, rfl, rfl, S1, ixN_nat (by simp), ?_⟩
    have S' : BoxS (upd H b (.lst [.ref l, .int (i + 1), .int m, .int s])) b l ns (i + 1) m s := S.put (by omega) (by omega) hm hs0 hs1
    have K1 : Kp (· = b) H (upd H b (.lst [.ref l, .int (i + 1), .int m, .int s])) := kp_upd rfl
    show _
    have S1' := S'.1
    refine ⟨_, rfl, _, _, rfl, rfl, ⟨by decide, by decide, by decide⟩, _, _, rfl, rfl, _, rfl, ?_⟩
    refine ite2 (fun hge => ?_) (fun _ => ?_)
    · have hz0 : 0 ≤ z := by
        have h1 := of_decide_eq_true hge
        have h2 : (10 : Int) ^ (18 : Int).toNat = 1000000000000000000 := by decide
        omega
      refine ⟨_, rfl, _, rfl, b, _, 2, 2, rfl, rfl, S1', ixN_nat (by simp), ?_⟩
      exact ⟨⟨_, _, rfl⟩, K1.trans (kp_upd rfl), ⟨ns, _, _, _, S'.put (by omega) (by omega) hz0 hs0 hs1⟩⟩
    · refine ⟨_, rfl, _, _, _, _, rfl, rfl, SqL.of S1', at3, _, _, rfl, rfl, mulS (by omega) (by decide), ?_⟩
      refine ⟨_, rfl, _, _, _, _, rfl, rfl, SqL.of S1', at1, _, _, rfl, rfl, mulS (by omega) (by decide), _, _, rfl, rfl, ?_⟩
      refine ⟨_, rfl, _, rfl, _, _, rfl, rfl, by show (0:Int) < _; decide, _, _, rfl, rfl, mulS (by omega) (by decide), _, _, rfl, rfl, _, _, rfl, rfl, by show (0:Int) < _; decide, ?_⟩
      refine ⟨_, rfl, b, _, 3, 3, rfl, rfl, S1', ixN_nat (by simp), ?_⟩
      exact ⟨⟨_, _, rfl⟩, K1.trans (kp_upd rfl), ⟨ns, _, _, _, S'.put (by omega) (by omega) hm (by omega) (by omega)⟩⟩
  · rintro σ' H' ⟨⟨v2, v3, rfl⟩, K1, ⟨ns, i, m, s, S⟩⟩
    have S1 := S.1
    obtain ⟨_, _, hn, hi0, hi1, hm, hs0, hs1⟩ := id S
    refine ⟨_, rfl, _, _, _, _, rfl, rfl, SqL.of S1, at2, _, _, rfl, rfl, _, rfl, ?_⟩
    refine ite2 (fun hgt => ?_) (fun _ => ?_)
    · have hgt := of_decide_eq_true hgt
      refine ⟨_, rfl, _, _, _, _, rfl, rfl, SqL.of S1, at2, _, rfl, _, _, rfl, rfl, by omega, ?_⟩
      refine ⟨_, rfl, _, _, _, _, rfl, rfl, SqL.of S1, at2, _, rfl, _, _, rfl, rfl, divS (by omega) (by omega), ?_⟩
      refine ⟨_, rfl, b, _, 2, 2, rfl, rfl, S1, ixN_nat (by simp), ?_⟩
      refine ⟨_, rfl, ?_⟩
      exact q _ _ (Int.emod_nonneg _ (by omega)) (Int.emod_lt_of_pos _ (by omega)) (K1.trans (kp_upd rfl)) ⟨ns, _, _, _, S.put hi0 hi1 (Int.ediv_nonneg hm (by omega)) hs0 hs1⟩
    · refine ⟨_, rfl, _, _, _, _, rfl, rfl, SqL.of S1, at3, _, rfl, _, _, _, _, rfl, rfl, SqL.of S1, at3, _, _, rfl, rfl, mulS (by omega) (by omega), ?_⟩
      refine ⟨_, rfl, _, _, _, _, rfl, rfl, SqL.of S1, at3, _, _, rfl, rfl, mulS (by omega) (by decide), _, _, rfl, rfl, _, _, rfl, rfl, ?_⟩
      refine ⟨_, rfl, _, rfl, _, _, _, _, rfl, rfl, SqL.of S1, at1, _, _, rfl, rfl, mulS (by omega) (by decide), _, _, rfl, rfl, _, _, rfl, rfl, by show (0:Int) < _; decide, ?_⟩
      refine ⟨_, rfl, b, _, 3, 3, rfl, rfl, S1, ixN_nat (by simp), ?_⟩
      have S' : ∀ x : Int, 0 ≤ x → x < 2147482951 → BoxS (upd H' b (.lst [.ref l, .int i, .int m, .int x])) b l ns i m x := fun x h0 h1 => S.put hi0 hi1 hm h0 h1
      dsimp only
      generalize hx : (s * s + s * 30269 + 7919 + i * 101) % 2147482951 = x
      have hx0 : 0 ≤ x := by omega
      have hx1 : x < 2147482951 := by omega
      have S' := S' x hx0 hx1
      have S1' := S'.1
      refine ⟨_, rfl, _, _, _, _, rfl, rfl, SqL.of S1', at3, _, _, rfl, rfl, divS (by decide) (by decide), ?_⟩
      refine ⟨_, rfl, _, _, _, _, rfl, rfl, SqL.of S1', at3, _, _, rfl, rfl, by show (0:Int) < _; decide, _, _, rfl, rfl, mulS (by omega) (by decide), _, _, rfl, rfl, _, rfl, _, _, rfl, rfl, by omega, ?_⟩
      exact q _ _ (Int.emod_nonneg _ (by omega)) (Int.emod_lt_of_pos _ (by omega)) (K1.trans (kp_upd rfl)) ⟨ns, _, _, _, S'⟩
end
end K37
set_option Elab.async false
set_option linter.all false
set_option maxRecDepth 100000
set_option maxHeartbeats 4000000
namespace K37
open PySem PySem.Spec PyProof.Rows L2
open C8 (Cal Met Mak CalAt pe_c pe_mt pe_mt0 pe_mk pe_gc tCut pss_cut)
/-! ### values -/
inductive Wd | plus | minus | best | least
def Wd.s : Wd → Str | .plus => "plus" | .minus => "minus" | .best => "best" | .least => "least"
def better (p q : Rat) : Rat := if p < q then q else p
def worse (p q : Rat) : Rat := if p < q then p else q
def Wd.op : Wd → Rat → Rat → Rat | .plus, p, q => p + q | .minus, p, q => p - q | .best, p, q => better p q | .least, p, q => worse p q
inductive Vl | price | coin (q : Rat) | of (q : Rat) (u : Vl) | two (w : Wd) (u u' : Vl)
def Vl.eval (p : Rat) : Vl → Rat
  | .price => p
  | .coin q => q
  | .of q u => q * u.eval p
  | .two w u u' => w.op (u.eval p) (u'.eval p)
def Vl.Is (K : PySem.W.Frag) (H : Hp) : Vl → V → Prop
  | .price, v => ∃ a, v = .ref a ∧ SqT K H a [.str "price"]
  | .coin q, v => ∃ a x, v = .ref a ∧ SqT K H a [.str "coin", x] ∧ Am K H x q
  | .of q u, v => ∃ a x y, v = .ref a ∧ SqT K H a [.str "of", x, y] ∧ Am K H x q ∧ u.Is K H y
  | .two w u u', v => ∃ a x y, v = .ref a ∧ SqT K H a [.str w.s, x, y] ∧ u.Is K H x ∧ u'.Is K H y
def Vl.Ok : Vl → Nat → Prop
  | .price, _ => True
  | .coin q, _ => Sz 6 q
  | .of q u, d => ∃ e, d = e + 1 ∧ Sz 6 q ∧ u.Ok e
  | .two _ u u', d => ∃ e, d = e + 1 ∧ u.Ok e ∧ u'.Ok e
def bd : Nat → Nat | 0 => 11 | d + 1 => 2 * bd d + 1
theorem bd11 : ∀ d, 11 ≤ bd d | 0 => Nat.le_refl _ | d + 1 => Nat.le_trans (bd11 d) (by show bd d ≤ 2 * bd d + 1; omega)
theorem Wd.sz {w : Wd} {n : Nat} {p q : Rat} (hp : Sz n p) (hq : Sz n q) : Sz (2 * n + 1) (w.op p q) := by
  cases w with
  | plus => exact hp.add hq (by omega)
  | minus => exact hp.sub hq (by omega)
  | best => show Sz _ (if p < q then q else p); split; exact hq.mono (by omega); exact hp.mono (by omega)
  | least => show Sz _ (if p < q then p else q); split; exact hp.mono (by omega); exact hq.mono (by omega)
theorem Vl.sz {p : Rat} (hp : Sz 11 p) : ∀ {u : Vl} {d : Nat}, u.Ok d → Sz (bd d) (u.eval p)
  | .price, d, _ => hp.mono (bd11 d)
  | .coin q, d, h => Sz.mono (show Sz 6 q from h) (Nat.le_trans (by decide) (bd11 d))
  | .of q u, _, ⟨e, rfl, h1, h2⟩ => Sz.mul h1 (Vl.sz hp h2) (by have := bd11 e; show 6 + bd e ≤ 2 * bd e + 1; omega)
  | .two w u u', _, ⟨e, rfl, h1, h2⟩ => Wd.sz (Vl.sz hp h1) (Vl.sz hp h2)
theorem Vl.Is.s {K : PySem.W.Frag} {H H' : Hp} (e : Same H H') : ∀ {u : Vl} {v : V}, u.Is K H v → u.Is K H' v
  | .price, _, ⟨a, r, t⟩ => ⟨a, r, same_t e t⟩
  | .coin q, _, ⟨a, x, r, t, m⟩ => ⟨a, x, r, same_t e t, m.s e⟩
  | .of q u, _, ⟨a, x, y, r, t, m, i⟩ => ⟨a, x, y, r, same_t e t, m.s e, i.s e⟩
  | .two w u u', _, ⟨a, x, y, r, t, i, j⟩ => ⟨a, x, y, r, same_t e t, i.s e, j.s e⟩
theorem kpS {M : Addr → Prop} {H H' : Hp} (e : Same H H') : Kp M H H' := fun b o h _ => e b o h
/-- what changes is no tuple -/
def NoT (M : Addr → Prop) (H : Hp) : Prop := ∀ a xs, (H a = some (.tup xs) ∨ ∃ o, H a = some (.frz o (.tup xs))) → ¬ M a
theorem Kp.tn {K : PySem.W.Frag} {M : Addr → Prop} {H H' : Hp} {a : Addr} {xs : List V} (e : Kp M H H') (n : NoT M H) (h : SqT K H a xs) : SqT K H' a xs := e.t h fun xs q => n a xs q
theorem Kp.am {K : PySem.W.Frag} {M : Addr → Prop} {H H' : Hp} {v : V} {q : Rat} (e : Kp M H H') (n : NoT M H) (h : Am K H v q) : Am K H' v q := by
  obtain ⟨a, r, t⟩ := h
  exact ⟨a, r, e.tn n t⟩
theorem Kp.vl {K : PySem.W.Frag} {M : Addr → Prop} {H H' : Hp} (e : Kp M H H') (n : NoT M H) : ∀ {u : Vl} {v : V}, u.Is K H v → u.Is K H' v
  | .price, _, ⟨a, r, t⟩ => ⟨a, r, e.tn n t⟩
  | .coin q, _, ⟨a, x, r, t, m⟩ => ⟨a, x, r, e.tn n t, e.am n m⟩
  | .of q u, _, ⟨a, x, y, r, t, m, i⟩ => ⟨a, x, y, r, e.tn n t, e.am n m, e.vl n i⟩
  | .two w u u', _, ⟨a, x, y, r, t, i, j⟩ => ⟨a, x, y, r, e.tn n t, e.vl n i, e.vl n j⟩
theorem noT_box {H : Hp} {b l : Addr} (h : Box l H b) : NoT (· = b) H := fun a xs q z => by
  obtain ⟨zs, hz⟩ := h.lst
  rw [show a = b from z, hz] at q
  rcases q with q | ⟨o, q⟩ <;> cases q
section
variable {P : Program} {w : World} {K : PySem.W.Frag} {mg : Str → Option Value} {base : Heap}
/-! ### the draws -/
def spOne (K : PySem.W.Frag) : Sp := sp2 fun x y H Q => ∃ (b l a : Addr) (xs : List V), x = .ref b ∧ y = .ref a ∧ Box l H b ∧ SqL K H a xs ∧ a ≠ b ∧ 1 ≤ xs.length ∧ xs.length ≤ 1000 ∧ ∀ z H', z ∈ xs → Kp (· = b) H H' → Box l H' b → Q z H'
theorem c_law_one (T : Tx P w K mg base) : Cal P w K mg base 2 "_law_one" (spOne K) [] := by
  refine mkC T.f_law_one T.g_law_one sc_law_one len2 (fun _ _ _ _ _ _ us hl => match us, hl with | [_, _], _ => rfl) fun cdv A outer s0 H vs Q E hr h => ?_
  obtain ⟨_, _, rfl, b, l, a, xs, rfl, rfl, hB, ha, hne, h1, h2, q⟩ := h
  refine ⟨_, (pss_one (ps_ret (pe_ix ix_list (pv 1) (pe_c (c_law_take T) hr (by omega) rfl (pa_cons (pv 0) (pa_cons (pe_callB call_len_seq (by rfl) T.b_len (by decide +kernel) (pa_cons (pv 1) pa_nil)) pa_nil))) (fun _ _ => rfl)))), ?_⟩
  refine ⟨_, rfl, _, rfl, _, rfl, a, xs, rfl, .inl ha, _, _, rfl, b, _, _, rfl, rfl, hB, by omega, by omega, fun j H' j0 j1 e hB' => ?_⟩
  obtain ⟨z, hz⟩ : ∃ z, xs[j.toNat]? = some z := by
    have h3 : j.toNat < xs.length := by omega
    exact ⟨_, List.getElem?_eq_getElem h3⟩
  exact ⟨_, _, _, _, rfl, rfl, e.l ha hne, at_of (j := j.toNat) (by omega) hz, q z H' (List.mem_of_getElem? hz) e hB'⟩
def spNear : Sp := sp2 fun x y H Q => ∃ (b l : Addr) (k : Int), x = .ref b ∧ y = .int k ∧ Box l H b ∧ 1 ≤ k ∧ k ≤ 400 ∧ ∀ (j : Int) H', -k ≤ j → j ≤ k → Kp (· = b) H H' → Box l H' b → Q (.int j) H'
theorem c_law_near (T : Tx P w K mg base) : Cal P w K mg base 2 "_law_near" spNear [] := by
  refine mkC T.f_law_near T.g_law_near sc_law_near len2 (fun _ _ _ _ _ _ us hl => match us, hl with | [_, _], _ => rfl) fun cdv A outer s0 H vs Q E hr h => ?_
  obtain ⟨_, _, rfl, b, l, k, rfl, rfl, hB, h1, h2, q⟩ := h
  refine ⟨_, (pss_one (ps_ret (pe_op op_sub (pe_c (c_law_take T) hr (by omega) rfl (pa_cons (pv 0) (pa_cons (pe_op op_add (pe_op op_mulW pe_int (pv 1)) pe_int) pa_nil))) (pv 1)))), ?_⟩
  refine ⟨_, rfl, _, rfl, _, _, rfl, rfl, mulS (by decide) (by omega), _, _, rfl, rfl, _, _, rfl, b, _, _, rfl, rfl, hB, by omega, by omega, fun j H' j0 j1 e hB' => ?_⟩
  exact ⟨_, rfl, _, _, rfl, rfl, q _ H' (by omega) (by omega) e hB'⟩
theorem six {xs : List V} {i : Int} {a : Int} (h0 : 0 ≤ i) (h1 : i < 6) (a1 : 1 ≤ a) (a2 : a ≤ 9) (hx : xs = [.int 1, .int 1, .int 1, .int 2, .int 3, .int a]) : ∃ z : Int, atI xs i = some (.int z) ∧ 1 ≤ z ∧ z ≤ 9 := by
  subst hx
  have e : i = 0 ∨ i = 1 ∨ i = 2 ∨ i = 3 ∨ i = 4 ∨ i = 5 := by omega
  rcases e with rfl | rfl | rfl | rfl | rfl | rfl
  · exact ⟨1, at_of (j := 0) rfl rfl, by decide, by decide⟩
  · exact ⟨1, at_of (j := 1) rfl rfl, by decide, by decide⟩
  · exact ⟨1, at_of (j := 2) rfl rfl, by decide, by decide⟩
  · exact ⟨2, at_of (j := 3) rfl rfl, by decide, by decide⟩
  · exact ⟨3, at_of (j := 4) rfl rfl, by decide, by decide⟩
  · exact ⟨a, at_of (j := 5) rfl rfl, a1, a2⟩
/-- a drawn amount: far, the numerator's least -/
def spAmt (K : PySem.W.Frag) (C : Int → Rat → Prop) : Sp := sp2 fun x y H Q => ∃ (b l : Addr) (k : Int), x = .ref b ∧ y = .int k ∧ Box l H b ∧ 1 ≤ k ∧ k ≤ 40 ∧ ∀ v q H', Am K H' v q → Sz 6 q → C k q → Kp (· = b) H H' → Box l H' b → Q v H'
theorem mk6 {a : Int} {b : Int} (ha : a.natAbs ≤ 40) (h1 : 1 ≤ b) (h2 : b ≤ 9) : Sz 6 (mkRat a b.toNat) := sz_mk (by omega) (by omega) (by omega)
theorem c_law_coin (T : Tx P w K mg base) : Cal P w K mg base 3 "_law_coin" (spAmt K fun _ _ => True) [] := by
  refine mkC T.f_law_coin T.g_law_coin sc_law_coin len2 (fun _ _ _ _ _ _ us hl => match us, hl with | [_, _], _ => rfl) fun cdv A outer s0 H vs Q E hr h => ?_
  obtain ⟨_, _, rfl, b, l, k, rfl, rfl, hB, h1, h2, q⟩ := h
  refine ⟨_, (pss_one (ps_ret (pe_c (c_law_low T) hr (by omega) rfl (pa_cons (pe_c (c_law_near T) hr (by omega) rfl (pa_cons (pv 0) (pa_cons (pv 1) pa_nil))) (pa_cons (pe_ix ix_list (pe_lst (pa_cons pe_int (pa_cons pe_int (pa_cons pe_int (pa_cons pe_int (pa_cons pe_int (pa_cons (pe_op op_add pe_int (pe_c (c_law_take T) hr (by omega) rfl (pa_cons (pv 0) (pa_cons pe_int pa_nil)))) pa_nil))))))) (pe_c (c_law_take T) hr (by omega) rfl (pa_cons (pv 0) (pa_cons pe_int pa_nil))) (fun _ _ => rfl)) pa_nil))))), ?_⟩
  refine ⟨_, rfl, _, rfl, _, _, rfl, b, _, k, rfl, rfl, hB, h1, by omega, fun j H1 j0 j1 e1 B1 => ?_⟩
  refine ⟨_, rfl, _, _, rfl, b, _, _, rfl, rfl, B1, by decide, by decide, fun n H2 n0 n1 e2 B2 => ?_⟩
  refine ⟨_, _, rfl, rfl, by show 6 ≤ sizeLine; decide, fun p np => ?_⟩
  have B3 : Box l (upd H2 p (.lst [.int 1, .int 1, .int 1, .int 2, .int 3, .int (1 + n)])) b := B2.s (same_new np)
  have hpb : p ≠ b := fun z => by obtain ⟨zs, hz⟩ := B2.lst; rw [z, hz] at np; cases np
  refine ⟨_, rfl, _, _, rfl, b, _, _, rfl, rfl, B3, by decide, by decide, fun i H4 i0 i1 e4 B4 => ?_⟩
  have hl : H4 p = some (.lst [.int 1, .int 1, .int 1, .int 2, .int 3, .int (1 + n)]) := e4 p _ upd_same hpb
  obtain ⟨z, hz, z0, z1⟩ := six i0 i1 (a := 1 + n) (by omega) (by omega) rfl
  refine ⟨_, _, _, _, rfl, rfl, SqL.of hl, hz, ?_⟩
  refine ⟨_, _, rfl, j, z, rfl, rfl, by omega, le8 (n := 6) (by omega) (by decide), le8 (n := 6) (by omega) (by decide), fun c H5 e5 hc => ?_⟩
  exact q _ _ H5 (Am.of hc) (mk6 (by omega) z0 z1) trivial (((e1.trans e2).trans ((kpS (same_new np)).trans e4)).trans (kpS e5)) (B4.s e5)
theorem c_law_above (T : Tx P w K mg base) : Cal P w K mg base 3 "_law_above" (spAmt K fun _ q => 0 < q) [] := by
  refine mkC T.f_law_above T.g_law_above sc_law_above len2 (fun _ _ _ _ _ _ us hl => match us, hl with | [_, _], _ => rfl) fun cdv A outer s0 H vs Q E hr h => ?_
  obtain ⟨_, _, rfl, b, l, k, rfl, rfl, hB, h1, h2, q⟩ := h
  refine ⟨_, (pss_one (ps_ret (pe_c (c_law_low T) hr (by omega) rfl (pa_cons (pe_op op_add pe_int (pe_c (c_law_take T) hr (by omega) rfl (pa_cons (pv 0) (pa_cons (pv 1) pa_nil)))) (pa_cons (pe_ix ix_list (pe_lst (pa_cons pe_int (pa_cons pe_int (pa_cons pe_int (pa_cons pe_int (pa_cons pe_int (pa_cons (pe_op op_add pe_int (pe_c (c_law_take T) hr (by omega) rfl (pa_cons (pv 0) (pa_cons pe_int pa_nil)))) pa_nil))))))) (pe_c (c_law_take T) hr (by omega) rfl (pa_cons (pv 0) (pa_cons pe_int pa_nil))) (fun _ _ => rfl)) pa_nil))))), ?_⟩
  refine ⟨_, rfl, _, rfl, _, _, rfl, b, _, k, rfl, rfl, hB, h1, by omega, fun j H1 j0 j1 e1 B1 => ?_⟩
  refine ⟨_, _, rfl, rfl, _, rfl, _, _, rfl, b, _, _, rfl, rfl, B1, by decide, by decide, fun n H2 n0 n1 e2 B2 => ?_⟩
  refine ⟨_, _, rfl, rfl, by show 6 ≤ sizeLine; decide, fun p np => ?_⟩
  have B3 : Box l (upd H2 p (.lst [.int 1, .int 1, .int 1, .int 2, .int 3, .int (1 + n)])) b := B2.s (same_new np)
  have hpb : p ≠ b := fun z => by obtain ⟨zs, hz⟩ := B2.lst; rw [z, hz] at np; cases np
  refine ⟨_, rfl, _, _, rfl, b, _, _, rfl, rfl, B3, by decide, by decide, fun i H4 i0 i1 e4 B4 => ?_⟩
  have hl : H4 p = some (.lst [.int 1, .int 1, .int 1, .int 2, .int 3, .int (1 + n)]) := e4 p _ upd_same hpb
  obtain ⟨z, hz, z0, z1⟩ := six i0 i1 (a := 1 + n) (by omega) (by omega) rfl
  refine ⟨_, _, _, _, rfl, rfl, SqL.of hl, hz, ?_⟩
  refine ⟨_, _, rfl, 1 + j, z, rfl, rfl, by omega, le8 (n := 6) (by omega) (by decide), le8 (n := 6) (by omega) (by decide), fun c H5 e5 hc => ?_⟩
  refine q _ _ H5 (Am.of hc) (mk6 (by omega) z0 z1) ?_ (((e1.trans e2).trans ((kpS (same_new np)).trans e4)).trans (kpS e5)) (B4.s e5)
  rw [Rat.mkRat_eq_div, Rat.div_def]
  refine Rat.mul_pos ?_ ((Rat.inv_pos).mpr ?_)
  · exact_mod_cast (show (0 : Int) < 1 + j by omega)
  · exact_mod_cast (show 0 < z.toNat by omega)
/-! ### a drawn value -/
def spValue (K : PySem.W.Frag) (d : Nat) : Sp := sp2 fun x y H Q => ∃ (b l : Addr), x = .ref b ∧ y = .int (d : Int) ∧ Box l H b ∧ ∀ (v : V) (u : Vl) (H' : Hp), u.Is K H' v → u.Ok (d - 1) → Kp (· = b) H H' → Box l H' b → Q v H'
def spPre (f : Nat → Sp) : Nat → Sp | 0 => fun _ _ _ _ => False | d + 1 => f d
theorem mod2 {i : Int} (h : 0 ≤ i) : i % 2 = 0 ∨ i % 2 = 1 := by omega
theorem four {i : Int} (h0 : 0 ≤ i) (h1 : i < 4) : ∃ w : Wd, atI [V.str "plus", V.str "minus", V.str "best", V.str "least"] i = some (V.str w.s) := by
  have e : i = 0 ∨ i = 1 ∨ i = 2 ∨ i = 3 := by omega
  rcases e with rfl | rfl | rfl | rfl
  · exact ⟨.plus, at_of (j := 0) rfl rfl⟩
  · exact ⟨.minus, at_of (j := 1) rfl rfl⟩
  · exact ⟨.best, at_of (j := 2) rfl rfl⟩
  · exact ⟨.least, at_of (j := 3) rfl rfl⟩
theorem c_value_step (T : Tx P w K mg base) (d : Nat) (ih : Cal P w K mg base (d + 4) "_law_value" (spPre (spValue K) d) []) : Cal P w K mg base (d + 5) "_law_value" (spValue K d) [] := by
  refine mkC T.f_law_value T.g_law_value sc_law_value (show ∀ vs H Q E, spValue K d vs H Q E → vs.length = 2 from len2) (fun _ _ _ _ _ _ us hl => match us, hl with | [_, _], _ => rfl) fun cdv A outer s0 H vs Q E hr h => ?_
  obtain ⟨_, _, rfl, b, l, rfl, rfl, hB, q⟩ := h
  refine ⟨_, (pss_cons (ps_set (i := 2) sc_law_value.nd rfl (by first | exact Or.inl rfl | exact Or.inr rfl) (pe_c (c_law_take T) hr (by omega) rfl (pa_cons (pv 0) (pa_cons pe_int pa_nil))))
        (pss_cons (ps_if (PW.pt (pw_or (pt_cmpR op_lt (pv 1) pe_int (nomark _)) (pw_or1 (pt_cmpR op_lt (pv 2) pe_int (nomark _))))) (pss_one (ps_ret (pe_ix ix_list (pe_lst (pa_cons (pe_tup (pa_cons pe_str pa_nil)) (pa_cons (pe_tup (pa_cons pe_str (pa_cons (pe_c (c_law_coin T) hr (by omega) rfl (pa_cons (pv 0) (pa_cons pe_int pa_nil))) pa_nil))) pa_nil))) (pe_op op_mod (pv 2) pe_int) (fun _ _ => rfl)))) pss_nil)
        (pss_cons (ps_if (pt_cmpR op_eq (pv 2) pe_int (nomark _)) (pss_one (ps_ret (pe_tup (pa_cons pe_str (pa_cons (pe_c (c_law_coin T) hr (by omega) rfl (pa_cons (pv 0) (pa_cons pe_int pa_nil))) (pa_cons (pe_c ih hr (by omega) rfl (pa_cons (pv 0) (pa_cons (pe_op op_sub (pv 1) pe_int) pa_nil))) pa_nil)))))) pss_nil)
        (pss_cons (ps_set (i := 3) sc_law_value.nd rfl (by first | exact Or.inl rfl | exact Or.inr rfl) (pe_ix ix_list (pe_lst (pa_cons pe_str (pa_cons pe_str (pa_cons pe_str (pa_cons pe_str pa_nil))))) (pe_c (c_law_take T) hr (by omega) rfl (pa_cons (pv 0) (pa_cons pe_int pa_nil))) (fun _ _ => rfl)))
        (pss_one (ps_ret (pe_tup (pa_cons (pv 3) (pa_cons (pe_c ih hr (by omega) rfl (pa_cons (pv 0) (pa_cons (pe_op op_sub (pv 1) pe_int) pa_nil))) (pa_cons (pe_c ih hr (by omega) rfl (pa_cons (pv 0) (pa_cons (pe_op op_sub (pv 1) pe_int) pa_nil))) pa_nil)))))))))), ?_⟩
  refine ⟨_, rfl, _, _, rfl, b, _, 8, rfl, rfl, hB, by decide, by decide, fun j H1 j0 j1 e1 B1 => ?_⟩
  refine ⟨_, rfl, _, _, rfl, rfl, _, rfl, ?_⟩
  refine ite2 (fun hd => ?_) (fun hd => ?_)
  · refine iteT ?_
    refine ⟨by show 1 ≤ sizeLine; decide, fun p1 n1 => ?_⟩
    have B2 : Box l (upd H1 p1 (.tup [.str "price"])) b := B1.s (same_new n1)
    refine ⟨_, rfl, _, _, rfl, b, _, 40, rfl, rfl, B2, by decide, by decide, fun x r H3 hx sx _ e3 B3 => ?_⟩
    have t1 : SqT K H3 p1 [.str "price"] := e3.tn (noT_box B2) (SqT.of upd_same)
    refine ⟨by show 2 ≤ sizeLine; decide, fun p2 n2 => ?_⟩
    refine ⟨by show 2 ≤ sizeLine; decide, fun p3 n3 => ?_⟩
    have s4 : Same H3 (upd (upd H3 p2 (.tup [.str "coin", x])) p3 (.lst [.ref p1, .ref p2])) := (same_new n2).trans (same_new n3)
    have ne : p2 ≠ p3 := fun z => by rw [← z, upd_same] at n3; cases n3
    have k4 : Kp (· = b) H (upd (upd H3 p2 (.tup [.str "coin", x])) p3 (.lst [.ref p1, .ref p2])) := ((e1.trans (kpS (same_new n1))).trans e3).trans (kpS s4)
    refine ⟨_, rfl, _, _, rfl, rfl, by show (0 : Int) < 2; decide, ?_⟩
    rcases mod2 j0 with hm | hm
    · refine ⟨_, _, 0, _, rfl, congrArg V.int hm, SqL.of upd_same, at0, ?_⟩
      exact q _ .price _ ⟨_, rfl, same_t s4 t1⟩ trivial k4 (B3.s s4)
    · refine ⟨_, _, 1, _, rfl, congrArg V.int hm, SqL.of upd_same, at1, ?_⟩
      exact q _ (.coin r) _ ⟨_, _, rfl, SqT.of (by rw [upd_ne ne, upd_same]), hx.s s4⟩ sx k4 (B3.s s4)
  refine ⟨_, rfl, _, _, rfl, rfl, _, rfl, ?_⟩
  refine ite2 (fun hk => ?_) (fun hk => ?_)
  · skip
    refine ⟨by show 1 ≤ sizeLine; decide, fun p1 n1 => ?_⟩
    have B2 : Box l (upd H1 p1 (.tup [.str "price"])) b := B1.s (same_new n1)
    refine ⟨_, rfl, _, _, rfl, b, _, 40, rfl, rfl, B2, by decide, by decide, fun x r H3 hx sx _ e3 B3 => ?_⟩
    have t1 : SqT K H3 p1 [.str "price"] := e3.tn (noT_box B2) (SqT.of upd_same)
    refine ⟨by show 2 ≤ sizeLine; decide, fun p2 n2 => ?_⟩
    refine ⟨by show 2 ≤ sizeLine; decide, fun p3 n3 => ?_⟩
    have s4 : Same H3 (upd (upd H3 p2 (.tup [.str "coin", x])) p3 (.lst [.ref p1, .ref p2])) := (same_new n2).trans (same_new n3)
    have ne : p2 ≠ p3 := fun z => by rw [← z, upd_same] at n3; cases n3
    have k4 : Kp (· = b) H (upd (upd H3 p2 (.tup [.str "coin", x])) p3 (.lst [.ref p1, .ref p2])) := ((e1.trans (kpS (same_new n1))).trans e3).trans (kpS s4)
    refine ⟨_, rfl, _, _, rfl, rfl, by show (0 : Int) < 2; decide, ?_⟩
    rcases mod2 j0 with hm | hm
    · refine ⟨_, _, 0, _, rfl, congrArg V.int hm, SqL.of upd_same, at0, ?_⟩
      exact q _ .price _ ⟨_, rfl, same_t s4 t1⟩ trivial k4 (B3.s s4)
    · refine ⟨_, _, 1, _, rfl, congrArg V.int hm, SqL.of upd_same, at1, ?_⟩
      exact q _ (.coin r) _ ⟨_, _, rfl, SqT.of (by rw [upd_ne ne, upd_same]), hx.s s4⟩ sx k4 (B3.s s4)
  have hd2 : ¬ ((d : Int) < 2) := fun z => hd (decide_eq_true z)
  obtain ⟨n, rfl⟩ : ∃ n, d = n + 2 := ⟨d - 2, by omega⟩
  have sub : ((n + 2 : Nat) : Int) - 1 = ((n + 1 : Nat) : Int) := by omega
  refine ⟨_, rfl, rfl, _, rfl, ?_⟩
  refine ite2 (fun hk4 => ?_) (fun hk4 => ?_)
  · refine ⟨_, rfl, _, _, rfl, b, _, 5, rfl, rfl, B1, by decide, by decide, fun x r H2 hx sx _ e2 B2 => ?_⟩
    refine ⟨_, rfl, _, rfl, _, _, rfl, rfl, _, _, rfl, b, _, rfl, congrArg V.int sub, B2, fun y u H3 hy oy e3 B3 => ?_⟩
    refine ⟨by show 3 ≤ sizeLine; decide, fun p np => ?_⟩
    have s4 : Same H3 (upd H3 p (.tup [.str "of", x, y])) := same_new np
    exact q _ (.of r u) _ ⟨_, _, _, rfl, SqT.of upd_same, (e3.am (noT_box B2) hx).s s4, hy.s s4⟩ ⟨_, rfl, sx, oy⟩ (((e1.trans e2).trans e3).trans (kpS s4)) (B3.s s4)
  · refine ⟨by show 4 ≤ sizeLine; decide, fun l nl => ?_⟩
    have B2 := B1.s (same_new (o := .lst [.str "plus", .str "minus", .str "best", .str "least"]) nl)
    have hlb : l ≠ b := fun z => by obtain ⟨zs, hz⟩ := B1.lst; rw [z, hz] at nl; cases nl
    refine ⟨_, rfl, _, _, rfl, b, _, 4, rfl, rfl, B2, by decide, by decide, fun i H3 i0 i1 e3 B3 => ?_⟩
    obtain ⟨w', hw⟩ := four i0 i1
    refine ⟨_, _, _, _, rfl, rfl, SqL.of (e3 l _ upd_same hlb), hw, ?_⟩
    refine ⟨_, rfl, _, rfl, _, rfl, _, _, rfl, rfl, _, _, rfl, b, _, rfl, congrArg V.int sub, B3, fun x u H4 hx ox e4 B4 => ?_⟩
    refine ⟨_, rfl, _, rfl, _, _, rfl, rfl, _, _, rfl, b, _, rfl, congrArg V.int sub, B4, fun y u' H5 hy oy e5 B5 => ?_⟩
    refine ⟨by show 3 ≤ sizeLine; decide, fun p np => ?_⟩
    have s6 : Same H5 (upd H5 p (.tup [.str w'.s, x, y])) := same_new np
    exact q _ (.two w' u u') _ ⟨_, _, _, rfl, SqT.of upd_same, (e5.vl (noT_box B4) hx).s s6, hy.s s6⟩ ⟨_, rfl, ox, oy⟩ ((((((e1.trans (kpS (same_new nl))).trans e3).trans e4).trans e5)).trans (kpS s6)) (B5.s s6)
theorem c_law_value_no (T : Tx P w K mg base) (k : Nat) : Cal P w K mg base (k + 1) "_law_value" (fun _ _ _ _ => False) [] :=
  mkC T.f_law_value T.g_law_value sc_law_value (fun _ _ _ _ h => h.elim) (fun _ _ _ _ _ _ us hl => match us, hl with | [_, _], _ => rfl) fun _ _ _ _ _ _ _ _ _ h => h.elim
theorem c_law_value (T : Tx P w K mg base) : ∀ d, Cal P w K mg base (d + 5) "_law_value" (spValue K d) []
  | 0 => c_value_step T 0 (c_law_value_no T 3)
  | d + 1 => c_value_step T (d + 1) (c_law_value T d)
end
end K37
set_option Elab.async false
set_option linter.all false
set_option maxRecDepth 100000
set_option maxHeartbeats 4000000
namespace K37
open PySem PySem.Spec PyProof.Rows L2
open C8 (Cal Met Mak CalAt pe_c pe_mt pe_mt0 pe_mk pe_gc tCut pss_cut)
theorem un64 {j : Nat} {A : Around} (hr : Room j A) : A.units + 64 < cLine := by have := hr.un; omega
theorem un65 {j : Nat} {A : Around} (hr : Room j A) : A.units + 65 < cLine := by have := hr.un; omega
/-! ### lists against their mirrors -/
def All2 {α : Type} (R : V → α → Prop) : List V → List α → Prop
  | [], [] => True
  | v :: vs, x :: xs => R v x ∧ All2 R vs xs
  | _, _ => False
section
variable {α : Type} {R R' : V → α → Prop}
theorem All2.len : ∀ {vs : List V} {xs : List α}, All2 R vs xs → vs.length = xs.length
  | [], [], _ => rfl
  | _ :: _, _ :: _, h => congrArg (· + 1) (All2.len h.2)
theorem All2.snoc {y : V} {z : α} : ∀ {vs : List V} {xs : List α}, All2 R vs xs → R y z → All2 R (vs ++ [y]) (xs ++ [z])
  | [], [], _, h => ⟨h, trivial⟩
  | _ :: _, _ :: _, a, h => ⟨a.1, All2.snoc a.2 h⟩
theorem All2.mono (f : ∀ v x, R v x → R' v x) : ∀ {vs : List V} {xs : List α}, All2 R vs xs → All2 R' vs xs
  | [], [], _ => trivial
  | _ :: _, _ :: _, a => ⟨f _ _ a.1, All2.mono f a.2⟩
theorem All2.mono' : ∀ {vs : List V} {xs : List α}, All2 R vs xs → (∀ v x, v ∈ vs → R v x → R' v x) → All2 R' vs xs
  | [], [], _, _ => trivial
  | _ :: _, _ :: _, a, f => ⟨f _ _ (by simp) a.1, All2.mono' a.2 fun v x h => f v x (by simp [h])⟩
theorem All2.nil_ {vs : List V} {xs : List α} {i : Nat} {x : α} (a : All2 R vs xs) (h : xs[i]? = some x) : ∃ v, vs[i]? = some v := by
  have l := a.len
  have := (List.getElem?_eq_some_iff.mp h).1
  exact ⟨_, List.getElem?_eq_getElem (by omega)⟩
theorem All2.at_ : ∀ {vs : List V} {xs : List α} {i : Nat} {x : α}, All2 R vs xs → xs[i]? = some x → ∃ v, vs[i]? = some v ∧ R v x
  | [], [], _, _, _, h => by cases h
  | _ :: _, _ :: _, 0, _, a, h => ⟨_, rfl, by have e := Option.some.inj h; subst e; exact a.1⟩
  | _ :: _, _ :: _, i + 1, _, a, h => All2.at_ (i := i) a.2 h
theorem All2.get : ∀ {vs : List V} {xs : List α} {i : Nat} {v : V}, All2 R vs xs → vs[i]? = some v → ∃ x, xs[i]? = some x ∧ R v x
  | [], [], _, _, _, h => by cases h
  | _ :: _, _ :: _, 0, _, a, h => ⟨_, rfl, by have e := Option.some.inj h; subst e; exact a.1⟩
  | _ :: _, _ :: _, i + 1, _, a, h => All2.get (i := i) a.2 h
end
theorem fresh_box {H : Hp} {b p l : Addr} (B : Box l H b) (n : H p = none) : p ≠ b := fun z => by
  obtain ⟨zs, hz⟩ := B.lst
  rw [z, hz] at n
  cases n
theorem fresh_box2 {H : Hp} {b p l : Addr} (B : Box l H b) (n : H p = none) : p ≠ b ∧ p ≠ l := ⟨fresh_box B n, fun z => by
  obtain ⟨_, _, _, _, _, h, _⟩ := B
  rw [z, h] at n
  cases n⟩
theorem Box.upd {H : Hp} {b p l : Addr} {o : HO} (B : Box l H b) (n : p ≠ b ∧ p ≠ l) : Box l (upd H p o) b := by
  obtain ⟨ns, i, m, s, h1, h2, r⟩ := B
  exact ⟨ns, i, m, s, by rw [upd_ne n.1.symm]; exact h1, by rw [upd_ne n.2.symm]; exact h2, r⟩
theorem none_upd {H : Hp} {p a : Addr} {o : HO} (n : upd H p o a = none) : H a = none ∧ a ≠ p := by
  have ne : a ≠ p := fun z => by rw [z, upd_same] at n; cases n
  exact ⟨by rw [upd_ne ne] at n; exact n, ne⟩
theorem kp_none {M : Addr → Prop} {H H' : Hp} {a : Addr} (e : Kp M H H') (n : H' a = none) (m : ¬ M a) : H a = none := by
  cases q : H a with
  | none => rfl
  | some o => rw [e a o q m] at n; cases n
theorem kp_fresh {M : Addr → Prop} {H H' : Hp} {p : Addr} {o : HO} (e : Kp M H H') (h : H p = none) : Kp M H (upd H' p o) := fun b u r m => by
  rw [upd_ne (ne_of_none r h)]
  exact e b u r m
/-- a row of amounts, standing at a place of its own -/
def RowR (K : PySem.W.Frag) (H : Hp) (b : Addr) (v : V) (qs : List Rat) : Prop := ∃ a vs, v = .ref a ∧ H a = some (.lst vs) ∧ a ≠ b ∧ All2 (Am K H) vs qs
theorem RowR.kp {K : PySem.W.Frag} {H H' : Hp} {b : Addr} {v : V} {qs : List Rat} (h : RowR K H b v qs) (e : Kp (· = b) H H') (n : NoT (· = b) H) : RowR K H' b v qs := by
  obtain ⟨a, vs, r, h1, ne, h2⟩ := h
  exact ⟨a, vs, r, e _ _ h1 ne, ne, h2.mono fun _ _ m => e.am n m⟩
def RwPos (n : Nat) (r : List Rat) : Prop := ∀ q ∈ r, 0 < q ∧ Sz n q
/-- a row of at least two different amounts -/
def RwOk (r : List Rat) : Prop := r.length ≤ 8 ∧ RwPos 11 r ∧ ∃ p ∈ r, ∃ q ∈ r, p ≠ q
def PsOk (n : Nat) (Ps : List (List Rat)) : Prop := ∃ q rest, Ps = [q] :: rest ∧ RwPos 11 [q] ∧ rest.length = n ∧ ∀ r ∈ rest, RwOk r
theorem Am.dp {K : PySem.W.Frag} {H : Hp} {v : V} {q : Rat} (h : Am K H v q) : Dp K H v (.tuple [.int q.num, .int (q.den : Int)]) := by
  obtain ⟨a, rfl, t⟩ := h
  exact .tup t (.cons (.int _) (.cons (.int _) .nil))
def datQ (q : Rat) : PyData := .tuple [.int q.num, .int (q.den : Int)]
theorem ams_dp {K : PySem.W.Frag} {H : Hp} : ∀ {vs : List V} {qs : List Rat}, All2 (Am K H) vs qs → DpAll K H vs (qs.map datQ)
  | [], [], _ => .nil
  | _ :: _, _ :: _, a => .cons a.1.dp (ams_dp a.2)
theorem shaped_q (q : Rat) : SeqAt.shaped (datQ q) = true := rfl
theorem lay_qs : ∀ qs : List Rat, PyData.canLayAll0 (qs.map datQ) = true
  | [] => rfl
  | q :: qs => lay_qs qs
theorem depth_qs : ∀ qs : List Rat, PyData.depthAll (qs.map datQ) ≤ 1
  | [] => by decide
  | q :: qs => Nat.max_le.mpr ⟨Nat.le_refl _, depth_qs qs⟩
theorem shaped_qs (qs : List Rat) : SeqAt.shaped (.list (qs.map datQ)) = true := by
  have h := depth_qs qs
  show (PyData.canLayAll0 (qs.map datQ) && decide (PyData.depthAll (qs.map datQ) + 1 ≤ 64)) = true
  rw [lay_qs, decide_eq_true (by omega)]
  rfl
theorem eqv_q (p q : Rat) : PyData.eqv (datQ p) (datQ q) = decide (p = q) := by
  show (p.num == q.num && ((p.den : Int) == (q.den : Int) && true)) = decide (p = q)
  rw [Bool.and_true]
  by_cases h : p = q
  · subst h; simp
  · rw [decide_eq_false h]
    cases e1 : (p.num == q.num) with
    | false => rfl
    | true =>
      cases e2 : ((p.den : Int) == (q.den : Int)) with
      | false => rfl
      | true =>
        have h1 : p.num = q.num := by simpa using e1
        have h2 : p.den = q.den := by
          have h3 : (p.den : Int) = (q.den : Int) := by simpa using e2
          exact_mod_cast h3
        exact absurd (Rat.ext h1 h2) h
theorem ams_ks {K : PySem.W.Frag} {H : Hp} : ∀ {vs : List V} {qs : List Rat}, All2 (Am K H) vs qs → ∃ ks : List (Addr × List Int), vs = ks.map (fun p => V.ref p.1) ∧ (∀ p ∈ ks, SqT K H p.1 (p.2.map V.int)) ∧ ks.map (·.2) = qs.map fun q => [q.num, (q.den : Int)]
  | [], [], _ => ⟨[], rfl, fun _ h => (List.not_mem_nil h).elim, rfl⟩
  | _ :: _, q :: _, h => by
    obtain ⟨⟨a, rfl, t⟩, h2⟩ := h
    obtain ⟨ks, rfl, h3, h4⟩ := ams_ks h2
    refine ⟨(a, [q.num, (q.den : Int)]) :: ks, rfl, fun p hp => ?_, by simp [h4]⟩
    rcases List.mem_cons.mp hp with rfl | hp
    · exact t
    · exact h3 p hp
/-- two keys of a set of the row's are two amounts of the row -/
theorem two_of {qs : List Rat} {ks L : List (Addr × List Int)} (h4 : ks.map (·.2) = qs.map fun q => [q.num, (q.den : Int)]) (hs : ∀ p ∈ L, p ∈ ks) (nd : (L.map (·.2)).Nodup) (h2 : 2 ≤ L.length) : ∃ p ∈ qs, ∃ q ∈ qs, p ≠ q := by
  match L, h2 with
  | x :: y :: L', _ =>
    have hx : x.2 ∈ ks.map (·.2) := List.mem_map.mpr ⟨x, hs x (by simp), rfl⟩
    have hy : y.2 ∈ ks.map (·.2) := List.mem_map.mpr ⟨y, hs y (by simp), rfl⟩
    rw [h4] at hx hy
    obtain ⟨p, hp, ep⟩ := List.mem_map.mp hx
    obtain ⟨q, hq, eq⟩ := List.mem_map.mp hy
    refine ⟨p, hp, q, hq, fun z => ?_⟩
    subst z
    simp [← ep, ← eq] at nd
/-- a row under way: at most k amounts, one at least behind the first turn -/
def RIn (K : PySem.W.Frag) (H3 : Hp) (R b l : Addr) (k : Nat) (H' : Hp) (vs : List V) (qs : List Rat) : Prop := H' R = some (.lst vs) ∧ All2 (Am K H') vs qs ∧ RwPos 6 qs ∧ qs.length ≤ k ∧ (0 < k → qs ≠ []) ∧ Kp (· = b) H3 H' ∧ Box l H' b
section
variable {K : PySem.W.Frag} {H3 H' H8 : Hp} {R b l : Addr} {k : Nat} {vs : List V} {qs : List Rat} {y : V} {t : Rat}
theorem NoT.upd {M : Addr → Prop} {H : Hp} {p : Addr} {o : HO} (n : NoT M H) (m : ¬ M p) : NoT M (upd H p o) := fun a xs q => by
  by_cases z : a = p
  · rw [z]; exact m
  · rw [upd_ne z] at q; exact n a xs q
/-- a list's change leaves the tuples -/
theorem am_l {xs : List V} {o : HO} {v : V} {q : Rat} (h : Am K H' v q) (hR : H' R = some (.lst xs)) : Am K (upd H' R o) v q := (kp_upd (M := (· = R)) rfl).am (fun a ys q2 z => by
  rw [show a = R from z, hR] at q2
  rcases q2 with q2 | ⟨o, q2⟩ <;> cases q2) h
theorem RIn.app (h : RIn K H3 R b l k H' vs qs) (nR : H3 R = none) (B3 : Box l H3 b) (Rb : R ≠ b) (hy : Am K H8 y t) (py : 0 < t ∧ Sz 6 t) (e8 : Kp (· = b) H' H8) (B8 : Box l H8 b) : H8 R = some (.lst vs) ∧ RIn K H3 R b l (k + 1) (upd H8 R (.lst (vs ++ [y]))) (vs ++ [y]) (qs ++ [t]) := by
  obtain ⟨hR, hqs, pos, ll, ne, e6, B6⟩ := h
  have hR8 := e8 R _ hR Rb
  refine ⟨hR8, upd_same, All2.snoc (hqs.mono fun _ _ m => am_l (e8.am (noT_box B6) m) hR8) (am_l hy hR8), fun q hq => ?_, by simp; omega, fun _ => by simp, kp_fresh (e6.trans e8) nR, ?_⟩
  · rcases List.mem_append.mp hq with hq | hq
    · exact pos q hq
    · rw [List.mem_singleton.mp hq]; exact py
  · obtain ⟨ns, i, m, s, h1, h2, r⟩ := B8
    obtain ⟨_, _, _, _, _, h4, _⟩ := B3
    exact ⟨ns, i, m, s, by rw [upd_ne Rb.symm]; exact h1, by rw [upd_ne (ne_of_none h4 nR)]; exact h2, r⟩
theorem RIn.skip (h : RIn K H3 R b l k H' vs qs) (Rb : R ≠ b) (hq : qs ≠ []) (e8 : Kp (· = b) H' H8) (B8 : Box l H8 b) : RIn K H3 R b l (k + 1) H8 vs qs := by
  obtain ⟨hR, hqs, pos, ll, ne, e6, B6⟩ := h
  exact ⟨e8 R _ hR Rb, hqs.mono fun _ _ m => e8.am (noT_box B6) m, pos, by omega, fun _ => hq, e6.trans e8, B8⟩
end
section
variable {P : Program} {w : World} {K : PySem.W.Frag} {mg : Str → Option Value} {base : Heap}
def spRows (K : PySem.W.Frag) : Sp := sp3 fun x y z H Q => ∃ (b l : Addr) (n : Nat) (m : Int), x = .ref b ∧ y = .int ((n : Int) + 1) ∧ z = .int m ∧ Box l H b ∧ n ≤ 3 ∧ 2 ≤ m ∧ m ≤ 3 ∧
  ∀ A rs Ps H', H' A = some (.lst rs) → A ≠ b → All2 (RowR K H' b) rs Ps → PsOk n Ps → Kp (· = b) H H' → Box l H' b → Q (.ref A) H'
theorem c_law_rows_between (T : Tx P w K mg base) : Cal P w K mg base 4 "_law_rows_between" (spRows K) [] := by
  refine mkC T.f_law_rows_between T.g_law_rows_between sc_law_rows_between len3 (fun _ _ _ _ _ _ us hl => match us, hl with | [_, _, _], _ => rfl) fun cdv A0 outer s0 H vs Q E hr h => ?_
  obtain ⟨_, _, _, rfl, b, l, n, m, rfl, rfl, rfl, hB, hn, hm0, hm1, q⟩ := h
  refine ⟨_, (pss_cons (ps_set (i := 3) sc_law_rows_between.nd rfl (by first | exact Or.inl rfl | exact Or.inr rfl) (pe_lst (pa_cons (pe_lst (pa_cons (pe_c (c_law_above T) hr (by omega) rfl (pa_cons (pv 0) (pa_cons pe_int pa_nil))) pa_nil)) pa_nil)))
        (pss_cons (ps_for PassesOwn.never rfl (pi_range2 (by rfl) T.b_range (pa_cons pe_int (pa_cons (pv 1) pa_nil))) (pg_name (i := 4) sc_law_rows_between.nd rfl (by first | exact Or.inl rfl | exact Or.inr rfl)) (pss_cons (ps_set (i := 5) sc_law_rows_between.nd rfl (by first | exact Or.inl rfl | exact Or.inr rfl) (pe_lst pa_nil))
        (pss_cons (ps_for PassesOwn.never rfl (pi_range1 (by rfl) T.b_range (pa_cons (pe_op op_add pe_int (pe_c (c_law_take T) hr (by omega) rfl (pa_cons (pv 0) (pa_cons (pe_op op_sub (pv 2) pe_int) pa_nil)))) pa_nil)) (pg_name (i := 6) sc_law_rows_between.nd rfl (by first | exact Or.inl rfl | exact Or.inr rfl)) (pss_cons (ps_set (i := 7) sc_law_rows_between.nd rfl (by first | exact Or.inl rfl | exact Or.inr rfl) (pe_c (c_law_above T) hr (by omega) rfl (pa_cons (pv 0) (pa_cons pe_int pa_nil))))
        (pss_one (ps_if (PW.pt (pw_or (pt_cmpR (op_eqD (un64 hr)) (pv 5) (pe_lst pa_nil) (nomark _)) (pw_or (pt_cmpR (op_notInD (un65 hr)) (pv 7) (pv 5) (by rfl)) (pw_or1 (pt_cmpR op_eq (pe_c (c_law_take T) hr (by omega) rfl (pa_cons (pv 0) (pa_cons pe_int pa_nil))) pe_int (nomark _)))))) (pss_one (ps_expr (pe_bm PySem.F.plainAttrs_list PySem.F.slot_list_append PySem.F.type_list_append mt_append (pv 5) (pa_cons (pv 7) pa_nil)))) pss_nil))))
        (pss_cut (ps_if (pt_cmpR op_lt (pe_callB K37R.call_lenST (by rfl) T.b_len (by decide +kernel) (pa_cons (pe_callTy (cr_setOfT rfl (un64 hr)) (by rfl) T.b_set (by decide +kernel) (pa_cons (pv 5) pa_nil)) pa_nil)) pe_int (nomark _)) (pss_one (ps_set (i := 5) sc_law_rows_between.nd rfl (by first | exact Or.inl rfl | exact Or.inr rfl) (pe_op op_cat (pe_slice sl_list (pv 5) po_none (po_some pe_int)) (pe_lst (pa_cons (pe_c (c_law_sum T) hr (by omega) rfl (pa_cons (pe_ix ix_list (pv 5) pe_int (fun _ _ => rfl)) (pa_cons (pe_tup (pa_cons (pe_op op_add pe_int (pe_c (c_law_take T) hr (by omega) rfl (pa_cons (pv 0) (pa_cons pe_int pa_nil)))) (pa_cons pe_int pa_nil))) pa_nil))) pa_nil))))) pss_nil)
        (pss_one (ps_expr (pe_bm PySem.F.plainAttrs_list PySem.F.slot_list_append PySem.F.type_list_append mt_append (pv 3) (pa_cons (pv 5) pa_nil))))))))
        (pss_one (ps_ret (pv 3))))), ?_⟩
  refine ⟨_, rfl, _, _, rfl, b, _, 30, rfl, rfl, hB, by decide, by decide, fun x r H1 hx sx px e1 B1 => ?_⟩
  refine ⟨by show 1 ≤ sizeLine; decide, fun p np => ⟨by show 1 ≤ sizeLine; decide, fun A nA => ?_⟩⟩
  have pb : p ≠ b := fresh_box B1 np
  have nA1 : H1 A = none ∧ A ≠ p := none_upd nA
  have Ab : A ≠ b := fresh_box B1 nA1.1
  have A0n : H A = none := kp_none e1 nA1.1 Ab
  have S2 : Same H1 (upd (upd H1 p (.lst [x])) A (.lst [.ref p])) := (same_new np).trans (same_new nA)
  have B2 : Box l (upd (upd H1 p (.lst [x])) A (.lst [.ref p])) b := B1.s S2
  have R2 : RowR K (upd (upd H1 p (.lst [x])) A (.lst [.ref p])) b (.ref p) [r] := ⟨p, [x], rfl, by rw [upd_ne nA1.2.symm, upd_same], pb, hx.s S2, trivial⟩
  refine ⟨_, rfl, 1, _, rfl, ⟨by decide, by decide, by omega, by omega⟩, for_it (n := ((n : Int) + 1 - 1).toNat) walk_range (fun i σ H' => ∃ rs rest x4 x5 x6 x7, σ = [some (.ref b), some (.int ((n : Int) + 1)), some (.int m), some (.ref A), x4, x5, x6, x7] ∧ H' A = some (.lst rs) ∧ All2 (RowR K H' b) rs ([r] :: rest) ∧ rest.length = i ∧ (∀ y ∈ rest, RwOk y) ∧ (∀ v ∈ rs, v ≠ .ref A) ∧ Kp (· = b) H H' ∧ Box l H' b) ?_ (fun _ _ _ _ _ => trivial) ?_ ?_⟩
  · exact ⟨_, [], _, _, _, _, rfl, upd_same, ⟨R2, trivial⟩, rfl, fun _ h => (List.not_mem_nil h).elim, fun v hv z => by rw [List.mem_singleton.mp hv] at z; injection z with z; exact nA1.2 z.symm, e1.trans (kpS S2), B2⟩
  · rintro i _ _ _ H3 hi ⟨rs, rest, x4, x5, x6, x7, rfl, hA, hrs, hl, hok, hrA, e3, B3⟩ ⟨rfl, rfl⟩
    refine ⟨by show 0 ≤ sizeLine; decide, fun R nR => ?_⟩
    have Rb : R ≠ b := fresh_box B3 nR
    have B4 : Box l (upd H3 R (.lst [])) b := B3.s (same_new nR)
    refine ⟨_, rfl, _, rfl, _, _, rfl, rfl, _, _, rfl, b, _, _, rfl, rfl, B4, by omega, by omega, fun j H5 j0 j1 e5 B5 => ?_⟩
    have K5 : Kp (· = b) H3 H5 := (kpS (same_new nR)).trans e5
    refine ⟨_, _, rfl, rfl, _, rfl, by omega, by omega, for_it (n := (2 + j).toNat) walk_range (fun k σ H' => ∃ vs qs x6 x7, σ = [some (.ref b), some (.int ((n : Int) + 1)), some (.int m), some (.ref A), some (.int (1 + (i : Int))), some (.ref R), x6, x7] ∧ RIn K H3 R b l k H' vs qs) ?_ (fun _ _ _ _ _ => trivial) ?_ ?_⟩
    · exact ⟨[], [], _, _, rfl, e5 R _ upd_same Rb, trivial, fun _ h => (List.not_mem_nil h).elim, Nat.le_refl _, fun h => absurd h (Nat.lt_irrefl 0), K5, B5⟩
    · rintro k _ _ _ H6 hk ⟨vs, qs, x6, x7, rfl, h6⟩ ⟨rfl, rfl⟩
      obtain ⟨hR, hqs, pos, ll, ne, e6, B6⟩ := id h6
      refine ⟨_, rfl, _, _, rfl, b, _, 40, rfl, rfl, B6, by decide, by decide, fun y t H7 hy sy py e7 B7 => ?_⟩
      have len6 : vs.length ≤ 3 := by rw [hqs.len]; omega
      have hlt : vs.length < sizeLine := Nat.lt_of_le_of_lt len6 (by decide)
      refine ⟨_, rfl, by show 0 ≤ sizeLine; decide, fun z nz => ?_⟩
      have B8 := B7.s (same_new (o := .lst []) nz)
      have e8 := e7.trans (kpS (M := (· = b)) (same_new (o := .lst []) nz))
      have hy8 := hy.s (same_new (o := .lst []) nz)
      have D8 := ams_dp (hqs.mono fun _ _ m => e8.am (noT_box B6) m)
      refine ⟨.list _, .list [], .lst (SqL.of (e8 R _ hR Rb)) D8, .lst (SqL.of upd_same) .nil, shaped_qs _, rfl, _, rfl, ?_⟩
      refine ite2 (fun hc => iteT ?_) (fun hc => ?_)
      · obtain ⟨g1, g2⟩ := h6.app nR B3 Rb hy8 ⟨py, sy⟩ e8 B8
        exact ⟨_, rfl, .inl ⟨rfl, _, SqL.of g1⟩, _, rfl, R, vs, y, rfl, rfl, g1, hlt, _, _, _, _, rfl, g2⟩
      · refine ⟨_, rfl, _, rfl, _, _, hy8.dp, .lst (SqL.of (e8 R _ hR Rb)) D8, rfl, shaped_qs _, _, rfl, ?_⟩
        refine ite2 (fun hc => iteT ?_) (fun hc => ?_)
        · obtain ⟨g1, g2⟩ := h6.app nR B3 Rb hy8 ⟨py, sy⟩ e8 B8
          exact ⟨_, rfl, .inl ⟨rfl, _, SqL.of g1⟩, _, rfl, R, vs, y, rfl, rfl, g1, hlt, _, _, _, _, rfl, g2⟩
        · refine ⟨_, rfl, _, _, rfl, b, _, 3, rfl, rfl, B8, by decide, by decide, fun u H9 u0 u1 e9 B9 => ?_⟩
          refine ⟨rfl, _, rfl, ?_⟩
          refine ite2 (fun hc3 => ?_) (fun hc3 => ?_)
          · obtain ⟨g1, g2⟩ := h6.app nR B3 Rb (e9.am (noT_box B8) hy8) ⟨py, sy⟩ (e8.trans e9) B9
            exact ⟨_, rfl, .inl ⟨rfl, _, SqL.of g1⟩, _, rfl, R, vs, y, rfl, rfl, g1, hlt, _, _, _, _, rfl, g2⟩
          · refine ⟨_, _, _, _, rfl, h6.skip Rb (fun z => ?_) (e8.trans e9) B9⟩
            subst z
            exact hc rfl
    · rintro _ H6 ⟨vs, qs, x6, x7, rfl, hR, hqs, pos, ll, ne, e6, B6⟩
      have hne := ne (by omega)
      have len6 : qs.length ≤ 6 := by omega
      refine ⟨fun σ' H' => ∃ R' vs' qs' x6 x7, σ' = [some (.ref b), some (.int ((n : Int) + 1)), some (.int m), some (.ref A), some (.int (1 + (i : Int))), some (.ref R'), x6, x7] ∧ H' R' = some (.lst vs') ∧ H3 R' = none ∧ R' ≠ b ∧ All2 (Am K H') vs' qs' ∧ RwOk qs' ∧ Kp (· = b) H3 H' ∧ Box l H' b, ?_, ?_⟩
      · obtain ⟨ks, rfl, hk1, hk2⟩ := ams_ks hqs
        have lks : ks.length = qs.length := by have := hqs.len; simpa using this
        refine ⟨_, rfl, R, ks, rfl, SqL.of hR, hk1, by omega, fun a L na hs hall => ?_⟩
        have S7 : Same H6 (upd H6 a (SetTO P w a L)) := same_new na
        refine ⟨a, L, rfl, upd_same, fun p hp => same_t S7 (hk1 p (hs p hp)), fun nd => ?_⟩
        refine ⟨_, _, rfl, rfl, _, rfl, ?_⟩
        refine ite2 (fun hc => ?_) (fun hc => ?_)
        · obtain ⟨q0, qr, rfl⟩ : ∃ q0 qr, qs = q0 :: qr := List.exists_cons_of_ne_nil hne
          obtain ⟨k0, kr, rfl⟩ : ∃ k0 kr, ks = k0 :: kr := List.exists_cons_of_ne_nil (fun z => by rw [z] at lks; simp at lks)
          have hm7 : Am K (upd H6 a (SetTO P w a L)) (V.ref k0.1) q0 := hqs.1.s S7
          have hR7 := S7 R _ hR
          have B7 := B6.s S7
          refine ⟨_, rfl, _, rfl, R, _, rfl, SqL.of hR7, fun c nc => ?_⟩
          have S8 : Same H6 (upd (upd H6 a (SetTO P w a L)) c (.lst [V.ref k0.1])) := S7.trans (same_new nc)
          have hR8 := S8 R _ hR
          have B8 := B6.s S8
          refine ⟨_, rfl, _, _, _, _, rfl, rfl, SqL.of hR8, at0, ?_⟩
          refine ⟨_, rfl, _, _, rfl, b, _, 9, rfl, rfl, B8, by decide, by decide, fun u H9 u0 u1 e9 B9 => ?_⟩
          refine ⟨_, _, rfl, rfl, by show 2 ≤ sizeLine; decide, fun tp ntp => ?_⟩
          have hq0 := (pos q0 (by simp)).2
          have hm9 : Am K (upd H9 tp (.tup [.int (1 + u), .int 1])) (V.ref k0.1) q0 := (e9.am (noT_box B8) (hqs.1.s S8)).s (same_new ntp)
          have hmu : Am K (upd H9 tp (.tup [.int (1 + u), .int 1])) (V.ref tp) ((1 + u : Int) : Rat) := Am.of upd_same
          have su : Sz 4 ((1 + u : Int) : Rat) := ⟨by show (1 + u).natAbs < 16; omega, by show 1 < 16; decide⟩
          refine ⟨_, _, rfl, q0, _, hm9, hmu, hq0.mono (by decide), su.mono (by decide), trivial, fun v H11 e11 hv => ?_⟩
          refine ⟨by show 1 ≤ sizeLine; decide, fun d nd' => ?_⟩
          have cb : c ≠ b := fresh_box B7 nc
          have hc11 : H11 c = some (.lst [V.ref k0.1]) := e11 c _ (same_new ntp c _ (e9 c _ upd_same cb))
          have S12 := same_new (o := .lst [v]) nd'
          refine ⟨c, d, [V.ref k0.1], [v], rfl, rfl, S12 c _ hc11, upd_same, by show 2 ≤ sizeLine; decide, fun R' nR' => ?_⟩
          have S13 : Same (upd H9 tp (.tup [.int (1 + u), .int 1])) (upd (upd H11 d (.lst [v])) R' (.lst ([V.ref k0.1] ++ [v]))) := (e11.trans S12).trans (same_new nR')
          have K13 : Kp (· = b) H6 (upd (upd H11 d (.lst [v])) R' (.lst ([V.ref k0.1] ++ [v]))) := ((kpS S8).trans e9).trans (kpS ((same_new ntp).trans S13))
          have B13 : Box l (upd (upd H11 d (.lst [v])) R' (.lst ([V.ref k0.1] ++ [v]))) b := (B9.s (same_new ntp)).s S13
          have Rb' : R' ≠ b := fresh_box ((B9.s (same_new ntp)).s (e11.trans S12)) nR'
          have nR6 : H6 R' = none := kp_none (((kpS (M := (· = b)) S8).trans e9).trans (kpS ((same_new ntp).trans (e11.trans S12)))) nR' Rb'
          have hpos : (0 : Rat) < ((1 + u : Int) : Rat) := by exact_mod_cast (show (0 : Int) < 1 + u by omega)
          refine ⟨R', _, [q0, q0 + ((1 + u : Int) : Rat)], _, _, rfl, upd_same, kp_none e6 nR6 Rb', Rb', ⟨hm9.s S13, hv.s (S12.trans (same_new nR')), trivial⟩, ⟨by show 2 ≤ 8; decide, ?_, q0, by simp, q0 + ((1 + u : Int) : Rat), by simp, ?_⟩, e6.trans K13, B13⟩
          · intro y hy
            have p0 := (pos q0 (by simp)).1
            rcases List.mem_cons.mp hy with rfl | hy
            · exact ⟨p0, hq0.mono (by decide)⟩
            · rw [List.mem_singleton.mp hy]
              exact ⟨by grind, hq0.add su (by decide)⟩
          · intro z
            grind
        · have h2 : ¬ ((L.length : Int) < 2) := fun z => hc (decide_eq_true z)
          refine ⟨R, _, qs, _, _, rfl, S7 R _ hR, nR, Rb, hqs.mono fun _ _ m => m.s S7, ⟨by omega, fun q hq => ⟨(pos q hq).1, (pos q hq).2.mono (by decide)⟩, two_of hk2 hs nd (by omega)⟩, e6.trans (kpS S7), B6.s S7⟩
      · rintro _ H7 ⟨R', vs', qs', x6', x7', rfl, hR', nR', Rb', hqs', ok', e7, B7⟩
        have hA7 := e7 A _ hA Ab
        have RA : R' ≠ A := fun z => by rw [z, hA] at nR'; cases nR'
        have lr : rs.length ≤ 5 := by rw [hrs.len]; simp; omega
        refine ⟨_, rfl, .inl ⟨rfl, _, SqL.of hA7⟩, _, rfl, A, rs, _, rfl, rfl, hA7, Nat.lt_of_le_of_lt lr (by decide), ?_⟩
        have mA : ∀ {v qs}, RowR K H7 b v qs → v ≠ .ref A → RowR K (upd H7 A (.lst (rs ++ [.ref R']))) b v qs := fun {v qs} ⟨a, ws, r, h1, ne, h2⟩ z => ⟨a, ws, r, by rw [upd_ne (fun zz => z (by rw [r, zz]))]; exact h1, ne, h2.mono fun _ _ m => am_l m hA7⟩
        refine ⟨_, rest ++ [qs'], _, _, _, _, rfl, upd_same, All2.snoc (xs := [r] :: rest) ?_ (mA ⟨R', vs', rfl, hR', Rb', hqs'⟩ (fun z => RA (by injection z))), by simp [hl], fun y hy => ?_, fun v hv => ?_, kp_fresh (e3.trans e7) A0n, B7.upd (fresh_box2 hB A0n)⟩
        · exact hrs.mono' fun v _ hv m => mA (m.kp e7 (noT_box B3)) (hrA v hv)
        · rcases List.mem_append.mp hy with hy | hy
          · exact hok y hy
          · rw [List.mem_singleton.mp hy]; exact ok'
        · rcases List.mem_append.mp hv with hv | hv
          · exact hrA v hv
          · rw [List.mem_singleton.mp hv]; exact fun z => RA (by injection z)
  · rintro _ H3 ⟨rs, rest, x4, x5, x6, x7, rfl, hA, hrs, hl, hok, hrA, e3, B3⟩
    exact ⟨_, rfl, q A rs _ H3 hA Ab hrs ⟨r, rest, rfl, fun y hy => by rw [List.mem_singleton.mp hy]; exact ⟨px, sx.mono (by decide)⟩, by omega, hok⟩ e3 B3⟩
end
end K37
set_option Elab.async false
set_option linter.all false
set_option maxRecDepth 100000
set_option maxHeartbeats 4000000
namespace K37
open PySem PySem.Spec PyProof.Rows L2
open C8 (Cal Met Mak CalAt pe_c pe_mt pe_mt0 pe_mk pe_gc tCut pss_cut)
/-! ### a step's two nodes -/
def PairR (K : PySem.W.Frag) (H : Hp) (v : V) (s : Int × Int) : Prop := ∃ a, v = .ref a ∧ SqT K H a [.int s.1, .int s.2]
theorem PairR.kp {K : PySem.W.Frag} {M : Addr → Prop} {H H' : Hp} {v : V} {s : Int × Int} (h : PairR K H v s) (e : Kp M H H') (n : NoT M H) : PairR K H' v s := by
  obtain ⟨a, r, t⟩ := h
  exact ⟨a, r, e.tn n t⟩
/-- up and down, the amounts there -/
def UpDn (next : List Rat) (s : Int × Int) (hi lo : Rat) : Prop := 0 ≤ s.1 ∧ 0 ≤ s.2 ∧ next[s.1.toNat]? = some hi ∧ next[s.2.toNat]? = some lo ∧ lo < hi
/-- the turns whose amount is another than the one at i -/
def Oth (qs : List Rat) (q1 : Rat) (k : Nat) : List V := ((List.range k).filter fun j => decide (qs[j]? ≠ some q1)).map fun j => V.int (j : Nat)
theorem oth_succ (qs : List Rat) (q1 : Rat) (k : Nat) : Oth qs q1 (k + 1) = if qs[k]? ≠ some q1 then Oth qs q1 k ++ [.int (k : Nat)] else Oth qs q1 k := by
  unfold Oth
  rw [List.range_succ, List.filter_append]
  by_cases h : qs[k]? = some q1
  · simp [h]
  · simp [h]
theorem oth_mem {qs : List Rat} {q1 : Rat} {v : V} (h : v ∈ Oth qs q1 qs.length) : ∃ j q, v = .int (j : Nat) ∧ qs[j]? = some q ∧ q ≠ q1 := by
  obtain ⟨j, hj, rfl⟩ := List.mem_map.mp h
  obtain ⟨h1, h2⟩ := List.mem_filter.mp hj
  have h3 : j < qs.length := by simpa using h1
  have h4 := of_decide_eq_true h2
  exact ⟨j, qs[j], rfl, List.getElem?_eq_getElem h3, fun z => h4 (by rw [List.getElem?_eq_getElem h3, z])⟩
theorem oth_len (qs : List Rat) (q1 : Rat) (k : Nat) : (Oth qs q1 k).length ≤ k := by
  unfold Oth
  rw [List.length_map]
  exact Nat.le_trans (List.length_filter_le _ _) (by simp)
theorem oth_ne {qs : List Rat} {q1 : Rat} (h : ∃ p ∈ qs, ∃ q ∈ qs, p ≠ q) : 1 ≤ (Oth qs q1 qs.length).length := by
  have go : ∀ p ∈ qs, p ≠ q1 → 1 ≤ (Oth qs q1 qs.length).length := fun p hp ne => by
    obtain ⟨j, hj, e⟩ := List.mem_iff_getElem.mp hp
    have : V.int (j : Nat) ∈ Oth qs q1 qs.length := by
      refine List.mem_map.mpr ⟨j, List.mem_filter.mpr ⟨by simpa using hj, decide_eq_true ?_⟩, rfl⟩
      rw [List.getElem?_eq_getElem hj, e]
      exact fun z => ne (Option.some.inj z)
    exact List.length_pos_of_mem this
  obtain ⟨p, hp, q, hq, ne⟩ := h
  by_cases z : p = q1
  · exact go q hq (fun z2 => ne (z.trans z2.symm))
  · exact go p hp z
section
variable {P : Program} {w : World} {K : PySem.W.Frag} {mg : Str → Option Value} {base : Heap}
def spSteps (K : PySem.W.Frag) : Sp := sp2 fun x y H Q => ∃ (b l : Addr) (qs : List Rat), x = .ref b ∧ Box l H b ∧ RowR K H b y qs ∧ RwOk qs ∧
  ∀ p s hi lo H', H' p = some (.tup [.int s.1, .int s.2]) → UpDn qs s hi lo → Kp (· = b) H H' → Box l H' b → Q (.ref p) H'
theorem c_law_steps_between (T : Tx P w K mg base) : Cal P w K mg base 3 "_law_steps_between" (spSteps K) [] := by
  refine mkC T.f_law_steps_between T.g_law_steps_between sc_law_steps_between len2 (fun _ _ _ _ _ _ us hl => match us, hl with | [_, _], _ => rfl) fun cdv A0 outer s0 H vs Q E hr h => ?_
  obtain ⟨_, _, rfl, b, l, qs, rfl, hB, ⟨a, vs, rfl, ha, ab, hqs⟩, ok, q⟩ := h
  obtain ⟨ol, op, oo⟩ := id ok
  have lv := hqs.len
  have l1 : 1 ≤ qs.length := by
    obtain ⟨p, hp, _⟩ := oo
    exact List.length_pos_of_mem hp
  refine ⟨_, (pss_cons (ps_set (i := 2) sc_law_steps_between.nd rfl (by first | exact Or.inl rfl | exact Or.inr rfl) (pe_c (c_law_take T) hr (by omega) rfl (pa_cons (pv 0) (pa_cons (pe_callB call_len_seq (by rfl) T.b_len (by decide +kernel) (pa_cons (pv 1) pa_nil)) pa_nil))))
        (pss_cons (ps_set (i := 3) sc_law_steps_between.nd rfl (by first | exact Or.inl rfl | exact Or.inr rfl) (pe_c (c_law_one T) hr (by omega) rfl (pa_cons (pv 0) (pa_cons (pe_lc (own := [("_law_k", 4)]) rfl sc_law_steps_between.nd (pi_range1 (by rfl) T.b_range (pa_cons (pe_callB call_len_seq (by rfl) T.b_len (by decide +kernel) (pa_cons (pv 1) pa_nil)) pa_nil)) (blkOk_by (own := [("_law_k", 4)]) (N := ["_law_box_here", "_law_row", "_law_one_here", "_law_other", "_law_k"]) (sc := defScope s_law_steps_between) (by decide +kernel)) (fun _ _ _ _ _ => (pg_name (i := 4) sc_law_steps_between.nd rfl (by first | exact Or.inl rfl | exact Or.inr rfl))) (fun _ _ _ _ _ => (pts_one (pt_cmpR (show OpR _ _ (rNeD K) from op_neD (un64 hr)) (pe_ix (show IxR _ (rIxL K) from ix_list) (pv 1) (pv 4) (fun _ _ => rfl)) (pe_ix (show IxR _ (rIxL K) from ix_list) (pv 1) (pv 2) (fun _ _ => rfl)) (nomark _)))) (fun _ _ _ _ _ => (pv 4))) pa_nil))))
        (pss_one (ps_ret (pe_ifExp (pt_val (pe_c (c_law_under T) hr (by omega) rfl (pa_cons (pe_ix ix_list (pv 1) (pv 3) (fun _ _ => rfl)) (pa_cons (pe_ix ix_list (pv 1) (pv 2) (fun _ _ => rfl)) pa_nil)))) (pe_tup (pa_cons (pv 2) (pa_cons (pv 3) pa_nil))) (pe_tup (pa_cons (pv 3) (pa_cons (pv 2) pa_nil)))))))), ?_⟩
  refine ⟨_, rfl, _, rfl, a, vs, rfl, .inl (SqL.of ha), _, _, rfl, b, _, _, rfl, rfl, hB, by omega, by omega, fun i H1 i0 i1 e1 B1 => ?_⟩
  obtain ⟨q1, hq1⟩ : ∃ q1, qs[i.toNat]? = some q1 := ⟨_, List.getElem?_eq_getElem (by omega)⟩
  have ha1 := e1 a _ ha ab
  have hqs1 := hqs.mono fun _ _ m => e1.am (noT_box hB) m
  obtain ⟨v1, hv1, m1⟩ := hqs1.at_ hq1
  refine ⟨_, rfl, _, rfl, a, vs, rfl, .inl (SqL.of ha1), _, rfl, by omega, by omega, fun D nD => lc_it (n := ((vs.length : Nat) : Int).toNat) walk_range (fun k H' => H' = upd H1 D (.lst (Oth qs q1 k))) rfl (fun _ _ _ _ => trivial) ?_ ?_⟩
  · rintro k _ _ H' hk h2 ⟨rfl, rfl⟩
    subst h2
    have kl : k < qs.length := by omega
    obtain ⟨v2, hv2, m2⟩ := hqs1.at_ (List.getElem?_eq_getElem kl)
    have aD : a ≠ D := ne_of_none ha1 nD
    have ha2 : upd H1 D (.lst (Oth qs q1 k)) a = some (.lst vs) := by rw [upd_ne aD]; exact ha1
    have S2 : Same H1 (upd H1 D (.lst (Oth qs q1 k))) := same_new nD
    refine ⟨rfl, _, rfl, _, rfl, _, _, _, _, rfl, rfl, SqL.of ha2, at_of (j := k) (by omega) hv2, _, rfl, _, rfl, _, _, _, _, rfl, rfl, SqL.of ha2, at_of (j := i.toNat) (by omega) hv1, ?_⟩
    refine ⟨_, _, (m2.s S2).dp, (m1.s S2).dp, rfl, rfl, _, rfl, ?_⟩
    have e3 : (!PyData.eqv (datQ qs[k]) (datQ q1)) = decide (qs[k]? ≠ some q1) := by
      rw [eqv_q, List.getElem?_eq_getElem kl]
      by_cases z : qs[k] = q1
      · simp [z]
      · simp [z]
    refine ite2 (fun hc => ?_) (fun hc => ?_)
    · have hn : qs[k]? ≠ some q1 := of_decide_eq_true (e3.symm.trans hc)
      refine ⟨_, rfl, Oth qs q1 k, upd_same, Nat.lt_of_le_of_lt (oth_len _ _ _) (Nat.lt_of_lt_of_le (Nat.lt_of_lt_of_le kl ol) (by decide)), ?_⟩
      rw [upd_upd, oth_succ, if_pos hn]
      dsimp only
      rw [Int.zero_add]
    · have hn : ¬ qs[k]? ≠ some q1 := fun z => hc (e3.trans (decide_eq_true z))
      rw [oth_succ, if_neg hn]
  · rintro H' rfl
    have S2 : Same H1 (upd H1 D (.lst (Oth qs q1 ((vs.length : Nat) : Int).toNat))) := same_new nD
    have el : ((vs.length : Nat) : Int).toNat = qs.length := by omega
    rw [el] at S2 ⊢
    refine ⟨_, _, rfl, b, _, D, _, rfl, rfl, B1.s S2, SqL.of upd_same, fresh_box B1 nD, oth_ne oo, Nat.le_trans (oth_len _ _ _) (by omega), fun z H3 hz e3 B3 => ?_⟩
    obtain ⟨j, q2, rfl, hq2, hne⟩ := oth_mem hz
    have K3 : Kp (· = b) H H3 := (e1.trans (kpS S2)).trans e3
    have ha3 := e3 a _ (S2 a _ ha1) ab
    have hqs3 := hqs.mono fun _ _ m => K3.am (noT_box hB) m
    obtain ⟨v2, hv2, m2⟩ := hqs3.at_ hq2
    obtain ⟨v1', hv1', m1'⟩ := hqs3.at_ hq1
    rw [hv1] at hv1'
    cases hv1'
    have sz : ∀ {q : Rat} {j : Nat}, qs[j]? = some q → Sz 3999 q := fun hq => (op _ (List.mem_of_getElem? hq)).2.mono (by decide)
    refine ⟨_, rfl, _, rfl, _, _, _, _, rfl, rfl, SqL.of ha3, at_of (j := j) (by omega) hv2, _, rfl, _, rfl, _, _, _, _, rfl, rfl, SqL.of ha3, at_of (j := i.toNat) (by omega) hv1, ?_⟩
    refine ⟨_, _, rfl, q2, q1, m2, m1', sz hq2, sz hq1, _, rfl, ?_⟩
    refine ite2 (fun hc => ?_) (fun hc => ?_)
    · refine ⟨_, rfl, _, rfl, by show 2 ≤ sizeLine; decide, fun p np => ?_⟩
      exact q p (i, (j : Int)) q1 q2 _ upd_same ⟨i0, by omega, hq1, hq2, of_decide_eq_true hc⟩ (K3.trans (kpS (same_new np))) (B3.s (same_new np))
    · refine ⟨_, rfl, _, rfl, by show 2 ≤ sizeLine; decide, fun p np => ?_⟩
      have hle : ¬ q2 < q1 := fun z => hc (decide_eq_true z)
      exact q p ((j : Int), i) q2 q1 _ upd_same ⟨by omega, i0, hq2, hq1, by grind⟩ (K3.trans (kpS (same_new np))) (B3.s (same_new np))
end
end K37
set_option Elab.async false
set_option linter.all false
set_option maxRecDepth 100000
set_option maxHeartbeats 4000000
namespace K37
open PySem PySem.Spec PyProof.Rows L2
open C8 (Cal Met Mak CalAt pe_c pe_mt pe_mt0 pe_mk pe_gc tCut pss_cut)
/-! ### the web of prices, rates and steps -/
/-- a list of things, standing at a place that does not change -/
def RowM {α : Type} (R : Hp → V → α → Prop) (M : Addr → Prop) (H : Hp) (v : V) (xs : List α) : Prop := ∃ a vs, v = .ref a ∧ H a = some (.lst vs) ∧ ¬ M a ∧ All2 (R H) vs xs
/-- what stays as long as tuples stay -/
def Stays {α : Type} (R : Hp → V → α → Prop) : Prop := ∀ {M : Addr → Prop} {H H' : Hp} {v : V} {x : α}, R H v x → Kp M H H' → NoT M H → R H' v x
theorem stays_am {K : PySem.W.Frag} : Stays (Am K) := fun h e n => e.am n h
theorem stays_pair {K : PySem.W.Frag} : Stays (PairR K) := fun h e n => h.kp e n
theorem RowM.kp {α : Type} {R : Hp → V → α → Prop} {M : Addr → Prop} {H H' : Hp} {v : V} {xs : List α} (h : RowM R M H v xs) (st : Stays R) (e : Kp M H H') (n : NoT M H) : RowM R M H' v xs := by
  obtain ⟨a, vs, r, h1, ne, h2⟩ := h
  exact ⟨a, vs, r, e _ _ h1 ne, ne, h2.mono fun _ _ m => st m e n⟩
theorem RowM.sub {α : Type} {R : Hp → V → α → Prop} {M M' : Addr → Prop} {H : Hp} {v : V} {xs : List α} (h : RowM R M H v xs) (s : ∀ a, M' a → M a) : RowM R M' H v xs := by
  obtain ⟨a, vs, r, h1, ne, h2⟩ := h
  exact ⟨a, vs, r, h1, fun z => ne (s a z), h2⟩
structure Web where
  ps : List (List Rat)
  rs : List (List Rat)
  ss : List (List (Int × Int))
def NodeOk (next : List Rat) (p r : Rat) (s : Int × Int) : Prop := ∃ hi lo, UpDn next s hi lo ∧ lo < r * p ∧ r * p < hi ∧ 0 < r ∧ Sz 49 r
def DateOk (P0 P1 R0 : List Rat) (S0 : List (Int × Int)) : Prop := R0.length = P0.length ∧ S0.length = P0.length ∧ ∀ (j : Nat) p r s, P0[j]? = some p → R0[j]? = some r → S0[j]? = some s → NodeOk P1 p r s
def WebOk (n : Nat) (W : Web) : Prop := PsOk n W.ps ∧ W.rs.length = n ∧ W.ss.length = n ∧ ∀ (d : Nat) P0 P1 R0 S0, d < n → W.ps[d]? = some P0 → W.ps[d + 1]? = some P1 → W.rs[d]? = some R0 → W.ss[d]? = some S0 → DateOk P0 P1 R0 S0
/-- three lists of rows -/
def WebAt (K : PySem.W.Frag) (M : Addr → Prop) (H : Hp) (PA RA SA : Addr) (W : Web) : Prop :=
  (∃ vs, H PA = some (.lst vs) ∧ ¬ M PA ∧ All2 (RowM (Am K) M H) vs W.ps) ∧ (∃ vs, H RA = some (.lst vs) ∧ ¬ M RA ∧ All2 (RowM (Am K) M H) vs W.rs) ∧ ∃ vs, H SA = some (.lst vs) ∧ ¬ M SA ∧ All2 (RowM (PairR K) M H) vs W.ss
theorem WebAt.kp {K : PySem.W.Frag} {M : Addr → Prop} {H H' : Hp} {PA RA SA : Addr} {W : Web} (h : WebAt K M H PA RA SA W) (e : Kp M H H') (n : NoT M H) : WebAt K M H' PA RA SA W := by
  obtain ⟨⟨v1, h1, m1, a1⟩, ⟨v2, h2, m2, a2⟩, v3, h3, m3, a3⟩ := h
  exact ⟨⟨v1, e _ _ h1 m1, m1, a1.mono fun _ _ r => r.kp stays_am e n⟩, ⟨v2, e _ _ h2 m2, m2, a2.mono fun _ _ r => r.kp stays_am e n⟩, v3, e _ _ h3 m3, m3, a3.mono fun _ _ r => r.kp stays_pair e n⟩
/-- a row of the prices: its nodes -/
theorem PsOk.row {n : Nat} {Ps : List (List Rat)} (h : PsOk n Ps) {d : Nat} {r : List Rat} (e : Ps[d]? = some r) : r.length ≤ 8 ∧ 1 ≤ r.length ∧ RwPos 11 r := by
  obtain ⟨q, rest, rfl, h1, h2, h3⟩ := h
  cases d with
  | zero => cases e; exact ⟨by show 1 ≤ 8; decide, Nat.le_refl _, h1⟩
  | succ d =>
    obtain ⟨a, b, c⟩ := h3 r (List.mem_of_getElem? e)
    refine ⟨a, ?_, b⟩
    obtain ⟨p, hp, _⟩ := c
    exact List.length_pos_of_mem hp
theorem PsOk.next {n : Nat} {Ps : List (List Rat)} (h : PsOk n Ps) {d : Nat} {r : List Rat} (e : Ps[d + 1]? = some r) : RwOk r := by
  obtain ⟨q, rest, rfl, h1, h2, h3⟩ := h
  exact h3 r (List.mem_of_getElem? e)
theorem PsOk.len {n : Nat} {Ps : List (List Rat)} (h : PsOk n Ps) : Ps.length = n + 1 := by
  obtain ⟨q, rest, rfl, h1, h2, h3⟩ := h
  simp [h2]
/-- grown by a share between -/
theorem grow {lo hi t p : Rat} (h : lo < hi) (h0 : 0 < t) (h1 : t < 1) (hl : 0 < lo) (hp : 0 < p) : lo < (lo + t * (hi - lo)) / p * p ∧ (lo + t * (hi - lo)) / p * p < hi ∧ 0 < (lo + t * (hi - lo)) / p := by
  have e : (lo + t * (hi - lo)) / p * p = lo + t * (hi - lo) := by
    have : p ≠ 0 := by grind
    grind
  have a : 0 < t * (hi - lo) := Rat.mul_pos h0 (by grind)
  have b : 0 < (1 - t) * (hi - lo) := Rat.mul_pos (by grind) (by grind)
  rw [e]
  refine ⟨by grind, by grind, ?_⟩
  rw [Rat.div_def]
  exact Rat.mul_pos (by grind) ((Rat.inv_pos).mpr hp)
theorem share01 {a w : Int} (h0 : 1 ≤ a) (h1 : a < w) (h7 : w < 8) : 0 < mkRat a w.toNat ∧ mkRat a w.toNat < 1 ∧ Sz 3 (mkRat a w.toNat) := by
  have e : mkRat a w.toNat = (a : Rat) * ((w.toNat : Nat) : Rat)⁻¹ := by rw [Rat.mkRat_eq_div, Rat.div_def]
  have ha : (0 : Rat) < (a : Rat) := by exact_mod_cast (show (0 : Int) < a by omega)
  have hw : (0 : Rat) < ((w.toNat : Nat) : Rat) := by exact_mod_cast (show 0 < w.toNat by omega)
  have haw : (a : Rat) < ((w.toNat : Nat) : Rat) := by
    rw [← Rat.intCast_natCast]
    exact_mod_cast (show a < ((w.toNat : Nat) : Int) by omega)
  have hi : 0 < ((w.toNat : Nat) : Rat)⁻¹ := (Rat.inv_pos).mpr hw
  refine ⟨?_, ?_, sz_mk (by omega) (by omega) (by omega)⟩
  · rw [e]; exact Rat.mul_pos ha hi
  · have h2 : 0 < (((w.toNat : Nat) : Rat) - (a : Rat)) * ((w.toNat : Nat) : Rat)⁻¹ := Rat.mul_pos (by grind) hi
    have h3 : ((w.toNat : Nat) : Rat) * ((w.toNat : Nat) : Rat)⁻¹ = 1 := by
      have : ((w.toNat : Nat) : Rat) ≠ 0 := by grind
      grind
    rw [e]
    grind
theorem nt_l {H : Hp} {R : Addr} {xs : List V} (h : H R = some (.lst xs)) : NoT (· = R) H := fun a ys q z => by
  rw [show a = R from z, h] at q
  rcases q with q | ⟨o, q⟩ <;> cases q
/-- where the lists of fair grow -/
def M3 (b RA SA : Addr) : Addr → Prop := fun a => a = b ∨ a = RA ∨ a = SA
def FOut (K : PySem.W.Frag) (b l RA SA : Addr) (H1 : Hp) (Ps : List (List Rat)) (i : Nat) (H' : Hp) (rv sv : List V) (Rs : List (List Rat)) (Ss : List (List (Int × Int))) : Prop :=
  H' RA = some (.lst rv) ∧ H' SA = some (.lst sv) ∧ All2 (RowM (Am K) (M3 b RA SA) H') rv Rs ∧ All2 (RowM (PairR K) (M3 b RA SA) H') sv Ss ∧ Rs.length = i ∧ Ss.length = i ∧
  (∀ (d : Nat) P0 P1 R0 S0, d < i → Ps[d]? = some P0 → Ps[d + 1]? = some P1 → Rs[d]? = some R0 → Ss[d]? = some S0 → DateOk P0 P1 R0 S0) ∧ Kp (· = b) H1 H' ∧ Box l H' b
def FIn (K : PySem.W.Frag) (b l RA SA rr ss : Addr) (H3 : Hp) (P0 P1 : List Rat) (rv sv : List V) (j : Nat) (H' : Hp) (rw sw : List V) (R : List Rat) (S : List (Int × Int)) : Prop :=
  H' RA = some (.lst (rv ++ [.ref rr])) ∧ H' SA = some (.lst (sv ++ [.ref ss])) ∧ H' rr = some (.lst rw) ∧ H' ss = some (.lst sw) ∧ All2 (Am K H') rw R ∧ All2 (PairR K H') sw S ∧ R.length = j ∧ S.length = j ∧
  (∀ (i : Nat) p r s, P0[i]? = some p → R[i]? = some r → S[i]? = some s → NodeOk P1 p r s) ∧ Kp (M3 b RA SA) H3 H' ∧ Box l H' b
section
variable {P : Program} {w : World} {K : PySem.W.Frag} {mg : Str → Option Value} {base : Heap}
def spFair (K : PySem.W.Frag) : Sp := sp3 fun x y z H Q => ∃ (b l : Addr) (n : Nat) (m : Int), x = .ref b ∧ y = .int ((n : Int) + 1) ∧ z = .int m ∧ Box l H b ∧ n ≤ 3 ∧ 2 ≤ m ∧ m ≤ 3 ∧
  ∀ D PA RA SA W H', H' D = some (.dK (mergeK [] [(.inr "prices", .ref PA), (.inr "rates", .ref RA), (.inr "steps", .ref SA)])) → WebAt K (· = b) H' PA RA SA W → WebOk n W → Kp (· = b) H H' → Box l H' b → Q (.ref D) H'
theorem c_law_fair (T : Tx P w K mg base) : Cal P w K mg base 5 "_law_fair" (spFair K) [] := by
  refine mkC T.f_law_fair T.g_law_fair sc_law_fair len3 (fun _ _ _ _ _ _ us hl => match us, hl with | [_, _, _], _ => rfl) fun cdv A0 outer s0 H vs Q E hr h => ?_
  obtain ⟨_, _, _, rfl, b, l, n, m, rfl, rfl, rfl, hB, hn, hm0, hm1, q⟩ := h
  refine ⟨_, (pss_cons (ps_set (i := 3) sc_law_fair.nd rfl (by first | exact Or.inl rfl | exact Or.inr rfl) (pe_c (c_law_rows_between T) hr (by omega) rfl (pa_cons (pv 0) (pa_cons (pv 1) (pa_cons (pv 2) pa_nil)))))
        (pss_cons (ps_par (i := 4) (j := 5) (by rfl) sc_law_fair.nd rfl rfl (by decide) rfl rfl (pa_cons (pe_lst pa_nil) (pa_cons (pe_lst pa_nil) pa_nil)) (by rfl))
        (pss_cons (ps_for PassesOwn.never rfl (pi_range1 (by rfl) T.b_range (pa_cons (pe_op op_sub (pv 1) pe_int) pa_nil)) (pg_name (i := 6) sc_law_fair.nd rfl (by first | exact Or.inl rfl | exact Or.inr rfl)) (pss_cons (ps_expr (pe_bm PySem.F.plainAttrs_list PySem.F.slot_list_append PySem.F.type_list_append mt_append (pv 4) (pa_cons (pe_lst pa_nil) pa_nil)))
        (pss_cons (ps_expr (pe_bm PySem.F.plainAttrs_list PySem.F.slot_list_append PySem.F.type_list_append mt_append (pv 5) (pa_cons (pe_lst pa_nil) pa_nil)))
        (pss_one (ps_for PassesOwn.never rfl (pi_list (pe_ix ix_list (pv 3) (pv 6) (fun _ _ => rfl))) (pg_name (i := 7) sc_law_fair.nd rfl (by first | exact Or.inl rfl | exact Or.inr rfl)) (pss_cons (ps_asg (pe_c (c_law_steps_between T) hr (by omega) rfl (pa_cons (pv 0) (pa_cons (pe_ix ix_list (pv 3) (pe_op op_add (pv 6) pe_int) (fun _ _ => rfl)) pa_nil))) (pg_tup rfl (pgs_cons (pg_name (i := 8) sc_law_fair.nd rfl (by first | exact Or.inl rfl | exact Or.inr rfl)) (pgs_cons (pg_name (i := 9) sc_law_fair.nd rfl (by first | exact Or.inl rfl | exact Or.inr rfl)) pgs_nil))))
        (pss_cons (ps_set (i := 10) sc_law_fair.nd rfl (by first | exact Or.inl rfl | exact Or.inr rfl) (pe_op op_add pe_int (pe_c (c_law_take T) hr (by omega) rfl (pa_cons (pv 0) (pa_cons pe_int pa_nil)))))
        (pss_cons (ps_set (i := 11) sc_law_fair.nd rfl (by first | exact Or.inl rfl | exact Or.inr rfl) (pe_tup (pa_cons (pe_op op_add pe_int (pe_c (c_law_take T) hr (by omega) rfl (pa_cons (pv 0) (pa_cons (pe_op op_sub (pv 10) pe_int) pa_nil)))) (pa_cons (pv 10) pa_nil))))
        (pss_cons (ps_par (i := 12) (j := 13) (by rfl) sc_law_fair.nd rfl rfl (by decide) rfl rfl (pa_cons (pe_ix ix_list (pe_ix ix_list (pv 3) (pe_op op_add (pv 6) pe_int) (fun _ _ => rfl)) (pv 8) (fun _ _ => rfl)) (pa_cons (pe_ix ix_list (pe_ix ix_list (pv 3) (pe_op op_add (pv 6) pe_int) (fun _ _ => rfl)) (pv 9) (fun _ _ => rfl)) pa_nil)) (by rfl))
        (pss_cons (ps_set (i := 14) sc_law_fair.nd rfl (by first | exact Or.inl rfl | exact Or.inr rfl) (pe_c (c_law_sum T) hr (by omega) rfl (pa_cons (pv 13) (pa_cons (pe_c (c_law_product_u T) hr (by omega) rfl (pa_cons (pv 11) (pa_cons (pe_c (c_law_less_by T) hr (by omega) rfl (pa_cons (pv 12) (pa_cons (pv 13) pa_nil))) pa_nil))) pa_nil))))
        (pss_cons (ps_expr (pe_bm PySem.F.plainAttrs_list PySem.F.slot_list_append PySem.F.type_list_append mt_append (pe_ix ix_list (pv 4) (pv 6) (fun _ _ => rfl)) (pa_cons (pe_c (c_law_share_of T) hr (by omega) rfl (pa_cons (pv 14) (pa_cons (pv 7) pa_nil))) pa_nil)))
        (pss_one (ps_expr (pe_bm PySem.F.plainAttrs_list PySem.F.slot_list_append PySem.F.type_list_append mt_append (pe_ix ix_list (pv 5) (pv 6) (fun _ _ => rfl)) (pa_cons (pe_tup (pa_cons (pv 8) (pa_cons (pv 9) pa_nil))) pa_nil)))))))))))))))
        (pss_one (ps_ret (pe_disp (pps_cons pe_str (pv 3) (pps_cons pe_str (pv 4) (pps_cons pe_str (pv 5) pps_nil))) (by rfl) (by rfl) (fun z => by cases z) (by decide))))))), ?_⟩
  refine ⟨_, rfl, _, rfl, _, rfl, _, _, _, rfl, b, _, n, m, rfl, rfl, rfl, hB, hn, hm0, hm1, fun PA pv Ps H1 hPA PAb hpv okP e1 B1 => ?_⟩
  -- rates, steps = [], []
  refine ⟨by show 0 ≤ sizeLine; decide, fun RA nRA => ⟨by show 0 ≤ sizeLine; decide, fun SA nSA => ?_⟩⟩
  have nRA1 : H1 RA = none := nRA
  obtain ⟨nSA1, SR⟩ := none_upd nSA
  have hRAb := fresh_box2 B1 nRA1
  have hSAb := fresh_box2 B1 nSA1
  have S2 : Same H1 (upd (upd H1 RA (.lst [])) SA (.lst [])) := (same_new nRA).trans (same_new nSA)
  refine ⟨_, _, rfl, ?_⟩
  refine ⟨_, rfl, _, _, rfl, rfl, _, rfl, by omega, by omega, for_it (n := ((n : Int) + 1 - 1).toNat) walk_range (fun i σ H' => ∃ rv sv Rs Ss x6 x7 x8 x9 x10 x11 x12 x13 x14, σ = [some (.ref b), some (.int ((n : Int) + 1)), some (.int m), some (.ref PA), some (.ref RA), some (.ref SA), x6, x7, x8, x9, x10, x11, x12, x13, x14] ∧ FOut K b l RA SA H1 Ps i H' rv sv Rs Ss) ?_ (fun _ _ _ _ _ => trivial) ?_ ?_⟩
  · exact ⟨[], [], [], [], _, _, _, _, _, _, _, _, _, rfl, by rw [upd_ne SR.symm, upd_same], upd_same, trivial, trivial, rfl, rfl, fun d _ _ _ _ h => absurd h (Nat.not_lt_zero d), kpS S2, B1.s S2⟩
  · rintro i _ _ _ H3 hi ⟨rv, sv, Rs, Ss, x6, x7, x8, x9, x10, x11, x12, x13, x14, rfl, hRA, hSA, hrv, hsv, lR, lS, ok, e3, B3⟩ ⟨rfl, rfl⟩
    have hi' : i < n := by omega
    have lrv : rv.length = i := by rw [hrv.len, lR]
    have lsv : sv.length = i := by rw [hsv.len, lS]
    have lP := okP.len
    obtain ⟨P0, hP0⟩ : ∃ P0, Ps[i]? = some P0 := ⟨_, List.getElem?_eq_getElem (by omega)⟩
    obtain ⟨P1, hP1⟩ : ∃ P1, Ps[i + 1]? = some P1 := ⟨_, List.getElem?_eq_getElem (by omega)⟩
    have small : ∀ {k : Nat}, k ≤ 9 → k < sizeLine := fun h => Nat.lt_of_le_of_lt h (by decide)
    refine ⟨_, rfl, .inl ⟨rfl, _, SqL.of hRA⟩, by show 0 ≤ sizeLine; decide, fun rr nrr => ?_⟩
    have hRA4 : upd H3 rr (.lst []) RA = some (.lst rv) := same_new nrr _ _ hRA
    refine ⟨RA, rv, _, rfl, rfl, hRA4, small (by omega), ?_⟩
    have rrRA : rr ≠ RA := fun z => by rw [z, hRA] at nrr; cases nrr
    have hSA4 : upd (upd H3 rr (.lst [])) RA (.lst (rv ++ [.ref rr])) SA = some (.lst sv) := by rw [upd_ne SR]; exact same_new nrr _ _ hSA
    refine ⟨_, rfl, .inl ⟨rfl, _, SqL.of hSA4⟩, by show 0 ≤ sizeLine; decide, fun ss nss => ?_⟩
    refine ⟨SA, sv, _, rfl, rfl, same_new nss _ _ hSA4, small (by omega), ?_⟩
    have n3 : H3 ss = none := by
      have h := none_upd nss
      exact (none_upd h.1).1
    have ssrr : ss ≠ rr := (none_upd (none_upd nss).1).2
    have ssRA : ss ≠ RA := (none_upd nss).2
    have ssSA : ss ≠ SA := fun z => by rw [z, hSA] at n3; cases n3
    have rrSA : rr ≠ SA := fun z => by rw [z, hSA] at nrr; cases nrr
    have K5 : Kp (M3 b RA SA) H3 (upd (upd (upd (upd H3 rr (.lst [])) RA (.lst (rv ++ [.ref rr]))) ss (.lst [])) SA (.lst (sv ++ [.ref ss]))) :=
      ((((Kp.refl _ H3).trans (kpS (same_new nrr))).trans (kp_upd (.inr (.inl rfl)))).trans (kpS (same_new nss))).trans (kp_upd (.inr (.inr rfl)))
    have B5 : Box l (upd (upd (upd (upd H3 rr (.lst [])) RA (.lst (rv ++ [.ref rr]))) ss (.lst [])) SA (.lst (sv ++ [.ref ss]))) b := ((((B3.s (same_new nrr)).upd hRAb).s (same_new nss)).upd hSAb)
    have PA3 := e3 PA _ hPA PAb
    have hPAM : ¬ M3 b RA SA PA := fun z => by
      rcases z with z | z | z
      · exact PAb z
      · rw [z, nRA1] at hPA; cases hPA
      · rw [z, nSA1] at hPA; cases hPA
    have PA5 := K5 PA _ PA3 hPAM
    obtain ⟨v0, hv0, hr0⟩ := hpv.at_ hP0
    obtain ⟨v1, hv1, hr1⟩ := hpv.at_ hP1
    obtain ⟨a0, vs0, rfl, ha0, ab0, hq0⟩ := hr0
    obtain ⟨a1, vs1, rfl, ha1, ab1, hq1⟩ := hr1
    have rowM : ∀ {a : Addr} {xs : List V}, H1 a = some (.lst xs) → a ≠ b → ¬ M3 b RA SA a := fun {a xs} h ne z => by
      rcases z with z | z | z
      · exact ne z
      · rw [z, nRA1] at h; cases h
      · rw [z, nSA1] at h; cases h
    have hn3 : NoT (M3 b RA SA) H3 := fun a ys q z => by
      rcases z with z | z | z
      · exact noT_box B3 a ys q z
      · rw [z, hRA] at q; rcases q with q | ⟨o, q⟩ <;> cases q
      · rw [z, hSA] at q; rcases q with q | ⟨o, q⟩ <;> cases q
    have hq03 := hq0.mono fun _ _ m => e3.am (noT_box B1) m
    have hq13 := hq1.mono fun _ _ m => e3.am (noT_box B1) m
    have ok0 := okP.row hP0
    have ok1 := okP.next hP1
    have lv0 := hq0.len
    refine ⟨_, rfl, _, rfl, PA, pv, _, _, rfl, rfl, SqL.of PA5, at_of (j := i) (by omega) hv0, ?_⟩
    refine ⟨a0, rfl, ⟨vs0, SqL.of (K5 a0 _ (e3 a0 _ ha0 ab0) (rowM ha0 ab0))⟩, for_it (n := vs0.length) (walk_list (xs := vs0)) (fun j σ H' => ∃ rw sw R S x7 x8 x9 x10 x11 x12 x13 x14, σ = [some (.ref b), some (.int ((n : Int) + 1)), some (.int m), some (.ref PA), some (.ref RA), some (.ref SA), some (.int (0 + (i : Int))), x7, x8, x9, x10, x11, x12, x13, x14] ∧ FIn K b l RA SA rr ss H3 P0 P1 rv sv j H' rw sw R S) ?_ ?_ ?_ ?_⟩
    · refine ⟨[], [], [], [], _, _, _, _, _, _, _, _, rfl, ?_, upd_same, ?_, ?_, trivial, trivial, rfl, rfl, fun i _ _ _ _ h => by simp at h, K5, B5⟩
      · rw [upd_ne SR.symm, upd_ne ssRA.symm, upd_same]
      · rw [upd_ne rrSA, upd_ne ssrr.symm, upd_ne rrRA, upd_same]
      · rw [upd_ne ssSA, upd_same]
    · rintro j _ H' hj ⟨rw', sw, R, S, x7, x8, x9, x10, x11, x12, x13, x14, rfl, f1, f2, f3, f4, f5, f6, f7, f8, f9, f10, f11⟩
      exact SqL.of (f10 a0 _ (e3 a0 _ ha0 ab0) (rowM ha0 ab0))
    · rintro j x _ H' H6 hj ⟨rw', sw, R, S, x7, x8, x9, x10, x11, x12, x13, x14, rfl, f1, f2, f3, f4, f5, f6, f7, f8, f9, f10, f11⟩ ⟨rfl, hx⟩
      obtain ⟨p0, hp0, m0⟩ := hq03.get hx
      have PA6 := f10 PA _ PA3 hPAM
      -- up, down
      refine ⟨_, rfl, _, rfl, _, rfl, _, _, rfl, rfl, PA, pv, _, _, rfl, rfl, SqL.of PA6, at_of (j := i + 1) (by omega) hv1, ?_⟩
      refine ⟨_, _, rfl, b, l, P1, rfl, f11, ⟨a1, vs1, rfl, f10 a1 _ (e3 a1 _ ha1 ab1) (rowM ha1 ab1), ab1, hq13.mono fun _ _ m => f10.am hn3 m⟩, ok1, fun pp sp hi lo H7 hpp ud e7 B7 => ?_⟩
      refine ⟨pp, _, rfl, SqT.of hpp, rfl, _, _, rfl, _, _, rfl, rfl, ?_⟩
      -- whole, share
      refine ⟨_, rfl, _, _, rfl, b, _, 5, rfl, rfl, B7, by decide, by decide, fun u H8 u0 u1 e8 B8 => ⟨_, _, rfl, rfl, ?_⟩⟩
      refine ⟨_, rfl, _, rfl, _, _, rfl, rfl, _, _, rfl, b, _, _, rfl, rfl, B8, by omega, by omega, fun t H9 t0 t1 e9 B9 => ⟨_, _, rfl, rfl, _, rfl, by show 2 ≤ sizeLine; decide, fun sh nsh => ?_⟩⟩
      have k10 : Kp (· = b) H6 (upd H9 sh (.tup [.int (1 + t), .int (2 + u)])) := ((e7.trans e8).trans e9).trans (kpS (same_new nsh))
      have PA10 := k10 PA _ PA6 PAb
      have a1_10 := k10 a1 _ (f10 a1 _ (e3 a1 _ ha1 ab1) (rowM ha1 ab1)) ab1
      have hq1_10 := (hq13.mono fun _ _ m => f10.am hn3 m).mono fun _ _ m => k10.am (noT_box f11) m
      obtain ⟨ud1, ud2, udh, udl, udlt⟩ := id ud
      obtain ⟨vh, hvh, mh⟩ := hq1_10.at_ udh
      obtain ⟨vl, hvl, ml⟩ := hq1_10.at_ udl
      refine ⟨_, rfl, _, rfl, _, _, rfl, rfl, PA, pv, _, _, rfl, rfl, SqL.of PA10, at_of (j := i + 1) (by omega) hv1, _, rfl, a1, vs1, _, _, rfl, rfl, SqL.of a1_10, at_of (j := sp.1.toNat) (by omega) hvh, ?_⟩
      refine ⟨_, rfl, _, rfl, _, _, rfl, rfl, PA, pv, _, _, rfl, rfl, SqL.of PA10, at_of (j := i + 1) (by omega) hv1, _, rfl, a1, vs1, _, _, rfl, rfl, SqL.of a1_10, at_of (j := sp.2.toNat) (by omega) hvl, ?_⟩
      refine ⟨_, _, rfl, ?_⟩
      have s1 : ∀ {q : Rat}, q ∈ P1 → 0 < q ∧ Sz 11 q := fun h => ok1.2.1 _ h
      have zh := s1 (List.mem_of_getElem? udh)
      have zl := s1 (List.mem_of_getElem? udl)
      have zp := ok0.2.2 _ (List.mem_of_getElem? hp0)
      -- grown
      refine ⟨_, rfl, _, rfl, _, rfl, _, rfl, _, _, rfl, hi, lo, mh, ml, zh.2.mono (by decide), zl.2.mono (by decide), trivial, fun w1 H11 s11 hw1 => ?_⟩
      have z1 : Sz 23 (hi - lo) := zh.2.sub zl.2 (by decide)
      obtain ⟨g0, g1, g2⟩ := share01 (a := 1 + t) (w := 2 + u) (by omega) (by omega) (by omega)
      refine ⟨_, _, rfl, sh, 1 + t, 2 + u, hi - lo, rfl, SqT.of (s11 sh _ upd_same), by omega, by omega, by omega, hw1, z1.mono (by decide), fun w2 H12 s12 hw2 => ?_⟩
      have z2 : Sz 26 (mkRat (1 + t) (2 + u).toNat * (hi - lo)) := g2.mul z1 (by decide)
      refine ⟨_, _, rfl, lo, _, (ml.s s11).s s12, hw2, zl.2.mono (by decide), z2.mono (by decide), trivial, fun w3 H13 s13 hw3 => ?_⟩
      have z3 : Sz 38 (lo + mkRat (1 + t) (2 + u).toNat * (hi - lo)) := zl.2.add z2 (by decide)
      have S13 : Same (upd H9 sh (.tup [.int (1 + t), .int (2 + u)])) H13 := (s11.trans s12).trans s13
      have k13 : Kp (· = b) H6 H13 := k10.trans (kpS S13)
      have RAb := hRAb.1
      have SAb := hSAb.1
      have rrb := fresh_box2 B3 nrr
      have ssb := fresh_box2 B3 n3
      -- rates[date].append
      refine ⟨_, rfl, _, rfl, RA, _, _, .ref rr, rfl, rfl, SqL.of (k13 RA _ f1 RAb), at_of (j := i) (by omega) (by rw [← lrv]; simp), ?_⟩
      refine ⟨.inl ⟨rfl, _, SqL.of (k13 rr _ f3 rrb.1)⟩, _, rfl, _, rfl, _, _, rfl, _, p0, hw3, k13.am (noT_box f11) (f10.am hn3 m0), z3.mono (by decide), zp.2.mono (by decide), zp.1, fun w4 H14 s14 hw4 => ?_⟩
      have k14 : Kp (· = b) H6 H14 := k13.trans (kpS s14)
      have B14 : Box l H14 b := ((B9.s (same_new nsh)).s S13).s s14
      have rr14 := k14 rr _ f3 rrb.1
      have lrw : rw'.length ≤ 8 := by rw [f5.len, f7]; omega
      have lsw : sw.length ≤ 8 := by rw [f6.len, f8]; omega
      refine ⟨rr, rw', _, rfl, rfl, rr14, small (by omega), ?_⟩
      -- steps[date].append
      have SA15 : upd H14 rr (.lst (rw' ++ [w4])) SA = some (.lst (sv ++ [.ref ss])) := by rw [upd_ne rrSA.symm]; exact k14 SA _ f2 SAb
      have ss15 : upd H14 rr (.lst (rw' ++ [w4])) ss = some (.lst sw) := by rw [upd_ne ssrr]; exact k14 ss _ f4 ssb.1
      refine ⟨_, rfl, _, rfl, SA, _, _, .ref ss, rfl, rfl, SqL.of SA15, at_of (j := i) (by omega) (by rw [← lsv]; simp), ?_⟩
      refine ⟨.inl ⟨rfl, _, SqL.of ss15⟩, _, rfl, _, rfl, by show 2 ≤ sizeLine; decide, fun tp ntp => ?_⟩
      have ss16 : upd (upd H14 rr (.lst (rw' ++ [w4]))) tp (.tup [.int sp.1, .int sp.2]) ss = some (.lst sw) := same_new ntp _ _ ss15
      refine ⟨ss, sw, _, rfl, rfl, ss16, small (by omega), ?_⟩
      have am17 : ∀ {v : V} {q : Rat}, Am K H14 v q → Am K (upd (upd (upd H14 rr (.lst (rw' ++ [w4]))) tp (.tup [.int sp.1, .int sp.2])) ss (.lst (sw ++ [.ref tp]))) v q := fun h => am_l (Am.s (am_l h rr14) (same_new ntp)) ss16
      have pr17 : ∀ {v : V} {q : Int × Int}, PairR K H14 v q → PairR K (upd (upd (upd H14 rr (.lst (rw' ++ [w4]))) tp (.tup [.int sp.1, .int sp.2])) ss (.lst (sw ++ [.ref tp]))) v q := fun h => ((h.kp (M := (· = rr)) (kp_upd rfl) (nt_l rr14)).kp (M := (· = b)) (kpS (same_new ntp)) (noT_box (B14.upd rrb))).kp (M := (· = ss)) (kp_upd rfl) (nt_l ss16)
      have tpss : tp ≠ ss := fun z => by rw [z, ss15] at ntp; cases ntp
      refine ⟨_, _, R ++ [(lo + mkRat (1 + t) (2 + u).toNat * (hi - lo)) / p0], S ++ [sp], _, _, _, _, _, _, _, _, rfl, ?_, ?_, ?_, upd_same, All2.snoc (f5.mono fun _ _ m => am17 (k14.am (noT_box f11) m)) (am17 hw4), All2.snoc (f6.mono fun _ _ m => pr17 (m.kp k14 (noT_box f11))) ⟨tp, rfl, SqT.of (by rw [upd_ne tpss, upd_same])⟩, by simp [f7], by simp [f8], ?_, ?_, ?_⟩
      · rw [upd_ne ssRA.symm]
        refine same_new ntp _ _ ?_
        rw [upd_ne rrRA.symm]
        exact k14 RA _ f1 RAb
      · rw [upd_ne ssSA.symm]
        exact same_new ntp _ _ SA15
      · rw [upd_ne ssrr.symm]
        exact same_new ntp _ _ upd_same
      · intro i' p r s' hp hr' hs'
        by_cases hlt : i' < j
        · rw [List.getElem?_append_left (by omega)] at hr' hs'
          exact f9 i' p r s' hp hr' hs'
        · have hi1 := (List.getElem?_eq_some_iff.mp hr').1
          rw [List.length_append] at hi1
          have e : i' = j := by simp at hi1; omega
          subst e
          rw [List.getElem?_append_right (by omega), f7, Nat.sub_self] at hr'
          rw [List.getElem?_append_right (by omega), f8, Nat.sub_self] at hs'
          have er := Option.some.inj hr'
          have es := Option.some.inj hs'
          have ep := Option.some.inj (hp.symm.trans hp0)
          subst er es ep
          obtain ⟨a, b', c⟩ := grow udlt g0 g1 zl.1 zp.1
          exact ⟨hi, lo, ud, a, b', c, z3.div zp.2 zp.1 (by decide)⟩
      · refine kp_fresh ?_ n3
        refine Kp.trans ?_ (kpS (same_new ntp))
        refine kp_fresh ?_ nrr
        exact f10.trans fun c o h m => k14 c o h fun z => m (.inl z)
      · exact ((B14.upd rrb).s (same_new ntp)).upd ssb
    · rintro _ H6 ⟨rw', sw, R, S, x7, x8, x9, x10, x11, x12, x13, x14, rfl, f1, f2, f3, f4, f5, f6, f7, f8, f9, f10, f11⟩
      have hM : ∀ {a : Addr}, H3 a = none → a ≠ b → a ≠ RA → a ≠ SA → ¬ M3 b RA SA a := fun _ h1 h2 h3 z => by rcases z with z | z | z <;> contradiction
      refine ⟨_, _, Rs ++ [R], Ss ++ [S], _, _, _, _, _, _, _, _, _, rfl, f1, f2, All2.snoc (hrv.mono fun _ _ r => r.kp stays_am f10 hn3) ⟨rr, rw', rfl, f3, hM nrr (fresh_box B3 nrr) rrRA rrSA, f5⟩, All2.snoc (hsv.mono fun _ _ r => r.kp stays_pair f10 hn3) ⟨ss, sw, rfl, f4, hM n3 (fresh_box B3 n3) ssRA ssSA, f6⟩, by simp [lR], by simp [lS], ?_, ?_, f11⟩
      · intro d P0' P1' R0 S0 hd h0 h1 h2 h3
        by_cases hlt : d < i
        · rw [List.getElem?_append_left (by omega)] at h2 h3
          exact ok d P0' P1' R0 S0 hlt h0 h1 h2 h3
        · have e : d = i := by omega
          subst e
          rw [List.getElem?_append_right (by omega), lR, Nat.sub_self] at h2
          rw [List.getElem?_append_right (by omega), lS, Nat.sub_self] at h3
          have er := Option.some.inj h2
          have es := Option.some.inj h3
          have ep := Option.some.inj (hP0.symm.trans h0)
          have eq := Option.some.inj (hP1.symm.trans h1)
          subst er es ep eq
          exact ⟨by omega, by omega, f9⟩
      · intro c o h m
        refine f10 c o (e3 c o h m) fun z => ?_
        rcases z with z | z | z
        · exact m z
        · rw [z, nRA1] at h; cases h
        · rw [z, nSA1] at h; cases h
  · rintro _ H3 ⟨rv, sv, Rs, Ss, x6, x7, x8, x9, x10, x11, x12, x13, x14, rfl, hRA, hSA, hrv, hsv, lR, lS, ok, e3, B3⟩
    refine fun D nD => ⟨_, rfl, _, rfl, _, rfl, upd_same, [(.inr "prices", .ref PA), (.inr "rates", .ref RA), (.inr "steps", .ref SA)], rfl, by show 3 ≤ 15; decide, ?_⟩
    rw [upd_upd]
    have S4 : Same H3 (upd H3 D (.dK (mergeK [] [(.inr "prices", .ref PA), (.inr "rates", .ref RA), (.inr "steps", .ref SA)]))) := same_new nD
    have kS : Kp (· = b) H3 (upd H3 D (.dK (mergeK [] [(.inr "prices", .ref PA), (.inr "rates", .ref RA), (.inr "steps", .ref SA)]))) := kpS S4
    refine q D PA RA SA ⟨Ps, Rs, Ss⟩ _ upd_same ?_ ⟨okP, by show Rs.length = n; omega, by show Ss.length = n; omega, fun d P0 P1 R0 S0 hd => ok d P0 P1 R0 S0 (by omega)⟩ ((e1.trans e3).trans kS) (B3.s S4)
    have hW : WebAt K (· = b) H3 PA RA SA ⟨Ps, Rs, Ss⟩ := ⟨⟨pv, e3 PA _ hPA PAb, PAb, hpv.mono fun _ _ r => r.kp e3 (noT_box B1)⟩, ⟨rv, hRA, hRAb.1, hrv.mono fun _ _ r => r.sub fun a z => .inl z⟩, sv, hSA, hSAb.1, hsv.mono fun _ _ r => r.sub fun a z => .inl z⟩
    exact hW.kp kS (noT_box B3)
end
end K37
set_option Elab.async false
set_option linter.all false
set_option maxRecDepth 100000
set_option maxHeartbeats 4000000
namespace K37
open PySem PySem.Spec PyProof.Rows L2
open C8 (Cal Met Mak CalAt pe_c pe_mt pe_mt0 pe_mk pe_gc tCut pss_cut)
theorem same_fresh {H H' : Hp} {p : Addr} {o : HO} (e : Same H H') (n : H p = none) : Same H (upd H' p o) := fun b u h => by
  rw [upd_ne (ne_of_none h n)]
  exact e b u h
theorem WebAt.s {K : PySem.W.Frag} {M : Addr → Prop} {H H' : Hp} {PA RA SA : Addr} {W : Web} (h : WebAt K M H PA RA SA W) (e : Same H H') : WebAt K M H' PA RA SA W := by
  obtain ⟨⟨v1, h1, m1, a1⟩, ⟨v2, h2, m2, a2⟩, v3, h3, m3, a3⟩ := h
  exact ⟨⟨v1, e _ _ h1, m1, a1.mono fun _ _ ⟨a, vs, r, i1, i2, i3⟩ => ⟨a, vs, r, e _ _ i1, i2, i3.mono fun _ _ m => m.s e⟩⟩, ⟨v2, e _ _ h2, m2, a2.mono fun _ _ ⟨a, vs, r, i1, i2, i3⟩ => ⟨a, vs, r, e _ _ i1, i2, i3.mono fun _ _ m => m.s e⟩⟩, v3, e _ _ h3, m3, a3.mono fun _ _ ⟨a, vs, r, i1, i2, i3⟩ => ⟨a, vs, r, e _ _ i1, i2, i3.mono fun _ _ ⟨b, r2, t⟩ => ⟨b, r2, same_t e t⟩⟩⟩
theorem RowM.s {K : PySem.W.Frag} {M : Addr → Prop} {H H' : Hp} {v : V} {qs : List Rat} (h : RowM (Am K) M H v qs) (e : Same H H') : RowM (Am K) M H' v qs := by
  obtain ⟨a, vs, r, h1, ne, h2⟩ := h
  exact ⟨a, vs, r, e _ _ h1, ne, h2.mono fun _ _ m => m.s e⟩
theorem decT {p A B : Prop} [Decidable p] (h : p) (a : A) : if decide p = true then A else B := by rw [if_pos (decide_eq_true h)]; exact a
theorem decF {p A B : Prop} [Decidable p] (h : ¬ p) (b : B) : if decide p = true then A else B := by rw [if_neg (fun z => h (of_decide_eq_true z))]; exact b
theorem notF {p A B : Prop} [Decidable p] (h : p) (b : B) : if (!decide p) = true then A else B := by rw [decide_eq_true h]; exact iteF b
theorem notT {p A B : Prop} [Decidable p] (h : ¬ p) (a : A) : if (!decide p) = true then A else B := by rw [decide_eq_false h]; exact iteT a
/-! ### rules with K written out, for comprehensions -/
def rListOf (K : PySem.W.Frag) : List V → Hp → VK → Prop := fun xs H Q => ∃ p ys, xs = [.ref p] ∧ (SqL K H p ys ∨ SqT K H p ys) ∧ ∀ l, H l = none → Q (.ref l) (upd H l (.lst ys))
theorem call_list_of' {X : Cx} {K : PySem.W.Frag} (e : X.K = K) : CallR X (.type "list") (rListOf K) := by subst e; exact call_list_of
theorem pi_list' {X : Cx} {K : PySem.W.Frag} {tg l : Expr} {tl : TE} (e : X.K = K) (hl : PE X l tl) : PI X tg l (iList K tl) := by subst e; exact pi_list hl
theorem pi_tup' {X : Cx} {K : PySem.W.Frag} {tg l : Expr} {tl : TE} (e : X.K = K) (hl : PE X l tl) : PI X tg l (iTup K tl) := by subst e; exact pi_tup hl
theorem pg_tup' {X : Cx} {K : PySem.W.Frag} {es : List Expr} {k : Nat} {t : TGs} {n : Nat} {pos : Pos} (e : X.K = K) (hc : X.calm = true) (h : PGs X es t) (hn : (assignEach es X.env).length = n := by rfl) (hst : (assignEach es X.env).findIdx? (·.1) = none := by rfl) : PG X (.Tuple es k pos) (gTup K n t) := by
  subst e
  exact pg_tup hc h hn hst
theorem pe_fld' {X : Cx} {K : PySem.W.Frag} {e : Expr} {f : Str} {ta : TE} {pos : Pos} (z : X.K = K) (he : PE X e ta) (hb : attributeBase e f X.env (eval e X.env) = eval e X.env) : PE X (.Attribute e f pos) (tFld K ta f) := by
  subst z
  exact pe_fld he hb
def rLenOf (K : PySem.W.Frag) : List V → Hp → VK → Prop := fun xs H Q => ∃ p ys, xs = [.ref p] ∧ (SqL K H p ys ∨ SqT K H p ys) ∧ Q (.int ys.length) H
theorem call_len' {X : Cx} {K : PySem.W.Frag} (e : X.K = K) : CallR X (.builtin "len") (rLenOf K) := by subst e; exact call_len_seq
/-! ### a def with a keyword-only parameter -/
structure CalK (P : Program) (w : World) (K : PySem.W.Frag) (mg : Str → Option Value) (base : Heap) (k : Nat) (x : Str) (sp : Sp) (n : Nat) (ks : List Str) (gV : List V → List V → List V) : Prop where
  ex : ∃ (f : Addr) (fd : FuncData) (ps : List Str) (g : List Value → List Value → List Value), FnOk P w K mg base CX0 k f fd ps sp ∧ mg x = some (.ref f) ∧ PySem.W.keepIn K (.ref f) = true ∧ KBn K fd ps n ks g gV
theorem pe_cK {X : Cx} {k j n : Nat} {x : Str} {sp : Sp} {ks : List Str} {gV : List V → List V → List V} {e : Expr} {es : List Expr} {kws : List Keyword} {p pos : Pos} {t tk : TA}
    (c : CalK X.prog X.w X.K X.mg X.base k x sp n ks gV) (hr : Room j X.A) (hk : k ≤ j) (hg : Gl X x) (ha : PA X (e :: es) t) (hkw : PK X kws tk)
    (hall : (backToKw pos (keywordEach kws X.env)).all (·.1.isSome) = true := by rfl) (hks : (backToKw pos (keywordEach kws X.env)).filterMap (·.1) = ks := by rfl)
    (hdb : (x == ("__debug__" : Str)) = false := by decide) (he : starEach (e :: es) X.env = (false, eval e X.env) :: starEach es X.env := by rfl)
    (hpl : ((backTo pos (starEach (e :: es) X.env)).any (·.1) || (backToKw pos (keywordEach kws X.env)).any (·.1.isNone)) = false := by rfl) :
    PE X (.Call (.Name x p) (e :: es) kws pos) (tCallN n ks.length sp gV C8.E0 t tk) := by
  obtain ⟨f, fd, ps, g, F, hm, kp, hb⟩ := c.ex
  exact pe_callN F (hr.mono hk) hg hm kp hb pass0 ha hkw hall hks hdb he hpl
/-- keyword-only parameters without defaults, all of them written -/
theorem kbindsN {K : PySem.W.Frag} {x qual : Str} {params : Arguments} {body : List Stmt} {scope : Scope} {f : Addr} {fd : FuncData} {ps : List Str} (F : FunD K x qual params body scope [] [] f fd) (n : Nat) (ks : List Str)
    (h : ∀ (kV doc pm : Value) (an : Option Addr) (cdv ct : Value) (us ws : List Value), us.length = n → ws.length = ks.length → bindArgs (PySem.W.fnOf x qual params body scope .none kV doc pm an cdv ct) ⟨us, ks.zip ws⟩ = pure (ps.zip (us ++ ws))) :
    KBn K fd ps n ks (fun us ws => us ++ ws) (fun vs zs => vs ++ zs) := by
  obtain ⟨oc, od, dV, kV, doc, pm, an, cdv, ct, osl, rfl, lk, hcd, hD, hK⟩ := F.ex
  rcases hD with ⟨_, rfl⟩ | ⟨e, _⟩
  · exact ⟨fun s us ws X l1 l2 => BindsTo.of_eq (h kV doc pm an cdv ct us ws l1 l2), fun r1 r2 => r1.append r2⟩
  · exact absurd rfl e
section
variable {P : Program} {w : World} {K : PySem.W.Frag} {mg : Str → Option Value} {base : Heap}
/-! ### the three looks -/
def spLookShape (K : PySem.W.Frag) : Sp := sp3 fun x y z H Q => ∃ (M : Addr → Prop) (PA RA SA : Addr) (W : Web) (n : Nat), x = .ref PA ∧ y = .ref RA ∧ z = .ref SA ∧ WebAt K M H PA RA SA W ∧ WebOk n W ∧ n ≤ 3 ∧ ∀ H', Same H H' → Q .non H'
theorem c_look_shape (T : Tx P w K mg base) : Cal P w K mg base 1 "look_shape" (spLookShape K) [] := by
  refine mkC T.f_look_shape T.g_look_shape sc_look_shape len3 (fun _ _ _ _ _ _ us hl => match us, hl with | [_, _, _], _ => rfl) fun cdv A0 outer s0 H vs Q E hr h => ?_
  obtain ⟨_, _, _, rfl, M, PA, RA, SA, W, n, rfl, rfl, rfl, hW, okW, hn, q⟩ := h
  refine ⟨_, (pss_cons (ps_if (PW.pt (pw_or (pt_not (pt_chain op_le op_le pe_int (pe_callB call_len_seq (by rfl) T.b_len (by decide +kernel) (pa_cons (pv 0) pa_nil)) (pe_gc rfl T.c_MOST_DATES))) (pw_or1 (pt_not (pt_chain op_eq op_eq (pe_callB call_len_seq (by rfl) T.b_len (by decide +kernel) (pa_cons (pv 1) pa_nil)) (pe_callB call_len_seq (by rfl) T.b_len (by decide +kernel) (pa_cons (pv 2) pa_nil)) (pe_op op_sub (pe_callB call_len_seq (by rfl) T.b_len (by decide +kernel) (pa_cons (pv 0) pa_nil)) pe_int)))))) (pss_one ps_never) pss_nil)
        (pss_one (ps_for PassesOwn.never rfl (pi_enum (by rfl) T.b_enumerate (pa_cons (pv 0) pa_nil)) (pg_tup rfl (pgs_cons (pg_name (i := 3) sc_look_shape.nd rfl (by first | exact Or.inl rfl | exact Or.inr rfl)) (pgs_cons (pg_name (i := 4) sc_look_shape.nd rfl (by first | exact Or.inl rfl | exact Or.inr rfl)) pgs_nil))) (pss_cut (ps_if (pt_not (pt_chain op_le op_le pe_int (pe_callB call_len_seq (by rfl) T.b_len (by decide +kernel) (pa_cons (pv 4) pa_nil)) (pe_ifExp (pt_cmpR op_eq (pv 3) pe_int (nomark _)) pe_int (pe_gc rfl T.c_MOST_NODES)))) (pss_one ps_never) pss_nil)
        (pss_one (ps_if (PW.pt (pw_and (pt_cmpR op_lt (pv 3) (pe_callB call_len_seq (by rfl) T.b_len (by decide +kernel) (pa_cons (pv 1) pa_nil)) (nomark _)) (pw_and1 (pt_not (pt_chain op_eq op_eq (pe_callB call_len_seq (by rfl) T.b_len (by decide +kernel) (pa_cons (pe_ix ix_list (pv 1) (pv 3) (fun _ _ => rfl)) pa_nil)) (pe_callB call_len_seq (by rfl) T.b_len (by decide +kernel) (pa_cons (pe_ix ix_list (pv 2) (pv 3) (fun _ _ => rfl)) pa_nil)) (pe_callB call_len_seq (by rfl) T.b_len (by decide +kernel) (pa_cons (pv 4) pa_nil))))))) (pss_one ps_never) pss_nil)))))), ?_⟩
  obtain ⟨⟨pv, hP, _, aP⟩, ⟨rv, hR, _, aR⟩, sv, hS, _, aS⟩ := id hW
  obtain ⟨okP, lR, lS, ok⟩ := okW
  have lP := okP.len
  have l1 := aP.len
  have l2 := aR.len
  have l3 := aS.len
  refine ⟨_, rfl, PA, pv, rfl, .inl (SqL.of hP), _, _, rfl, rfl, _, rfl, ?_⟩
  refine decT (by omega) ⟨_, _, rfl, rfl, _, rfl, notF (by omega) ?_⟩
  refine ⟨_, rfl, RA, rv, rfl, .inl (SqL.of hR), _, rfl, SA, sv, rfl, .inl (SqL.of hS), rfl, _, rfl, decT (congrArg V.int (by omega)) ?_⟩
  refine ⟨_, rfl, PA, pv, rfl, .inl (SqL.of hP), _, _, rfl, rfl, rfl, _, rfl, notF (congrArg V.int (by omega)) ?_⟩
  refine ⟨_, rfl, PA, pv, rfl, SqL.of hP, for_it (n := pv.length) walk_enum (fun i σ H' => (∃ x3 x4, σ = [some (.ref PA), some (.ref RA), some (.ref SA), x3, x4]) ∧ Same H H') ⟨⟨_, _, rfl⟩, fun _ _ h => h⟩ (fun i σ H' hi ⟨_, e⟩ => SqL.of (e _ _ hP)) ?_ fun σ H' ⟨_, e⟩ => q H' e⟩
  rintro i _ _ H1 _ hi ⟨⟨x3, x4, rfl⟩, e⟩ ⟨D, xx, yy, rfl, nD, rfl, hx, hy⟩
  have e2 := e.trans (same_new (o := .tup [xx, yy]) nD)
  cases hx
  have hi' : i < W.ps.length := by omega
  obtain ⟨y2, hy2, ⟨a, vs, rfl, ha, _, am⟩⟩ := aP.at_ (List.getElem?_eq_getElem hi')
  have ey : yy = V.ref a := Option.some.inj (hy.symm.trans hy2)
  subst ey
  have la := am.len
  obtain ⟨r1, r2, r3⟩ := okP.row (List.getElem?_eq_getElem hi')
  have z0 : i = 0 → W.ps[i].length = 1 := fun z => by
    obtain ⟨q0, rest, h1, _⟩ := okP
    subst z
    simp [h1]
  refine ⟨D, _, rfl, SqT.of upd_same, rfl, _, _, rfl, _, _, rfl, rfl, ?_⟩
  refine ⟨fun σ' H' => σ' = [some (.ref PA), some (.ref RA), some (.ref SA), some (.int (i : Nat)), some (.ref a)] ∧ H' = upd H1 D (.tup [.int (i : Nat), .ref a]), ?_, ?_⟩
  · refine ⟨_, rfl, a, vs, rfl, .inl (SqL.of (e2 _ _ ha)), _, _, rfl, rfl, _, rfl, decT (by omega) ?_⟩
    refine ⟨_, rfl, rfl, _, rfl, ite2 (fun hc => ?_) (fun hc => ?_)⟩
    · have h := of_decide_eq_true hc
      injection h with h
      have := z0 (by omega)
      exact ⟨_, _, rfl, rfl, _, rfl, notF (by omega) ⟨rfl, rfl⟩⟩
    · exact ⟨_, _, rfl, rfl, _, rfl, notF (by omega) ⟨rfl, rfl⟩⟩
  · rintro _ _ ⟨rfl, rfl⟩
    refine ⟨_, rfl, _, rfl, RA, rv, rfl, .inl (SqL.of (e2 _ _ hR)), _, _, rfl, rfl, _, rfl, ite2 (fun hc => ?_) (fun hc => iteF ⟨⟨_, _, rfl⟩, e2⟩)⟩
    have h := of_decide_eq_true hc
    have hi1 : i < W.rs.length := by omega
    have hi2 : i < W.ss.length := by omega
    have hi3 : i + 1 < W.ps.length := by omega
    obtain ⟨vr, hvr, ⟨ar, vrs, rfl, har, _, amr⟩⟩ := aR.at_ (List.getElem?_eq_getElem hi1)
    obtain ⟨vt, hvt, ⟨at', vts, rfl, hat, _, amt⟩⟩ := aS.at_ (List.getElem?_eq_getElem hi2)
    obtain ⟨d1, d2, _⟩ := ok i _ _ _ _ (by omega) (List.getElem?_eq_getElem hi') (List.getElem?_eq_getElem hi3) (List.getElem?_eq_getElem hi1) (List.getElem?_eq_getElem hi2)
    have lr := amr.len
    have lt := amt.len
    refine ⟨_, rfl, _, rfl, RA, rv, _, _, rfl, rfl, SqL.of (e2 _ _ hR), at_of (j := i) rfl hvr, ar, vrs, rfl, .inl (SqL.of (e2 _ _ har)), _, rfl, _, rfl, SA, sv, _, _, rfl, rfl, SqL.of (e2 _ _ hS), at_of (j := i) rfl hvt, at', vts, rfl, .inl (SqL.of (e2 _ _ hat)), rfl, _, rfl, decT (congrArg V.int (by omega)) ?_⟩
    refine ⟨_, rfl, a, vs, rfl, .inl (SqL.of (e2 _ _ ha)), rfl, _, rfl, notF (congrArg V.int (by omega)) ⟨⟨_, _, rfl⟩, e2⟩⟩
/-- all above nought -/
def spLookAbove (K : PySem.W.Frag) : Sp := sp2 fun x y H Q => ∃ (M : Addr → Prop) (A : Addr) (vs : List V) (Rs : List (List Rat)) (c : Bool), x = .ref A ∧ y = .bl c ∧ H A = some (.lst vs) ∧ All2 (RowM (Am K) M H) vs Rs ∧ (∀ r ∈ Rs, ∀ q ∈ r, 0 < q) ∧ ∀ H', Same H H' → Q .non H'
theorem c_look_above (T : Tx P w K mg base) : CalK P w K mg base 1 "look_above" (spLookAbove K) 1 ["rated"] (fun vs zs => vs ++ zs) := by
  obtain ⟨fd, F⟩ := T.f_look_above
  refine ⟨_, fd, _, _, F.ok sc_look_above len2 (fun cdv A0 outer s0 H vs Q E hr h => ?_), T.g_look_above, F.kp, kbindsN F 1 ["rated"] (fun _ _ _ _ _ _ us ws h1 h2 => match us, ws, h1, h2 with | [_], [_], _, _ => rfl)⟩
  obtain ⟨_, _, rfl, M, A, vs, Rs, c, rfl, rfl, hA, aA, pos, q⟩ := h
  refine ⟨_, ((pss_one (ps_for PassesOwn.never rfl (pi_enum (by rfl) T.b_enumerate (pa_cons (pv 0) pa_nil)) (pg_tup rfl (pgs_cons (pg_name (i := 2) sc_look_above.nd rfl (by first | exact Or.inl rfl | exact Or.inr rfl)) (pgs_cons (pg_name (i := 3) sc_look_above.nd rfl (by first | exact Or.inl rfl | exact Or.inr rfl)) pgs_nil))) (pss_one (ps_for PassesOwn.never rfl (pi_enum (by rfl) T.b_enumerate (pa_cons (pv 3) pa_nil)) (pg_tup rfl (pgs_cons (pg_name (i := 4) sc_look_above.nd rfl (by first | exact Or.inl rfl | exact Or.inr rfl)) (pgs_cons (pg_tup rfl (pgs_cons (pg_name (i := 5) sc_look_above.nd rfl (by first | exact Or.inl rfl | exact Or.inr rfl)) (pgs_cons (pg_name (i := 6) sc_look_above.nd rfl (by first | exact Or.inl rfl | exact Or.inr rfl)) pgs_nil))) pgs_nil))) (pss_cons (ps_if (PW.pt (pw_and (pt_cmpR op_le (pv 5) pe_int (nomark _)) (pw_and1 (pt_val (pv 1))))) (pss_one ps_never) pss_nil)
        (pss_one (ps_if (pt_cmpR op_le (pv 5) pe_int (nomark _)) (pss_one ps_never) pss_nil)))))))).nox, ?_⟩
  refine ⟨_, rfl, A, vs, rfl, SqL.of hA, for_it (n := vs.length) walk_enum (fun i σ H' => (∃ x2 x3 x4 x5 x6, σ = [some (.ref A), some (.bl c), x2, x3, x4, x5, x6]) ∧ Same H H') ⟨⟨_, _, _, _, _, rfl⟩, fun _ _ h => h⟩ (fun i σ H' hi ⟨_, e⟩ => SqL.of (e _ _ hA)) ?_ fun σ H' ⟨_, e⟩ => q H' e⟩
  rintro i _ _ H1 _ hi ⟨⟨x2, x3, x4, x5, x6, rfl⟩, e⟩ ⟨D, xx, yy, rfl, nD, rfl, hx, hy⟩
  have e2 := e.trans (same_new (o := .tup [xx, yy]) nD)
  cases hx
  obtain ⟨r, hr', ⟨a, rv, rfl, ha, _, am⟩⟩ := aA.get hy
  refine ⟨D, _, rfl, SqT.of upd_same, rfl, _, _, rfl, _, _, rfl, rfl, ?_⟩
  refine ⟨_, rfl, a, rv, rfl, SqL.of (e2 _ _ ha), for_it (n := rv.length) walk_enum (fun j σ H' => (∃ x2 x4 x5 x6, σ = [some (.ref A), some (.bl c), x2, some (.ref a), x4, x5, x6]) ∧ Same H H') ⟨⟨_, _, _, _, rfl⟩, e2⟩ (fun i σ H' hi ⟨_, e⟩ => SqL.of (e _ _ ha)) ?_ fun σ H' ⟨⟨_, _, _, _, h⟩, e⟩ => ⟨⟨_, _, _, _, _, h⟩, e⟩⟩
  rintro j _ _ H2 _ hj ⟨⟨x2, x4, x5, x6, rfl⟩, e3⟩ ⟨D2, xx, yy, rfl, nD2, rfl, hx, hy2⟩
  have e4 := e3.trans (same_new (o := .tup [xx, yy]) nD2)
  cases hx
  obtain ⟨q0, hq0, ⟨p, rfl, tp⟩⟩ := am.get hy2
  have np : 0 < q0.num := num_pos (pos r (List.mem_of_getElem? hr') q0 (List.mem_of_getElem? hq0))
  refine ⟨D2, _, rfl, SqT.of upd_same, rfl, _, _, rfl, _, _, rfl, ⟨p, _, rfl, same_t e4 tp, rfl, _, _, rfl, _, _, rfl, rfl, rfl, ?_⟩⟩
  refine ⟨_, rfl, _, _, rfl, rfl, _, rfl, decF (by omega) (iteF ?_)⟩
  exact ⟨_, rfl, _, _, rfl, rfl, _, rfl, decF (by omega) ⟨⟨_, _, _, _, rfl⟩, e4⟩⟩
end
end K37
set_option Elab.async false
set_option linter.all false
set_option maxRecDepth 100000
set_option maxHeartbeats 4000000
namespace K37
open PySem PySem.Spec PyProof.Rows L2
open C8 (Cal Met Mak CalAt pe_c pe_mt pe_mt0 pe_mk pe_gc tCut pss_cut)
/-! ### tuples stay -/
def TK (K : PySem.W.Frag) (H H' : Hp) : Prop := ∀ a xs, SqT K H a xs → SqT K H' a xs
theorem TK.trans {K : PySem.W.Frag} {H H1 H2 : Hp} (a : TK K H H1) (b : TK K H1 H2) : TK K H H2 := fun c xs h => b c xs (a c xs h)
theorem tkS {K : PySem.W.Frag} {H H' : Hp} (e : Same H H') : TK K H H' := fun _ _ h => same_t e h
theorem tk_l {K : PySem.W.Frag} {H : Hp} {R : Addr} {xs : List V} {o : HO} (h : H R = some (.lst xs)) : TK K H (upd H R o) := fun _ _ t => (kp_upd (M := (· = R)) rfl).tn (nt_l h) t
theorem Am.tk {K : PySem.W.Frag} {H H' : Hp} {v : V} {q : Rat} (h : Am K H v q) (e : TK K H H') : Am K H' v q := by
  obtain ⟨a, r, t⟩ := h
  exact ⟨a, r, e _ _ t⟩
theorem PairR.tk {K : PySem.W.Frag} {H H' : Hp} {v : V} {s : Int × Int} (h : PairR K H v s) (e : TK K H H') : PairR K H' v s := by
  obtain ⟨a, r, t⟩ := h
  exact ⟨a, r, e _ _ t⟩
def StT {α : Type} (K : PySem.W.Frag) (R : Hp → V → α → Prop) : Prop := ∀ {H H' : Hp} {v : V} {x : α}, R H v x → TK K H H' → R H' v x
theorem RowM.tk {α : Type} {K : PySem.W.Frag} {R : Hp → V → α → Prop} {M : Addr → Prop} {H H' : Hp} {v : V} {xs : List α} (h : RowM R M H v xs) (st : StT K R) (e : Kp M H H') (t : TK K H H') : RowM R M H' v xs := by
  obtain ⟨a, vs, r, h1, ne, h2⟩ := h
  exact ⟨a, vs, r, e _ _ h1 ne, ne, h2.mono fun _ _ m => st m t⟩
theorem same_none {H H' : Hp} {p : Addr} (e : Same H H') (n : H' p = none) : H p = none := by
  cases q : H p with
  | none => rfl
  | some o => rw [e p o q] at n; cases n
theorem _root_.L2.Same.trans' {H H' : Hp} {p : Addr} {o : HO} (e : Same H H') (n : H p = none) : Same H (upd H' p o) := same_fresh e n
theorem nt_i {H : Hp} {R C dx : Addr} {fs : List (Str × V)} (h : H R = some (.ins C dx fs)) : NoT (· = R) H := fun a ys q z => by
  rw [show a = R from z, h] at q
  rcases q with q | ⟨o, q⟩ <;> cases q
theorem tk_i {K : PySem.W.Frag} {H : Hp} {R C dx : Addr} {fs : List (Str × V)} {o : HO} (h : H R = some (.ins C dx fs)) : TK K H (upd H R o) := fun _ _ t => (kp_upd (M := (· = R)) rfl).tn (nt_i h) t
theorem RowM.sup {α : Type} {K : PySem.W.Frag} {R : Hp → V → α → Prop} (st : StT K R) {M : Addr → Prop} {H0 H : Hp} {v : V} {xs : List α} {a : Addr} (h : RowM R M H0 v xs) (na : H0 a = none) (e : Same H0 H) : RowM R (fun p => M p ∨ p = a) H v xs := by
  obtain ⟨b, vs, r, h1, ne, h2⟩ := h
  refine ⟨b, vs, r, e _ _ h1, fun z => ?_, h2.mono fun _ _ m => st m (tkS e)⟩
  rcases z with z | z
  · exact ne z
  · rw [z, na] at h1; cases h1
/-- [list(row) for row in rows] -/
theorem copy_it {α : Type} {K : PySem.W.Frag} {R : Hp → V → α → Prop} (st : StT K R) {M : Addr → Prop} {H0 Hs : Hp} {D A : Addr} {vs : List V} {xs : List (List α)} (e : Same H0 Hs) (hM : ∀ p, H0 p = none → ¬ M p) (hA : H0 A = some (.lst vs)) (ha : All2 (RowM R M H0) vs xs) (hl : xs.length ≤ 1000)
    (nD : Hs D = none) {s0 s1 s2 s3 s4 s5 s6 : Option V} {Qd : Hp → Prop} (hd : ∀ H' acc, Same Hs H' → H' D = some (.lst acc) → All2 (RowM R M H') acc xs → Qd H') :
    ∃ W : Nat → Nat → Hp → Prop, (∃ m, W 0 m (upd Hs D (.lst []))) ∧ ∀ i m H, W i m H →
      ((Itl K A).stop i H ∧ Qd H) ∨ ((Itl K A).go i H ∧ ∃ Nx : Hp → Prop, (∀ H', Nx H' → ∃ m', m' < m ∧ W (i + 1) m' H') ∧ ∀ x H', (Itl K A).yld i H x H' → gName 4 x (wipe [s0, s1, s2, s3, s4, s5, s6] [4]) H' fun σ2 H2 => wipe σ2 [4] = wipe [s0, s1, s2, s3, s4, s5, s6] [4] ∧ tYes σ2 H2 fun b H3 =>
        if b = true then tCB (rListOf K) (tCons (tVar 4) tNil) σ2 H3 fun y H4 => ∃ acc, H4 D = some (.lst acc) ∧ acc.length < sizeLine ∧ Nx (upd H4 D (.lst (acc ++ [y]))) else Nx H3) := by
  have lv := ha.len
  have D0 : H0 D = none := same_none e nD
  refine lc_it (n := vs.length) (walk_list (xs := vs)) (fun k H' => Same Hs H' ∧ ∃ acc, H' D = some (.lst acc) ∧ All2 (RowM R (fun a => M a ∨ a = D) H') acc (xs.take k)) ⟨same_new nD, [], upd_same, trivial⟩ (fun i H hi h => SqL.of (h.1 _ _ (e _ _ hA))) ?_ ?_
  · rintro k x _ H1 hk ⟨e1, acc, hD, hacc⟩ ⟨rfl, hx⟩
    obtain ⟨row, hrow, ⟨a, ws, rfl, haw, nM, am⟩⟩ := ha.get hx
    have h1 := e1 _ _ (e _ _ haw)
    refine ⟨rfl, _, rfl, a, ws, rfl, .inl (SqL.of h1), fun p np => ?_⟩
    have pD : p ≠ D := fun z => by rw [z, hD] at np; cases np
    have p0 : H0 p = none := same_none (e.trans e1) np
    have hD2 : upd H1 p (.lst ws) D = some (.lst acc) := same_new np _ _ hD
    have la := hacc.len
    rw [List.length_take] at la
    refine ⟨acc, hD2, Nat.lt_of_le_of_lt (show acc.length ≤ 1000 by omega) (by decide), (e1.trans (same_new np)).trans' nD, acc ++ [.ref p], upd_same, ?_⟩
    rw [List.take_add_one, hrow]
    have kk : Kp (fun a => M a ∨ a = D) H1 (upd (upd H1 p (.lst ws)) D (.lst (acc ++ [.ref p]))) := (kpS (same_new np)).trans (kp_upd (.inr rfl))
    have tt : TK K H1 (upd (upd H1 p (.lst ws)) D (.lst (acc ++ [.ref p]))) := (tkS (same_new np)).trans (tk_l hD2)
    refine All2.snoc (hacc.mono fun _ _ r => r.tk st kk tt) ⟨p, ws, rfl, by rw [upd_ne pD, upd_same], fun z => ?_, am.mono fun _ _ m => st m ((tkS (e.trans e1)).trans tt)⟩
    rcases z with z | z
    · exact hM p p0 z
    · exact pD z
  · rintro H' ⟨e1, acc, hD, hacc⟩
    rw [lv, List.take_length] at hacc
    exact hd H' acc e1 hD (hacc.mono fun _ _ r => r.sub fun _ z => .inl z)
/-- [(up, down) for up, down in row] -/
theorem pairs_it {K : PySem.W.Frag} {Hs : Hp} {D A : Addr} {vs : List V} {xs : List (Int × Int)} (hA : Hs A = some (.lst vs)) (ha : All2 (PairR K Hs) vs xs) (hl : xs.length ≤ 1000)
    (nD : Hs D = none) {s0 s1 s2 s3 s4 s5 s6 : Option V} {Qd : Hp → Prop} (hd : ∀ H' acc, Same Hs H' → H' D = some (.lst acc) → All2 (PairR K H') acc xs → Qd H') :
    ∃ W : Nat → Nat → Hp → Prop, (∃ m, W 0 m (upd Hs D (.lst []))) ∧ ∀ i m H, W i m H →
      ((Itl K A).stop i H ∧ Qd H) ∨ ((Itl K A).go i H ∧ ∃ Nx : Hp → Prop, (∀ H', Nx H' → ∃ m', m' < m ∧ W (i + 1) m' H') ∧ ∀ x H', (Itl K A).yld i H x H' → gTup K 2 (gCons (gName 5) (gCons (gName 6) gNil)) x (wipe [s0, s1, s2, s3, s4, s5, s6] [5, 6]) H' fun σ2 H2 => wipe σ2 [5, 6] = wipe [s0, s1, s2, s3, s4, s5, s6] [5, 6] ∧ tYes σ2 H2 fun b H3 =>
        if b = true then tTup (tCons (tVar 5) (tCons (tVar 6) tNil)) σ2 H3 fun y H4 => ∃ acc, H4 D = some (.lst acc) ∧ acc.length < sizeLine ∧ Nx (upd H4 D (.lst (acc ++ [y]))) else Nx H3) := by
  have lv := ha.len
  refine lc_it (n := vs.length) (walk_list (xs := vs)) (fun k H' => Same Hs H' ∧ ∃ acc, H' D = some (.lst acc) ∧ All2 (PairR K H') acc (xs.take k)) ⟨same_new nD, [], upd_same, trivial⟩ (fun i H hi h => SqL.of (h.1 _ _ hA)) ?_ ?_
  · rintro k x _ H1 hk ⟨e1, acc, hD, hacc⟩ ⟨rfl, hx⟩
    obtain ⟨sp, hsp, ⟨a, rfl, ta⟩⟩ := ha.get hx
    refine ⟨a, _, rfl, same_t e1 ta, rfl, _, _, rfl, _, _, rfl, rfl, rfl, _, rfl, _, rfl, by show 2 ≤ sizeLine; decide, fun p np => ?_⟩
    have pD : p ≠ D := fun z => by rw [z, hD] at np; cases np
    have hD2 := same_new (o := .tup [.int sp.1, .int sp.2]) np _ _ hD
    have la := hacc.len
    rw [List.length_take] at la
    refine ⟨acc, hD2, Nat.lt_of_le_of_lt (show acc.length ≤ 1000 by omega) (by decide), (e1.trans (same_new np)).trans' nD, acc ++ [.ref p], upd_same, ?_⟩
    rw [List.take_add_one, hsp]
    exact All2.snoc (hacc.mono fun _ _ r => r.tk ((tkS (same_new np)).trans (tk_l hD2))) ⟨p, rfl, SqT.of (by rw [upd_ne pD, upd_same])⟩
  · rintro H' ⟨e1, acc, hD, hacc⟩
    rw [lv, List.take_length] at hacc
    exact hd H' acc e1 hD hacc
/-- [[(up, down) for up, down in row] for row in steps] -/
theorem copy2_it {K : PySem.W.Frag} {M : Addr → Prop} {H0 Hs : Hp} {D A : Addr} {vs : List V} {xs : List (List (Int × Int))} (e : Same H0 Hs) (hM : ∀ p, H0 p = none → ¬ M p) (hA : H0 A = some (.lst vs)) (ha : All2 (RowM (PairR K) M H0) vs xs) (hl : xs.length ≤ 1000) (hl2 : ∀ x ∈ xs, x.length ≤ 1000)
    (nD : Hs D = none) {s0 s1 s2 s3 s4 s5 s6 : Option V} {Qd : Hp → Prop} (hd : ∀ H' acc, Same Hs H' → H' D = some (.lst acc) → All2 (RowM (PairR K) M H') acc xs → Qd H') :
    ∃ W : Nat → Nat → Hp → Prop, (∃ m, W 0 m (upd Hs D (.lst []))) ∧ ∀ i m H, W i m H →
      ((Itl K A).stop i H ∧ Qd H) ∨ ((Itl K A).go i H ∧ ∃ Nx : Hp → Prop, (∀ H', Nx H' → ∃ m', m' < m ∧ W (i + 1) m' H') ∧ ∀ x H', (Itl K A).yld i H x H' → gName 4 x (wipe [s0, s1, s2, s3, s4, s5, s6] [4]) H' fun σ2 H2 => wipe σ2 [4] = wipe [s0, s1, s2, s3, s4, s5, s6] [4] ∧ tYes σ2 H2 fun b H3 =>
        if b = true then tLc (iList K (tVar 4)) (gTup K 2 (gCons (gName 5) (gCons (gName 6) gNil))) tYes (tTup (tCons (tVar 5) (tCons (tVar 6) tNil))) [5, 6] σ2 H3 fun y H4 => ∃ acc, H4 D = some (.lst acc) ∧ acc.length < sizeLine ∧ Nx (upd H4 D (.lst (acc ++ [y]))) else Nx H3) := by
  have lv := ha.len
  have D0 : H0 D = none := same_none e nD
  refine lc_it (n := vs.length) (walk_list (xs := vs)) (fun k H' => Same Hs H' ∧ ∃ acc, H' D = some (.lst acc) ∧ All2 (RowM (PairR K) (fun a => M a ∨ a = D) H') acc (xs.take k)) ⟨same_new nD, [], upd_same, trivial⟩ (fun i H hi h => SqL.of (h.1 _ _ (e _ _ hA))) ?_ ?_
  · rintro k x _ H1 hk ⟨e1, acc, hD, hacc⟩ ⟨rfl, hx⟩
    obtain ⟨row, hrow, ⟨a, ws, rfl, haw, nM, am⟩⟩ := ha.get hx
    have h1 := e1 _ _ (e _ _ haw)
    refine ⟨rfl, _, rfl, a, rfl, ⟨ws, SqL.of h1⟩, fun p np => ?_⟩
    refine pairs_it h1 (am.mono fun _ _ m => m.tk (tkS (e.trans e1))) (hl2 row (List.mem_of_getElem? hrow)) np fun H2 acc2 e2 hp2 a2 => ?_
    have pD : p ≠ D := fun z => by rw [z, hD] at np; cases np
    have p0 : H0 p = none := same_none (e.trans e1) np
    have hD2 := e2 _ _ hD
    have la := hacc.len
    rw [List.length_take] at la
    refine ⟨acc, hD2, Nat.lt_of_le_of_lt (show acc.length ≤ 1000 by omega) (by decide), (e1.trans e2).trans' nD, acc ++ [.ref p], upd_same, ?_⟩
    rw [List.take_add_one, hrow]
    have kk : Kp (fun a => M a ∨ a = D) H1 (upd H2 D (.lst (acc ++ [.ref p]))) := (kpS e2).trans (kp_upd (.inr rfl))
    have t2 : TK K H2 (upd H2 D (.lst (acc ++ [.ref p]))) := tk_l hD2
    refine All2.snoc (hacc.mono fun _ _ r => r.tk (fun h t => h.tk t) kk ((tkS e2).trans t2)) ⟨p, acc2, rfl, by rw [upd_ne pD]; exact hp2, fun z => ?_, a2.mono fun _ _ m => m.tk t2⟩
    rcases z with z | z
    · exact hM p p0 z
    · exact pD z
  · rintro H' ⟨e1, acc, hD, hacc⟩
    rw [lv, List.take_length] at hacc
    exact hd H' acc e1 hD (hacc.mono fun _ _ r => r.sub fun _ z => .inl z)
section
variable {P : Program} {w : World} {K : PySem.W.Frag} {mg : Str → Option Value} {base : Heap}
def spLookSteps (K : PySem.W.Frag) : Sp := sp2 fun x y H Q => ∃ (M : Addr → Prop) (PA RA SA : Addr) (W : Web) (n : Nat), x = .ref PA ∧ y = .ref SA ∧ WebAt K M H PA RA SA W ∧ WebOk n W ∧ ∀ H', Same H H' → Q .non H'
theorem c_look_steps (T : Tx P w K mg base) : Cal P w K mg base 2 "look_steps" (spLookSteps K) [] := by
  refine mkC T.f_look_steps T.g_look_steps sc_look_steps len2 (fun _ _ _ _ _ _ us hl => match us, hl with | [_, _], _ => rfl) fun cdv A0 outer s0 H vs Q E hr h => ?_
  obtain ⟨_, _, rfl, M, PA, RA, SA, W, n, rfl, rfl, hW, okW, q⟩ := h
  refine ⟨_, (pss_one (ps_for PassesOwn.never rfl (pi_enum (by rfl) T.b_enumerate (pa_cons (pv 1) pa_nil)) (pg_tup rfl (pgs_cons (pg_name (i := 2) sc_look_steps.nd rfl (by first | exact Or.inl rfl | exact Or.inr rfl)) (pgs_cons (pg_name (i := 3) sc_look_steps.nd rfl (by first | exact Or.inl rfl | exact Or.inr rfl)) pgs_nil))) (pss_cons (ps_set (i := 4) sc_look_steps.nd rfl (by first | exact Or.inl rfl | exact Or.inr rfl) (pe_ix ix_list (pv 0) (pe_op op_add (pv 2) pe_int) (fun _ _ => rfl)))
        (pss_one (ps_for PassesOwn.never rfl (pi_enum (by rfl) T.b_enumerate (pa_cons (pv 3) pa_nil)) (pg_tup rfl (pgs_cons (pg_name (i := 5) sc_look_steps.nd rfl (by first | exact Or.inl rfl | exact Or.inr rfl)) (pgs_cons (pg_tup rfl (pgs_cons (pg_name (i := 6) sc_look_steps.nd rfl (by first | exact Or.inl rfl | exact Or.inr rfl)) (pgs_cons (pg_name (i := 7) sc_look_steps.nd rfl (by first | exact Or.inl rfl | exact Or.inr rfl)) pgs_nil))) pgs_nil))) (pss_one (ps_if (PW.pt (pw_or (pt_not (pt_chain op_le op_lt pe_int (pv 6) (pe_callB call_len_seq (by rfl) T.b_len (by decide +kernel) (pa_cons (pv 4) pa_nil)))) (pw_or (pt_not (pt_chain op_le op_lt pe_int (pv 7) (pe_callB call_len_seq (by rfl) T.b_len (by decide +kernel) (pa_cons (pv 4) pa_nil)))) (pw_or1 (pt_not (pt_val (pe_c (c_less T) hr (by omega) rfl (pa_cons (pe_ix ix_list (pv 4) (pv 7) (fun _ _ => rfl)) (pa_cons (pe_ix ix_list (pv 4) (pv 6) (fun _ _ => rfl)) pa_nil))))))))) (pss_one ps_never) pss_nil))))))), ?_⟩
  obtain ⟨⟨pv, hP, _, aP⟩, ⟨rv, hR, _, aR⟩, sv, hS, _, aS⟩ := id hW
  obtain ⟨okP, lR, lS, ok⟩ := okW
  have lP := okP.len
  have l3 := aS.len
  refine ⟨_, rfl, SA, sv, rfl, SqL.of hS, for_it (n := sv.length) walk_enum (fun i σ H' => (∃ x2 x3 x4 x5 x6 x7, σ = [some (.ref PA), some (.ref SA), x2, x3, x4, x5, x6, x7]) ∧ Same H H') ⟨⟨_, _, _, _, _, _, rfl⟩, fun _ _ h => h⟩ (fun i σ H' hi ⟨_, e⟩ => SqL.of (e _ _ hS)) ?_ fun σ H' ⟨_, e⟩ => q H' e⟩
  rintro i _ _ H1 _ hi ⟨⟨x2, x3, x4, x5, x6, x7, rfl⟩, e⟩ ⟨D, xx, yy, rfl, nD, rfl, hx, hy⟩
  have e2 := e.trans (same_new (o := .tup [xx, yy]) nD)
  cases hx
  obtain ⟨S0, hS0, ⟨a, rs, rfl, ha, _, am⟩⟩ := aS.get hy
  have hi2 : i < W.ss.length := by omega
  obtain ⟨v1, hv1, ⟨a1, vs1, rfl, ha1, _, am1⟩⟩ := aP.at_ (List.getElem?_eq_getElem (show i + 1 < W.ps.length by omega))
  obtain ⟨d1, d2, d3⟩ := ok i _ _ _ _ (by omega) (List.getElem?_eq_getElem (show i < W.ps.length by omega)) (List.getElem?_eq_getElem (show i + 1 < W.ps.length by omega)) (List.getElem?_eq_getElem (show i < W.rs.length by omega)) hS0
  obtain ⟨r1, r2, r3⟩ := okP.row (List.getElem?_eq_getElem (show i + 1 < W.ps.length by omega))
  have la1 := am1.len
  refine ⟨D, _, rfl, SqT.of upd_same, rfl, _, _, rfl, _, _, rfl, rfl, ?_⟩
  refine ⟨_, rfl, _, rfl, _, _, rfl, rfl, PA, pv, _, _, rfl, rfl, SqL.of (e2 _ _ hP), at_of (j := i + 1) (by omega) hv1, ?_⟩
  refine ⟨_, rfl, a, rs, rfl, SqL.of (e2 _ _ ha), for_it (n := rs.length) walk_enum (fun j σ H' => (∃ x2 x3 x5 x6 x7, σ = [some (.ref PA), some (.ref SA), x2, x3, some (.ref a1), x5, x6, x7]) ∧ Same H H') ⟨⟨_, _, _, _, _, rfl⟩, e2⟩ (fun i σ H' hi ⟨_, e⟩ => SqL.of (e _ _ ha)) ?_ fun σ H' ⟨⟨_, _, _, _, _, h⟩, e⟩ => ⟨⟨_, _, _, _, _, _, h⟩, e⟩⟩
  rintro j _ _ H2 _ hj ⟨⟨x2, x3, x5, x6, x7, rfl⟩, e3⟩ ⟨D2, xx, yy, rfl, nD2, rfl, hx, hy2⟩
  have e4 := e3.trans (same_new (o := .tup [xx, yy]) nD2)
  cases hx
  obtain ⟨s, hs, ⟨p, rfl, tp⟩⟩ := am.get hy2
  have hj2 : j < S0.length := (List.getElem?_eq_some_iff.mp hs).1
  obtain ⟨hi', lo', ⟨u0, u1, uh, ul, ult⟩, _⟩ := d3 j _ _ s (List.getElem?_eq_getElem (by omega)) (List.getElem?_eq_getElem (by omega)) hs
  have b1 := (List.getElem?_eq_some_iff.mp uh).1
  have b2 := (List.getElem?_eq_some_iff.mp ul).1
  obtain ⟨vh, hvh, mh⟩ := am1.at_ uh
  obtain ⟨vl, hvl, ml⟩ := am1.at_ ul
  have zh := (r3 _ (List.mem_of_getElem? uh)).2
  have zl := (r3 _ (List.mem_of_getElem? ul)).2
  refine ⟨D2, _, rfl, SqT.of upd_same, rfl, _, _, rfl, _, _, rfl, ⟨p, _, rfl, same_t e4 tp, rfl, _, _, rfl, _, _, rfl, rfl, rfl, ?_⟩⟩
  refine ⟨_, rfl, _, _, rfl, rfl, _, rfl, decT u0 ⟨_, rfl, a1, vs1, rfl, .inl (SqL.of (e4 _ _ ha1)), _, _, rfl, rfl, _, rfl, notF (by omega) ?_⟩⟩
  refine ⟨_, rfl, _, _, rfl, rfl, _, rfl, decT u1 ⟨_, rfl, a1, vs1, rfl, .inl (SqL.of (e4 _ _ ha1)), _, _, rfl, rfl, _, rfl, notF (by omega) ?_⟩⟩
  refine ⟨_, rfl, _, rfl, a1, vs1, _, _, rfl, rfl, SqL.of (e4 _ _ ha1), at_of (j := s.2.toNat) (by omega) hvl, _, rfl, _, rfl, a1, vs1, _, _, rfl, rfl, SqL.of (e4 _ _ ha1), at_of (j := s.1.toNat) (by omega) hvh, ?_⟩
  exact ⟨_, _, rfl, lo', hi', ml.s e4, mh.s e4, zl.mono (by decide), zh.mono (by decide), _, rfl, notF ult ⟨⟨_, _, _, _, _, rfl⟩, e4⟩⟩
/-! ### a lattice -/
def LatAt (K : PySem.W.Frag) (M : Addr → Prop) (H : Hp) (a : Addr) (W : Web) : Prop := ∃ dx PA RA SA, H a = some (.ins (He.ga K "Lattice") dx [("prices", .ref PA), ("rates", .ref RA), ("steps", .ref SA)]) ∧ ¬ M a ∧ WebAt K M H PA RA SA W
theorem LatAt.s {K : PySem.W.Frag} {M : Addr → Prop} {H H' : Hp} {a : Addr} {W : Web} (h : LatAt K M H a W) (e : Same H H') : LatAt K M H' a W := by
  obtain ⟨dx, PA, RA, SA, h1, m, h2⟩ := h
  exact ⟨dx, PA, RA, SA, e _ _ h1, m, h2.s e⟩
theorem LatAt.kp {K : PySem.W.Frag} {M : Addr → Prop} {H H' : Hp} {a : Addr} {W : Web} (h : LatAt K M H a W) (e : Kp M H H') (n : NoT M H) : LatAt K M H' a W := by
  obtain ⟨dx, PA, RA, SA, h1, m, h2⟩ := h
  exact ⟨dx, PA, RA, SA, e _ _ h1 m, m, h2.kp e n⟩
def spLatInit (K : PySem.W.Frag) : Sp := sp4 fun s x y z H Q => ∃ (M : Addr → Prop) (H0 : Hp) (a dx PA RA SA : Addr) (W : Web) (n : Nat), s = .ref a ∧ x = .ref PA ∧ y = .ref RA ∧ z = .ref SA ∧ H0 a = none ∧ H0 dx = none ∧ dx ≠ a ∧ H = upd (upd H0 dx (.own a)) a (.ins (He.ga K "Lattice") dx []) ∧ (∀ p, H0 p = none → ¬ M p) ∧
  WebAt K M H0 PA RA SA W ∧ WebOk n W ∧ n ≤ 3 ∧ ∀ H', Same H0 H' → LatAt K M H' a W → Q .non H'
theorem m_Lattice (T : Tx P w K mg base) : Mak P w K mg base 3 "Lattice" (He.ga K "Lattice") (spLatInit K) [] := by
  refine mkI T.mk_Lattice T.g_Lattice T.f_Lattice_init sc_Lattice_init len4 (fun _ _ _ _ _ _ us hl => match us, hl with | [_, _, _, _], _ => rfl) fun cdv A0 outer s0 H vs Q E hr h => ?_
  obtain ⟨_, _, _, _, rfl, M, H0, a, dx, PA, RA, SA, W, n, rfl, rfl, rfl, rfl, na, ndx, hne, hH, hM, hW, okW, hn, q⟩ := h
  refine ⟨_, (pss_cons (ps_expr (pe_c (c_look_shape T) hr (by omega) rfl (pa_cons (pv 1) (pa_cons (pv 2) (pa_cons (pv 3) pa_nil)))))
        (pss_cons (ps_expr (pe_cK (c_look_above T) hr (by omega) rfl (pa_cons (pv 1) pa_nil) (pk_cons pe_bl pk_nil)))
        (pss_cons (ps_expr (pe_cK (c_look_above T) hr (by omega) rfl (pa_cons (pv 2) pa_nil) (pk_cons pe_bl pk_nil)))
        (pss_cons (ps_expr (pe_c (c_look_steps T) hr (by omega) rfl (pa_cons (pv 1) (pa_cons (pv 3) pa_nil))))
        (pss_cons (ps_fld (pv 0) (pe_lc (own := [("row", 4)]) rfl sc_Lattice_init.nd (pi_list (pv 1)) (blkOk_by (own := [("row", 4)]) (N := ["self", "prices", "rates", "steps", "row", "up", "down"]) (sc := defScope s_Lattice_init) (by decide +kernel)) (fun _ _ _ _ _ => (pg_name (i := 4) sc_Lattice_init.nd rfl (by first | exact Or.inl rfl | exact Or.inr rfl))) (fun _ _ _ _ _ => pts_nil) (fun _ _ _ _ _ => (pe_callTy (call_list_of' (K := K) rfl) (by rfl) T.b_list (by decide +kernel) (pa_cons (pv 4) pa_nil)))) rfl)
        (pss_cons (ps_fld (pv 0) (pe_lc (own := [("row", 4)]) rfl sc_Lattice_init.nd (pi_list (pv 2)) (blkOk_by (own := [("row", 4)]) (N := ["self", "prices", "rates", "steps", "row", "up", "down"]) (sc := defScope s_Lattice_init) (by decide +kernel)) (fun _ _ _ _ _ => (pg_name (i := 4) sc_Lattice_init.nd rfl (by first | exact Or.inl rfl | exact Or.inr rfl))) (fun _ _ _ _ _ => pts_nil) (fun _ _ _ _ _ => (pe_callTy (call_list_of' (K := K) rfl) (by rfl) T.b_list (by decide +kernel) (pa_cons (pv 4) pa_nil)))) rfl)
        (pss_one (ps_fld (pv 0) (pe_lc (own := [("row", 4)]) rfl sc_Lattice_init.nd (pi_list (pv 3)) (blkOk_by (own := [("row", 4)]) (N := ["self", "prices", "rates", "steps", "row", "up", "down"]) (sc := defScope s_Lattice_init) (by decide +kernel)) (fun _ _ _ _ _ => (pg_name (i := 4) sc_Lattice_init.nd rfl (by first | exact Or.inl rfl | exact Or.inr rfl))) (fun _ _ _ _ _ => pts_nil) (fun _ _ _ _ _ => (pe_lc (own := [("up", 5), ("down", 6)]) rfl sc_Lattice_init.nd (pi_list' (K := K) rfl (pv 4)) (blkOk_by (own := [("up", 5), ("down", 6)]) (N := ["self", "prices", "rates", "steps", "row", "up", "down"]) (sc := { kind := ScopeKind.function, names := [(".0", NameKind.local), ("row", NameKind.local)], isGenerator := false, isCoroutine := false }) (by decide +kernel)) (fun _ _ _ _ _ => (pg_tup' (K := K) (n := 2) rfl rfl (pgs_cons (pg_name (i := 5) sc_Lattice_init.nd rfl (by first | exact Or.inl rfl | exact Or.inr rfl)) (pgs_cons (pg_name (i := 6) sc_Lattice_init.nd rfl (by first | exact Or.inl rfl | exact Or.inr rfl)) pgs_nil)))) (fun _ _ _ _ _ => pts_nil) (fun _ _ _ _ _ => (pe_tup (pa_cons (pv 5) (pa_cons (pv 6) pa_nil))))))) rfl)))))))), ?_⟩
  have e0 : Same H0 H := by rw [hH]; exact same_fresh (same_new ndx) na
  refine ⟨_, rfl, _, rfl, _, rfl, _, _, _, rfl, M, PA, RA, SA, W, n, rfl, rfl, rfl, hW.s e0, okW, hn, fun H1 e1 => ?_⟩
  obtain ⟨⟨pv, hP, mP, aP⟩, ⟨rv, hR, mR, aR⟩, sv, hS, mS, aS⟩ := id hW
  have ok2 := okW
  obtain ⟨okP, lR, lS, ok⟩ := okW
  have E1 : Same H0 H1 := e0.trans e1
  have posP : ∀ r ∈ W.ps, ∀ q ∈ r, 0 < q := fun r hr' q hq => by
    obtain ⟨j, hj, rfl⟩ := List.mem_iff_getElem.mp hr'
    exact ((okP.row (List.getElem?_eq_getElem hj)).2.2 q hq).1
  have posR : ∀ r ∈ W.rs, ∀ q ∈ r, 0 < q := fun r hr' q hq => by
    obtain ⟨j, hj, rfl⟩ := List.mem_iff_getElem.mp hr'
    obtain ⟨i, hi, rfl⟩ := List.mem_iff_getElem.mp hq
    have lP := okP.len
    obtain ⟨d1, d2, d3⟩ := ok j _ _ _ _ (by omega) (List.getElem?_eq_getElem (show j < W.ps.length by omega)) (List.getElem?_eq_getElem (show j + 1 < W.ps.length by omega)) (List.getElem?_eq_getElem hj) (List.getElem?_eq_getElem (show j < W.ss.length by omega))
    obtain ⟨_, _, _, _, _, h, _⟩ := d3 i _ _ _ (List.getElem?_eq_getElem (by omega)) (List.getElem?_eq_getElem hi) (List.getElem?_eq_getElem (by omega))
    exact h
  refine ⟨_, rfl, rfl, rfl, _, _, rfl, M, PA, pv, W.ps, false, rfl, rfl, E1 _ _ hP, aP.mono fun _ _ r => r.s E1, posP, fun H2 e2 => ?_⟩
  have E2 := E1.trans e2
  refine ⟨_, rfl, rfl, rfl, _, _, rfl, M, RA, rv, W.rs, true, rfl, rfl, E2 _ _ hR, aR.mono fun _ _ r => r.s E2, posR, fun H3 e3 => ?_⟩
  have E3 := E2.trans e3
  refine ⟨_, rfl, _, rfl, _, _, rfl, M, PA, RA, SA, W, n, rfl, rfl, hW.s E3, ok2, fun H4 e4 => ?_⟩
  have E4 := E3.trans e4
  have lP := okP.len
  have ha4 : H4 a = some (.ins (He.ga K "Lattice") dx []) := (e1.trans (e2.trans (e3.trans e4))) a _ (by rw [hH, upd_same])
  have sA : StT K (Am K) := fun h t => h.tk t
  have sP : StT K (PairR K) := fun h t => h.tk t
  have hMa : ∀ {H : Hp}, Same H0 H → (∃ o, H a = some o) → ∀ p, H p = none → ¬ (M p ∨ p = a) := fun e ⟨o, ho⟩ p np z => by
    rcases z with z | z
    · exact hM p (same_none e np) z
    · rw [z, ho] at np; cases np
  -- self.prices
  refine ⟨_, rfl, PA, rfl, ⟨pv, SqL.of (E4 _ _ hP)⟩, fun D1 n1 => copy_it (R := Am K) sA (M := fun p => M p ∨ p = a) (H0 := H4) (fun _ _ h => h) (hMa E4 ⟨_, ha4⟩) (E4 _ _ hP) (aP.mono fun _ _ r => r.sup (R := Am K) sA na E4) (by omega) n1 fun H5 acc1 e5 hD1 a1 => ?_⟩
  have ha5 := e5 _ _ ha4
  have D1a : D1 ≠ a := fun z => by rw [z, ha4] at n1; cases n1
  refine ⟨_, rfl, a, _, dx, _, rfl, ha5, T.cl_Lattice, T.na_Lattice_prices, by decide, ?_⟩
  have E6 : Same H0 (upd H5 a (.ins (He.ga K "Lattice") dx [("prices", .ref D1)])) := same_fresh (E4.trans e5) na
  have K6 : Kp (fun p => M p ∨ p = a) H5 (upd H5 a (.ins (He.ga K "Lattice") dx [("prices", .ref D1)])) := kp_upd (.inr rfl)
  have T6 : TK K H5 (upd H5 a (.ins (He.ga K "Lattice") dx [("prices", .ref D1)])) := tk_i ha5
  -- self.rates
  refine ⟨_, rfl, RA, rfl, ⟨rv, SqL.of (E6 _ _ hR)⟩, fun D2 n2 => copy_it (R := Am K) sA (M := fun p => M p ∨ p = a) (H0 := upd H5 a (.ins (He.ga K "Lattice") dx [("prices", .ref D1)])) (fun _ _ h => h) (hMa E6 ⟨_, upd_same⟩) (E6 _ _ hR) (aR.mono fun _ _ r => r.sup (R := Am K) sA na E6) (by omega) n2 fun H7 acc2 e7 hD2 a2 => ?_⟩
  have ha7 := e7 _ _ upd_same
  have D2a : D2 ≠ a := fun z => by rw [z, upd_same] at n2; cases n2
  refine ⟨_, rfl, a, _, dx, _, rfl, ha7, T.cl_Lattice, T.na_Lattice_rates, by simp, ?_⟩
  have E8 : Same H0 (upd H7 a (.ins (He.ga K "Lattice") dx [("prices", .ref D1), ("rates", .ref D2)])) := same_fresh (E6.trans e7) na
  have K8 : Kp (fun p => M p ∨ p = a) H7 (upd H7 a (.ins (He.ga K "Lattice") dx [("prices", .ref D1), ("rates", .ref D2)])) := kp_upd (.inr rfl)
  have T8 : TK K H7 (upd H7 a (.ins (He.ga K "Lattice") dx [("prices", .ref D1), ("rates", .ref D2)])) := tk_i ha7
  -- self.steps
  have l8 : ∀ x ∈ W.ss, x.length ≤ 1000 := fun x hx => by
    obtain ⟨j, hj, rfl⟩ := List.mem_iff_getElem.mp hx
    obtain ⟨_, d2, _⟩ := ok j _ _ _ _ (by omega) (List.getElem?_eq_getElem (show j < W.ps.length by omega)) (List.getElem?_eq_getElem (show j + 1 < W.ps.length by omega)) (List.getElem?_eq_getElem (show j < W.rs.length by omega)) (List.getElem?_eq_getElem hj)
    have := (okP.row (List.getElem?_eq_getElem (show j < W.ps.length by omega))).1
    omega
  refine ⟨_, rfl, SA, rfl, ⟨sv, SqL.of (E8 _ _ hS)⟩, fun D3 n3 => copy2_it (M := fun p => M p ∨ p = a) (H0 := upd H7 a (.ins (He.ga K "Lattice") dx [("prices", .ref D1), ("rates", .ref D2)])) (fun _ _ h => h) (hMa E8 ⟨_, upd_same⟩) (E8 _ _ hS) (aS.mono fun _ _ r => r.sup (R := PairR K) sP na E8) (by omega) l8 n3 fun H9 acc3 e9 hD3 a3 => ?_⟩
  have ha9 := e9 _ _ upd_same
  have D3a : D3 ≠ a := fun z => by rw [z, upd_same] at n3; cases n3
  refine ⟨_, rfl, a, _, dx, _, rfl, ha9, T.cl_Lattice, T.na_Lattice_steps, by simp, ?_⟩
  have E10 : Same H0 (upd H9 a (.ins (He.ga K "Lattice") dx [("prices", .ref D1), ("rates", .ref D2), ("steps", .ref D3)])) := same_fresh (E8.trans e9) na
  have K10 : Kp (fun p => M p ∨ p = a) H9 (upd H9 a (.ins (He.ga K "Lattice") dx [("prices", .ref D1), ("rates", .ref D2), ("steps", .ref D3)])) := kp_upd (.inr rfl)
  have T10 : TK K H9 (upd H9 a (.ins (He.ga K "Lattice") dx [("prices", .ref D1), ("rates", .ref D2), ("steps", .ref D3)])) := tk_i ha9
  have K79 := (kpS (M := fun p => M p ∨ p = a) e9).trans K10
  have T79 := (tkS (K := K) e9).trans T10
  have K57 := (K6.trans (kpS e7)).trans (K8.trans K79)
  have T57 := (T6.trans (tkS e7)).trans (T8.trans T79)
  have nM : ∀ {H : Hp} {D : Addr}, Same H0 H → H D = none → ¬ M D := fun e n => hM _ (same_none e n)
  have nMa : ∀ {D : Addr}, D ≠ a → ¬ M D → ¬ (M D ∨ D = a) := fun h1 h2 z => z.elim h2 h1
  refine q _ E10 ⟨dx, D1, D2, D3, upd_same, hM a na, ?_⟩
  refine ⟨⟨acc1, K57 _ _ hD1 (nMa D1a (nM E4 n1)), nM E4 n1, a1.mono fun _ _ r => (r.tk (R := Am K) sA K57 T57).sub fun _ z => .inl z⟩, ⟨acc2, (K8.trans K79) _ _ hD2 (nMa D2a (nM E6 n2)), nM E6 n2, a2.mono fun _ _ r => (r.tk (R := Am K) sA (K8.trans K79) (T8.trans T79)).sub fun _ z => .inl z⟩, acc3, K10 _ _ hD3 (nMa D3a (nM E8 n3)), nM E8 n3, a3.mono fun _ _ r => (r.tk (R := PairR K) sP K10 T10).sub fun _ z => .inl z⟩
end
end K37
set_option Elab.async false
set_option linter.all false
set_option maxRecDepth 100000
set_option maxHeartbeats 4000000
namespace K37
open PySem PySem.Spec PyProof.Rows L2
open C8 (Cal Met Mak CalAt pe_c pe_mt pe_mt0 pe_mk pe_gc tCut pss_cut)
/-- all that stands at a node with a step -/
structure Nd (W : Web) (d j : Nat) where
  (P0 P1 R0 : List Rat) (S0 : List (Int × Int)) (p r hi lo : Rat) (s : Int × Int)
  hP0 : W.ps[d]? = some P0
  hP1 : W.ps[d + 1]? = some P1
  hR0 : W.rs[d]? = some R0
  hS0 : W.ss[d]? = some S0
  hp : P0[j]? = some p
  hr : R0[j]? = some r
  hs : S0[j]? = some s
  ud : UpDn P1 s hi lo
  l : lo < r * p
  h : r * p < hi
  r0 : 0 < r
  rs : Sz 49 r
  p0 : 0 < p
  ps : Sz 11 p
  his : Sz 11 hi
  los : Sz 11 lo
theorem WebOk.nd {n : Nat} {W : Web} (h : WebOk n W) {d j : Nat} {P0 : List Rat} {p : Rat} (hd : d < n) (h0 : W.ps[d]? = some P0) (hp : P0[j]? = some p) : ∃ N : Nd W d j, N.P0 = P0 ∧ N.p = p := by
  obtain ⟨okP, lR, lS, ok⟩ := h
  have lP := okP.len
  have g1 := List.getElem?_eq_getElem (show d + 1 < W.ps.length by omega)
  have g2 := List.getElem?_eq_getElem (show d < W.rs.length by omega)
  have g3 := List.getElem?_eq_getElem (show d < W.ss.length by omega)
  obtain ⟨d1, d2, d3⟩ := ok d _ _ _ _ hd h0 g1 g2 g3
  have hj := (List.getElem?_eq_some_iff.mp hp).1
  have g4 := List.getElem?_eq_getElem (show j < W.rs[d].length by omega)
  have g5 := List.getElem?_eq_getElem (show j < W.ss[d].length by omega)
  obtain ⟨hi, lo, u, a, b, c, e⟩ := d3 j _ _ _ hp g4 g5
  obtain ⟨_, _, r1⟩ := okP.row g1
  obtain ⟨_, _, r0⟩ := okP.row h0
  exact ⟨⟨_, _, _, _, _, _, hi, lo, _, h0, g1, g2, g3, hp, g4, g5, u, a, b, c, e, (r0 _ (List.mem_of_getElem? hp)).1, (r0 _ (List.mem_of_getElem? hp)).2, (r1 _ (List.mem_of_getElem? u.2.2.1)).2, (r1 _ (List.mem_of_getElem? u.2.2.2.1)).2⟩, rfl, rfl⟩
section
variable {P : Program} {w : World} {K : PySem.W.Frag} {mg : Str → Option Value} {base : Heap}
/-- a lattice with its web -/
def Lat (K : PySem.W.Frag) (H : Hp) (x : V) (M : Addr → Prop) (W : Web) (n : Nat) : Prop := ∃ a, x = .ref a ∧ LatAt K M H a W ∧ WebOk n W
theorem Lat.s {H H' : Hp} {x : V} {M : Addr → Prop} {W : Web} {n : Nat} (h : Lat K H x M W n) (e : Same H H') : Lat K H' x M W n := by
  obtain ⟨a, r, l, o⟩ := h
  exact ⟨a, r, l.s e, o⟩
def spLast (K : PySem.W.Frag) : Sp := sp1 fun x H Q => ∃ M W n, Lat K H x M W n ∧ Q (.int (n : Nat)) H
theorem m_Lattice_last (T : Tx P w K mg base) : Met P w K mg base 1 (He.ga K "Lattice") "last" (spLast K) [] := by
  refine mkM T.cl_Lattice T.me_Lattice_last T.f_Lattice_last sc_Lattice_last len1 (fun _ _ _ _ _ _ us hl => match us, hl with | [_], _ => rfl) fun cdv A0 outer s0 H vs Q E hr h => ?_
  obtain ⟨_, rfl, M, W, n, ⟨a, rfl, ⟨dx, PA, RA, SA, ha, mA, ⟨pvs, hP, _, aP⟩, _⟩, ok⟩, q⟩ := h
  refine ⟨_, (pss_one (ps_ret (pe_op op_sub (pe_callB call_len_seq (by rfl) T.b_len (by decide +kernel) (pa_cons (pe_fld (pv 0) rfl) pa_nil)) pe_int))), ?_⟩
  refine ⟨_, rfl, a, _, dx, _, _, rfl, ha, T.cl_Lattice, T.na_Lattice_prices, rfl, PA, pvs, rfl, .inl (SqL.of hP), _, _, rfl, rfl, ?_⟩
  have l1 := aP.len
  have l2 := ok.1.len
  have e : ((pvs.length : Nat) : Int) - 1 = (n : Nat) := by omega
  show Q (.int ((pvs.length : Nat) - 1)) H
  rw [e]
  exact q
def spMany (K : PySem.W.Frag) : Sp := sp2 fun x y H Q => ∃ M W n, ∃ (d : Nat) (r : List Rat), Lat K H x M W n ∧ y = .int (d : Nat) ∧ W.ps[d]? = some r ∧ Q (.int (r.length : Nat)) H
theorem m_Lattice_many (T : Tx P w K mg base) : Met P w K mg base 1 (He.ga K "Lattice") "many" (spMany K) [] := by
  refine mkM T.cl_Lattice T.me_Lattice_many T.f_Lattice_many sc_Lattice_many len2 (fun _ _ _ _ _ _ us hl => match us, hl with | [_, _], _ => rfl) fun cdv A0 outer s0 H vs Q E hr h => ?_
  obtain ⟨_, _, rfl, M, W, n, d, r, ⟨a, rfl, ⟨dx, PA, RA, SA, ha, mA, ⟨pvs, hP, _, aP⟩, _⟩, ok⟩, rfl, hr', q⟩ := h
  refine ⟨_, (pss_one (ps_ret (pe_ifExp (pt_chain op_le op_lt pe_int (pv 1) (pe_callB call_len_seq (by rfl) T.b_len (by decide +kernel) (pa_cons (pe_fld (pv 0) rfl) pa_nil))) (pe_callB call_len_seq (by rfl) T.b_len (by decide +kernel) (pa_cons (pe_ix ix_list (pe_fld (pv 0) rfl) (pv 1) (fun _ _ => rfl)) pa_nil)) pe_int))), ?_⟩
  obtain ⟨v, hv, ⟨b, vs, rfl, hb, _, am⟩⟩ := aP.at_ hr'
  have lb := am.len
  have lt := (List.getElem?_eq_some_iff.mp hv).1
  refine ⟨_, rfl, _, _, rfl, rfl, _, rfl, decT (by omega) ⟨_, rfl, a, _, dx, _, _, rfl, ha, T.cl_Lattice, T.na_Lattice_prices, rfl, PA, pvs, rfl, .inl (SqL.of hP), _, _, rfl, rfl, _, rfl, decT (by omega) ?_⟩⟩
  refine ⟨_, rfl, a, _, dx, _, _, rfl, ha, T.cl_Lattice, T.na_Lattice_prices, rfl, _, rfl, PA, pvs, _, _, rfl, rfl, SqL.of hP, at_of (j := d) rfl hv, b, vs, rfl, .inl (SqL.of hb), ?_⟩
  rw [← lb] at q
  exact q
def spLookNode (K : PySem.W.Frag) : Sp := sp4 fun x y z c H Q => ∃ M W n, ∃ (d j : Nat) (r : List Rat) (st : Bool), Lat K H x M W n ∧ y = .int (d : Nat) ∧ z = .int (j : Nat) ∧ c = .bl st ∧ W.ps[d]? = some r ∧ j < r.length ∧ (st = true → d < n) ∧ Q .non H
theorem fn_look_node (T : Tx P w K mg base) : ∃ fd, FunD K "look_node" "Lattice.look_node" (defArgs s_Lattice_look_node) (defBody s_Lattice_look_node) (defScope s_Lattice_look_node) [] [("stepping", V.bl true)] (He.ma K (He.ga K "Lattice") "look_node") fd ∧
    FnOk P w K mg base CX0 2 (He.ma K (He.ga K "Lattice") "look_node") fd ["self", "date", "node", "stepping"] (spLookNode K) := by
  obtain ⟨fd, F⟩ := T.f_Lattice_look_node
  refine ⟨fd, F, F.ok sc_Lattice_look_node len4 fun cdv A0 outer s0 H vs Q E hr h => ?_⟩
  obtain ⟨_, _, _, _, rfl, M, W, n, d, j, r, st, hL, rfl, rfl, rfl, hr', hj, hst, q⟩ := h
  obtain ⟨a, rfl, ⟨dx, PA, RA, SA, ha, mA, hW⟩, ok⟩ := id hL
  refine ⟨_, ((pss_one (ps_if (PW.pt (pw_or (pt_not (pt_chain op_le op_lt pe_int (pv 2) (pe_mt (m_Lattice_many T) hr (by omega) (pv 0) (pa_cons (pv 1) pa_nil)))) (pw_or1 (PW.pt (pw_and (pt_val (pv 3)) (pw_and1 (pt_cmpR op_eq (pv 1) (pe_mt0 (m_Lattice_last T) hr (by omega) (pv 0)) (nomark _)))))))) (pss_one ps_never) pss_nil))).nox, ?_⟩
  refine ⟨_, rfl, _, _, rfl, rfl, _, rfl, decT (by omega) ⟨_, rfl, a, dx, _, rfl, ha, rfl, _, rfl, _, _, rfl, M, W, n, d, r, hL, rfl, hr', _, _, rfl, rfl, _, rfl, notF (by omega) ?_⟩⟩
  refine ⟨_, rfl, st, rfl, ?_⟩
  cases st with
  | false => exact iteF (iteF q)
  | true =>
    have := hst rfl
    exact iteT ⟨_, rfl, _, rfl, a, dx, _, rfl, ha, rfl, _, rfl, M, W, n, hL, rfl, _, rfl, decF (fun z => by injection z with z; omega) q⟩
theorem mt_look (T : Tx P w K mg base) : Met P w K mg base 2 (He.ga K "Lattice") "look_node" (spLookNode K) [.bl true] := by
  obtain ⟨fd, F, ok⟩ := fn_look_node T
  obtain ⟨ds, hd, hb⟩ := F.binds0 (ps := ["self", "date", "node", "stepping"]) 3 (by decide) rfl fun D doc pm an cdv ct us ks h1 h2 => match us, ks, h1, h2 with | [_, _, _], [_], _, _ => ⟨_, _, _, _, _, _, rfl, rfl, rfl⟩
  exact ⟨_, fd, _, ds, T.cl_Lattice, T.me_Lattice_look_node, ok, hb, hd⟩
theorem mk_look (T : Tx P w K mg base) : K37R.MetK P w K mg base 2 (He.ga K "Lattice") "look_node" (spLookNode K) 3 ["stepping"] (fun vs zs => vs ++ zs) := by
  obtain ⟨fd, F, ok⟩ := fn_look_node T
  obtain ⟨mv, hb⟩ := F.kbinds0 (ps := ["self", "date", "node", "stepping"]) 3 ["stepping"] [] (fun us _ ws => us ++ ws) (by decide) (fun _ h => (List.not_mem_nil h).elim) (fun r1 _ r3 => r1.append r3) fun D doc pm an cdv ct us mv ws h1 h2 h3 => match us, mv, ws, h1, h2, h3 with | [_, _, _], [], [_], _, _, _ => rfl
  exact ⟨_, fd, _, _, T.cl_Lattice, T.me_Lattice_look_node, ok, hb⟩
def spPrice (K : PySem.W.Frag) : Sp := sp3 fun x y z H Q => ∃ M W n, ∃ (d j : Nat) (r : List Rat) (p : Rat), Lat K H x M W n ∧ y = .int (d : Nat) ∧ z = .int (j : Nat) ∧ W.ps[d]? = some r ∧ r[j]? = some p ∧ ∀ v, Am K H v p → Q v H
theorem m_Lattice_price (T : Tx P w K mg base) : Met P w K mg base 3 (He.ga K "Lattice") "price" (spPrice K) [] := by
  refine mkM T.cl_Lattice T.me_Lattice_price T.f_Lattice_price sc_Lattice_price len3 (fun _ _ _ _ _ _ us hl => match us, hl with | [_, _, _], _ => rfl) fun cdv A0 outer s0 H vs Q E hr h => ?_
  obtain ⟨_, _, _, rfl, M, W, n, d, j, r, p, hL, rfl, rfl, hr', hp, q⟩ := h
  obtain ⟨a, rfl, ⟨dx, PA, RA, SA, ha, mA, ⟨pvs, hP, _, aP⟩, _⟩, ok⟩ := id hL
  refine ⟨_, (pss_cons (ps_expr (K37R.pe_mtK (mk_look T) hr (by omega) (pv 0) (pa_cons (pv 1) (pa_cons (pv 2) pa_nil)) (pk_cons pe_bl pk_nil)))
        (pss_one (ps_ret (pe_ix ix_list (pe_ix ix_list (pe_fld (pv 0) rfl) (pv 1) (fun _ _ => rfl)) (pv 2) (fun _ _ => rfl))))), ?_⟩
  have hj := (List.getElem?_eq_some_iff.mp hp).1
  obtain ⟨v, hv, ⟨b, vs, rfl, hb, _, am⟩⟩ := aP.at_ hr'
  obtain ⟨v2, hv2, m2⟩ := am.at_ hp
  refine ⟨_, rfl, a, dx, _, rfl, ha, rfl, _, rfl, _, rfl, rfl, rfl, _, _, _, _, rfl, M, W, n, d, j, r, false, hL, rfl, rfl, rfl, hr', hj, fun z => by (cases z), ?_⟩
  exact ⟨_, rfl, a, _, dx, _, _, rfl, ha, T.cl_Lattice, T.na_Lattice_prices, rfl, _, rfl, PA, pvs, _, _, rfl, rfl, SqL.of hP, at_of (j := d) rfl hv, _, rfl, b, vs, _, _, rfl, rfl, SqL.of hb, at_of (j := j) rfl hv2, q v2 m2⟩
def spRate (K : PySem.W.Frag) : Sp := sp3 fun x y z H Q => ∃ M W n, ∃ (d j : Nat) (N : Nd W d j), Lat K H x M W n ∧ y = .int (d : Nat) ∧ z = .int (j : Nat) ∧ d < n ∧ ∀ v, Am K H v N.r → Q v H
theorem m_Lattice_rate (T : Tx P w K mg base) : Met P w K mg base 3 (He.ga K "Lattice") "rate" (spRate K) [] := by
  refine mkM T.cl_Lattice T.me_Lattice_rate T.f_Lattice_rate sc_Lattice_rate len3 (fun _ _ _ _ _ _ us hl => match us, hl with | [_, _, _], _ => rfl) fun cdv A0 outer s0 H vs Q E hr h => ?_
  obtain ⟨_, _, _, rfl, M, W, n, d, j, N, hL, rfl, rfl, hd, q⟩ := h
  obtain ⟨a, rfl, ⟨dx, PA, RA, SA, ha, mA, _, ⟨rvs, hR, _, aR⟩, _⟩, ok⟩ := id hL
  refine ⟨_, (pss_cons (ps_expr (pe_mt (mt_look T) hr (by omega) (pv 0) (pa_cons (pv 1) (pa_cons (pv 2) pa_nil))))
        (pss_one (ps_ret (pe_ix ix_list (pe_ix ix_list (pe_fld (pv 0) rfl) (pv 1) (fun _ _ => rfl)) (pv 2) (fun _ _ => rfl))))), ?_⟩
  have hj := (List.getElem?_eq_some_iff.mp N.hp).1
  obtain ⟨v, hv, ⟨b, vs, rfl, hb, _, am⟩⟩ := aR.at_ N.hR0
  obtain ⟨v2, hv2, m2⟩ := am.at_ N.hr
  refine ⟨_, rfl, a, dx, _, rfl, ha, rfl, _, rfl, _, rfl, _, _, _, _, rfl, M, W, n, d, j, N.P0, true, hL, rfl, rfl, rfl, N.hP0, hj, fun _ => hd, ?_⟩
  exact ⟨_, rfl, a, _, dx, _, _, rfl, ha, T.cl_Lattice, T.na_Lattice_rates, rfl, _, rfl, RA, rvs, _, _, rfl, rfl, SqL.of hR, at_of (j := d) rfl hv, _, rfl, b, vs, _, _, rfl, rfl, SqL.of hb, at_of (j := j) rfl hv2, q v2 m2⟩
def spStep (K : PySem.W.Frag) : Sp := sp3 fun x y z H Q => ∃ M W n, ∃ (d j : Nat) (N : Nd W d j), Lat K H x M W n ∧ y = .int (d : Nat) ∧ z = .int (j : Nat) ∧ d < n ∧ ∀ v, PairR K H v N.s → Q v H
theorem m_Lattice_step (T : Tx P w K mg base) : Met P w K mg base 3 (He.ga K "Lattice") "step" (spStep K) [] := by
  refine mkM T.cl_Lattice T.me_Lattice_step T.f_Lattice_step sc_Lattice_step len3 (fun _ _ _ _ _ _ us hl => match us, hl with | [_, _, _], _ => rfl) fun cdv A0 outer s0 H vs Q E hr h => ?_
  obtain ⟨_, _, _, rfl, M, W, n, d, j, N, hL, rfl, rfl, hd, q⟩ := h
  obtain ⟨a, rfl, ⟨dx, PA, RA, SA, ha, mA, _, _, rvs, hR, _, aR⟩, ok⟩ := id hL
  refine ⟨_, (pss_cons (ps_expr (pe_mt (mt_look T) hr (by omega) (pv 0) (pa_cons (pv 1) (pa_cons (pv 2) pa_nil))))
        (pss_one (ps_ret (pe_ix ix_list (pe_ix ix_list (pe_fld (pv 0) rfl) (pv 1) (fun _ _ => rfl)) (pv 2) (fun _ _ => rfl))))), ?_⟩
  have hj := (List.getElem?_eq_some_iff.mp N.hp).1
  obtain ⟨v, hv, ⟨b, vs, rfl, hb, _, am⟩⟩ := aR.at_ N.hS0
  obtain ⟨v2, hv2, m2⟩ := am.at_ N.hs
  refine ⟨_, rfl, a, dx, _, rfl, ha, rfl, _, rfl, _, rfl, _, _, _, _, rfl, M, W, n, d, j, N.P0, true, hL, rfl, rfl, rfl, N.hP0, hj, fun _ => hd, ?_⟩
  exact ⟨_, rfl, a, _, dx, _, _, rfl, ha, T.cl_Lattice, T.na_Lattice_steps, rfl, _, rfl, SA, rvs, _, _, rfl, rfl, SqL.of hR, at_of (j := d) rfl hv, _, rfl, b, vs, _, _, rfl, rfl, SqL.of hb, at_of (j := j) rfl hv2, q v2 m2⟩
def spSides (K : PySem.W.Frag) : Sp := sp3 fun x y z H Q => ∃ M W n, ∃ (d j : Nat) (N : Nd W d j), Lat K H x M W n ∧ y = .int (d : Nat) ∧ z = .int (j : Nat) ∧ d < n ∧ ∀ t g h l H', Same H H' → SqT K H' t [g, h, l] → Am K H' g (N.r * N.p) → Am K H' h N.hi → Am K H' l N.lo → Q (.ref t) H'
theorem m_Lattice_sides (T : Tx P w K mg base) : Met P w K mg base 4 (He.ga K "Lattice") "sides" (spSides K) [] := by
  refine mkM T.cl_Lattice T.me_Lattice_sides T.f_Lattice_sides sc_Lattice_sides len3 (fun _ _ _ _ _ _ us hl => match us, hl with | [_, _, _], _ => rfl) fun cdv A0 outer s0 H vs Q E hr h => ?_
  obtain ⟨_, _, _, rfl, M, W, n, d, j, N, hL, rfl, rfl, hd, q⟩ := h
  obtain ⟨a, rfl, ⟨dx, PA, RA, SA, ha, mA, ⟨pvs, hP, _, aP⟩, _⟩, ok⟩ := id hL
  refine ⟨_, (pss_cons (ps_asg (pe_mt (m_Lattice_step T) hr (by omega) (pv 0) (pa_cons (pv 1) (pa_cons (pv 2) pa_nil))) (pg_tup rfl (pgs_cons (pg_name (i := 3) sc_Lattice_sides.nd rfl (by first | exact Or.inl rfl | exact Or.inr rfl)) (pgs_cons (pg_name (i := 4) sc_Lattice_sides.nd rfl (by first | exact Or.inl rfl | exact Or.inr rfl)) pgs_nil))))
        (pss_cons (ps_set (i := 5) sc_Lattice_sides.nd rfl (by first | exact Or.inl rfl | exact Or.inr rfl) (pe_ix ix_list (pe_fld (pv 0) rfl) (pe_op op_add (pv 1) pe_int) (fun _ _ => rfl)))
        (pss_one (ps_ret (pe_tup (pa_cons (pe_c (c_times T) hr (by omega) rfl (pa_cons (pe_mt (m_Lattice_rate T) hr (by omega) (pv 0) (pa_cons (pv 1) (pa_cons (pv 2) pa_nil))) (pa_cons (pe_mt (m_Lattice_price T) hr (by omega) (pv 0) (pa_cons (pv 1) (pa_cons (pv 2) pa_nil))) pa_nil))) (pa_cons (pe_ix ix_list (pv 5) (pv 3) (fun _ _ => rfl)) (pa_cons (pe_ix ix_list (pv 5) (pv 4) (fun _ _ => rfl)) pa_nil)))))))), ?_⟩
  obtain ⟨u0, u1, uh, ul, _⟩ := N.ud
  obtain ⟨v, hv, ⟨b, vs, rfl, hb, _, am⟩⟩ := aP.at_ N.hP1
  obtain ⟨v1, hv1, m1⟩ := am.at_ uh
  obtain ⟨v2, hv2, m2⟩ := am.at_ ul
  refine ⟨_, rfl, a, dx, _, rfl, ha, rfl, _, rfl, _, rfl, _, _, _, rfl, M, W, n, d, j, N, hL, rfl, rfl, hd, fun sv ⟨sa, rsv, tsa⟩ => ?_⟩
  subst rsv
  refine ⟨sa, _, rfl, tsa, rfl, _, _, rfl, _, _, rfl, rfl, ?_⟩
  refine ⟨_, rfl, a, _, dx, _, _, rfl, ha, T.cl_Lattice, T.na_Lattice_prices, rfl, _, rfl, _, _, rfl, rfl, PA, pvs, _, _, rfl, rfl, SqL.of hP, at_of (j := d + 1) (by omega) hv, ?_⟩
  refine ⟨_, rfl, a, dx, _, rfl, ha, rfl, _, rfl, _, rfl, _, _, _, rfl, M, W, n, d, j, N, hL, rfl, rfl, hd, fun rv mr => ?_⟩
  refine ⟨_, rfl, a, dx, _, rfl, ha, rfl, _, rfl, _, rfl, _, _, _, rfl, M, W, n, d, j, N.P0, N.p, hL, rfl, rfl, N.hP0, N.hp, fun pv' mp => ?_⟩
  refine ⟨_, _, rfl, N.r, N.p, mr, mp, N.rs.mono (by decide), N.ps.mono (by decide), trivial, fun g H1 e1 mg' => ?_⟩
  refine ⟨_, rfl, _, rfl, b, vs, _, _, rfl, rfl, SqL.of (e1 _ _ hb), at_of (j := N.s.1.toNat) (by omega) hv1, _, rfl, _, rfl, b, vs, _, _, rfl, rfl, SqL.of (e1 _ _ hb), at_of (j := N.s.2.toNat) (by omega) hv2, by show 3 ≤ sizeLine; decide, fun t nt => ?_⟩
  have e2 := e1.trans (same_new (o := .tup [g, v1, v2]) nt)
  exact q t g v1 v2 _ e2 (SqT.of upd_same) (mg'.s (same_new nt)) (m1.s e2) (m2.s e2)
theorem Nd.gs {W : Web} {d j : Nat} (N : Nd W d j) : Sz 60 (N.r * N.p) := N.rs.mul N.ps (by decide)
def Nd.share {W : Web} {d j : Nat} (N : Nd W d j) : Rat := (N.r * N.p - N.lo) / (N.hi - N.lo)
theorem Nd.shs {W : Web} {d j : Nat} (N : Nd W d j) : Sz 95 N.share := by
  have h1 : Sz 72 (N.r * N.p - N.lo) := N.gs.sub N.los (by decide)
  have h2 : Sz 23 (N.hi - N.lo) := N.his.sub N.los (by decide)
  have h3 : N.lo < N.hi := N.ud.2.2.2.2
  exact h1.div h2 (by grind) (by decide)
def spShare (K : PySem.W.Frag) : Sp := sp3 fun x y z H Q => ∃ M W n, ∃ (d j : Nat) (N : Nd W d j), Lat K H x M W n ∧ y = .int (d : Nat) ∧ z = .int (j : Nat) ∧ d < n ∧ ∀ v H', Same H H' → Am K H' v N.share → Q v H'
theorem m_Lattice_share (T : Tx P w K mg base) : Met P w K mg base 5 (He.ga K "Lattice") "share" (spShare K) [] := by
  refine mkM T.cl_Lattice T.me_Lattice_share T.f_Lattice_share sc_Lattice_share len3 (fun _ _ _ _ _ _ us hl => match us, hl with | [_, _, _], _ => rfl) fun cdv A0 outer s0 H vs Q E hr h => ?_
  obtain ⟨_, _, _, rfl, M, W, n, d, j, N, hL, rfl, rfl, hd, q⟩ := h
  obtain ⟨a, rfl, ⟨dx, PA, RA, SA, ha, mA, hW⟩, ok⟩ := id hL
  refine ⟨_, (pss_cons (ps_asg (pe_mt (m_Lattice_sides T) hr (by omega) (pv 0) (pa_cons (pv 1) (pa_cons (pv 2) pa_nil))) (pg_tup rfl (pgs_cons (pg_name (i := 3) sc_Lattice_share.nd rfl (by first | exact Or.inl rfl | exact Or.inr rfl)) (pgs_cons (pg_name (i := 4) sc_Lattice_share.nd rfl (by first | exact Or.inl rfl | exact Or.inr rfl)) (pgs_cons (pg_name (i := 5) sc_Lattice_share.nd rfl (by first | exact Or.inl rfl | exact Or.inr rfl)) pgs_nil)))))
        (pss_one (ps_ret (pe_c (c_by T) hr (by omega) rfl (pa_cons (pe_c (c_minus T) hr (by omega) rfl (pa_cons (pv 3) (pa_cons (pv 5) pa_nil))) (pa_cons (pe_c (c_minus T) hr (by omega) rfl (pa_cons (pv 4) (pa_cons (pv 5) pa_nil))) pa_nil)))))), ?_⟩
  refine ⟨_, rfl, a, dx, _, rfl, ha, rfl, _, rfl, _, rfl, _, _, _, rfl, M, W, n, d, j, N, hL, rfl, rfl, hd, fun t g h l H1 e1 ht mg' mh ml => ?_⟩
  have h3 : N.lo < N.hi := N.ud.2.2.2.2
  refine ⟨t, _, rfl, ht, rfl, _, _, rfl, _, _, rfl, _, _, rfl, rfl, ?_⟩
  refine ⟨_, rfl, _, rfl, _, _, rfl, _, _, mg', ml, N.gs.mono (by decide), N.los.mono (by decide), trivial, fun v2 H2 e2 m2 => ?_⟩
  refine ⟨_, rfl, _, rfl, _, _, rfl, _, _, mh.s e2, ml.s e2, N.his.mono (by decide), N.los.mono (by decide), trivial, fun v3 H3 e3 m3 => ?_⟩
  refine ⟨_, _, rfl, _, _, m2.s e3, m3, (N.gs.sub N.los (k := 72) (by decide)).mono (by decide), (N.his.sub N.los (k := 23) (by decide)).mono (by decide), by grind, fun v4 H4 e4 m4 => q v4 H4 (((e1.trans e2).trans e3).trans e4) m4⟩
def spWin (K : PySem.W.Frag) : Sp := sp1 fun x H Q => ∃ M W n, Lat K H x M W n ∧ n ≤ 3 ∧ ∀ H', Same H H' → Q .non H'
theorem m_Lattice_win (T : Tx P w K mg base) : Met P w K mg base 5 (He.ga K "Lattice") "win" (spWin K) [] := by
  refine mkM T.cl_Lattice T.me_Lattice_win T.f_Lattice_win sc_Lattice_win len1 (fun _ _ _ _ _ _ us hl => match us, hl with | [_], _ => rfl) fun cdv A0 outer s0 H vs Q E hr h => ?_
  obtain ⟨_, rfl, M, W, n, hL, hn, q⟩ := h
  obtain ⟨a, rfl, ⟨dx, PA, RA, SA, ha, mA, ⟨pvs, hP, _, aP⟩, _⟩, ok⟩ := id hL
  refine ⟨_, (pss_cons (ps_for PassesOwn.never rfl (pi_range1 (by rfl) T.b_range (pa_cons (pe_mt0 (m_Lattice_last T) hr (by omega) (pv 0)) pa_nil)) (pg_name (i := 1) sc_Lattice_win.nd rfl (by first | exact Or.inl rfl | exact Or.inr rfl)) (pss_one (ps_for PassesOwn.never rfl (pi_range1 (by rfl) T.b_range (pa_cons (pe_mt (m_Lattice_many T) hr (by omega) (pv 0) (pa_cons (pv 1) pa_nil)) pa_nil)) (pg_name (i := 2) sc_Lattice_win.nd rfl (by first | exact Or.inl rfl | exact Or.inr rfl)) (pss_cons (ps_asg (pe_mt (m_Lattice_sides T) hr (by omega) (pv 0) (pa_cons (pv 1) (pa_cons (pv 2) pa_nil))) (pg_tup rfl (pgs_cons (pg_name (i := 3) sc_Lattice_win.nd rfl (by first | exact Or.inl rfl | exact Or.inr rfl)) (pgs_cons (pg_name (i := 4) sc_Lattice_win.nd rfl (by first | exact Or.inl rfl | exact Or.inr rfl)) (pgs_cons (pg_name (i := 5) sc_Lattice_win.nd rfl (by first | exact Or.inl rfl | exact Or.inr rfl)) pgs_nil)))))
        (pss_cons (ps_set (i := 6) sc_Lattice_win.nd rfl (by first | exact Or.inl rfl | exact Or.inr rfl) (pe_ix ix_list (pe_ix ix_list (pe_fld (pv 0) rfl) (pv 1) (fun _ _ => rfl)) (pv 2) (fun _ _ => rfl)))
        (pss_cons (ps_if (pt_not (pt_val (pe_c (c_less T) hr (by omega) rfl (pa_cons (pv 5) (pa_cons (pv 3) pa_nil))))) (pss_one (ps_ret (pe_tup (pa_cons (pv 1) (pa_cons (pv 2) (pa_cons (pe_gc rfl T.c_ONE) (pa_cons (pe_c (c_minus T) hr (by omega) rfl (pa_cons (pe_gc rfl T.c_NOUGHT) (pa_cons (pv 6) pa_nil))) pa_nil))))))) pss_nil)
        (pss_one (ps_if (pt_not (pt_val (pe_c (c_less T) hr (by omega) rfl (pa_cons (pv 3) (pa_cons (pv 4) pa_nil))))) (pss_one (ps_ret (pe_tup (pa_cons (pv 1) (pa_cons (pv 2) (pa_cons (pe_c (c_minus T) hr (by omega) rfl (pa_cons (pe_gc rfl T.c_NOUGHT) (pa_cons (pe_gc rfl T.c_ONE) pa_nil))) (pa_cons (pv 6) pa_nil))))))) pss_nil))))))))
        (pss_one (ps_ret pe_non))), ?_⟩
  have lP := ok.1.len
  refine ⟨_, rfl, a, dx, _, rfl, ha, rfl, _, rfl, M, W, n, hL, _, rfl, by omega, by omega, for_it (n := ((n : Nat) : Int).toNat) walk_range (fun i σ H' => (∃ x1 x2 x3 x4 x5 x6, σ = [some (.ref a), x1, x2, x3, x4, x5, x6]) ∧ Same H H') ⟨⟨_, _, _, _, _, _, rfl⟩, fun _ _ h => h⟩ (fun _ _ _ _ _ => trivial) ?_ fun σ H' ⟨_, e⟩ => q H' e⟩
  rintro i _ _ _ H1 hi ⟨⟨x1, x2, x3, x4, x5, x6, rfl⟩, e1⟩ ⟨rfl, rfl⟩
  have hi' : i < n := by omega
  have hP0 := List.getElem?_eq_getElem (show i < W.ps.length by omega)
  have r8 := (ok.1.row hP0).1
  have z0 : (0 : Int) + (i : Int) = (i : Int) := by omega
  obtain ⟨v, hv, ⟨b, vs, rfl, hb, _, am⟩⟩ := aP.at_ hP0
  refine ⟨_, rfl, a, dx, _, rfl, e1 _ _ ha, rfl, _, rfl, _, _, rfl, M, W, n, i, _, hL.s e1, congrArg V.int z0, hP0, _, rfl, by omega, by omega, for_it (n := ((W.ps[i].length : Nat) : Int).toNat) walk_range (fun j σ H' => (∃ x2 x3 x4 x5 x6, σ = [some (.ref a), some (.int (0 + (i : Int))), x2, x3, x4, x5, x6]) ∧ Same H H') ⟨⟨_, _, _, _, _, rfl⟩, e1⟩ (fun _ _ _ _ _ => trivial) ?_ fun σ H' ⟨⟨_, _, _, _, _, h⟩, e⟩ => ⟨⟨_, _, _, _, _, _, h⟩, e⟩⟩
  rintro j _ _ _ H2 hj ⟨⟨x2, x3, x4, x5, x6, rfl⟩, e2⟩ ⟨rfl, rfl⟩
  have hp := List.getElem?_eq_getElem (show j < W.ps[i].length by omega)
  obtain ⟨N, hN, hNp⟩ := ok.nd hi' hP0 hp
  have y0 : (0 : Int) + (j : Int) = (j : Int) := by omega
  obtain ⟨v2, hv2, m2⟩ := am.at_ hp
  refine ⟨_, rfl, a, dx, _, rfl, e2 _ _ ha, rfl, _, rfl, _, rfl, _, _, _, rfl, M, W, n, i, j, N, hL.s e2, congrArg V.int z0, congrArg V.int y0, hi', fun t g h l H3 e3 ht mg' mh ml => ?_⟩
  have e23 := e2.trans e3
  refine ⟨t, _, rfl, ht, rfl, _, _, rfl, _, _, rfl, _, _, rfl, rfl, ?_⟩
  refine ⟨_, rfl, a, _, dx, _, _, rfl, e23 _ _ ha, T.cl_Lattice, T.na_Lattice_prices, rfl, _, rfl, PA, pvs, _, _, rfl, rfl, SqL.of (e23 _ _ hP), at_of (j := i) z0 hv, _, rfl, b, vs, _, _, rfl, rfl, SqL.of (e23 _ _ hb), at_of (j := j) y0 hv2, ?_⟩
  refine ⟨_, rfl, _, rfl, _, _, rfl, _, _, ml, mg', N.los.mono (by decide), N.gs.mono (by decide), _, rfl, notF N.l ?_⟩
  exact ⟨_, rfl, _, rfl, _, _, rfl, _, _, mg', mh, N.gs.mono (by decide), N.his.mono (by decide), _, rfl, notF N.h ⟨⟨_, _, _, _, _, rfl⟩, e23⟩⟩
end
end K37
set_option Elab.async false
set_option linter.all false
set_option maxRecDepth 100000
set_option maxHeartbeats 4000000
namespace K37
open PySem PySem.Spec PyProof.Rows L2
open C8 (Cal Met Mak CalAt pe_c pe_mt pe_mt0 pe_mk pe_gc tCut pss_cut)
section
variable {P : Program} {w : World} {K : PySem.W.Frag} {mg : Str → Option Value} {base : Heap}
/-! ### the tables -/
theorem kd_of (T : Tx P w K mg base) (i : Nat) {t : He.Tab} (h : ts[i]? = some t) {kvs : List (Str × He.Dv)} (b : He.valsB K (t.1 K) kvs = true) {q : Str × He.Dv} (hq : q ∈ kvs) : KDct K w (t.1 K) q.1 (q.2.v K) := by
  obtain ⟨es, n, D⟩ := T.t.tab i h
  obtain ⟨u, e, r⟩ := He.valsB_ok b hq
  exact ⟨es, n, u, D.at_, D.lit, e, r⟩
theorem Tx.ex4 (T : Tx P w K mg base) : tupA K (He.ga K "NOUGHT") [.int 0, .int 1] = true ∧ tupA K (He.ga K "ONE") [.int 1, .int 1] = true ∧ tupA K (He.ga K "NONE") [.str "none"] = true ∧ He.valsB K (He.ga K "VALUES") kv_VALUES = true ∧ He.valsB K (He.ga K "NOTES") kv_NOTES = true ∧ He.valsB K (He.ga K "PAIRS") kv_PAIRS = true ∧ He.valsB K (He.ga K "WAYS") kv_WAYS = true ∧
    tupA K (kwAd ("turned", none) "answers" K) [] = true ∧ tupA K (kwAd ("Machine", some "at") "answers" K) [] = true ∧ tupA K (kwAd ("Machine", some "ahead") "answers" K) [] = true ∧ tupA K (kwAd ("Worth", some "plan") "answers" K) [] = true ∧ tupA K (kwAd ("Worth", some "loss") "answers" K) [] = true := by
  have h := T.more
  unfold ex at h
  obtain ⟨h1, h⟩ := He.ba h
  obtain ⟨h2, h⟩ := He.ba h
  obtain ⟨h3, h⟩ := He.ba h
  obtain ⟨h4, h⟩ := He.ba h
  obtain ⟨h5, h⟩ := He.ba h
  obtain ⟨h6, h⟩ := He.ba h
  obtain ⟨h7, h⟩ := He.ba h
  obtain ⟨h8, h⟩ := He.ba h
  obtain ⟨h9, h⟩ := He.ba h
  obtain ⟨h10, h⟩ := He.ba h
  obtain ⟨h11, h12⟩ := He.ba h
  exact ⟨h1, h2, h3, h4, h5, h6, h7, h8, h9, h10, h11, h12⟩
theorem Tx.kdV (T : Tx P w K mg base) {q : Str × He.Dv} (hq : q ∈ kv_VALUES) : KDct K w (He.ga K "VALUES") q.1 (q.2.v K) := kd_of T 0 rfl T.ex4.2.2.2.1 hq
theorem Tx.kdN (T : Tx P w K mg base) {q : Str × He.Dv} (hq : q ∈ kv_NOTES) : KDct K w (He.ga K "NOTES") q.1 (q.2.v K) := kd_of T 1 rfl T.ex4.2.2.2.2.1 hq
theorem Tx.kdP (T : Tx P w K mg base) {q : Str × He.Dv} (hq : q ∈ kv_PAIRS) : KDct K w (He.ga K "PAIRS") q.1 (q.2.v K) := kd_of T 2 rfl T.ex4.2.2.2.2.2.1 hq
theorem Tx.kdW (T : Tx P w K mg base) {q : Str × He.Dv} (hq : q ∈ kv_WAYS) : KDct K w (He.ga K "WAYS") q.1 (q.2.v K) := kd_of T 3 rfl T.ex4.2.2.2.2.2.2.1 hq
theorem Tx.nought (T : Tx P w K mg base) (H : Hp) : Am K H (.ref (He.ga K "NOUGHT")) 0 := ⟨_, rfl, tupA_ok T.ex4.1 H⟩
theorem Tx.one (T : Tx P w K mg base) (H : Hp) : Am K H (.ref (He.ga K "ONE")) 1 := ⟨_, rfl, tupA_ok T.ex4.2.1 H⟩
theorem Tx.none_ (T : Tx P w K mg base) (H : Hp) : SqT K H (He.ga K "NONE") [.str "none"] := tupA_ok T.ex4.2.2.1 H
/-! ### a local name that holds one of several defs -/
def tCallR (i : Nat) (S : Addr → Sp → Prop) (t : TA) : TE := fun σ H Q => ∃ f sp, σ[i]? = some (some (.ref f)) ∧ S f sp ∧ t σ H fun vs H1 => sp vs H1 Q C8.E0
theorem pe_callR {X : Cx} {k j i : Nat} {x : Str} {p pos : Pos} {e : Expr} {es : List Expr} {t : TA} {S : Addr → Sp → Prop} (A : ∀ f sp, S f sp → CalAt X.prog X.w X.K X.mg X.base k f sp) (hr : Room j X.A) (hk : k ≤ j) (hN : X.N[i]? = some x) (hv : Vis X.env.scope x) (ha : PA X (e :: es) t)
    (hdb : (x == ("__debug__" : Str)) = false := by decide) (hcd : (x == ("__classdict__" : Str)) = false := by decide)
    (he : starEach (e :: es) X.env = (false, eval e X.env) :: starEach es X.env := by rfl) (hpl : (backTo pos (starEach es X.env)).any (·.1) = false := by rfl) : PE X (.Call (.Name x p) (e :: es) [] pos) (tCallR i S t) := by
  refine ⟨fun pins s σ H Q I h => ?_⟩
  obtain ⟨f, sp, hs, hS, ht⟩ := h
  obtain ⟨fd, ps, F, kp, b⟩ := (A f sp hS).ex
  refine (pe_callL (i := i) (f := f) (sp := sp) (dvs := []) (E := C8.E0) F (hr.mono hk) hN hv kp b .nil C8.pass0 ha hdb hcd he hpl).run pins s σ H Q I ⟨hs, ?_⟩
  have e0 : (fun (vs : List V) (H1 : Hp) => sp (vs ++ []) H1 Q C8.E0) = fun vs H1 => sp vs H1 Q C8.E0 := by
    funext vs H1
    rw [List.append_nil]
  show t σ H (fun vs H1 => sp (vs ++ []) H1 Q C8.E0)
  rw [e0]
  exact ht
theorem at_of_cal {k : Nat} {x : Str} {sp : Sp} {f : Addr} (c : Cal P w K mg base k x sp []) (g : mg x = some (.ref f)) : CalAt P w K mg base k f sp := by
  obtain ⟨f', fd, ps, ds, F, hm, kp, b, d⟩ := c.ex
  have e := hm.symm.trans g
  cases e
  cases d
  exact ⟨fd, ps, F, kp, b⟩
/-! ### better, worse, value_at -/
theorem c_better (T : Tx P w K mg base) : Cal P w K mg base 2 "better" (spBin better (fun _ _ => True) K) [] := by
  refine mkC T.f_better T.g_better sc_better len2 (fun _ _ _ _ _ _ us hl => match us, hl with | [_, _], _ => rfl) fun cdv A0 outer s0 H vs Q E hr h => ?_
  obtain ⟨x, y, rfl, p, q, hx, hy, s1, s2, _, k⟩ := h
  refine ⟨_, (pss_one (ps_ret (pe_ifExp (pt_val (pe_c (c_less T) hr (by omega) rfl (pa_cons (pv 0) (pa_cons (pv 1) pa_nil)))) (pv 1) (pv 0)))), ?_⟩
  refine ⟨_, rfl, _, rfl, _, _, rfl, p, q, hx, hy, s1, s2, _, rfl, ite2 (fun hc => ?_) (fun hc => ?_)⟩
  · exact ⟨_, rfl, k y H (fun _ _ h => h) (by show Am K H y (if p < q then q else p); rw [if_pos (of_decide_eq_true hc)]; exact hy)⟩
  · exact ⟨_, rfl, k x H (fun _ _ h => h) (by show Am K H x (if p < q then q else p); rw [if_neg (fun z => hc (decide_eq_true z))]; exact hx)⟩
theorem c_worse (T : Tx P w K mg base) : Cal P w K mg base 2 "worse" (spBin worse (fun _ _ => True) K) [] := by
  refine mkC T.f_worse T.g_worse sc_worse len2 (fun _ _ _ _ _ _ us hl => match us, hl with | [_, _], _ => rfl) fun cdv A0 outer s0 H vs Q E hr h => ?_
  obtain ⟨x, y, rfl, p, q, hx, hy, s1, s2, _, k⟩ := h
  refine ⟨_, (pss_one (ps_ret (pe_ifExp (pt_val (pe_c (c_less T) hr (by omega) rfl (pa_cons (pv 0) (pa_cons (pv 1) pa_nil)))) (pv 0) (pv 1)))), ?_⟩
  refine ⟨_, rfl, _, rfl, _, _, rfl, p, q, hx, hy, s1, s2, _, rfl, ite2 (fun hc => ?_) (fun hc => ?_)⟩
  · exact ⟨_, rfl, k x H (fun _ _ h => h) (by show Am K H x (if p < q then p else q); rw [if_pos (of_decide_eq_true hc)]; exact hx)⟩
  · exact ⟨_, rfl, k y H (fun _ _ h => h) (by show Am K H y (if p < q then p else q); rw [if_neg (fun z => hc (decide_eq_true z))]; exact hy)⟩
def Wd.nm : Wd → Str | .plus => "plus" | .minus => "minus" | .best => "better" | .least => "worse"
def Ways (K : PySem.W.Frag) (f : Addr) (sp : Sp) : Prop := ∃ v : Wd, sp = spBin v.op (fun _ _ => True) K ∧ f = He.ga K v.nm
theorem calAt_mono {k k' : Nat} {f : Addr} {sp : Sp} (c : CalAt P w K mg base k f sp) (h : k ≤ k') : CalAt P w K mg base k' f sp := by
  obtain ⟨fd, ps, F, kp, b⟩ := c.ex
  exact ⟨fd, ps, F.mono h, kp, b⟩
theorem ways_ok (T : Tx P w K mg base) : ∀ f sp, Ways K f sp → CalAt P w K mg base 3 f sp := by
  rintro f sp ⟨v, rfl, rfl⟩
  cases v with
  | plus => exact at_of_cal (c_plus T) T.g_plus
  | minus => exact at_of_cal (c_minus T) T.g_minus
  | best => exact calAt_mono (at_of_cal (c_better T) T.g_better) (by decide)
  | least => exact calAt_mono (at_of_cal (c_worse T) T.g_worse) (by decide)
def spVal (K : PySem.W.Frag) (d : Nat) : Sp := sp2 fun x y H Q => ∃ (u : Vl) (p : Rat), u.Is K H x ∧ u.Ok d ∧ Am K H y p ∧ Sz 11 p ∧ ∀ v H', Same H H' → Am K H' v (u.eval p) → Q v H'
theorem bd_le : ∀ d, d ≤ 5 → bd d ≤ 1000 := by decide
theorem str_ne {a b : Str} (h : a ≠ b) : V.str a ≠ V.str b := fun z => h (by injection z)
theorem wd_ne (v : Wd) : v.s ≠ "price" ∧ v.s ≠ "coin" ∧ v.s ≠ "of" := by cases v <;> exact ⟨by decide, by decide, by decide⟩
theorem c_val_step (T : Tx P w K mg base) (d : Nat) (hd : d ≤ 5) (ih : Cal P w K mg base (d + 3) "value_at" (spPre (spVal K) d) []) : Cal P w K mg base (d + 4) "value_at" (spVal K d) [] := by
  refine mkC T.f_value_at T.g_value_at sc_value_at (show ∀ vs H Q E, spVal K d vs H Q E → vs.length = 2 from len2) (fun _ _ _ _ _ _ us hl => match us, hl with | [_, _], _ => rfl) fun cdv A0 outer s0 H vs Q E hr h => ?_
  obtain ⟨_, _, rfl, u, p, hu, ou, hp, sp, q⟩ := h
  refine ⟨_, (pss_cons (ps_if (pt_cmpR op_eq (pe_ix ix_tup (pv 0) pe_int (fun _ _ => rfl)) pe_str (nomark _)) (pss_one (ps_ret (pv 1))) pss_nil)
        (pss_cons (ps_if (pt_cmpR op_eq (pe_ix ix_tup (pv 0) pe_int (fun _ _ => rfl)) pe_str (nomark _)) (pss_one (ps_ret (pe_ix ix_tup (pv 0) pe_int (fun _ _ => rfl)))) pss_nil)
        (pss_cons (ps_if (pt_cmpR op_eq (pe_ix ix_tup (pv 0) pe_int (fun _ _ => rfl)) pe_str (nomark _)) (pss_one (ps_ret (pe_c (c_times T) hr (by omega) rfl (pa_cons (pe_ix ix_tup (pv 0) pe_int (fun _ _ => rfl)) (pa_cons (pe_c ih hr (by omega) rfl (pa_cons (pe_ix ix_tup (pv 0) pe_int (fun _ _ => rfl)) (pa_cons (pv 1) pa_nil))) pa_nil))))) pss_nil)
        (pss_cons (ps_set (i := 2) sc_value_at.nd rfl (by first | exact Or.inl rfl | exact Or.inr rfl) (pe_ix ix_kdict (pe_gc rfl T.c_PAIRS) (pe_ix ix_tup (pv 0) pe_int (fun _ _ => rfl)) (fun _ _ => rfl)))
        (pss_one (ps_ret (pe_callR (i := 2) (ways_ok T) hr (by omega) rfl (Or.inl rfl) (pa_cons (pe_c ih hr (by omega) rfl (pa_cons (pe_ix ix_tup (pv 0) pe_int (fun _ _ => rfl)) (pa_cons (pv 1) pa_nil))) (pa_cons (pe_c ih hr (by omega) rfl (pa_cons (pe_ix ix_tup (pv 0) pe_int (fun _ _ => rfl)) (pa_cons (pv 1) pa_nil))) pa_nil))))))))), ?_⟩
  have sz : ∀ {u : Vl} {e : Nat}, e ≤ 5 → u.Ok e → Sz 3999 (u.eval p) := fun h o => (Vl.sz sp o).mono (Nat.le_trans (bd_le _ h) (by decide))
  cases u with
  | price =>
    obtain ⟨a, rfl, t⟩ := hu
    exact ⟨_, rfl, _, _, _, _, rfl, rfl, t, at0, rfl, _, rfl, decT rfl ⟨_, rfl, q _ H (fun _ _ h => h) hp⟩⟩
  | coin r =>
    obtain ⟨a, x, rfl, t, m⟩ := hu
    exact ⟨_, rfl, _, _, _, _, rfl, rfl, t, at0, rfl, _, rfl, decF (str_ne (by decide)) ⟨_, rfl, _, _, _, _, rfl, rfl, t, at0, rfl, _, rfl, decT rfl ⟨_, rfl, _, _, _, _, rfl, rfl, t, at1, q _ H (fun _ _ h => h) m⟩⟩⟩
  | of r u =>
    obtain ⟨a, x, y, rfl, t, m, i⟩ := hu
    obtain ⟨e, rfl, sr, oe⟩ := ou
    refine ⟨_, rfl, _, _, _, _, rfl, rfl, t, at0, rfl, _, rfl, decF (str_ne (by decide)) ⟨_, rfl, _, _, _, _, rfl, rfl, t, at0, rfl, _, rfl, decF (str_ne (by decide)) ⟨_, rfl, _, _, _, _, rfl, rfl, t, at0, rfl, _, rfl, decT rfl ?_⟩⟩⟩
    refine ⟨_, rfl, _, _, _, _, rfl, rfl, t, at1, _, rfl, _, _, _, _, rfl, rfl, t, at2, _, rfl, _, _, rfl, u, p, i, oe, hp, sp, fun v H1 e1 hv => ?_⟩
    exact ⟨_, _, rfl, r, _, m.s e1, hv, sr.mono (by decide), sz (by omega) oe, trivial, fun v2 H2 e2 h2 => q v2 H2 (e1.trans e2) h2⟩
  | two g u u' =>
    obtain ⟨a, x, y, rfl, t, i, i'⟩ := hu
    obtain ⟨e, rfl, oe, oe'⟩ := ou
    obtain ⟨n1, n2, n3⟩ := wd_ne g
    refine ⟨_, rfl, _, _, _, _, rfl, rfl, t, at0, rfl, _, rfl, decF (str_ne n1) ⟨_, rfl, _, _, _, _, rfl, rfl, t, at0, rfl, _, rfl, decF (str_ne n2) ⟨_, rfl, _, _, _, _, rfl, rfl, t, at0, rfl, _, rfl, decF (str_ne n3) ?_⟩⟩⟩
    obtain ⟨z, hz, kz⟩ : ∃ z, V.ref z = V.ref (He.ga K g.nm) ∧ KDct K w (He.ga K "PAIRS") g.s (.ref z) := by
      cases g with
      | plus => exact ⟨_, rfl, T.kdP (q := ("plus", .glo "plus")) (by simp [kv_PAIRS])⟩
      | minus => exact ⟨_, rfl, T.kdP (q := ("minus", .glo "minus")) (by simp [kv_PAIRS])⟩
      | best => exact ⟨_, rfl, T.kdP (q := ("best", .glo "better")) (by simp [kv_PAIRS])⟩
      | least => exact ⟨_, rfl, T.kdP (q := ("least", .glo "worse")) (by simp [kv_PAIRS])⟩
    injection hz with hz
    refine ⟨_, rfl, _, _, _, _, rfl, rfl, t, at0, _, _, _, rfl, rfl, kz, ?_⟩
    refine ⟨z, _, rfl, ⟨g, rfl, hz⟩, ?_⟩
    refine ⟨_, rfl, _, _, _, _, rfl, rfl, t, at1, _, rfl, _, _, rfl, u, p, i, oe, hp, sp, fun v H1 e1 hv => ?_⟩
    refine ⟨_, rfl, _, _, _, _, rfl, rfl, same_t e1 t, at2, _, rfl, _, _, rfl, u', p, i'.s e1, oe', hp.s e1, sp, fun v2 H2 e2 h2 => ?_⟩
    exact ⟨_, _, rfl, _, _, hv.s e2, h2, sz (by omega) oe, sz (by omega) oe', trivial, fun v3 H3 e3 h3 => q v3 H3 ((e1.trans e2).trans e3) h3⟩
theorem c_val_no (T : Tx P w K mg base) (k : Nat) : Cal P w K mg base (k + 1) "value_at" (fun _ _ _ _ => False) [] :=
  mkC T.f_value_at T.g_value_at sc_value_at (fun _ _ _ _ h => h.elim) (fun _ _ _ _ _ _ us hl => match us, hl with | [_, _], _ => rfl) fun _ _ _ _ _ _ _ _ _ h => h.elim
theorem c_val (T : Tx P w K mg base) : ∀ d, d ≤ 5 → Cal P w K mg base (d + 4) "value_at" (spVal K d) []
  | 0, h => c_val_step T 0 h (c_val_no T 2)
  | d + 1, h => c_val_step T (d + 1) h (c_val T d (by omega))
end
end K37
set_option Elab.async false
set_option linter.all false
set_option maxRecDepth 100000
set_option maxHeartbeats 4000000
namespace K37
open PySem PySem.Spec PyProof.Rows L2
open C8 (Cal Met Mak CalAt pe_c pe_mt pe_mt0 pe_mk pe_gc tCut pss_cut)
/-! ### notes and their texts -/
inductive Nt | none | pay (d : Int) (u : Vl) | now (u : Vl) | both (a b : Nt) | may (o : Str) (k : Int) (s l : Nt)
def Nt.Is (K : PySem.W.Frag) (H : Hp) : Nt → V → Prop
  | .none, v => ∃ a, v = .ref a ∧ SqT K H a [.str "none"]
  | .pay d u, v => ∃ a x, v = .ref a ∧ SqT K H a [.str "pay", .int d, x] ∧ u.Is K H x
  | .now u, v => ∃ a x, v = .ref a ∧ SqT K H a [.str "now", x] ∧ u.Is K H x
  | .both m n, v => ∃ a x y, v = .ref a ∧ SqT K H a [.str "both", x, y] ∧ m.Is K H x ∧ n.Is K H y
  | .may o k s l, v => ∃ a x y, v = .ref a ∧ SqT K H a [.str "may", .str "w", .str o, .int 0, .int k, x, y] ∧ s.Is K H x ∧ l.Is K H y
theorem Vl.Is.tk {K : PySem.W.Frag} {H H' : Hp} (e : TK K H H') : ∀ {u : Vl} {v : V}, u.Is K H v → u.Is K H' v
  | .price, _, ⟨a, r, t⟩ => ⟨a, r, e _ _ t⟩
  | .coin q, _, ⟨a, x, r, t, m⟩ => ⟨a, x, r, e _ _ t, m.tk e⟩
  | .of q u, _, ⟨a, x, y, r, t, m, i⟩ => ⟨a, x, y, r, e _ _ t, m.tk e, i.tk e⟩
  | .two w u u', _, ⟨a, x, y, r, t, i, j⟩ => ⟨a, x, y, r, e _ _ t, i.tk e, j.tk e⟩
theorem Nt.Is.tk {K : PySem.W.Frag} {H H' : Hp} (e : TK K H H') : ∀ {u : Nt} {v : V}, u.Is K H v → u.Is K H' v
  | .none, _, ⟨a, r, t⟩ => ⟨a, r, e _ _ t⟩
  | .pay d u, _, ⟨a, x, r, t, m⟩ => ⟨a, x, r, e _ _ t, m.tk e⟩
  | .now u, _, ⟨a, x, r, t, m⟩ => ⟨a, x, r, e _ _ t, m.tk e⟩
  | .both m n, _, ⟨a, x, y, r, t, i, j⟩ => ⟨a, x, y, r, e _ _ t, i.tk e, j.tk e⟩
  | .may o k s l, _, ⟨a, x, y, r, t, i, j⟩ => ⟨a, x, y, r, e _ _ t, i.tk e, j.tk e⟩
def Nt.Ok : Nt → Nat → Prop
  | .none, _ => True
  | .pay d u, n => 0 ≤ d ∧ d ≤ 60 ∧ ∃ e, n = e + 1 ∧ u.Ok e
  | .now u, n => ∃ e, n = e + 1 ∧ u.Ok e
  | .both a b, n => ∃ e, n = e + 1 ∧ a.Ok e ∧ b.Ok e
  | .may o k s l, n => o.length ≤ 16 ∧ 0 ≤ k ∧ k ≤ 60 ∧ ∃ e, n = e + 1 ∧ s.Ok e ∧ l.Ok e
theorem Vl.Ok.up : ∀ {u : Vl} {n : Nat}, u.Ok n → u.Ok (n + 1)
  | .price, _, _ => trivial
  | .coin _, _, h => h
  | .of _ _, _, ⟨e, z, a, b⟩ => ⟨e + 1, congrArg (· + 1) z, a, b.up⟩
  | .two _ _ _, _, ⟨e, z, a, b⟩ => ⟨e + 1, congrArg (· + 1) z, a.up, b.up⟩
theorem Vl.Ok.mono {u : Vl} {n m : Nat} (h : u.Ok n) (l : n ≤ m) : u.Ok m := by
  induction l with
  | refl => exact h
  | step _ ih => exact ih.up
theorem Nt.Ok.up : ∀ {u : Nt} {n : Nat}, u.Ok n → u.Ok (n + 1)
  | .none, _, _ => trivial
  | .pay _ _, _, ⟨a, b, e, z, c⟩ => ⟨a, b, e + 1, congrArg (· + 1) z, c.up⟩
  | .now _, _, ⟨e, z, c⟩ => ⟨e + 1, congrArg (· + 1) z, c.up⟩
  | .both _ _, _, ⟨e, z, a, b⟩ => ⟨e + 1, congrArg (· + 1) z, a.up, b.up⟩
  | .may _ _ _ _, _, ⟨a, b, c, e, z, d, f⟩ => ⟨a, b, c, e + 1, congrArg (· + 1) z, d.up, f.up⟩
theorem Nt.Ok.mono {u : Nt} {n m : Nat} (h : u.Ok n) (l : n ≤ m) : u.Ok m := by
  induction l with
  | refl => exact h
  | step _ ih => exact ih.up
def amT (q : Rat) : Str := if (q.den : Int) = 1 then toString q.num else ((Str.empty ++ toString q.num) ++ "/") ++ toString (q.den : Int)
def mkT (h : Str) (ts : List Str) : Str := ((h ++ "(") ++ Txt.join ", " ts) ++ ")"
def Vl.text : Vl → Str
  | .price => "price"
  | .coin q => amT q
  | .of q u => mkT "of" [amT q, u.text]
  | .two w u u' => mkT w.s [u.text, u'.text]
def Nt.text : Nt → Str
  | .none => "none"
  | .pay d u => mkT "pay" [toString d, u.text]
  | .now u => mkT "now" [u.text]
  | .both a b => mkT "both" [a.text, b.text]
  | .may o k s l => mkT "may" ["w", o, toString (0 : Int), toString k, s.text, l.text]
inductive Th | amt (q : Rat) | vl (u : Vl) | nt (n : Nt) | int (i : Int) | str (s : Str)
def Th.Is (K : PySem.W.Frag) (H : Hp) : V → Th → Prop
  | v, .amt q => Am K H v q
  | v, .vl u => u.Is K H v
  | v, .nt n => n.Is K H v
  | v, .int i => v = .int i
  | v, .str s => v = .str s
def Th.text : Th → Str | .amt q => amT q | .vl u => u.text | .nt n => n.text | .int i => toString i | .str s => s
def Th.Ok : Th → Nat → Prop | .amt q, _ => Sz 6 q | .vl u, n => u.Ok n | .nt m, n => m.Ok n | .int i, _ => 0 ≤ i ∧ i ≤ 60 | .str s, _ => s.length ≤ 16
def Th.Sg : Th → Nat → Prop | .amt _, c => c = 97 | .vl _, c => c = 118 | .nt _, c => c = 110 | .int _, c => c = 100 | .str _, c => c = 109 ∨ c = 111
theorem Th.Is.tk {K : PySem.W.Frag} {H H' : Hp} (e : TK K H H') : ∀ {v : V} {t : Th}, t.Is K H v → t.Is K H' v
  | _, .amt _, h => Am.tk h e
  | _, .vl _, h => Vl.Is.tk e h
  | _, .nt _, h => Nt.Is.tk e h
  | _, .int _, h => h
  | _, .str _, h => h
/-! ### lengths -/
def tlen (n : Nat) : Nat := 64 * 8 ^ n
theorem tlen64 (n : Nat) : 64 ≤ tlen n := Nat.le_mul_of_pos_right _ (Nat.pow_pos (by decide))
theorem tlen_succ (n : Nat) : tlen (n + 1) = 8 * tlen n := by unfold tlen; rw [Nat.pow_succ]; omega
theorem tlen_le {n : Nat} (h : n ≤ 5) : tlen n ≤ 2097152 := Nat.mul_le_mul_left 64 (Nat.pow_le_pow_right (n := 8) (by decide) h)
theorem str_small : ∀ i : Fin 128, ((toString ((i.val : Int) - 64) : Str)).length ≤ 4 := by decide +kernel
theorem str_len {i : Int} (h0 : -64 < i) (h1 : i < 64) : (toString i : Str).length ≤ 4 := by
  have h := str_small ⟨(i + 64).toNat, by omega⟩
  have e : (((i + 64).toNat : Nat) : Int) - 64 = i := by omega
  rw [e] at h
  exact h
theorem join_len (ys : List Str) : (Txt.join ", " ys).length ≤ (ys.map (·.length)).sum + ys.length * 2 := by
  rw [show Txt.join ", " ys = Str.join ", " ys from StrLaws.glued_eq_join ", " ys]
  cases ys with
  | nil => exact Nat.zero_le _
  | cons a l =>
    rw [len_join_cons]
    have : (", " : Str).length = 2 := rfl
    simp only [List.length_cons, this]
    omega
theorem sum_le {t : Nat} : ∀ {ys : List Str}, (∀ y ∈ ys, y.length ≤ t) → (ys.map (·.length)).sum ≤ ys.length * t
  | [], _ => Nat.zero_le _
  | y :: ys, h => by
    have h1 := h y (by simp)
    have h2 := sum_le (ys := ys) fun z hz => h z (by simp [hz])
    simp only [List.map_cons, List.sum_cons, List.length_cons, Nat.add_mul, Nat.one_mul]
    omega
theorem mk_len {h : Str} {ts : List Str} {e : Nat} (hh : h.length ≤ 16) (hl : ts.length ≤ 6) (ht : ∀ y ∈ ts, y.length ≤ tlen e) : (mkT h ts).length ≤ tlen (e + 1) := by
  have h1 := join_len ts
  have h2 := sum_le ht
  have h3 := tlen64 e
  have h4 : ts.length * tlen e ≤ 6 * tlen e := Nat.mul_le_mul_right _ hl
  have h5 : ("(" : Str).length = 1 := rfl
  have h6 : (")" : Str).length = 1 := rfl
  rw [tlen_succ]
  unfold mkT
  rw [Str.length_append, Str.length_append, Str.length_append, h5, h6]
  omega
theorem am_len {q : Rat} (h : Sz 6 q) : (amT q).length ≤ 16 := by
  have h1 : (toString q.num : Str).length ≤ 4 := str_len (by have := h.1; omega) (by have := h.1; omega)
  have h2 : (toString (q.den : Int) : Str).length ≤ 4 := str_len (by omega) (by have := h.2; omega)
  have h5 : ("/" : Str).length = 1 := rfl
  have h6 : Str.empty.length = 0 := rfl
  unfold amT
  split
  · omega
  · rw [Str.length_append, Str.length_append, Str.length_append, h5, h6]
    omega
theorem all2 {a b : Str} {t : Nat} (ha : a.length ≤ t) (hb : b.length ≤ t) : ∀ y ∈ [a, b], y.length ≤ t := fun y hy => by
  simp at hy
  rcases hy with rfl | rfl <;> assumption
theorem wd_len (v : Wd) : v.s.length ≤ 16 := by cases v <;> decide
theorem Vl.len : ∀ {u : Vl} {n : Nat}, u.Ok n → u.text.length ≤ tlen n
  | .price, n, _ => Nat.le_trans (show (5 : Nat) ≤ 64 by decide) (tlen64 n)
  | .coin q, n, h => Nat.le_trans (Nat.le_trans (am_len h) (by decide)) (tlen64 n)
  | .of q u, _, ⟨e, rfl, a, b⟩ => mk_len (by decide) (by simp) (all2 (Nat.le_trans (Nat.le_trans (am_len a) (by decide)) (tlen64 e)) (Vl.len b))
  | .two v u u', _, ⟨e, rfl, a, b⟩ => mk_len (wd_len v) (by simp) (all2 (Vl.len a) (Vl.len b))
theorem Nt.len : ∀ {u : Nt} {n : Nat}, u.Ok n → u.text.length ≤ tlen n
  | .none, n, _ => Nat.le_trans (show (4 : Nat) ≤ 64 by decide) (tlen64 n)
  | .pay d u, _, ⟨a, b, e, rfl, c⟩ => mk_len (by decide) (by simp) (all2 (Nat.le_trans (str_len (by omega) (by omega)) (Nat.le_trans (by decide) (tlen64 e))) (Vl.len c))
  | .now u, _, ⟨e, rfl, c⟩ => mk_len (by decide) (by simp) (fun y hy => by rw [List.mem_singleton.mp hy]; exact Vl.len c)
  | .both _ _, _, ⟨e, rfl, a, b⟩ => mk_len (by decide) (by simp) (all2 (Nt.len a) (Nt.len b))
  | .may o k s l, _, ⟨a, b, c, e, rfl, d, f⟩ => mk_len (by decide) (by simp) (fun y hy => by
    have t := tlen64 e
    have h1 := Nt.len d
    have h2 := Nt.len f
    have h3 : (toString k : Str).length ≤ 4 := str_len (by omega) (by omega)
    have h4 : (toString (0 : Int) : Str).length ≤ 4 := str_len (by decide) (by decide)
    have h5 : ("w" : Str).length = 1 := rfl
    simp only [List.mem_cons, List.not_mem_nil, or_false] at hy
    rcases hy with rfl | rfl | rfl | rfl | rfl | rfl <;> omega)
theorem Th.len {t : Th} {n : Nat} (h : t.Ok n) : t.text.length ≤ tlen n := by
  have t64 := tlen64 n
  cases t with
  | amt q => exact Nat.le_trans (Nat.le_trans (am_len h) (by decide)) t64
  | vl u => exact Vl.len h
  | nt m => exact Nt.len h
  | int i => exact Nat.le_trans (str_len (by have := h.1; omega) (by have := h.2; omega)) (Nat.le_trans (by decide) t64)
  | str s => exact Nat.le_trans h (Nat.le_trans (by decide) t64)
end K37
set_option Elab.async false
set_option linter.all false
set_option maxRecDepth 100000
set_option maxHeartbeats 4000000
namespace K37
open PySem PySem.Spec PyProof.Rows L2
open C8 (Cal Met Mak CalAt pe_c pe_mt pe_mt0 pe_mk pe_gc tCut pss_cut)
theorem call_str2 {X : Cx} : CallR X (.type "str") (fun xs H Q => (∃ i, xs = [.int i] ∧ i.natAbs.log2 < 1920 ∧ Q (.str (toString i)) H) ∨ (∃ a, xs = [.str a] ∧ Q (.str a) H)) := by
  intro pins s σ H xs us Q I r h
  rcases h with h | h
  · exact call_str_int pins s σ H xs us Q I r h
  · exact SkE.call_str_str pins s σ H xs us Q I r h
theorem walk_zs {K : PySem.W.Frag} {b : Addr} {x : Str} {S : K37Z.Src K b} {ys : List V} (hl : ys.length = x.cps.size) : Walk (K37Z.Itzs x S) ys.length (fun H => S.rd H ys) (YPair (fun i => x.cps[i]?.map fun c => .str ⟨#[c]⟩) (fun i => ys[i]?)) := by
  refine ⟨fun i H hi q => ⟨ys, ys[i], q, hl, by simp [hi]⟩, fun H q => ⟨ys, q, hl, hl⟩, fun i H v H' _ q y => ?_⟩
  obtain ⟨T, c, z, h1, h2, h3, h4, h5⟩ := y
  exact ⟨T, .str ⟨#[c]⟩, z, h1, h2, h3, by simp [h4], h5 ys q⟩
theorem log_small {i : Int} (h : i.natAbs < 2 ^ 64) : i.natAbs.log2 < 1920 := by
  by_cases z : i.natAbs = 0
  · rw [z]; decide
  · exact Nat.lt_of_lt_of_le ((Nat.log2_lt z).mpr h) (by decide)
section
variable {P : Program} {w : World} {K : PySem.W.Frag} {mg : Str → Option Value} {base : Heap}
def spAmT (K : PySem.W.Frag) : Sp := sp1 fun x H Q => ∃ q, Am K H x q ∧ Sz 6 q ∧ Q (.str (amT q)) H
theorem c_amount_text (T : Tx P w K mg base) : Cal P w K mg base 1 "amount_text" (spAmT K) [] := by
  refine mkC T.f_amount_text T.g_amount_text sc_amount_text len1 (fun _ _ _ _ _ _ us hl => match us, hl with | [_], _ => rfl) fun cdv A0 outer s0 H vs Q E hr h => ?_
  obtain ⟨_, rfl, q, ⟨a, rfl, t⟩, sq, k⟩ := h
  refine ⟨_, (pss_cons (ps_asg (pv 0) (pg_tup rfl (pgs_cons (pg_name (i := 1) sc_amount_text.nd rfl (by first | exact Or.inl rfl | exact Or.inr rfl)) (pgs_cons (pg_name (i := 2) sc_amount_text.nd rfl (by first | exact Or.inl rfl | exact Or.inr rfl)) pgs_nil))))
        (pss_one (ps_ret (pe_ifExp (pt_cmpR op_eq (pv 2) pe_int (nomark _)) (pe_callTy call_str_int (by rfl) T.b_str (by decide +kernel) (pa_cons (pv 1) pa_nil)) (pe_joined (.cons (pe_fmt (pv 1)) (.cons pe_str (.cons (pe_fmt (pv 2)) .nil)))))))), ?_⟩
  have l1 : q.num.natAbs.log2 < 1920 := log_small (Nat.lt_of_lt_of_le sq.1 (by decide))
  have l2 : (q.den : Int).natAbs.log2 < 1920 := log_small (Nat.lt_of_lt_of_le (by have := sq.2; simpa using this) (by decide))
  refine ⟨_, rfl, a, _, rfl, t, rfl, _, _, rfl, _, _, rfl, rfl, ?_⟩
  refine ⟨_, rfl, rfl, _, rfl, ite2 (fun hc => ?_) (fun hc => ?_)⟩
  · have h := of_decide_eq_true hc
    injection h with h
    refine ⟨_, rfl, _, rfl, l1, ?_⟩
    unfold amT at k
    rw [if_pos h] at k
    exact k
  · have h : ¬ (q.den : Int) = 1 := fun z => hc (decide_eq_true (congrArg V.int z))
    have al := am_len sq
    unfold amT at k al
    rw [if_neg h] at k al
    have n1 : (toString q.num : Str).length ≤ 4 := str_len (by have := sq.1; omega) (by have := sq.1; omega)
    have n2 : (toString (q.den : Int) : Str).length ≤ 4 := str_len (by omega) (by have := sq.2; omega)
    have h5 : ("/" : Str).length = 1 := rfl
    have h6 : Str.empty.length = 0 := rfl
    have h7 := sizeLine_eq
    refine ⟨_, rfl, .inr ⟨_, rfl, l1, _, rfl, ?_, ?_⟩⟩
    · rw [Str.length_append, h6]; omega
    refine ⟨_, rfl, ?_, ?_⟩
    · rw [Str.length_append, Str.length_append, h6, h5]; omega
    refine ⟨_, rfl, .inr ⟨_, rfl, l2, _, rfl, ?_, k⟩⟩
    omega
/-! ### the texts, by depth -/
def spThing (K : PySem.W.Frag) (n : Nat) : Sp := sp2 fun x y H Q => ∃ (c : Nat) (t : Th), x = .str ⟨#[c]⟩ ∧ t.Is K H y ∧ t.Ok n ∧ t.Sg c ∧ ∀ H', Same H H' → Q (.str t.text) H'
def Sgs (f : Str) (ts : List Th) : Prop := f.cps.size = ts.length ∧ ∀ (i : Nat) t c, ts[i]? = some t → f.cps[i]? = some c → t.Sg c
def spThings (K : PySem.W.Frag) (n : Nat) : Sp := sp3 fun x y z H Q => ∃ (h f : Str) (a : Addr) (vs : List V) (ts : List Th), x = .str h ∧ y = .str f ∧ z = .ref a ∧ H a = some (.lst vs) ∧ All2 (Th.Is K H) vs ts ∧ (ts ≠ [] → ∃ e, n = e + 1 ∧ ∀ t ∈ ts, t.Ok e) ∧ Sgs f ts ∧ h.length ≤ 16 ∧ ts.length ≤ 6 ∧
  ∀ H', Same H H' → Q (.str (if ts = [] then h else mkT h (ts.map Th.text))) H'
theorem c_things_step (T : Tx P w K mg base) (n : Nat) (hn : n ≤ 5) (ih : Cal P w K mg base (3 * n + 2) "thing_text" (spPre (spThing K) n) []) : Cal P w K mg base (3 * n + 3) "things_text" (spThings K n) [] := by
  refine mkC T.f_things_text T.g_things_text sc_things_text (show ∀ vs H Q E, spThings K n vs H Q E → vs.length = 3 from len3) (fun _ _ _ _ _ _ us hl => match us, hl with | [_, _, _], _ => rfl) fun cdv A0 outer s0 H vs Q E hr h => ?_
  obtain ⟨_, _, _, rfl, h, f, a, vs, ts, rfl, rfl, rfl, ha, hts, hok, ⟨sf, sg⟩, hl, tl6, k⟩ := h
  have lv := hts.len
  refine ⟨_, (pss_cons (ps_if (pt_cmpR op_eq (pv 1) pe_str (nomark _)) (pss_one (ps_ret (pv 0))) pss_nil)
        (pss_one (ps_ret (pe_op op_add_str (pe_op op_add_str (pe_op op_add_str (pv 0) pe_str) (pe_join pe_str (pe_lc (own := [("sign", 3), ("one", 4)]) rfl sc_things_text.nd (K37Z.pi_zs (K37Z.srcL K) (by rfl) T.b_zip (pv 1) (pv 2)) (blkOk_by (own := [("sign", 3), ("one", 4)]) (N := ["head", "form", "things", "sign", "one"]) (sc := defScope s_things_text) (by decide +kernel)) (fun _ _ _ _ _ => (pg_tup' (K := K) (n := 2) rfl rfl (pgs_cons (pg_name (i := 3) sc_things_text.nd rfl (by first | exact Or.inl rfl | exact Or.inr rfl)) (pgs_cons (pg_name (i := 4) sc_things_text.nd rfl (by first | exact Or.inl rfl | exact Or.inr rfl)) pgs_nil)))) (fun _ _ _ _ _ => pts_nil) (fun _ _ _ _ _ => (pe_c ih hr (by omega) rfl (pa_cons (pv 3) (pa_cons (pv 4) pa_nil))))))) pe_str)))), ?_⟩
  refine ⟨_, rfl, rfl, _, rfl, ite2 (fun hc => ?_) (fun hc => ?_)⟩
  · have e := of_decide_eq_true hc
    injection e with e
    have h0 : ts = [] := by
      subst e
      exact List.eq_nil_of_length_eq_zero sf.symm
    rw [if_pos h0] at k
    exact ⟨_, rfl, k H fun _ _ h => h⟩
  · have hne : ts ≠ [] := fun z => by
      subst z
      apply hc
      refine decide_eq_true (congrArg V.str ?_)
      cases f with
      | mk c => 
        have : c = #[] := Array.eq_empty_of_size_eq_zero sf
        subst this
        rfl
    obtain ⟨e, rfl, hoks⟩ := hok hne
    rw [if_neg hne] at k
    have hsz := sizeLine_eq
    have l1 : ("(" : Str).length = 1 := rfl
    have l2 : (")" : Str).length = 1 := rfl
    have l3 : (", " : Str).length = 2 := rfl
    have tle := tlen_le (n := e) (by omega)
    have t64 := tlen64 e
    have ht8 : tlen (e + 1) ≤ 2097152 := tlen_le hn
    rw [tlen_succ] at ht8
    have hall : ∀ y ∈ ts.map Th.text, y.length ≤ tlen e := fun y hy => by
      obtain ⟨t, ht, rfl⟩ := List.mem_map.mp hy
      exact Th.len (hoks t ht)
    have hsum := sum_le hall
    have hj := join_len (ts.map Th.text)
    have hmul : (ts.map Th.text).length * tlen e ≤ 6 * tlen e := Nat.mul_le_mul_right _ (by simpa using tl6)
    have hml : (ts.map Th.text).length = ts.length := List.length_map _
    refine ⟨_, rfl, h, "(", rfl, rfl, by omega, ⟨_, rfl⟩, _, rfl, _, rfl, f, a, vs, rfl, rfl, SqL.of ha, fun D nD => lc_it (n := vs.length) (walk_zs (by omega)) (fun k H' => Same H H' ∧ H' D = some (.lst ((ts.take k).map fun t => V.str t.text))) ⟨same_new nD, upd_same⟩ (fun i H' hi h => SqL.of (h.1 _ _ ha)) ?_ ?_⟩
    · rintro j _ H1 _ hj' ⟨e1, hD⟩ ⟨D1, xx, y, rfl, nT, rfl, hx, hy⟩
      obtain ⟨t, ht, it⟩ := hts.get hy
      have hc2 : j < f.cps.size := by omega
      dsimp only at hx
      rw [Array.getElem?_eq_getElem hc2] at hx
      injection hx with hx
      subst hx
      have S1 : Same H1 (upd H1 D1 (.tup [.str ⟨#[f.cps[j]]⟩, y])) := same_new nT
      refine ⟨D1, _, rfl, SqT.of upd_same, rfl, _, _, rfl, _, _, rfl, rfl, rfl, _, rfl, _, rfl, _, _, rfl, _, t, rfl, Th.Is.tk (tkS (e1.trans S1)) it, hoks t (List.mem_of_getElem? ht), sg j t _ ht (Array.getElem?_eq_getElem hc2), fun H2 e2 => ?_⟩
      refine ⟨_, e2 _ _ (S1 _ _ hD), ?_, (e1.trans (S1.trans e2)).trans' nD, ?_⟩
      · rw [List.length_map, List.length_take]; omega
      · rw [upd_same, List.take_add_one, ht]
        simp
    · rintro H1 ⟨e1, hD⟩
      rw [lv, List.take_length] at hD
      refine ⟨_, D, ts.map Th.text, rfl, rfl, .inl (SqL.of (by rw [hD, List.map_map]; rfl)), by rw [l3]; omega, ?_⟩
      refine ⟨_, _, rfl, rfl, ?_, _, _, rfl, rfl, ?_, k H1 e1⟩
      · rw [Str.length_append]; omega
      · rw [Str.length_append, Str.length_append]; omega
def spVT (K : PySem.W.Frag) (n : Nat) : Sp := sp1 fun x H Q => ∃ u : Vl, u.Is K H x ∧ u.Ok n ∧ ∀ H', Same H H' → Q (.str u.text) H'
theorem c_value_text (T : Tx P w K mg base) (n : Nat) (ih : Cal P w K mg base (3 * n + 3) "things_text" (spThings K n) []) : Cal P w K mg base (3 * n + 4) "value_text" (spVT K n) [] := by
  refine mkC T.f_value_text T.g_value_text sc_value_text (show ∀ vs H Q E, spVT K n vs H Q E → vs.length = 1 from len1) (fun _ _ _ _ _ _ us hl => match us, hl with | [_], _ => rfl) fun cdv A0 outer s0 H vs Q E hr h => ?_
  obtain ⟨_, rfl, u, hu, ou, k⟩ := h
  refine ⟨_, (pss_cons (ps_if (pt_cmpR op_eq (pe_ix ix_tup (pv 0) pe_int (fun _ _ => rfl)) pe_str (nomark _)) (pss_one (ps_ret (pe_c (c_amount_text T) hr (by omega) rfl (pa_cons (pe_ix ix_tup (pv 0) pe_int (fun _ _ => rfl)) pa_nil)))) pss_nil)
        (pss_cons (ps_asg (pv 0) (K37R.pg_star rfl (pgs_cons (pg_name (i := 1) sc_value_text.nd rfl (by first | exact Or.inl rfl | exact Or.inr rfl)) (pgs_cons (pg_name (i := 2) sc_value_text.nd rfl (by first | exact Or.inl rfl | exact Or.inr rfl)) pgs_nil))))
        (pss_one (ps_ret (pe_c ih hr (by omega) rfl (pa_cons (pv 1) (pa_cons (pe_ix ix_kdict (pe_gc rfl T.c_VALUES) (pv 1) (fun _ _ => rfl)) (pa_cons (pv 2) pa_nil)))))))), ?_⟩
  cases u with
  | price =>
    obtain ⟨a, rfl, t⟩ := hu
    refine ⟨_, rfl, _, _, _, _, rfl, rfl, t, at0, rfl, _, rfl, decF (str_ne (by decide)) ⟨_, rfl, a, _, _, rfl, t, by simp, fun D nD => ⟨_, _, rfl, _, _, rfl, rfl, ?_⟩⟩⟩
    refine ⟨_, rfl, _, rfl, _, _, _, rfl, rfl, T.kdV (q := ("price", .str "")) (by simp [kv_VALUES]), _, rfl, _, _, _, rfl, "price", "", D, _, [], rfl, rfl, rfl, upd_same, trivial, fun h => absurd rfl h, ⟨rfl, fun i t c h => by simp at h⟩, by decide, by decide, fun H' e => k H' ((same_new nD).trans e)⟩
  | coin q =>
    obtain ⟨a, x, rfl, t, m⟩ := hu
    exact ⟨_, rfl, _, _, _, _, rfl, rfl, t, at0, rfl, _, rfl, decT rfl ⟨_, rfl, _, _, _, _, rfl, rfl, t, at1, _, rfl, q, m, ou, k H fun _ _ h => h⟩⟩
  | of q u =>
    obtain ⟨a, x, y, rfl, t, m, i⟩ := hu
    obtain ⟨e, rfl, sq, ou⟩ := ou
    refine ⟨_, rfl, _, _, _, _, rfl, rfl, t, at0, rfl, _, rfl, decF (str_ne (by decide)) ⟨_, rfl, a, _, _, rfl, t, by simp, fun D nD => ⟨_, _, rfl, _, _, rfl, rfl, ?_⟩⟩⟩
    refine ⟨_, rfl, _, rfl, _, _, _, rfl, rfl, T.kdV (q := ("of", .str "av")) (by simp [kv_VALUES]), _, rfl, _, _, _, rfl, "of", "av", D, _, [.amt q, .vl u], rfl, rfl, rfl, upd_same, ⟨m.s (same_new nD), i.s (same_new nD), trivial⟩, fun _ => ⟨e, rfl, fun t ht => ?_⟩, ⟨rfl, fun i t c h hc => ?_⟩, by decide, by simp, fun H' e => k H' ((same_new nD).trans e)⟩
    · simp at ht
      rcases ht with rfl | rfl
      · exact sq
      · exact ou
    · match i, h, hc with
      | 0, h, hc => cases h; cases hc; rfl
      | 1, h, hc => cases h; cases hc; rfl
  | two g u u' =>
    obtain ⟨a, x, y, rfl, t, i, i'⟩ := hu
    obtain ⟨e, rfl, ou, ou'⟩ := ou
    obtain ⟨n1, n2, n3⟩ := wd_ne g
    refine ⟨_, rfl, _, _, _, _, rfl, rfl, t, at0, rfl, _, rfl, decF (str_ne n2) ⟨_, rfl, a, _, _, rfl, t, by simp, fun D nD => ⟨_, _, rfl, _, _, rfl, rfl, ?_⟩⟩⟩
    have kz : KDct K w (He.ga K "VALUES") g.s (.str "vv") := by
      cases g with
      | plus => exact T.kdV (q := ("plus", .str "vv")) (by simp [kv_VALUES])
      | minus => exact T.kdV (q := ("minus", .str "vv")) (by simp [kv_VALUES])
      | best => exact T.kdV (q := ("best", .str "vv")) (by simp [kv_VALUES])
      | least => exact T.kdV (q := ("least", .str "vv")) (by simp [kv_VALUES])
    refine ⟨_, rfl, _, rfl, _, _, _, rfl, rfl, kz, _, rfl, _, _, _, rfl, g.s, "vv", D, _, [.vl u, .vl u'], rfl, rfl, rfl, upd_same, ⟨i.s (same_new nD), i'.s (same_new nD), trivial⟩, fun _ => ⟨e, rfl, fun t ht => ?_⟩, ⟨rfl, fun i t c h hc => ?_⟩, wd_len g, by simp, fun H' e => k H' ((same_new nD).trans e)⟩
    · simp at ht
      rcases ht with rfl | rfl
      · exact ou
      · exact ou'
    · match i, h, hc with
      | 0, h, hc => cases h; cases hc; rfl
      | 1, h, hc => cases h; cases hc; rfl
theorem Nt.Is.s {K : PySem.W.Frag} {H H' : Hp} {u : Nt} {v : V} (h : u.Is K H v) (e : Same H H') : u.Is K H' v := h.tk (tkS e)
def spNT (K : PySem.W.Frag) (n : Nat) : Sp := sp1 fun x H Q => ∃ u : Nt, u.Is K H x ∧ u.Ok n ∧ ∀ H', Same H H' → Q (.str u.text) H'
theorem c_note_text_ (T : Tx P w K mg base) (n : Nat) (ih : Cal P w K mg base (3 * n + 3) "things_text" (spThings K n) []) : Cal P w K mg base (3 * n + 4) "note_text" (spNT K n) [] := by
  refine mkC T.f_note_text T.g_note_text sc_note_text (show ∀ vs H Q E, spNT K n vs H Q E → vs.length = 1 from len1) (fun _ _ _ _ _ _ us hl => match us, hl with | [_], _ => rfl) fun cdv A0 outer s0 H vs Q E hr h => ?_
  obtain ⟨_, rfl, u, hu, ou, k⟩ := h
  refine ⟨_, (pss_cons (ps_asg (pv 0) (K37R.pg_star rfl (pgs_cons (pg_name (i := 1) sc_note_text.nd rfl (by first | exact Or.inl rfl | exact Or.inr rfl)) (pgs_cons (pg_name (i := 2) sc_note_text.nd rfl (by first | exact Or.inl rfl | exact Or.inr rfl)) pgs_nil))))
        (pss_cons (ps_if (pt_cmpR op_eq (pv 1) pe_str (nomark _)) (pss_cons (ps_asg (pv 2) (K37R.pg_star rfl (pgs_cons (pg_name (i := 3) sc_note_text.nd rfl (by first | exact Or.inl rfl | exact Or.inr rfl)) (pgs_cons (pg_name (i := 4) sc_note_text.nd rfl (by first | exact Or.inl rfl | exact Or.inr rfl)) pgs_nil))))
        (pss_one (ps_ret (pe_c ih hr (by omega) rfl (pa_cons (pv 3) (pa_cons (pe_ifExp (pt_cmp (pc_isN (pe_ix ix_tup (pv 4) pe_int (fun _ _ => rfl)))) pe_str pe_str) (pa_cons (pe_ifExp (pt_cmp (pc_isN (pe_ix ix_tup (pv 4) pe_int (fun _ _ => rfl)))) (pe_slice sl_tup (pv 4) po_none (po_some pe_int)) (pv 4)) pa_nil))))))) pss_nil)
        (pss_one (ps_ret (pe_c ih hr (by omega) rfl (pa_cons (pv 1) (pa_cons (pe_ix ix_kdict (pe_gc rfl T.c_NOTES) (pv 1) (fun _ _ => rfl)) (pa_cons (pv 2) pa_nil)))))))), ?_⟩
  have S : ∀ {D : Addr} {o : HO}, H D = none → Same H (upd H D o) := fun h => same_new h
  cases u with
  | none =>
    obtain ⟨a, rfl, t⟩ := hu
    refine ⟨_, rfl, a, _, _, rfl, t, by simp, fun D nD => ⟨_, _, rfl, _, _, rfl, rfl, ?_⟩⟩
    refine ⟨_, rfl, rfl, _, rfl, decF (str_ne (by decide)) ?_⟩
    refine ⟨_, rfl, _, rfl, _, _, _, rfl, rfl, T.kdN (q := ("none", .str "")) (by simp [kv_NOTES]), _, rfl, _, _, _, rfl, "none", "", D, _, [], rfl, rfl, rfl, upd_same, trivial, fun h => absurd rfl h, ⟨rfl, fun i t c h => by simp at h⟩, by decide, by decide, fun H' e => k H' ((S nD).trans e)⟩
  | pay d u =>
    obtain ⟨a, x, rfl, t, m⟩ := hu
    obtain ⟨d0, d1, e, rfl, ou⟩ := ou
    refine ⟨_, rfl, a, _, _, rfl, t, by simp, fun D nD => ⟨_, _, rfl, _, _, rfl, rfl, ?_⟩⟩
    refine ⟨_, rfl, rfl, _, rfl, decF (str_ne (by decide)) ?_⟩
    refine ⟨_, rfl, _, rfl, _, _, _, rfl, rfl, T.kdN (q := ("pay", .str "dv")) (by simp [kv_NOTES]), _, rfl, _, _, _, rfl, "pay", "dv", D, _, [.int d, .vl u], rfl, rfl, rfl, upd_same, ⟨rfl, m.s (S nD), trivial⟩, fun _ => ⟨e, rfl, fun t ht => ?_⟩, ⟨rfl, fun i t c h hc => ?_⟩, by decide, by simp, fun H' e => k H' ((S nD).trans e)⟩
    · simp at ht
      rcases ht with rfl | rfl
      · exact ⟨d0, d1⟩
      · exact ou
    · match i, h, hc with
      | 0, h, hc => cases h; cases hc; rfl
      | 1, h, hc => cases h; cases hc; rfl
  | now u =>
    obtain ⟨a, x, rfl, t, m⟩ := hu
    obtain ⟨e, rfl, ou⟩ := ou
    refine ⟨_, rfl, a, _, _, rfl, t, by simp, fun D nD => ⟨_, _, rfl, _, _, rfl, rfl, ?_⟩⟩
    refine ⟨_, rfl, rfl, _, rfl, decF (str_ne (by decide)) ?_⟩
    refine ⟨_, rfl, _, rfl, _, _, _, rfl, rfl, T.kdN (q := ("now", .str "v")) (by simp [kv_NOTES]), _, rfl, _, _, _, rfl, "now", "v", D, _, [.vl u], rfl, rfl, rfl, upd_same, ⟨m.s (S nD), trivial⟩, fun _ => ⟨e, rfl, fun t ht => ?_⟩, ⟨rfl, fun i t c h hc => ?_⟩, by decide, by simp, fun H' e => k H' ((S nD).trans e)⟩
    · rw [List.mem_singleton.mp ht]
      exact ou
    · match i, h, hc with
      | 0, h, hc => cases h; cases hc; rfl
  | both m m' =>
    obtain ⟨a, x, y, rfl, t, i, i'⟩ := hu
    obtain ⟨e, rfl, ou, ou'⟩ := ou
    refine ⟨_, rfl, a, _, _, rfl, t, by simp, fun D nD => ⟨_, _, rfl, _, _, rfl, rfl, ?_⟩⟩
    refine ⟨_, rfl, rfl, _, rfl, decF (str_ne (by decide)) ?_⟩
    refine ⟨_, rfl, _, rfl, _, _, _, rfl, rfl, T.kdN (q := ("both", .str "nn")) (by simp [kv_NOTES]), _, rfl, _, _, _, rfl, "both", "nn", D, _, [.nt m, .nt m'], rfl, rfl, rfl, upd_same, ⟨i.s (S nD), i'.s (S nD), trivial⟩, fun _ => ⟨e, rfl, fun t ht => ?_⟩, ⟨rfl, fun i t c h hc => ?_⟩, by decide, by simp, fun H' e => k H' ((S nD).trans e)⟩
    · simp at ht
      rcases ht with rfl | rfl
      · exact ou
      · exact ou'
    · match i, h, hc with
      | 0, h, hc => cases h; cases hc; rfl
      | 1, h, hc => cases h; cases hc; rfl
  | may o kk m m' =>
    obtain ⟨a, x, y, rfl, t, i, i'⟩ := hu
    obtain ⟨lo, k0, k1, e, rfl, ou, ou'⟩ := ou
    refine ⟨_, rfl, a, _, _, rfl, t, by simp, fun D nD => ⟨_, _, rfl, _, _, rfl, rfl, ?_⟩⟩
    refine ⟨_, rfl, rfl, _, rfl, decF (str_ne (by decide)) ?_⟩
    refine ⟨_, rfl, _, rfl, _, _, _, rfl, rfl, T.kdN (q := ("may", .str "moddnn")) (by simp [kv_NOTES]), _, rfl, _, _, _, rfl, "may", "moddnn", D, _, [.str "w", .str o, .int 0, .int kk, .nt m, .nt m'], rfl, rfl, rfl, upd_same, ⟨rfl, rfl, rfl, rfl, i.s (S nD), i'.s (S nD), trivial⟩, fun _ => ⟨e, rfl, fun t ht => ?_⟩, ⟨rfl, fun i t c h hc => ?_⟩, by decide, by simp, fun H' e => k H' ((S nD).trans e)⟩
    · simp at ht
      rcases ht with rfl | rfl | rfl | rfl | rfl | rfl
      · show ("w" : Str).length ≤ 16; decide
      · exact lo
      · exact ⟨by decide, by decide⟩
      · exact ⟨k0, k1⟩
      · exact ou
      · exact ou'
    · match i, h, hc with
      | 0, h, hc => cases h; cases hc; exact .inl rfl
      | 1, h, hc => cases h; cases hc; exact .inr rfl
      | 2, h, hc => cases h; cases hc; rfl
      | 3, h, hc => cases h; cases hc; rfl
      | 4, h, hc => cases h; cases hc; rfl
      | 5, h, hc => cases h; cases hc; rfl
theorem sg_ne {a b : Nat} (h : a ≠ b) : V.str ⟨#[a]⟩ ≠ V.str ⟨#[b]⟩ := fun z => h (by injection z with z; injection z with z; simpa using z)
theorem c_thing_text_ (T : Tx P w K mg base) (n : Nat) (iv : Cal P w K mg base (3 * n + 4) "value_text" (spVT K n) []) (it : Cal P w K mg base (3 * n + 4) "note_text" (spNT K n) []) : Cal P w K mg base (3 * n + 5) "thing_text" (spThing K n) [] := by
  refine mkC T.f_thing_text T.g_thing_text sc_thing_text (show ∀ vs H Q E, spThing K n vs H Q E → vs.length = 2 from len2) (fun _ _ _ _ _ _ us hl => match us, hl with | [_, _], _ => rfl) fun cdv A0 outer s0 H vs Q E hr h => ?_
  obtain ⟨_, _, rfl, c, t, rfl, ht, ot, sg, k⟩ := h
  refine ⟨_, (pss_cons (ps_if (pt_cmpR op_eq (pv 0) pe_str (nomark _)) (pss_one (ps_ret (pe_c iv hr (by omega) rfl (pa_cons (pv 1) pa_nil)))) pss_nil)
        (pss_cons (ps_if (pt_cmpR op_eq (pv 0) pe_str (nomark _)) (pss_one (ps_ret (pe_c it hr (by omega) rfl (pa_cons (pv 1) pa_nil)))) pss_nil)
        (pss_one (ps_ret (pe_ifExp (pt_cmpR op_in_seq (pv 0) (pe_tup (pa_cons pe_str (pa_cons pe_str pa_nil))) (by rfl)) (pe_c (c_amount_text T) hr (by omega) rfl (pa_cons (pv 1) pa_nil)) (pe_callTy call_str2 (by rfl) T.b_str (by decide +kernel) (pa_cons (pv 1) pa_nil))))))), ?_⟩
  cases t with
  | vl u =>
    have e : c = 118 := sg
    subst e
    exact ⟨_, rfl, rfl, _, rfl, decT rfl ⟨_, rfl, _, rfl, u, ht, ot, k⟩⟩
  | nt u =>
    have e : c = 110 := sg
    subst e
    exact ⟨_, rfl, rfl, _, rfl, decF (sg_ne (by decide)) ⟨_, rfl, rfl, _, rfl, decT rfl ⟨_, rfl, _, rfl, u, ht, ot, k⟩⟩⟩
  | amt q =>
    have e : c = 97 := sg
    subst e
    refine ⟨_, rfl, rfl, _, rfl, decF (sg_ne (by decide)) ⟨_, rfl, rfl, _, rfl, decF (sg_ne (by decide)) ⟨_, rfl, by show 2 ≤ sizeLine; decide, fun p np => ?_⟩⟩⟩
    refine ⟨p, _, rfl, .inr (SqT.of upd_same), rfl, rfl, _, rfl, iteT ?_⟩
    exact ⟨_, rfl, _, rfl, q, Am.s ht (same_new np), ot, k _ (same_new np)⟩
  | int i =>
    have e : c = 100 := sg
    subst e
    cases ht
    refine ⟨_, rfl, rfl, _, rfl, decF (sg_ne (by decide)) ⟨_, rfl, rfl, _, rfl, decF (sg_ne (by decide)) ⟨_, rfl, by show 2 ≤ sizeLine; decide, fun p np => ?_⟩⟩⟩
    refine ⟨p, _, rfl, .inr (SqT.of upd_same), rfl, rfl, _, rfl, iteF ?_⟩
    exact ⟨_, rfl, .inl ⟨i, rfl, log_small (by have := ot.1; have := ot.2; omega), k _ (same_new np)⟩⟩
  | str s =>
    cases ht
    have e : c = 109 ∨ c = 111 := sg
    rcases e with rfl | rfl
    · refine ⟨_, rfl, rfl, _, rfl, decF (sg_ne (by decide)) ⟨_, rfl, rfl, _, rfl, decF (sg_ne (by decide)) ⟨_, rfl, by show 2 ≤ sizeLine; decide, fun p np => ?_⟩⟩⟩
      refine ⟨p, _, rfl, .inr (SqT.of upd_same), rfl, rfl, _, rfl, iteF ?_⟩
      exact ⟨_, rfl, .inr ⟨s, rfl, k _ (same_new np)⟩⟩
    · refine ⟨_, rfl, rfl, _, rfl, decF (sg_ne (by decide)) ⟨_, rfl, rfl, _, rfl, decF (sg_ne (by decide)) ⟨_, rfl, by show 2 ≤ sizeLine; decide, fun p np => ?_⟩⟩⟩
      refine ⟨p, _, rfl, .inr (SqT.of upd_same), rfl, rfl, _, rfl, iteF ?_⟩
      exact ⟨_, rfl, .inr ⟨s, rfl, k _ (same_new np)⟩⟩
theorem c_thing_no (T : Tx P w K mg base) (k : Nat) : Cal P w K mg base (k + 1) "thing_text" (fun _ _ _ _ => False) [] :=
  mkC T.f_thing_text T.g_thing_text sc_thing_text (fun _ _ _ _ h => h.elim) (fun _ _ _ _ _ _ us hl => match us, hl with | [_, _], _ => rfl) fun _ _ _ _ _ _ _ _ _ h => h.elim
theorem c_things_ (T : Tx P w K mg base) : ∀ n, n ≤ 5 → Cal P w K mg base (3 * n + 3) "things_text" (spThings K n) []
  | 0, h => c_things_step T 0 h (c_thing_no T 1)
  | n + 1, h => c_things_step T (n + 1) h (c_thing_text_ T n (c_value_text T n (c_things_ T n (by omega))) (c_note_text_ T n (c_things_ T n (by omega))))
theorem c_note_text (T : Tx P w K mg base) : Cal P w K mg base 19 "note_text" (spNT K 5) [] := c_note_text_ T 5 (c_things_ T 5 (Nat.le_refl _))
end
end K37
set_option Elab.async false
set_option linter.all false
set_option maxRecDepth 100000
set_option maxHeartbeats 4000000
namespace K37
open PySem PySem.Spec PyProof.Rows L2
open C8 (Cal Met Mak CalAt pe_c pe_mt pe_mt0 pe_mk pe_gc tCut pss_cut)
def Nt.kids : Nt → List Nt | .both a b => [a, b] | .may _ _ s l => [s, l] | _ => []
def Nt.head : Nt → Str | .none => "none" | .pay _ _ => "pay" | .now _ => "now" | .both _ _ => "both" | .may _ _ _ _ => "may"
def Nt.form : Nt → Str | .none => "" | .pay _ _ => "dv" | .now _ => "v" | .both _ _ => "nn" | .may _ _ _ _ => "moddnn"
/-- what stands behind the head -/
def Nt.tail (n : Nt) (xs : List V) (K : PySem.W.Frag) (H : Hp) : Prop := match n with
  | .none => xs = []
  | .pay d u => ∃ x, xs = [.int d, x] ∧ u.Is K H x
  | .now u => ∃ x, xs = [x] ∧ u.Is K H x
  | .both a b => ∃ x y, xs = [x, y] ∧ a.Is K H x ∧ b.Is K H y
  | .may o k s l => ∃ x y, xs = [.str "w", .str o, .int 0, .int k, x, y] ∧ s.Is K H x ∧ l.Is K H y
theorem Nt.Is.open_ {K : PySem.W.Frag} {H : Hp} {n : Nt} {v : V} (h : n.Is K H v) : ∃ a xs, v = .ref a ∧ SqT K H a (.str n.head :: xs) ∧ n.tail xs K H := by
  cases n with
  | none => obtain ⟨a, r, t⟩ := h; exact ⟨a, [], r, t, rfl⟩
  | pay d u => obtain ⟨a, x, r, t, i⟩ := h; exact ⟨a, _, r, t, x, rfl, i⟩
  | now u => obtain ⟨a, x, r, t, i⟩ := h; exact ⟨a, _, r, t, x, rfl, i⟩
  | both a b => obtain ⟨a, x, y, r, t, i, j⟩ := h; exact ⟨a, _, r, t, x, y, rfl, i, j⟩
  | may o k s l => obtain ⟨a, x, y, r, t, i, j⟩ := h; exact ⟨a, _, r, t, x, y, rfl, i, j⟩
theorem cut1 (x : V) (xs : List V) : cutV (x :: xs) (some 1) none = xs := by
  unfold cutV
  rw [show (1 : Int) = ((1 : Nat) : Int) from rfl, HT.sIx_nat, HT.sIx_none, List.length_cons]
  have e : min 1 (xs.length + 1) = 1 := by omega
  rw [e, List.drop_succ_cons, List.drop_zero, Nat.add_sub_cancel, List.take_length]
theorem cut1_not (x : V) (xs : List V) : ¬ (HT.sIx (x :: xs).length 0 (some 1) = 0 ∧ HT.sIx (x :: xs).length (x :: xs).length none = (x :: xs).length) := fun h => by
  have h1 := h.1
  rw [show (1 : Int) = ((1 : Nat) : Int) from rfl, HT.sIx_nat, List.length_cons] at h1
  omega
section
variable {P : Program} {w : World} {K : PySem.W.Frag} {mg : Str → Option Value} {base : Heap}
theorem kdN_of (T : Tx P w K mg base) (n : Nt) : KDct K w (He.ga K "NOTES") n.head (.str n.form) := by
  cases n with
  | none => exact T.kdN (q := ("none", .str "")) (by simp [kv_NOTES])
  | pay d u => exact T.kdN (q := ("pay", .str "dv")) (by simp [kv_NOTES])
  | now u => exact T.kdN (q := ("now", .str "v")) (by simp [kv_NOTES])
  | both a b => exact T.kdN (q := ("both", .str "nn")) (by simp [kv_NOTES])
  | may o k s l => exact T.kdN (q := ("may", .str "moddnn")) (by simp [kv_NOTES])
def spInner (K : PySem.W.Frag) : Sp := sp1 fun x H Q => ∃ u : Nt, u.Is K H x ∧ ∀ D vs H', Same H H' → H' D = some (.lst vs) → H D = none → All2 (fun v n => Nt.Is K H' n v) vs u.kids → Q (.ref D) H'
theorem tail_len {n : Nt} {xs : List V} {K : PySem.W.Frag} {H : Hp} (h : n.tail xs K H) : xs.length = n.form.cps.size := by
  cases n with
  | none => cases h; rfl
  | pay d u => obtain ⟨_, rfl, _⟩ := h; rfl
  | now u => obtain ⟨_, rfl, _⟩ := h; rfl
  | both a b => obtain ⟨_, _, rfl, _⟩ := h; rfl
  | may o k s l => obtain ⟨_, _, rfl, _⟩ := h; rfl
/-- the notes among what stands behind the head, by their signs -/
def pick : List Nat → List V → List V
  | c :: cs, v :: vs => if c = 110 then v :: pick cs vs else pick cs vs
  | _, _ => []
theorem pick_kids {n : Nt} {xs : List V} {K : PySem.W.Frag} {H : Hp} (h : n.tail xs K H) : All2 (fun v m => Nt.Is K H m v) (pick n.form.cps.toList xs) n.kids := by
  cases n with
  | none => cases h; trivial
  | pay d u => obtain ⟨_, rfl, _⟩ := h; trivial
  | now u => obtain ⟨_, rfl, _⟩ := h; trivial
  | both a b => obtain ⟨_, _, rfl, i, j⟩ := h; exact ⟨i, j, trivial⟩
  | may o k s l => obtain ⟨_, _, rfl, i, j⟩ := h; exact ⟨i, j, trivial⟩
theorem pick_take : ∀ {cs : List Nat} {vs : List V} {k c : Nat} {v : V}, cs[k]? = some c → vs[k]? = some v → pick (cs.take (k + 1)) (vs.take (k + 1)) = if c = 110 then pick (cs.take k) (vs.take k) ++ [v] else pick (cs.take k) (vs.take k)
  | c :: cs, v :: vs, 0, _, _, h1, h2 => by
    cases h1; cases h2
    simp [pick]
  | c :: cs, v :: vs, k + 1, _, _, h1, h2 => by
    have ih := pick_take (cs := cs) (vs := vs) (k := k) h1 h2
    simp only [List.take_succ_cons, pick]
    rw [ih]
    split <;> split <;> simp
  | [], _, _, _, _, h1, _ => by simp at h1
  | _ :: _, [], _, _, _, _, h2 => by simp at h2
theorem pick_len : ∀ {cs : List Nat} {vs : List V}, (pick cs vs).length ≤ vs.length
  | [], [] => Nat.le_refl _
  | [], _ :: _ => Nat.zero_le _
  | _ :: _, [] => Nat.le_refl _
  | c :: cs, v :: vs => by
    have := pick_len (cs := cs) (vs := vs)
    unfold pick
    split <;> simp <;> omega
theorem c_inner (T : Tx P w K mg base) : Cal P w K mg base 1 "inner" (spInner K) [] := by
  refine mkC T.f_inner T.g_inner sc_inner len1 (fun _ _ _ _ _ _ us hl => match us, hl with | [_], _ => rfl) fun cdv A0 outer s0 H vs Q E hr h => ?_
  obtain ⟨_, rfl, u, hu, k⟩ := h
  refine ⟨_, (pss_one (ps_ret (pe_lc (own := [("sign", 1), ("one", 2)]) rfl sc_inner.nd (K37Z.pi_zs (K37Z.srcT K) (by rfl) T.b_zip (pe_ix ix_kdict (pe_gc rfl T.c_NOTES) (pe_ix ix_tup (pv 0) pe_int (fun _ _ => rfl)) (fun _ _ => rfl)) (pe_slice sl_tup (pv 0) (po_some pe_int) po_none)) (blkOk_by (own := [("sign", 1), ("one", 2)]) (N := ["note", "sign", "one"]) (sc := defScope s_inner) (by decide +kernel)) (fun _ _ _ _ _ => (pg_tup' (K := K) (n := 2) rfl rfl (pgs_cons (pg_name (i := 1) sc_inner.nd rfl (by first | exact Or.inl rfl | exact Or.inr rfl)) (pgs_cons (pg_name (i := 2) sc_inner.nd rfl (by first | exact Or.inl rfl | exact Or.inr rfl)) pgs_nil)))) (fun _ _ _ _ _ => (pts_one (pt_cmpR op_eq (pv 1) pe_str (nomark _)))) (fun _ _ _ _ _ => (pv 2))))), ?_⟩
  obtain ⟨a, xs, rfl, t, tl⟩ := hu.open_
  have lx := tail_len tl
  refine ⟨_, rfl, _, _, _, _, rfl, rfl, t, at0, _, _, _, rfl, rfl, kdN_of T u, _, rfl, ?_⟩
  refine ⟨_, rfl, a, _, rfl, t, cut1_not _ _, fun b nb => ?_⟩
  rw [cut1]
  have S1 : Same H (upd H b (.tup xs)) := same_new nb
  refine ⟨_, b, xs, rfl, rfl, SqT.of upd_same, fun D nD => lc_it (n := xs.length) (walk_zs lx) (fun k H' => Same (upd H b (.tup xs)) H' ∧ H' D = some (.lst (pick (u.form.cps.toList.take k) (xs.take k)))) ⟨same_new nD, upd_same⟩ (fun i H' hi h => SqT.of (h.1 _ _ upd_same)) ?_ ?_⟩
  · rintro j _ H1 _ hj ⟨e1, hD⟩ ⟨D1, xx, y, rfl, nT, rfl, hx, hy⟩
    have hc2 : j < u.form.cps.size := by omega
    dsimp only at hx
    rw [Array.getElem?_eq_getElem hc2] at hx
    injection hx with hx
    subst hx
    have S2 : Same H1 (upd H1 D1 (.tup [.str ⟨#[u.form.cps[j]]⟩, y])) := same_new nT
    have pt := pick_take (cs := u.form.cps.toList) (vs := xs) (k := j) (c := u.form.cps[j]) (v := y) (by simp [hc2]) hy
    refine ⟨D1, _, rfl, SqT.of upd_same, rfl, _, _, rfl, _, _, rfl, rfl, rfl, ?_⟩
    refine ⟨_, rfl, rfl, _, rfl, ite2 (fun hc => ?_) (fun hc => ?_)⟩
    · have h := of_decide_eq_true hc
      injection h with h
      injection h with h
      have h2 : (#[u.form.cps[j]] : Array Nat) = #[110] := h
      have h : u.form.cps[j] = 110 := by simpa using h2
      rw [if_pos h] at pt
      refine ⟨_, rfl, _, S2 _ _ hD, Nat.lt_of_le_of_lt pick_len (Nat.lt_of_le_of_lt (show (xs.take j).length ≤ 6 from ?_) (by decide)), (e1.trans S2).trans' nD, ?_⟩
      · have : u.form.cps.size ≤ 6 := by cases u <;> simp only [Nt.form] <;> decide
        rw [List.length_take]
        omega
      · rw [upd_same, pt]
    · have h : ¬ u.form.cps[j] = 110 := fun z => hc (decide_eq_true (by rw [z]; rfl))
      rw [if_neg h] at pt
      exact ⟨e1.trans S2, by rw [S2 _ _ hD, pt]⟩
  · rintro H1 ⟨e1, hD⟩
    have f1 : u.form.cps.toList.take xs.length = u.form.cps.toList := List.take_of_length_le (by simp [lx])
    rw [f1, List.take_length] at hD
    refine k D _ H1 (S1.trans e1) hD (same_none S1 nD) ((pick_kids tl).mono fun _ _ m => Nt.Is.s m (S1.trans e1))
def spUses (K : PySem.W.Frag) (n : Nat) : Sp := sp1 fun x H Q => ∃ u : Nt, u.Is K H x ∧ u.Ok n ∧ ∀ D H', Same H H' → H D = none → H' D = some (.lst []) → Q (.ref D) H'
theorem Nt.Ok.kid {u m : Nt} {n : Nat} (h : u.Ok n) (hm : m ∈ u.kids) : ∃ e, n = e + 1 ∧ m.Ok e := by
  cases u with
  | both a b =>
    obtain ⟨e, z, h1, h2⟩ := h
    simp [Nt.kids] at hm
    rcases hm with rfl | rfl
    · exact ⟨e, z, h1⟩
    · exact ⟨e, z, h2⟩
  | may o k s l =>
    obtain ⟨_, _, _, e, z, h1, h2⟩ := h
    simp [Nt.kids] at hm
    rcases hm with rfl | rfl
    · exact ⟨e, z, h1⟩
    · exact ⟨e, z, h2⟩
  | none => simp [Nt.kids] at hm
  | pay _ _ => simp [Nt.kids] at hm
  | now _ => simp [Nt.kids] at hm
theorem head_ne (u : Nt) : u.head ≠ "use" ∧ u.head ≠ "seen" := by cases u <;> simp only [Nt.head] <;> decide
theorem c_uses_step (T : Tx P w K mg base) (n : Nat) (ih : Cal P w K mg base (n + 1) "uses" (spPre (spUses K) n) []) : Cal P w K mg base (n + 2) "uses" (spUses K n) [] := by
  refine mkC T.f_uses T.g_uses sc_uses (show ∀ vs H Q E, spUses K n vs H Q E → vs.length = 1 from len1) (fun _ _ _ _ _ _ us hl => match us, hl with | [_], _ => rfl) fun cdv A0 outer s0 H vs Q E hr h => ?_
  obtain ⟨_, rfl, u, hu, ou, k⟩ := h
  refine ⟨_, (pss_cons (ps_if (pt_cmpR op_eq (pe_ix ix_tup (pv 0) pe_int (fun _ _ => rfl)) pe_str (nomark _)) (pss_one (ps_ret (pe_lst (pa_cons (pe_ix ix_tup (pv 0) pe_int (fun _ _ => rfl)) pa_nil)))) pss_nil)
        (pss_cons (ps_set (i := 1) sc_uses.nd rfl (by first | exact Or.inl rfl | exact Or.inr rfl) (pe_lst pa_nil))
        (pss_cons (ps_for PassesOwn.never rfl (pi_list (pe_c (c_inner T) hr (by omega) rfl (pa_cons (pv 0) pa_nil))) (pg_name (i := 2) sc_uses.nd rfl (by first | exact Or.inl rfl | exact Or.inr rfl)) (pss_one (ps_expr (pe_bm PySem.F.plainAttrs_list PySem.F.slot_list_extend PySem.F.type_list_extend mt_extend (pv 1) (pa_cons (pe_lc (own := [("name", 3)]) rfl sc_uses.nd (pi_list (pe_c ih hr (by omega) rfl (pa_cons (pv 2) pa_nil))) (blkOk_by (own := [("name", 3)]) (N := ["note", "found", "one", "name"]) (sc := defScope s_uses) (by decide +kernel)) (fun _ _ _ _ _ => (pg_name (i := 3) sc_uses.nd rfl (by first | exact Or.inl rfl | exact Or.inr rfl))) (fun _ _ _ _ _ => (pts_one (pt_cmpR (show OpR _ _ (rIn K true) from op_notIn_seq) (pv 3) (pv 1) (by rfl)))) (fun _ _ _ _ _ => (pv 3))) pa_nil)))))
        (pss_one (ps_ret (pv 1)))))), ?_⟩
  obtain ⟨a, xs, rfl, t, tl⟩ := hu.open_
  refine ⟨_, rfl, _, _, _, _, rfl, rfl, t, at0, rfl, _, rfl, decF (str_ne (head_ne u).1) ⟨by decide, fun F nF => ?_⟩⟩
  have S1 : Same H (upd H F (.lst [])) := same_new nF
  refine ⟨_, rfl, _, rfl, u, hu.s S1, fun D vs H1 e1 hD nD hk => ?_⟩
  have hF1 : H1 F = some (.lst []) := e1 _ _ upd_same
  have S2 := S1.trans e1
  refine ⟨D, rfl, ⟨vs, SqL.of hD⟩, for_it (n := vs.length) (walk_list (xs := vs)) (fun i σ H' => (∃ x2 x3, σ = [some (.ref a), some (.ref F), x2, x3]) ∧ Same H1 H' ∧ Same H H') ⟨⟨_, _, rfl⟩, fun _ _ h => h, S2⟩ (fun i σ H' hi h => SqL.of (h.2.1 _ _ hD)) ?_ ?_⟩
  · rintro i y _ _ H2 hi ⟨⟨x2, x3, rfl⟩, e2, e3⟩ ⟨rfl, hy⟩
    obtain ⟨m, hm, im⟩ := hk.get hy
    obtain ⟨e, rfl, om⟩ := ou.kid (List.mem_of_getElem? hm)
    refine ⟨_, rfl, .inl ⟨rfl, _, SqL.of (e2 _ _ hF1)⟩, _, rfl, _, rfl, m, Nt.Is.s im e2, om, fun D2 H3 e4 nD2 hD2 => ?_⟩
    refine ⟨D2, rfl, ⟨[], SqL.of hD2⟩, fun D3 nD3 => lc_it (n := 0) (walk_list (xs := [])) (fun k H' => H' = upd H3 D3 (.lst [])) rfl (fun i H' hi h => by subst h; exact SqL.of (same_new nD3 _ _ hD2)) (fun i _ _ _ hi => absurd hi (Nat.not_lt_zero i)) ?_⟩
    rintro H4 rfl
    have hF4 : upd H3 D3 (.lst []) F = some (.lst []) := same_new nD3 _ _ (e4 _ _ (e2 _ _ hF1))
    refine ⟨F, D3, [], [], rfl, rfl, hF4, upd_same, by decide, ⟨⟨_, _, rfl⟩, ?_, ?_⟩⟩
    · intro c o h
      by_cases z : c = F
      · subst z
        rw [hF1] at h
        cases h
        rw [upd_same]
        rfl
      · rw [upd_ne z]
        exact same_new nD3 _ _ (e4 _ _ (e2 _ _ h))
    · exact ((e3.trans e4).trans (same_new nD3)).trans' nF
  · rintro _ H2 ⟨⟨x2, x3, rfl⟩, e2, e3⟩
    exact ⟨_, rfl, k F H2 e3 nF (e2 _ _ hF1)⟩
theorem c_uses_no (T : Tx P w K mg base) (k : Nat) : Cal P w K mg base (k + 1) "uses" (fun _ _ _ _ => False) [] :=
  mkC T.f_uses T.g_uses sc_uses (fun _ _ _ _ h => h.elim) (fun _ _ _ _ _ _ us hl => match us, hl with | [_], _ => rfl) fun _ _ _ _ _ _ _ _ _ h => h.elim
theorem c_uses (T : Tx P w K mg base) : ∀ n, Cal P w K mg base (n + 2) "uses" (spUses K n) []
  | 0 => c_uses_step T 0 (c_uses_no T 0)
  | n + 1 => c_uses_step T (n + 1) (c_uses T n)
def spWhole (K : PySem.W.Frag) : Sp := sp1 fun x H Q => ∃ u : Nt, u.Is K H x ∧ u.Ok 5 ∧ ∀ H', Same H H' → Q (.bl true) H'
theorem c_is_whole (T : Tx P w K mg base) : Cal P w K mg base 8 "is_whole" (spWhole K) [] := by
  refine mkC T.f_is_whole T.g_is_whole sc_is_whole len1 (fun _ _ _ _ _ _ us hl => match us, hl with | [_], _ => rfl) fun cdv A0 outer s0 H vs Q E hr h => ?_
  obtain ⟨_, rfl, u, hu, ou, k⟩ := h
  refine ⟨_, (pss_one (ps_ret (pe_cmpR (op_eqD (un64 hr)) (pe_c (c_uses T 5) hr (by omega) rfl (pa_cons (pv 0) pa_nil)) (pe_lst pa_nil) (nomark _)))), ?_⟩
  refine ⟨_, rfl, _, rfl, u, hu, ou, fun D H1 e1 nD hD => ⟨by decide, fun p np => ?_⟩⟩
  exact ⟨.list [], .list [], .lst (SqL.of (same_new np _ _ hD)) .nil, .lst (SqL.of upd_same) .nil, rfl, rfl, k _ (e1.trans (same_new np))⟩
end
end K37
set_option Elab.async false
set_option linter.all false
set_option maxRecDepth 100000
set_option maxHeartbeats 4000000
namespace K37
open PySem PySem.Spec PyProof.Rows L2
open C8 (Cal Met Mak CalAt pe_c pe_mt pe_mt0 pe_mk pe_gc tCut pss_cut)
/-! ### a note lived for a date -/
inductive Rs | ask (o nm : Str) | fin (q : Rat) (n : Nt) (as : List Bool)
def Rs.Is (K : PySem.W.Frag) (H : Hp) : V → Rs → Prop
  | v, .ask o nm => ∃ a, v = .ref a ∧ SqT K H a [.str "ask", .str o, .str nm]
  | v, .fin q n as => ∃ a x y z, v = .ref a ∧ SqT K H a [.str "end", x, y, .ref z] ∧ Am K H x q ∧ n.Is K H y ∧ SqT K H z (as.map V.bl)
def Rs.over (d k : Int) (o : Str) (l : Nt) : Rs → Rs
  | .ask o nm => .ask o nm
  | .fin q m as => if k ≤ d then .fin q m as else .fin q (.may o k m l) as
def Rs.add : Rs → (List Bool → Rs) → Rs
  | .ask o nm, _ => .ask o nm
  | .fin q m as, f => match f as with
    | .ask o nm => .ask o nm
    | .fin q' m' as' => .fin (q + q') (match m with | .none => m' | m => .both m m') as'
def Nt.live (d : Int) (p : Rat) : Nt → List Bool → Rs
  | .none, as => .fin 0 .none as
  | .pay e u, as => if d < e then .fin 0 (.pay e u) as else .fin (if d = e then u.eval p else 0) .none as
  | .now u, as => .fin (u.eval p) .none as
  | .both a b, as => (a.live d p as).add (b.live d p)
  | .may o k s l, as => if 0 ≤ d ∧ d ≤ k then match as with
      | [] => .ask o "w"
      | true :: as => l.live d p as
      | false :: as => (s.live d p as).over d k o l
    else (s.live d p as).over d k o l
def Leaf : Nt → Prop | .none => True | .pay _ u => u.Ok 2 | .now u => u.Ok 2 | _ => False
def Both : Nt → Prop | .both (.now v) s => v.Ok 2 ∧ Leaf s | _ => False
def May : Nt → Prop | .may _ _ s l => Leaf s ∧ Both l | _ => False
/-- a leaf is through, whatever the answers -/
theorem leaf_fin {s : Nt} (h : Leaf s) (d : Int) (p : Rat) (hp : Sz 11 p) (as : List Bool) : ∃ q m, s.live d p as = .fin q m as ∧ Sz 47 q ∧ Leaf m := by
  have z0 : Sz 47 (0 : Rat) := ⟨by decide, by decide⟩
  cases s with
  | none => exact ⟨_, _, rfl, z0, trivial⟩
  | pay e u =>
    show ∃ q m, (if d < e then Rs.fin 0 (.pay e u) as else .fin (if d = e then u.eval p else 0) .none as) = .fin q m as ∧ Sz 47 q ∧ Leaf m
    split
    · exact ⟨_, _, rfl, z0, h⟩
    · refine ⟨_, _, rfl, ?_, trivial⟩
      split
      · exact Vl.sz hp h
      · exact z0
  | now u => exact ⟨_, _, rfl, Vl.sz hp h, trivial⟩
  | both _ _ => exact h.elim
  | may _ _ _ _ => exact h.elim
def Nt.way : Nt → Str | .none => "of_none" | .pay _ _ => "of_pay" | .now _ => "of_now" | .both _ _ => "of_both" | .may _ _ _ _ => "of_may"
section
variable {P : Program} {w : World} {K : PySem.W.Frag} {mg : Str → Option Value} {base : Heap}
theorem kdW_of (T : Tx P w K mg base) (n : Nt) : KDct K w (He.ga K "WAYS") n.head (.ref (He.ga K n.way)) := by
  cases n with
  | none => exact T.kdW (q := ("none", .glo "of_none")) (by simp [kv_WAYS])
  | pay d u => exact T.kdW (q := ("pay", .glo "of_pay")) (by simp [kv_WAYS])
  | now u => exact T.kdW (q := ("now", .glo "of_now")) (by simp [kv_WAYS])
  | both a b => exact T.kdW (q := ("both", .glo "of_both")) (by simp [kv_WAYS])
  | may o k s l => exact T.kdW (q := ("may", .glo "of_may")) (by simp [kv_WAYS])
def spLive (K : PySem.W.Frag) (C : Nt → Prop) : Sp := sp4 fun x y z t H Q => ∃ (u : Nt) (d : Int) (p : Rat) (as : List Bool) (a : Addr), u.Is K H x ∧ C u ∧ y = .int d ∧ Am K H z p ∧ Sz 11 p ∧ t = .ref a ∧ SqT K H a (as.map V.bl) ∧ ∀ v H', Same H H' → Rs.Is K H' v (u.live d p as) → Q v H'
def LS (K : PySem.W.Frag) (S : Str → (Nt → Prop) → Prop) (f : Addr) (sp : Sp) : Prop := ∃ x C, S x C ∧ f = He.ga K x ∧ sp = spLive K C
theorem c_lived_ (T : Tx P w K mg base) (k : Nat) (S : Str → (Nt → Prop) → Prop) (hS : ∀ x C, S x C → Cal P w K mg base k x (spLive K C) []) (hg : ∀ x C, S x C → mg x = some (.ref (He.ga K x))) (C : Nt → Prop) (hC : ∀ u, C u → ∃ C', S u.way C' ∧ C' u) : Cal P w K mg base (k + 1) "lived" (spLive K C) [] := by
  have hA : ∀ f sp, LS K S f sp → CalAt P w K mg base k f sp := by
    rintro f sp ⟨x, C', h, rfl, rfl⟩
    exact at_of_cal (hS x C' h) (hg x C' h)
  refine mkC T.f_lived T.g_lived sc_lived (show ∀ vs H Q E, spLive K C vs H Q E → vs.length = 4 from len4) (fun _ _ _ _ _ _ us hl => match us, hl with | [_, _, _, _], _ => rfl) fun cdv A0 outer s0 H vs Q E hr h => ?_
  obtain ⟨_, _, _, _, rfl, u, d, p, as, a, hu, cu, rfl, hp, sp, rfl, ha, q⟩ := h
  refine ⟨_, (pss_cons (ps_set (i := 4) sc_lived.nd rfl (by first | exact Or.inl rfl | exact Or.inr rfl) (pe_ix ix_kdict (pe_gc rfl T.c_WAYS) (pe_ix ix_tup (pv 0) pe_int (fun _ _ => rfl)) (fun _ _ => rfl)))
        (pss_one (ps_ret (pe_callR (i := 4) hA hr (by omega) rfl (Or.inl rfl) (pa_cons (pv 0) (pa_cons (pv 1) (pa_cons (pv 2) (pa_cons (pv 3) pa_nil)))))))), ?_⟩
  obtain ⟨C', h1, h2⟩ := hC u cu
  obtain ⟨b, xs, rfl, t, tl⟩ := hu.open_
  refine ⟨_, rfl, _, _, _, _, rfl, rfl, t, at0, _, _, _, rfl, rfl, kdW_of T u, ?_⟩
  exact ⟨_, _, rfl, ⟨_, C', h1, rfl, rfl⟩, _, rfl, _, rfl, _, rfl, _, rfl, _, _, _, _, rfl, u, d, p, as, a, hu, h2, rfl, hp, sp, rfl, ha, q⟩
theorem c_of_none (T : Tx P w K mg base) : Cal P w K mg base 1 "of_none" (spLive K (· = .none)) [] := by
  refine mkC T.f_of_none T.g_of_none sc_of_none (show ∀ vs H Q E, spLive K (· = .none) vs H Q E → vs.length = 4 from len4) (fun _ _ _ _ _ _ us hl => match us, hl with | [_, _, _, _], _ => rfl) fun cdv A0 outer s0 H vs Q E hr h => ?_
  obtain ⟨_, _, _, _, rfl, u, d, p, as, a, hu, rfl, rfl, hp, sp, rfl, ha, q⟩ := h
  refine ⟨_, (pss_one (ps_ret (pe_tup (pa_cons pe_str (pa_cons (pe_gc rfl T.c_NOUGHT) (pa_cons (pe_gc rfl T.c_NONE) (pa_cons (pv 3) pa_nil))))))), ?_⟩
  refine ⟨_, rfl, by show 4 ≤ sizeLine; decide, fun t nt => ?_⟩
  exact q _ _ (same_new nt) ⟨t, _, _, a, rfl, SqT.of upd_same, T.nought _, ⟨_, rfl, T.none_ _⟩, same_t (same_new nt) ha⟩
theorem c_of_now (T : Tx P w K mg base) : Cal P w K mg base 7 "of_now" (spLive K (fun n => ∃ u, n = .now u ∧ u.Ok 2)) [] := by
  refine mkC T.f_of_now T.g_of_now sc_of_now (show ∀ vs H Q E, spLive K (fun n => ∃ u, n = .now u ∧ u.Ok 2) vs H Q E → vs.length = 4 from len4) (fun _ _ _ _ _ _ us hl => match us, hl with | [_, _, _, _], _ => rfl) fun cdv A0 outer s0 H vs Q E hr h => ?_
  obtain ⟨_, _, _, _, rfl, _, d, p, as, a, hu, ⟨u, rfl, ou⟩, rfl, hp, sp, rfl, ha, q⟩ := h
  refine ⟨_, (pss_one (ps_ret (pe_tup (pa_cons pe_str (pa_cons (pe_c (c_val T 2 (by decide)) hr (by omega) rfl (pa_cons (pe_ix ix_tup (pv 0) pe_int (fun _ _ => rfl)) (pa_cons (pv 2) pa_nil))) (pa_cons (pe_gc rfl T.c_NONE) (pa_cons (pv 3) pa_nil))))))), ?_⟩
  obtain ⟨b, x, rfl, t, i⟩ := hu
  refine ⟨_, rfl, _, _, _, _, rfl, rfl, t, at1, _, rfl, _, _, rfl, u, p, i, ou, hp, sp, fun v H1 e1 hv => ?_⟩
  refine ⟨_, rfl, by show 4 ≤ sizeLine; decide, fun r nr => ?_⟩
  have e2 := e1.trans (same_new (o := .tup [.str "end", v, .ref (He.ga K "NONE"), .ref a]) nr)
  exact q _ _ e2 ⟨r, _, _, a, rfl, SqT.of upd_same, hv.s (same_new nr), ⟨_, rfl, T.none_ _⟩, same_t e2 ha⟩
theorem c_of_pay (T : Tx P w K mg base) : Cal P w K mg base 7 "of_pay" (spLive K (fun n => ∃ e u, n = .pay e u ∧ u.Ok 2)) [] := by
  refine mkC T.f_of_pay T.g_of_pay sc_of_pay (show ∀ vs H Q E, spLive K (fun n => ∃ e u, n = .pay e u ∧ u.Ok 2) vs H Q E → vs.length = 4 from len4) (fun _ _ _ _ _ _ us hl => match us, hl with | [_, _, _, _], _ => rfl) fun cdv A0 outer s0 H vs Q E hr h => ?_
  obtain ⟨_, _, _, _, rfl, _, d, p, as, a, hu, ⟨e, u, rfl, ou⟩, rfl, hp, sp, rfl, ha, q⟩ := h
  refine ⟨_, (pss_cons (ps_if (pt_cmpR op_lt (pv 1) (pe_ix ix_tup (pv 0) pe_int (fun _ _ => rfl)) (nomark _)) (pss_one (ps_ret (pe_tup (pa_cons pe_str (pa_cons (pe_gc rfl T.c_NOUGHT) (pa_cons (pv 0) (pa_cons (pv 3) pa_nil))))))) pss_nil)
        (pss_one (ps_ret (pe_tup (pa_cons pe_str (pa_cons (pe_ifExp (pt_cmpR op_eq (pv 1) (pe_ix ix_tup (pv 0) pe_int (fun _ _ => rfl)) (nomark _)) (pe_c (c_val T 2 (by decide)) hr (by omega) rfl (pa_cons (pe_ix ix_tup (pv 0) pe_int (fun _ _ => rfl)) (pa_cons (pv 2) pa_nil))) (pe_gc rfl T.c_NOUGHT)) (pa_cons (pe_gc rfl T.c_NONE) (pa_cons (pv 3) pa_nil)))))))), ?_⟩
  obtain ⟨b, x, rfl, t, i⟩ := id hu
  refine ⟨_, rfl, _, rfl, _, _, _, _, rfl, rfl, t, at1, _, _, rfl, rfl, _, rfl, ite2 (fun hc => ?_) (fun hc => ?_)⟩
  · refine ⟨_, rfl, _, rfl, by show 4 ≤ sizeLine; decide, fun r nr => ?_⟩
    refine q _ _ (same_new nr) ?_
    unfold Nt.live
    rw [if_pos (of_decide_eq_true hc)]
    exact ⟨r, _, _, a, rfl, SqT.of upd_same, T.nought _, hu.s (same_new nr), same_t (same_new nr) ha⟩
  · have hd : ¬ d < e := fun z => hc (decide_eq_true z)
    unfold Nt.live at q
    rw [if_neg hd] at q
    refine ⟨_, rfl, _, rfl, _, _, _, _, rfl, rfl, t, at1, rfl, _, rfl, ite2 (fun hc2 => ?_) (fun hc2 => ?_)⟩
    · have h := of_decide_eq_true hc2
      injection h with h
      rw [if_pos h] at q
      refine ⟨_, rfl, _, _, _, _, rfl, rfl, t, at2, _, rfl, _, _, rfl, u, p, i, ou, hp, sp, fun v H1 e1 hv => ?_⟩
      refine ⟨_, rfl, by show 4 ≤ sizeLine; decide, fun r nr => ?_⟩
      have e2 := e1.trans (same_new (o := .tup [.str "end", v, .ref (He.ga K "NONE"), .ref a]) nr)
      exact q _ _ e2 ⟨r, _, _, a, rfl, SqT.of upd_same, hv.s (same_new nr), ⟨_, rfl, T.none_ _⟩, same_t e2 ha⟩
    · have h : ¬ d = e := fun z => hc2 (decide_eq_true (congrArg V.int z))
      rw [if_neg h] at q
      refine ⟨_, rfl, by show 4 ≤ sizeLine; decide, fun r nr => ?_⟩
      exact q _ _ (same_new nr) ⟨r, _, _, a, rfl, SqT.of upd_same, T.nought _, ⟨_, rfl, T.none_ _⟩, same_t (same_new nr) ha⟩
end
end K37
set_option Elab.async false
set_option linter.all false
set_option maxRecDepth 100000
set_option maxHeartbeats 4000000
namespace K37
open PySem PySem.Spec PyProof.Rows L2
open C8 (Cal Met Mak CalAt pe_c pe_mt pe_mt0 pe_mk pe_gc tCut pss_cut)
theorem bls_dp {K : PySem.W.Frag} {H : Hp} : ∀ as : List Bool, DpAll K H (as.map V.bl) (as.map PyData.bool)
  | [] => .nil
  | _ :: as => .cons (.bl _) (bls_dp as)
theorem bls_lay : ∀ as : List Bool, PyData.canLayAll0 (as.map PyData.bool) = true
  | [] => rfl
  | _ :: as => bls_lay as
theorem bls_depth : ∀ as : List Bool, PyData.depthAll (as.map PyData.bool) ≤ 0
  | [] => Nat.le_refl _
  | _ :: as => Nat.max_le.mpr ⟨Nat.le_refl _, bls_depth as⟩
theorem bls_shaped (as : List Bool) : SeqAt.shaped (.tuple (as.map PyData.bool)) = true := by
  have h := bls_depth as
  show (PyData.canLayAll0 (as.map PyData.bool) && decide (PyData.depthAll (as.map PyData.bool) + 1 ≤ 64)) = true
  rw [bls_lay, decide_eq_true (by omega)]
  rfl
theorem bls_eqv (as : List Bool) : PyData.eqv (.tuple (as.map PyData.bool)) (.tuple []) = as.isEmpty := by
  cases as <;> rfl
section
variable {P : Program} {w : World} {K : PySem.W.Frag} {mg : Str → Option Value} {base : Heap}
def spBothOf (K : PySem.W.Frag) : Sp := sp2 fun x y H Q => Nt.Is K H .none x ∧ Q y H
theorem c_both_of (T : Tx P w K mg base) : Cal P w K mg base 1 "both_of" (spBothOf K) [] := by
  refine mkC T.f_both_of T.g_both_of sc_both_of len2 (fun _ _ _ _ _ _ us hl => match us, hl with | [_, _], _ => rfl) fun cdv A0 outer s0 H vs Q E hr h => ?_
  obtain ⟨_, y, rfl, ⟨a, rfl, t⟩, q⟩ := h
  refine ⟨_, (pss_cons (ps_if (pt_cmpR (op_eqD (un64 hr)) (pv 0) (pe_gc rfl T.c_NONE) (nomark _)) (pss_one (ps_ret (pv 1))) pss_nil)
        (pss_one (ps_ret (pe_ifExp (pt_cmpR (op_eqD (un64 hr)) (pv 1) (pe_gc rfl T.c_NONE) (nomark _)) (pv 0) (pe_tup (pa_cons pe_str (pa_cons (pv 0) (pa_cons (pv 1) pa_nil)))))))), ?_⟩
  exact ⟨_, rfl, .tuple [.str "none"], .tuple [.str "none"], .tup t (.cons (.str _) .nil), .tup (T.none_ H) (.cons (.str _) .nil), by decide +kernel, by decide +kernel, _, rfl, iteT ⟨_, rfl, q⟩⟩
def S0 (x : Str) (C : Nt → Prop) : Prop := (x = "of_none" ∧ C = (· = .none)) ∨ (x = "of_now" ∧ C = fun n => ∃ u, n = .now u ∧ u.Ok 2) ∨ (x = "of_pay" ∧ C = fun n => ∃ e u, n = .pay e u ∧ u.Ok 2)
theorem cal_mono {k k' : Nat} {x : Str} {sp : Sp} {dvs : List V} (c : Cal P w K mg base k x sp dvs) (h : k ≤ k') : Cal P w K mg base k' x sp dvs := by
  obtain ⟨f, fd, ps, ds, F, r⟩ := c.ex
  exact ⟨f, fd, ps, ds, F.mono h, r⟩
theorem s0_ok (T : Tx P w K mg base) : ∀ x C, S0 x C → Cal P w K mg base 7 x (spLive K C) [] := by
  rintro x C (⟨rfl, rfl⟩ | ⟨rfl, rfl⟩ | ⟨rfl, rfl⟩)
  · exact cal_mono (c_of_none T) (by decide)
  · exact c_of_now T
  · exact c_of_pay T
theorem s0_g (T : Tx P w K mg base) : ∀ x C, S0 x C → mg x = some (.ref (He.ga K x)) := by
  rintro x C (⟨rfl, rfl⟩ | ⟨rfl, rfl⟩ | ⟨rfl, rfl⟩)
  · exact T.g_of_none
  · exact T.g_of_now
  · exact T.g_of_pay
theorem s0_c : ∀ u, Leaf u → ∃ C', S0 u.way C' ∧ C' u := by
  intro u h
  cases u with
  | none => exact ⟨_, .inl ⟨rfl, rfl⟩, rfl⟩
  | pay e u => exact ⟨_, .inr (.inr ⟨rfl, rfl⟩), e, u, rfl, h⟩
  | now u => exact ⟨_, .inr (.inl ⟨rfl, rfl⟩), u, rfl, h⟩
  | both _ _ => exact h.elim
  | may _ _ _ _ => exact h.elim
theorem c_lived0 (T : Tx P w K mg base) : Cal P w K mg base 8 "lived" (spLive K Leaf) [] := c_lived_ T 7 S0 (s0_ok T) (s0_g T) Leaf s0_c
theorem c_of_both (T : Tx P w K mg base) : Cal P w K mg base 9 "of_both" (spLive K Both) [] := by
  refine mkC T.f_of_both T.g_of_both sc_of_both (show ∀ vs H Q E, spLive K Both vs H Q E → vs.length = 4 from len4) (fun _ _ _ _ _ _ us hl => match us, hl with | [_, _, _, _], _ => rfl) fun cdv A0 outer s0 H vs Q E hr h => ?_
  obtain ⟨_, _, _, _, rfl, u, d, p, as, a, hu, bu, rfl, hp, sp, rfl, ha, q⟩ := h
  refine ⟨_, (pss_cons (ps_set (i := 4) sc_of_both.nd rfl (by first | exact Or.inl rfl | exact Or.inr rfl) (pe_c (c_lived0 T) hr (by omega) rfl (pa_cons (pe_ix ix_tup (pv 0) pe_int (fun _ _ => rfl)) (pa_cons (pv 1) (pa_cons (pv 2) (pa_cons (pv 3) pa_nil))))))
        (pss_cons (ps_if (pt_cmpR op_eq (pe_ix ix_tup (pv 4) pe_int (fun _ _ => rfl)) pe_str (nomark _)) (pss_one (ps_ret (pv 4))) pss_nil)
        (pss_cons (ps_set (i := 5) sc_of_both.nd rfl (by first | exact Or.inl rfl | exact Or.inr rfl) (pe_c (c_lived0 T) hr (by omega) rfl (pa_cons (pe_ix ix_tup (pv 0) pe_int (fun _ _ => rfl)) (pa_cons (pv 1) (pa_cons (pv 2) (pa_cons (pe_ix ix_tup (pv 4) pe_int (fun _ _ => rfl)) pa_nil))))))
        (pss_cons (ps_if (pt_cmpR op_eq (pe_ix ix_tup (pv 5) pe_int (fun _ _ => rfl)) pe_str (nomark _)) (pss_one (ps_ret (pv 5))) pss_nil)
        (pss_one (ps_ret (pe_tup (pa_cons pe_str (pa_cons (pe_c (c_plus T) hr (by omega) rfl (pa_cons (pe_ix ix_tup (pv 4) pe_int (fun _ _ => rfl)) (pa_cons (pe_ix ix_tup (pv 5) pe_int (fun _ _ => rfl)) pa_nil))) (pa_cons (pe_c (c_both_of T) hr (by omega) rfl (pa_cons (pe_ix ix_tup (pv 4) pe_int (fun _ _ => rfl)) (pa_cons (pe_ix ix_tup (pv 5) pe_int (fun _ _ => rfl)) pa_nil))) (pa_cons (pe_ix ix_tup (pv 5) pe_int (fun _ _ => rfl)) pa_nil))))))))))), ?_⟩
  match u, bu, hu, q with
  | .both (.now v) s, ⟨ov, ls⟩, ⟨b, x, y, rb, t, i, j⟩, q =>
  subst rb
  obtain ⟨q', m', hs, sq', _⟩ := leaf_fin ls d p sp as
  have sv : Sz 47 (v.eval p) := Vl.sz sp ov
  have hl : (Nt.both (.now v) s).live d p as = .fin (v.eval p + q') m' as := by
    show (Rs.fin (v.eval p) .none as).add (s.live d p) = _
    unfold Rs.add
    dsimp only
    rw [hs]
  rw [hl] at q
  refine ⟨_, rfl, _, _, _, _, rfl, rfl, t, at1, _, rfl, _, rfl, _, rfl, _, _, _, _, rfl, .now v, d, p, as, a, i, ov, rfl, hp, sp, rfl, ha, fun f1 H1 e1 hf => ?_⟩
  obtain ⟨fa, fx, fy, fz, rfl, ft, fm, fn', fs⟩ := hf
  refine ⟨_, rfl, _, _, _, _, rfl, rfl, ft, at0, rfl, _, rfl, decF (str_ne (by decide)) ?_⟩
  refine ⟨_, rfl, _, _, _, _, rfl, rfl, same_t e1 t, at2, _, rfl, _, rfl, _, rfl, _, _, _, _, rfl, rfl, ft, at3, _, _, _, _, rfl, s, d, p, as, fz, Nt.Is.s j e1, ls, rfl, hp.s e1, sp, rfl, fs, fun f2 H2 e2 hf2 => ?_⟩
  rw [hs] at hf2
  obtain ⟨ga, gx, gy, gz, rfl, gt, gm, gn, gs⟩ := hf2
  have ft2 := same_t e2 ft
  refine ⟨_, rfl, _, _, _, _, rfl, rfl, gt, at0, rfl, _, rfl, decF (str_ne (by decide)) ?_⟩
  refine ⟨_, rfl, _, _, _, _, rfl, rfl, ft2, at1, _, rfl, _, _, _, _, rfl, rfl, gt, at1, ?_⟩
  refine ⟨_, _, rfl, v.eval p, q', fm.s e2, gm, sv.mono (by decide), sq'.mono (by decide), trivial, fun w1 H3 e3 hw => ?_⟩
  have e23 := e2.trans e3
  refine ⟨_, rfl, _, _, _, _, rfl, rfl, same_t e23 ft, at2, _, rfl, _, _, _, _, rfl, rfl, same_t e3 gt, at2, ?_⟩
  refine ⟨_, _, rfl, Nt.Is.s fn' e23, ?_⟩
  refine ⟨_, rfl, _, _, _, _, rfl, rfl, same_t e3 gt, at3, by show 4 ≤ sizeLine; decide, fun r nr => ?_⟩
  have e4 := same_new (o := .tup [.str "end", w1, gy, .ref gz]) nr
  exact q _ _ (((e1.trans e2).trans e3).trans e4) ⟨r, _, _, gz, rfl, SqT.of upd_same, hw.s e4, Nt.Is.s gn (e3.trans e4), same_t (e3.trans e4) gs⟩
def S1 (x : Str) (C : Nt → Prop) : Prop := x = "of_both" ∧ C = Both
theorem c_lived1 (T : Tx P w K mg base) : Cal P w K mg base 10 "lived" (spLive K Both) [] := c_lived_ T 9 S1 (fun x C h => by obtain ⟨rfl, rfl⟩ := h; exact c_of_both T) (fun x C h => by obtain ⟨rfl, rfl⟩ := h; exact T.g_of_both) Both fun u h => by
  refine ⟨Both, ?_, h⟩
  cases u with
  | both _ _ => exact ⟨rfl, rfl⟩
  | _ => exact h.elim
theorem live_out {o : Str} {k : Int} {s l : Nt} {d : Int} {p : Rat} {as : List Bool} (h : ¬ (0 ≤ d ∧ d ≤ k)) : (Nt.may o k s l).live d p as = (s.live d p as).over d k o l := by
  generalize hs : s.live d p as = r
  unfold Nt.live
  rw [if_neg h]
  exact congrArg (Rs.over d k o l) hs
theorem live_no {o : Str} {k : Int} {s l : Nt} {d : Int} {p : Rat} {as : List Bool} (h : 0 ≤ d ∧ d ≤ k) : (Nt.may o k s l).live d p (false :: as) = (s.live d p as).over d k o l := by
  generalize hs : s.live d p as = r
  unfold Nt.live
  rw [if_pos h]
  exact congrArg (Rs.over d k o l) hs
theorem live_yes {o : Str} {k : Int} {s l : Nt} {d : Int} {p : Rat} {as : List Bool} (h : 0 ≤ d ∧ d ≤ k) : (Nt.may o k s l).live d p (true :: as) = l.live d p as := by
  generalize hs : l.live d p as = r
  unfold Nt.live
  rw [if_pos h]
  exact hs
theorem live_ask {o : Str} {k : Int} {s l : Nt} {d : Int} {p : Rat} (h : 0 ≤ d ∧ d ≤ k) : (Nt.may o k s l).live d p [] = .ask o "w" := by
  unfold Nt.live
  rw [if_pos h]
theorem c_of_may (T : Tx P w K mg base) : Cal P w K mg base 11 "of_may" (spLive K May) [] := by
  refine mkC T.f_of_may T.g_of_may sc_of_may (show ∀ vs H Q E, spLive K May vs H Q E → vs.length = 4 from len4) (fun _ _ _ _ _ _ us hl => match us, hl with | [_, _, _, _], _ => rfl) fun cdv A0 outer s0 H vs Q E hr h => ?_
  obtain ⟨_, _, zz, _, rfl, u, d, p, as, a, hu, bu, rfl, hp, sp, rfl, ha, q⟩ := h
  refine ⟨_, (pss_cons (ps_asg (pv 0) (pg_tup rfl (pgs_cons (pg_name (i := 4) sc_of_may.nd rfl (by first | exact Or.inl rfl | exact Or.inr rfl)) (pgs_cons (pg_name (i := 5) sc_of_may.nd rfl (by first | exact Or.inl rfl | exact Or.inr rfl)) (pgs_cons (pg_name (i := 6) sc_of_may.nd rfl (by first | exact Or.inl rfl | exact Or.inr rfl)) (pgs_cons (pg_name (i := 7) sc_of_may.nd rfl (by first | exact Or.inl rfl | exact Or.inr rfl)) (pgs_cons (pg_name (i := 8) sc_of_may.nd rfl (by first | exact Or.inl rfl | exact Or.inr rfl)) (pgs_cons (pg_name (i := 9) sc_of_may.nd rfl (by first | exact Or.inl rfl | exact Or.inr rfl)) (pgs_cons (pg_name (i := 10) sc_of_may.nd rfl (by first | exact Or.inl rfl | exact Or.inr rfl)) pgs_nil)))))))))
        (pss_cut (ps_if (pt_chain op_le op_le (pv 7) (pv 1) (pv 8)) (pss_cons (ps_if (pt_cmpR (op_eqD (un64 hr)) (pv 3) (pe_tup pa_nil) (nomark _)) (pss_one (ps_ret (pe_tup (pa_cons pe_str (pa_cons (pv 6) (pa_cons (pv 5) pa_nil)))))) pss_nil)
        (pss_cons (ps_if (pt_truth (pe_ix ix_tup (pv 3) pe_int (fun _ _ => rfl)) (by intro _; rfl)) (pss_one (ps_ret (pe_c (c_lived1 T) hr (by omega) rfl (pa_cons (pv 10) (pa_cons (pv 1) (pa_cons (pv 2) (pa_cons (pe_slice sl_tup (pv 3) (po_some pe_int) po_none) pa_nil))))))) pss_nil)
        (pss_one (ps_set (i := 3) sc_of_may.nd rfl (by first | exact Or.inl rfl | exact Or.inr rfl) (pe_slice sl_tup (pv 3) (po_some pe_int) po_none))))) pss_nil)
        (pss_cons (ps_set (i := 11) sc_of_may.nd rfl (by first | exact Or.inl rfl | exact Or.inr rfl) (pe_c (c_lived0 T) hr (by omega) rfl (pa_cons (pv 9) (pa_cons (pv 1) (pa_cons (pv 2) (pa_cons (pv 3) pa_nil))))))
        (pss_cons (ps_if (PW.pt (pw_or (pt_cmpR op_eq (pe_ix ix_tup (pv 11) pe_int (fun _ _ => rfl)) pe_str (nomark _)) (pw_or1 (pt_cmpR op_ge (pv 1) (pv 8) (nomark _))))) (pss_one (ps_ret (pv 11))) pss_nil)
        (pss_one (ps_ret (pe_tup (pa_cons pe_str (pa_cons (pe_ix ix_tup (pv 11) pe_int (fun _ _ => rfl)) (pa_cons (pe_tup (pa_cons (pv 4) (pa_cons (pv 5) (pa_cons (pv 6) (pa_cons (pv 7) (pa_cons (pv 8) (pa_cons (pe_ix ix_tup (pv 11) pe_int (fun _ _ => rfl)) (pa_cons (pv 10) pa_nil)))))))) (pa_cons (pe_ix ix_tup (pv 11) pe_int (fun _ _ => rfl)) pa_nil))))))))))), ?_⟩
  match u, bu, hu, q with
  | .may o k s l, ⟨ls, bl⟩, ⟨b, x, y, rb, t, i, j⟩, q =>
  subst rb
  refine ⟨_, rfl, b, _, rfl, t, rfl, _, _, rfl, _, _, rfl, _, _, rfl, _, _, rfl, _, _, rfl, _, _, rfl, _, _, rfl, rfl, ?_⟩
  refine ⟨fun σ' H' => ∃ a' as', σ' = [some (.ref b), some (.int d), some zz, some (.ref a'), some (.str "may"), some (.str "w"), some (.str o), some (.int 0), some (.int k), some x, some y, none] ∧ SqT K H' a' (as'.map V.bl) ∧ Same H H' ∧ (Nt.may o k s l).live d p as = (s.live d p as').over d k o l, ?_, ?_⟩
  · refine ⟨_, rfl, _, rfl, _, _, rfl, rfl, _, rfl, ite2 (fun h0 => ?_) (fun h0 => ?_)⟩
    · have d0 := of_decide_eq_true h0
      refine ⟨_, rfl, _, _, rfl, rfl, _, rfl, ite2 (fun h1 => ?_) (fun h1 => ?_)⟩
      · have d1 := of_decide_eq_true h1
        have hin : 0 ≤ d ∧ d ≤ k := ⟨d0, d1⟩
        refine ⟨_, rfl, by decide, fun e ne => ?_⟩
        have S1 : Same H (upd H e (.tup [])) := same_new ne
        refine ⟨.tuple (as.map PyData.bool), .tuple [], .tup (same_t S1 ha) (bls_dp as), .tup (SqT.of upd_same) .nil, bls_shaped as, rfl, _, rfl, ?_⟩
        rw [bls_eqv]
        cases as with
        | nil =>
          refine iteT ⟨_, rfl, _, rfl, by show 3 ≤ sizeLine; decide, fun r nr => ?_⟩
          refine q _ _ (S1.trans (same_new nr)) ?_
          unfold Nt.live
          rw [if_pos hin]
          exact ⟨r, rfl, SqT.of upd_same⟩
        | cons c as' =>
          refine iteF ?_
          refine ⟨_, rfl, _, _, _, _, rfl, rfl, same_t S1 ha, at0, c, rfl, ?_⟩
          cases c with
          | true =>
            refine iteT ⟨_, rfl, _, rfl, _, rfl, _, rfl, _, rfl, a, _, rfl, same_t S1 ha, cut1_not _ _, fun z nz => ?_⟩
            have S2 := S1.trans (same_new (o := .tup (cutV (V.bl true :: as'.map V.bl) (some 1) none)) nz)
            refine ⟨_, _, _, _, rfl, l, d, p, as', z, Nt.Is.s j S2, bl, rfl, hp.s S2, sp, rfl, ?_, fun v H3 e3 hv => ?_⟩
            · refine SqT.of ?_
              rw [upd_same]
              exact congrArg (fun l => some (HO.tup l)) (cut1 _ _)
            · refine q v H3 (S2.trans e3) ?_
              unfold Nt.live
              rw [if_pos hin]
              exact hv
          | false =>
            refine iteF ⟨_, rfl, _, rfl, a, _, rfl, same_t S1 ha, cut1_not _ _, fun z nz => ?_⟩
            have S2 := S1.trans (same_new (o := .tup (cutV (V.bl false :: as'.map V.bl) (some 1) none)) nz)
            refine ⟨z, as', rfl, ?_, S2, ?_⟩
            · refine SqT.of ?_
              rw [upd_same]
              exact congrArg (fun l => some (HO.tup l)) (cut1 _ _)
            · exact live_no hin
      · refine ⟨a, as, rfl, ha, fun _ _ h => h, ?_⟩
        exact live_out (fun z => h1 (decide_eq_true z.2))
    · refine ⟨_, rfl, iteF ?_⟩
      refine ⟨a, as, rfl, ha, fun _ _ h => h, ?_⟩
      exact live_out (fun z => h0 (decide_eq_true z.1))
  · rintro _ H1 ⟨a', as', rfl, ha', e1, hl⟩
    rw [hl] at q
    obtain ⟨q', m', hs, sq', _⟩ := leaf_fin ls d p sp as'
    rw [hs] at q
    refine ⟨_, rfl, _, rfl, _, rfl, _, rfl, _, _, _, _, rfl, s, d, p, as', a', Nt.Is.s i e1, ls, rfl, hp.s e1, sp, rfl, ha', fun f1 H2 e2 hf => ?_⟩
    rw [hs] at hf
    obtain ⟨ga, gx, gy, gz, rfl, gt, gm, gn, gs⟩ := hf
    have e12 := e1.trans e2
    refine ⟨_, rfl, _, _, _, _, rfl, rfl, gt, at0, rfl, _, rfl, decF (str_ne (by decide)) ?_⟩
    refine ⟨_, rfl, _, rfl, _, _, rfl, rfl, _, rfl, ite2 (fun hc => ?_) (fun hc => ?_)⟩
    · have h := of_decide_eq_true hc
      unfold Rs.over at q
      dsimp only at q
      rw [if_pos h] at q
      exact ⟨_, rfl, q _ _ e12 ⟨ga, gx, gy, gz, rfl, gt, gm, gn, gs⟩⟩
    · have h : ¬ k ≤ d := fun z => hc (decide_eq_true z)
      unfold Rs.over at q
      dsimp only at q
      rw [if_neg h] at q
      refine ⟨_, rfl, _, _, _, _, rfl, rfl, gt, at1, _, rfl, _, rfl, _, rfl, _, rfl, _, rfl, _, rfl, _, _, _, _, rfl, rfl, gt, at2, _, rfl, by show 7 ≤ sizeLine; decide, fun r1 n1 => ?_⟩
      have e3 := same_new (o := .tup [.str "may", .str "w", .str o, .int 0, .int k, gy, y]) n1
      refine ⟨_, rfl, _, _, _, _, rfl, rfl, same_t e3 gt, at3, by show 4 ≤ sizeLine; decide, fun r2 n2 => ?_⟩
      have e4 := same_new (o := .tup [.str "end", gx, .ref r1, .ref gz]) n2
      refine q _ _ ((e12.trans e3).trans e4) ⟨r2, gx, _, gz, rfl, SqT.of upd_same, gm.s (e3.trans e4), ⟨r1, gy, y, rfl, SqT.of (e4 _ _ upd_same), Nt.Is.s gn (e3.trans e4), Nt.Is.s j ((e12.trans e3).trans e4)⟩, same_t (e3.trans e4) gs⟩
end
end K37
set_option Elab.async false
set_option linter.all false
set_option maxRecDepth 100000
set_option maxHeartbeats 4000000
namespace K37
open PySem PySem.Spec PyProof.Rows L2
open C8 (Cal Met Mak CalAt pe_c pe_mt pe_mt0 pe_mk pe_gc tCut pss_cut)
/-! ### turned, endings -/
/-- the notes of a machine -/
def Mn (u : Nt) : Prop := Leaf u ∨ May u
inductive Tr | ask (o nm : Str) | fin (q : Rat) (n : Nt)
def Rs.tr : Rs → Tr | .ask o nm => .ask o nm | .fin q n _ => .fin q n
def Tr.Is (K : PySem.W.Frag) (H : Hp) : V → Tr → Prop
  | v, .ask o nm => ∃ a, v = .ref a ∧ SqT K H a [.str "ask", .str o, .str nm]
  | v, .fin q n => ∃ a x y, v = .ref a ∧ SqT K H a [.str "end", x, y] ∧ Am K H x q ∧ n.Is K H y
def AnsR (K : PySem.W.Frag) (H : Hp) (v : V) (as : List Bool) : Prop := ∃ a, v = .ref a ∧ SqT K H a (as.map V.bl)
theorem AnsR.tk {K : PySem.W.Frag} {H H' : Hp} {v : V} {as : List Bool} (h : AnsR K H v as) (e : TK K H H') : AnsR K H' v as := by
  obtain ⟨a, r, t⟩ := h
  exact ⟨a, r, e _ _ t⟩
/-- an ending's rest -/
def EndR (K : PySem.W.Frag) (H : Hp) (v : V) (n : Nt) : Prop := ∃ a x y z, v = .ref a ∧ SqT K H a [x, y, z] ∧ n.Is K H z
theorem EndR.tk {K : PySem.W.Frag} {H H' : Hp} {v : V} {n : Nt} (h : EndR K H v n) (e : TK K H H') : EndR K H' v n := by
  obtain ⟨a, x, y, z, r, t, i⟩ := h
  exact ⟨a, x, y, z, r, e _ _ t, i.tk e⟩
def Ends (u : Nt) (d : Int) (p : Rat) : List Nt := match u.live d p [] with
  | .fin _ n _ => [n]
  | .ask _ _ => match u.live d p [true], u.live d p [false] with
    | .fin _ a _, .fin _ b _ => [a, b]
    | _, _ => []
theorem cat_rd {K : PySem.W.Frag} {H : Hp} {a b : Addr} {as : List Bool} {c : Bool} {Q : VK} (h : SqT K H a (as.map V.bl)) (hb : SqT K H b [V.bl c]) (hl : as.length ≤ 1000) (k : ∀ v H', Same H H' → AnsR K H' v (as ++ [c]) → Q v H') : rCatA K (.ref a) (.ref b) H Q := by
  refine ⟨a, b, _, _, rfl, rfl, h, hb, ?_, fun h0 => ?_, fun _ h1 => (by cases h1), fun h0 _ p np => ?_⟩
  · rw [List.length_map]
    exact Nat.le_trans (show as.length + 1 ≤ 1001 by omega) (by decide)
  · have e : as = [] := by simpa using h0
    subst e
    exact k _ H (fun _ _ h => h) ⟨b, rfl, hb⟩
  · exact k _ _ (same_new np) ⟨p, rfl, SqT.of (by rw [upd_same]; simp)⟩
section
variable {P : Program} {w : World} {K : PySem.W.Frag} {mg : Str → Option Value} {base : Heap}
def S2 (x : Str) (C : Nt → Prop) : Prop := S0 x C ∨ (x = "of_may" ∧ C = May)
theorem c_lived2 (T : Tx P w K mg base) : Cal P w K mg base 12 "lived" (spLive K Mn) [] := by
  refine c_lived_ T 11 S2 (fun x C h => ?_) (fun x C h => ?_) Mn fun u h => ?_
  · rcases h with h | ⟨rfl, rfl⟩
    · exact cal_mono (s0_ok T x C h) (by decide)
    · exact c_of_may T
  · rcases h with h | ⟨rfl, rfl⟩
    · exact s0_g T x C h
    · exact T.g_of_may
  · rcases h with h | h
    · obtain ⟨C', h1, h2⟩ := s0_c u h
      exact ⟨C', .inl h1, h2⟩
    · refine ⟨May, .inr ⟨?_, rfl⟩, h⟩
      cases u with
      | may _ _ _ _ => rfl
      | _ => exact h.elim
def spTurn (K : PySem.W.Frag) : Sp := sp4 fun x y z t H Q => ∃ (u : Nt) (d : Int) (p : Rat) (as : List Bool), u.Is K H x ∧ Mn u ∧ y = .int d ∧ Am K H z p ∧ Sz 11 p ∧ AnsR K H t as ∧ ∀ v H', Same H H' → Tr.Is K H' v (u.live d p as).tr → Q v H'
theorem c_turned (T : Tx P w K mg base) : CalK P w K mg base 13 "turned" (spTurn K) 3 ["answers"] (fun vs zs => vs ++ zs) := by
  obtain ⟨fd, F⟩ := T.f_turned
  have fn : FnOk P w K mg base CX0 13 (He.ga K "turned") fd ["note", "date", "price", "answers"] (spTurn K) := by
    refine F.ok sc_turned len4 fun cdv A0 outer s0 H vs Q E hr h => ?_
    obtain ⟨_, _, _, _, rfl, u, d, p, as, hu, mu, rfl, hp, sp, ⟨a, rfl, ha⟩, q⟩ := h
    refine ⟨_, PSs.nox (pss_cons (ps_set (i := 4) sc_turned.nd rfl (by first | exact Or.inl rfl | exact Or.inr rfl) (pe_c (c_lived2 T) hr (by omega) rfl (pa_cons (pv 0) (pa_cons (pv 1) (pa_cons (pv 2) (pa_cons (pe_callTy call_tupleT (by rfl) T.b_tuple (by decide +kernel) (pa_cons (pv 3) pa_nil)) pa_nil))))))
        (pss_one (ps_ret (pe_ifExp (pt_cmpR op_eq (pe_ix ix_tup (pv 4) pe_int (fun _ _ => rfl)) pe_str (nomark _)) (pv 4) (pe_tup (pa_cons pe_str (pa_cons (pe_ix ix_tup (pv 4) pe_int (fun _ _ => rfl)) (pa_cons (pe_ix ix_tup (pv 4) pe_int (fun _ _ => rfl)) pa_nil)))))))), ?_⟩
    refine ⟨_, rfl, _, rfl, _, rfl, _, rfl, a, _, rfl, ha, _, _, _, _, rfl, u, d, p, as, a, hu, mu, rfl, hp, sp, rfl, ha, fun v H1 e1 hv => ?_⟩
    cases hl : u.live d p as with
    | ask o nm =>
      rw [hl] at hv q
      obtain ⟨b, rfl, t⟩ := hv
      exact ⟨_, rfl, _, _, _, _, rfl, rfl, t, at0, rfl, _, rfl, decT rfl ⟨_, rfl, q _ _ e1 ⟨b, rfl, t⟩⟩⟩
    | fin q' m as' =>
      rw [hl] at hv q
      obtain ⟨b, x, y, z, rfl, t, hm, hn, hs⟩ := hv
      refine ⟨_, rfl, _, _, _, _, rfl, rfl, t, at0, rfl, _, rfl, decF (str_ne (by decide)) ?_⟩
      refine ⟨_, rfl, _, _, _, _, rfl, rfl, t, at1, _, rfl, _, _, _, _, rfl, rfl, t, at2, by show 3 ≤ sizeLine; decide, fun r nr => ?_⟩
      exact q _ _ (e1.trans (same_new nr)) ⟨r, x, y, rfl, SqT.of upd_same, hm.s (same_new nr), hn.s (same_new nr)⟩
  obtain ⟨mv, hb⟩ := F.kbinds0 (ps := ["note", "date", "price", "answers"]) 3 ["answers"] [] (fun us _ ws => us ++ ws) (by simp) (fun _ h => (List.not_mem_nil h).elim) (fun r1 _ r3 => r1.append r3) fun D doc pm an cdv ct us mv ws h1 h2 h3 => match us, mv, ws, h1, h2, h3 with | [_, _, _], [], [_], _, _, _ => rfl
  exact ⟨_, fd, _, _, fn, T.g_turned, F.kp, hb⟩
theorem ans_dp {K : PySem.W.Frag} {H : Hp} : ∀ {vs : List V} {asl : List (List Bool)}, All2 (AnsR K H) vs asl → DpAll K H vs (asl.map fun as => .tuple (as.map PyData.bool))
  | [], [], _ => .nil
  | _ :: _, as :: _, ⟨⟨a, r, t⟩, h⟩ => by
    subst r
    exact .cons (.tup t (bls_dp as)) (ans_dp h)
theorem ans_lay : ∀ asl : List (List Bool), PyData.canLayAll0 (asl.map fun as => .tuple (as.map PyData.bool)) = true
  | [] => rfl
  | as :: asl => by
    show (PyData.canLayAll0 (as.map PyData.bool) && PyData.canLayAll0 (asl.map fun as => .tuple (as.map PyData.bool))) = true
    rw [bls_lay, ans_lay asl]
    rfl
theorem ans_depth : ∀ asl : List (List Bool), PyData.depthAll (asl.map fun as => .tuple (as.map PyData.bool)) ≤ 1
  | [] => by decide
  | as :: asl => Nat.max_le.mpr ⟨by have := bls_depth as; show PyData.depthAll (as.map PyData.bool) + 1 ≤ 1; omega, ans_depth asl⟩
theorem ans_shaped (asl : List (List Bool)) : SeqAt.shaped (.list (asl.map fun as => .tuple (as.map PyData.bool))) = true := by
  have h := ans_depth asl
  show (PyData.canLayAll0 (asl.map fun as => .tuple (as.map PyData.bool)) && decide (PyData.depthAll (asl.map fun as => .tuple (as.map PyData.bool)) + 1 ≤ 64)) = true
  rw [ans_lay, decide_eq_true (by omega)]
  rfl
theorem ans_eqv (asl : List (List Bool)) : PyData.eqv (.list (asl.map fun as => .tuple (as.map PyData.bool))) (.list []) = asl.isEmpty := by
  cases asl <;> rfl
/-- where endings stands: the answers to do, the rests found -/
def Conf (u : Nt) (d : Int) (p : Rat) (k : Nat) (asl : List (List Bool)) (dn : List Nt) : Prop :=
  (k = 4 ∧ asl = [[]] ∧ dn = []) ∨ (k = 3 ∧ asl = [[false], [true]] ∧ dn = [] ∧ ∃ o nm, u.live d p [] = .ask o nm) ∨ (k = 2 ∧ asl = [[false]] ∧ (∃ o nm, u.live d p [] = .ask o nm) ∧ ∃ q n as, u.live d p [true] = .fin q n as ∧ dn = [n]) ∨ (k = 1 ∧ asl = [] ∧ dn = Ends u d p)
theorem both_fin {s : Nt} (h : Both s) (d : Int) (p : Rat) (hp : Sz 11 p) (as : List Bool) : ∃ v s', s = .both (.now v) s' ∧ v.Ok 2 ∧ Leaf s' ∧ ∃ q m, s'.live d p as = .fin q m as ∧ s.live d p as = .fin (v.eval p + q) m as := by
  match s, h with
  | .both (.now v) s', ⟨ov, ls⟩ =>
    obtain ⟨q, m, hs, _, _⟩ := leaf_fin ls d p hp as
    refine ⟨v, s', rfl, ov, ls, q, m, hs, ?_⟩
    show (Rs.fin (v.eval p) .none as).add (s'.live d p) = _
    unfold Rs.add
    dsimp only
    rw [hs]
theorem over_fin (d k : Int) (o : Str) (l : Nt) (q : Rat) (m : Nt) (as : List Bool) : ∃ n, (Rs.fin q m as).over d k o l = .fin q n as := by
  unfold Rs.over
  dsimp only
  split
  · exact ⟨_, rfl⟩
  · exact ⟨_, rfl⟩
/-- after a date's answer nothing more is asked -/
theorem mn_two {u : Nt} (h : Mn u) (d : Int) (p : Rat) (hp : Sz 11 p) (c : Bool) : ∃ q n as, u.live d p [c] = .fin q n as := by
  rcases h with h | h
  · obtain ⟨q, m, e, _⟩ := leaf_fin h d p hp [c]
    exact ⟨q, m, _, e⟩
  · match u, h with
    | .may o k s l, ⟨ls, bl⟩ =>
      by_cases hin : 0 ≤ d ∧ d ≤ k
      · cases c with
        | true =>
          obtain ⟨v, s', _, _, _, q, m, _, e⟩ := both_fin bl d p hp []
          exact ⟨_, _, _, (live_yes hin).trans e⟩
        | false =>
          obtain ⟨q, m, e, _⟩ := leaf_fin ls d p hp []
          obtain ⟨n, e2⟩ := over_fin d k o l q m []
          exact ⟨_, _, _, (live_no hin).trans ((congrArg (Rs.over d k o l) e).trans e2)⟩
      · obtain ⟨q, m, e, _⟩ := leaf_fin ls d p hp [c]
        obtain ⟨n, e2⟩ := over_fin d k o l q m [c]
        exact ⟨_, _, _, (live_out hin).trans ((congrArg (Rs.over d k o l) e).trans e2)⟩
theorem conf_step {u : Nt} {d : Int} {p : Rat} {k : Nat} {asl : List (List Bool)} {dn : List Nt} (mu : Mn u) (hp : Sz 11 p) (h : Conf u d p k asl dn) : (asl = [] ∧ dn = Ends u d p) ∨ ∃ front as, asl = front ++ [as] ∧ as.length ≤ 1 ∧ front.length ≤ 1 ∧ dn.length ≤ 2 ∧ (∀ o nm, u.live d p as = .ask o nm → ∃ k', k' < k ∧ Conf u d p k' (front ++ [as ++ [false], as ++ [true]]) dn) ∧ ∀ q n as', u.live d p as = .fin q n as' → ∃ k', k' < k ∧ Conf u d p k' front (dn ++ [n]) := by
  rcases h with ⟨rfl, rfl, rfl⟩ | ⟨rfl, rfl, rfl, ha⟩ | ⟨rfl, rfl, ⟨o, nm, ha⟩, q1, n1, as1, ht, rfl⟩ | ⟨rfl, rfl, h⟩
  · refine .inr ⟨[], [], rfl, by decide, by decide, by decide, fun o nm e => ⟨3, by decide, .inr (.inl ⟨rfl, rfl, rfl, o, nm, e⟩)⟩, fun q n as' e => ⟨1, by decide, .inr (.inr (.inr ⟨rfl, rfl, ?_⟩))⟩⟩
    unfold Ends
    rw [e]
    rfl
  · refine .inr ⟨[[false]], [true], rfl, by decide, by decide, by decide, fun o nm e => ?_, fun q n as' e => ⟨2, by decide, .inr (.inr (.inl ⟨rfl, rfl, ha, q, n, as', e, rfl⟩))⟩⟩
    obtain ⟨q, n, as', z⟩ := mn_two mu d p hp true
    rw [z] at e
    cases e
  · refine .inr ⟨[], [false], rfl, by decide, by decide, by simp, fun o nm e => ?_, fun q n as' e => ⟨1, by decide, .inr (.inr (.inr ⟨rfl, rfl, ?_⟩))⟩⟩
    · obtain ⟨q, n, as', z⟩ := mn_two mu d p hp false
      rw [z] at e
      cases e
    · unfold Ends
      rw [ha, ht, e]
      rfl
  · exact .inl ⟨rfl, h⟩
theorem All2.unsnoc {α : Type} {R : V → α → Prop} {x : α} : ∀ {vs : List V} {xs : List α}, All2 R vs (xs ++ [x]) → ∃ vs' v, vs = vs' ++ [v] ∧ All2 R vs' xs ∧ R v x
  | [v], [], h => ⟨[], v, rfl, trivial, h.1⟩
  | v :: vs, y :: xs, h => by
    obtain ⟨vs', v', rfl, a, b⟩ := All2.unsnoc (xs := xs) h.2
    exact ⟨v :: vs', v', rfl, ⟨h.1, a⟩, b⟩
  | v :: v2 :: vs, [], h => h.2.elim
  | [], xs, h => by cases xs <;> exact h.elim
def spEndings (K : PySem.W.Frag) : Sp := sp3 fun x y z H Q => ∃ (u : Nt) (d : Int) (p : Rat), u.Is K H x ∧ Mn u ∧ y = .int d ∧ Am K H z p ∧ Sz 11 p ∧ ∀ F vs H', Same H H' → H' F = some (.lst vs) → All2 (EndR K H') vs (Ends u d p) → Q (.ref F) H'
theorem c_endings (T : Tx P w K mg base) : Cal P w K mg base 14 "endings" (spEndings K) [] := by
  refine mkC T.f_endings T.g_endings sc_endings len3 (fun _ _ _ _ _ _ us hl => match us, hl with | [_, _, _], _ => rfl) fun cdv A0 outer s0 H vs Q E hr h => ?_
  obtain ⟨x, _, z, rfl, u, d, p, hu, mu, rfl, hp, sp, q⟩ := h
  refine ⟨_, (pss_cons (ps_set (i := 3) sc_endings.nd rfl (by first | exact Or.inl rfl | exact Or.inr rfl) (pe_lst pa_nil))
        (pss_cons (ps_set (i := 4) sc_endings.nd rfl (by first | exact Or.inl rfl | exact Or.inr rfl) (pe_lst (pa_cons (pe_tup pa_nil) pa_nil)))
        (pss_cons (ps_while PassesOwn.never (pt_cmpR (op_neD (un64 hr)) (pv 4) (pe_lst pa_nil) (nomark _)) (pss_cons (ps_set (i := 5) sc_endings.nd rfl (by first | exact Or.inl rfl | exact Or.inr rfl) (pe_bm0 PySem.F.plainAttrs_list PySem.F.slot_list_pop PySem.F.type_list_pop mt_pop (pv 4)))
        (pss_cons (ps_set (i := 6) sc_endings.nd rfl (by first | exact Or.inl rfl | exact Or.inr rfl) (pe_cK (c_turned T) hr (by omega) rfl (pa_cons (pv 0) (pa_cons (pv 1) (pa_cons (pv 2) pa_nil))) (pk_cons (pv 5) pk_nil)))
        (pss_one (ps_if (pt_cmpR op_eq (pe_ix ix_tup (pv 6) pe_int (fun _ _ => rfl)) pe_str (nomark _)) (pss_one (ps_expr (pe_bm PySem.F.plainAttrs_list PySem.F.slot_list_extend PySem.F.type_list_extend mt_extend (pv 4) (pa_cons (pe_lst (pa_cons (pe_op op_catA (pv 5) (pe_tup (pa_cons pe_bl pa_nil))) (pa_cons (pe_op op_catA (pv 5) (pe_tup (pa_cons pe_bl pa_nil))) pa_nil))) pa_nil)))) (pss_one (ps_expr (pe_bm PySem.F.plainAttrs_list PySem.F.slot_list_append PySem.F.type_list_append mt_append (pv 3) (pa_cons (pe_tup (pa_cons (pv 5) (pa_cons (pe_ix ix_tup (pv 6) pe_int (fun _ _ => rfl)) (pa_cons (pe_ix ix_tup (pv 6) pe_int (fun _ _ => rfl)) pa_nil)))) pa_nil)))))))))
        (pss_one (ps_ret (pv 3)))))), ?_⟩
  refine ⟨by decide, fun F nF => ⟨by decide, fun e0 n0 => ⟨by show 1 ≤ sizeLine; decide, fun TD nTD => ?_⟩⟩⟩
  have nF0 : H F = none := nF
  have nT2 := none_upd nTD
  have nT3 := none_upd nT2.1
  have e0F : e0 ≠ F := (none_upd n0).2
  have TF : TD ≠ F := nT3.2
  have SS : Same H (upd (upd (upd H F (.lst [])) e0 (.tup [])) TD (.lst [.ref e0])) := ((same_new nF).trans (same_new n0)).trans (same_new nTD)
  refine ⟨fun k σ H' => ∃ tvs fvs asl dn x5 x6, σ = [some x, some (.int d), some z, some (.ref F), some (.ref TD), x5, x6] ∧ H' TD = some (.lst tvs) ∧ All2 (AnsR K H') tvs asl ∧ H' F = some (.lst fvs) ∧ All2 (EndR K H') fvs dn ∧ Same H H' ∧ Conf u d p k asl dn, ⟨4, [.ref e0], [], [[]], [], _, _, rfl, upd_same, ⟨⟨e0, rfl, SqT.of (by rw [upd_ne (fun z => nT2.2 z.symm), upd_same]; rfl)⟩, trivial⟩, by rw [upd_ne TF.symm, upd_ne e0F.symm, upd_same], trivial, SS, .inl ⟨rfl, rfl, rfl⟩⟩, ?_⟩
  rintro k σ H1 ⟨tvs, fvs, asl, dn, x5, x6, rfl, hT, hasl, hF, hdn, e1, conf⟩
  refine ⟨_, rfl, by decide, fun e2 n2 => ?_⟩
  have S2 : Same H1 (upd H1 e2 (.lst [])) := same_new n2
  refine ⟨.list _, .list [], .lst (SqL.of (S2 _ _ hT)) (ans_dp (hasl.mono fun _ _ m => m.tk (tkS S2))), .lst (SqL.of upd_same) .nil, ans_shaped _, rfl, _, rfl, ?_⟩
  rw [ans_eqv]
  rcases conf_step mu sp conf with ⟨rfl, rfl⟩ | ⟨front, as, rfl, la, lf, ld, hA, hE⟩
  · exact iteF ⟨_, rfl, q F fvs _ (e1.trans S2) (S2 _ _ hF) (hdn.mono fun _ _ m => m.tk (tkS S2))⟩
  have hb : (!(front ++ [as]).isEmpty) = true := by cases front <;> rfl
  rw [hb]
  obtain ⟨tf, y, rfl, htf, hy⟩ := hasl.unsnoc
  refine iteT ⟨fun σ' H' => ∃ k', k' < k ∧ ∃ tvs fvs asl dn x5 x6, σ' = [some x, some (.int d), some z, some (.ref F), some (.ref TD), x5, x6] ∧ H' TD = some (.lst tvs) ∧ All2 (AnsR K H') tvs asl ∧ H' F = some (.lst fvs) ∧ All2 (EndR K H') fvs dn ∧ Same H H' ∧ Conf u d p k' asl dn, fun σ' H' ⟨k', l, w⟩ => ⟨k', l, w⟩, ?_⟩
  have hT2 := S2 _ _ hT
  have lt : tf.length ≤ 1 := by rw [htf.len]; exact lf
  refine ⟨_, rfl, .inl ⟨rfl, _, SqL.of hT2⟩, TD, tf ++ [y], y, rfl, rfl, hT2, by simp, ?_⟩
  rw [List.dropLast_concat]
  have T3 : TK K H1 (upd (upd H1 e2 (.lst [])) TD (.lst tf)) := (tkS S2).trans (tk_l hT2)
  have e3 : Same H (upd (upd H1 e2 (.lst [])) TD (.lst tf)) := (e1.trans S2).trans' nT3.1
  refine ⟨_, rfl, _, rfl, _, rfl, _, rfl, rfl, rfl, _, _, _, _, rfl, u, d, p, as, hu.s e3, mu, rfl, hp.s e3, sp, hy.tk T3, fun v H4 e4 hv => ?_⟩
  have T4 : TK K H1 H4 := T3.trans (tkS e4)
  have hT4 : H4 TD = some (.lst tf) := e4 _ _ upd_same
  have hF4 : H4 F = some (.lst fvs) := e4 _ _ (by rw [upd_ne TF.symm]; exact S2 _ _ hF)
  have E4 := e3.trans e4
  have lfv : fvs.length ≤ 2 := by rw [hdn.len]; exact ld
  obtain ⟨ya, rfl, ty⟩ := hy
  cases hl : u.live d p as with
  | ask o nm =>
    rw [hl] at hv
    obtain ⟨b, rfl, t⟩ := hv
    obtain ⟨k', hk', conf'⟩ := hA o nm hl
    refine ⟨_, rfl, _, _, _, _, rfl, rfl, t, at0, rfl, _, rfl, decT rfl ?_⟩
    refine ⟨_, rfl, .inl ⟨rfl, _, SqL.of hT4⟩, _, rfl, by decide, fun r1 n1 => ?_⟩
    have s1 := same_new (o := .tup [.bl false]) n1
    refine cat_rd (T4.trans (tkS s1) _ _ ty) (SqT.of upd_same) (by omega) fun w1 H5 e5 h5 => ?_
    refine ⟨_, rfl, by decide, fun r2 n2 => ?_⟩
    have s2 := same_new (o := .tup [.bl true]) n2
    have s12 := (s1.trans e5).trans s2
    refine cat_rd (T4.trans (tkS s12) _ _ ty) (SqT.of upd_same) (by omega) fun w2 H6 e6 h6 => ?_
    refine ⟨by show 2 ≤ sizeLine; decide, fun L nL => ?_⟩
    have s3 := same_new (o := .lst [w1, w2]) nL
    have s16 := (s12.trans e6).trans s3
    refine ⟨TD, L, tf, [w1, w2], rfl, rfl, s16 _ _ hT4, upd_same, Nat.le_trans (show tf.length + 2 ≤ 3 by omega) (by decide), ?_⟩
    have tl : TK K (upd H6 L (.lst [w1, w2])) (upd (upd H6 L (.lst [w1, w2])) TD (.lst (tf ++ [w1, w2]))) := tk_l (s16 _ _ hT4)
    refine ⟨k', hk', tf ++ [w1, w2], fvs, _, dn, _, _, rfl, upd_same, ?_, by rw [upd_ne TF.symm]; exact s16 _ _ hF4, hdn.mono fun _ _ m => m.tk ((T4.trans (tkS s16)).trans tl), (E4.trans s16).trans' nT3.1, conf'⟩
    have a1 := All2.snoc (htf.mono fun _ _ m => m.tk ((T4.trans (tkS s16)).trans tl)) (h5.tk ((tkS ((s2.trans e6).trans s3)).trans tl))
    have a2 := All2.snoc a1 (h6.tk ((tkS s3).trans tl))
    rw [List.append_assoc, List.append_assoc] at a2
    exact a2
  | fin q' n' as' =>
    rw [hl] at hv
    obtain ⟨b, x1, y1, rfl, t, hm, hn⟩ := hv
    obtain ⟨k', hk', conf'⟩ := hE q' n' as' hl
    refine ⟨_, rfl, _, _, _, _, rfl, rfl, t, at0, rfl, _, rfl, decF (str_ne (by decide)) ?_⟩
    refine ⟨_, rfl, .inl ⟨rfl, _, SqL.of hF4⟩, _, rfl, _, rfl, _, _, _, _, rfl, rfl, t, at1, _, rfl, _, _, _, _, rfl, rfl, t, at2, by show 3 ≤ sizeLine; decide, fun r1 n1 => ?_⟩
    have s1 := same_new (o := .tup [.ref ya, x1, y1]) n1
    refine ⟨F, fvs, _, rfl, rfl, s1 _ _ hF4, Nat.lt_of_le_of_lt lfv (by decide), ?_⟩
    have tl : TK K (upd H4 r1 (.tup [.ref ya, x1, y1])) (upd (upd H4 r1 (.tup [.ref ya, x1, y1])) F (.lst (fvs ++ [.ref r1]))) := tk_l (s1 _ _ hF4)
    have r1F : r1 ≠ F := fun z => by rw [z, hF4] at n1; cases n1
    exact ⟨k', hk', tf, fvs ++ [.ref r1], front, dn ++ [n'], _, _, rfl, by rw [upd_ne TF]; exact s1 _ _ hT4, htf.mono fun _ _ m => m.tk ((T4.trans (tkS s1)).trans tl), upd_same, All2.snoc (hdn.mono fun _ _ m => m.tk ((T4.trans (tkS s1)).trans tl)) ⟨r1, _, _, _, rfl, SqT.of (by rw [upd_ne r1F, upd_same]), Nt.Is.tk ((tkS s1).trans tl) hn⟩, (E4.trans s1).trans' nF0, conf'⟩
end
end K37
set_option Elab.async false
set_option linter.all false
set_option maxRecDepth 100000
set_option maxHeartbeats 4000000
namespace K37
open PySem PySem.Spec PyProof.Rows L2
open C8 (Cal Met Mak CalAt pe_c pe_mt pe_mt0 pe_mk pe_gc tCut pss_cut)
/-! ### {k: v}, the key a tuple -/
def tDisp1 (tk tv : TE) : TE := fun σ H Q => ∀ p, H p = none → tk σ (upd H p (.dT [])) fun x H1 => tv σ H1 fun y H2 => ∃ (b : Addr) (k : List Key), x = .ref b ∧ H2 p = some (.dT []) ∧ H2 b = some (.tup (k.map kV)) ∧ Q (.ref p) (upd H2 p (.dT [(k, y)]))
theorem pe_disp1 {X : Cx} {k v : Expr} {tk tv : TE} {pos : Pos} (hu : X.A.units + 1 < cLine) (hk : PE X k tk) (hv : PE X v tv) : PE X (.Dict [some k] [v] pos) (tDisp1 tk tv) := by
  refine ⟨fun pins s σ H Q I q => ?_⟩
  have hn := I.hok.fresh (Nat.le_refl s.heap.objs.size)
  have I1 := I.laid (a := s.heap.objs.size) (o := .dT []) (h' := s.heap.push { cls := .type "dict", data := .dict #[] }) (t' := s.toks) (fun _ _ q => Heap.get?_push_of_some _ q) (Nat.le_refl _) (dt_empty s.heap I.big)
  rw [arm_eval_Dict, zip_pairTrees [some k] [v] X.env pos rfl rfl, dictDisplay_pairs _ (by simp [pairTrees]) (by simp [pairTrees])]
  refine wpAny_bind (wpAny_standAt (wpAny_bind ?_))
  unfold subDict
  refine wpAny_bind (wpAny_alloc ?_)
  refine wpAny_bind (wpAny_holding ?_)
  rw [if_pos (by simp [pairTrees])]
  refine wpAny_bind (pairTrees_cons_walk (thn (hk.run pins _ σ _ _ I1 (q _ hn)) fun u s1 ⟨x, H1, I2, rx, q1⟩ => thn (hv.run pins s1 σ H1 _ I2 q1) fun w2 s2 ⟨y, H2, I3, ry, b, kk, ex, hD, hb, q2⟩ => pairTrees_nil_walk ?_))
  subst ex
  cases rx
  refine wpAny_holding ?_
  rw [List.forIn_cons]
  refine wpAny_bind (wpAny_bind (wpAny_bind (K37D.put_tup hu I3 hD hb (by decide) ry fun s3 I4 => wpAny_pure ?_)))
  dsimp only
  rw [List.forIn_nil]
  exact wpAny_pure (wpAny_pure (wpAny_pure (wpAny_pure ⟨.ref s.heap.objs.size, _, I4, rfl, q2⟩)))
section
variable {P : Program} {w : World} {K : PySem.W.Frag} {mg : Str → Option Value} {base : Heap}
/-! ### look_both -/
def spLookBoth (K : PySem.W.Frag) : Sp := sp2 fun x y H Q => ∃ (M : Addr → Prop) (W : Web) (n : Nat) (u : Nt) (v : V) (a : Addr), Lat K H x M W n ∧ n ≤ 3 ∧ y = .ref a ∧ H a = some (.lst [v]) ∧ u.Is K H v ∧ u.Ok 5 ∧ ∀ H', Same H H' → Q .non H'
theorem c_look_both (T : Tx P w K mg base) : Cal P w K mg base 9 "look_both" (spLookBoth K) [] := by
  refine mkC T.f_look_both T.g_look_both sc_look_both len2 (fun _ _ _ _ _ _ us hl => match us, hl with | [_, _], _ => rfl) fun cdv A0 outer s0 H vs Q E hr h => ?_
  obtain ⟨_, _, rfl, M, W, n, u, v, a, hL, hn, rfl, ha, hu, ou, q⟩ := h
  refine ⟨_, (pss_cons (ps_if (pt_not (pt_val (pe_callB (cr_all rfl) (by rfl) T.b_all (by decide +kernel) (pa_cons (pe_lc (own := [("note", 2)]) rfl sc_look_both.nd (pi_list (pv 1)) (blkOk_by (own := [("note", 2)]) (N := ["lattice", "notes", "note", "win", "date", "node", "held"]) (sc := defScope s_look_both) (by decide +kernel)) (fun _ _ _ _ _ => (pg_name (i := 2) sc_look_both.nd rfl (by first | exact Or.inl rfl | exact Or.inr rfl))) (fun _ _ _ _ _ => pts_nil) (fun _ _ _ _ _ => (pe_c (c_is_whole T) hr (by omega) rfl (pa_cons (pv 2) pa_nil)))) pa_nil)))) (pss_one ps_never) pss_nil)
        (pss_cons (ps_set (i := 3) sc_look_both.nd rfl (by first | exact Or.inl rfl | exact Or.inr rfl) (pe_mt0 (m_Lattice_win T) hr (by omega) (pv 0)))
        (pss_one (ps_if (pt_cmp (pc_notN (pv 3))) (pss_cons ps_never
        (pss_one ps_never)) pss_nil)))), ?_⟩
  refine ⟨_, rfl, a, rfl, ⟨[v], SqL.of ha⟩, fun D nD => lc_it (n := 1) (walk_list (xs := [v])) (fun k H' => Same H H' ∧ H' D = some (.lst ((List.replicate k true).map V.bl))) ⟨same_new nD, upd_same⟩ (fun i H' hi h => SqL.of (h.1 _ _ ha)) ?_ ?_⟩
  · rintro i y _ H1 hi ⟨e1, hD⟩ ⟨rfl, hy⟩
    have i0 : i = 0 := by omega
    subst i0
    cases hy
    refine ⟨rfl, _, rfl, _, rfl, u, hu.s e1, ou, fun H2 e2 => ?_⟩
    exact ⟨_, e2 _ _ hD, by decide, (e1.trans e2).trans' nD, by rw [upd_same]; rfl⟩
  · rintro H1 ⟨e1, hD⟩
    obtain ⟨La, rfl, hLa, ok⟩ := id hL
    obtain ⟨dx, PA, RA, SA, hla, _⟩ := id hLa
    refine ⟨D, [true], rfl, SqL.of hD, _, rfl, iteF ?_⟩
    refine ⟨_, rfl, La, dx, _, rfl, e1 _ _ hla, rfl, _, rfl, M, W, n, hL.s e1, hn, fun H2 e2 => ?_⟩
    exact ⟨_, rfl, _, rfl, iteF (q H2 (e1.trans e2))⟩
end
end K37
set_option Elab.async false
set_option linter.all false
set_option maxRecDepth 100000
set_option maxHeartbeats 4000000
namespace K37
open PySem PySem.Spec PyProof.Rows L2
open C8 (Cal Met Mak CalAt pe_c pe_mt pe_mt0 pe_mk pe_gc tCut pss_cut)
/-! ### the states of a machine -/
structure Pay where
  e : Int
  u : Vl
  ou : u.Ok 2
  e0 : 0 ≤ e
  e6 : e ≤ 60
def Pay.n (s : Pay) : Nt := .pay s.e s.u
structure Right (s : Pay) where
  o : Str
  k : Int
  c : Rat
  k0 : 0 ≤ k
  ke : k ≤ s.e
  sc : Sz 6 c
  oc : (o = "holder" ∧ c < 0) ∨ (o = "writer" ∧ 0 < c)
def Right.n {s : Pay} (r : Right s) : Nt := .may r.o r.k s.n (.both (.now (.coin r.c)) s.n)
def St (s : Pay) (r : Option (Right s)) (m : Nt) : Prop := m = .none ∨ m = s.n ∨ ∃ x, r = some x ∧ m = x.n
section
variable {s : Pay} {r : Option (Right s)} {m m' : Nt}
theorem Right.len (r : Right s) : r.o.length ≤ 16 := by
  rcases r.oc with ⟨h, _⟩ | ⟨h, _⟩ <;> rw [h] <;> decide
theorem St.mn (h : St s r m) : Mn m := by
  rcases h with rfl | rfl | ⟨x, _, rfl⟩
  · exact .inl trivial
  · exact .inl s.ou
  · exact .inr ⟨s.ou, show Vl.Ok (.coin x.c) 2 from x.sc, s.ou⟩
theorem St.ok (h : St s r m) : m.Ok 5 := by
  rcases h with rfl | rfl | ⟨x, _, rfl⟩
  · trivial
  · exact ⟨s.e0, s.e6, 4, rfl, s.ou.mono (by decide)⟩
  · exact ⟨x.len, x.k0, Int.le_trans x.ke s.e6, 4, rfl, ⟨s.e0, s.e6, 3, rfl, s.ou.mono (by decide)⟩, 3, rfl, ⟨2, rfl, x.sc⟩, ⟨s.e0, s.e6, 2, rfl, s.ou⟩⟩
/-- a text's first sign -/
def hd (x : Str) : Option Nat := x.cps[0]?
theorem hd_append {a b : Str} (h : 0 < a.cps.size) : hd (a ++ b) = hd a := by
  show (a.cps ++ b.cps)[0]? = a.cps[0]?
  rw [Array.getElem?_append_left h]
theorem app_pos {a b : Str} (h : 0 < a.cps.size) : 0 < (a ++ b).cps.size := by
  show 0 < (a.cps ++ b.cps).size
  rw [Array.size_append]
  omega
theorem hd_mk {h : Str} {ts : List Str} (p : 0 < h.cps.size) : hd (mkT h ts) = hd h := by
  unfold mkT
  rw [hd_append (app_pos (app_pos p)), hd_append (app_pos p), hd_append p]
theorem hd_pay (s : Pay) : hd s.n.text = some 112 := hd_mk (h := "pay") (by decide)
theorem hd_may (x : Right s) : hd x.n.text = some 109 := hd_mk (h := "may") (by decide)
theorem hd_none : hd Nt.none.text = some 110 := by decide
/-- the text tells the state -/
theorem St.inj (h : St s r m) (h' : St s r m') (e : m.text = m'.text) : m = m' := by
  have e2 := congrArg hd e
  rcases h with rfl | rfl | ⟨x, hx, rfl⟩ <;> rcases h' with rfl | rfl | ⟨y, hy, rfl⟩
  · rfl
  · rw [hd_none, hd_pay] at e2; cases e2
  · rw [hd_none, hd_may] at e2; cases e2
  · rw [hd_none, hd_pay] at e2; cases e2
  · rfl
  · rw [hd_pay, hd_may] at e2; cases e2
  · rw [hd_none, hd_may] at e2; cases e2
  · rw [hd_pay, hd_may] at e2; cases e2
  · rw [hx] at hy; cases hy; rfl
/-- what a leaf is behind a date -/
def lf (m : Nt) (d : Int) (p : Rat) : Rat × Nt := match m.live d p [] with | .fin q n _ => (q, n) | _ => (0, .none)
theorem lf_none (d : Int) (p : Rat) (as : List Bool) : Nt.none.live d p as = .fin 0 .none as := rfl
theorem lf_pay (s : Pay) (d : Int) (p : Rat) (as : List Bool) : s.n.live d p as = .fin (lf s.n d p).1 (lf s.n d p).2 as ∧ ((lf s.n d p).2 = .none ∨ (lf s.n d p).2 = s.n) ∧ (d < s.e → (lf s.n d p) = (0, s.n)) := by
  unfold lf
  show (if d < s.e then Rs.fin 0 (.pay s.e s.u) as else .fin (if d = s.e then s.u.eval p else 0) .none as) = _ ∧ _
  have e : s.n.live d p [] = (if d < s.e then Rs.fin 0 (.pay s.e s.u) [] else .fin (if d = s.e then s.u.eval p else 0) .none []) := rfl
  rw [e]
  by_cases h : d < s.e
  · rw [if_pos h, if_pos h]
    exact ⟨rfl, .inr rfl, fun _ => rfl⟩
  · rw [if_neg h, if_neg h]
    exact ⟨rfl, .inl rfl, fun z => absurd z h⟩
theorem lf_sz (s : Pay) (d : Int) (p : Rat) (hp : Sz 11 p) : Sz 47 (lf s.n d p).1 := by
  obtain ⟨q, m, e, sq, _⟩ := leaf_fin (s := s.n) s.ou d p hp []
  unfold lf
  rw [e]
  exact sq
/-- a right through a date: asked, or as the stay is -/
theorem live_right (x : Right s) (d : Int) (p : Rat) :
    (0 ≤ d ∧ d ≤ x.k ∧ x.n.live d p [] = .ask x.o "w" ∧ (∀ as, x.n.live d p (true :: as) = .fin (x.c + (lf s.n d p).1) (lf s.n d p).2 as) ∧ (∀ as, x.n.live d p (false :: as) = .fin (lf s.n d p).1 (if x.k ≤ d then (lf s.n d p).2 else x.n) as)) ∨
    (¬ (0 ≤ d ∧ d ≤ x.k) ∧ ∀ as, x.n.live d p as = .fin (lf s.n d p).1 (if x.k ≤ d then (lf s.n d p).2 else .may x.o x.k (lf s.n d p).2 (.both (.now (.coin x.c)) s.n)) as) := by
  have hl := fun as => (lf_pay s d p as).1
  have hlt := (lf_pay s d p []).2.2
  by_cases h : 0 ≤ d ∧ d ≤ x.k
  · refine .inl ⟨h.1, h.2, live_ask h, fun as => (live_yes h).trans ?_, fun as => (live_no h).trans ?_⟩
    · show (Rs.fin x.c .none as).add (s.n.live d p) = _
      unfold Rs.add
      dsimp only
      rw [hl]
    · rw [hl]
      unfold Rs.over
      dsimp only
      by_cases hk : x.k ≤ d
      · rw [if_pos hk, if_pos hk]
      · rw [if_neg hk, if_neg hk, hlt (Int.lt_of_lt_of_le (by omega) x.ke)]
        rfl
  · refine .inr ⟨h, fun as => (live_out h).trans ?_⟩
    rw [hl]
    unfold Rs.over
    dsimp only
    split <;> rfl
/-- the states are closed -/
theorem St.ends (h : St s r m) {d : Int} (d0 : 0 ≤ d) {p : Rat} (hm : m' ∈ Ends m d p) : St s r m' := by
  have hp := (lf_pay s d p []).2.1
  have st : St s r (lf s.n d p).2 := by
    rcases hp with z | z
    · exact .inl z
    · exact .inr (.inl z)
  rcases h with rfl | rfl | ⟨x, hx, rfl⟩
  · rw [show Ends .none d p = [.none] from rfl, List.mem_singleton] at hm
    exact .inl hm
  · unfold Ends at hm
    rw [(lf_pay s d p []).1] at hm
    rw [List.mem_singleton] at hm
    rw [hm]
    exact st
  · unfold Ends at hm
    rcases live_right x d p with ⟨a, b, h1, h2, h3⟩ | ⟨h0, h1⟩
    · rw [h1, h2, h3] at hm
      simp only [List.mem_cons, List.not_mem_nil, or_false] at hm
      rcases hm with rfl | rfl
      · exact st
      · split
        · exact st
        · exact .inr (.inr ⟨x, hx, rfl⟩)
    · rw [h1] at hm
      rw [List.mem_singleton] at hm
      have : x.k ≤ d := by omega
      rw [hm, if_pos this]
      exact st
end
end K37
set_option Elab.async false
set_option linter.all false
set_option maxRecDepth 100000
set_option maxHeartbeats 4000000
namespace K37
open PySem PySem.Spec PyProof.Rows L2
open C8 (Cal Met Mak CalAt pe_c pe_mt pe_mt0 pe_mk pe_gc tCut pss_cut)
/-! ### dicts by tuples -/
def HasKey {κ : Type} (kvs : List (κ × V)) (k : κ) : Prop := ∃ v, (k, v) ∈ kvs
theorem has_put {κ : Type} [DecidableEq κ] {kvs : List (κ × V)} {k : κ} {v : V} : HasKey (putK kvs k v) k := by
  unfold putK
  by_cases h : (kvs.any fun kv => decide (kv.1 = k)) = true
  · rw [if_pos h]
    obtain ⟨x, hx, e⟩ := List.any_eq_true.mp h
    have e := of_decide_eq_true e
    exact ⟨v, List.mem_map.mpr ⟨x, hx, by rw [if_pos e, e]⟩⟩
  · rw [if_neg h]
    exact ⟨v, by simp⟩
theorem has_putO {κ : Type} [DecidableEq κ] {kvs : List (κ × V)} {k k' : κ} {v : V} (h : HasKey kvs k') : HasKey (putK kvs k v) k' := by
  obtain ⟨u, hu⟩ := h
  unfold putK
  by_cases h : (kvs.any fun kv => decide (kv.1 = k)) = true
  · rw [if_pos h]
    by_cases e : k' = k
    · exact ⟨v, List.mem_map.mpr ⟨_, hu, by rw [if_pos e]⟩⟩
    · exact ⟨u, List.mem_map.mpr ⟨_, hu, by rw [if_neg e]⟩⟩
  · rw [if_neg h]
    exact ⟨u, List.mem_append_left _ hu⟩
theorem mem_put {κ : Type} [DecidableEq κ] {kvs : List (κ × V)} {k k' : κ} {v v' : V} (h : (k', v') ∈ putK kvs k v) : (k' = k ∧ v' = v) ∨ (k', v') ∈ kvs := by
  unfold putK at h
  by_cases a : (kvs.any fun kv => decide (kv.1 = k)) = true
  · rw [if_pos a] at h
    obtain ⟨x, hx, e⟩ := List.mem_map.mp h
    by_cases z : x.1 = k
    · rw [if_pos z] at e
      obtain ⟨e1, e2⟩ := Prod.mk.inj e
      exact .inl ⟨e1.symm.trans z, e2.symm⟩
    · rw [if_neg z] at e
      exact .inr (e ▸ hx)
  · rw [if_neg a] at h
    rcases List.mem_append.mp h with h | h
    · exact .inr h
    · obtain ⟨e1, e2⟩ := Prod.mk.inj (List.mem_singleton.mp h)
      exact .inl ⟨e1, e2⟩
theorem val_of {κ : Type} [DecidableEq κ] {kvs : List (κ × V)} {k : κ} (h : HasKey kvs k) : ∃ v, valV kvs k = some v ∧ (k, v) ∈ kvs := by
  obtain ⟨u, hu⟩ := h
  induction kvs with
  | nil => exact absurd hu List.not_mem_nil
  | cons x r ih =>
    by_cases e : x.1 = k
    · refine ⟨x.2, valV_pos e, ?_⟩
      rw [← e]
      exact List.mem_cons_self ..
    · rcases List.mem_cons.mp hu with z | z
      · rw [← z] at e
        exact absurd rfl e
      · obtain ⟨v, h1, h2⟩ := ih z
        exact ⟨v, (valV_neg e).trans h1, List.mem_cons_of_mem _ h2⟩
/-! ### here: node and text to the note -/
def HereOk (K : PySem.W.Frag) (W : Web) (s : Pay) (r : Option (Right s)) (d : Nat) (H : Hp) (kvs : List (List Key × V)) : Prop :=
  ∀ k v, (k, v) ∈ kvs → ∃ (j : Nat) (m : Nt), k = [.inl (j : Int), .inr m.text] ∧ St s r m ∧ m.Is K H v ∧ ∃ P0, W.ps[d]? = some P0 ∧ j < P0.length
theorem HereOk.tk {K : PySem.W.Frag} {W : Web} {s : Pay} {r : Option (Right s)} {d : Nat} {H H' : Hp} {kvs : List (List Key × V)} (h : HereOk K W s r d H kvs) (e : TK K H H') : HereOk K W s r d H' kvs := fun k v hk => by
  obtain ⟨j, m, e1, e2, e3, e4⟩ := h k v hk
  exact ⟨j, m, e1, e2, e3.tk e, e4⟩
/-- both nodes of a step, for every rest -/
def Goes {W : Web} {d j : Nat} (N : Nd W d j) (m : Nt) (kvs : List (List Key × V)) : Prop := ∀ m' ∈ Ends m d N.p, HasKey kvs [.inl N.s.1, .inr m'.text] ∧ HasKey kvs [.inl N.s.2, .inr m'.text]
def Closed (W : Web) (s : Pay) (r : Option (Right s)) (d : Nat) (kvs kvs' : List (List Key × V)) : Prop := ∀ (j : Nat) (m : Nt) v (N : Nd W d j), St s r m → ([.inl (j : Int), .inr m.text], v) ∈ kvs → Goes N m kvs'
theorem tk_d {K : PySem.W.Frag} {H : Hp} {R : Addr} {kvs : List (List Key × V)} {o : HO} (h : H R = some (.dT kvs)) : TK K H (upd H R o) := fun a xs t => (kp_upd (M := (· = R)) rfl).tn (fun a ys q z => by
  rw [show a = R from z, h] at q
  rcases q with q | ⟨o, q⟩ <;> cases q) t
theorem tk_f {K : PySem.W.Frag} {H : Hp} {R : Addr} {od : Obj} {kvs : List (List Key × V)} {o : HO} (h : H R = some (.frz od (.dT kvs))) : TK K H (upd H R o) := fun a xs t => (kp_upd (M := (· = R)) rfl).tn (fun a ys q z => by
  rw [show a = R from z, h] at q
  rcases q with q | ⟨o, q⟩ <;> cases q) t
/-- all as it was but the locked dict -/
def Lk (d : Addr) (od : Obj) (kvs : List (List Key × V)) (H H' : Hp) : Prop := Kp (· = d) H H' ∧ H' d = some (.frz od (.dT kvs))
theorem Lk.s {d : Addr} {od : Obj} {kvs : List (List Key × V)} {H H1 H2 : Hp} (h : Lk d od kvs H H1) (e : Same H1 H2) : Lk d od kvs H H2 := ⟨h.1.trans (kpS e), e _ _ h.2⟩
theorem Lk.fresh {d : Addr} {od : Obj} {kvs : List (List Key × V)} {H H1 : Hp} {p : Addr} {o : HO} (h : Lk d od kvs H H1) (n : H p = none) (ne : p ≠ d) : Lk d od kvs H (upd H1 p o) := ⟨kp_fresh h.1 n, by rw [upd_ne ne.symm]; exact h.2⟩
theorem Lk.un {d : Addr} {od : Obj} {kvs : List (List Key × V)} {H H1 : Hp} (h : Lk d od kvs H H1) (hd : H d = some (.dT kvs)) : Same H (upd H1 d (.dT kvs)) := fun b o e => by
  by_cases z : b = d
  · rw [z, upd_same, ← hd, ← z, e]
  · rw [upd_ne z]; exact h.1 b o e z
theorem Lk.tk {K : PySem.W.Frag} {d : Addr} {od : Obj} {kvs : List (List Key × V)} {H H1 : Hp} (h : Lk d od kvs H H1) (hd : H d = some (.dT kvs)) : TK K H H1 := fun a xs t => h.1.tn (fun a ys q z => by
  rw [show a = d from z, hd] at q
  rcases q with q | ⟨o, q⟩ <;> cases q) t
theorem Lk.base {d : Addr} {od : Obj} {kvs : List (List Key × V)} {H0 H H1 : Hp} (h : Lk d od kvs H H1) (e : Same H0 H) (n : H0 d = none) : Same H0 H1 := fun b o h0 => h.1 b o (e b o h0) (ne_of_none h0 n)
theorem ends_len (m : Nt) (d : Int) (p : Rat) : (Ends m d p).length ≤ 2 := by
  unfold Ends
  split
  · simp
  · split <;> simp
theorem TK.refl {K : PySem.W.Frag} (H : Hp) : TK K H H := fun _ _ h => h
theorem Nd.same {W : Web} {d j : Nat} (N N' : Nd W d j) : N.p = N'.p ∧ N.s = N'.s := by
  have e0 : N.P0 = N'.P0 := Option.some.inj (N.hP0.symm.trans N'.hP0)
  have e1 : N.S0 = N'.S0 := Option.some.inj (N.hS0.symm.trans N'.hS0)
  exact ⟨Option.some.inj (N.hp.symm.trans (e0 ▸ N'.hp)), Option.some.inj (N.hs.symm.trans (e1 ▸ N'.hs))⟩
/-- a step's end by its number -/
theorem Nd.end_ {W : Web} {d j : Nat} (N : Nd W d j) {t : Nat} {st : Int} (h : [N.s.1, N.s.2][t]? = some st) : ∃ i : Nat, st = (i : Int) ∧ i < N.P1.length := by
  obtain ⟨u0, u1, uh, ul, _⟩ := N.ud
  have l1 := (List.getElem?_eq_some_iff.mp uh).1
  have l2 := (List.getElem?_eq_some_iff.mp ul).1
  match t, h with
  | 0, h => cases h; exact ⟨N.s.1.toNat, by omega, l1⟩
  | 1, h => cases h; exact ⟨N.s.2.toNat, by omega, l2⟩
section
variable {P : Program} {w : World} {K : PySem.W.Frag} {mg : Str → Option Value} {base : Heap}
def spLater (K : PySem.W.Frag) : Sp := sp3 fun x y z H Q => ∃ (M : Addr → Prop) (W : Web) (n : Nat) (s : Pay) (r : Option (Right s)) (d : Nat) (p0 da dx L : Addr) (fs : List (Str × V)) (H0 : Hp) (kvs : List (List Key × V)),
  x = .ref p0 ∧ y = .int (d : Nat) ∧ z = .ref da ∧ Lat K H0 (.ref L) M W n ∧ Same H0 H ∧ H0 da = none ∧ H p0 = some (.ins (He.ga K "Machine") dx fs) ∧ fs.lookup ("web" : Str) = some (V.ref L) ∧ d ≤ n ∧ n ≤ 3 ∧ H da = some (.dT kvs) ∧ HereOk K W s r d H kvs ∧ kvs.length ≤ 4 ^ d ∧
  ∀ F kvs' H', Same H H' → H F = none → H' F = some (.dT kvs') → HereOk K W s r (d + 1) H' kvs' → kvs'.length ≤ 4 ^ (d + 1) → (d < n → Closed W s r d kvs kvs') → Q (.ref F) H'
theorem m_Machine_later (T : Tx P w K mg base) : Met P w K mg base 20 (He.ga K "Machine") "later" (spLater K) [] := by
  refine mkM T.cl_Machine T.me_Machine_later T.f_Machine_later sc_Machine_later len3 (fun _ _ _ _ _ _ us hl => match us, hl with | [_, _, _], _ => rfl) fun cdv A0 outer s0 H vs Q E hr h => ?_
  obtain ⟨_, _, _, rfl, M, W, n, s, r, d, p0, da, dx, L, fs, H0, kvs, rfl, rfl, rfl, hL, e0, nda, hp0, hweb, hd, hn, hda, hok, hlen, q⟩ := h
  have hu := hu_of hr
  refine ⟨_, (pss_cons (ps_set (i := 3) sc_Machine_later.nd rfl (by first | exact Or.inl rfl | exact Or.inr rfl) pe_dnewT)
        (pss_cons (ps_if (pt_cmpR op_lt (pv 1) (pe_mt0 (m_Lattice_last T) hr (by omega) (pe_fld (pv 0) rfl)) (nomark _)) (pss_one (ps_lock (ps_for PassesOwn.never rfl (pi_keys (pv 2)) (pg_tup rfl (pgs_cons (pg_name (i := 4) sc_Machine_later.nd rfl (by first | exact Or.inl rfl | exact Or.inr rfl)) (pgs_cons (pg_name (i := 5) sc_Machine_later.nd rfl (by first | exact Or.inl rfl | exact Or.inr rfl)) pgs_nil))) (pss_cons (ps_set (i := 6) sc_Machine_later.nd rfl (by first | exact Or.inl rfl | exact Or.inr rfl) (pe_mt (m_Lattice_price T) hr (by omega) (pe_fld (pv 0) rfl) (pa_cons (pv 1) (pa_cons (pv 4) pa_nil))))
        (pss_one (ps_for PassesOwn.never rfl (pi_list (pe_c (c_endings T) hr (by omega) rfl (pa_cons (pe_dget hu (pv 2) (pe_tup (pa_cons (pv 4) (pa_cons (pv 5) pa_nil))) (fun _ _ => rfl)) (pa_cons (pv 1) (pa_cons (pv 6) pa_nil))))) (pg_tup rfl (pgs_cons (pg_name (i := 7) sc_Machine_later.nd rfl (by first | exact Or.inl rfl | exact Or.inr rfl)) (pgs_cons (pg_name (i := 8) sc_Machine_later.nd rfl (by first | exact Or.inl rfl | exact Or.inr rfl)) (pgs_cons (pg_name (i := 9) sc_Machine_later.nd rfl (by first | exact Or.inl rfl | exact Or.inr rfl)) pgs_nil)))) (pss_one (ps_for PassesOwn.never rfl (pi_tup (pe_mt (m_Lattice_step T) hr (by omega) (pe_fld (pv 0) rfl) (pa_cons (pv 1) (pa_cons (pv 4) pa_nil)))) (pg_name (i := 10) sc_Machine_later.nd rfl (by first | exact Or.inl rfl | exact Or.inr rfl)) (pss_one (ps_dput hu (pv 3) (pe_tup (pa_cons (pv 10) (pa_cons (pe_c (c_note_text T) hr (by omega) rfl (pa_cons (pv 9) pa_nil)) pa_nil))) (pv 9) rfl)))))))))) pss_nil)
        (pss_one (ps_ret (pv 3))))), ?_⟩
  refine fun F nF => ?_
  have S1 : Same H (upd H F (.dT [])) := same_new nF
  obtain ⟨La, rL, hLa, okW⟩ := id hL
  injection rL with rL
  subst rL
  obtain ⟨ldx, lPA, lRA, lSA, hlL, _⟩ := id hLa
  have E1 := e0.trans S1
  have nF0 : H0 F = none := same_none e0 nF
  have Fda : F ≠ da := fun z => by rw [z, hda] at nF; cases nF
  refine ⟨_, rfl, _, rfl, p0, _, dx, fs, _, rfl, S1 _ _ hp0, T.cl_Machine, T.na_Machine_web, hweb, L, ldx, _, rfl, E1 _ _ hlL, rfl, _, rfl, M, W, n, hL.s E1, _, _, rfl, rfl, _, rfl, ite2 (fun hc => ?_) (fun hc => ?_)⟩
  · have hdn : d < n := by have := of_decide_eq_true hc; omega
    refine ⟨da, .dT kvs, S1 _ _ hda, trivial, fun od => ⟨_, rfl, da, od, rfl, .inr ⟨kvs, upd_same, for_it (n := kvs.length) walk_keysT (fun i σ H' => ∃ x4 x5 x6 x7 x8 x9 x10 kvs', σ = [some (.ref p0), some (.int (d : Nat)), some (.ref da), some (.ref F), x4, x5, x6, x7, x8, x9, x10] ∧ Lk da od kvs H H' ∧ H' F = some (.dT kvs') ∧ HereOk K W s r (d + 1) H' kvs' ∧ kvs'.length ≤ 4 * i ∧ ∀ (i' : Nat) k v, i' < i → kvs[i']? = some (k, v) → ∀ (j : Nat) (m : Nt) (N : Nd W d j), St s r m → k = [.inl (j : Int), .inr m.text] → Goes N m kvs') ?_ (fun i σ H' hi ⟨_, _, _, _, _, _, _, _, _, h, _⟩ => h.2) ?_ ?_⟩⟩⟩
    · refine ⟨_, _, _, _, _, _, _, [], rfl, ⟨(kpS S1).trans (kp_upd rfl), upd_same⟩, by rw [upd_ne Fda, upd_same], fun _ _ h => absurd h List.not_mem_nil, Nat.le_refl _, fun i' _ _ h => absurd h (Nat.not_lt_zero _)⟩
    · rintro i x _ _ H2 hi ⟨x4, x5, x6, x7, x8, x9, x10, kv0, rfl, L2, hF2, ok2, len2', done⟩ ⟨rfl, k, v, kq, hk, rfl, hkq⟩
      obtain ⟨v0, hv0, hm0⟩ := val_of ⟨v, List.mem_of_getElem? hk⟩
      obtain ⟨jn, m, rfl, hm, im, P0, hP0, hj⟩ := hok _ _ hm0
      have hp := List.getElem?_eq_getElem hj
      obtain ⟨N, hN, hNp⟩ := okW.nd hdn hP0 hp
      have T2 : TK K H H2 := L2.tk hda
      have E2 : Same H0 H2 := L2.base e0 nda
      have p0da : p0 ≠ da := fun z => by rw [z, hda] at hp0; cases hp0
      have hp2 := L2.1 _ _ hp0 p0da
      have S : ∀ {m' : Nt}, m' ∈ Ends m d N.p → St s r m' := fun h => St.ends hm (by omega) h
      refine ⟨kq, _, rfl, SqT.of hkq, rfl, _, _, rfl, _, _, rfl, rfl, ?_⟩
      -- price
      refine ⟨_, rfl, p0, _, dx, fs, _, rfl, hp2, T.cl_Machine, T.na_Machine_web, hweb, L, ldx, _, rfl, E2 _ _ hlL, rfl, _, rfl, _, rfl, _, _, _, rfl, M, W, n, d, jn, P0, _, hL.s E2, rfl, rfl, hP0, hp, fun pr hpr => ?_⟩
      rw [← hNp] at hpr
      -- endings
      refine ⟨_, rfl, _, rfl, _, rfl, by show 2 ≤ sizeLine; decide, fun kb nkb => ⟨da, v0, rfl, .inr ⟨kvs, [.inl (jn : Int), .inr m.text], kb, .inr ⟨od, same_new nkb _ _ L2.2⟩, rfl, upd_same, hv0.symm⟩, ?_⟩⟩
      have S3 := same_new (o := .tup [.int (jn : Int), .str m.text]) nkb
      refine ⟨_, rfl, _, rfl, _, _, _, rfl, m, d, N.p, im.tk (T2.trans (tkS S3)), hm.mn, rfl, hpr.s S3, N.ps, fun EL evs H4 e4 hE hends => ?_⟩
      have S4 := S3.trans e4
      have lev := hends.len
      have le2 := ends_len m d N.p
      refine ⟨EL, rfl, ⟨evs, SqL.of hE⟩, for_it (n := evs.length) (walk_list (xs := evs)) (fun e σ H' => ∃ x7 x8 x9 x10 kv', σ = [some (.ref p0), some (.int (d : Nat)), some (.ref da), some (.ref F), some (.int (jn : Int)), some (.str m.text), some pr, x7, x8, x9, x10] ∧ Lk da od kvs H H' ∧ H' EL = some (.lst evs) ∧ TK K H4 H' ∧ H' F = some (.dT kv') ∧ HereOk K W s r (d + 1) H' kv' ∧ kv'.length ≤ 4 * i + 2 * e ∧ (∀ k, HasKey kv0 k → HasKey kv' k) ∧ ∀ (e' : Nat) m', e' < e → (Ends m d N.p)[e']? = some m' → HasKey kv' [.inl N.s.1, .inr m'.text] ∧ HasKey kv' [.inl N.s.2, .inr m'.text]) ?_ (fun i σ H' hi ⟨_, _, _, _, _, _, _, h, _⟩ => SqL.of h) ?_ ?_⟩
      · exact ⟨_, _, _, _, kv0, rfl, L2.s S4, hE, TK.refl _, S4 _ _ hF2, ok2.tk (tkS S4), by omega, fun _ h => h, fun e' _ h => absurd h (Nat.not_lt_zero _)⟩
      · rintro e y _ _ H5 he ⟨x7, x8, x9, x10, kv1, rfl, L5, hE5, T5, hF5, ok5, len5, mo5, do5⟩ ⟨rfl, hy⟩
        obtain ⟨m', hm', ⟨ya, ex, ep, ez, rfl, yt, yz⟩⟩ := hends.get hy
        have sm' := S (List.mem_of_getElem? hm')
        refine ⟨ya, _, rfl, T5 _ _ yt, rfl, _, _, rfl, _, _, rfl, _, _, rfl, rfl, ?_⟩
        have E5 := L5.base e0 nda
        have hp5 := L5.1 _ _ hp0 p0da
        refine ⟨_, rfl, p0, _, dx, fs, _, rfl, hp5, T.cl_Machine, T.na_Machine_web, hweb, L, ldx, _, rfl, E5 _ _ hlL, rfl, _, rfl, _, rfl, _, _, _, rfl, M, W, n, d, jn, N, hL.s E5, rfl, rfl, hdn, fun sv ⟨sa, rsv, tsa⟩ => ?_⟩
        subst rsv
        refine ⟨sa, rfl, ⟨_, tsa⟩, for_it (n := 2) (walk_tup (xs := [.int N.s.1, .int N.s.2])) (fun t σ H' => ∃ x10 kv', σ = [some (.ref p0), some (.int (d : Nat)), some (.ref da), some (.ref F), some (.int (jn : Int)), some (.str m.text), some pr, some ex, some ep, some ez, x10] ∧ Lk da od kvs H H' ∧ H' EL = some (.lst evs) ∧ TK K H5 H' ∧ H' F = some (.dT kv') ∧ HereOk K W s r (d + 1) H' kv' ∧ kv'.length ≤ 4 * i + 2 * e + t ∧ (∀ k, HasKey kv1 k → HasKey kv' k) ∧ ∀ (t' : Nat) st, t' < t → [N.s.1, N.s.2][t']? = some st → HasKey kv' [.inl st, .inr m'.text]) ?_ (fun i σ H' hi ⟨_, _, _, _, _, h, _⟩ => h _ _ tsa) ?_ ?_⟩
        · exact ⟨_, kv1, rfl, L5, hE5, TK.refl _, hF5, ok5, by omega, fun _ h => h, fun t' _ h => absurd h (Nat.not_lt_zero _)⟩
        · rintro t x _ _ H6 ht ⟨x10', kv2, rfl, L6, hE6, T6, hF6, ok6, len6, mo6, do6⟩ ⟨rfl, hx⟩
          obtain ⟨st, hst, rfl⟩ : ∃ st, [N.s.1, N.s.2][t]? = some st ∧ x = .int st := by
            match t, hx with
            | 0, hx => cases hx; exact ⟨_, rfl, rfl⟩
            | 1, hx => cases hx; exact ⟨_, rfl, rfl⟩
          obtain ⟨si, rfl, hsi⟩ := N.end_ hst
          have z6 : m'.Is K H6 ez := yz.tk (T5.trans T6)
          refine ⟨_, rfl, _, rfl, _, rfl, _, rfl, _, rfl, m', z6, sm'.ok, fun H7 e7 => ⟨by show 2 ≤ sizeLine; decide, fun kb2 nkb2 => ?_⟩⟩
          have S8 := e7.trans (same_new (o := .tup [.int (si : Int), .str m'.text]) nkb2)
          have hF8 := S8 _ _ hF6
          have i4 : i < 64 := by
            have : 4 ^ d ≤ 64 := Nat.le_trans (Nat.pow_le_pow_right (by decide) (show d ≤ 3 by omega)) (by decide)
            omega
          have sm : kv2.length < sizeLine := Nat.lt_of_le_of_lt (show kv2.length ≤ 1000 by omega) (by decide)
          refine ⟨F, _, rfl, DPut.t (k := [.inl (si : Int), .inr m'.text]) hF8 upd_same sm, ?_⟩
          have L8 := L6.s S8
          have T8 : TK K H6 (upd (upd H7 kb2 (.tup [.int (si : Int), .str m'.text])) F (.dT (putK kv2 [.inl (si : Int), .inr m'.text] ez))) := (tkS S8).trans (tk_d hF8)
          have EF : EL ≠ F := fun z => by rw [z, hF6] at hE6; cases hE6
          refine ⟨_, _, rfl, L8.fresh nF Fda, by rw [upd_ne EF]; exact S8 _ _ hE6, T6.trans T8, upd_same, ?_, ?_, fun k h => has_putO (mo6 k h), ?_⟩
          · intro k' v' hk'
            rcases mem_put hk' with ⟨rfl, rfl⟩ | h
            · exact ⟨si, m', rfl, sm', z6.tk T8, N.P1, N.hP1, hsi⟩
            · obtain ⟨a1, a2, a3, a4, a5, a6⟩ := ok6 k' v' h
              exact ⟨a1, a2, a3, a4, a5.tk T8, a6⟩
          · have := length_putK kv2 [.inl (si : Int), .inr m'.text] ez
            omega
          · intro t' st' ht' hst'
            by_cases z : t' = t
            · subst z
              rw [hst] at hst'
              cases hst'
              exact has_put
            · exact has_putO (do6 t' st' (by omega) hst')
        · rintro _ H6 ⟨x10', kv2, rfl, L6, hE6, T6, hF6, ok6, len6, mo6, do6⟩
          refine ⟨_, _, _, _, kv2, rfl, L6, hE6, T5.trans T6, hF6, ok6, by omega, fun k h => mo6 k (mo5 k h), fun e' m2 he' hm2 => ?_⟩
          by_cases z : e' = e
          · subst z
            rw [hm'] at hm2
            cases hm2
            exact ⟨do6 0 _ (by decide) rfl, do6 1 _ (by decide) rfl⟩
          · obtain ⟨a1, a2⟩ := do5 e' m2 (by omega) hm2
            exact ⟨mo6 _ a1, mo6 _ a2⟩
      · rintro _ H5 ⟨x7, x8, x9, x10, kv1, rfl, L5, hE5, T5, hF5, ok5, len5, mo5, do5⟩
        refine ⟨_, _, _, _, _, _, _, kv1, rfl, L5, hF5, ok5, by omega, fun i' k v' hi' hk' j' m2 N' hm2 ek => ?_⟩
        by_cases z : i' = i
        · subst z
          rw [hk] at hk'
          obtain ⟨eh, -⟩ := Prod.mk.inj (Option.some.inj hk')
          have ek2 := eh.trans ek
          injection ek2 with e1 e2
          injection e1 with e1
          injection e2 with e2
          injection e2 with e2
          have ej : j' = jn := by omega
          subst ej
          have em := St.inj hm hm2 e2
          subst em
          obtain ⟨eP, eS⟩ := N.same N'
          intro m3 hm3
          rw [← eP] at hm3
          obtain ⟨e', he', em⟩ := List.mem_iff_getElem.mp hm3
          have a := do5 e' m3 (by omega) (by rw [List.getElem?_eq_getElem he', em])
          rw [← eS]
          exact a
        · intro m3 hm3
          obtain ⟨a1, a2⟩ := done i' k v' (by omega) hk' j' m2 N' hm2 ek m3 hm3
          exact ⟨mo5 _ a1, mo5 _ a2⟩
    · rintro _ H2 ⟨x4, x5, x6, x7, x8, x9, x10, kv0, rfl, L2, hF2, ok2, len2', done⟩
      have tf : TK K H2 (upd H2 da (.dT kvs)) := tk_f L2.2
      have l4 : 4 * kvs.length ≤ 4 ^ (d + 1) := by rw [Nat.pow_succ]; omega
      refine ⟨L2.2, _, rfl, q F kv0 _ (L2.un hda) nF (by rw [upd_ne Fda]; exact hF2) (ok2.tk tf) (by omega) fun _ j m v N hm hv => ?_⟩
      obtain ⟨i', hi', e⟩ := List.mem_iff_getElem.mp hv
      exact done i' _ _ hi' (by rw [List.getElem?_eq_getElem hi', e]) j m N hm rfl
  · have hdn : ¬ d < n := fun z => hc (decide_eq_true (by omega))
    exact ⟨_, rfl, q F [] _ S1 nF upd_same (fun _ _ h => absurd h List.not_mem_nil) (Nat.zero_le _) fun z => absurd z hdn⟩
end
end K37
set_option Elab.async false
set_option linter.all false
set_option maxRecDepth 100000
set_option maxHeartbeats 4000000
namespace K37
open PySem PySem.Spec PyProof.Rows L2
open C8 (Cal Met Mak CalAt pe_c pe_mt pe_mt0 pe_mk pe_gc tCut pss_cut)
/-! ### rows -/
abbrev Row := Nat × Nat × Nt
def RowD (H : Hp) (v : V) (x : Row) : Prop := ∃ b, v = .ref b ∧ H b = some (.tup [.int (x.1 : Int), .int (x.2.1 : Int), .str x.2.2.text])
/-- no tuple -/
def NT : HO → Prop | .tup _ => False | .frz _ (.tup _) => False | _ => True
def DT (H H' : Hp) : Prop := ∀ b xs, H b = some (.tup xs) → H' b = some (.tup xs)
theorem DT.trans {H H1 H2 : Hp} (a : DT H H1) (b : DT H1 H2) : DT H H2 := fun c xs h => b c xs (a c xs h)
theorem dtS {H H' : Hp} (e : Same H H') : DT H H' := fun b xs h => e b _ h
theorem dtU {H : Hp} {R : Addr} {o o' : HO} (h : H R = some o) (n : NT o) : DT H (upd H R o') := fun b xs hb => by
  rw [upd_ne (fun z => by rw [z, h] at hb; cases hb; exact n)]
  exact hb
theorem tkU {K : PySem.W.Frag} {H : Hp} {R : Addr} {o o' : HO} (h : H R = some o) (n : NT o) : TK K H (upd H R o') := fun a xs t => (kp_upd (M := (· = R)) rfl).tn (fun a ys q z => by
  rw [show a = R from z, h] at q
  rcases q with q | ⟨od, q⟩ <;> (cases q; exact n)) t
theorem RowD.dt {H H' : Hp} {v : V} {x : Row} (h : RowD H v x) (e : DT H H') : RowD H' v x := by
  obtain ⟨b, r, hb⟩ := h
  exact ⟨b, r, e _ _ hb⟩
def topN (s : Pay) : Option (Right s) → Nt | some x => x.n | none => s.n
theorem topN_st (s : Pay) (r : Option (Right s)) : St s r (topN s r) := by
  cases r with
  | none => exact .inr (.inl rfl)
  | some x => exact .inr (.inr ⟨x, rfl, rfl⟩)
abbrev key2 (j : Nat) (m : Nt) : List Key := [.inl (j : Int), .inr m.text]
abbrev key3 (x : Row) : List Key := [.inl (x.1 : Int), .inl (x.2.1 : Int), .inr x.2.2.text]
/-- a row's place is on the lattice -/
def On (W : Web) (d j : Nat) : Prop := ∃ P0, W.ps[d]? = some P0 ∧ j < P0.length
structure RI (W : Web) (n : Nat) (s : Pay) (r : Option (Right s)) (k : Nat) (rows : List Row) (hk : List (List Key × V)) : Prop where
  valid : ∀ x ∈ rows, x.1 < k ∧ x.1 ≤ n ∧ St s r x.2.2 ∧ On W x.1 x.2.1
  sorted : ∀ (i i' : Nat) x x', rows[i]? = some x → rows[i']? = some x' → x.1 < x'.1 → i < i'
  closed : ∀ x ∈ rows, x.1 + 1 < k → x.1 < n → ∀ N : Nd W x.1 x.2.1, ∀ m' ∈ Ends x.2.2 x.1 N.p, ∀ (t i : Nat), [N.s.1, N.s.2][t]? = some (i : Int) → (x.1 + 1, i, m') ∈ rows
  front : ∀ x ∈ rows, x.1 + 1 = k → x.1 < n → ∀ N : Nd W x.1 x.2.1, Goes N x.2.2 hk
  head : (k = 0 ∧ rows = [] ∧ ∃ v, hk = [(key2 0 (topN s r), v)]) ∨ (0 < k ∧ rows[0]? = some (0, 0, topN s r))
theorem RI.step {W : Web} {n : Nat} {s : Pay} {r : Option (Right s)} {k : Nat} {rows ext : List Row} {hk hk' : List (List Key × V)} (h : RI W n s r k rows hk) (kn : k ≤ n)
    (h1 : ∀ x ∈ ext, x.1 = k ∧ HasKey hk (key2 x.2.1 x.2.2) ∧ St s r x.2.2 ∧ On W k x.2.1) (h2 : ∀ (j : Nat) m, St s r m → HasKey hk (key2 j m) → (k, j, m) ∈ ext) (h3 : ext.length = hk.length) (h4 : k < n → Closed W s r k hk hk') : RI W n s r (k + 1) (rows ++ ext) hk' := by
  refine ⟨fun x hx => ?_, fun i i' x x' hx hx' hlt => ?_, fun x hx hk1 hn N m' hm t i ht => ?_, fun x hx hk1 hn N => ?_, ?_⟩
  · rcases List.mem_append.mp hx with hx | hx
    · obtain ⟨a, b, c, d⟩ := h.valid x hx
      exact ⟨by omega, b, c, d⟩
    · obtain ⟨a, _, c, d⟩ := h1 x hx
      exact ⟨by omega, by omega, c, a ▸ d⟩
  · by_cases z : i < rows.length
    · by_cases z' : i' < rows.length
      · rw [List.getElem?_append_left z] at hx
        rw [List.getElem?_append_left z'] at hx'
        exact h.sorted i i' x x' hx hx' hlt
      · omega
    · rw [List.getElem?_append_right (by omega)] at hx
      have a := (h1 x (List.mem_of_getElem? hx)).1
      by_cases z' : i' < rows.length
      · rw [List.getElem?_append_left z'] at hx'
        have b := (h.valid x' (List.mem_of_getElem? hx')).1
        omega
      · rw [List.getElem?_append_right (by omega)] at hx'
        have b := (h1 x' (List.mem_of_getElem? hx')).1
        omega
  · rcases List.mem_append.mp hx with hx | hx
    · by_cases z : x.1 + 1 < k
      · exact List.mem_append_left _ (h.closed x hx z hn N m' hm t i ht)
      · have e : x.1 + 1 = k := by omega
        have g := h.front x hx e hn N m' hm
        have sm := St.ends ((h.valid x hx).2.2.1) (by omega) hm
        refine List.mem_append_right _ ?_
        rw [e]
        refine h2 i m' sm ?_
        match t, ht with
        | 0, ht =>
          have e2 : N.s.1 = (i : Int) := by simpa using ht
          show HasKey hk [.inl (i : Int), .inr m'.text]
          rw [← e2]
          exact g.1
        | 1, ht =>
          have e2 : N.s.2 = (i : Int) := by simpa using ht
          show HasKey hk [.inl (i : Int), .inr m'.text]
          rw [← e2]
          exact g.2
    · have a := (h1 x hx).1
      omega
  · rcases List.mem_append.mp hx with hx | hx
    · have a := (h.valid x hx).1
      omega
    · obtain ⟨a, ⟨v, hv⟩, c, d⟩ := h1 x hx
      obtain ⟨d0, j, m⟩ := x
      dsimp only at a
      subst a
      exact h4 hn j m v N c hv
  · right
    refine ⟨by omega, ?_⟩
    rcases h.head with ⟨rfl, rfl, v, rfl⟩ | ⟨a, b⟩
    · rw [List.nil_append]
      match ext, h3, h1 with
      | [x], _, h1 =>
        obtain ⟨a, ⟨u, hu⟩, c, d⟩ := h1 x (by simp)
        obtain ⟨d0, j, m⟩ := x
        dsimp only at a
        subst a
        have e := (Prod.mk.inj (List.mem_singleton.mp hu)).1
        obtain ⟨e1, e2⟩ := List.cons.inj e
        have e1 : (j : Int) = ((0 : Nat) : Int) := Sum.inl.inj e1
        have e2 : m.text = (topN s r).text := Sum.inr.inj (List.cons.inj e2).1
        have ej : j = 0 := by omega
        have em : m = topN s r := St.inj c (topN_st s r) e2
        rw [List.getElem?_cons_zero, ej, em]
    · rw [List.getElem?_append_left ((List.getElem?_eq_some_iff.mp b).1)]
      exact b
/-- the rows of a date, from the sorted keys -/
theorem ext_of {W : Web} {s : Pay} {r : Option (Right s)} {k : Nat} {hk : List (List Key × V)} : ∀ {js : List (Int × Str)}, (∀ q ∈ js, ∃ (j : Nat) (m : Nt), q = ((j : Int), m.text) ∧ HasKey hk (key2 j m) ∧ St s r m ∧ On W k j) →
    ∃ ext : List Row, js = ext.map (fun x => ((x.2.1 : Int), x.2.2.text)) ∧ ∀ x ∈ ext, x.1 = k ∧ HasKey hk (key2 x.2.1 x.2.2) ∧ St s r x.2.2 ∧ On W k x.2.1
  | [], _ => ⟨[], rfl, fun _ h => absurd h List.not_mem_nil⟩
  | q :: js, h => by
    obtain ⟨j, m, e, a, b, c⟩ := h q (by simp)
    obtain ⟨ext, e2, h2⟩ := ext_of (js := js) fun q hq => h q (by simp [hq])
    refine ⟨(k, j, m) :: ext, by rw [List.map_cons, e, e2], fun x hx => ?_⟩
    rcases List.mem_cons.mp hx with rfl | hx
    · exact ⟨rfl, a, b, c⟩
    · exact h2 x hx
/-! ### kin -/
def KinS (K : PySem.W.Frag) (s : Pay) (r : Option (Right s)) (H : Hp) (kvs : List (Key × V)) : Prop := ∀ k u, (k, u) ∈ kvs → ∃ m, k = .inr m.text ∧ St s r m ∧ m.Is K H u
theorem KinS.tk {K : PySem.W.Frag} {s : Pay} {r : Option (Right s)} {H H' : Hp} {kvs : List (Key × V)} (h : KinS K s r H kvs) (e : TK K H H') : KinS K s r H' kvs := fun k u hk => by
  obtain ⟨m, a, b, c⟩ := h k u hk
  exact ⟨m, a, b, c.tk e⟩
theorem mem_merge {k : Key} {u : V} : ∀ {more kvs : List (Key × V)}, (k, u) ∈ mergeK kvs more → (k, u) ∈ kvs ∨ (k, u) ∈ more
  | [], kvs, h => .inl h
  | x :: r, kvs, h => by
    rcases mem_merge (more := r) (kvs := putK kvs x.1 x.2) h with h | h
    · rcases mem_put h with ⟨rfl, rfl⟩ | h
      · exact .inr (by simp)
      · exact .inl h
    · exact .inr (List.mem_cons_of_mem _ h)
theorem has_mergeL {k : Key} : ∀ {more kvs : List (Key × V)}, HasKey kvs k → HasKey (mergeK kvs more) k
  | [], kvs, h => h
  | x :: r, kvs, h => has_mergeL (more := r) (has_putO h)
theorem has_mergeR {k : Key} : ∀ {more kvs : List (Key × V)}, HasKey more k → HasKey (mergeK kvs more) k
  | x :: r, kvs, ⟨u, hu⟩ => by
    rcases List.mem_cons.mp hu with e | h
    · subst e
      exact has_mergeL (more := r) has_put
    · exact has_mergeR (more := r) ⟨u, h⟩
  | [], kvs, ⟨u, hu⟩ => absurd hu List.not_mem_nil
end K37
set_option Elab.async false
set_option linter.all false
set_option maxRecDepth 100000
set_option maxHeartbeats 4000000
namespace K37
open PySem PySem.Spec PyProof.Rows L2
open C8 (Cal Met Mak CalAt pe_c pe_mt pe_mt0 pe_mk pe_gc tCut pss_cut)
/-! ### dict comprehensions by the turn -/
theorem dc_it {J : It} {n : Nat} {G : Hp → Prop} {Y : Nat → Hp → V → Hp → Prop} (w : Walk J n G Y) {g : TG} {tt : TT} {tk tv : TE} {vs : List Nat} {σ : L2.St} {H1 : Hp} {D : Addr} {Qd : Hp → Prop} (Pv : Nat → Hp → Prop) (h0 : Pv 0 (upd H1 D (.dK []))) (hG : ∀ i H, i ≤ n → Pv i H → G H)
    (hs : ∀ i x H H', i < n → Pv i H → Y i H x H' → g x (wipe σ vs) H' fun σ2 H2 => wipe σ2 vs = wipe σ vs ∧ tt σ2 H2 fun b H3 =>
      if b = true then tk σ2 H3 fun y H4 => tv σ2 H4 fun z H5 => ∃ kvs k, y = kV k ∧ H5 D = some (.dK kvs) ∧ kvs.length < sizeLine ∧ Pv (i + 1) (upd H5 D (.dK (putK kvs k z))) else Pv (i + 1) H3) (hd : ∀ H, Pv n H → Qd H) :
    ∃ W : Nat → Nat → Hp → Prop, (∃ m, W 0 m (upd H1 D (.dK []))) ∧ ∀ i m H, W i m H →
      (J.stop i H ∧ Qd H) ∨ (J.go i H ∧ ∃ Nx : Hp → Prop, (∀ H', Nx H' → ∃ m', m' < m ∧ W (i + 1) m' H') ∧ ∀ x H', J.yld i H x H' → g x (wipe σ vs) H' fun σ2 H2 => wipe σ2 vs = wipe σ vs ∧ tt σ2 H2 fun b H3 =>
        if b = true then tk σ2 H3 fun y H4 => tv σ2 H4 fun z H5 => ∃ kvs k, y = kV k ∧ H5 D = some (.dK kvs) ∧ kvs.length < sizeLine ∧ Nx (upd H5 D (.dK (putK kvs k z))) else Nx H3) := by
  refine ⟨fun i m H => m = n - i ∧ i ≤ n ∧ Pv i H, ⟨n, by simp, Nat.zero_le _, h0⟩, ?_⟩
  rintro i m H ⟨rfl, hi, p⟩
  have q := hG i H hi p
  by_cases hlt : i < n
  · refine .inr ⟨w.goes i H hlt q, Pv (i + 1), fun H' p' => ⟨n - (i + 1), by omega, rfl, hlt, p'⟩, fun x H' y => hs i x H H' hlt p (w.yields i H x H' hlt q y)⟩
  · have e : i = n := by omega
    subst e
    exact .inl ⟨w.stops H q, hd H p⟩
theorem dt_it {J : It} {n : Nat} {G : Hp → Prop} {Y : Nat → Hp → V → Hp → Prop} (w : Walk J n G Y) {g : TG} {tk tv : TE} {vs : List Nat} {σ : L2.St} {H1 : Hp} {D : Addr} {Qd : Hp → Prop} (Pv : Nat → Hp → Prop) (h0 : Pv 0 (upd H1 D (.dT []))) (hG : ∀ i H, i ≤ n → Pv i H → G H)
    (hs : ∀ i x H H', i < n → Pv i H → Y i H x H' → g x (wipe σ vs) H' fun σ2 H2 => wipe σ2 vs = wipe σ vs ∧ tk σ2 H2 fun y H4 => tv σ2 H4 fun z H5 => K37D.Turn1 D (Pv (i + 1)) y z H5) (hd : ∀ H, Pv n H → Qd H) :
    ∃ W : Nat → Nat → Hp → Prop, (∃ m, W 0 m (upd H1 D (.dT []))) ∧ ∀ i m H, W i m H →
      (J.stop i H ∧ Qd H) ∨ (J.go i H ∧ ∃ Nx : Hp → Prop, (∀ H', Nx H' → ∃ m', m' < m ∧ W (i + 1) m' H') ∧ ∀ x H', J.yld i H x H' → g x (wipe σ vs) H' fun σ2 H2 => wipe σ2 vs = wipe σ vs ∧ tk σ2 H2 fun y H4 => tv σ2 H4 fun z H5 => K37D.Turn1 D Nx y z H5) := by
  refine ⟨fun i m H => m = n - i ∧ i ≤ n ∧ Pv i H, ⟨n, by simp, Nat.zero_le _, h0⟩, ?_⟩
  rintro i m H ⟨rfl, hi, p⟩
  have q := hG i H hi p
  by_cases hlt : i < n
  · refine .inr ⟨w.goes i H hlt q, Pv (i + 1), fun H' p' => ⟨n - (i + 1), by omega, rfl, hlt, p'⟩, fun x H' y => hs i x H H' hlt p (w.yields i H x H' hlt q y)⟩
  · have e : i = n := by omega
    subst e
    exact .inl ⟨w.stops H q, hd H p⟩
/-! ### the keys of here -/
theorem ks_of {K : PySem.W.Frag} {W : Web} {s : Pay} {r : Option (Right s)} {k : Nat} {H : Hp} : ∀ {hk : List (List Key × V)}, HereOk K W s r k H hk → ∃ ks : List (Int × Str), hk.map (·.1) = ks.map (fun q => ([.inl q.1, .inr q.2] : List Key)) ∧ ∀ q ∈ ks, ∃ (j : Nat) (m : Nt), q = ((j : Int), m.text) ∧ HasKey hk (key2 j m) ∧ St s r m ∧ On W k j
  | [], _ => ⟨[], rfl, fun _ h => absurd h List.not_mem_nil⟩
  | (k0, v0) :: hk, h => by
    obtain ⟨ks, e, h2⟩ := ks_of (hk := hk) fun k v hkv => h k v (List.mem_cons_of_mem _ hkv)
    obtain ⟨j, m, e1, st, _, on⟩ := h k0 v0 (by simp)
    refine ⟨((j : Int), m.text) :: ks, by rw [List.map_cons, List.map_cons, e, e1], fun q hq => ?_⟩
    rcases List.mem_cons.mp hq with rfl | hq
    · exact ⟨j, m, rfl, ⟨v0, e1 ▸ List.mem_cons_self ..⟩, st, on⟩
    · obtain ⟨j, m, a, ⟨u, hu⟩, b⟩ := h2 q hq
      exact ⟨j, m, a, ⟨u, List.mem_cons_of_mem _ hu⟩, b⟩
theorem All2.app {α : Type} {R : V → α → Prop} {ys : List V} {zs : List α} : ∀ {vs : List V} {xs : List α}, All2 R vs xs → All2 R ys zs → All2 R (vs ++ ys) (xs ++ zs)
  | [], [], _, h => h
  | _ :: _, _ :: _, a, h => ⟨a.1, All2.app a.2 h⟩
theorem paired_get {α β : Type} {R : α → β → Prop} : ∀ {xs : List α} {ys : List β} {i : Nat} {x : α}, Paired R xs ys → xs[i]? = some x → ∃ y, ys[i]? = some y ∧ R x y := by
  intro xs ys i x h
  induction h generalizing i with
  | nil => intro z; simp at z
  | cons a b ih =>
    intro z
    cases i with
    | zero => cases z; exact ⟨_, rfl, a⟩
    | succ i => exact ih z
/-- every row's index is found by its key -/
def SpotOk (rows : List Row) (svs : List (List Key × V)) (k : Nat) : Prop := ∀ (i' : Nat) x, i' < k → rows[i']? = some x → ∃ i : Nat, valV svs (key3 x) = some (.int (i : Int)) ∧ rows[i]? = some x
/-- a machine as it stands -/
def MachAt (K : PySem.W.Frag) (H : Hp) (a : Addr) (W : Web) (n : Nat) (s : Pay) (r : Option (Right s)) (L : Addr) (rows : List Row) : Prop :=
  ∃ dx v RW KN SP rvs kvs svs, H a = some (.ins (He.ga K "Machine") dx [("web", .ref L), ("thing", v), ("rows", .ref RW), ("kin", .ref KN), ("spots", .ref SP)]) ∧ H RW = some (.lst rvs) ∧ All2 (RowD H) rvs rows ∧ H KN = some (.dK kvs) ∧ KinS K s r H kvs ∧ (∀ x ∈ rows, HasKey kvs (.inr x.2.2.text)) ∧
    H SP = some (.dT svs) ∧ SpotOk rows svs rows.length ∧ RI W n s r (n + 1) rows [] ∧ rows.length ≤ 1000
theorem MachAt.s {K : PySem.W.Frag} {H H' : Hp} {a : Addr} {W : Web} {n : Nat} {s : Pay} {r : Option (Right s)} {L : Addr} {rows : List Row} (h : MachAt K H a W n s r L rows) (e : Same H H') : MachAt K H' a W n s r L rows := by
  obtain ⟨dx, v, RW, KN, SP, rvs, kvs, svs, h1, h2, h3, h4, h5, h6, h7, h8, h9⟩ := h
  exact ⟨dx, v, RW, KN, SP, rvs, kvs, svs, e _ _ h1, e _ _ h2, h3.mono fun _ _ m => m.dt (dtS e), e _ _ h4, h5.tk (tkS e), h6, e _ _ h7, h8, h9⟩
/-- a machine under way, before the date k -/
structure MI (K : PySem.W.Frag) (W : Web) (n : Nat) (s : Pay) (r : Option (Right s)) (H0 : Hp) (a dx L RW KN da : Addr) (v : V) (k : Nat) (H : Hp) (rvs : List V) (rows : List Row) (kvs : List (Key × V)) (hk : List (List Key × V)) : Prop where
  self : H a = some (.ins (He.ga K "Machine") dx [("web", .ref L), ("thing", v), ("rows", .ref RW), ("kin", .ref KN)])
  rws : H RW = some (.lst rvs)
  rel : All2 (RowD H) rvs rows
  kin : H KN = some (.dK kvs)
  ks : KinS K s r H kvs
  has : ∀ x ∈ rows, HasKey kvs (.inr x.2.2.text)
  here : H da = some (.dT hk)
  hok : HereOk K W s r k H hk
  hl : hk.length ≤ 4 ^ k
  kl : kvs.length ≤ 64 * k
  rl : rows.length ≤ 64 * k
  ri : RI W n s r k rows hk
  base : Same H0 H
  nda : H0 da = none
section
variable {P : Program} {w : World} {K : PySem.W.Frag} {mg : Str → Option Value} {base : Heap}
def spMachInit (K : PySem.W.Frag) : Sp := sp3 fun x y z H Q => ∃ (M : Addr → Prop) (H0 : Hp) (a dx : Addr) (W : Web) (n : Nat) (s : Pay) (r : Option (Right s)) (L : Addr), x = .ref a ∧ y = .ref L ∧ H0 a = none ∧ H0 dx = none ∧ dx ≠ a ∧ H = upd (upd H0 dx (.own a)) a (.ins (He.ga K "Machine") dx []) ∧
  Lat K H0 (.ref L) M W n ∧ n ≤ 3 ∧ (topN s r).Is K H0 z ∧ ∀ rows H', Same H0 H' → MachAt K H' a W n s r L rows → Q .non H'
theorem m_Machine (T : Tx P w K mg base) : Mak P w K mg base 22 "Machine" (He.ga K "Machine") (spMachInit K) [] := by
  refine mkI T.mk_Machine T.g_Machine T.f_Machine_init sc_Machine_init len3 (fun _ _ _ _ _ _ us hl => match us, hl with | [_, _, _], _ => rfl) fun cdv A0 outer s0 H vs Q E hr h => ?_
  obtain ⟨_, _, z, rfl, M, H0, a, dx, W, n, s, r, L, rfl, rfl, na, ndx, hne, hH, hL, hn, hz, q⟩ := h
  have hu := hu_of hr
  refine ⟨_, (pss_cons (ps_expr (pe_c (c_look_both T) hr (by omega) rfl (pa_cons (pv 1) (pa_cons (pe_lst (pa_cons (pv 2) pa_nil)) pa_nil))))
        (pss_cons (ps_fld (pv 0) (pv 1) rfl)
        (pss_cons (ps_fld (pv 0) (pv 2) rfl)
        (pss_cons (ps_fld (pv 0) (pe_lst pa_nil) rfl)
        (pss_cons (ps_fld (pv 0) pe_dnewK rfl)
        (pss_cons (ps_set (i := 3) sc_Machine_init.nd rfl (by first | exact Or.inl rfl | exact Or.inr rfl) (pe_disp1 hu (pe_tup (pa_cons pe_int (pa_cons (pe_c (c_note_text T) hr (by omega) rfl (pa_cons (pv 2) pa_nil)) pa_nil))) (pv 2)))
        (pss_cons (ps_for PassesOwn.never rfl (pi_range1 (by rfl) T.b_range (pa_cons (pe_op op_add (pe_mt0 (m_Lattice_last T) hr (by omega) (pv 1)) pe_int) pa_nil)) (pg_name (i := 4) sc_Machine_init.nd rfl (by first | exact Or.inl rfl | exact Or.inr rfl)) (pss_cons (ps_expr (pe_bm PySem.F.plainAttrs_list PySem.F.slot_list_extend PySem.F.type_list_extend mt_extend (pe_fld (pv 0) rfl) (pa_cons (pe_lc (own := [("node", 5), ("text", 6)]) rfl sc_Machine_init.nd (pi_list (pe_callB (K37S.call_sortedIS rfl) (by rfl) T.b_sorted (by decide +kernel) (pa_cons (pv 3) pa_nil))) (blkOk_by (own := [("node", 5), ("text", 6)]) (N := ["self", "lattice", "note", "here", "date", "node", "text", "at", "row"]) (sc := defScope s_Machine_init) (by decide +kernel)) (fun _ _ _ _ _ => (pg_tup' (K := K) (n := 2) rfl rfl (pgs_cons (pg_name (i := 5) sc_Machine_init.nd rfl (by first | exact Or.inl rfl | exact Or.inr rfl)) (pgs_cons (pg_name (i := 6) sc_Machine_init.nd rfl (by first | exact Or.inl rfl | exact Or.inr rfl)) pgs_nil)))) (fun _ _ _ _ _ => pts_nil) (fun _ _ _ _ _ => (pe_tup (pa_cons (pv 4) (pa_cons (pv 5) (pa_cons (pv 6) pa_nil)))))) pa_nil)))
        (pss_cons (ps_expr (pe_bm PySem.F.plainAttrs_dict PySem.F.slot_dict_update PySem.F.type_dict_update K37R.mt_update (pe_fld (pv 0) rfl) (pa_cons (pe_lock (pe_dc (own := [("node", 5), ("text", 6)]) rfl sc_Machine_init.nd (pi_keys (pv 3)) (blkOk_by (own := [("node", 5), ("text", 6)]) (N := ["self", "lattice", "note", "here", "date", "node", "text", "at", "row"]) (sc := defScope s_Machine_init) (by decide +kernel)) (fun _ _ _ _ _ => (pg_tup' (K := K) (n := 2) rfl rfl (pgs_cons (pg_name (i := 5) sc_Machine_init.nd rfl (by first | exact Or.inl rfl | exact Or.inr rfl)) (pgs_cons (pg_name (i := 6) sc_Machine_init.nd rfl (by first | exact Or.inl rfl | exact Or.inr rfl)) pgs_nil)))) (fun _ _ _ _ _ => pts_nil) (fun _ _ _ _ _ => (pv 6)) (fun _ _ _ _ _ => (pe_dget hu (pv 3) (pe_tup (pa_cons (pv 5) (pa_cons (pv 6) pa_nil))) (fun _ _ => rfl))))) pa_nil)))
        (pss_one (ps_set (i := 3) sc_Machine_init.nd rfl (by first | exact Or.inl rfl | exact Or.inr rfl) (pe_mt (m_Machine_later T) hr (by omega) (pv 0) (pa_cons (pv 4) (pa_cons (pv 3) pa_nil))))))))
        (pss_one (ps_fld (pv 0) (K37D.pe_dt (own := [("at", 7), ("row", 8)]) hu rfl sc_Machine_init.nd (pi_enum (by rfl) T.b_enumerate (pa_cons (pe_fld (pv 0) rfl) pa_nil)) (blkOk_by (own := [("at", 7), ("row", 8)]) (N := ["self", "lattice", "note", "here", "date", "node", "text", "at", "row"]) (sc := defScope s_Machine_init) (by decide +kernel)) (fun _ _ _ _ _ => (pg_tup' (K := K) (n := 2) rfl rfl (pgs_cons (pg_name (i := 7) sc_Machine_init.nd rfl (by first | exact Or.inl rfl | exact Or.inr rfl)) (pgs_cons (pg_name (i := 8) sc_Machine_init.nd rfl (by first | exact Or.inl rfl | exact Or.inr rfl)) pgs_nil)))) (fun _ _ _ _ _ => (pv 8)) (fun _ _ _ _ _ => (pv 7))) rfl))))))))), ?_⟩
  have e0 : Same H0 H := by rw [hH]; exact same_fresh (same_new ndx) na
  have ha0 : H a = some (.ins (He.ga K "Machine") dx []) := by rw [hH, upd_same]
  obtain ⟨La, rL, hLa, okW⟩ := id hL
  injection rL with rL
  subst rL
  obtain ⟨ldx, lPA, lRA, lSA, hlL, _⟩ := id hLa
  have tst := topN_st s r
  -- look_both
  refine ⟨_, rfl, _, rfl, by show 1 ≤ sizeLine; decide, fun l1 nl1 => ?_⟩
  have s1 := same_new (o := .lst [z]) nl1
  refine ⟨_, _, rfl, M, W, n, topN s r, z, l1, hL.s (e0.trans s1), hn, rfl, upd_same, hz.s (e0.trans s1), tst.ok, fun H1 e1 => ?_⟩
  have E1 : Same H0 H1 := e0.trans (s1.trans e1)
  have ha1 := e1 _ _ (s1 _ _ ha0)
  -- web, thing
  refine ⟨_, rfl, _, rfl, a, _, dx, _, rfl, ha1, T.cl_Machine, T.na_Machine_web, by simp, ?_⟩
  refine ⟨_, rfl, _, rfl, a, _, dx, _, rfl, upd_same, T.cl_Machine, T.na_Machine_thing, by show 1 < 1000; decide, ?_⟩
  rw [upd_upd]
  -- rows, kin
  refine ⟨by decide, fun RW nRW => ⟨_, rfl, a, _, dx, _, rfl, same_new nRW _ _ upd_same, T.cl_Machine, T.na_Machine_rows, by show 2 < 1000; decide, ?_⟩⟩
  refine fun KN nKN => ⟨_, rfl, a, _, dx, _, rfl, same_new nKN _ _ upd_same, T.cl_Machine, T.na_Machine_kin, by show 3 < 1000; decide, ?_⟩
  obtain ⟨nRW1, RWa⟩ := none_upd nRW
  have nKN1 := (none_upd nKN).1
  have KNa := (none_upd nKN).2
  have nKN2 := none_upd nKN1
  have KNRW := nKN2.2
  have nKN3 := (none_upd nKN2.1).1
  have F5 : ∃ H5 : Hp, H5 = upd (upd (upd (upd (upd H1 a (.ins (He.ga K "Machine") dx [("web", .ref L), ("thing", z)])) RW (.lst [])) a (.ins (He.ga K "Machine") dx [("web", .ref L), ("thing", z), ("rows", .ref RW)])) KN (.dK [])) a (.ins (He.ga K "Machine") dx [("web", .ref L), ("thing", z), ("rows", .ref RW), ("kin", .ref KN)]) := ⟨_, rfl⟩
  obtain ⟨H5, h5⟩ := F5
  have ha5 : H5 a = some (.ins (He.ga K "Machine") dx [("web", .ref L), ("thing", z), ("rows", .ref RW), ("kin", .ref KN)]) := by rw [h5, upd_same]
  have hRW5 : H5 RW = some (.lst []) := by rw [h5, upd_ne RWa, upd_ne KNRW.symm, upd_ne RWa, upd_same]
  have hKN5 : H5 KN = some (.dK []) := by rw [h5, upd_ne KNa, upd_same]
  have E5 : Same H0 H5 := by
    rw [h5]
    exact same_fresh (same_fresh (same_fresh (same_fresh (same_fresh E1 na) (same_none E1 nRW1)) na) (same_none E1 nKN3)) na
  have aRW : a ≠ RW := RWa.symm
  have aKN : a ≠ KN := KNa.symm
  show tSeq _ _ _ _ _
  change tSeq _ _ _ _ (upd (upd (upd (upd (upd H1 a (.ins (He.ga K "Machine") dx [("web", .ref L), ("thing", z)])) RW (.lst [])) a (.ins (He.ga K "Machine") dx [("web", .ref L), ("thing", z), ("rows", .ref RW)])) KN (.dK [])) a (.ins (He.ga K "Machine") dx [("web", .ref L), ("thing", z), ("rows", .ref RW), ("kin", .ref KN)]))
  rw [← h5]
  -- here
  refine fun da nda => ?_
  have s6 := same_new (o := .dT []) nda
  refine ⟨_, rfl, _, rfl, topN s r, hz.s (E5.trans s6), tst.ok, fun H6 e6 => ⟨by show 2 ≤ sizeLine; decide, fun kb nkb => ⟨_, rfl, kb, key2 0 (topN s r), rfl, ?_, upd_same, ?_⟩⟩⟩
  · exact same_new nkb _ _ (e6 _ _ upd_same)
  have hda7 : upd H6 kb (.tup [.int 0, .str (topN s r).text]) da = some (.dT []) := same_new nkb _ _ (e6 _ _ upd_same)
  have nda0 : H0 da = none := same_none E5 nda
  have s7 : Same H5 (upd (upd H6 kb (.tup [.int 0, .str (topN s r).text])) da (.dT [(key2 0 (topN s r), z)])) := ((s6.trans e6).trans (same_new nkb)).trans' nda
  have E7 := E5.trans s7
  obtain ⟨P0, hP0⟩ : ∃ P0, W.ps[0]? = some P0 := ⟨_, List.getElem?_eq_getElem (by have := okW.1.len; omega)⟩
  have MI0 : MI K W n s r H0 a dx L RW KN da z 0 (upd (upd H6 kb (.tup [.int 0, .str (topN s r).text])) da (.dT [(key2 0 (topN s r), z)])) [] [] [] [(key2 0 (topN s r), z)] := by
    refine ⟨s7 _ _ ha5, s7 _ _ hRW5, trivial, s7 _ _ hKN5, fun _ _ h => absurd h List.not_mem_nil, fun _ h => absurd h List.not_mem_nil, upd_same, fun k v hk => ?_, by simp, by decide, by decide, ⟨fun _ h => absurd h List.not_mem_nil, fun i i' x x' h => by simp at h, fun _ h => absurd h List.not_mem_nil, fun _ h => absurd h List.not_mem_nil, .inl ⟨rfl, rfl, z, rfl⟩⟩, E7, nda0⟩
    obtain ⟨e1, e2⟩ := Prod.mk.inj (List.mem_singleton.mp hk)
    exact ⟨0, topN s r, e1, tst, e2 ▸ hz.s E7, P0, hP0, (okW.1.row hP0).2.1⟩
  generalize upd (upd H6 kb (.tup [.int 0, .str (topN s r).text])) da (.dT [(key2 0 (topN s r), z)]) = H7 at MI0 E7 s7
  refine ⟨_, rfl, L, ldx, _, rfl, E7 _ _ hlL, rfl, _, rfl, M, W, n, hL.s E7, _, _, rfl, rfl, _, rfl, by omega, by omega, for_it (n := (((n : Nat) : Int) + 1).toNat) walk_range (fun k σ H' => ∃ da x4 x5 x6 x7 x8 rvs rows kvs hk, σ = [some (.ref a), some (.ref L), some z, some (.ref da), x4, x5, x6, x7, x8] ∧ MI K W n s r H0 a dx L RW KN da z k H' rvs rows kvs hk) ⟨da, _, _, _, _, _, _, _, _, _, rfl, MI0⟩ (fun _ _ _ _ _ => trivial) ?_ ?_⟩
  · rintro k _ _ _ H8 hk ⟨da, x4, x5, x6, x7, x8, rvs, rows, kvs, hkv, rfl, mi⟩ ⟨rfl, rfl⟩
    have kn : k ≤ n := by omega
    have zk : (0 : Int) + (k : Int) = (k : Int) := by omega
    obtain ⟨ks, ek, hks⟩ := ks_of mi.hok
    have lks : hkv.length = ks.length := by have := congrArg List.length ek; simpa using this
    have h4 : 4 ^ k ≤ 64 := Nat.le_trans (Nat.pow_le_pow_right (by decide) (show k ≤ 3 by omega)) (by decide)
    have hl := mi.hl
    have kl := mi.kl
    have rl := mi.rl
    have lrel := mi.rel.len
    have E8 := mi.base
    have darw : da ≠ RW := fun z => by have a1 := mi.here; rw [z, mi.rws] at a1; cases a1
    have dakn : da ≠ KN := fun z => by have a1 := mi.here; rw [z, mi.kin] at a1; cases a1
    have daa : da ≠ a := fun z => by have a1 := mi.here; rw [z, mi.self] at a1; cases a1
    -- rows.extend
    refine ⟨_, rfl, a, _, dx, _, _, rfl, mi.self, T.cl_Machine, T.na_Machine_rows, rfl, .inl ⟨rfl, _, SqL.of mi.rws⟩, ?_⟩
    refine ⟨_, rfl, da, hkv, ks, rfl, .inl mi.here, ek, fun bs js p hp hpair np => ?_⟩
    obtain ⟨ext, ej, hext⟩ := ext_of (js := js) (fun q hq => hks q (hp.mem_iff.mp hq))
    have ljs : js.length = ks.length := hp.length_eq
    have lext : ext.length = js.length := by rw [ej, List.length_map]
    have lbs : bs.length = js.length := Paired.length hpair
    have s9 := same_new (o := .lst (bs.map V.ref)) np
    have bsat : ∀ (i : Nat) b, bs[i]? = some b → ∃ x, ext[i]? = some x ∧ H8 b = some (.tup [.int (x.2.1 : Int), .str x.2.2.text]) := by
      intro i b hb
      obtain ⟨j, hj, e⟩ := paired_get hpair hb
      rw [ej, List.getElem?_map] at hj
      cases hx : ext[i]? with
      | none => rw [hx] at hj; cases hj
      | some x =>
        rw [hx] at hj
        have ejx := Option.some.inj hj
        rw [← ejx] at e
        exact ⟨x, rfl, e⟩
    refine ⟨p, rfl, ⟨_, SqL.of upd_same⟩, fun D nD => lc_it (n := (bs.map V.ref).length) (walk_list (xs := bs.map V.ref)) (fun i H' => Same (upd H8 p (.lst (bs.map V.ref))) H' ∧ ∃ acc, H' D = some (.lst acc) ∧ All2 (RowD H') acc (ext.take i)) ⟨same_new nD, [], upd_same, trivial⟩ (fun i H' hi h => SqL.of (h.1 _ _ upd_same)) ?_ ?_⟩
    · rintro i y _ H10 hi ⟨e10, acc, hD, hacc⟩ ⟨rfl, hy⟩
      rw [List.getElem?_map] at hy
      cases hb : bs[i]? with
      | none => rw [hb] at hy; cases hy
      | some b =>
        rw [hb] at hy
        have ey : y = V.ref b := (Option.some.inj hy).symm
        subst ey
        obtain ⟨x, hx, hbx⟩ := bsat i b hb
        have xk := (hext x (List.mem_of_getElem? hx)).1
        refine ⟨b, _, rfl, SqT.of (e10 _ _ (s9 _ _ hbx)), rfl, _, _, rfl, _, _, rfl, rfl, rfl, _, rfl, _, rfl, _, rfl, by show 3 ≤ sizeLine; decide, fun t nt => ?_⟩
        have s11 := same_new (o := .tup [.int (0 + (k : Int)), .int (x.2.1 : Int), .str x.2.2.text]) nt
        have hD2 := s11 _ _ hD
        have tD : t ≠ D := fun z => by rw [z, hD] at nt; cases nt
        have la := hacc.len
        rw [List.length_take] at la
        refine ⟨acc, hD2, Nat.lt_of_le_of_lt (show acc.length ≤ 64 by omega) (by decide), (e10.trans s11).trans' nD, acc ++ [.ref t], upd_same, ?_⟩
        rw [List.take_add_one, hx]
        refine All2.snoc (hacc.mono fun _ _ m => m.dt ((dtS s11).trans (dtU hD2 trivial))) ⟨t, rfl, ?_⟩
        rw [upd_ne tD, upd_same]
        dsimp only
        rw [zk, xk]
    · rintro H10 ⟨e10, acc, hD, hacc⟩
      rw [List.length_map, lbs, ← lext, List.take_length] at hacc
      have e8 := s9.trans e10
      have la := hacc.len
      have RWD : RW ≠ D := fun z => by
        have a1 := s9 _ _ mi.rws
        rw [z, nD] at a1
        cases a1
      refine ⟨RW, D, rvs, acc, rfl, rfl, e8 _ _ mi.rws, hD, Nat.le_trans (show rvs.length + acc.length ≤ 1000 by omega) (by decide), ?_⟩
      have D11 : DT H8 (upd H10 RW (.lst (rvs ++ acc))) := (dtS e8).trans (dtU (e8 _ _ mi.rws) trivial)
      have T11 : TK K H8 (upd H10 RW (.lst (rvs ++ acc))) := (tkS e8).trans (tkU (e8 _ _ mi.rws) trivial)
      have D1011 : DT H10 (upd H10 RW (.lst (rvs ++ acc))) := dtU (e8 _ _ mi.rws) trivial
      have n1011 : ∀ {c : Addr}, c ≠ RW → upd H10 RW (.lst (rvs ++ acc)) c = H10 c := fun h => upd_ne h
      have h11 : ∃ H11 : Hp, H11 = upd H10 RW (.lst (rvs ++ acc)) := ⟨_, rfl⟩
      obtain ⟨H11, e11⟩ := h11
      rw [← e11] at D11 T11 D1011 n1011 ⊢
      have a11 : H11 a = some (.ins (He.ga K "Machine") dx [("web", .ref L), ("thing", z), ("rows", .ref RW), ("kin", .ref KN)]) := (n1011 aRW).trans (e8 _ _ mi.self)
      have rw11 : H11 RW = some (.lst (rvs ++ acc)) := by rw [e11, upd_same]
      have kn11 : H11 KN = some (.dK kvs) := (n1011 KNRW).trans (e8 _ _ mi.kin)
      have da11 : H11 da = some (.dT hkv) := (n1011 darw).trans (e8 _ _ mi.here)
      have E11 : Same H0 H11 := by rw [e11]; exact same_fresh (E8.trans e8) (same_none E1 nRW1)
      have rel11 : All2 (RowD H11) (rvs ++ acc) (rows ++ ext) := (mi.rel.mono fun _ _ m => m.dt D11).app (hacc.mono fun _ _ m => m.dt D1011)
      -- kin.update
      refine ⟨_, rfl, a, _, dx, _, _, rfl, a11, T.cl_Machine, T.na_Machine_kin, rfl, .inr (.inr (.inl ⟨rfl, .inl ⟨_, kn11⟩⟩)), ?_⟩
      refine ⟨da, .dT hkv, da11, trivial, fun od => ⟨_, rfl, da, od, rfl, .inr ⟨hkv, upd_same, fun D2 nD2 => ?_⟩⟩⟩
      have D2da : D2 ≠ da := (none_upd nD2).2
      have nD2' : H11 D2 = none := (none_upd nD2).1
      have okK : HereOk K W s r k H11 hkv := mi.hok.tk T11
      refine dc_it (n := hkv.length) walk_keysT (fun i H' => Lk da od hkv H11 H' ∧ ∃ more, H' D2 = some (.dK more) ∧ KinS K s r H' more ∧ more.length ≤ i ∧ ∀ (i' : Nat) kv, i' < i → hkv[i']? = some kv → ∀ j m, kv.1 = key2 j m → HasKey more (.inr m.text)) ⟨⟨(kp_upd (M := (· = da)) rfl).trans (kpS (same_new nD2)), by rw [upd_ne D2da.symm, upd_same]⟩, [], upd_same, fun _ _ h => absurd h List.not_mem_nil, Nat.le_refl _, fun i' _ h => absurd h (Nat.not_lt_zero _)⟩ (fun i H' hi h => h.1.2) ?_ ?_
      · rintro i y _ H12 hi ⟨L12, more, hD12, km, lm, done⟩ ⟨rfl, key, v, kq, hkq, rfl, hq⟩
        obtain ⟨v0, hv0, hm0⟩ := val_of ⟨v, List.mem_of_getElem? hkq⟩
        obtain ⟨jn, m, rfl, hm, im, on⟩ := okK _ _ hm0
        have T12 : TK K H11 H12 := L12.tk da11
        refine ⟨kq, _, rfl, SqT.of hq, rfl, _, _, rfl, _, _, rfl, rfl, rfl, _, rfl, _, rfl, _, rfl, _, rfl, by show 2 ≤ sizeLine; decide, fun kb nkb => ?_⟩
        have s13 := same_new (o := .tup [.int (jn : Int), .str m.text]) nkb
        refine ⟨da, v0, rfl, .inr ⟨hkv, key2 jn m, kb, .inr ⟨od, s13 _ _ L12.2⟩, rfl, upd_same, hv0.symm⟩, more, .inr m.text, rfl, s13 _ _ hD12, Nat.lt_of_le_of_lt (show more.length ≤ 64 by omega) (by decide), ?_⟩
        have t14 : TK K (upd H12 kb (.tup [.int (jn : Int), .str m.text])) (upd (upd H12 kb (.tup [.int (jn : Int), .str m.text])) D2 (.dK (putK more (.inr m.text) v0))) := tkU (s13 _ _ hD12) trivial
        have t1 := (tkS (K := K) s13).trans t14
        refine ⟨(L12.s s13).fresh nD2' D2da, _, upd_same, ?_, ?_, fun i' kv hi' hkv' j' m' ek => ?_⟩
        · intro k' u' hk'
          rcases mem_put hk' with ⟨rfl, rfl⟩ | h
          · exact ⟨m, rfl, hm, im.tk (T12.trans t1)⟩
          · obtain ⟨m2, a1, a2, a3⟩ := km k' u' h
            exact ⟨m2, a1, a2, a3.tk t1⟩
        · have := length_putK more (.inr m.text) v0
          omega
        · by_cases e : i' = i
          · subst e
            rw [hkq] at hkv'
            cases hkv'
            have e2 : m.text = m'.text := Sum.inr.inj (List.cons.inj (List.cons.inj ek).2).1
            rw [← e2]
            exact has_put
          · exact has_putO (done i' kv (by omega) hkv' j' m' ek)
      · rintro H12 ⟨L12, more, hD12, km, lm, done⟩
        have e13 := L12.un da11
        have t13 : TK K H12 (upd H12 da (.dT hkv)) := tkU L12.2 trivial
        have kn13 := e13 _ _ kn11
        have KND : KN ≠ D2 := fun z => by rw [z, nD2'] at kn11; cases kn11
        refine ⟨L12.2, KN, D2, kvs, more, rfl, rfl, KND, kn13, by rw [upd_ne D2da]; exact hD12, Nat.le_trans (show kvs.length + more.length ≤ 1000 by omega) (by decide), ?_⟩
        have t14 : TK K (upd H12 da (.dT hkv)) (upd (upd H12 da (.dT hkv)) KN (.dK (mergeK kvs more))) := tkU kn13 trivial
        have d14 : DT (upd H12 da (.dT hkv)) (upd (upd H12 da (.dT hkv)) KN (.dK (mergeK kvs more))) := dtU kn13 trivial
        have km13 : KinS K s r (upd H12 da (.dT hkv)) kvs := mi.ks.tk (T11.trans (tkS e13))
        have nKN0 : H0 KN = none := same_none E1 nKN3
        obtain ⟨H14, h14⟩ : ∃ H14 : Hp, H14 = upd (upd H12 da (.dT hkv)) KN (.dK (mergeK kvs more)) := ⟨_, rfl⟩
        have n14 : ∀ {c : Addr}, c ≠ KN → H14 c = upd H12 da (.dT hkv) c := fun h => by rw [h14]; exact upd_ne h
        have k14 : H14 KN = some (.dK (mergeK kvs more)) := by rw [h14, upd_same]
        have E14 : Same H0 H14 := by rw [h14]; exact same_fresh (E11.trans e13) nKN0
        rw [← h14] at t14 d14 ⊢
        have a14 := (n14 aKN).trans (e13 _ _ a11)
        have rw14 := (n14 KNRW.symm).trans (e13 _ _ rw11)
        have da14 := (n14 dakn).trans (e13 _ _ da11)
        have T14 : TK K H11 H14 := (tkS e13).trans t14
        have D14 : DT H11 H14 := (dtS e13).trans d14
        have lmerge := length_mergeK more kvs
        -- here = self.later(date, here)
        refine ⟨_, rfl, a, dx, _, rfl, a14, rfl, _, rfl, _, rfl, _, _, _, rfl, M, W, n, s, r, k, a, da, dx, L, _, H0, hkv, rfl, congrArg V.int zk, rfl, hL, E14, mi.nda, a14, rfl, kn, hn, da14, okK.tk T14, hl, fun F hk' H15 e15 nF hF okF lF cl => ?_⟩
        refine ⟨F, _, _, _, _, _, rvs ++ acc, rows ++ ext, mergeK kvs more, hk', rfl, ?_⟩
        have hset : ∀ x ∈ ext, HasKey more (.inr x.2.2.text) := fun x hx => by
          obtain ⟨_, ⟨u, hu2⟩, _⟩ := hext x hx
          obtain ⟨i', hi', e⟩ := List.mem_iff_getElem.mp hu2
          exact done i' _ hi' (by rw [List.getElem?_eq_getElem hi', e]) x.2.1 x.2.2 rfl
        refine ⟨e15 _ _ a14, e15 _ _ rw14, rel11.mono fun _ _ m => m.dt (D14.trans (dtS e15)), e15 _ _ k14, ?_, fun x hx => ?_, hF, okF, lF, ?_, ?_, ?_, E14.trans e15, same_none E14 nF⟩
        · intro k' u' hk2
          rcases mem_merge hk2 with h | h
          · obtain ⟨m2, a1, a2, a3⟩ := km13 k' u' h
            exact ⟨m2, a1, a2, a3.tk (t14.trans (tkS e15))⟩
          · obtain ⟨m2, a1, a2, a3⟩ := km k' u' h
            exact ⟨m2, a1, a2, a3.tk (t13.trans (t14.trans (tkS e15)))⟩
        · rcases List.mem_append.mp hx with hx | hx
          · exact has_mergeL (mi.has x hx)
          · exact has_mergeR (hset x hx)
        · omega
        · rw [List.length_append]
          omega
        · refine mi.ri.step kn hext (fun j m hm2 hk2 => ?_) (by omega) cl
          obtain ⟨u, hu2⟩ := hk2
          have h1 : key2 j m ∈ hkv.map (·.1) := List.mem_map.mpr ⟨_, hu2, rfl⟩
          rw [ek] at h1
          obtain ⟨qk, hqk, eqk⟩ := List.mem_map.mp h1
          have h2 : qk ∈ js := hp.mem_iff.mpr hqk
          rw [ej] at h2
          obtain ⟨x, hx, ex⟩ := List.mem_map.mp h2
          obtain ⟨x1, _, x3, _⟩ := hext x hx
          have i1 : qk.1 = (j : Int) := Sum.inl.inj (List.cons.inj eqk).1
          have i2 : qk.2 = m.text := Sum.inr.inj (List.cons.inj (List.cons.inj eqk).2).1
          rw [← ex] at i1 i2
          have i3 : x.2.1 = j := by have : (x.2.1 : Int) = (j : Int) := i1; omega
          have i4 : x.2.2 = m := St.inj x3 hm2 i2
          obtain ⟨x1', x2', x3'⟩ := x
          dsimp only at x1 i3 i4
          rw [← x1, ← i3, ← i4]
          exact hx
  · rintro _ H8 ⟨da, x4, x5, x6, x7, x8, rvs, rows, kvs, hkv, rfl, mi⟩
    have en : (((n : Nat) : Int) + 1).toNat = n + 1 := by omega
    rw [en] at mi
    have lrel := mi.rel.len
    have rl := mi.rl
    refine ⟨_, rfl, a, _, dx, _, _, rfl, mi.self, T.cl_Machine, T.na_Machine_rows, rfl, RW, rvs, rfl, SqL.of mi.rws, fun SP nSP => dt_it (n := rvs.length) walk_enum (fun i H' => Same H8 H' ∧ ∃ svs, H' SP = some (.dT svs) ∧ svs.length ≤ i ∧ SpotOk rows svs i) ⟨same_new nSP, [], upd_same, Nat.le_refl _, fun i' _ h => absurd h (Nat.not_lt_zero _)⟩ (fun i H' hi h => SqL.of (h.1 _ _ mi.rws)) ?_ ?_⟩
    · rintro i y _ _ hi ⟨e9, svs, hSP, lsv, sok⟩ ⟨D1, xx, yy, rfl, nD1, rfl, hx, hy⟩
      cases hx
      obtain ⟨x, hx, ⟨b, rfl, hb⟩⟩ := mi.rel.get hy
      have s10 := same_new (o := .tup [.int (i : Nat), .ref b]) nD1
      have e10 := e9.trans s10
      refine ⟨D1, _, rfl, SqT.of upd_same, rfl, _, _, rfl, _, _, rfl, rfl, rfl, _, rfl, _, rfl, b, svs, key3 x, rfl, e10 _ _ hb, s10 _ _ hSP, Nat.lt_of_le_of_lt (show svs.length ≤ 1000 by omega) (by decide), ?_⟩
      refine ⟨e10.trans' nSP, _, upd_same, by have := length_putK svs (key3 x) (.int (i : Nat)); omega, fun i' x' hi' hx' => ?_⟩
      rw [valV_put]
      by_cases e : key3 x' = key3 x
      · rw [if_pos e]
        refine ⟨i, rfl, ?_⟩
        have j1 : (x'.1 : Int) = (x.1 : Int) := Sum.inl.inj (List.cons.inj e).1
        have j2 : (x'.2.1 : Int) = (x.2.1 : Int) := Sum.inl.inj (List.cons.inj (List.cons.inj e).2).1
        have j3 : x'.2.2.text = x.2.2.text := Sum.inr.inj (List.cons.inj (List.cons.inj (List.cons.inj e).2).2).1
        have m1 := (mi.ri.valid x' (List.mem_of_getElem? hx')).2.2.1
        have m2 := (mi.ri.valid x (List.mem_of_getElem? hx)).2.2.1
        have j4 := St.inj m1 m2 j3
        obtain ⟨a1, a2, a3⟩ := x'
        obtain ⟨b1, b2, b3⟩ := x
        dsimp only at j1 j2 j4
        have k1 : a1 = b1 := by omega
        have k2 : a2 = b2 := by omega
        subst k1 k2 j4
        exact hx
      · rw [if_neg e]
        have hlt : i' < i := by
          by_cases z : i' = i
          · subst z
            rw [hx] at hx'
            cases hx'
            exact absurd rfl e
          · omega
        exact sok i' x' hlt hx'
    · rintro H9 ⟨e9, svs, hSP, lsv, sok⟩
      have a9 := e9 _ _ mi.self
      refine ⟨_, rfl, a, _, dx, _, rfl, a9, T.cl_Machine, T.na_Machine_spots, by show 4 < 1000; decide, ?_⟩
      have t10 : TK K H9 (upd H9 a (.ins (He.ga K "Machine") dx [("web", .ref L), ("thing", z), ("rows", .ref RW), ("kin", .ref KN), ("spots", .ref SP)])) := tkU a9 trivial
      have d10 : DT H9 (upd H9 a (.ins (He.ga K "Machine") dx [("web", .ref L), ("thing", z), ("rows", .ref RW), ("kin", .ref KN), ("spots", .ref SP)])) := dtU a9 trivial
      have SPa : SP ≠ a := fun z => by rw [z, a9] at hSP; cases hSP
      refine q rows _ (same_fresh (mi.base.trans e9) na) ⟨dx, z, RW, KN, SP, rvs, kvs, svs, upd_same, by rw [upd_ne RWa]; exact e9 _ _ mi.rws, mi.rel.mono fun _ _ m => m.dt ((dtS e9).trans d10), by rw [upd_ne KNa]; exact e9 _ _ mi.kin, mi.ks.tk ((tkS e9).trans t10), mi.has, by rw [upd_ne SPa]; exact hSP, lrel ▸ sok, ?_, by omega⟩
      exact ⟨mi.ri.valid, mi.ri.sorted, mi.ri.closed, fun x hx h1 h2 => by omega, mi.ri.head.imp (fun h => by omega) id⟩
end
end K37
set_option Elab.async false
set_option linter.all false
set_option maxRecDepth 100000
set_option maxHeartbeats 4000000
namespace K37
open PySem PySem.Spec PyProof.Rows L2
open C8 (Cal Met Mak CalAt pe_c pe_mt pe_mt0 pe_mk pe_gc tCut pss_cut)
/-! ### a machine's questions -/
/-- the price at a node -/
def Web.pr (W : Web) (d j : Nat) : Rat := (W.ps.getD d []).getD j 0
theorem Web.pr_of {W : Web} {d j : Nat} {P0 : List Rat} {p : Rat} (h : W.ps[d]? = some P0) (hp : P0[j]? = some p) : W.pr d j = p := by
  have e : W.ps.getD d [] = P0 := by rw [List.getD_eq_getElem?_getD, h]; rfl
  unfold Web.pr
  rw [e, List.getD_eq_getElem?_getD, hp]
  rfl
theorem Nd.pr {W : Web} {d j : Nat} (N : Nd W d j) : W.pr d j = N.p := Web.pr_of N.hP0 N.hp
theorem leaf_mem {m m' : Nt} {d : Int} {p q : Rat} {as as' : List Bool} (hm : ∃ q0 m0, ∀ as, m.live d p as = .fin q0 m0 as) (h : m.live d p as = .fin q m' as') : m' ∈ Ends m d p := by
  obtain ⟨q0, m0, hl⟩ := hm
  unfold Ends
  rw [hl []]
  rw [hl as] at h
  cases h
  exact List.mem_singleton.mpr rfl
theorem ends_mem {s : Pay} {r : Option (Right s)} {m m' : Nt} (h : St s r m) {d : Int} {p q : Rat} {as as' : List Bool} (la : as.length ≤ 1) (hl : m.live d p as = .fin q m' as') : m' ∈ Ends m d p := by
  rcases h with rfl | rfl | ⟨x, hx, rfl⟩
  · exact leaf_mem ⟨0, .none, fun _ => rfl⟩ hl
  · exact leaf_mem ⟨_, _, fun as => (lf_pay s d p as).1⟩ hl
  · rcases live_right x d p with ⟨a, b, h1, h2, h3⟩ | ⟨h0, h1⟩
    · unfold Ends
      rw [h1, h2, h3]
      match as, la with
      | [], _ => rw [h1] at hl; cases hl
      | [true], _ => rw [h2] at hl; cases hl; simp
      | [false], _ => rw [h3] at hl; cases hl; simp
    · exact leaf_mem ⟨_, _, h1⟩ hl
section
variable {P : Program} {w : World} {K : PySem.W.Frag} {mg : Str → Option Value} {base : Heap}
/-- a machine with its web -/
structure Mc (K : PySem.W.Frag) (H : Hp) (a : Addr) (M : Addr → Prop) (W : Web) (n : Nat) (s : Pay) (r : Option (Right s)) (L : Addr) (rows : List Row) : Prop where
  lat : Lat K H (.ref L) M W n
  at_ : MachAt K H a W n s r L rows
  n3 : n ≤ 3
theorem Mc.s {H H' : Hp} {a : Addr} {M : Addr → Prop} {W : Web} {n : Nat} {s : Pay} {r : Option (Right s)} {L : Addr} {rows : List Row} (h : Mc K H a M W n s r L rows) (e : Same H H') : Mc K H' a M W n s r L rows := ⟨h.lat.s e, h.at_.s e, h.n3⟩
def spStand (K : PySem.W.Frag) : Sp := sp2 fun x y H Q => ∃ (a : Addr) (M : Addr → Prop) (W : Web) (n : Nat) (s : Pay) (r : Option (Right s)) (L : Addr) (rows : List Row) (i : Nat) (xr : Row), x = .ref a ∧ y = .int (i : Int) ∧ Mc K H a M W n s r L rows ∧ rows[i]? = some xr ∧ ∀ v, RowD H v xr → Q v H
theorem m_Machine_stand (T : Tx P w K mg base) : Met P w K mg base 1 (He.ga K "Machine") "stand" (spStand K) [] := by
  refine mkM T.cl_Machine T.me_Machine_stand T.f_Machine_stand sc_Machine_stand len2 (fun _ _ _ _ _ _ us hl => match us, hl with | [_, _], _ => rfl) fun cdv A0 outer s0 H vs Q E hr h => ?_
  obtain ⟨_, _, rfl, a, M, W, n, s, r, L, rows, i, xr, rfl, rfl, ⟨_, hM, _⟩, hx, q⟩ := h
  obtain ⟨dx, v, RW, KN, SP, rvs, kvs, svs, ha, hRW, rel, _⟩ := hM
  obtain ⟨v2, hv2, rd⟩ := rel.at_ hx
  have l1 := (List.getElem?_eq_some_iff.mp hv2).1
  refine ⟨_, (pss_cons (ps_if (pt_not (pt_chain op_le op_lt pe_int (pv 1) (pe_callB call_len_seq (by rfl) T.b_len (by decide +kernel) (pa_cons (pe_fld (pv 0) rfl) pa_nil)))) (pss_one ps_never) pss_nil)
        (pss_one (ps_ret (pe_ix ix_list (pe_fld (pv 0) rfl) (pv 1) (fun _ _ => rfl))))), ?_⟩
  refine ⟨_, rfl, _, _, rfl, rfl, _, rfl, decT (by omega) ⟨_, rfl, a, _, dx, _, _, rfl, ha, T.cl_Machine, T.na_Machine_rows, rfl, RW, rvs, rfl, .inl (SqL.of hRW), _, _, rfl, rfl, _, rfl, notF (by omega) ?_⟩⟩
  exact ⟨_, rfl, a, _, dx, _, _, rfl, ha, T.cl_Machine, T.na_Machine_rows, rfl, _, rfl, RW, rvs, _, _, rfl, rfl, SqL.of hRW, at_of (j := i) rfl hv2, q v2 rd⟩
def spMLen (K : PySem.W.Frag) : Sp := sp1 fun x H Q => ∃ (a : Addr) (M : Addr → Prop) (W : Web) (n : Nat) (s : Pay) (r : Option (Right s)) (L : Addr) (rows : List Row), x = .ref a ∧ Mc K H a M W n s r L rows ∧ Q (.int (rows.length : Nat)) H
theorem m_Machine_len (T : Tx P w K mg base) : Met P w K mg base 1 (He.ga K "Machine") "__len__" (spMLen K) [] := by
  refine mkM T.cl_Machine T.me_Machine_len T.f_Machine_len sc_Machine_len len1 (fun _ _ _ _ _ _ us hl => match us, hl with | [_], _ => rfl) fun cdv A0 outer s0 H vs Q E hr h => ?_
  obtain ⟨_, rfl, a, M, W, n, s, r, L, rows, rfl, ⟨_, hM, _⟩, q⟩ := h
  obtain ⟨dx, v, RW, KN, SP, rvs, kvs, svs, ha, hRW, rel, _⟩ := hM
  refine ⟨_, (pss_one (ps_ret (pe_callB call_len_seq (by rfl) T.b_len (by decide +kernel) (pa_cons (pe_fld (pv 0) rfl) pa_nil)))), ?_⟩
  refine ⟨_, rfl, a, _, dx, _, _, rfl, ha, T.cl_Machine, T.na_Machine_rows, rfl, RW, rvs, rfl, .inl (SqL.of hRW), ?_⟩
  have l := rel.len
  rw [← l] at q
  exact q
def spAt (K : PySem.W.Frag) : Sp := sp3 fun x y t H Q => ∃ (a : Addr) (M : Addr → Prop) (W : Web) (n : Nat) (s : Pay) (r : Option (Right s)) (L : Addr) (rows : List Row) (i : Nat) (xr : Row) (as : List Bool), x = .ref a ∧ y = .int (i : Int) ∧ Mc K H a M W n s r L rows ∧ rows[i]? = some xr ∧ AnsR K H t as ∧
  ∀ v H', Same H H' → Tr.Is K H' v (xr.2.2.live xr.1 (W.pr xr.1 xr.2.1) as).tr → Q v H'
theorem m_Machine_at (T : Tx P w K mg base) : K37R.MetK P w K mg base 14 (He.ga K "Machine") "at" (spAt K) 2 ["answers"] (fun vs zs => vs ++ zs) := by
  obtain ⟨fd, F⟩ := T.f_Machine_at
  have fn : FnOk P w K mg base CX0 14 (He.ma K (He.ga K "Machine") "at") fd ["self", "number", "answers"] (spAt K) := by
    refine F.ok sc_Machine_at len3 fun cdv A0 outer s0 H vs Q E hr h => ?_
    obtain ⟨_, _, t, rfl, a, M, W, n, s, r, L, rows, i, xr, as, rfl, rfl, mc, hx, ht, q⟩ := h
    have hu := hu_of hr
    refine ⟨_, PSs.nox (pss_cons (ps_asg (pe_mt (m_Machine_stand T) hr (by omega) (pv 0) (pa_cons (pv 1) pa_nil)) (pg_tup rfl (pgs_cons (pg_name (i := 3) sc_Machine_at.nd rfl (by first | exact Or.inl rfl | exact Or.inr rfl)) (pgs_cons (pg_name (i := 4) sc_Machine_at.nd rfl (by first | exact Or.inl rfl | exact Or.inr rfl)) (pgs_cons (pg_name (i := 5) sc_Machine_at.nd rfl (by first | exact Or.inl rfl | exact Or.inr rfl)) pgs_nil)))))
        (pss_one (ps_ret (pe_cK (c_turned T) hr (by omega) rfl (pa_cons (pe_dget hu (pe_fld (pv 0) rfl) (pv 5) (fun _ _ => rfl)) (pa_cons (pv 3) (pa_cons (pe_mt (m_Lattice_price T) hr (by omega) (pe_fld (pv 0) rfl) (pa_cons (pv 3) (pa_cons (pv 4) pa_nil))) pa_nil))) (pk_cons (pv 2) pk_nil))))), ?_⟩
    obtain ⟨hL, hM, hn⟩ := id mc
    obtain ⟨dx, v, RW, KN, SP, rvs, kvs, svs, ha, hRW, rel, hKN, ks, has, hSP, spot, ri, rl⟩ := hM
    obtain ⟨La, rL, hLa, okW⟩ := id hL
    injection rL with rL
    subst rL
    obtain ⟨ldx, lPA, lRA, lSA, hlL, _⟩ := id hLa
    have xm := List.mem_of_getElem? hx
    obtain ⟨_, _, st, P0, hP0, hj⟩ := ri.valid xr xm
    have hp := List.getElem?_eq_getElem hj
    have epr := Web.pr_of hP0 hp
    obtain ⟨u, hu', hmem⟩ := val_of (has xr xm)
    obtain ⟨m2, e2, st2, im⟩ := ks _ _ hmem
    have em : m2 = xr.2.2 := St.inj st2 st (Sum.inr.inj e2).symm
    subst em
    refine ⟨_, rfl, a, dx, _, rfl, ha, rfl, _, rfl, _, _, rfl, a, M, W, n, s, r, L, rows, i, xr, rfl, rfl, mc, hx, fun v2 ⟨b, rb, hb⟩ => ?_⟩
    subst rb
    refine ⟨b, _, rfl, SqT.of hb, rfl, _, _, rfl, _, _, rfl, _, _, rfl, rfl, ?_⟩
    refine ⟨_, rfl, a, _, dx, _, _, rfl, ha, T.cl_Machine, T.na_Machine_kin, rfl, _, rfl, KN, u, rfl, hu' ▸ DGet.k (k := .inr xr.2.2.text) hKN, ?_⟩
    refine ⟨_, rfl, _, rfl, a, _, dx, _, _, rfl, ha, T.cl_Machine, T.na_Machine_web, rfl, L, ldx, _, rfl, hlL, rfl, _, rfl, _, rfl, _, _, _, rfl, M, W, n, xr.1, xr.2.1, P0, _, hL, rfl, rfl, hP0, hp, fun pr hpr => ?_⟩
    refine ⟨_, rfl, rfl, rfl, _, _, _, _, rfl, xr.2.2, xr.1, _, as, im, st.mn, rfl, hpr, ((okW.1.row hP0).2.2 _ (List.mem_of_getElem? hp)).2, ht, fun v3 H3 e3 h3 => ?_⟩
    rw [← epr] at h3
    exact q v3 H3 e3 h3
  obtain ⟨mv, hb⟩ := F.kbinds0 (ps := ["self", "number", "answers"]) 2 ["answers"] [] (fun us _ ws => us ++ ws) (by simp) (fun _ h => (List.not_mem_nil h).elim) (fun r1 _ r3 => r1.append r3) fun D doc pm an cdv ct us mv ws h1 h2 h3 => match us, mv, ws, h1, h2, h3 with | [_, _], [], [_], _, _, _ => rfl
  exact ⟨_, fd, _, _, T.cl_Machine, T.me_Machine_at, fn, hb⟩
def spAhead (K : PySem.W.Frag) : Sp := sp3 fun x y t H Q => ∃ (a : Addr) (M : Addr → Prop) (W : Web) (n : Nat) (s : Pay) (r : Option (Right s)) (L : Addr) (rows : List Row) (i : Nat) (xr : Row) (as : List Bool), x = .ref a ∧ y = .int (i : Int) ∧ Mc K H a M W n s r L rows ∧ rows[i]? = some xr ∧ AnsR K H t as ∧ as.length ≤ 1 ∧
  ∀ v H', Same H H' → (match (xr.2.2.live xr.1 (W.pr xr.1 xr.2.1) as).tr with
    | .ask _ _ => v = .non
    | .fin _ m' => (xr.1 = n → v = .non) ∧ (xr.1 < n → ∀ N : Nd W xr.1 xr.2.1, ∃ (tt : Addr) (i1 i2 : Nat), v = .ref tt ∧ SqT K H' tt [.int (i1 : Int), .int (i2 : Int)] ∧ rows[i1]? = some (xr.1 + 1, N.s.1.toNat, m') ∧ rows[i2]? = some (xr.1 + 1, N.s.2.toNat, m'))) → Q v H'
theorem m_Machine_ahead (T : Tx P w K mg base) : K37R.MetK P w K mg base 20 (He.ga K "Machine") "ahead" (spAhead K) 2 ["answers"] (fun vs zs => vs ++ zs) := by
  obtain ⟨fd, F⟩ := T.f_Machine_ahead
  have fn : FnOk P w K mg base CX0 20 (He.ma K (He.ga K "Machine") "ahead") fd ["self", "number", "answers"] (spAhead K) := by
    refine F.ok sc_Machine_ahead len3 fun cdv A0 outer s0 H vs Q E hr h => ?_
    obtain ⟨_, _, t, rfl, a, M, W, n, s, r, L, rows, i, xr, as, rfl, rfl, mc, hx, ht, la, q⟩ := h
    have hu := hu_of hr
    refine ⟨_, PSs.nox (pss_cons (ps_asg (pe_mt (m_Machine_stand T) hr (by omega) (pv 0) (pa_cons (pv 1) pa_nil)) (pg_tup rfl (pgs_cons (pg_name (i := 3) sc_Machine_ahead.nd rfl (by first | exact Or.inl rfl | exact Or.inr rfl)) (pgs_cons (pg_name (i := 4) sc_Machine_ahead.nd rfl (by first | exact Or.inl rfl | exact Or.inr rfl)) (pgs_cons (pg_name (i := 5) sc_Machine_ahead.nd rfl (by first | exact Or.inl rfl | exact Or.inr rfl)) pgs_nil)))))
        (pss_cons (ps_set (i := 6) sc_Machine_ahead.nd rfl (by first | exact Or.inl rfl | exact Or.inr rfl) (K37R.pe_mtK (m_Machine_at T) hr (by omega) (pv 0) (pa_cons (pv 1) pa_nil) (pk_cons (pv 2) pk_nil)))
        (pss_cons (ps_if (PW.pt (pw_or (pt_cmpR op_eq (pe_ix ix_tup (pv 6) pe_int (fun _ _ => rfl)) pe_str (nomark _)) (pw_or1 (pt_cmpR op_eq (pv 3) (pe_mt0 (m_Lattice_last T) hr (by omega) (pe_fld (pv 0) rfl)) (nomark _))))) (pss_one (ps_ret pe_non)) pss_nil)
        (pss_cons (ps_asg (pe_mt (m_Lattice_step T) hr (by omega) (pe_fld (pv 0) rfl) (pa_cons (pv 3) (pa_cons (pv 4) pa_nil))) (pg_tup rfl (pgs_cons (pg_name (i := 7) sc_Machine_ahead.nd rfl (by first | exact Or.inl rfl | exact Or.inr rfl)) (pgs_cons (pg_name (i := 8) sc_Machine_ahead.nd rfl (by first | exact Or.inl rfl | exact Or.inr rfl)) pgs_nil))))
        (pss_cons (ps_set (i := 9) sc_Machine_ahead.nd rfl (by first | exact Or.inl rfl | exact Or.inr rfl) (pe_c (c_note_text T) hr (by omega) rfl (pa_cons (pe_ix ix_tup (pv 6) pe_int (fun _ _ => rfl)) pa_nil)))
        (pss_one (ps_ret (pe_tup (pa_cons (pe_dget hu (pe_fld (pv 0) rfl) (pe_tup (pa_cons (pe_op op_add (pv 3) pe_int) (pa_cons (pv 7) (pa_cons (pv 9) pa_nil)))) (fun _ _ => rfl)) (pa_cons (pe_dget hu (pe_fld (pv 0) rfl) (pe_tup (pa_cons (pe_op op_add (pv 3) pe_int) (pa_cons (pv 8) (pa_cons (pv 9) pa_nil)))) (fun _ _ => rfl)) pa_nil)))))))))), ?_⟩
    obtain ⟨hL, hM, hn⟩ := id mc
    obtain ⟨dx, v, RW, KN, SP, rvs, kvs, svs, ha, hRW, rel, hKN, ks, has, hSP, spot, ri, rl⟩ := hM
    obtain ⟨La, rL, hLa, okW⟩ := id hL
    injection rL with rL
    subst rL
    obtain ⟨ldx, lPA, lRA, lSA, hlL, _⟩ := id hLa
    have xm := List.mem_of_getElem? hx
    obtain ⟨_, xn, st, P0, hP0, hj⟩ := ri.valid xr xm
    have hp := List.getElem?_eq_getElem hj
    refine ⟨_, rfl, a, dx, _, rfl, ha, rfl, _, rfl, _, _, rfl, a, M, W, n, s, r, L, rows, i, xr, rfl, rfl, mc, hx, fun v2 ⟨b, rb, hb⟩ => ?_⟩
    subst rb
    refine ⟨b, _, rfl, SqT.of hb, rfl, _, _, rfl, _, _, rfl, _, _, rfl, rfl, ?_⟩
    refine ⟨_, rfl, a, dx, _, rfl, ha, rfl, _, rfl, _, rfl, rfl, rfl, _, _, _, rfl, a, M, W, n, s, r, L, rows, i, xr, as, rfl, rfl, mc, hx, ht, fun f H1 e1 hf => ?_⟩
    cases hl : xr.2.2.live xr.1 (W.pr xr.1 xr.2.1) as with
    | ask o nm =>
      rw [hl] at hf q
      obtain ⟨fa, rfl, ft⟩ := hf
      refine ⟨_, rfl, _, _, _, _, rfl, rfl, ft, at0, rfl, _, rfl, decT rfl (iteT ?_)⟩
      exact q _ _ e1 rfl
    | fin q' m' as' =>
      rw [hl] at hf q
      obtain ⟨fa, fx, fy, rfl, ft, fm, fn'⟩ := hf
      refine ⟨_, rfl, _, _, _, _, rfl, rfl, ft, at0, rfl, _, rfl, decF (str_ne (by decide)) ?_⟩
      have ha1 := e1 _ _ ha
      refine ⟨_, rfl, _, rfl, a, _, dx, _, _, rfl, ha1, T.cl_Machine, T.na_Machine_web, rfl, L, ldx, _, rfl, e1 _ _ hlL, rfl, _, rfl, M, W, n, hL.s e1, rfl, _, rfl, ite2 (fun hc => ?_) (fun hc => ?_)⟩
      · have h := of_decide_eq_true hc
        injection h with h
        have en : xr.1 = n := by omega
        exact q _ _ e1 ⟨fun _ => rfl, fun z => by omega⟩
      · have hne : xr.1 ≠ n := fun z => hc (decide_eq_true (congrArg V.int (by rw [z])))
        have xlt : xr.1 < n := by omega
        obtain ⟨N, hN, hNp⟩ := okW.nd xlt hP0 hp
        have hmem : m' ∈ Ends xr.2.2 xr.1 N.p := by
          rw [N.pr] at hl
          exact ends_mem st la hl
        have stm := St.ends st (by omega) hmem
        refine ⟨_, rfl, a, _, dx, _, _, rfl, ha1, T.cl_Machine, T.na_Machine_web, rfl, L, ldx, _, rfl, e1 _ _ hlL, rfl, _, rfl, _, rfl, _, _, _, rfl, M, W, n, xr.1, xr.2.1, N, hL.s e1, rfl, rfl, xlt, fun sv ⟨sa, rsv, tsa⟩ => ?_⟩
        subst rsv
        refine ⟨sa, _, rfl, tsa, rfl, _, _, rfl, _, _, rfl, rfl, ?_⟩
        refine ⟨_, rfl, _, _, _, _, rfl, rfl, ft, at2, _, rfl, m', fn', stm.ok, fun H2 e2 => ?_⟩
        obtain ⟨i1, ei1, l1⟩ := N.end_ (t := 0) rfl
        obtain ⟨i2, ei2, l2⟩ := N.end_ (t := 1) rfl
        have r1 := ri.closed xr xm (by omega) xlt N m' hmem 0 i1 (congrArg some ei1)
        have r2 := ri.closed xr xm (by omega) xlt N m' hmem 1 i2 (congrArg some ei2)
        obtain ⟨j1, hj1, ej1⟩ := List.mem_iff_getElem.mp r1
        obtain ⟨j2, hj2, ej2⟩ := List.mem_iff_getElem.mp r2
        obtain ⟨u1, hu1, k1⟩ := spot j1 _ hj1 (by rw [List.getElem?_eq_getElem hj1, ej1])
        obtain ⟨u2, hu2, k2⟩ := spot j2 _ hj2 (by rw [List.getElem?_eq_getElem hj2, ej2])
        have e12 := e1.trans e2
        rw [ei1, ei2]
        have c1 : ((xr.1 : Int) + 1) = ((xr.1 + 1 : Nat) : Int) := by omega
        refine ⟨_, rfl, a, _, dx, _, _, rfl, e12 _ _ ha, T.cl_Machine, T.na_Machine_spots, rfl, _, rfl, _, _, rfl, rfl, _, rfl, _, rfl, by show 3 ≤ sizeLine; decide, fun kb nkb => ?_⟩
        have s3 := same_new (o := .tup [.int ((xr.1 : Int) + 1), .int (i1 : Int), .str m'.text]) nkb
        refine ⟨SP, .int (u1 : Int), rfl, .inr ⟨svs, key3 (xr.1 + 1, i1, m'), kb, .inl (s3 _ _ (e12 _ _ hSP)), rfl, ?_, hu1.symm⟩, ?_⟩
        · rw [upd_same]
          dsimp only
          rw [c1]
          rfl
        refine ⟨_, rfl, a, _, dx, _, _, rfl, s3 _ _ (e12 _ _ ha), T.cl_Machine, T.na_Machine_spots, rfl, _, rfl, _, _, rfl, rfl, _, rfl, _, rfl, by show 3 ≤ sizeLine; decide, fun kb2 nkb2 => ?_⟩
        have s4 := same_new (o := .tup [.int ((xr.1 : Int) + 1), .int (i2 : Int), .str m'.text]) nkb2
        refine ⟨SP, .int (u2 : Int), rfl, .inr ⟨svs, key3 (xr.1 + 1, i2, m'), kb2, .inl (s4 _ _ (s3 _ _ (e12 _ _ hSP))), rfl, ?_, hu2.symm⟩, ?_⟩
        · rw [upd_same]
          dsimp only
          rw [c1]
          rfl
        refine ⟨by show 2 ≤ sizeLine; decide, fun tt ntt => ?_⟩
        have s5 := same_new (o := .tup [.int (u1 : Int), .int (u2 : Int)]) ntt
        refine q _ _ (((e12.trans s3).trans s4).trans s5) ⟨fun z => absurd z hne, fun _ N' => ⟨tt, u1, u2, rfl, SqT.of upd_same, ?_, ?_⟩⟩
        · have es := (N.same N').2
          rw [← es, ei1]
          exact k1
        · have es := (N.same N').2
          rw [← es, ei2]
          exact k2
  obtain ⟨mv, hb⟩ := F.kbinds0 (ps := ["self", "number", "answers"]) 2 ["answers"] [] (fun us _ ws => us ++ ws) (by simp) (fun _ h => (List.not_mem_nil h).elim) (fun r1 _ r3 => r1.append r3) fun D doc pm an cdv ct us mv ws h1 h2 h3 => match us, mv, ws, h1, h2, h3 with | [_, _], [], [_], _, _, _ => rfl
  exact ⟨_, fd, _, _, T.cl_Machine, T.me_Machine_ahead, fn, hb⟩
end
end K37
set_option Elab.async false
set_option linter.all false
set_option maxRecDepth 100000
set_option maxHeartbeats 4000000
namespace K37
open PySem PySem.Spec PyProof.Rows L2
open C8 (Cal Met Mak CalAt pe_c pe_mt pe_mt0 pe_mk pe_gc tCut pss_cut)
/-! ### the worth, plain -/
def Nd.weigh {W : Web} {d j : Nat} (N : Nd W d j) (a b : Rat) : Rat := (N.share * a + (1 - N.share) * b) / N.r
def Web.st (W : Web) (d j : Nat) : Int × Int := (W.ss.getD d []).getD j (0, 0)
def Web.rt (W : Web) (d j : Nat) : Rat := (W.rs.getD d []).getD j 1
def Web.up (W : Web) (d j : Nat) : Nat := (W.st d j).1.toNat
def Web.dn (W : Web) (d j : Nat) : Nat := (W.st d j).2.toNat
def Web.sh (W : Web) (d j : Nat) : Rat := (W.rt d j * W.pr d j - W.pr (d + 1) (W.dn d j)) / (W.pr (d + 1) (W.up d j) - W.pr (d + 1) (W.dn d j))
def Web.wg (W : Web) (d j : Nat) (a b : Rat) : Rat := (W.sh d j * a + (1 - W.sh d j) * b) / W.rt d j
theorem getD2 {α : Type} {xss : List (List α)} {xs : List α} {x z : α} {d j : Nat} (h : xss[d]? = some xs) (hx : xs[j]? = some x) : (xss.getD d []).getD j z = x := by
  have e : xss.getD d [] = xs := by rw [List.getD_eq_getElem?_getD, h]; rfl
  rw [e, List.getD_eq_getElem?_getD, hx]
  rfl
section
variable {W : Web} {d j : Nat} (N : Nd W d j)
include N
theorem Nd.st_ : W.st d j = N.s := getD2 N.hS0 N.hs
theorem Nd.rt_ : W.rt d j = N.r := getD2 N.hR0 N.hr
theorem Nd.up_ : W.up d j = N.s.1.toNat := by unfold Web.up; rw [N.st_]
theorem Nd.dn_ : W.dn d j = N.s.2.toNat := by unfold Web.dn; rw [N.st_]
theorem Nd.hi_ : W.pr (d + 1) (W.up d j) = N.hi := by rw [N.up_]; exact getD2 N.hP1 N.ud.2.2.1
theorem Nd.lo_ : W.pr (d + 1) (W.dn d j) = N.lo := by rw [N.dn_]; exact getD2 N.hP1 N.ud.2.2.2.1
theorem Nd.wg_ (a b : Rat) : W.wg d j a b = N.weigh a b := by
  unfold Web.wg Nd.weigh Web.sh Nd.share
  rw [N.rt_, N.hi_, N.lo_, N.pr]
theorem Nd.weigh_sz {a b : Rat} {U : Nat} (ha : Sz U a) (hb : Sz U b) : Sz (242 + 2 * U) (N.weigh a b) := by
  have h1 : Sz 97 (1 - N.share) := Sz.sub (n := 1) ⟨by decide, by decide⟩ N.shs (by decide)
  have h2 : Sz (95 + U) (N.share * a) := N.shs.mul ha (Nat.le_refl _)
  have h3 : Sz (97 + U) ((1 - N.share) * b) := h1.mul hb (Nat.le_refl _)
  have h4 : Sz (193 + 2 * U) (N.share * a + (1 - N.share) * b) := h2.add h3 (by omega)
  exact h4.div N.rs N.r0 (by omega)
end
/-- what a leaf is worth with f dates to go -/
def Vf (W : Web) : Nat → Nat → Nat → Nt → Rat
  | 0, d, j, m => (lf m d (W.pr d j)).1
  | f + 1, d, j, m => (lf m d (W.pr d j)).1 + W.wg d j (Vf W f (d + 1) (W.up d j) (lf m d (W.pr d j)).2) (Vf W f (d + 1) (W.dn d j) (lf m d (W.pr d j)).2)
def ub : Nat → Nat | 0 => 60 | f + 1 => 2 * ub f + 350
def bs (s : Pay) : Nt → Nt | .may _ _ _ _ => s.n | m => m
/-- a leaf of the machine's -/
def Lf (s : Pay) (m : Nt) : Prop := m = .none ∨ m = s.n
section
variable {s : Pay} {r : Option (Right s)} {m m' : Nt}
theorem Lf.step (h : Lf s m) (d : Int) (p : Rat) : Lf s (lf m d p).2 := by
  rcases h with rfl | rfl
  · exact .inl rfl
  · exact (lf_pay s d p []).2.1
theorem Lf.live (h : Lf s m) (d : Int) (p : Rat) (as : List Bool) : m.live d p as = .fin (lf m d p).1 (lf m d p).2 as := by
  rcases h with rfl | rfl
  · rfl
  · exact (lf_pay s d p as).1
theorem Lf.sz (h : Lf s m) (d : Int) {p : Rat} (hp : Sz 11 p) : Sz 47 (lf m d p).1 := by
  rcases h with rfl | rfl
  · show Sz 47 (0 : Rat)
    exact ⟨by decide, by decide⟩
  · exact lf_sz s d p hp
theorem Lf.bs (h : Lf s m) : bs s m = m := by rcases h with rfl | rfl <;> rfl
theorem St.bs (h : St s r m) : Lf s (bs s m) := by
  rcases h with rfl | rfl | ⟨x, hx, rfl⟩
  · exact .inl rfl
  · exact .inr rfl
  · exact .inr rfl
theorem On.nd {W : Web} {n d j : Nat} (okW : WebOk n W) (hd : d < n) (h : On W d j) : ∃ N : Nd W d j, True := by
  obtain ⟨P0, hP0, hj⟩ := h
  obtain ⟨N, _⟩ := okW.nd hd hP0 (List.getElem?_eq_getElem hj)
  exact ⟨N, trivial⟩
theorem On.pr_sz {W : Web} {n d j : Nat} (okW : WebOk n W) (h : On W d j) : Sz 11 (W.pr d j) := by
  obtain ⟨P0, hP0, hj⟩ := h
  rw [Web.pr_of hP0 (List.getElem?_eq_getElem hj)]
  exact ((okW.1.row hP0).2.2 _ (List.getElem_mem hj)).2
theorem Nd.onU {W : Web} {d j : Nat} (N : Nd W d j) : On W (d + 1) (W.up d j) := by
  rw [N.up_]
  exact ⟨N.P1, N.hP1, (List.getElem?_eq_some_iff.mp N.ud.2.2.1).1⟩
theorem Nd.onD {W : Web} {d j : Nat} (N : Nd W d j) : On W (d + 1) (W.dn d j) := by
  rw [N.dn_]
  exact ⟨N.P1, N.hP1, (List.getElem?_eq_some_iff.mp N.ud.2.2.2.1).1⟩
theorem Vf_sz {W : Web} {n : Nat} (okW : WebOk n W) : ∀ {f d j : Nat} {m : Nt}, Lf s m → d + f = n → On W d j → Sz (ub f) (Vf W f d j m)
  | 0, d, j, m, hm, _, on => (hm.sz d (on.pr_sz okW)).mono (by decide)
  | f + 1, d, j, m, hm, hd, on => by
    obtain ⟨N, _⟩ := on.nd okW (by omega)
    have h1 := hm.sz d (on.pr_sz okW)
    have h2 := Vf_sz okW (f := f) (hm.step d (W.pr d j)) (show d + 1 + f = n by omega) N.onU
    have h3 := Vf_sz okW (f := f) (hm.step d (W.pr d j)) (show d + 1 + f = n by omega) N.onD
    show Sz (2 * ub f + 350) (_ + W.wg d j _ _)
    rw [N.wg_]
    exact h1.add (N.weigh_sz h2 h3) (by omega)
/-- what a row is worth -/
def VAL (W : Web) (n : Nat) (s : Pay) (x : Row) : Rat := Vf W (n - x.1) x.1 x.2.1 (bs s x.2.2)
/-- the fee of a right that is taken -/
def fee (d : Int) : Nt → List Bool → Rat
  | .may _ k _ (.both (.now (.coin c)) _), true :: _ => if 0 ≤ d ∧ d ≤ k then c else 0
  | _, _ => 0
def rk (W : Web) (n : Nat) (s : Pay) (x : Row) (as : List Bool) : Rat := fee x.1 x.2.2 as + VAL W n s x
theorem fee_sz (h : St s r m) (d : Int) (as : List Bool) : Sz 6 (fee d m as) := by
  have z : Sz 6 (0 : Rat) := ⟨by decide, by decide⟩
  rcases h with rfl | rfl | ⟨x, hx, rfl⟩
  · exact z
  · exact z
  · cases as with
    | nil => exact z
    | cons c as =>
      cases c with
      | false => exact z
      | true =>
        show Sz 6 (if 0 ≤ d ∧ d ≤ x.k then x.c else 0)
        split
        · exact x.sc
        · exact z
/-- a state through a date: its fee and its leaf -/
theorem live_fee (h : St s r m) {d : Int} (d0 : 0 ≤ d) {p q : Rat} {as as' : List Bool} (hl : m.live d p as = .fin q m' as') : q = fee d m as + (lf (bs s m) d p).1 ∧ bs s m' = (lf (bs s m) d p).2 ∧ St s r m' := by
  have hlf : ∀ {m : Nt}, Lf s m → m.live d p as = .fin q m' as' → (∀ as, fee d m as = 0) → q = fee d m as + (lf (bs s m) d p).1 ∧ bs s m' = (lf (bs s m) d p).2 ∧ St s r m' := fun hm hl hf => by
    rw [hm.live d p as] at hl
    cases hl
    rw [hm.bs, hf, Rat.zero_add]
    have st := hm.step d p
    exact ⟨rfl, st.bs, st.elim .inl fun e => .inr (.inl e)⟩
  rcases h with rfl | rfl | ⟨x, hx, rfl⟩
  · exact hlf (.inl rfl) hl fun _ => rfl
  · exact hlf (.inr rfl) hl fun _ => rfl
  · have st : Lf s (lf s.n d p).2 := Lf.step (show Lf s s.n from .inr rfl) d p
    have st2 : St s r (lf s.n d p).2 := st.elim .inl fun e => .inr (.inl e)
    show q = fee d x.n as + (lf s.n d p).1 ∧ bs s m' = (lf s.n d p).2 ∧ St s r m'
    rcases live_right x d p with ⟨a, b, h1, h2, h3⟩ | ⟨h0, h1⟩
    · match as, hl with
      | [], hl => rw [h1] at hl; cases hl
      | true :: as, hl =>
        rw [h2] at hl
        cases hl
        refine ⟨?_, st.bs, st2⟩
        show _ = (if 0 ≤ d ∧ d ≤ x.k then x.c else 0) + _
        rw [if_pos ⟨a, b⟩]
      | false :: as, hl =>
        rw [h3] at hl
        cases hl
        have e1 : ∀ as, fee d x.n (false :: as) = 0 := fun _ => rfl
        rw [e1, Rat.zero_add]
        by_cases hk : x.k ≤ d
        · rw [if_pos hk]
          exact ⟨rfl, st.bs, st2⟩
        · rw [if_neg hk]
          have e2 := (lf_pay s d p []).2.2 (by have := x.ke; omega)
          exact ⟨rfl, by rw [e2]; rfl, .inr (.inr ⟨x, hx, rfl⟩)⟩
    · rw [h1] at hl
      have hk : x.k ≤ d := by omega
      rw [if_pos hk] at hl
      cases hl
      have e1 : fee d x.n as = 0 := by
        cases as with
        | nil => rfl
        | cons c as =>
          cases c with
          | false => rfl
          | true =>
            show (if 0 ≤ d ∧ d ≤ x.k then x.c else 0) = 0
            rw [if_neg h0]
      rw [e1, Rat.zero_add]
      exact ⟨rfl, st.bs, st2⟩
/-- .. at the last date, and before -/
theorem rk_last {W : Web} {n : Nat} {x : Row} {q : Rat} {as as' : List Bool} (h : St s r x.2.2) (hn : x.1 = n) (hl : x.2.2.live x.1 (W.pr x.1 x.2.1) as = .fin q m' as') : q = rk W n s x as := by
  obtain ⟨e, _⟩ := live_fee h (by omega) hl
  rw [e]
  unfold rk VAL
  rw [hn, Nat.sub_self]
  rfl
theorem rk_step {W : Web} {n : Nat} {x : Row} {q : Rat} {as as' : List Bool} (h : St s r x.2.2) (hn : x.1 < n) (N : Nd W x.1 x.2.1) (hl : x.2.2.live x.1 (W.pr x.1 x.2.1) as = .fin q m' as') : q + N.weigh (VAL W n s (x.1 + 1, N.s.1.toNat, m')) (VAL W n s (x.1 + 1, N.s.2.toNat, m')) = rk W n s x as := by
  obtain ⟨e, eb, _⟩ := live_fee h (by omega) hl
  unfold rk VAL
  obtain ⟨f, hf⟩ : ∃ f, n - x.1 = f + 1 := ⟨n - x.1 - 1, by omega⟩
  have hf2 : n - (x.1 + 1) = f := by omega
  dsimp only
  rw [hf, hf2, eb, e]
  show _ = fee x.1 x.2.2 as + ((lf (bs s x.2.2) x.1 (W.pr x.1 x.2.1)).1 + W.wg x.1 x.2.1 _ _)
  rw [N.wg_, N.up_, N.dn_, Rat.add_assoc]
theorem VAL_sz {W : Web} {n : Nat} (okW : WebOk n W) {x : Row} (h : St s r x.2.2) (hn : x.1 ≤ n) (on : On W x.1 x.2.1) : Sz (ub (n - x.1)) (VAL W n s x) := Vf_sz okW h.bs (by omega) on
theorem ub_le {f : Nat} (h : f ≤ 3) : ub f ≤ 2930 := by
  match f, h with
  | 0, _ => decide
  | 1, _ => decide
  | 2, _ => decide
  | 3, _ => decide
theorem ub_le2 {f : Nat} (h : f ≤ 2) : ub f ≤ 1290 := by
  match f, h with
  | 0, _ => decide
  | 1, _ => decide
  | 2, _ => decide
theorem rk_sz {W : Web} {n : Nat} (okW : WebOk n W) (n3 : n ≤ 3) {x : Row} (h : St s r x.2.2) (hn : x.1 ≤ n) (on : On W x.1 x.2.1) (as : List Bool) : Sz 2940 (rk W n s x as) :=
  (fee_sz h x.1 as).add (VAL_sz okW h hn on) (by have := ub_le (f := n - x.1) (by omega); omega)
end
end K37
set_option Elab.async false
set_option linter.all false
set_option maxRecDepth 100000
set_option maxHeartbeats 4000000
namespace K37
open PySem PySem.Spec PyProof.Rows L2
open C8 (Cal Met Mak CalAt pe_c pe_mt pe_mt0 pe_mk pe_gc tCut pss_cut)
section
variable {P : Program} {w : World} {K : PySem.W.Frag} {mg : Str → Option Value} {base : Heap}
def spWeighed (K : PySem.W.Frag) : Sp := sp5 fun x y z u t H Q => ∃ (M : Addr → Prop) (W : Web) (n d j : Nat) (N : Nd W d j) (a b : Rat) (U : Nat), Lat K H x M W n ∧ y = .int (d : Nat) ∧ z = .int (j : Nat) ∧ d < n ∧ Am K H u a ∧ Am K H t b ∧ Sz U a ∧ Sz U b ∧ U ≤ 1800 ∧ ∀ v H', Same H H' → Am K H' v (N.weigh a b) → Q v H'
theorem c_weighed (T : Tx P w K mg base) : Cal P w K mg base 6 "weighed" (spWeighed K) [] := by
  refine mkC T.f_weighed T.g_weighed sc_weighed len5 (fun _ _ _ _ _ _ us hl => match us, hl with | [_, _, _, _, _], _ => rfl) fun cdv A0 outer s0 H vs Q E hr h => ?_
  obtain ⟨_, _, _, u, t, rfl, M, W, n, d, j, N, a, b, U, hL, rfl, rfl, hd, ha, hb, sa, sb, hU, q⟩ := h
  obtain ⟨L, rfl, hLa, okW⟩ := id hL
  obtain ⟨ldx, lPA, lRA, lSA, hlL, _⟩ := id hLa
  refine ⟨_, (pss_cons (ps_set (i := 5) sc_weighed.nd rfl (by first | exact Or.inl rfl | exact Or.inr rfl) (pe_mt (m_Lattice_share T) hr (by omega) (pv 0) (pa_cons (pv 1) (pa_cons (pv 2) pa_nil))))
        (pss_one (ps_ret (pe_c (c_by T) hr (by omega) rfl (pa_cons (pe_c (c_plus T) hr (by omega) rfl (pa_cons (pe_c (c_times T) hr (by omega) rfl (pa_cons (pv 5) (pa_cons (pv 3) pa_nil))) (pa_cons (pe_c (c_times T) hr (by omega) rfl (pa_cons (pe_c (c_minus T) hr (by omega) rfl (pa_cons (pe_gc rfl T.c_ONE) (pa_cons (pv 5) pa_nil))) (pa_cons (pv 4) pa_nil))) pa_nil))) (pa_cons (pe_mt (m_Lattice_rate T) hr (by omega) (pv 0) (pa_cons (pv 1) (pa_cons (pv 2) pa_nil))) pa_nil)))))), ?_⟩
  refine ⟨_, rfl, L, ldx, _, rfl, hlL, rfl, _, rfl, _, rfl, _, _, _, rfl, M, W, n, d, j, N, hL, rfl, rfl, hd, fun sh H1 e1 hsh => ?_⟩
  refine ⟨_, rfl, _, rfl, _, _, rfl, N.share, a, hsh, ha.s e1, N.shs.mono (by decide), sa.mono (by omega), trivial, fun v1 H2 e2 h1 => ?_⟩
  refine ⟨_, rfl, _, _, rfl, 1, N.share, T.one _, hsh.s e2, (show Sz 1 (1 : Rat) from ⟨by decide, by decide⟩).mono (by decide), N.shs.mono (by decide), trivial, fun v2 H3 e3 h2 => ?_⟩
  have z1 : Sz 97 (1 - N.share) := Sz.sub (n := 1) ⟨by decide, by decide⟩ N.shs (by decide)
  refine ⟨_, rfl, _, _, rfl, _, b, h2, ((hb.s e1).s e2).s e3, z1.mono (by decide), sb.mono (by omega), trivial, fun v3 H4 e4 h3 => ?_⟩
  have z2 : Sz (95 + U) (N.share * a) := N.shs.mul sa (Nat.le_refl _)
  have z3 : Sz (97 + U) ((1 - N.share) * b) := z1.mul sb (Nat.le_refl _)
  refine ⟨_, _, rfl, _, _, (h1.s e3).s e4, h3, z2.mono (by omega), z3.mono (by omega), trivial, fun v4 H5 e5 h4 => ?_⟩
  have z4 : Sz (193 + 2 * U) (N.share * a + (1 - N.share) * b) := z2.add z3 (by omega)
  have e15 : Same H H5 := (((e1.trans e2).trans e3).trans e4).trans e5
  refine ⟨_, rfl, L, ldx, _, rfl, e15 _ _ hlL, rfl, _, rfl, _, rfl, _, _, _, rfl, M, W, n, d, j, N, hL.s e15, rfl, rfl, hd, fun rv mr => ?_⟩
  exact ⟨_, _, rfl, _, _, h4, mr, z4.mono (by omega), N.rs.mono (by decide), N.r0, fun v5 H6 e6 h5 => q v5 H6 (e15.trans e6) h5⟩
def spChosen (K : PySem.W.Frag) : Sp := sp3 fun x y z H Q => ∃ (o : Str) (p q : Rat), x = .str o ∧ Am K H y p ∧ Am K H z q ∧ Sz 3999 p ∧ Sz 3999 q ∧ Q (.bl (if o = "holder" then decide (q < p) else decide (p < q))) H
theorem c_chosen (T : Tx P w K mg base) : Cal P w K mg base 2 "chosen" (spChosen K) [] := by
  refine mkC T.f_chosen T.g_chosen sc_chosen len3 (fun _ _ _ _ _ _ us hl => match us, hl with | [_, _, _], _ => rfl) fun cdv A0 outer s0 H vs Q E hr h => ?_
  obtain ⟨_, _, _, rfl, o, p, q, rfl, hy, hz, sp, sq, k⟩ := h
  refine ⟨_, (pss_one (ps_ret (pe_ifExp (pt_cmpR op_eq (pv 0) pe_str (nomark _)) (pe_c (c_less T) hr (by omega) rfl (pa_cons (pv 2) (pa_cons (pv 1) pa_nil))) (pe_c (c_less T) hr (by omega) rfl (pa_cons (pv 1) (pa_cons (pv 2) pa_nil)))))), ?_⟩
  refine ⟨_, rfl, rfl, _, rfl, ite2 (fun hc => ?_) (fun hc => ?_)⟩
  · have h := of_decide_eq_true hc
    injection h with h
    rw [if_pos h] at k
    exact ⟨_, rfl, _, rfl, _, _, rfl, _, _, hz, hy, sq, sp, k⟩
  · have h : ¬ o = "holder" := fun z => hc (decide_eq_true (congrArg V.str z))
    rw [if_neg h] at k
    exact ⟨_, rfl, _, rfl, _, _, rfl, _, _, hy, hz, sp, sq, k⟩
/-- a table of worths, from the row lo on -/
def TabAt (K : PySem.W.Frag) (H : Hp) (t : Addr) (M : Addr → Prop) (W : Web) (n : Nat) (s : Pay) (r : Option (Right s)) (rows : List Row) (lo : Nat) : Prop :=
  ∃ dx MC SU L svs, H t = some (.ins (He.ga K "Worth") dx [("mill", .ref MC), ("sums", .ref SU)]) ∧ Mc K H MC M W n s r L rows ∧ H SU = some (.dK svs) ∧ ∀ (i : Nat) x, lo ≤ i → rows[i]? = some x → ∃ v, valV svs (.inl (i : Int)) = some v ∧ Am K H v (VAL W n s x)
theorem TabAt.s {H H' : Hp} {t : Addr} {M : Addr → Prop} {W : Web} {n : Nat} {s : Pay} {r : Option (Right s)} {rows : List Row} {lo : Nat} (h : TabAt K H t M W n s r rows lo) (e : Same H H') : TabAt K H' t M W n s r rows lo := by
  obtain ⟨dx, MC, SU, L, svs, h1, h2, h3, h4⟩ := h
  exact ⟨dx, MC, SU, L, svs, e _ _ h1, h2.s e, e _ _ h3, fun i x hi hx => by
    obtain ⟨v, a, b⟩ := h4 i x hi hx
    exact ⟨v, a, b.s e⟩⟩
/-- only a right is asked about, and taking it is never better -/
theorem asked {s : Pay} {r : Option (Right s)} {m : Nt} (h : St s r m) {d : Int} {p : Rat} {as : List Bool} {o nm : Str} (hp : Sz 11 p) (la : as.length ≤ 1) (hl : m.live d p as = .ask o nm) : as = [] ∧ ∃ x, r = some x ∧ m = x.n ∧ o = x.o ∧ nm = "w" ∧ 0 ≤ d ∧ d ≤ x.k := by
  match as, la with
  | [c], _ =>
    obtain ⟨q, n, as', e⟩ := mn_two h.mn d p hp c
    rw [e] at hl
    cases hl
  | [], _ =>
    refine ⟨rfl, ?_⟩
    rcases h with rfl | rfl | ⟨x, hx, rfl⟩
    · cases hl
    · rw [(lf_pay s d p []).1] at hl; cases hl
    · rcases live_right x d p with ⟨a, b, h1, _⟩ | ⟨_, h1⟩
      · rw [h1] at hl
        cases hl
        exact ⟨x, hx, rfl, rfl, rfl, a, b⟩
      · rw [h1] at hl; cases hl
theorem fee_yes {s : Pay} (x : Right s) {d : Int} (h : 0 ≤ d ∧ d ≤ x.k) : fee d x.n [true] = x.c := by
  show (if 0 ≤ d ∧ d ≤ x.k then x.c else 0) = x.c
  rw [if_pos h]
theorem never {s : Pay} (x : Right s) (v : Rat) : (if x.o = "holder" then decide (0 + v < x.c + v) else decide (x.c + v < 0 + v)) = false := by
  rcases x.oc with ⟨h, hc⟩ | ⟨h, hc⟩
  · rw [if_pos h, decide_eq_false]
    grind
  · rw [if_neg (by rw [h]; decide), decide_eq_false]
    grind
def spReck (K : PySem.W.Frag) (b : Nat) : Sp := sp3 fun x y z H Q => ∃ (t : Addr) (M : Addr → Prop) (W : Web) (n : Nat) (s : Pay) (r : Option (Right s)) (rows : List Row) (i : Nat) (xr : Row) (as : List Bool), x = .ref t ∧ y = .int (i : Int) ∧ TabAt K H t M W n s r rows (i + 1) ∧ rows[i]? = some xr ∧ AnsR K H z as ∧ as.length + b = 1 ∧
  ∀ v H', Same H H' → Am K H' v (rk W n s xr as) → Q v H'
theorem m_reck_step (T : Tx P w K mg base) (b : Nat) (ih : Met P w K mg base (b + 21) (He.ga K "Worth") "reckoned" (spPre (spReck K) b) []) : Met P w K mg base (b + 22) (He.ga K "Worth") "reckoned" (spReck K b) [] := by
  refine mkM T.cl_Worth T.me_Worth_reckoned T.f_Worth_reckoned sc_Worth_reckoned (show ∀ vs H Q E, spReck K b vs H Q E → vs.length = 3 from len3) (fun _ _ _ _ _ _ us hl => match us, hl with | [_, _, _], _ => rfl) fun cdv A0 outer s0 H vs Q E hr h => ?_
  obtain ⟨_, _, z, rfl, t, M, W, n, s, r, rows, i, xr, as, rfl, rfl, tab, hx, hz, lb, q⟩ := h
  have hu := hu_of hr
  refine ⟨_, (pss_cons (ps_set (i := 3) sc_Worth_reckoned.nd rfl (by first | exact Or.inl rfl | exact Or.inr rfl) (K37R.pe_mtK (m_Machine_at T) hr (by omega) (pe_fld (pv 0) rfl) (pa_cons (pv 1) pa_nil) (pk_cons (pv 2) pk_nil)))
        (pss_cons (ps_if (pt_cmpR op_eq (pe_ix ix_tup (pv 3) pe_int (fun _ _ => rfl)) pe_str (nomark _)) (pss_cons (ps_set (i := 4) sc_Worth_reckoned.nd rfl (by first | exact Or.inl rfl | exact Or.inr rfl) (pe_mt ih hr (by omega) (pv 0) (pa_cons (pv 1) (pa_cons (pe_op op_catA (pv 2) (pe_tup (pa_cons pe_bl pa_nil))) pa_nil))))
        (pss_cons (ps_set (i := 5) sc_Worth_reckoned.nd rfl (by first | exact Or.inl rfl | exact Or.inr rfl) (pe_mt ih hr (by omega) (pv 0) (pa_cons (pv 1) (pa_cons (pe_op op_catA (pv 2) (pe_tup (pa_cons pe_bl pa_nil))) pa_nil))))
        (pss_one (ps_ret (pe_ifExp (pt_val (pe_c (c_chosen T) hr (by omega) rfl (pa_cons (pe_ix ix_tup (pv 3) pe_int (fun _ _ => rfl)) (pa_cons (pv 4) (pa_cons (pv 5) pa_nil))))) (pv 4) (pv 5)))))) pss_nil)
        (pss_cons (ps_set (i := 6) sc_Worth_reckoned.nd rfl (by first | exact Or.inl rfl | exact Or.inr rfl) (K37R.pe_mtK (m_Machine_ahead T) hr (by omega) (pe_fld (pv 0) rfl) (pa_cons (pv 1) pa_nil) (pk_cons (pv 2) pk_nil)))
        (pss_cons (ps_if (pt_cmp (pc_isN (pv 6))) (pss_one (ps_ret (pe_ix ix_tup (pv 3) pe_int (fun _ _ => rfl)))) pss_nil)
        (pss_cons (ps_asg (pv 6) (pg_tup rfl (pgs_cons (pg_name (i := 7) sc_Worth_reckoned.nd rfl (by first | exact Or.inl rfl | exact Or.inr rfl)) (pgs_cons (pg_name (i := 8) sc_Worth_reckoned.nd rfl (by first | exact Or.inl rfl | exact Or.inr rfl)) pgs_nil))))
        (pss_cons (ps_asg (pe_mt (m_Machine_stand T) hr (by omega) (pe_fld (pv 0) rfl) (pa_cons (pv 1) pa_nil)) (pg_tup rfl (pgs_cons (pg_name (i := 9) sc_Worth_reckoned.nd rfl (by first | exact Or.inl rfl | exact Or.inr rfl)) (pgs_cons (pg_name (i := 10) sc_Worth_reckoned.nd rfl (by first | exact Or.inl rfl | exact Or.inr rfl)) (pgs_cons (pg_name (i := 11) sc_Worth_reckoned.nd rfl (by first | exact Or.inl rfl | exact Or.inr rfl)) pgs_nil)))))
        (pss_one (ps_ret (pe_c (c_plus T) hr (by omega) rfl (pa_cons (pe_ix ix_tup (pv 3) pe_int (fun _ _ => rfl)) (pa_cons (pe_c (c_weighed T) hr (by omega) rfl (pa_cons (pe_fld (pe_fld (pv 0) rfl) rfl) (pa_cons (pv 9) (pa_cons (pv 10) (pa_cons (pe_dget hu (pe_fld (pv 0) rfl) (pv 7) (fun _ _ => rfl)) (pa_cons (pe_dget hu (pe_fld (pv 0) rfl) (pv 8) (fun _ _ => rfl)) pa_nil)))))) pa_nil))))))))))), ?_⟩
  obtain ⟨dx, MC, SU, L, svs, ht, mc, hSU, sums⟩ := id tab
  obtain ⟨hL, hM, hn⟩ := id mc
  obtain ⟨mdx, mv, RW, KN, SP, rvs, kvs, spv, hMC, hRW, rel, hKN, ks, has, hSP, spot, ri, rl⟩ := id hM
  obtain ⟨La, rL, hLa, okW⟩ := id hL
  injection rL with rL
  subst rL
  have xm := List.mem_of_getElem? hx
  obtain ⟨_, xn, st, on⟩ := ri.valid xr xm
  refine ⟨_, rfl, t, _, dx, _, _, rfl, ht, T.cl_Worth, T.na_Worth_mill, rfl, MC, mdx, _, rfl, hMC, rfl, _, rfl, _, rfl, rfl, rfl, _, _, _, rfl, MC, M, W, n, s, r, L, rows, i, xr, as, rfl, rfl, mc, hx, hz, fun f H1 e1 hf => ?_⟩
  cases hl : xr.2.2.live xr.1 (W.pr xr.1 xr.2.1) as with
  | ask o nm =>
    rw [hl] at hf
    obtain ⟨fa, rfl, ft⟩ := hf
    refine ⟨_, rfl, _, _, _, _, rfl, rfl, ft, at0, rfl, _, rfl, decT rfl ?_⟩
    obtain ⟨rfl, x, hxr, ex, rfl, _, hin⟩ := asked st (on.pr_sz okW) (by omega) hl
    have b1 : b = 1 := by simpa using lb
    subst b1
    obtain ⟨za, rfl, tz⟩ := hz
    -- yes
    refine ⟨_, rfl, t, dx, _, rfl, e1 _ _ ht, rfl, _, rfl, _, rfl, by decide, fun r1 n1 => ?_⟩
    have s1 := same_new (o := .tup [.bl true]) n1
    have E2 := e1.trans s1
    refine cat_rd (as := []) (same_t E2 tz) (SqT.of upd_same) (by decide) fun w1 H3 e3 h3 => ?_
    have E3 := E2.trans e3
    refine ⟨_, _, _, rfl, t, M, W, n, s, r, rows, i, xr, [true], rfl, rfl, tab.s E3, hx, h3, rfl, fun yv H4 e4 hy => ?_⟩
    have E4 := E3.trans e4
    -- no
    refine ⟨_, rfl, t, dx, _, rfl, E4 _ _ ht, rfl, _, rfl, _, rfl, by decide, fun r2 n2 => ?_⟩
    have s5 := same_new (o := .tup [.bl false]) n2
    have E5 := E4.trans s5
    refine cat_rd (as := []) (same_t E5 tz) (SqT.of upd_same) (by decide) fun w2 H6 e6 h6 => ?_
    have E6 := E5.trans e6
    refine ⟨_, _, _, rfl, t, M, W, n, s, r, rows, i, xr, [false], rfl, rfl, tab.s E6, hx, h6, rfl, fun nv H7 e7 hnv => ?_⟩
    have e17 : Same H1 H7 := ((((((s1.trans e3).trans e4).trans s5).trans e6).trans e7))
    refine ⟨_, rfl, _, _, _, _, rfl, rfl, same_t e17 ft, at1, _, rfl, _, rfl, _, _, _, rfl, _, _, _, rfl, hy.s ((s5.trans e6).trans e7), hnv, (rk_sz okW hn st xn on [true]).mono (by decide), (rk_sz okW hn st xn on [false]).mono (by decide), _, rfl, ?_⟩
    have e0 : fee xr.1 xr.2.2 [false] = 0 := by rw [ex]; rfl
    have e2 : fee xr.1 xr.2.2 [] = 0 := by rw [ex]; rfl
    have ey : rk W n s xr [true] = x.c + VAL W n s xr := by unfold rk; rw [ex, fee_yes x hin]
    have en : rk W n s xr [false] = 0 + VAL W n s xr := by unfold rk; rw [e0]
    have eq : rk W n s xr [] = 0 + VAL W n s xr := by unfold rk; rw [e2]
    rw [ey, en, never x]
    refine iteF ⟨_, rfl, q nv H7 (e1.trans e17) ?_⟩
    rw [eq, ← en]
    exact hnv
  | fin q' m' as' =>
    rw [hl] at hf
    obtain ⟨fa, fx, fy, rfl, ft, fm, fn'⟩ := hf
    refine ⟨_, rfl, _, _, _, _, rfl, rfl, ft, at0, rfl, _, rfl, decF (str_ne (by decide)) ?_⟩
    obtain ⟨eq', eb, stm⟩ := live_fee st (by omega) hl
    have sq : Sz 54 q' := by
      rw [eq']
      exact (fee_sz st _ as).add (st.bs.sz _ (on.pr_sz okW)) (by decide)
    refine ⟨_, rfl, t, _, dx, _, _, rfl, e1 _ _ ht, T.cl_Worth, T.na_Worth_mill, rfl, MC, mdx, _, rfl, e1 _ _ hMC, rfl, _, rfl, _, rfl, rfl, rfl, _, _, _, rfl, MC, M, W, n, s, r, L, rows, i, xr, as, rfl, rfl, mc.s e1, hx, hz.tk (tkS e1), by omega, fun g H2 e2 hg => ?_⟩
    rw [hl] at hg
    have E2 := e1.trans e2
    have ft2 := same_t e2 ft
    by_cases hlast : xr.1 = n
    · obtain rfl := hg.1 hlast
      refine ⟨_, rfl, _, rfl, iteT ⟨_, rfl, _, _, _, _, rfl, rfl, ft2, at1, q _ _ E2 ?_⟩⟩
      rw [← rk_last st hlast hl]
      exact fm.s e2
    · have hlt : xr.1 < n := by omega
      obtain ⟨N, _⟩ := on.nd okW hlt
      obtain ⟨tt, i1, i2, rfl, ttt, k1, k2⟩ := hg.2 hlt N
      refine ⟨_, rfl, _, rfl, iteF ?_⟩
      refine ⟨_, rfl, tt, _, rfl, ttt, rfl, _, _, rfl, _, _, rfl, rfl, ?_⟩
      refine ⟨_, rfl, t, _, dx, _, _, rfl, E2 _ _ ht, T.cl_Worth, T.na_Worth_mill, rfl, MC, mdx, _, rfl, E2 _ _ hMC, rfl, _, rfl, _, _, rfl, MC, M, W, n, s, r, L, rows, i, xr, rfl, rfl, mc.s E2, hx, fun v2 ⟨b', rb, hb⟩ => ?_⟩
      subst rb
      refine ⟨b', _, rfl, SqT.of hb, rfl, _, _, rfl, _, _, rfl, _, _, rfl, rfl, ?_⟩
      have o1 := ri.sorted i i1 _ _ hx k1 (by show xr.1 < xr.1 + 1; omega)
      have o2 := ri.sorted i i2 _ _ hx k2 (by show xr.1 < xr.1 + 1; omega)
      obtain ⟨v1, hv1, a1⟩ := sums i1 _ (by omega) k1
      obtain ⟨v2, hv2, a2⟩ := sums i2 _ (by omega) k2
      obtain ⟨_, n1, st1, on1⟩ := ri.valid _ (List.mem_of_getElem? k1)
      obtain ⟨_, n2, st2, on2⟩ := ri.valid _ (List.mem_of_getElem? k2)
      have z1 := (VAL_sz okW st1 n1 on1).mono (ub_le2 (f := n - (xr.1 + 1)) (by omega))
      have z2 := (VAL_sz okW st2 n2 on2).mono (ub_le2 (f := n - (xr.1 + 1)) (by omega))
      refine ⟨_, rfl, _, _, _, _, rfl, rfl, ft2, at1, ?_⟩
      refine ⟨_, rfl, t, _, dx, _, _, rfl, E2 _ _ ht, T.cl_Worth, T.na_Worth_mill, rfl, MC, _, mdx, _, _, rfl, E2 _ _ hMC, T.cl_Machine, T.na_Machine_web, rfl, _, rfl, _, rfl, ?_⟩
      refine ⟨_, rfl, t, _, dx, _, _, rfl, E2 _ _ ht, T.cl_Worth, T.na_Worth_sums, rfl, _, rfl, SU, v1, rfl, hv1 ▸ DGet.k (k := .inl (i1 : Int)) (E2 _ _ hSU), ?_⟩
      refine ⟨_, rfl, t, _, dx, _, _, rfl, E2 _ _ ht, T.cl_Worth, T.na_Worth_sums, rfl, _, rfl, SU, v2, rfl, hv2 ▸ DGet.k (k := .inl (i2 : Int)) (E2 _ _ hSU), ?_⟩
      refine ⟨_, _, _, _, _, rfl, M, W, n, xr.1, xr.2.1, N, _, _, 1290, hL.s E2, rfl, rfl, hlt, a1.s E2, a2.s E2, z1, z2, by decide, fun wv H3 e3 hw => ?_⟩
      refine ⟨_, _, rfl, q', _, (fm.s e2).s e3, hw, sq.mono (by decide), (N.weigh_sz z1 z2).mono (by decide), trivial, fun v H4 e4 hv => q v H4 ((E2.trans e3).trans e4) ?_⟩
      rw [← rk_step st hlt N hl]
      exact hv
theorem m_reck_no (T : Tx P w K mg base) (k : Nat) : Met P w K mg base (k + 1) (He.ga K "Worth") "reckoned" (fun _ _ _ _ => False) [] :=
  mkM T.cl_Worth T.me_Worth_reckoned T.f_Worth_reckoned sc_Worth_reckoned (fun _ _ _ _ h => h.elim) (fun _ _ _ _ _ _ us hl => match us, hl with | [_, _, _], _ => rfl) fun _ _ _ _ _ _ _ _ _ h => h.elim
theorem m_reck1 (T : Tx P w K mg base) : Met P w K mg base 22 (He.ga K "Worth") "reckoned" (spReck K 0) [] := m_reck_step T 0 (m_reck_no T 20)
theorem m_reck0 (T : Tx P w K mg base) : Met P w K mg base 23 (He.ga K "Worth") "reckoned" (spReck K 1) [] := m_reck_step T 1 (m_reck1 T)
end
end K37
set_option Elab.async false
set_option linter.all false
set_option maxRecDepth 100000
set_option maxHeartbeats 4000000
namespace K37
open PySem PySem.Spec PyProof.Rows L2
open C8 (Cal Met Mak CalAt pe_c pe_mt pe_mt0 pe_mk pe_gc tCut pss_cut)
/-! ### what stays when an instance changes -/
section
variable {K : PySem.W.Frag} {H H' : Hp} {a C dx : Addr} {fs : List (Str × V)}
theorem RowM.ka {α : Type} {R : Hp → V → α → Prop} {M : Addr → Prop} {v : V} {xs : List α} (h : RowM R M H v xs) (st : StT K R) (e : Kp (· = a) H H') (ha : H a = some (.ins C dx fs)) : RowM R M H' v xs := by
  obtain ⟨b, vs, r, h1, ne, h2⟩ := h
  have t : TK K H H' := fun _ _ h => e.tn (nt_i ha) h
  exact ⟨b, vs, r, e _ _ h1 (fun z => by rw [show b = a from z, ha] at h1; cases h1), ne, h2.mono fun _ _ m => st m t⟩
theorem WebAt.ka {M : Addr → Prop} {PA RA SA : Addr} {W : Web} (h : WebAt K M H PA RA SA W) (e : Kp (· = a) H H') (ha : H a = some (.ins C dx fs)) : WebAt K M H' PA RA SA W := by
  have nl : ∀ {b : Addr} {xs : List V}, H b = some (.lst xs) → ¬ b = a := fun h1 z => by rw [z, ha] at h1; cases h1
  obtain ⟨⟨v1, h1, m1, a1⟩, ⟨v2, h2, m2, a2⟩, v3, h3, m3, a3⟩ := h
  exact ⟨⟨v1, e _ _ h1 (nl h1), m1, a1.mono fun _ _ r => RowM.ka (R := Am K) (K := K) r (fun h t => h.tk t) e ha⟩, ⟨v2, e _ _ h2 (nl h2), m2, a2.mono fun _ _ r => RowM.ka (R := Am K) (K := K) r (fun h t => h.tk t) e ha⟩, v3, e _ _ h3 (nl h3), m3, a3.mono fun _ _ r => RowM.ka (R := PairR K) (K := K) r (fun h t => h.tk t) e ha⟩
theorem Mc.ka {mc : Addr} {M : Addr → Prop} {W : Web} {n : Nat} {s : Pay} {r : Option (Right s)} {L : Addr} {rows : List Row} (h : Mc K H mc M W n s r L rows) (e : Kp (· = a) H H') (ha : H a = some (.ins C dx fs)) (h1 : mc ≠ a) (h2 : L ≠ a) : Mc K H' mc M W n s r L rows := by
  obtain ⟨⟨La, rL, ⟨ldx, PA, RA, SA, hl, mL, hW⟩, ok⟩, ⟨mdx, v, RW, KN, SP, rvs, kvs, svs, hMC, hRW, rel, hKN, ks, has, hSP, rest⟩, n3⟩ := h
  injection rL with rL
  subst rL
  have t : TK K H H' := fun _ _ h => e.tn (nt_i ha) h
  have d : DT H H' := fun b xs hb => e b _ hb fun z => by rw [show b = a from z, ha] at hb; cases hb
  exact ⟨⟨_, rfl, ⟨ldx, PA, RA, SA, e _ _ hl h2, mL, hW.ka e ha⟩, ok⟩, ⟨mdx, v, RW, KN, SP, rvs, kvs, svs, e _ _ hMC h1, e _ _ hRW (fun z => by rw [show RW = a from z, ha] at hRW; cases hRW), rel.mono fun _ _ m => m.dt d, e _ _ hKN (fun z => by rw [show KN = a from z, ha] at hKN; cases hKN), ks.tk t, has, e _ _ hSP (fun z => by rw [show SP = a from z, ha] at hSP; cases hSP), rest⟩, n3⟩
end
section
variable {P : Program} {w : World} {K : PySem.W.Frag} {mg : Str → Option Value} {base : Heap}
def spWInit (K : PySem.W.Frag) : Sp := sp3 fun x y z H Q => ∃ (M : Addr → Prop) (H0 : Hp) (a dx : Addr) (W : Web) (n : Nat) (s : Pay) (r : Option (Right s)) (L : Addr), x = .ref a ∧ y = .ref L ∧ H0 a = none ∧ H0 dx = none ∧ dx ≠ a ∧ H = upd (upd H0 dx (.own a)) a (.ins (He.ga K "Worth") dx []) ∧
  Lat K H0 (.ref L) M W n ∧ n ≤ 3 ∧ (topN s r).Is K H0 z ∧ ∀ rows H', Same H0 H' → TabAt K H' a M W n s r rows 0 → rows[0]? = some (0, 0, topN s r) → rows.length ≤ 1000 → Q .non H'
theorem m_Worth (T : Tx P w K mg base) : Mak P w K mg base 24 "Worth" (He.ga K "Worth") (spWInit K) [] := by
  refine mkI T.mk_Worth T.g_Worth T.f_Worth_init sc_Worth_init len3 (fun _ _ _ _ _ _ us hl => match us, hl with | [_, _, _], _ => rfl) fun cdv A0 outer s0 H vs Q E hr h => ?_
  obtain ⟨_, _, z, rfl, M, H0, a, dx, W, n, s, r, L, rfl, rfl, na, ndx, hne, hH, hL, hn, hz, q⟩ := h
  have hu := hu_of hr
  refine ⟨_, (pss_cons (ps_fld (pv 0) (pe_mk (m_Machine T) hr (by omega) rfl (pa_cons (pv 1) (pa_cons (pv 2) pa_nil))) rfl)
        (pss_cons (ps_fld (pv 0) pe_dnewK rfl)
        (pss_one (ps_for PassesOwn.never rfl (pi_revR (by rfl) T.b_reversed (prg_1 (by rfl) T.b_range (pe_callB (K37R.call_lenO (m_Machine_len T) hr (by omega)) (by rfl) T.b_len (by decide +kernel) (pa_cons (pe_fld (pv 0) rfl) pa_nil)))) (pg_name (i := 3) sc_Worth_init.nd rfl (by first | exact Or.inl rfl | exact Or.inr rfl)) (pss_one (ps_dput hu (pe_fld (pv 0) rfl) (pv 3) (pe_mt (m_reck0 T) hr (by omega) (pv 0) (pa_cons (pv 3) (pa_cons (pe_tup pa_nil) pa_nil))) rfl)))))), ?_⟩
  have e0 : Same H0 H := by rw [hH]; exact same_fresh (same_new ndx) na
  have ha0 : H a = some (.ins (He.ga K "Worth") dx []) := by rw [hH, upd_same]
  -- self.mill
  refine ⟨_, rfl, _, rfl, fun mc mdx nmc nmdx hne' => ?_⟩
  refine ⟨_, _, _, rfl, M, H, mc, mdx, W, n, s, r, L, rfl, rfl, nmc, nmdx, hne', rfl, hL.s e0, hn, hz.s e0, fun rows H1 e1 hM => ⟨rfl, ?_⟩⟩
  have ha1 := e1 _ _ ha0
  refine ⟨_, rfl, a, _, dx, _, rfl, ha1, T.cl_Worth, T.na_Worth_mill, by decide, ?_⟩
  have mca : mc ≠ a := fun z => by rw [z, ha0] at nmc; cases nmc
  obtain ⟨La, rL, hLa, okW⟩ := id hL
  injection rL with rL
  subst rL
  have hLH0 : ∃ o, H0 L = some o := by obtain ⟨ldx, _, _, _, h, _⟩ := id hLa; exact ⟨_, h⟩
  have LA : L ≠ a := fun z => by obtain ⟨o, ho⟩ := hLH0; rw [z, na] at ho; cases ho
  have mc1 : Mc K H1 mc M W n s r L rows := ⟨hL.s (e0.trans e1), hM, hn⟩
  have mc2 : Mc K (upd H1 a (.ins (He.ga K "Worth") dx [("mill", .ref mc)])) mc M W n s r L rows := mc1.ka (kp_upd rfl) ha1 mca LA
  -- self.sums
  refine fun SU nSU => ⟨_, rfl, a, _, dx, _, rfl, same_new nSU _ _ upd_same, T.cl_Worth, T.na_Worth_sums, by show 1 < 1000; decide, ?_⟩
  have mc3 := mc2.s (same_new (o := .dK []) nSU)
  have mc4 : Mc K (upd (upd (upd H1 a (.ins (He.ga K "Worth") dx [("mill", .ref mc)])) SU (.dK [])) a (.ins (He.ga K "Worth") dx [("mill", .ref mc), ("sums", .ref SU)])) mc M W n s r L rows := mc3.ka (kp_upd rfl) (same_new nSU _ _ upd_same) mca LA
  have SUa : SU ≠ a := (none_upd nSU).2
  have nSU1 : H1 SU = none := (none_upd nSU).1
  have nSU0 : H0 SU = none := same_none (e0.trans e1) nSU1
  obtain ⟨H4, h4⟩ : ∃ H4 : Hp, H4 = upd (upd (upd H1 a (.ins (He.ga K "Worth") dx (putF "mill" (.ref mc) []))) SU (.dK [])) a (.ins (He.ga K "Worth") dx (putF "sums" (.ref SU) (putF "mill" (.ref mc) []))) := ⟨_, rfl⟩
  have ha4 : H4 a = some (.ins (He.ga K "Worth") dx [("mill", .ref mc), ("sums", .ref SU)]) := by rw [h4, upd_same]; rfl
  have hSU4 : H4 SU = some (.dK []) := by rw [h4, upd_ne SUa, upd_same]
  have E4 : Same H0 H4 := by
    rw [h4]
    exact same_fresh (same_fresh (same_fresh (e0.trans e1) na) nSU0) na
  have mc4 : Mc K H4 mc M W n s r L rows := by rw [h4]; exact mc4
  dsimp only
  rw [← h4]
  obtain ⟨mdx2, hmc4⟩ : ∃ mdx2, ∃ fs, H4 mc = some (.ins (He.ga K "Machine") mdx2 fs) := by obtain ⟨mdx2, _, _, _, _, _, _, _, h, _⟩ := mc4.at_; exact ⟨mdx2, _, h⟩
  obtain ⟨mfs, hmc4⟩ := hmc4
  obtain ⟨rl, hd0⟩ : rows.length ≤ 1000 ∧ rows[0]? = some (0, 0, topN s r) := by
    obtain ⟨_, _, _, _, _, _, _, _, _, _, _, _, _, _, _, _, ri, rl⟩ := mc4.at_
    refine ⟨rl, ?_⟩
    rcases ri.head with ⟨h, _⟩ | ⟨_, h⟩
    · omega
    · exact h
  clear nSU
  -- the heap without the sums
  obtain ⟨HB, hB⟩ : ∃ HB : Hp, HB = upd H1 a (.ins (He.ga K "Worth") dx [("mill", .ref mc), ("sums", .ref SU)]) := ⟨_, rfl⟩
  have mcB : Mc K HB mc M W n s r L rows := by rw [hB]; exact mc1.ka (kp_upd rfl) ha1 mca LA
  have haB : HB a = some (.ins (He.ga K "Worth") dx [("mill", .ref mc), ("sums", .ref SU)]) := by rw [hB, upd_same]
  have nSUB : HB SU = none := by rw [hB, upd_ne SUa]; exact nSU1
  have EB : Same HB H4 := fun c o h => by
    by_cases z : c = a
    · rw [z] at h ⊢
      rw [haB] at h
      rw [ha4]
      exact h
    · rw [hB, upd_ne z] at h
      have cs : c ≠ SU := ne_of_none h nSU1
      rw [h4, upd_ne z, upd_ne cs, upd_ne z]
      exact h
  have E0B : Same H0 HB := by rw [hB]; exact same_fresh (e0.trans e1) na
  refine ⟨_, rfl, a, _, dx, _, _, rfl, ha4, T.cl_Worth, T.na_Worth_mill, rfl, mc, mdx2, mfs, rfl, hmc4, _, rfl, mc, M, W, n, s, r, L, rows, rfl, mc4, rows.length, rfl, by omega, ?_⟩
  refine ⟨_, rfl, by decide, by decide, by omega, by omega, for_it (n := (((rows.length : Nat) : Int) - 0).toNat) walk_rangeC (fun k σ H' => ∃ x3 svs, σ = [some (.ref a), some (.ref L), some z, x3] ∧ Same HB H' ∧ H' SU = some (.dK svs) ∧ svs.length ≤ k ∧ ∀ (i : Nat) x, rows.length - k ≤ i → rows[i]? = some x → ∃ v, valV svs (.inl (i : Int)) = some v ∧ Am K H' v (VAL W n s x)) ?_ (fun _ _ _ _ _ => trivial) ?_ ?_⟩
  · refine ⟨_, [], rfl, EB, hSU4, Nat.le_refl _, fun i x hi hx => ?_⟩
    have := (List.getElem?_eq_some_iff.mp hx).1
    omega
  · rintro k _ _ _ H5 hk ⟨x3, svs, rfl, E5, hSU5, l5, sums⟩ ⟨rfl, rfl⟩
    have ha5 := E5 _ _ haB
    have hki : rows.length - 1 - k < rows.length := by omega
    have hx := List.getElem?_eq_getElem hki
    have num : (0 : Int) + (((((rows.length : Nat) : Int) - 0).toNat : Nat) : Int) - 1 + (k : Nat) * (-1) = ((rows.length - 1 - k : Nat) : Int) := by omega
    refine ⟨_, rfl, a, dx, _, rfl, ha5, rfl, _, rfl, by decide, fun e ne => ?_⟩
    have s6 := same_new (o := .tup []) ne
    refine ⟨_, _, _, rfl, a, M, W, n, s, r, rows, rows.length - 1 - k, _, [], rfl, congrArg V.int num, ⟨dx, mc, SU, L, svs, s6 _ _ ha5, mcB.s (E5.trans s6), s6 _ _ hSU5, fun i x hi hx => ?_⟩, hx, ⟨e, rfl, SqT.of upd_same⟩, rfl, fun v H7 e7 hv => ?_⟩
    · obtain ⟨v, a1, a2⟩ := sums i x (by omega) hx
      exact ⟨v, a1, a2.s s6⟩
    have e57 := s6.trans e7
    have hSU7 := e57 _ _ hSU5
    have ls : svs.length < sizeLine := Nat.lt_of_le_of_lt (show svs.length ≤ 1000 by omega) (by decide)
    refine ⟨_, rfl, a, _, dx, _, _, rfl, e57 _ _ ha5, T.cl_Worth, T.na_Worth_sums, rfl, _, rfl, SU, upd H7 SU (.dK (putK svs (.inl ((rows.length - 1 - k : Nat) : Int)) v)), rfl, .inl ⟨svs, .inl ((rows.length - 1 - k : Nat) : Int), hSU7, congrArg V.int num, ls, rfl⟩, ?_⟩
    have t8 : TK K H7 (upd H7 SU (.dK (putK svs (.inl ((rows.length - 1 - k : Nat) : Int)) v))) := tkU hSU7 trivial
    refine ⟨_, _, rfl, (E5.trans e57).trans' nSUB, upd_same, by have := length_putK svs (.inl ((rows.length - 1 - k : Nat) : Int)) v; omega, fun i x hi hxi => ?_⟩
    rw [valV_put]
    by_cases z : i = rows.length - 1 - k
    · subst z
      rw [hx] at hxi
      cases hxi
      rw [if_pos rfl]
      have er : rk W n s rows[rows.length - 1 - k] [] = VAL W n s rows[rows.length - 1 - k] := by
        unfold rk
        rw [show fee rows[rows.length - 1 - k].1 rows[rows.length - 1 - k].2.2 [] = 0 from by unfold fee; split <;> first | rfl | (rename_i h; cases h), Rat.zero_add]
      rw [er] at hv
      exact ⟨v, rfl, hv.tk t8⟩
    · have ne : ¬ ((.inl (i : Int) : Key) = .inl ((rows.length - 1 - k : Nat) : Int)) := fun h => z (by have h2 := Sum.inl.inj h; omega)
      rw [if_neg ne]
      obtain ⟨u, a1, a2⟩ := sums i x (by omega) hxi
      exact ⟨u, a1, a2.tk ((tkS e57).trans t8)⟩
  · rintro _ H5 ⟨x3, svs, rfl, E5, hSU5, l5, sums⟩
    exact q rows H5 (E0B.trans E5) ⟨dx, mc, SU, L, svs, E5 _ _ haB, mcB.s E5, hSU5, fun i x hi hx => sums i x (by omega) hx⟩ hd0 rl
end
end K37
set_option Elab.async false
set_option linter.all false
set_option maxRecDepth 100000
set_option maxHeartbeats 4000000
namespace K37
open PySem PySem.Spec PyProof.Rows L2
open C8 (Cal Met Mak CalAt pe_c pe_mt pe_mt0 pe_mk pe_gc tCut pss_cut)
section
variable {P : Program} {w : World} {K : PySem.W.Frag} {mg : Str → Option Value} {base : Heap}
def spWorth (K : PySem.W.Frag) : Sp := sp2 fun x y H Q => ∃ (t : Addr) (M : Addr → Prop) (W : Web) (n : Nat) (s : Pay) (r : Option (Right s)) (rows : List Row) (xr : Row), x = .ref t ∧ y = .int 0 ∧ TabAt K H t M W n s r rows 0 ∧ rows[0]? = some xr ∧ ∀ v, Am K H v (VAL W n s xr) → Q v H
theorem m_Worth_worth (T : Tx P w K mg base) : Met P w K mg base 2 (He.ga K "Worth") "worth" (spWorth K) [.int 0] := by
  obtain ⟨fd, F⟩ := T.f_Worth_worth
  have fn : FnOk P w K mg base CX0 2 (He.ma K (He.ga K "Worth") "worth") fd ["self", "number"] (spWorth K) := by
    refine F.ok sc_Worth_worth len2 fun cdv A0 outer s0 H vs Q E hr h => ?_
    obtain ⟨_, _, rfl, t, M, W, n, s, r, rows, xr, rfl, rfl, tab, hx, q⟩ := h
    have hu := hu_of hr
    refine ⟨_, PSs.nox (pss_cons (ps_expr (pe_mt (m_Machine_stand T) hr (by omega) (pe_fld (pv 0) rfl) (pa_cons (pv 1) pa_nil)))
        (pss_one (ps_ret (pe_dget hu (pe_fld (pv 0) rfl) (pv 1) (fun _ _ => rfl))))), ?_⟩
    obtain ⟨dx, MC, SU, L, svs, ht, mc, hSU, sums⟩ := id tab
    obtain ⟨mdx, mv, RW, KN, SP, rvs, kvs, spv, hMC, _⟩ := mc.at_
    obtain ⟨v1, hv1, a1⟩ := sums 0 _ (Nat.le_refl _) hx
    refine ⟨_, rfl, t, _, dx, _, _, rfl, ht, T.cl_Worth, T.na_Worth_mill, rfl, MC, mdx, _, rfl, hMC, rfl, _, rfl, _, _, rfl, MC, M, W, n, s, r, L, rows, 0, xr, rfl, rfl, mc, hx, fun v2 _ => ?_⟩
    exact ⟨_, rfl, t, _, dx, _, _, rfl, ht, T.cl_Worth, T.na_Worth_sums, rfl, _, rfl, SU, v1, rfl, hv1 ▸ DGet.k (k := .inl 0) hSU, q v1 a1⟩
  obtain ⟨ds, hd, hb⟩ := F.binds1 (ps := ["self", "number"]) 1 0 (by simp) rfl fun T kV doc pm an cdv ct us its h1 h2 => match us, its, h1, h2 with | [_], [_], _, _ => ⟨_, rfl, rfl⟩
  exact ⟨_, fd, _, ds, T.cl_Worth, T.me_Worth_worth, fn, hb, hd⟩
def spPlan (K : PySem.W.Frag) : Sp := sp3 fun x y z H Q => ∃ (t : Addr) (M : Addr → Prop) (W : Web) (n : Nat) (s : Pay) (r : Option (Right s)) (rows : List Row) (i : Nat) (xr : Row) (o nm : Str), x = .ref t ∧ y = .int (i : Int) ∧ TabAt K H t M W n s r rows 0 ∧ rows[i]? = some xr ∧ AnsR K H z [] ∧ xr.2.2.live xr.1 (W.pr xr.1 xr.2.1) [] = .ask o nm ∧ ∀ H', Same H H' → Q (.bl false) H'
theorem TabAt.up {H : Hp} {t : Addr} {M : Addr → Prop} {W : Web} {n : Nat} {s : Pay} {r : Option (Right s)} {rows : List Row} (h : TabAt K H t M W n s r rows 0) (i : Nat) : TabAt K H t M W n s r rows i := by
  obtain ⟨dx, MC, SU, L, svs, h1, h2, h3, h4⟩ := h
  exact ⟨dx, MC, SU, L, svs, h1, h2, h3, fun j x _ hx => h4 j x (Nat.zero_le _) hx⟩
theorem fn_plan (T : Tx P w K mg base) : ∃ fd, FunD K "plan" "Worth.plan" (defArgs s_Worth_plan) (defBody s_Worth_plan) (defScope s_Worth_plan) [V.int 0] [("answers", V.ref (kwAd ("Worth", some "plan") "answers" K))] (He.ma K (He.ga K "Worth") "plan") fd ∧
    FnOk P w K mg base CX0 23 (He.ma K (He.ga K "Worth") "plan") fd ["self", "number", "answers"] (spPlan K) := by
  obtain ⟨fd, F⟩ := T.f_Worth_plan
  refine ⟨fd, F, F.ok sc_Worth_plan len3 fun cdv A0 outer s0 H vs Q E hr h => ?_⟩
  obtain ⟨_, _, z, rfl, t, M, W, n, s, r, rows, i, xr, o, nm, rfl, rfl, tab, hx, hz, hl, q⟩ := h
  refine ⟨_, PSs.nox (pss_cons (ps_set (i := 3) sc_Worth_plan.nd rfl (by first | exact Or.inl rfl | exact Or.inr rfl) (K37R.pe_mtK (m_Machine_at T) hr (by omega) (pe_fld (pv 0) rfl) (pa_cons (pv 1) pa_nil) (pk_cons (pv 2) pk_nil)))
        (pss_cons (ps_if (pt_cmpR op_ne (pe_ix ix_tup (pv 3) pe_int (fun _ _ => rfl)) pe_str (nomark _)) (pss_one (ps_ret pe_non)) pss_nil)
        (pss_cons (ps_set (i := 4) sc_Worth_plan.nd rfl (by first | exact Or.inl rfl | exact Or.inr rfl) (pe_mt (m_reck1 T) hr (by omega) (pv 0) (pa_cons (pv 1) (pa_cons (pe_op op_catA (pe_callTy call_tupleT (by rfl) T.b_tuple (by decide +kernel) (pa_cons (pv 2) pa_nil)) (pe_tup (pa_cons pe_bl pa_nil))) pa_nil))))
        (pss_one (ps_ret (pe_c (c_chosen T) hr (by omega) rfl (pa_cons (pe_ix ix_tup (pv 3) pe_int (fun _ _ => rfl)) (pa_cons (pv 4) (pa_cons (pe_mt (m_reck1 T) hr (by omega) (pv 0) (pa_cons (pv 1) (pa_cons (pe_op op_catA (pe_callTy call_tupleT (by rfl) T.b_tuple (by decide +kernel) (pa_cons (pv 2) pa_nil)) (pe_tup (pa_cons pe_bl pa_nil))) pa_nil))) pa_nil))))))))), ?_⟩
  obtain ⟨dx, MC, SU, L, svs, ht, mc, hSU, sums⟩ := id tab
  obtain ⟨mdx, mv, RW, KN, SP, rvs, kvs, spv, hMC, hRW, rel, hKN, ks, has, hSP, spot, ri, rl⟩ := id mc.at_
  obtain ⟨La, rL, hLa, okW⟩ := id mc.lat
  have hn := mc.n3
  have xm := List.mem_of_getElem? hx
  obtain ⟨_, xn, st, on⟩ := ri.valid xr xm
  refine ⟨_, rfl, t, _, dx, _, _, rfl, ht, T.cl_Worth, T.na_Worth_mill, rfl, MC, mdx, _, rfl, hMC, rfl, _, rfl, _, rfl, rfl, rfl, _, _, _, rfl, MC, M, W, n, s, r, L, rows, i, xr, [], rfl, rfl, mc, hx, hz, fun f H1 e1 hf => ?_⟩
  rw [hl] at hf
  obtain ⟨fa, rfl, ft⟩ := hf
  obtain ⟨_, x, hxr, ex, rfl, _, hin⟩ := asked st (on.pr_sz okW) (by decide) hl
  obtain ⟨za, rfl, tz⟩ := hz
  refine ⟨_, rfl, _, _, _, _, rfl, rfl, ft, at0, rfl, _, rfl, notF rfl ?_⟩
  -- yes
  refine ⟨_, rfl, t, dx, _, rfl, e1 _ _ ht, rfl, _, rfl, _, rfl, za, _, rfl, same_t e1 tz, by decide, fun r1 n1 => ?_⟩
  have s1 := same_new (o := .tup [.bl true]) n1
  have E2 := e1.trans s1
  refine cat_rd (as := []) (same_t E2 tz) (SqT.of upd_same) (by decide) fun w1 H3 e3 h3 => ?_
  have E3 := E2.trans e3
  refine ⟨_, _, _, rfl, t, M, W, n, s, r, rows, i, xr, [true], rfl, rfl, (tab.s E3).up _, hx, h3, rfl, fun yv H4 e4 hy => ?_⟩
  have E4 := E3.trans e4
  have e14 : Same H1 H4 := (s1.trans e3).trans e4
  -- chosen
  refine ⟨_, rfl, _, _, _, _, rfl, rfl, same_t e14 ft, at1, _, rfl, ?_⟩
  refine ⟨_, rfl, t, dx, _, rfl, E4 _ _ ht, rfl, _, rfl, _, rfl, za, _, rfl, same_t E4 tz, by decide, fun r2 n2 => ?_⟩
  have s5 := same_new (o := .tup [.bl false]) n2
  have E5 := E4.trans s5
  refine cat_rd (as := []) (same_t E5 tz) (SqT.of upd_same) (by decide) fun w2 H6 e6 h6 => ?_
  have E6 := E5.trans e6
  refine ⟨_, _, _, rfl, t, M, W, n, s, r, rows, i, xr, [false], rfl, rfl, (tab.s E6).up _, hx, h6, rfl, fun nv H7 e7 hnv => ?_⟩
  refine ⟨_, _, _, rfl, _, _, _, rfl, hy.s ((s5.trans e6).trans e7), hnv, (rk_sz okW hn st xn on [true]).mono (by decide), (rk_sz okW hn st xn on [false]).mono (by decide), ?_⟩
  have e0 : fee xr.1 xr.2.2 [false] = 0 := by rw [ex]; rfl
  have ey : rk W n s xr [true] = x.c + VAL W n s xr := by unfold rk; rw [ex, fee_yes x hin]
  have en : rk W n s xr [false] = 0 + VAL W n s xr := by unfold rk; rw [e0]
  rw [ey, en, never x]
  exact q H7 (E6.trans e7)
theorem mt_plan (T : Tx P w K mg base) : Met P w K mg base 23 (He.ga K "Worth") "plan" (spPlan K) [.int 0, .ref (kwAd ("Worth", some "plan") "answers" K)] := by
  obtain ⟨fd, F, ok⟩ := fn_plan T
  obtain ⟨ds, hd, hb⟩ := F.binds (ps := ["self", "number", "answers"]) 1 0 (by simp) rfl (fun T D doc pm an cdv ct us its ks h1 h2 h3 => match us, its, ks, h1, h2, h3 with | [_], [_], [_], _, _, _ => ⟨_, rfl, _, _, _, _, _, _, rfl, rfl, rfl⟩) (by simp)
  exact ⟨_, fd, _, ds, T.cl_Worth, T.me_Worth_plan, ok, hb, hd⟩
theorem mk_plan (T : Tx P w K mg base) : K37R.MetK P w K mg base 23 (He.ga K "Worth") "plan" (spPlan K) 2 ["answers"] (fun vs zs => vs ++ zs) := by
  obtain ⟨fd, F, ok⟩ := fn_plan T
  obtain ⟨its, mv, hb⟩ := F.kbinds (ps := ["self", "number", "answers"]) 2 ["answers"] [] (fun us _ _ ws => us ++ ws) (by simp) (by simp) (fun _ h => (List.not_mem_nil h).elim) (fun r1 _ _ r3 => r1.append r3) fun T D doc pm an cdv ct us its mv ws h1 h2 h3 h4 => match us, its, mv, ws, h1, h2, h3, h4 with | [_, _], [_], [], [_], _, _, _, _ => ⟨_, rfl, rfl⟩
  exact ⟨_, fd, _, _, T.cl_Worth, T.me_Worth_plan, ok, hb⟩
end
end K37
set_option Elab.async false
set_option linter.all false
set_option maxRecDepth 100000
set_option maxHeartbeats 4000000
namespace K37
open PySem PySem.Spec PyProof.Rows L2
open C8 (Cal Met Mak CalAt pe_c pe_mt pe_mt0 pe_mk pe_gc tCut pss_cut)
section
variable {P : Program} {w : World} {K : PySem.W.Frag} {mg : Str → Option Value} {base : Heap}
/-- what taking the right costs its owner -/
def lossq {s : Pay} (x : Right s) (c : Bool) : Rat := if c then (if x.o = "holder" then - x.c else x.c) else 0
def spLoss (K : PySem.W.Frag) : Sp := sp4 fun x c y z H Q => ∃ (t : Addr) (M : Addr → Prop) (W : Web) (n : Nat) (s : Pay) (r : Option (Right s)) (rows : List Row) (xr : Row) (b : Bool) (rt : Right s), x = .ref t ∧ c = .bl b ∧ y = .int 0 ∧ TabAt K H t M W n s r rows 0 ∧ rows[0]? = some xr ∧ AnsR K H z [] ∧ xr.2.2 = rt.n ∧ xr.1 = 0 ∧ ∀ v H', Same H H' → Am K H' v (lossq rt b) → Q v H'
theorem mt_loss (T : Tx P w K mg base) : Met P w K mg base 24 (He.ga K "Worth") "loss" (spLoss K) [.int 0, .ref (kwAd ("Worth", some "loss") "answers" K)] := by
  obtain ⟨fd, F⟩ := T.f_Worth_loss
  have fn : FnOk P w K mg base CX0 24 (He.ma K (He.ga K "Worth") "loss") fd ["self", "answer", "number", "answers"] (spLoss K) := by
    refine F.ok sc_Worth_loss len4 fun cdv A0 outer s0 H vs Q E hr h => ?_
    obtain ⟨_, _, _, z, rfl, t, M, W, n, s, r, rows, xr, b, rt, rfl, rfl, rfl, tab, hx, hz, ex, x0, q⟩ := h
    refine ⟨_, PSs.nox (pss_cons (ps_set (i := 4) sc_Worth_loss.nd rfl (by first | exact Or.inl rfl | exact Or.inr rfl) (K37R.pe_mtK (m_Machine_at T) hr (by omega) (pe_fld (pv 0) rfl) (pa_cons (pv 2) pa_nil) (pk_cons (pv 3) pk_nil)))
        (pss_cons (ps_if (pt_cmpR op_ne (pe_ix ix_tup (pv 4) pe_int (fun _ _ => rfl)) pe_str (nomark _)) (pss_one ps_never) pss_nil)
        (pss_cons (ps_set (i := 5) sc_Worth_loss.nd rfl (by first | exact Or.inl rfl | exact Or.inr rfl) (pe_mt (m_reck0 T) hr (by omega) (pv 0) (pa_cons (pv 2) (pa_cons (pe_callTy call_tupleT (by rfl) T.b_tuple (by decide +kernel) (pa_cons (pv 3) pa_nil)) pa_nil))))
        (pss_cons (ps_set (i := 6) sc_Worth_loss.nd rfl (by first | exact Or.inl rfl | exact Or.inr rfl) (pe_mt (m_reck1 T) hr (by omega) (pv 0) (pa_cons (pv 2) (pa_cons (pe_op op_catA (pe_callTy call_tupleT (by rfl) T.b_tuple (by decide +kernel) (pa_cons (pv 3) pa_nil)) (pe_tup (pa_cons (pv 1) pa_nil))) pa_nil))))
        (pss_one (ps_ret (pe_ifExp (pt_cmpR op_eq (pe_ix ix_tup (pv 4) pe_int (fun _ _ => rfl)) pe_str (nomark _)) (pe_c (c_minus T) hr (by omega) rfl (pa_cons (pv 5) (pa_cons (pv 6) pa_nil))) (pe_c (c_minus T) hr (by omega) rfl (pa_cons (pv 6) (pa_cons (pv 5) pa_nil)))))))))), ?_⟩
    obtain ⟨dx, MC, SU, L, svs, ht, mc, hSU, sums⟩ := id tab
    obtain ⟨mdx, mv, RW, KN, SP, rvs, kvs, spv, hMC, hRW, rel, hKN, ks, has, hSP, spot, ri, rl⟩ := id mc.at_
    obtain ⟨La, rL, hLa, okW⟩ := id mc.lat
    have hn := mc.n3
    have xm := List.mem_of_getElem? hx
    obtain ⟨_, xn, st, on⟩ := ri.valid xr xm
    have hin : 0 ≤ (xr.1 : Int) ∧ (xr.1 : Int) ≤ rt.k := ⟨by omega, by have := rt.k0; omega⟩
    have hl : xr.2.2.live xr.1 (W.pr xr.1 xr.2.1) [] = .ask rt.o "w" := by rw [ex]; exact live_ask hin
    refine ⟨_, rfl, t, _, dx, _, _, rfl, ht, T.cl_Worth, T.na_Worth_mill, rfl, MC, mdx, _, rfl, hMC, rfl, _, rfl, _, rfl, rfl, rfl, _, _, _, rfl, MC, M, W, n, s, r, L, rows, 0, xr, [], rfl, rfl, mc, hx, hz, fun f H1 e1 hf => ?_⟩
    rw [hl] at hf
    obtain ⟨fa, rfl, ft⟩ := hf
    obtain ⟨za, rfl, tz⟩ := hz
    refine ⟨_, rfl, _, _, _, _, rfl, rfl, ft, at0, rfl, _, rfl, notF rfl ?_⟩
    -- best
    refine ⟨_, rfl, t, dx, _, rfl, e1 _ _ ht, rfl, _, rfl, _, rfl, za, _, rfl, same_t e1 tz, ?_⟩
    refine ⟨_, _, _, rfl, t, M, W, n, s, r, rows, 0, xr, [], rfl, rfl, (tab.s e1).up _, hx, ⟨za, rfl, same_t e1 tz⟩, rfl, fun bv H2 e2 hb => ?_⟩
    have E2 := e1.trans e2
    -- told
    refine ⟨_, rfl, t, dx, _, rfl, E2 _ _ ht, rfl, _, rfl, _, rfl, za, _, rfl, same_t E2 tz, _, rfl, by show 1 ≤ sizeLine; decide, fun r1 n1 => ?_⟩
    have s1 := same_new (o := .tup [.bl b]) n1
    have E3 := E2.trans s1
    refine cat_rd (as := []) (c := b) (same_t E3 tz) (SqT.of upd_same) (by decide) fun w1 H4 e4 h4 => ?_
    have E4 := E3.trans e4
    refine ⟨_, _, _, rfl, t, M, W, n, s, r, rows, 0, xr, [b], rfl, rfl, (tab.s E4).up _, hx, h4, rfl, fun tv H5 e5 htv => ?_⟩
    have e25 : Same H2 H5 := (s1.trans e4).trans e5
    have ft5 := same_t (e2.trans e25) ft
    have z1 := (rk_sz okW hn st xn on []).mono (show 2940 ≤ 3999 by decide)
    have z2 := (rk_sz okW hn st xn on [b]).mono (show 2940 ≤ 3999 by decide)
    have r0 : rk W n s xr [] = 0 + VAL W n s xr := by unfold rk; rw [ex]; rfl
    have rb : rk W n s xr [b] = (if b then rt.c else 0) + VAL W n s xr := by
      unfold rk
      rw [ex]
      cases b with
      | true => rw [fee_yes rt hin]; rfl
      | false => rfl
    refine ⟨_, rfl, _, _, _, _, rfl, rfl, ft5, at1, rfl, _, rfl, ite2 (fun hc => ?_) (fun hc => ?_)⟩
    · have ho := of_decide_eq_true hc
      injection ho with ho
      refine ⟨_, rfl, _, rfl, _, _, rfl, _, _, hb.s e25, htv, z1, z2, trivial, fun v H6 e6 hv => q v H6 (E2.trans (e25.trans e6)) ?_⟩
      have e : rk W n s xr [] - rk W n s xr [b] = lossq rt b := by
        rw [r0, rb]
        unfold lossq
        cases b with
        | true => rw [if_pos rfl, if_pos rfl, if_pos ho]; grind
        | false => rw [if_neg (by decide), if_neg (by decide)]; grind
      rw [← e]
      exact hv
    · have ho : ¬ rt.o = "holder" := fun z => hc (decide_eq_true (congrArg V.str z))
      refine ⟨_, rfl, _, rfl, _, _, rfl, _, _, htv, hb.s e25, z2, z1, trivial, fun v H6 e6 hv => q v H6 (E2.trans (e25.trans e6)) ?_⟩
      have e : rk W n s xr [b] - rk W n s xr [] = lossq rt b := by
        rw [r0, rb]
        unfold lossq
        cases b with
        | true => rw [if_pos rfl, if_pos rfl, if_neg ho]; grind
        | false => rw [if_neg (by decide), if_neg (by decide)]; grind
      rw [← e]
      exact hv
  obtain ⟨ds, hd, hb⟩ := F.binds (ps := ["self", "answer", "number", "answers"]) 2 0 (by simp) rfl (fun T D doc pm an cdv ct us its ks h1 h2 h3 => match us, its, ks, h1, h2, h3 with | [_, _], [_], [_], _, _, _ => ⟨_, rfl, _, _, _, _, _, _, rfl, rfl, rfl⟩) (by simp)
  exact ⟨_, fd, _, ds, T.cl_Worth, T.me_Worth_loss, fn, hb, hd⟩
/-- the answers still to look at -/
def Conf2 (k : Nat) (asl : List (List Bool)) : Prop := (k = 4 ∧ asl = [[]]) ∨ (k = 3 ∧ asl = [[true], [false]]) ∨ (k = 2 ∧ asl = [[true]]) ∨ (k = 1 ∧ asl = [])
theorem conf2_step {k : Nat} {asl : List (List Bool)} (h : Conf2 k asl) : asl = [] ∨ ∃ front as, asl = front ++ [as] ∧ as.length ≤ 1 ∧ front.length ≤ 1 ∧ (as = [] → ∃ k', k' < k ∧ Conf2 k' (front ++ [as ++ [true], as ++ [false]])) ∧ ∃ k', k' < k ∧ Conf2 k' front := by
  rcases h with ⟨rfl, rfl⟩ | ⟨rfl, rfl⟩ | ⟨rfl, rfl⟩ | ⟨rfl, rfl⟩
  · exact .inr ⟨[], [], rfl, by decide, by decide, fun _ => ⟨3, by decide, .inr (.inl ⟨rfl, rfl⟩)⟩, 1, by decide, .inr (.inr (.inr ⟨rfl, rfl⟩))⟩
  · exact .inr ⟨[[true]], [false], rfl, by decide, by decide, fun z => (by cases z), 2, by decide, .inr (.inr (.inl ⟨rfl, rfl⟩))⟩
  · exact .inr ⟨[], [true], rfl, by decide, by decide, fun z => (by cases z), 1, by decide, .inr (.inr (.inr ⟨rfl, rfl⟩))⟩
  · exact .inl rfl
def spRegion (K : PySem.W.Frag) : Sp := sp2 fun x y H Q => ∃ (t : Addr) (M : Addr → Prop) (W : Web) (n : Nat) (s : Pay) (r : Option (Right s)) (rows : List Row) (nm : Str), x = .ref t ∧ y = .str nm ∧ TabAt K H t M W n s r rows 0 ∧ rows.length ≤ 1000 ∧ ∀ F H', Same H H' → H' F = some (.lst []) → Q (.ref F) H'
theorem m_Worth_region (T : Tx P w K mg base) : Met P w K mg base 24 (He.ga K "Worth") "region" (spRegion K) [] := by
  refine mkM T.cl_Worth T.me_Worth_region T.f_Worth_region sc_Worth_region len2 (fun _ _ _ _ _ _ us hl => match us, hl with | [_, _], _ => rfl) fun cdv A0 outer s0 H vs Q E hr h => ?_
  obtain ⟨_, _, rfl, t, M, W, n, s, r, rows, nm, rfl, rfl, tab, rl, q⟩ := h
  refine ⟨_, (pss_cons (ps_set (i := 2) sc_Worth_region.nd rfl (by first | exact Or.inl rfl | exact Or.inr rfl) (pe_lst pa_nil))
        (pss_cons (ps_for PassesOwn.never rfl (pi_range1 (by rfl) T.b_range (pa_cons (pe_callB (K37R.call_lenO (m_Machine_len T) hr (by omega)) (by rfl) T.b_len (by decide +kernel) (pa_cons (pe_fld (pv 0) rfl) pa_nil)) pa_nil)) (pg_name (i := 3) sc_Worth_region.nd rfl (by first | exact Or.inl rfl | exact Or.inr rfl)) (pss_cons (ps_set (i := 4) sc_Worth_region.nd rfl (by first | exact Or.inl rfl | exact Or.inr rfl) (pe_lst (pa_cons (pe_tup pa_nil) pa_nil)))
        (pss_one (ps_while PassesOwn.never (pt_cmpR (op_neD (un64 hr)) (pv 4) (pe_lst pa_nil) (nomark _)) (pss_cons (ps_set (i := 5) sc_Worth_region.nd rfl (by first | exact Or.inl rfl | exact Or.inr rfl) (pe_bm0 PySem.F.plainAttrs_list PySem.F.slot_list_pop PySem.F.type_list_pop mt_pop (pv 4)))
        (pss_cons (ps_set (i := 6) sc_Worth_region.nd rfl (by first | exact Or.inl rfl | exact Or.inr rfl) (K37R.pe_mtK (m_Machine_at T) hr (by omega) (pe_fld (pv 0) rfl) (pa_cons (pv 3) pa_nil) (pk_cons (pv 5) pk_nil)))
        (pss_one (ps_if (pt_cmpR op_eq (pe_ix ix_tup (pv 6) pe_int (fun _ _ => rfl)) pe_str (nomark _)) (pss_cons (ps_expr (pe_bm PySem.F.plainAttrs_list PySem.F.slot_list_extend PySem.F.type_list_extend mt_extend (pv 4) (pa_cons (pe_lst (pa_cons (pe_op op_catA (pv 5) (pe_tup (pa_cons pe_bl pa_nil))) (pa_cons (pe_op op_catA (pv 5) (pe_tup (pa_cons pe_bl pa_nil))) pa_nil))) pa_nil)))
        (pss_one (ps_if (PW.pt (pw_and (pt_cmpR op_eq (pe_ix ix_tup (pv 6) pe_int (fun _ _ => rfl)) (pv 1) (nomark _)) (pw_and1 (pt_val (K37R.pe_mtK (mk_plan T) hr (by omega) (pv 0) (pa_cons (pv 3) pa_nil) (pk_cons (pv 5) pk_nil)))))) (pss_one (ps_expr (pe_bm PySem.F.plainAttrs_list PySem.F.slot_list_append PySem.F.type_list_append mt_append (pv 2) (pa_cons (pe_tup (pa_cons (pv 3) (pa_cons (pv 5) pa_nil))) pa_nil)))) pss_nil))) pss_nil))))))))
        (pss_one (ps_ret (pe_callB cr_sorted (by rfl) T.b_sorted (by decide +kernel) (pa_cons (pv 2) pa_nil)))))), ?_⟩
  obtain ⟨dx, MC, SU, L, svs, ht, mc, hSU, sums⟩ := id tab
  obtain ⟨mdx, mv, RW, KN, SP, rvs, kvs, spv, hMC, hRW, rel, hKN, ks, has, hSP, spot, ri, _⟩ := id mc.at_
  obtain ⟨La, rL, hLa, okW⟩ := id mc.lat
  refine ⟨by decide, fun F nF => ?_⟩
  have S1 : Same H (upd H F (.lst [])) := same_new nF
  refine ⟨_, rfl, t, _, dx, _, _, rfl, S1 _ _ ht, T.cl_Worth, T.na_Worth_mill, rfl, MC, mdx, _, rfl, S1 _ _ hMC, _, rfl, MC, M, W, n, s, r, L, rows, rfl, mc.s S1, rows.length, rfl, by omega, _, rfl, by omega, by omega, for_it (n := ((rows.length : Nat) : Int).toNat) walk_range (fun k σ H' => (∃ x3 x4 x5 x6, σ = [some (.ref t), some (.str nm), some (.ref F), x3, x4, x5, x6]) ∧ H' F = some (.lst []) ∧ Same H H') ⟨⟨_, _, _, _, rfl⟩, upd_same, S1⟩ (fun _ _ _ _ _ => trivial) ?_ ?_⟩
  · rintro k _ _ _ H2 hk ⟨⟨x3, x4, x5, x6, rfl⟩, hF2, e2⟩ ⟨rfl, rfl⟩
    have hx := List.getElem?_eq_getElem (show k < rows.length by omega)
    have zk : (0 : Int) + (k : Int) = (k : Int) := by omega
    obtain ⟨xr, hxr⟩ : ∃ xr, rows[k]? = some xr := ⟨_, hx⟩
    obtain ⟨_, xn, st, on⟩ := ri.valid xr (List.mem_of_getElem? hxr)
    refine ⟨by decide, fun e0 n0 => ⟨by show 1 ≤ sizeLine; decide, fun TD nTD => ?_⟩⟩
    have nT2 := none_upd nTD
    have S3 : Same H2 (upd (upd H2 e0 (.tup [])) TD (.lst [.ref e0])) := (same_new n0).trans (same_new nTD)
    have TF : TD ≠ F := fun z => by have := (same_new (o := .tup []) n0) _ _ hF2; rw [z, this] at nTD; cases nTD
    refine ⟨fun k2 σ H' => ∃ tvs asl x5 x6, σ = [some (.ref t), some (.str nm), some (.ref F), some (.int (0 + (k : Int))), some (.ref TD), x5, x6] ∧ H' TD = some (.lst tvs) ∧ All2 (AnsR K H') tvs asl ∧ H' F = some (.lst []) ∧ Same H2 H' ∧ Conf2 k2 asl, ⟨4, [.ref e0], [[]], _, _, rfl, upd_same, ⟨⟨e0, rfl, SqT.of (by rw [upd_ne (fun z => nT2.2 z.symm), upd_same]; rfl)⟩, trivial⟩, S3 _ _ hF2, S3, .inl ⟨rfl, rfl⟩⟩, ?_⟩
    rintro k2 σ H4 ⟨tvs, asl, x5, x6, rfl, hT, hasl, hF, e4, conf⟩
    refine ⟨_, rfl, by decide, fun e5 n5 => ?_⟩
    have S5 : Same H4 (upd H4 e5 (.lst [])) := same_new n5
    refine ⟨.list _, .list [], .lst (SqL.of (S5 _ _ hT)) (ans_dp (hasl.mono fun _ _ m => m.tk (tkS S5))), .lst (SqL.of upd_same) .nil, ans_shaped _, rfl, _, rfl, ?_⟩
    rw [ans_eqv]
    rcases conf2_step conf with rfl | ⟨front, as, rfl, la, lf, hA, hE⟩
    · exact iteF ⟨⟨_, _, _, _, rfl⟩, S5 _ _ hF, (e2.trans e4).trans S5⟩
    have hb : (!(front ++ [as]).isEmpty) = true := by cases front <;> rfl
    rw [hb]
    obtain ⟨tf, y, rfl, htf, hy⟩ := hasl.unsnoc
    refine iteT ⟨fun σ' H' => ∃ k', k' < k2 ∧ ∃ tvs asl x5 x6, σ' = [some (.ref t), some (.str nm), some (.ref F), some (.int (0 + (k : Int))), some (.ref TD), x5, x6] ∧ H' TD = some (.lst tvs) ∧ All2 (AnsR K H') tvs asl ∧ H' F = some (.lst []) ∧ Same H2 H' ∧ Conf2 k' asl, fun σ' H' ⟨k', l, w⟩ => ⟨k', l, w⟩, ?_⟩
    have hT5 := S5 _ _ hT
    have lt : tf.length ≤ 1 := by rw [htf.len]; exact lf
    have nTD2 : H2 TD = none := nT2.1
    refine ⟨_, rfl, .inl ⟨rfl, _, SqL.of hT5⟩, TD, tf ++ [y], y, rfl, rfl, hT5, by simp, ?_⟩
    rw [List.dropLast_concat]
    have T6 : TK K H4 (upd (upd H4 e5 (.lst [])) TD (.lst tf)) := (tkS S5).trans (tk_l hT5)
    have e6 : Same H2 (upd (upd H4 e5 (.lst [])) TD (.lst tf)) := (e4.trans S5).trans' nTD2
    have E6 := e2.trans e6
    refine ⟨_, rfl, t, _, dx, _, _, rfl, E6 _ _ ht, T.cl_Worth, T.na_Worth_mill, rfl, MC, mdx, _, rfl, E6 _ _ hMC, rfl, _, rfl, _, rfl, rfl, rfl, _, _, _, rfl, MC, M, W, n, s, r, L, rows, k, xr, as, rfl, congrArg V.int zk, mc.s E6, hxr, hy.tk T6, fun f H7 e7 hf => ?_⟩
    have T7 : TK K H4 H7 := T6.trans (tkS e7)
    have hT7 : H7 TD = some (.lst tf) := e7 _ _ upd_same
    have hF7 : H7 F = some (.lst []) := e7 _ _ (by rw [upd_ne TF.symm]; exact S5 _ _ hF)
    have E7 := e6.trans e7
    cases hl : xr.2.2.live xr.1 (W.pr xr.1 xr.2.1) as with
    | ask o nm2 =>
      rw [hl] at hf
      obtain ⟨fa, rfl, ft⟩ := hf
      obtain ⟨rfl, x, hxx, ex, rfl, rfl, hin⟩ := asked st (on.pr_sz okW) la hl
      obtain ⟨k', hk', conf'⟩ := hA rfl
      obtain ⟨ya, rfl, ty⟩ := hy
      refine ⟨_, rfl, _, _, _, _, rfl, rfl, ft, at0, rfl, _, rfl, decT rfl ?_⟩
      refine ⟨_, rfl, .inl ⟨rfl, _, SqL.of hT7⟩, _, rfl, by decide, fun r1 n1 => ?_⟩
      have s1 := same_new (o := .tup [.bl true]) n1
      refine cat_rd (as := []) (T7.trans (tkS s1) _ _ ty) (SqT.of upd_same) (by decide) fun w1 H8 e8 h8 => ?_
      refine ⟨_, rfl, by decide, fun r2 n2 => ?_⟩
      have s2 := same_new (o := .tup [.bl false]) n2
      have s12 := (s1.trans e8).trans s2
      refine cat_rd (as := []) (T7.trans (tkS s12) _ _ ty) (SqT.of upd_same) (by decide) fun w2 H9 e9 h9 => ?_
      refine ⟨by show 2 ≤ sizeLine; decide, fun LL nL => ?_⟩
      have s3 := same_new (o := .lst [w1, w2]) nL
      have s19 := (s12.trans e9).trans s3
      refine ⟨TD, LL, tf, [w1, w2], rfl, rfl, s19 _ _ hT7, upd_same, Nat.le_trans (show tf.length + 2 ≤ 3 by omega) (by decide), ?_⟩
      have tl : TK K (upd H9 LL (.lst [w1, w2])) (upd (upd H9 LL (.lst [w1, w2])) TD (.lst (tf ++ [w1, w2]))) := tk_l (s19 _ _ hT7)
      have E10 : Same H2 (upd (upd H9 LL (.lst [w1, w2])) TD (.lst (tf ++ [w1, w2]))) := (E7.trans s19).trans' nTD2
      have hF10 : upd (upd H9 LL (.lst [w1, w2])) TD (.lst (tf ++ [w1, w2])) F = some (.lst []) := by rw [upd_ne TF.symm]; exact s19 _ _ hF7
      have a10 : All2 (AnsR K (upd (upd H9 LL (.lst [w1, w2])) TD (.lst (tf ++ [w1, w2])))) (tf ++ [w1, w2]) (front ++ [[] ++ [true], [] ++ [false]]) := by
        have a1 := All2.snoc (htf.mono fun _ _ m => m.tk ((T7.trans (tkS s19)).trans tl)) (h8.tk ((tkS ((s2.trans e9).trans s3)).trans tl))
        have a2 := All2.snoc a1 (h9.tk ((tkS s3).trans tl))
        rw [List.append_assoc, List.append_assoc] at a2
        exact a2
      have ft10 := ((tkS s19).trans tl) _ _ ft
      have ty10 := ((T7.trans (tkS s19)).trans tl) _ _ ty
      refine ⟨_, rfl, _, _, _, _, rfl, rfl, ft10, at2, _, rfl, rfl, _, rfl, ite2 (fun hc => ?_) (fun hc => iteF ?_)⟩
      · have EE := e2.trans E10
        refine ⟨_, rfl, t, dx, _, rfl, EE _ _ ht, rfl, _, rfl, _, rfl, rfl, rfl, _, _, _, rfl, t, M, W, n, s, r, rows, k, xr, _, _, rfl, congrArg V.int zk, tab.s EE, hxr, ⟨ya, rfl, ty10⟩, hl, fun H11 e11 => ⟨_, rfl, iteF ?_⟩⟩
        exact ⟨k', hk', _, _, _, _, rfl, e11 _ _ upd_same, a10.mono fun _ _ m => m.tk (tkS e11), e11 _ _ hF10, E10.trans e11, conf'⟩
      · exact ⟨k', hk', _, _, _, _, rfl, upd_same, a10, hF10, E10, conf'⟩
    | fin q' n' as' =>
      rw [hl] at hf
      obtain ⟨fa, fx, fy, rfl, ft, fm, fn'⟩ := hf
      obtain ⟨k', hk', conf'⟩ := hE
      refine ⟨_, rfl, _, _, _, _, rfl, rfl, ft, at0, rfl, _, rfl, decF (str_ne (by decide)) ?_⟩
      exact ⟨k', hk', tf, front, _, _, rfl, hT7, htf.mono fun _ _ m => m.tk T7, hF7, E7, conf'⟩
  · rintro _ H2 ⟨⟨x3, x4, x5, x6, rfl⟩, hF2, e2⟩
    refine ⟨_, rfl, F, [], rfl, SqL.of hF2, by decide, fun ns' p hp _ np => ?_⟩
    have e : ns' = [] := List.Perm.eq_nil hp
    subst e
    exact q p _ (e2.trans (same_new np)) upd_same
end
end K37
set_option Elab.async false
set_option linter.all false
set_option maxRecDepth 100000
set_option maxHeartbeats 4000000
namespace K37
open PySem PySem.Spec PyProof.Rows L2
open C8 (Cal Met Mak CalAt pe_c pe_mt pe_mt0 pe_mk pe_gc tCut pss_cut)
/-! ### the law's comparison -/
theorem pi_zipA' {X : Cx} {K : PySem.W.Frag} {e e2 : Expr} {ta : TA} {p pos tpos : Pos} {elts : List Expr} {kk : Nat} (z : X.K = K) (hg : Gl X "zip") (hm : X.mg "zip" = none) (ha : PA X [e, e2] ta)
    (hs : starEach [e, e2] X.env = (false, eval e X.env) :: starEach [e2] X.env := by rfl) (hpl : (backTo pos (starEach [e2] X.env)).any (·.1) = false := by rfl) :
    PI X (.Tuple elts kk tpos) (.Call (.Name "zip" p) [e, e2] [] pos) (RZ.iZipA K ta) := by
  subst z
  exact RZ.pi_zipA hg hm ha hs hpl
theorem walk_zipT {K : PySem.W.Frag} {a b : Addr} {xs ys : List V} {n : Nat} (hn : n = min xs.length ys.length) : Walk (RZ.ItzT K a b) n (fun H => SqT K H a xs ∧ SqT K H b ys) (YPair (fun i => xs[i]?) (fun i => ys[i]?)) := by
  subst hn
  refine ⟨fun i _ hi q => ?_, fun _ q => ⟨xs, ys, q.1, q.2, by omega⟩, fun i H v H' _ q y => ?_⟩
  · have h1 : i < xs.length := by omega
    have h2 : i < ys.length := by omega
    exact ⟨xs, ys, xs[i], ys[i], q.1, q.2, by simp [h1], by simp [h2]⟩
  · obtain ⟨T, x, z, h1, h2, h3, h4, h5⟩ := y
    exact ⟨T, x, z, h1, h2, h3, h4 xs q.1, h5 ys q.2⟩
theorem ty_t {K : PySem.W.Frag} {H : Hp} {a : Addr} {xs : List V} (h : SqT K H a xs) : TyX K H (.ref a) (.type "tuple") := by
  rcases h with (h | ⟨o, h⟩) | ⟨o, its, n, h1, h2, _⟩
  · exact .base (.tup h)
  · exact .fTuple h
  · exact .kTuple h1 h2
theorem ty_l {K : PySem.W.Frag} {H : Hp} {a : Addr} {xs : List V} (h : SqL K H a xs) : TyX K H (.ref a) (.type "list") := by
  rcases h with (h | ⟨o, h⟩) | ⟨o, its, n, h1, h2, _⟩
  · exact .base (.lst h)
  · exact .base (.frz h)
  · exact .kList h1 h2
/-- data of lists, tuples and ints, at most n deep -/
def Pl : Nat → PyData → Prop
  | _, .int _ => True
  | n + 1, .list ds => ds.length ≤ 1000 ∧ ∀ d ∈ ds, Pl n d
  | n + 1, .tuple ds => ds.length ≤ 1000 ∧ ∀ d ∈ ds, Pl n d
  | _, _ => False
theorem sql_s {K : PySem.W.Frag} {H H' : Hp} {a : Addr} {xs : List V} (e : Same H H') (h : SqL K H a xs) : SqL K H' a xs := by
  rcases h with (h | ⟨o, h⟩) | h
  · exact .inl (.inl (e _ _ h))
  · exact .inl (.inr ⟨o, e _ _ h⟩)
  · exact .inr h
theorem dp_s {K : PySem.W.Frag} {H H' : Hp} (e : Same H H') : ∀ {d : PyData} {v : V}, Dp K H v d → Dp K H' v d := by
  have sl : ∀ {a : Addr} {xs : List V}, SqL K H a xs → SqL K H' a xs := fun h => by
    rcases h with (h | ⟨o, h⟩) | h
    · exact .inl (.inl (e _ _ h))
    · exact .inl (.inr ⟨o, e _ _ h⟩)
    · exact .inr h
  intro d v h
  exact Dp.rec (K := K) (H := H) (motive_1 := fun v d _ => Dp K H' v d) (motive_2 := fun vs ds _ => DpAll K H' vs ds) .non .bl .int .str (fun h _ ih => .lst (sl h) ih) (fun h _ ih => .tup (same_t e h) ih) .nil (fun _ _ a b => .cons a b) h
theorem dpall_at {K : PySem.W.Frag} {H : Hp} : ∀ {vs : List V} {ds : List PyData} {i : Nat} {v : V}, DpAll K H vs ds → vs[i]? = some v → ∃ d, ds[i]? = some d ∧ Dp K H v d
  | _ :: _, _ :: _, 0, _, .cons a b, h => ⟨_, rfl, by cases h; exact a⟩
  | _ :: _, _ :: _, i + 1, _, .cons a b, h => dpall_at (i := i) b h
  | [], _, _, _, _, h => by simp at h
theorem dpall_len {K : PySem.W.Frag} {H : Hp} : ∀ {vs : List V} {ds : List PyData}, DpAll K H vs ds → vs.length = ds.length
  | [], [], .nil => rfl
  | _ :: _, _ :: _, .cons a b => congrArg (· + 1) (dpall_len b)
section
variable {P : Program} {w : World} {K : PySem.W.Frag} {mg : Str → Option Value} {base : Heap}
def spSame (K : PySem.W.Frag) (n : Nat) : Sp := sp2 fun x y H Q => ∃ d, Dp K H x d ∧ Dp K H y d ∧ Pl n d ∧ ∀ H', Same H H' → Q (.bl true) H'
theorem c_same_step (T : Tx P w K mg base) (n : Nat) (ih : Cal P w K mg base (n + 1) "_law_same" (spPre (spSame K) n) []) : Cal P w K mg base (n + 2) "_law_same" (spSame K n) [] := by
  refine mkC T.f_law_same T.g_law_same sc_law_same (show ∀ vs H Q E, spSame K n vs H Q E → vs.length = 2 from len2) (fun _ _ _ _ _ _ us hl => match us, hl with | [_, _], _ => rfl) fun cdv A0 outer s0 H vs Q E hr h => ?_
  obtain ⟨x, y, rfl, d, hx, hy, pl, q⟩ := h
  refine ⟨_, (pss_cons (ps_if (pt_cmp (pc_isN (pv 1))) (pss_one (ps_ret (pe_cmp (pc_isN (pv 0)) rfl))) pss_nil)
        (pss_cons (ps_if (PW.pt (pw_or (pt_val (pe_callB call_isi (by rfl) T.b_isinstance (by decide +kernel) (pa_cons (pv 1) (pa_cons (pe_bltn (v := .ty "list") (u := .type "list") (by rfl) T.b_list (by decide +kernel) rfl) pa_nil)))) (pw_or1 (pt_val (pe_callB call_isi (by rfl) T.b_isinstance (by decide +kernel) (pa_cons (pv 1) (pa_cons (pe_bltn (v := .ty "tuple") (u := .type "tuple") (by rfl) T.b_tuple (by decide +kernel) rfl) pa_nil))))))) (pss_cons (ps_if (PW.pt (pw_or (pt_cmpR op_ne (pe_callB call_isi (by rfl) T.b_isinstance (by decide +kernel) (pa_cons (pv 0) (pa_cons (pe_bltn (v := .ty "list") (u := .type "list") (by rfl) T.b_list (by decide +kernel) rfl) pa_nil))) (pe_callB call_isi (by rfl) T.b_isinstance (by decide +kernel) (pa_cons (pv 1) (pa_cons (pe_bltn (v := .ty "list") (u := .type "list") (by rfl) T.b_list (by decide +kernel) rfl) pa_nil))) (nomark _)) (pw_or1 (pt_cmpR op_ne (pe_callB call_isi (by rfl) T.b_isinstance (by decide +kernel) (pa_cons (pv 0) (pa_cons (pe_bltn (v := .ty "tuple") (u := .type "tuple") (by rfl) T.b_tuple (by decide +kernel) rfl) pa_nil))) (pe_callB call_isi (by rfl) T.b_isinstance (by decide +kernel) (pa_cons (pv 1) (pa_cons (pe_bltn (v := .ty "tuple") (u := .type "tuple") (by rfl) T.b_tuple (by decide +kernel) rfl) pa_nil))) (nomark _))))) (pss_one (ps_ret pe_bl)) pss_nil)
        (pss_one (ps_ret (pe_and (pe_cmpR op_eq (pe_callB call_len_seq (by rfl) T.b_len (by decide +kernel) (pa_cons (pv 0) pa_nil)) (pe_callB call_len_seq (by rfl) T.b_len (by decide +kernel) (pa_cons (pv 1) pa_nil)) (nomark _)) (pe_one (pe_callB (cr_all rfl) (by rfl) T.b_all (by decide +kernel) (pa_cons (pe_lc (own := [("_law_one_here", 2), ("_law_other", 3)]) rfl sc_law_same.nd (pi_zipA' (K := K) rfl (by rfl) T.b_zip (pa_cons (pv 0) (pa_cons (pv 1) pa_nil))) (blkOk_by (own := [("_law_one_here", 2), ("_law_other", 3)]) (N := ["_law_found", "_law_due", "_law_one_here", "_law_other"]) (sc := defScope s_law_same) (by decide +kernel)) (fun _ _ _ _ _ => (pg_tup' (K := K) (n := 2) rfl rfl (pgs_cons (pg_name (i := 2) sc_law_same.nd rfl (by first | exact Or.inl rfl | exact Or.inr rfl)) (pgs_cons (pg_name (i := 3) sc_law_same.nd rfl (by first | exact Or.inl rfl | exact Or.inr rfl)) pgs_nil)))) (fun _ _ _ _ _ => pts_nil) (fun _ _ _ _ _ => (pe_c ih hr (by omega) rfl (pa_cons (pv 2) (pa_cons (pv 3) pa_nil))))) pa_nil))))))) pss_nil)
        (pss_cons (ps_if (PW.pt (pw_or (pt_cmpR op_ne (pe_callB call_isi (by rfl) T.b_isinstance (by decide +kernel) (pa_cons (pv 1) (pa_cons (pe_bltn (v := .ty "bool") (u := .type "bool") (by rfl) T.b_bool (by decide +kernel) rfl) pa_nil))) (pe_callB call_isi (by rfl) T.b_isinstance (by decide +kernel) (pa_cons (pv 0) (pa_cons (pe_bltn (v := .ty "bool") (u := .type "bool") (by rfl) T.b_bool (by decide +kernel) rfl) pa_nil))) (nomark _)) (pw_or1 (pt_cmpR op_ne (pe_callB call_isi (by rfl) T.b_isinstance (by decide +kernel) (pa_cons (pv 1) (pa_cons (pe_bltn (v := .ty "int") (u := .type "int") (by rfl) T.b_int (by decide +kernel) rfl) pa_nil))) (pe_callB call_isi (by rfl) T.b_isinstance (by decide +kernel) (pa_cons (pv 0) (pa_cons (pe_bltn (v := .ty "int") (u := .type "int") (by rfl) T.b_int (by decide +kernel) rfl) pa_nil))) (nomark _))))) (pss_one (ps_ret pe_bl)) pss_nil)
        (pss_one (ps_ret (pe_and (pe_cmpR op_eq (pe_callB call_isi (by rfl) T.b_isinstance (by decide +kernel) (pa_cons (pv 0) (pa_cons (pe_bltn (v := .ty "str") (u := .type "str") (by rfl) T.b_str (by decide +kernel) rfl) pa_nil))) (pe_callB call_isi (by rfl) T.b_isinstance (by decide +kernel) (pa_cons (pv 1) (pa_cons (pe_bltn (v := .ty "str") (u := .type "str") (by rfl) T.b_str (by decide +kernel) rfl) pa_nil))) (nomark _)) (pe_one (pe_cmpR op_eq (pv 0) (pv 1) (nomark _))))))))), ?_⟩
  cases d with
  | int i =>
    cases hx
    cases hy
    refine ⟨_, rfl, _, rfl, iteF ?_⟩
    refine ⟨_, rfl, _, _, _, _, _, rfl, .ty _, .base (.int i), rfl, _, rfl, iteF ?_⟩
    refine ⟨_, rfl, _, _, _, _, _, rfl, .ty _, .base (.int i), rfl, _, rfl, iteF ?_⟩
    refine ⟨_, rfl, _, _, _, _, _, rfl, .ty _, .base (.int i), rfl, _, rfl, _, _, _, _, _, rfl, .ty _, .base (.int i), rfl, rfl, _, rfl, notF rfl ?_⟩
    refine ⟨_, rfl, _, _, _, _, _, rfl, .ty _, .base (.int i), rfl, _, rfl, _, _, _, _, _, rfl, .ty _, .base (.int i), rfl, rfl, _, rfl, notF rfl ?_⟩
    refine ⟨_, rfl, _, _, _, _, _, rfl, .ty _, .base (.int i), rfl, _, rfl, _, _, _, _, _, rfl, .ty _, .base (.int i), rfl, rfl, _, rfl, decT rfl ⟨_, rfl, _, rfl, rfl, ?_⟩⟩
    show Q (.bl (decide (V.int i = V.int i))) H
    rw [decide_eq_true rfl]
    exact q H fun _ _ h => h
  | list ds =>
    cases n with
    | zero => exact (show False from pl).elim
    | succ n =>
    obtain ⟨pl1, pl2⟩ := pl
    cases hx with
    | @lst a xs _ sa da =>
    cases hy with
    | @lst b ys _ sb db =>
    have la := dpall_len da
    have lb := dpall_len db
    refine ⟨_, rfl, _, rfl, iteF ?_⟩
    refine ⟨_, rfl, _, _, _, _, _, rfl, .ty _, ty_l sb, rfl, _, rfl, iteT (iteT ?_)⟩
    refine ⟨_, rfl, _, _, _, _, _, rfl, .ty _, ty_l sa, rfl, _, rfl, _, _, _, _, _, rfl, .ty _, ty_l sb, rfl, rfl, _, rfl, notF rfl ?_⟩
    refine ⟨_, rfl, _, _, _, _, _, rfl, .ty _, ty_l sa, rfl, _, rfl, _, _, _, _, _, rfl, .ty _, ty_l sb, rfl, rfl, _, rfl, notF rfl ?_⟩
    refine ⟨_, rfl, a, xs, rfl, .inl sa, _, rfl, b, ys, rfl, .inl sb, rfl, _, rfl, decT (congrArg V.int (by omega)) ?_⟩
    refine ⟨_, rfl, _, rfl, a, b, xs, ys, rfl, .inl ⟨sa, sb, fun D nD => lc_it (n := xs.length) (walk_zip (xs := xs) (ys := ys) (by omega)) (fun k H' => Same H H' ∧ H' D = some (.lst ((List.replicate k true).map V.bl))) ⟨same_new nD, upd_same⟩ (fun i H' hi h => ⟨sql_s h.1 sa, sql_s h.1 sb⟩) ?_ ?_⟩⟩
    · rintro k _ H1 _ hk ⟨e1, hD⟩ ⟨T1, x1, y1, rfl, nT, rfl, hx1, hy1⟩
      obtain ⟨d1, hd1, px⟩ := dpall_at da hx1
      obtain ⟨d2, hd2, py⟩ := dpall_at db hy1
      rw [hd1] at hd2
      cases hd2
      have s1 := same_new (o := .tup [x1, y1]) nT
      refine ⟨T1, _, rfl, SqT.of upd_same, rfl, _, _, rfl, _, _, rfl, rfl, rfl, _, rfl, _, rfl, _, _, rfl, d1, dp_s (e1.trans s1) px, dp_s (e1.trans s1) py, pl2 d1 (List.mem_of_getElem? hd1), fun H2 e2 => ?_⟩
      refine ⟨_, e2 _ _ (s1 _ _ hD), Nat.lt_of_le_of_lt (show _ ≤ 1000 by rw [List.length_map, List.length_replicate]; omega) (by decide), ((e1.trans s1).trans e2).trans' nD, ?_⟩
      rw [upd_same, List.replicate_succ', List.map_append]
      rfl
    · rintro H1 ⟨e1, hD⟩
      refine ⟨D, _, rfl, SqL.of hD, ?_⟩
      rw [show (List.replicate xs.length true).all id = true from by simp]
      exact q H1 e1
  | tuple ds =>
    cases n with
    | zero => exact (show False from pl).elim
    | succ n =>
    obtain ⟨pl1, pl2⟩ := pl
    cases hx with
    | @tup a xs _ sa da =>
    cases hy with
    | @tup b ys _ sb db =>
    have la := dpall_len da
    have lb := dpall_len db
    refine ⟨_, rfl, _, rfl, iteF ?_⟩
    refine ⟨_, rfl, _, _, _, _, _, rfl, .ty _, ty_t sb, rfl, _, rfl, iteF ?_⟩
    refine ⟨_, rfl, _, _, _, _, _, rfl, .ty _, ty_t sb, rfl, _, rfl, iteT ?_⟩
    refine ⟨_, rfl, _, _, _, _, _, rfl, .ty _, ty_t sa, rfl, _, rfl, _, _, _, _, _, rfl, .ty _, ty_t sb, rfl, rfl, _, rfl, notF rfl ?_⟩
    refine ⟨_, rfl, _, _, _, _, _, rfl, .ty _, ty_t sa, rfl, _, rfl, _, _, _, _, _, rfl, .ty _, ty_t sb, rfl, rfl, _, rfl, notF rfl ?_⟩
    refine ⟨_, rfl, a, xs, rfl, .inr sa, _, rfl, b, ys, rfl, .inr sb, rfl, _, rfl, decT (congrArg V.int (by omega)) ?_⟩
    refine ⟨_, rfl, _, rfl, a, b, xs, ys, rfl, .inr ⟨sa, sb, fun D nD => lc_it (n := xs.length) (walk_zipT (xs := xs) (ys := ys) (by omega)) (fun k H' => Same H H' ∧ H' D = some (.lst ((List.replicate k true).map V.bl))) ⟨same_new nD, upd_same⟩ (fun i H' hi h => ⟨same_t h.1 sa, same_t h.1 sb⟩) ?_ ?_⟩⟩
    · rintro k _ H1 _ hk ⟨e1, hD⟩ ⟨T1, x1, y1, rfl, nT, rfl, hx1, hy1⟩
      obtain ⟨d1, hd1, px⟩ := dpall_at da hx1
      obtain ⟨d2, hd2, py⟩ := dpall_at db hy1
      rw [hd1] at hd2
      cases hd2
      have s1 := same_new (o := .tup [x1, y1]) nT
      refine ⟨T1, _, rfl, SqT.of upd_same, rfl, _, _, rfl, _, _, rfl, rfl, rfl, _, rfl, _, rfl, _, _, rfl, d1, dp_s (e1.trans s1) px, dp_s (e1.trans s1) py, pl2 d1 (List.mem_of_getElem? hd1), fun H2 e2 => ?_⟩
      refine ⟨_, e2 _ _ (s1 _ _ hD), Nat.lt_of_le_of_lt (show _ ≤ 1000 by rw [List.length_map, List.length_replicate]; omega) (by decide), ((e1.trans s1).trans e2).trans' nD, ?_⟩
      rw [upd_same, List.replicate_succ', List.map_append]
      rfl
    · rintro H1 ⟨e1, hD⟩
      refine ⟨D, _, rfl, SqL.of hD, ?_⟩
      rw [show (List.replicate xs.length true).all id = true from by simp]
      exact q H1 e1
  | _ => cases n <;> exact (show False from pl).elim
theorem c_same_no (T : Tx P w K mg base) (k : Nat) : Cal P w K mg base (k + 1) "_law_same" (fun _ _ _ _ => False) [] :=
  mkC T.f_law_same T.g_law_same sc_law_same (fun _ _ _ _ h => h.elim) (fun _ _ _ _ _ _ us hl => match us, hl with | [_, _], _ => rfl) fun _ _ _ _ _ _ _ _ _ h => h.elim
theorem c_law_same (T : Tx P w K mg base) : ∀ n, Cal P w K mg base (n + 2) "_law_same" (spSame K n) []
  | 0 => c_same_step T 0 (c_same_no T 0)
  | n + 1 => c_same_step T (n + 1) (c_law_same T n)
end
end K37
set_option Elab.async false
set_option linter.all false
set_option maxRecDepth 100000
set_option maxHeartbeats 4000000
namespace K37
open PySem PySem.Spec PyProof.Rows L2
open C8 (Cal Met Mak CalAt pe_c pe_mt pe_mt0 pe_mk pe_gc tCut pss_cut)
section
variable {P : Program} {w : World} {K : PySem.W.Frag} {mg : Str → Option Value} {base : Heap}
def spWeb (K : PySem.W.Frag) : Sp := sp1 fun x H Q => ∃ (M : Addr → Prop) (n : Nat) (PA RA SA D : Addr) (W : Web), x = .ref D ∧ H D = some (.dK (mergeK [] [(.inr "prices", .ref PA), (.inr "rates", .ref RA), (.inr "steps", .ref SA)])) ∧ WebAt K M H PA RA SA W ∧ WebOk n W ∧ n ≤ 3 ∧ (∀ p, H p = none → ¬ M p) ∧ ∀ a H', Same H H' → LatAt K M H' a W → Q (.ref a) H'
theorem c_law_web (T : Tx P w K mg base) : Cal P w K mg base 5 "_law_web" (spWeb K) [] := by
  refine mkC T.f_law_web T.g_law_web sc_law_web len1 (fun _ _ _ _ _ _ us hl => match us, hl with | [_], _ => rfl) fun cdv A0 outer s0 H vs Q E hr h => ?_
  obtain ⟨_, rfl, M, n, PA, RA, SA, D, W, rfl, hD, hW, okW, hn, hM, q⟩ := h
  have hu := hu_of hr
  refine ⟨_, (pss_one (ps_ret (pe_mk (m_Lattice T) hr (by omega) rfl (pa_cons (pe_dget hu (pv 0) pe_str (fun _ _ => rfl)) (pa_cons (pe_dget hu (pv 0) pe_str (fun _ _ => rfl)) (pa_cons (pe_dget hu (pv 0) pe_str (fun _ _ => rfl)) pa_nil)))))), ?_⟩
  refine ⟨_, rfl, D, _, rfl, DGet.k (k := .inr "prices") hD, _, rfl, D, _, rfl, DGet.k (k := .inr "rates") hD, _, rfl, D, _, rfl, DGet.k (k := .inr "steps") hD, ?_⟩
  refine fun a dx na ndx hne => ⟨_, _, _, _, rfl, M, H, a, dx, PA, RA, SA, W, n, rfl, rfl, rfl, rfl, na, ndx, hne, rfl, hM, hW, okW, hn, fun H' e hl => ⟨rfl, q a H' e hl⟩⟩
theorem neg_am {K : PySem.W.Frag} {H : Hp} {p : Addr} {q : Rat} (h : H p = some (.tup [.int (-1 * q.num), .int (q.den : Int)])) : Am K H (.ref p) (-q) := by
  refine ⟨p, rfl, SqT.of ?_⟩
  rw [h, Rat.neg_num, Rat.neg_den, Int.neg_one_mul]
theorem pos_am {K : PySem.W.Frag} {H : Hp} {p : Addr} {q : Rat} (h : H p = some (.tup [.int (1 * q.num), .int (q.den : Int)])) : Am K H (.ref p) q := by
  refine ⟨p, rfl, SqT.of ?_⟩
  rw [h, Int.one_mul]
def spLaw (K : PySem.W.Frag) : Sp := fun vs H Q _ => ∃ (a : Addr) (ns : List Int), vs = [.ref a] ∧ SqL K H a (ns.map V.int) ∧ ns.length ≤ 63 ∧ ∀ H', Q (.bl true) H'
theorem fn_law (T : Tx P w K mg base) {fd : FuncData} (F : FunD K "law" "law" (defArgs s_law) (defBody s_law) (defScope s_law) [] [] (He.ga K "law") fd) : FnOk P w K mg base CX0 26 (He.ga K "law") fd ["_law_script"] (spLaw K) := by
  refine F.ok sc_law (fun vs H Q E h => by obtain ⟨_, _, rfl, _⟩ := h; rfl) fun cdv A0 outer s0 H vs Q E hr h => ?_
  obtain ⟨sa, ns, rfl, hs, hns, q⟩ := h
  refine ⟨_, PSs.nox (pss_cons (ps_set (i := 1) sc_law.nd rfl (by first | exact Or.inl rfl | exact Or.inr rfl) (pe_c (c_law_box T) hr (by omega) rfl (pa_cons (pv 0) pa_nil)))
        (pss_cons (ps_set (i := 2) sc_law.nd rfl (by first | exact Or.inl rfl | exact Or.inr rfl) (pe_c (c_law_web T) hr (by omega) rfl (pa_cons (pe_c (c_law_fair T) hr (by omega) rfl (pa_cons (pv 1) (pa_cons (pe_op op_add pe_int (pe_c (c_law_take T) hr (by omega) rfl (pa_cons (pv 1) (pa_cons pe_int pa_nil)))) (pa_cons (pe_op op_add pe_int (pe_c (c_law_take T) hr (by omega) rfl (pa_cons (pv 1) (pa_cons pe_int pa_nil)))) pa_nil)))) pa_nil)))
        (pss_cons (ps_for PassesOwn.never rfl (pi_range1 (by rfl) T.b_range (pa_cons pe_int pa_nil)) (pg_name (i := 3) sc_law.nd rfl (by first | exact Or.inl rfl | exact Or.inr rfl)) (pss_cons (ps_set (i := 4) sc_law.nd rfl (by first | exact Or.inl rfl | exact Or.inr rfl) (pe_c (c_law_value T 3) hr (by omega) rfl (pa_cons (pv 1) (pa_cons pe_int pa_nil))))
        (pss_cons (ps_set (i := 5) sc_law.nd rfl (by first | exact Or.inl rfl | exact Or.inr rfl) (pe_c (c_law_take T) hr (by omega) rfl (pa_cons (pv 1) (pa_cons pe_int pa_nil))))
        (pss_cons (ps_set (i := 6) sc_law.nd rfl (by first | exact Or.inl rfl | exact Or.inr rfl) (pe_tup (pa_cons pe_str (pa_cons (pv 5) (pa_cons (pv 4) pa_nil)))))
        (pss_cons (ps_asg (pe_c (c_law_one T) hr (by omega) rfl (pa_cons (pv 1) (pa_cons (pe_lst (pa_cons (pe_tup (pa_cons pe_str (pa_cons (pe_un un_neg pe_int) pa_nil))) (pa_cons (pe_tup (pa_cons pe_str (pa_cons pe_int pa_nil))) pa_nil))) pa_nil))) (pg_tup rfl (pgs_cons (pg_name (i := 7) sc_law.nd rfl (by first | exact Or.inl rfl | exact Or.inr rfl)) (pgs_cons (pg_name (i := 8) sc_law.nd rfl (by first | exact Or.inl rfl | exact Or.inr rfl)) pgs_nil))))
        (pss_cons (ps_set (i := 9) sc_law.nd rfl (by first | exact Or.inl rfl | exact Or.inr rfl) (pe_c (c_law_above T) hr (by omega) rfl (pa_cons (pv 1) (pa_cons pe_int pa_nil))))
        (pss_cons (ps_set (i := 10) sc_law.nd rfl (by first | exact Or.inl rfl | exact Or.inr rfl) (pe_tup (pa_cons pe_str (pa_cons (pe_tup (pa_cons pe_str (pa_cons (pe_tup (pa_cons (pe_op op_mulW (pv 8) (pe_ix ix_tup (pv 9) pe_int (fun _ _ => rfl))) (pa_cons (pe_ix ix_tup (pv 9) pe_int (fun _ _ => rfl)) pa_nil))) pa_nil))) pa_nil))))
        (pss_cons (ps_set (i := 11) sc_law.nd rfl (by first | exact Or.inl rfl | exact Or.inr rfl) (pe_tup (pa_cons pe_str (pa_cons pe_str (pa_cons (pv 7) (pa_cons pe_int (pa_cons (pe_c (c_law_take T) hr (by omega) rfl (pa_cons (pv 1) (pa_cons (pe_op op_add (pv 5) pe_int) pa_nil))) (pa_cons (pv 6) (pa_cons (pe_tup (pa_cons pe_str (pa_cons (pv 10) (pa_cons (pv 6) pa_nil)))) pa_nil)))))))))
        (pss_cons (ps_set (i := 12) sc_law.nd rfl (by first | exact Or.inl rfl | exact Or.inr rfl) (pe_mk (m_Worth T) hr (by omega) rfl (pa_cons (pv 2) (pa_cons (pv 11) pa_nil))))
        (pss_cons (ps_if (PW.pt (pw_or (pt_cmpR (op_neD (un64 hr)) (pe_mt (m_Worth_region T) hr (by omega) (pv 12) (pa_cons pe_str pa_nil)) (pe_lst pa_nil) (nomark _)) (pw_or (pt_cmpR (op_neD (un64 hr)) (pe_mt0 (m_Worth_worth T) hr (by omega) (pv 12)) (pe_mt0 (m_Worth_worth T) hr (by omega) (pe_mk (m_Worth T) hr (by omega) rfl (pa_cons (pv 2) (pa_cons (pv 6) pa_nil)))) (nomark _)) (pw_or1 (pt_cmpR op_notBl (pe_mt0 (mt_plan T) hr (by omega) (pv 12)) pe_bl (nomark _)))))) (pss_one (ps_ret pe_bl)) pss_nil)
        (pss_one (ps_if (pt_not (pt_val (pe_c (c_law_same T 3) hr (by omega) rfl (pa_cons (pe_lst (pa_cons (pe_mt (mt_loss T) hr (by omega) (pv 12) (pa_cons pe_bl pa_nil)) (pa_cons (pe_mt (mt_loss T) hr (by omega) (pv 12) (pa_cons pe_bl pa_nil)) (pa_cons (pe_mt (m_Worth_region T) hr (by omega) (pv 12) (pa_cons pe_str pa_nil)) pa_nil)))) (pa_cons (pe_lst (pa_cons (pv 9) (pa_cons (pe_tup (pa_cons pe_int (pa_cons pe_int pa_nil))) (pa_cons (pe_lst pa_nil) pa_nil)))) pa_nil))))) (pss_one (ps_ret pe_bl)) pss_nil))))))))))))
        (pss_one (ps_ret pe_bl))))), ?_⟩
  -- the box, the web
  refine ⟨_, rfl, _, rfl, sa, ns, rfl, hs, hns, fun b l H1 e1 nb B1 => ?_⟩
  refine ⟨_, rfl, _, rfl, _, _, rfl, b, _, 4, rfl, rfl, B1, by decide, by decide, fun n0 H2 n00 n01 e2 B2 => ⟨_, _, rfl, rfl, ?_⟩⟩
  refine ⟨_, rfl, _, _, rfl, b, _, 2, rfl, rfl, B2, by decide, by decide, fun m0 H3 m00 m01 e3 B3 => ⟨_, _, rfl, rfl, ?_⟩⟩
  obtain ⟨n, hnn⟩ : ∃ n : Nat, n0 = (n : Int) := ⟨n0.toNat, by omega⟩
  have n3 : n ≤ 3 := by omega
  refine ⟨_, _, _, rfl, b, _, n, 2 + m0, rfl, congrArg V.int (by omega), rfl, B3, n3, by omega, by omega, fun D PA RA SA W H4 hD hW okW e4 B4 => ?_⟩
  refine ⟨_, rfl, fun z => z = b, n, PA, RA, SA, D, W, rfl, hD, hW, okW, n3, fun p np z => fresh_box B4 np z, fun L H5 e5 hLat => ?_⟩
  have B5 := B4.s e5
  refine ⟨_, rfl, by decide, by decide, for_it (n := (2 : Int).toNat) walk_range (fun k σ H' => ∃ x3 x4 x5 x6 x7 x8 x9 x10 x11 x12, σ = [some (.ref sa), some (.ref b), some (.ref L), x3, x4, x5, x6, x7, x8, x9, x10, x11, x12] ∧ Box l H' b ∧ LatAt K (· = b) H' L W) ⟨_, _, _, _, _, _, _, _, _, _, rfl, B5, hLat⟩ (fun _ _ _ _ _ => trivial) ?_ fun σ H' _ => q H'⟩
  rintro k _ _ _ H6 hk ⟨x3, x4, x5, x6, x7, x8, x9, x10, x11, x12, rfl, B6, L6⟩ ⟨rfl, rfl⟩
  -- value, date, stay
  refine ⟨_, rfl, _, _, rfl, b, _, rfl, rfl, B6, fun v u H7 hu ou e7 B7 => ?_⟩
  refine ⟨_, rfl, _, _, rfl, b, _, 5, rfl, rfl, B7, by decide, by decide, fun dt H8 d0 d1 e8 B8 => ?_⟩
  refine ⟨_, rfl, _, rfl, by show 3 ≤ sizeLine; decide, fun st nst => ?_⟩
  have hu8 : u.Is K (upd H8 st (.tup [.str "pay", .int dt, v])) v := (e8.vl (noT_box B7) hu).s (same_new nst)
  -- owner, sign
  have S9 := same_new (o := .tup [.str "pay", .int dt, v]) nst
  have B9 := B8.s S9
  refine ⟨_, rfl, _, rfl, by show 2 ≤ sizeLine; decide, fun p1 n1 => ⟨by show 2 ≤ sizeLine; decide, fun p2 n2 => ⟨by show 2 ≤ sizeLine; decide, fun l1 nl1 => ?_⟩⟩⟩
  have s10 := same_new (o := .tup [.str "holder", .int (-1)]) n1
  have s11 := same_new (o := .tup [.str "writer", .int 1]) n2
  have s12 := same_new (o := .lst [.ref p1, .ref p2]) nl1
  have S12 := (s10.trans s11).trans s12
  have B12 := B9.s S12
  have ne12 : p2 ≠ p1 := (none_upd n2).2
  have t1 := s12 _ _ (s11 _ _ (upd_same (H := upd H8 st (.tup [.str "pay", .int dt, v])) (a := p1) (o := .tup [.str "holder", .int (-1)])))
  have t2 := s12 _ _ (upd_same (H := upd (upd H8 st (.tup [.str "pay", .int dt, v])) p1 (.tup [.str "holder", .int (-1)])) (a := p2) (o := .tup [.str "writer", .int 1]))
  refine ⟨_, _, rfl, b, _, l1, _, rfl, rfl, B12, SqL.of upd_same, fresh_box (B9.s (s10.trans s11)) nl1, by simp, by simp, fun zz H13 hzz e13 B13 => ?_⟩
  obtain ⟨pz, o, sg, rfl, hpz, hos⟩ : ∃ (pz : Addr) (o : Str) (sg : Int), zz = .ref pz ∧ SqT K H13 pz [.str o, .int sg] ∧ ((o = "holder" ∧ sg = -1) ∨ (o = "writer" ∧ sg = 1)) := by
    rcases List.mem_cons.mp hzz with rfl | h
    · exact ⟨p1, "holder", -1, rfl, e13.tn (noT_box B12) (SqT.of t1), .inl ⟨rfl, rfl⟩⟩
    · rw [List.mem_singleton.mp h]
      exact ⟨p2, "writer", 1, rfl, e13.tn (noT_box B12) (SqT.of t2), .inr ⟨rfl, rfl⟩⟩
  refine ⟨pz, _, rfl, hpz, rfl, _, _, rfl, _, _, rfl, rfl, ?_⟩
  -- cost
  refine ⟨_, rfl, _, _, rfl, b, _, 9, rfl, rfl, B13, by decide, by decide, fun cv cq H14 hc sc pc e14 B14 => ?_⟩
  obtain ⟨ca, rfl, tc⟩ := id hc
  have sg1 : sg.natAbs < 2 ^ 64 := by rcases hos with ⟨_, h⟩ | ⟨_, h⟩ <;> rw [h] <;> decide
  have cq1 : cq.num.natAbs < 2 ^ 64 := Nat.lt_of_lt_of_le sc.1 (by decide)
  -- fee
  refine ⟨_, rfl, _, rfl, _, _, _, _, rfl, rfl, tc, at0, _, _, rfl, rfl, mulS sg1 cq1, _, rfl, _, _, _, _, rfl, rfl, tc, at1, by show 2 ≤ sizeLine; decide, fun p3 n3' => ⟨by show 2 ≤ sizeLine; decide, fun p4 n4 => ⟨by show 2 ≤ sizeLine; decide, fun fe nfe => ?_⟩⟩⟩
  have s15 := same_new (o := .tup [.int (sg * cq.num), .int (cq.den : Int)]) n3'
  have s16 := same_new (o := .tup [.str "coin", .ref p3]) n4
  have s17 := same_new (o := .tup [.str "now", .ref p4]) nfe
  have S17 := (s15.trans s16).trans s17
  have B17 := B14.s S17
  obtain ⟨c, hcp, occ, scc, lq⟩ : ∃ c : Rat, Am K (upd H14 p3 (.tup [.int (sg * cq.num), .int (cq.den : Int)])) (.ref p3) c ∧ ((o = "holder" ∧ c < 0) ∨ (o = "writer" ∧ 0 < c)) ∧ Sz 6 c ∧ (if o = "holder" then -c else c) = cq := by
    rcases hos with ⟨rfl, rfl⟩ | ⟨rfl, rfl⟩
    · exact ⟨-cq, neg_am upd_same, .inl ⟨rfl, by grind⟩, ⟨by rw [Rat.neg_num, Int.natAbs_neg]; exact sc.1, by rw [Rat.neg_den]; exact sc.2⟩, by rw [if_pos rfl]; grind⟩
    · exact ⟨cq, pos_am upd_same, .inr ⟨rfl, pc⟩, sc, by rw [if_neg (by decide)]⟩
  -- right
  refine ⟨_, rfl, _, rfl, _, rfl, _, _, rfl, rfl, _, _, rfl, b, _, _, rfl, rfl, B17, by omega, by omega, fun kk H18 k0 k1 e18 B18 => ?_⟩
  refine ⟨_, rfl, _, rfl, _, rfl, by show 3 ≤ sizeLine; decide, fun bo nbo => ⟨by show 7 ≤ sizeLine; decide, fun ri nri => ?_⟩⟩
  have s19 := same_new (o := .tup [.str "both", .ref fe, .ref st]) nbo
  have s20 := same_new (o := .tup [.str "may", .str "w", .str o, .int 0, .int kk, .ref st, .ref bo]) nri
  have S20 := s19.trans s20
  have tkb : ∀ {H H' : Hp}, Box l H b → Kp (· = b) H H' → TK K H H' := fun B e _ _ h => e.tn (noT_box B) h
  have T1720 : TK K (upd (upd (upd H14 p3 (.tup [.int (sg * cq.num), .int (cq.den : Int)])) p4 (.tup [.str "coin", .ref p3])) fe (.tup [.str "now", .ref p4])) (upd (upd H18 bo (.tup [.str "both", .ref fe, .ref st])) ri (.tup [.str "may", .str "w", .str o, .int 0, .int kk, .ref st, .ref bo])) := (tkb B17 e18).trans (tkS S20)
  have T920 : TK K (upd H8 st (.tup [.str "pay", .int dt, v])) (upd (upd H18 bo (.tup [.str "both", .ref fe, .ref st])) ri (.tup [.str "may", .str "w", .str o, .int 0, .int kk, .ref st, .ref bo])) := ((((tkS S12).trans (tkb B12 e13)).trans (tkb B13 e14)).trans (tkS S17)).trans T1720
  have B20 := B18.s S20
  have hst20 : Nt.Is K (upd (upd H18 bo (.tup [.str "both", .ref fe, .ref st])) ri (.tup [.str "may", .str "w", .str o, .int 0, .int kk, .ref st, .ref bo])) (.pay dt u) (.ref st) := ⟨st, v, rfl, T920 _ _ (SqT.of upd_same), hu8.tk T920⟩
  have hri20 : Nt.Is K (upd (upd H18 bo (.tup [.str "both", .ref fe, .ref st])) ri (.tup [.str "may", .str "w", .str o, .int 0, .int kk, .ref st, .ref bo])) (.may o kk (.pay dt u) (.both (.now (.coin c)) (.pay dt u))) (.ref ri) :=
    ⟨ri, .ref st, .ref bo, rfl, SqT.of upd_same, hst20, bo, .ref fe, .ref st, rfl, SqT.of (s20 _ _ upd_same), ⟨fe, .ref p4, rfl, T1720 _ _ (SqT.of upd_same), p4, .ref p3, rfl, T1720 _ _ (SqT.of (s17 _ _ upd_same)), (hcp.s (s16.trans s17)).tk T1720⟩, hst20⟩
  have hL20 : LatAt K (· = b) (upd (upd H18 bo (.tup [.str "both", .ref fe, .ref st])) ri (.tup [.str "may", .str "w", .str o, .int 0, .int kk, .ref st, .ref bo])) L W := by
    have a1 := (L6.kp e7 (noT_box B6)).kp e8 (noT_box B7)
    have a2 := ((a1.s S9).s S12).kp e13 (noT_box B12)
    have a3 := ((a2.kp e14 (noT_box B13)).s S17).kp e18 (noT_box B17)
    exact a3.s S20
  have hc20 : Am K (upd (upd H18 bo (.tup [.str "both", .ref fe, .ref st])) ri (.tup [.str "may", .str "w", .str o, .int 0, .int kk, .ref st, .ref bo])) (.ref ca) cq := (hc.s S17).tk T1720
  generalize upd (upd H18 bo (.tup [.str "both", .ref fe, .ref st])) ri (.tup [.str "may", .str "w", .str o, .int 0, .int kk, .ref st, .ref bo]) = H20 at B20 hst20 hri20 hL20 hc20 ⊢
  let s : Pay := ⟨dt, u, ou, d0, by omega⟩
  let rt : Right s := ⟨o, kk, c, k0, by show kk ≤ dt; omega, scc, occ⟩
  have lat20 : Lat K H20 (.ref L) (· = b) W n := ⟨L, rfl, hL20, okW⟩
  -- the table
  refine ⟨_, rfl, _, rfl, fun wa wdx nwa nwdx whne => ?_⟩
  refine ⟨_, _, _, rfl, (· = b), H20, wa, wdx, W, n, s, some rt, L, rfl, rfl, nwa, nwdx, whne, rfl, lat20, n3, hri20, fun rows H21 e21 tab hd0 rl => ⟨rfl, ?_⟩⟩
  obtain ⟨tdx, MC, SU, L2, svs, hwa, _⟩ := id tab
  -- region
  refine ⟨_, rfl, wa, tdx, _, rfl, hwa, rfl, _, _, rfl, wa, (· = b), W, n, s, some rt, rows, "w", rfl, rfl, tab, rl, fun F1 H22 e22 hF1 => ⟨by decide, fun g1 ng1 => ?_⟩⟩
  have s22 := same_new (o := .lst []) ng1
  refine ⟨.list [], .list [], .lst (SqL.of (s22 _ _ hF1)) .nil, .lst (SqL.of upd_same) .nil, rfl, rfl, _, rfl, iteF ?_⟩
  have e23 := e22.trans s22
  have tab23 := tab.s e23
  -- worth
  refine ⟨_, rfl, wa, tdx, _, rfl, e23 _ _ hwa, rfl, _, _, rfl, wa, (· = b), W, n, s, some rt, rows, _, rfl, rfl, tab23, hd0, fun v1 hv1 => ?_⟩
  refine ⟨_, rfl, _, rfl, fun wb wbdx nwb nwbdx wbne => ?_⟩
  refine ⟨_, _, _, rfl, (· = b), _, wb, wbdx, W, n, s, none, L, rfl, rfl, nwb, nwbdx, wbne, rfl, lat20.s (e21.trans e23), n3, Nt.Is.s hst20 (e21.trans e23), fun rows2 H24 e24 tab2 hd2 rl2 => ⟨rfl, ?_⟩⟩
  obtain ⟨tdx2, MC2, SU2, L3, svs2, hwb, _⟩ := id tab2
  refine ⟨wb, tdx2, _, rfl, hwb, rfl, _, _, rfl, wb, (· = b), W, n, s, none, rows2, _, rfl, rfl, tab2, hd2, fun v2 hv2 => ?_⟩
  have tab24 := tab23.s e24
  have evv : VAL W n s (0, 0, topN s (some rt)) = VAL W n s (0, 0, topN s none) := rfl
  refine ⟨datQ (VAL W n s (0, 0, topN s (some rt))), datQ (VAL W n s (0, 0, topN s none)), (hv1.s e24).dp, hv2.dp, rfl, rfl, _, rfl, ?_⟩
  rw [evv, eqv_q, decide_eq_true rfl]
  refine iteF ?_
  -- plan
  have e2124 := e23.trans e24
  have kpl : AnsR K H24 (.ref (kwAd ("Worth", some "plan") "answers" K)) [] := ⟨_, rfl, tupA_ok T.ex4.2.2.2.2.2.2.2.2.2.2.1 H24⟩
  have klo : ∀ H, AnsR K H (.ref (kwAd ("Worth", some "loss") "answers" K)) [] := fun H => ⟨_, rfl, tupA_ok T.ex4.2.2.2.2.2.2.2.2.2.2.2 H⟩
  refine ⟨_, rfl, wa, tdx, _, rfl, e2124 _ _ hwa, rfl, _, _, _, rfl, wa, (· = b), W, n, s, some rt, rows, 0, _, o, "w", rfl, rfl, tab24, hd0, kpl, live_ask ⟨Int.le_refl _, k0⟩, fun H25 e25 => ⟨false, false, rfl, rfl, _, rfl, iteF ?_⟩⟩
  have tab25 := tab24.s e25
  have e2125 := e2124.trans e25
  -- loss(True), loss(False), region('none')
  refine ⟨_, rfl, wa, tdx, _, rfl, e2125 _ _ hwa, rfl, _, _, _, _, rfl, wa, (· = b), W, n, s, some rt, rows, _, true, rt, rfl, rfl, rfl, tab25, hd0, klo _, rfl, rfl, fun lv1 H26 e26 hl1 => ?_⟩
  have tab26 := tab25.s e26
  have e2126 := e2125.trans e26
  refine ⟨_, rfl, wa, tdx, _, rfl, e2126 _ _ hwa, rfl, _, _, _, _, rfl, wa, (· = b), W, n, s, some rt, rows, _, false, rt, rfl, rfl, rfl, tab26, hd0, klo _, rfl, rfl, fun lv2 H27 e27 hl2 => ?_⟩
  have tab27 := tab26.s e27
  have e2127 := e2126.trans e27
  refine ⟨_, rfl, wa, tdx, _, rfl, e2127 _ _ hwa, rfl, _, _, rfl, wa, (· = b), W, n, s, some rt, rows, "none", rfl, rfl, tab27, rl, fun F2 H28 e28 hF2 => ?_⟩
  refine ⟨by show 3 ≤ sizeLine; decide, fun q1 nq1 => ?_⟩
  have u1 := same_new (o := .lst [lv1, lv2, .ref F2]) nq1
  refine ⟨_, rfl, by show 2 ≤ sizeLine; decide, fun q2 nq2 => ⟨by decide, fun q3 nq3 => ⟨by show 3 ≤ sizeLine; decide, fun q4 nq4 => ?_⟩⟩⟩
  have u2 := same_new (o := .tup [.int 0, .int 1]) nq2
  have u3 := same_new (o := .lst []) nq3
  have u4 := same_new (o := .lst [.ref ca, .ref q2, .ref q3]) nq4
  have u14 := ((u1.trans u2).trans u3).trans u4
  have e2028 := ((e21.trans e2127).trans e28)
  have lq1 : lossq rt true = cq := by
    show (if true then (if o = "holder" then -c else c) else 0) = cq
    exact lq
  have d1 : Am K H28 lv1 cq := lq1 ▸ (hl1.s (e27.trans e28))
  have d2 : Am K H28 lv2 0 := hl2.s e28
  refine ⟨_, _, rfl, .list [datQ cq, .tuple [.int 0, .int 1], .list []], ?_, ?_, ⟨by show 3 ≤ 1000; decide, fun d hd => ?_⟩, fun H30 e30 => ?_⟩
  · exact .lst (SqL.of (((u2.trans u3).trans u4) _ _ upd_same)) (.cons ((d1.s u14).dp) (.cons ((d2.s u14).dp) (.cons (.lst (SqL.of (u14 _ _ hF2)) .nil) .nil)))
  · exact .lst (SqL.of upd_same) (.cons (((hc20.s e2028).s u14).dp) (.cons (.tup (SqT.of ((u3.trans u4) _ _ upd_same)) (.cons (.int 0) (.cons (.int 1) .nil))) (.cons (.lst (SqL.of (u4 _ _ upd_same)) .nil) .nil)))
  · simp only [List.mem_cons, List.not_mem_nil, or_false] at hd
    rcases hd with rfl | rfl | rfl
    · exact ⟨by show 2 ≤ 1000; decide, fun d hd => by simp at hd; rcases hd with rfl | rfl <;> trivial⟩
    · exact ⟨by show 2 ≤ 1000; decide, fun d hd => by simp at hd; rcases hd with rfl | rfl <;> trivial⟩
    · exact ⟨by decide, fun d hd => absurd hd List.not_mem_nil⟩
  · have eF := (e2028.trans u14).trans e30
    exact ⟨_, rfl, iteF ⟨_, _, _, _, _, _, _, _, _, _, rfl, B20.s eF, hL20.s eF⟩⟩
end
end K37
set_option Elab.async false
set_option linter.all false
set_option maxRecDepth 100000
set_option maxHeartbeats 0
open PySem PySem.W PySem.Calls PyProof.Rows
theorem PySem.Challenge.cw_strikeloom_k37_whole_rights_of_no_use_holds : PySem.Challenge.rw_strikeloom_k37_whole_rights_of_no_use.Holds := by
  w_on; o_law
  refine HandSHeadRun.head_any (r := K37.R) (q := view K37.R.prog [90]) (H := K37.hk) (ob := K37.ob) (M := 8000) (loose := K37.loose) (d := HandSHeadRun.topDef K37.R.prog 90) (kwd := []) K37.ob_eq
    (by kernel_rfl) (fun s => by kernel_rfl) K37.run (by kernel_rfl) (by kernel_rfl) (by kernel_rfl) (by rfl) (by first | assumption | decide +kernel) (by decide +kernel) ⟨rfl, rfl, rfl, rfl, rfl, by decide +kernel⟩ ?hw ?hc
  case hw => w_witness2
  case hc =>
    refine L2.walk_ofE (l := PySem.Challenge.rw_strikeloom_k37_whole_rights_of_no_use) (n := 63) (k := 26) (x := "_law_script") (CX := L2.CX0) rfl (by decide) (by kernel_rfl) ⟨rfl, by decide, by decide⟩ ?F (fun _ _ _ _ z => z)
    intro w mg fa h Y G hmg0
    obtain ⟨K, KX, c⟩ := Y
    have hmg : mg ("law" : PySem.Str) = some (.ref fa) := by
      have e : (HandSHeadRun.topDef K37.R.prog 90).name = ("law" : PySem.Str) := by kernel_rfl
      rw [← e]
      exact hmg0
    have e2 := hmg.symm.trans (K37.Tx.g_law (P := (PySem.Challenge.rw_strikeloom_k37_whole_rights_of_no_use).prog) (w := w) (K := K) (mg := mg) (base := h) ⟨c.t, c.more, ⟨h, KX, G⟩⟩)
    cases e2
    obtain ⟨fd, F⟩ := K37.Tx.f_law (P := (PySem.Challenge.rw_strikeloom_k37_whole_rights_of_no_use).prog) (w := w) (K := K) (mg := mg) (base := h) ⟨c.t, c.more, ⟨h, KX, G⟩⟩
    have hb := L2.FunD.bindsA (ps := ["_law_script"]) F fun _ _ _ _ _ _ us hl => match us, hl with | [_], _ => rfl
    exact ⟨K, fd, K37.spLaw K, KX, fun s v => hb s [v] rfl, fun H a ns hl _ hS => ⟨a, ns, rfl, hS, hl, fun _ => rfl⟩, fun base _ _ => K37.fn_law ⟨c.t, c.more, ⟨h, KX, G⟩⟩ F⟩
