import PyProof.Rows.All
import Wide.All
import OpenK.AllK
import Wide.FinOn
import KE.KStateDown
import HandS.ForMost
import HandS.ForExc
import HandS.Defaults
import HandS.Wide
import HandS.CallLocal
import HandS.More
import HandS.FStr
import HandS.TupAny
import HandS.TupLe
import HandS.DictComp
import HandS.RevRange
import HandS.Head0
import HandS.Head1
import HandS.Head2
import HandS.HeadEnd
import HandS.HeadHook1
import HandS.HeadHook2
import HandS.HeadHook3
import HandS.HeadHook4
import PySem.Str
import KE.GoesZip
import KE.GoesMore
import KE.GoesEnumKw
import PyProof.CollectIter
import HandS.RaiseMore
import HandS.Walk
import HandS.Codes
import HandS.DictTup
import KE.KDictMeth
import HandS.Sort
import HandS.Keys
import HandS.Conv
import HandS.TupLen
import HandS.CallRecv
import HandS.TupSets
import HandS.Deep
import PySem.Challenge.RW_strikeloom_k34_whole_rights_help_their_o
set_option Elab.async false
set_option linter.all false
set_option maxRecDepth 100000
set_option maxHeartbeats 4000000
namespace SL
open PySem PySem.Spec PyProof.Rows L2
/-! where each def stands; written by gen_base.py -/
abbrev PG : PySem.Program := PySem.Challenge.pw_strikeloom_k34_whole_rights_help_their_o
def top (i : Nat) : Stmt := PG.main.body.getD i (.Pass ⟨0, 0, 0, 0⟩)
/-- the keyword default x of the def at f, if it is an object -/
def kwdAt (f : Str × Option Str) (x : Str) (K : PySem.W.Frag) : Addr := match K.lookup (He.fAd K f) with
  | some ⟨_, _, .func fd, _⟩ => (match fd.kwdefaults with
    | .ref D => (match PySem.W.nsIn K D x with
      | some (some (.ref a)) => a
      | _ => 0)
    | _ => 0)
  | _ => 0
/-- an empty tuple stands at a -/
def nilB (K : PySem.W.Frag) (a : Addr) : Bool := match K.lookup a with
  | some ⟨.type c, _, .seq its _, _⟩ => decide (c = "tuple") && its.isEmpty
  | _ => false
abbrev s_common : Stmt := top 15
abbrev s_lowest : Stmt := top 16
abbrev s_plus : Stmt := top 17
abbrev s_minus : Stmt := top 18
abbrev s_times : Stmt := top 19
abbrev s_by : Stmt := top 20
abbrev s_less : Stmt := top 21
abbrev s_amount_text : Stmt := top 22
abbrev s_inner : Stmt := top 27
abbrev s_uses : Stmt := top 28
abbrev s_is_whole : Stmt := top 29
abbrev s_better : Stmt := top 30
abbrev s_worse : Stmt := top 31
abbrev s_value_at : Stmt := top 33
abbrev s_thing_text : Stmt := top 35
abbrev s_things_text : Stmt := top 36
abbrev s_value_text : Stmt := top 37
abbrev s_note_text : Stmt := top 38
abbrev s_both_of : Stmt := top 40
abbrev s_turned_owner : Stmt := top 41
abbrev s_of_none : Stmt := top 42
abbrev s_of_pay : Stmt := top 43
abbrev s_of_now : Stmt := top 44
abbrev s_of_both : Stmt := top 45
abbrev s_of_times : Stmt := top 46
abbrev s_of_turn : Stmt := top 47
abbrev s_of_till : Stmt := top 48
abbrev s_of_may : Stmt := top 49
abbrev s_of_seen : Stmt := top 50
abbrev s_lived : Stmt := top 52
abbrev s_turned : Stmt := top 53
abbrev s_endings : Stmt := top 54
abbrev s_look_both : Stmt := top 56
abbrev s_M_init : Stmt := inClass (top 57) 0
abbrev s_M_len : Stmt := inClass (top 57) 1
abbrev s_M_later : Stmt := inClass (top 57) 2
abbrev s_M_stand : Stmt := inClass (top 57) 6
abbrev s_M_at : Stmt := inClass (top 57) 7
abbrev s_M_ahead : Stmt := inClass (top 57) 8
abbrev s_weighed : Stmt := top 59
abbrev s_chosen : Stmt := top 60
abbrev s_W_init : Stmt := inClass (top 61) 0
abbrev s_W_reckoned : Stmt := inClass (top 61) 2
abbrev s_W_worth : Stmt := inClass (top 61) 3
abbrev s_W_plan : Stmt := inClass (top 61) 5
abbrev s_W_region : Stmt := inClass (top 61) 8
abbrev s_look_shape : Stmt := top 65
abbrev s_look_above : Stmt := top 66
abbrev s_look_steps : Stmt := top 67
abbrev s_L_init : Stmt := inClass (top 68) 0
abbrev s_L_last : Stmt := inClass (top 68) 4
abbrev s_L_many : Stmt := inClass (top 68) 5
abbrev s_L_look_node : Stmt := inClass (top 68) 6
abbrev s_L_price : Stmt := inClass (top 68) 7
abbrev s_L_rate : Stmt := inClass (top 68) 8
abbrev s_L_step : Stmt := inClass (top 68) 9
abbrev s_L_sides : Stmt := inClass (top 68) 10
abbrev s_L_share : Stmt := inClass (top 68) 11
abbrev s_L_win : Stmt := inClass (top 68) 12
abbrev s_Lbox : Stmt := top 70
abbrev s_Ltake : Stmt := top 71
abbrev s_Lone : Stmt := top 72
abbrev s_Lnear : Stmt := top 73
abbrev s_Lcommon : Stmt := top 74
abbrev s_Llow : Stmt := top 75
abbrev s_Lsum : Stmt := top 76
abbrev s_Lless_by : Stmt := top 77
abbrev s_Lproduct : Stmt := top 78
abbrev s_Lshare_of : Stmt := top 79
abbrev s_Lunder : Stmt := top 80
abbrev s_Lcoin : Stmt := top 81
abbrev s_Labove : Stmt := top 82
abbrev s_Lrows_between : Stmt := top 83
abbrev s_Lsteps_between : Stmt := top 84
abbrev s_Lfair : Stmt := top 85
abbrev s_Lweb : Stmt := top 86
abbrev s_Lvalue : Stmt := top 87
abbrev s_Lname : Stmt := top 88
abbrev s_Ldays : Stmt := top 89
abbrev s_Lleaf : Stmt := top 90
abbrev s_Lnote : Stmt := top 91
abbrev s_law : Stmt := top 92
def d_common : He.DefD := ⟨("common", none), "common", "common", defArgs s_common, defBody s_common, defScope s_common, [], []⟩
def d_lowest : He.DefD := ⟨("lowest", none), "lowest", "lowest", defArgs s_lowest, defBody s_lowest, defScope s_lowest, [], []⟩
def d_plus : He.DefD := ⟨("plus", none), "plus", "plus", defArgs s_plus, defBody s_plus, defScope s_plus, [], []⟩
def d_minus : He.DefD := ⟨("minus", none), "minus", "minus", defArgs s_minus, defBody s_minus, defScope s_minus, [], []⟩
def d_times : He.DefD := ⟨("times", none), "times", "times", defArgs s_times, defBody s_times, defScope s_times, [], []⟩
def d_by : He.DefD := ⟨("by", none), "by", "by", defArgs s_by, defBody s_by, defScope s_by, [], []⟩
def d_less : He.DefD := ⟨("less", none), "less", "less", defArgs s_less, defBody s_less, defScope s_less, [], []⟩
def d_amount_text : He.DefD := ⟨("amount_text", none), "amount_text", "amount_text", defArgs s_amount_text, defBody s_amount_text, defScope s_amount_text, [], []⟩
def d_inner : He.DefD := ⟨("inner", none), "inner", "inner", defArgs s_inner, defBody s_inner, defScope s_inner, [], []⟩
def d_uses : He.DefD := ⟨("uses", none), "uses", "uses", defArgs s_uses, defBody s_uses, defScope s_uses, [], []⟩
def d_is_whole : He.DefD := ⟨("is_whole", none), "is_whole", "is_whole", defArgs s_is_whole, defBody s_is_whole, defScope s_is_whole, [], []⟩
def d_better : He.DefD := ⟨("better", none), "better", "better", defArgs s_better, defBody s_better, defScope s_better, [], []⟩
def d_worse : He.DefD := ⟨("worse", none), "worse", "worse", defArgs s_worse, defBody s_worse, defScope s_worse, [], []⟩
def d_value_at : He.DefD := ⟨("value_at", none), "value_at", "value_at", defArgs s_value_at, defBody s_value_at, defScope s_value_at, [], []⟩
def d_thing_text : He.DefD := ⟨("thing_text", none), "thing_text", "thing_text", defArgs s_thing_text, defBody s_thing_text, defScope s_thing_text, [], []⟩
def d_things_text : He.DefD := ⟨("things_text", none), "things_text", "things_text", defArgs s_things_text, defBody s_things_text, defScope s_things_text, [], []⟩
def d_value_text : He.DefD := ⟨("value_text", none), "value_text", "value_text", defArgs s_value_text, defBody s_value_text, defScope s_value_text, [], []⟩
def d_note_text : He.DefD := ⟨("note_text", none), "note_text", "note_text", defArgs s_note_text, defBody s_note_text, defScope s_note_text, [], []⟩
def d_both_of : He.DefD := ⟨("both_of", none), "both_of", "both_of", defArgs s_both_of, defBody s_both_of, defScope s_both_of, [], []⟩
def d_turned_owner : He.DefD := ⟨("turned_owner", none), "turned_owner", "turned_owner", defArgs s_turned_owner, defBody s_turned_owner, defScope s_turned_owner, [], []⟩
def d_of_none : He.DefD := ⟨("of_none", none), "of_none", "of_none", defArgs s_of_none, defBody s_of_none, defScope s_of_none, [], []⟩
def d_of_pay : He.DefD := ⟨("of_pay", none), "of_pay", "of_pay", defArgs s_of_pay, defBody s_of_pay, defScope s_of_pay, [], []⟩
def d_of_now : He.DefD := ⟨("of_now", none), "of_now", "of_now", defArgs s_of_now, defBody s_of_now, defScope s_of_now, [], []⟩
def d_of_both : He.DefD := ⟨("of_both", none), "of_both", "of_both", defArgs s_of_both, defBody s_of_both, defScope s_of_both, [], []⟩
def d_of_times : He.DefD := ⟨("of_times", none), "of_times", "of_times", defArgs s_of_times, defBody s_of_times, defScope s_of_times, [], []⟩
def d_of_turn : He.DefD := ⟨("of_turn", none), "of_turn", "of_turn", defArgs s_of_turn, defBody s_of_turn, defScope s_of_turn, [], []⟩
def d_of_till : He.DefD := ⟨("of_till", none), "of_till", "of_till", defArgs s_of_till, defBody s_of_till, defScope s_of_till, [], []⟩
def d_of_may : He.DefD := ⟨("of_may", none), "of_may", "of_may", defArgs s_of_may, defBody s_of_may, defScope s_of_may, [], []⟩
def d_of_seen : He.DefD := ⟨("of_seen", none), "of_seen", "of_seen", defArgs s_of_seen, defBody s_of_seen, defScope s_of_seen, [], []⟩
def d_lived : He.DefD := ⟨("lived", none), "lived", "lived", defArgs s_lived, defBody s_lived, defScope s_lived, [], []⟩
def d_turned : He.DefD := ⟨("turned", none), "turned", "turned", defArgs s_turned, defBody s_turned, defScope s_turned, [], [("answers", .adr (kwdAt ("turned", none) "answers"))]⟩
def d_endings : He.DefD := ⟨("endings", none), "endings", "endings", defArgs s_endings, defBody s_endings, defScope s_endings, [], []⟩
def d_look_both : He.DefD := ⟨("look_both", none), "look_both", "look_both", defArgs s_look_both, defBody s_look_both, defScope s_look_both, [], []⟩
def d_M_init : He.DefD := ⟨("Machine", some "__init__"), "__init__", "Machine.__init__", defArgs s_M_init, defBody s_M_init, defScope s_M_init, [], []⟩
def d_M_len : He.DefD := ⟨("Machine", some "__len__"), "__len__", "Machine.__len__", defArgs s_M_len, defBody s_M_len, defScope s_M_len, [], []⟩
def d_M_later : He.DefD := ⟨("Machine", some "later"), "later", "Machine.later", defArgs s_M_later, defBody s_M_later, defScope s_M_later, [], []⟩
def d_M_stand : He.DefD := ⟨("Machine", some "stand"), "stand", "Machine.stand", defArgs s_M_stand, defBody s_M_stand, defScope s_M_stand, [], []⟩
def d_M_at : He.DefD := ⟨("Machine", some "at"), "at", "Machine.at", defArgs s_M_at, defBody s_M_at, defScope s_M_at, [], [("answers", .adr (kwdAt ("Machine", some "at") "answers"))]⟩
def d_M_ahead : He.DefD := ⟨("Machine", some "ahead"), "ahead", "Machine.ahead", defArgs s_M_ahead, defBody s_M_ahead, defScope s_M_ahead, [], [("answers", .adr (kwdAt ("Machine", some "ahead") "answers"))]⟩
def d_weighed : He.DefD := ⟨("weighed", none), "weighed", "weighed", defArgs s_weighed, defBody s_weighed, defScope s_weighed, [], []⟩
def d_chosen : He.DefD := ⟨("chosen", none), "chosen", "chosen", defArgs s_chosen, defBody s_chosen, defScope s_chosen, [], []⟩
def d_W_init : He.DefD := ⟨("Worth", some "__init__"), "__init__", "Worth.__init__", defArgs s_W_init, defBody s_W_init, defScope s_W_init, [], []⟩
def d_W_reckoned : He.DefD := ⟨("Worth", some "reckoned"), "reckoned", "Worth.reckoned", defArgs s_W_reckoned, defBody s_W_reckoned, defScope s_W_reckoned, [], []⟩
def d_W_worth : He.DefD := ⟨("Worth", some "worth"), "worth", "Worth.worth", defArgs s_W_worth, defBody s_W_worth, defScope s_W_worth, [.int 0], []⟩
def d_W_plan : He.DefD := ⟨("Worth", some "plan"), "plan", "Worth.plan", defArgs s_W_plan, defBody s_W_plan, defScope s_W_plan, [.int 0], [("answers", .adr (kwdAt ("Worth", some "plan") "answers"))]⟩
def d_W_region : He.DefD := ⟨("Worth", some "region"), "region", "Worth.region", defArgs s_W_region, defBody s_W_region, defScope s_W_region, [], []⟩
def d_look_shape : He.DefD := ⟨("look_shape", none), "look_shape", "look_shape", defArgs s_look_shape, defBody s_look_shape, defScope s_look_shape, [], []⟩
def d_look_above : He.DefD := ⟨("look_above", none), "look_above", "look_above", defArgs s_look_above, defBody s_look_above, defScope s_look_above, [], []⟩
def d_look_steps : He.DefD := ⟨("look_steps", none), "look_steps", "look_steps", defArgs s_look_steps, defBody s_look_steps, defScope s_look_steps, [], []⟩
def d_L_init : He.DefD := ⟨("Lattice", some "__init__"), "__init__", "Lattice.__init__", defArgs s_L_init, defBody s_L_init, defScope s_L_init, [], []⟩
def d_L_last : He.DefD := ⟨("Lattice", some "last"), "last", "Lattice.last", defArgs s_L_last, defBody s_L_last, defScope s_L_last, [], []⟩
def d_L_many : He.DefD := ⟨("Lattice", some "many"), "many", "Lattice.many", defArgs s_L_many, defBody s_L_many, defScope s_L_many, [], []⟩
def d_L_look_node : He.DefD := ⟨("Lattice", some "look_node"), "look_node", "Lattice.look_node", defArgs s_L_look_node, defBody s_L_look_node, defScope s_L_look_node, [], [("stepping", .bl true)]⟩
def d_L_price : He.DefD := ⟨("Lattice", some "price"), "price", "Lattice.price", defArgs s_L_price, defBody s_L_price, defScope s_L_price, [], []⟩
def d_L_rate : He.DefD := ⟨("Lattice", some "rate"), "rate", "Lattice.rate", defArgs s_L_rate, defBody s_L_rate, defScope s_L_rate, [], []⟩
def d_L_step : He.DefD := ⟨("Lattice", some "step"), "step", "Lattice.step", defArgs s_L_step, defBody s_L_step, defScope s_L_step, [], []⟩
def d_L_sides : He.DefD := ⟨("Lattice", some "sides"), "sides", "Lattice.sides", defArgs s_L_sides, defBody s_L_sides, defScope s_L_sides, [], []⟩
def d_L_share : He.DefD := ⟨("Lattice", some "share"), "share", "Lattice.share", defArgs s_L_share, defBody s_L_share, defScope s_L_share, [], []⟩
def d_L_win : He.DefD := ⟨("Lattice", some "win"), "win", "Lattice.win", defArgs s_L_win, defBody s_L_win, defScope s_L_win, [], []⟩
def d_Lbox : He.DefD := ⟨("_law_box", none), "_law_box", "_law_box", defArgs s_Lbox, defBody s_Lbox, defScope s_Lbox, [], []⟩
def d_Ltake : He.DefD := ⟨("_law_take", none), "_law_take", "_law_take", defArgs s_Ltake, defBody s_Ltake, defScope s_Ltake, [], []⟩
def d_Lone : He.DefD := ⟨("_law_one", none), "_law_one", "_law_one", defArgs s_Lone, defBody s_Lone, defScope s_Lone, [], []⟩
def d_Lnear : He.DefD := ⟨("_law_near", none), "_law_near", "_law_near", defArgs s_Lnear, defBody s_Lnear, defScope s_Lnear, [], []⟩
def d_Lcommon : He.DefD := ⟨("_law_common", none), "_law_common", "_law_common", defArgs s_Lcommon, defBody s_Lcommon, defScope s_Lcommon, [], []⟩
def d_Llow : He.DefD := ⟨("_law_low", none), "_law_low", "_law_low", defArgs s_Llow, defBody s_Llow, defScope s_Llow, [], []⟩
def d_Lsum : He.DefD := ⟨("_law_sum", none), "_law_sum", "_law_sum", defArgs s_Lsum, defBody s_Lsum, defScope s_Lsum, [], []⟩
def d_Lless_by : He.DefD := ⟨("_law_less_by", none), "_law_less_by", "_law_less_by", defArgs s_Lless_by, defBody s_Lless_by, defScope s_Lless_by, [], []⟩
def d_Lproduct : He.DefD := ⟨("_law_product", none), "_law_product", "_law_product", defArgs s_Lproduct, defBody s_Lproduct, defScope s_Lproduct, [], []⟩
def d_Lshare_of : He.DefD := ⟨("_law_share_of", none), "_law_share_of", "_law_share_of", defArgs s_Lshare_of, defBody s_Lshare_of, defScope s_Lshare_of, [], []⟩
def d_Lunder : He.DefD := ⟨("_law_under", none), "_law_under", "_law_under", defArgs s_Lunder, defBody s_Lunder, defScope s_Lunder, [], []⟩
def d_Lcoin : He.DefD := ⟨("_law_coin", none), "_law_coin", "_law_coin", defArgs s_Lcoin, defBody s_Lcoin, defScope s_Lcoin, [], []⟩
def d_Labove : He.DefD := ⟨("_law_above", none), "_law_above", "_law_above", defArgs s_Labove, defBody s_Labove, defScope s_Labove, [], []⟩
def d_Lrows_between : He.DefD := ⟨("_law_rows_between", none), "_law_rows_between", "_law_rows_between", defArgs s_Lrows_between, defBody s_Lrows_between, defScope s_Lrows_between, [], []⟩
def d_Lsteps_between : He.DefD := ⟨("_law_steps_between", none), "_law_steps_between", "_law_steps_between", defArgs s_Lsteps_between, defBody s_Lsteps_between, defScope s_Lsteps_between, [], []⟩
def d_Lfair : He.DefD := ⟨("_law_fair", none), "_law_fair", "_law_fair", defArgs s_Lfair, defBody s_Lfair, defScope s_Lfair, [], []⟩
def d_Lweb : He.DefD := ⟨("_law_web", none), "_law_web", "_law_web", defArgs s_Lweb, defBody s_Lweb, defScope s_Lweb, [], []⟩
def d_Lvalue : He.DefD := ⟨("_law_value", none), "_law_value", "_law_value", defArgs s_Lvalue, defBody s_Lvalue, defScope s_Lvalue, [], []⟩
def d_Lname : He.DefD := ⟨("_law_name", none), "_law_name", "_law_name", defArgs s_Lname, defBody s_Lname, defScope s_Lname, [], []⟩
def d_Ldays : He.DefD := ⟨("_law_days", none), "_law_days", "_law_days", defArgs s_Ldays, defBody s_Ldays, defScope s_Ldays, [], []⟩
def d_Lleaf : He.DefD := ⟨("_law_leaf", none), "_law_leaf", "_law_leaf", defArgs s_Lleaf, defBody s_Lleaf, defScope s_Lleaf, [], []⟩
def d_Lnote : He.DefD := ⟨("_law_note", none), "_law_note", "_law_note", defArgs s_Lnote, defBody s_Lnote, defScope s_Lnote, [], []⟩
def d_law : He.DefD := ⟨("law", none), "law", "law", defArgs s_law, defBody s_law, defScope s_law, [], []⟩
def fnL : List He.DefD := [d_common, d_lowest, d_plus, d_minus, d_times, d_by, d_less, d_amount_text, d_inner, d_uses, d_is_whole, d_better, d_worse, d_value_at, d_thing_text, d_things_text, d_value_text, d_note_text, d_both_of, d_turned_owner, d_of_none, d_of_pay, d_of_now, d_of_both, d_of_times, d_of_turn, d_of_till, d_of_may, d_of_seen, d_lived, d_turned, d_endings, d_look_both, d_M_init, d_M_len, d_M_later, d_M_stand, d_M_at, d_M_ahead, d_weighed, d_chosen, d_W_init, d_W_reckoned, d_W_worth, d_W_plan, d_W_region, d_look_shape, d_look_above, d_look_steps, d_L_init, d_L_last, d_L_many, d_L_look_node, d_L_price, d_L_rate, d_L_step, d_L_sides, d_L_share, d_L_win, d_Lbox, d_Ltake, d_Lone, d_Lnear, d_Lcommon, d_Llow, d_Lsum, d_Lless_by, d_Lproduct, d_Lshare_of, d_Lunder, d_Lcoin, d_Labove, d_Lrows_between, d_Lsteps_between, d_Lfair, d_Lweb, d_Lvalue, d_Lname, d_Ldays, d_Lleaf, d_Lnote, d_law]
def faL : List He.Fa := [.glo "NOUGHT", .glo "ONE", .glo "common", .glo "lowest", .glo "plus", .glo "minus", .glo "times", .glo "by", .glo "less", .glo "amount_text", .glo "VALUES", .glo "NOTES", .glo "NONE", .glo "inner", .glo "uses", .glo "is_whole", .glo "better", .glo "worse", .glo "PAIRS", .glo "value_at", .glo "thing_text", .glo "things_text", .glo "value_text", .glo "note_text", .glo "both_of", .glo "turned_owner", .glo "of_none", .glo "of_pay", .glo "of_now", .glo "of_both", .glo "of_times", .glo "of_turn", .glo "of_till", .glo "of_may", .glo "of_seen", .glo "WAYS", .glo "lived", .glo "turned", .glo "endings", .glo "look_both", .glo "Machine", .glo "weighed", .glo "chosen", .glo "Worth", .glo "look_shape", .glo "look_above", .glo "look_steps", .glo "Lattice", .glo "_law_box", .glo "_law_take", .glo "_law_one", .glo "_law_near", .glo "_law_common", .glo "_law_low", .glo "_law_sum", .glo "_law_less_by", .glo "_law_product", .glo "_law_share_of", .glo "_law_under", .glo "_law_coin", .glo "_law_above", .glo "_law_rows_between", .glo "_law_steps_between", .glo "_law_fair", .glo "_law_web", .glo "_law_value", .glo "_law_name", .glo "_law_days", .glo "_law_leaf", .glo "_law_note", .glo "law", .free "len", .free "abs", .free "sorted", .free "range", .free "enumerate", .free "zip", .free "all", .free "min", .free "list", .free "tuple", .free "set", .free "str", .free "reversed", .int "MOST_DATES" 7, .int "MOST_NODES" 8, .cls "Machine", .mkr "Machine", .noat "Machine" "web", .noat "Machine" "thing", .noat "Machine" "rows", .noat "Machine" "kin", .noat "Machine" "spots", .meth "Machine" "__len__", .meth "Machine" "later", .meth "Machine" "stand", .meth "Machine" "at", .meth "Machine" "ahead", .cls "Worth", .mkr "Worth", .noat "Worth" "mill", .noat "Worth" "sums", .meth "Worth" "reckoned", .meth "Worth" "worth", .meth "Worth" "plan", .meth "Worth" "region", .cls "Lattice", .mkr "Lattice", .noat "Lattice" "prices", .noat "Lattice" "rates", .noat "Lattice" "steps", .meth "Lattice" "last", .meth "Lattice" "many", .meth "Lattice" "look_node", .meth "Lattice" "price", .meth "Lattice" "rate", .meth "Lattice" "step", .meth "Lattice" "sides", .meth "Lattice" "share", .meth "Lattice" "win"]
def t_VALUES : List (Str × He.Dv) := [("price", .str ""), ("coin", .str "a"), ("of", .str "av"), ("plus", .str "vv"), ("minus", .str "vv"), ("best", .str "vv"), ("least", .str "vv")]
def t_NOTES : List (Str × He.Dv) := [("none", .str ""), ("pay", .str "dv"), ("now", .str "v"), ("both", .str "nn"), ("times", .str "an"), ("turn", .str "n"), ("till", .str "sann"), ("may", .str "moddnn"), ("seen", .str "wdaq"), ("use", .str "m")]
def t_PAIRS : List (Str × He.Dv) := [("plus", .glo "plus"), ("minus", .glo "minus"), ("best", .glo "better"), ("least", .glo "worse")]
def t_WAYS : List (Str × He.Dv) := [("none", .glo "of_none"), ("pay", .glo "of_pay"), ("now", .glo "of_now"), ("both", .glo "of_both"), ("times", .glo "of_times"), ("turn", .glo "of_turn"), ("till", .glo "of_till"), ("may", .glo "of_may"), ("seen", .glo "of_seen")]
def tsL : List He.Tab := [(fun K => He.ga K "VALUES", ["price", "coin", "of", "plus", "minus", "best", "least"]), (fun K => He.ga K "NOTES", ["none", "pay", "now", "both", "times", "turn", "till", "may", "seen", "use"]), (fun K => He.ga K "PAIRS", ["plus", "minus", "best", "least"]), (fun K => He.ga K "WAYS", ["none", "pay", "now", "both", "times", "turn", "till", "may", "seen"])]
def exB (K : PySem.W.Frag) : Bool := He.tupB K "NOUGHT" [.int 0, .int 1] && (He.tupB K "ONE" [.int 1, .int 1] && (He.tupB K "NONE" [.str "none"] && (He.valsB K (He.ga K "VALUES") t_VALUES && (He.valsB K (He.ga K "NOTES") t_NOTES && (He.valsB K (He.ga K "PAIRS") t_PAIRS && (He.valsB K (He.ga K "WAYS") t_WAYS && nilB K (kwdAt ("Worth", some "plan") "answers" K)))))))
def looseL : List Str := (["_wall", "LoomError", "Missing", "BadShape", "BadPrice", "BadRate", "BadStep", "Winning", "NotWhole", "NoNode", "NoStand", "NOUGHT", "ONE", "common", "lowest", "plus", "minus", "times", "by", "less", "amount_text", "VALUES", "NOTES", "NONE", "inner", "uses", "is_whole", "better", "worse", "PAIRS"] : List Str) ++ (["value_at", "thing_text", "things_text", "value_text", "note_text", "both_of", "turned_owner", "of_none", "of_pay", "of_now", "of_both", "of_times", "of_turn", "of_till", "of_may", "of_seen", "WAYS", "lived", "turned", "endings", "look_both", "Machine", "weighed", "chosen", "Worth", "MOST_DATES", "MOST_NODES", "look_shape", "look_above", "look_steps"] : List Str) ++ (["Lattice", "_law_box", "_law_take", "_law_one", "_law_near", "_law_common", "_law_low", "_law_sum", "_law_less_by", "_law_product", "_law_share_of", "_law_under", "_law_coin", "_law_above", "_law_rows_between", "_law_steps_between", "_law_fair", "_law_web", "_law_value", "_law_name", "_law_days", "_law_leaf", "_law_note"] : List Str)
def lawAt : Nat := 92
/-! what the walks lean on -/
structure TX (w : World) (K : PySem.W.Frag) (mg : Str → Option Value) : Prop where
  ex : ∃ h, K.In h ∧ h.Ns mainGlobals mg ∧ He.SaysT faL fnL tsL w K ∧ exB K = true
section
variable {w : World} {K : PySem.W.Frag} {mg : Str → Option Value}
theorem TX.glo (T : TX w K mg) (i : Nat) {x : Str} (e : faL[i]? = some (.glo x)) : mg x = some (.ref (He.ga K x)) := by
  obtain ⟨h, X, G, S, SE⟩ := T.ex
  exact He.glo_ok X G (S.d.fact i e)
theorem TX.free (T : TX w K mg) (i : Nat) {x : Str} (e : faL[i]? = some (.free x)) : mg x = none := by
  obtain ⟨h, X, G, S, SE⟩ := T.ex
  exact He.free_ok X G (S.d.fact i e)
theorem TX.int (T : TX w K mg) (i : Nat) {x : Str} {n : Int} (e : faL[i]? = some (.int x n)) : ∃ t, mg x = some (.int n t) := by
  obtain ⟨h, X, G, S, SE⟩ := T.ex
  exact He.int_ok X G (S.d.fact i e)
theorem TX.cls (T : TX w K mg) (i : Nat) {x : Str} (e : faL[i]? = some (.cls x)) : Cls K (He.ga K x) := by
  obtain ⟨h, X, G, S, SE⟩ := T.ex
  exact He.cls_ok (S.d.fact i e)
theorem TX.noat (T : TX w K mg) (i : Nat) {x f : Str} (e : faL[i]? = some (.noat x f)) : NoAttr K (He.ga K x) f := by
  obtain ⟨h, X, G, S, SE⟩ := T.ex
  exact He.noat_ok (S.d.fact i e)
theorem TX.meth (T : TX w K mg) (i : Nat) {x m : Str} (e : faL[i]? = some (.meth x m)) : Meth K (He.ga K x) m (He.ma K (He.ga K x) m) := by
  obtain ⟨h, X, G, S, SE⟩ := T.ex
  exact He.meth_ok (S.d.fact i e)
theorem TX.mkr (T : TX w K mg) (i : Nat) {x : Str} (e : faL[i]? = some (.mkr x)) : Mk K (He.ga K x) (He.ma K (He.ga K x) "__init__") := by
  obtain ⟨h, X, G, S, SE⟩ := T.ex
  exact He.mkr_ok (S.d.fact i e)
theorem TX.fn (T : TX w K mg) (i : Nat) {d : He.DefD} (e : fnL[i]? = some d) : ∃ fd, FunD K d.name d.qual d.params d.body d.scope (d.dvs K) (d.kws K) (He.fAd K d.at_) fd := by
  obtain ⟨h, X, G, S, SE⟩ := T.ex
  exact S.d.def_ i e
theorem TX.tab (T : TX w K mg) (i : Nat) {t : He.Tab} (e : tsL[i]? = some t) : ∃ es n, KDict K w (t.1 K) es n := by
  obtain ⟨h, X, G, S, SE⟩ := T.ex
  exact S.tab i e
theorem TX.exb (T : TX w K mg) : exB K = true := by
  obtain ⟨h, X, G, S, SE⟩ := T.ex
  exact SE
theorem g_NOUGHT (T : TX w K mg) : mg "NOUGHT" = some (.ref (He.ga K "NOUGHT")) := T.glo 0 rfl
theorem g_ONE (T : TX w K mg) : mg "ONE" = some (.ref (He.ga K "ONE")) := T.glo 1 rfl
theorem g_common (T : TX w K mg) : mg "common" = some (.ref (He.ga K "common")) := T.glo 2 rfl
theorem g_lowest (T : TX w K mg) : mg "lowest" = some (.ref (He.ga K "lowest")) := T.glo 3 rfl
theorem g_plus (T : TX w K mg) : mg "plus" = some (.ref (He.ga K "plus")) := T.glo 4 rfl
theorem g_minus (T : TX w K mg) : mg "minus" = some (.ref (He.ga K "minus")) := T.glo 5 rfl
theorem g_times (T : TX w K mg) : mg "times" = some (.ref (He.ga K "times")) := T.glo 6 rfl
theorem g_by (T : TX w K mg) : mg "by" = some (.ref (He.ga K "by")) := T.glo 7 rfl
theorem g_less (T : TX w K mg) : mg "less" = some (.ref (He.ga K "less")) := T.glo 8 rfl
theorem g_amount_text (T : TX w K mg) : mg "amount_text" = some (.ref (He.ga K "amount_text")) := T.glo 9 rfl
theorem g_VALUES (T : TX w K mg) : mg "VALUES" = some (.ref (He.ga K "VALUES")) := T.glo 10 rfl
theorem g_NOTES (T : TX w K mg) : mg "NOTES" = some (.ref (He.ga K "NOTES")) := T.glo 11 rfl
theorem g_NONE (T : TX w K mg) : mg "NONE" = some (.ref (He.ga K "NONE")) := T.glo 12 rfl
theorem g_inner (T : TX w K mg) : mg "inner" = some (.ref (He.ga K "inner")) := T.glo 13 rfl
theorem g_uses (T : TX w K mg) : mg "uses" = some (.ref (He.ga K "uses")) := T.glo 14 rfl
theorem g_is_whole (T : TX w K mg) : mg "is_whole" = some (.ref (He.ga K "is_whole")) := T.glo 15 rfl
theorem g_better (T : TX w K mg) : mg "better" = some (.ref (He.ga K "better")) := T.glo 16 rfl
theorem g_worse (T : TX w K mg) : mg "worse" = some (.ref (He.ga K "worse")) := T.glo 17 rfl
theorem g_PAIRS (T : TX w K mg) : mg "PAIRS" = some (.ref (He.ga K "PAIRS")) := T.glo 18 rfl
theorem g_value_at (T : TX w K mg) : mg "value_at" = some (.ref (He.ga K "value_at")) := T.glo 19 rfl
theorem g_thing_text (T : TX w K mg) : mg "thing_text" = some (.ref (He.ga K "thing_text")) := T.glo 20 rfl
theorem g_things_text (T : TX w K mg) : mg "things_text" = some (.ref (He.ga K "things_text")) := T.glo 21 rfl
theorem g_value_text (T : TX w K mg) : mg "value_text" = some (.ref (He.ga K "value_text")) := T.glo 22 rfl
theorem g_note_text (T : TX w K mg) : mg "note_text" = some (.ref (He.ga K "note_text")) := T.glo 23 rfl
theorem g_both_of (T : TX w K mg) : mg "both_of" = some (.ref (He.ga K "both_of")) := T.glo 24 rfl
theorem g_turned_owner (T : TX w K mg) : mg "turned_owner" = some (.ref (He.ga K "turned_owner")) := T.glo 25 rfl
theorem g_of_none (T : TX w K mg) : mg "of_none" = some (.ref (He.ga K "of_none")) := T.glo 26 rfl
theorem g_of_pay (T : TX w K mg) : mg "of_pay" = some (.ref (He.ga K "of_pay")) := T.glo 27 rfl
theorem g_of_now (T : TX w K mg) : mg "of_now" = some (.ref (He.ga K "of_now")) := T.glo 28 rfl
theorem g_of_both (T : TX w K mg) : mg "of_both" = some (.ref (He.ga K "of_both")) := T.glo 29 rfl
theorem g_of_times (T : TX w K mg) : mg "of_times" = some (.ref (He.ga K "of_times")) := T.glo 30 rfl
theorem g_of_turn (T : TX w K mg) : mg "of_turn" = some (.ref (He.ga K "of_turn")) := T.glo 31 rfl
theorem g_of_till (T : TX w K mg) : mg "of_till" = some (.ref (He.ga K "of_till")) := T.glo 32 rfl
theorem g_of_may (T : TX w K mg) : mg "of_may" = some (.ref (He.ga K "of_may")) := T.glo 33 rfl
theorem g_of_seen (T : TX w K mg) : mg "of_seen" = some (.ref (He.ga K "of_seen")) := T.glo 34 rfl
theorem g_WAYS (T : TX w K mg) : mg "WAYS" = some (.ref (He.ga K "WAYS")) := T.glo 35 rfl
theorem g_lived (T : TX w K mg) : mg "lived" = some (.ref (He.ga K "lived")) := T.glo 36 rfl
theorem g_turned (T : TX w K mg) : mg "turned" = some (.ref (He.ga K "turned")) := T.glo 37 rfl
theorem g_endings (T : TX w K mg) : mg "endings" = some (.ref (He.ga K "endings")) := T.glo 38 rfl
theorem g_look_both (T : TX w K mg) : mg "look_both" = some (.ref (He.ga K "look_both")) := T.glo 39 rfl
theorem g_Machine (T : TX w K mg) : mg "Machine" = some (.ref (He.ga K "Machine")) := T.glo 40 rfl
theorem g_weighed (T : TX w K mg) : mg "weighed" = some (.ref (He.ga K "weighed")) := T.glo 41 rfl
theorem g_chosen (T : TX w K mg) : mg "chosen" = some (.ref (He.ga K "chosen")) := T.glo 42 rfl
theorem g_Worth (T : TX w K mg) : mg "Worth" = some (.ref (He.ga K "Worth")) := T.glo 43 rfl
theorem g_look_shape (T : TX w K mg) : mg "look_shape" = some (.ref (He.ga K "look_shape")) := T.glo 44 rfl
theorem g_look_above (T : TX w K mg) : mg "look_above" = some (.ref (He.ga K "look_above")) := T.glo 45 rfl
theorem g_look_steps (T : TX w K mg) : mg "look_steps" = some (.ref (He.ga K "look_steps")) := T.glo 46 rfl
theorem g_Lattice (T : TX w K mg) : mg "Lattice" = some (.ref (He.ga K "Lattice")) := T.glo 47 rfl
theorem g_Lbox (T : TX w K mg) : mg "_law_box" = some (.ref (He.ga K "_law_box")) := T.glo 48 rfl
theorem g_Ltake (T : TX w K mg) : mg "_law_take" = some (.ref (He.ga K "_law_take")) := T.glo 49 rfl
theorem g_Lone (T : TX w K mg) : mg "_law_one" = some (.ref (He.ga K "_law_one")) := T.glo 50 rfl
theorem g_Lnear (T : TX w K mg) : mg "_law_near" = some (.ref (He.ga K "_law_near")) := T.glo 51 rfl
theorem g_Lcommon (T : TX w K mg) : mg "_law_common" = some (.ref (He.ga K "_law_common")) := T.glo 52 rfl
theorem g_Llow (T : TX w K mg) : mg "_law_low" = some (.ref (He.ga K "_law_low")) := T.glo 53 rfl
theorem g_Lsum (T : TX w K mg) : mg "_law_sum" = some (.ref (He.ga K "_law_sum")) := T.glo 54 rfl
theorem g_Lless_by (T : TX w K mg) : mg "_law_less_by" = some (.ref (He.ga K "_law_less_by")) := T.glo 55 rfl
theorem g_Lproduct (T : TX w K mg) : mg "_law_product" = some (.ref (He.ga K "_law_product")) := T.glo 56 rfl
theorem g_Lshare_of (T : TX w K mg) : mg "_law_share_of" = some (.ref (He.ga K "_law_share_of")) := T.glo 57 rfl
theorem g_Lunder (T : TX w K mg) : mg "_law_under" = some (.ref (He.ga K "_law_under")) := T.glo 58 rfl
theorem g_Lcoin (T : TX w K mg) : mg "_law_coin" = some (.ref (He.ga K "_law_coin")) := T.glo 59 rfl
theorem g_Labove (T : TX w K mg) : mg "_law_above" = some (.ref (He.ga K "_law_above")) := T.glo 60 rfl
theorem g_Lrows_between (T : TX w K mg) : mg "_law_rows_between" = some (.ref (He.ga K "_law_rows_between")) := T.glo 61 rfl
theorem g_Lsteps_between (T : TX w K mg) : mg "_law_steps_between" = some (.ref (He.ga K "_law_steps_between")) := T.glo 62 rfl
theorem g_Lfair (T : TX w K mg) : mg "_law_fair" = some (.ref (He.ga K "_law_fair")) := T.glo 63 rfl
theorem g_Lweb (T : TX w K mg) : mg "_law_web" = some (.ref (He.ga K "_law_web")) := T.glo 64 rfl
theorem g_Lvalue (T : TX w K mg) : mg "_law_value" = some (.ref (He.ga K "_law_value")) := T.glo 65 rfl
theorem g_Lname (T : TX w K mg) : mg "_law_name" = some (.ref (He.ga K "_law_name")) := T.glo 66 rfl
theorem g_Ldays (T : TX w K mg) : mg "_law_days" = some (.ref (He.ga K "_law_days")) := T.glo 67 rfl
theorem g_Lleaf (T : TX w K mg) : mg "_law_leaf" = some (.ref (He.ga K "_law_leaf")) := T.glo 68 rfl
theorem g_Lnote (T : TX w K mg) : mg "_law_note" = some (.ref (He.ga K "_law_note")) := T.glo 69 rfl
theorem g_law (T : TX w K mg) : mg "law" = some (.ref (He.ga K "law")) := T.glo 70 rfl
theorem b_len (T : TX w K mg) : mg "len" = none := T.free 71 rfl
theorem b_abs (T : TX w K mg) : mg "abs" = none := T.free 72 rfl
theorem b_sorted (T : TX w K mg) : mg "sorted" = none := T.free 73 rfl
theorem b_range (T : TX w K mg) : mg "range" = none := T.free 74 rfl
theorem b_enumerate (T : TX w K mg) : mg "enumerate" = none := T.free 75 rfl
theorem b_zip (T : TX w K mg) : mg "zip" = none := T.free 76 rfl
theorem b_all (T : TX w K mg) : mg "all" = none := T.free 77 rfl
theorem b_min (T : TX w K mg) : mg "min" = none := T.free 78 rfl
theorem b_list (T : TX w K mg) : mg "list" = none := T.free 79 rfl
theorem b_tuple (T : TX w K mg) : mg "tuple" = none := T.free 80 rfl
theorem b_set (T : TX w K mg) : mg "set" = none := T.free 81 rfl
theorem b_str (T : TX w K mg) : mg "str" = none := T.free 82 rfl
theorem b_reversed (T : TX w K mg) : mg "reversed" = none := T.free 83 rfl
theorem i_MOST_DATES (T : TX w K mg) : ∃ t, mg "MOST_DATES" = some (.int 7 t) := T.int 84 rfl
theorem i_MOST_NODES (T : TX w K mg) : ∃ t, mg "MOST_NODES" = some (.int 8 t) := T.int 85 rfl
theorem c_Machine (T : TX w K mg) : Cls K (He.ga K "Machine") := T.cls 86 rfl
theorem mk_Machine (T : TX w K mg) : Mk K (He.ga K "Machine") (He.ma K (He.ga K "Machine") "__init__") := T.mkr 87 rfl
theorem n_web (T : TX w K mg) : NoAttr K (He.ga K "Machine") "web" := T.noat 88 rfl
theorem n_thing (T : TX w K mg) : NoAttr K (He.ga K "Machine") "thing" := T.noat 89 rfl
theorem n_rows (T : TX w K mg) : NoAttr K (He.ga K "Machine") "rows" := T.noat 90 rfl
theorem n_kin (T : TX w K mg) : NoAttr K (He.ga K "Machine") "kin" := T.noat 91 rfl
theorem n_spots (T : TX w K mg) : NoAttr K (He.ga K "Machine") "spots" := T.noat 92 rfl
theorem m_M_len (T : TX w K mg) : Meth K (He.ga K "Machine") "__len__" (He.ma K (He.ga K "Machine") "__len__") := T.meth 93 rfl
theorem m_M_later (T : TX w K mg) : Meth K (He.ga K "Machine") "later" (He.ma K (He.ga K "Machine") "later") := T.meth 94 rfl
theorem m_M_stand (T : TX w K mg) : Meth K (He.ga K "Machine") "stand" (He.ma K (He.ga K "Machine") "stand") := T.meth 95 rfl
theorem m_M_at (T : TX w K mg) : Meth K (He.ga K "Machine") "at" (He.ma K (He.ga K "Machine") "at") := T.meth 96 rfl
theorem m_M_ahead (T : TX w K mg) : Meth K (He.ga K "Machine") "ahead" (He.ma K (He.ga K "Machine") "ahead") := T.meth 97 rfl
theorem c_Worth (T : TX w K mg) : Cls K (He.ga K "Worth") := T.cls 98 rfl
theorem mk_Worth (T : TX w K mg) : Mk K (He.ga K "Worth") (He.ma K (He.ga K "Worth") "__init__") := T.mkr 99 rfl
theorem n_mill (T : TX w K mg) : NoAttr K (He.ga K "Worth") "mill" := T.noat 100 rfl
theorem n_sums (T : TX w K mg) : NoAttr K (He.ga K "Worth") "sums" := T.noat 101 rfl
theorem m_W_reckoned (T : TX w K mg) : Meth K (He.ga K "Worth") "reckoned" (He.ma K (He.ga K "Worth") "reckoned") := T.meth 102 rfl
theorem m_W_worth (T : TX w K mg) : Meth K (He.ga K "Worth") "worth" (He.ma K (He.ga K "Worth") "worth") := T.meth 103 rfl
theorem m_W_plan (T : TX w K mg) : Meth K (He.ga K "Worth") "plan" (He.ma K (He.ga K "Worth") "plan") := T.meth 104 rfl
theorem m_W_region (T : TX w K mg) : Meth K (He.ga K "Worth") "region" (He.ma K (He.ga K "Worth") "region") := T.meth 105 rfl
theorem c_Lattice (T : TX w K mg) : Cls K (He.ga K "Lattice") := T.cls 106 rfl
theorem mk_Lattice (T : TX w K mg) : Mk K (He.ga K "Lattice") (He.ma K (He.ga K "Lattice") "__init__") := T.mkr 107 rfl
theorem n_prices (T : TX w K mg) : NoAttr K (He.ga K "Lattice") "prices" := T.noat 108 rfl
theorem n_rates (T : TX w K mg) : NoAttr K (He.ga K "Lattice") "rates" := T.noat 109 rfl
theorem n_steps (T : TX w K mg) : NoAttr K (He.ga K "Lattice") "steps" := T.noat 110 rfl
theorem m_L_last (T : TX w K mg) : Meth K (He.ga K "Lattice") "last" (He.ma K (He.ga K "Lattice") "last") := T.meth 111 rfl
theorem m_L_many (T : TX w K mg) : Meth K (He.ga K "Lattice") "many" (He.ma K (He.ga K "Lattice") "many") := T.meth 112 rfl
theorem m_L_look_node (T : TX w K mg) : Meth K (He.ga K "Lattice") "look_node" (He.ma K (He.ga K "Lattice") "look_node") := T.meth 113 rfl
theorem m_L_price (T : TX w K mg) : Meth K (He.ga K "Lattice") "price" (He.ma K (He.ga K "Lattice") "price") := T.meth 114 rfl
theorem m_L_rate (T : TX w K mg) : Meth K (He.ga K "Lattice") "rate" (He.ma K (He.ga K "Lattice") "rate") := T.meth 115 rfl
theorem m_L_step (T : TX w K mg) : Meth K (He.ga K "Lattice") "step" (He.ma K (He.ga K "Lattice") "step") := T.meth 116 rfl
theorem m_L_sides (T : TX w K mg) : Meth K (He.ga K "Lattice") "sides" (He.ma K (He.ga K "Lattice") "sides") := T.meth 117 rfl
theorem m_L_share (T : TX w K mg) : Meth K (He.ga K "Lattice") "share" (He.ma K (He.ga K "Lattice") "share") := T.meth 118 rfl
theorem m_L_win (T : TX w K mg) : Meth K (He.ga K "Lattice") "win" (He.ma K (He.ga K "Lattice") "win") := T.meth 119 rfl
theorem f_common (T : TX w K mg) : ∃ fd, FunD K "common" "common" (defArgs s_common) (defBody s_common) (defScope s_common) ((d_common).dvs K) ((d_common).kws K) (He.fAd K ("common", none)) fd := T.fn 0 (d := d_common) rfl
theorem f_lowest (T : TX w K mg) : ∃ fd, FunD K "lowest" "lowest" (defArgs s_lowest) (defBody s_lowest) (defScope s_lowest) ((d_lowest).dvs K) ((d_lowest).kws K) (He.fAd K ("lowest", none)) fd := T.fn 1 (d := d_lowest) rfl
theorem f_plus (T : TX w K mg) : ∃ fd, FunD K "plus" "plus" (defArgs s_plus) (defBody s_plus) (defScope s_plus) ((d_plus).dvs K) ((d_plus).kws K) (He.fAd K ("plus", none)) fd := T.fn 2 (d := d_plus) rfl
theorem f_minus (T : TX w K mg) : ∃ fd, FunD K "minus" "minus" (defArgs s_minus) (defBody s_minus) (defScope s_minus) ((d_minus).dvs K) ((d_minus).kws K) (He.fAd K ("minus", none)) fd := T.fn 3 (d := d_minus) rfl
theorem f_times (T : TX w K mg) : ∃ fd, FunD K "times" "times" (defArgs s_times) (defBody s_times) (defScope s_times) ((d_times).dvs K) ((d_times).kws K) (He.fAd K ("times", none)) fd := T.fn 4 (d := d_times) rfl
theorem f_by (T : TX w K mg) : ∃ fd, FunD K "by" "by" (defArgs s_by) (defBody s_by) (defScope s_by) ((d_by).dvs K) ((d_by).kws K) (He.fAd K ("by", none)) fd := T.fn 5 (d := d_by) rfl
theorem f_less (T : TX w K mg) : ∃ fd, FunD K "less" "less" (defArgs s_less) (defBody s_less) (defScope s_less) ((d_less).dvs K) ((d_less).kws K) (He.fAd K ("less", none)) fd := T.fn 6 (d := d_less) rfl
theorem f_amount_text (T : TX w K mg) : ∃ fd, FunD K "amount_text" "amount_text" (defArgs s_amount_text) (defBody s_amount_text) (defScope s_amount_text) ((d_amount_text).dvs K) ((d_amount_text).kws K) (He.fAd K ("amount_text", none)) fd := T.fn 7 (d := d_amount_text) rfl
theorem f_inner (T : TX w K mg) : ∃ fd, FunD K "inner" "inner" (defArgs s_inner) (defBody s_inner) (defScope s_inner) ((d_inner).dvs K) ((d_inner).kws K) (He.fAd K ("inner", none)) fd := T.fn 8 (d := d_inner) rfl
theorem f_uses (T : TX w K mg) : ∃ fd, FunD K "uses" "uses" (defArgs s_uses) (defBody s_uses) (defScope s_uses) ((d_uses).dvs K) ((d_uses).kws K) (He.fAd K ("uses", none)) fd := T.fn 9 (d := d_uses) rfl
theorem f_is_whole (T : TX w K mg) : ∃ fd, FunD K "is_whole" "is_whole" (defArgs s_is_whole) (defBody s_is_whole) (defScope s_is_whole) ((d_is_whole).dvs K) ((d_is_whole).kws K) (He.fAd K ("is_whole", none)) fd := T.fn 10 (d := d_is_whole) rfl
theorem f_better (T : TX w K mg) : ∃ fd, FunD K "better" "better" (defArgs s_better) (defBody s_better) (defScope s_better) ((d_better).dvs K) ((d_better).kws K) (He.fAd K ("better", none)) fd := T.fn 11 (d := d_better) rfl
theorem f_worse (T : TX w K mg) : ∃ fd, FunD K "worse" "worse" (defArgs s_worse) (defBody s_worse) (defScope s_worse) ((d_worse).dvs K) ((d_worse).kws K) (He.fAd K ("worse", none)) fd := T.fn 12 (d := d_worse) rfl
theorem f_value_at (T : TX w K mg) : ∃ fd, FunD K "value_at" "value_at" (defArgs s_value_at) (defBody s_value_at) (defScope s_value_at) ((d_value_at).dvs K) ((d_value_at).kws K) (He.fAd K ("value_at", none)) fd := T.fn 13 (d := d_value_at) rfl
theorem f_thing_text (T : TX w K mg) : ∃ fd, FunD K "thing_text" "thing_text" (defArgs s_thing_text) (defBody s_thing_text) (defScope s_thing_text) ((d_thing_text).dvs K) ((d_thing_text).kws K) (He.fAd K ("thing_text", none)) fd := T.fn 14 (d := d_thing_text) rfl
theorem f_things_text (T : TX w K mg) : ∃ fd, FunD K "things_text" "things_text" (defArgs s_things_text) (defBody s_things_text) (defScope s_things_text) ((d_things_text).dvs K) ((d_things_text).kws K) (He.fAd K ("things_text", none)) fd := T.fn 15 (d := d_things_text) rfl
theorem f_value_text (T : TX w K mg) : ∃ fd, FunD K "value_text" "value_text" (defArgs s_value_text) (defBody s_value_text) (defScope s_value_text) ((d_value_text).dvs K) ((d_value_text).kws K) (He.fAd K ("value_text", none)) fd := T.fn 16 (d := d_value_text) rfl
theorem f_note_text (T : TX w K mg) : ∃ fd, FunD K "note_text" "note_text" (defArgs s_note_text) (defBody s_note_text) (defScope s_note_text) ((d_note_text).dvs K) ((d_note_text).kws K) (He.fAd K ("note_text", none)) fd := T.fn 17 (d := d_note_text) rfl
theorem f_both_of (T : TX w K mg) : ∃ fd, FunD K "both_of" "both_of" (defArgs s_both_of) (defBody s_both_of) (defScope s_both_of) ((d_both_of).dvs K) ((d_both_of).kws K) (He.fAd K ("both_of", none)) fd := T.fn 18 (d := d_both_of) rfl
theorem f_turned_owner (T : TX w K mg) : ∃ fd, FunD K "turned_owner" "turned_owner" (defArgs s_turned_owner) (defBody s_turned_owner) (defScope s_turned_owner) ((d_turned_owner).dvs K) ((d_turned_owner).kws K) (He.fAd K ("turned_owner", none)) fd := T.fn 19 (d := d_turned_owner) rfl
theorem f_of_none (T : TX w K mg) : ∃ fd, FunD K "of_none" "of_none" (defArgs s_of_none) (defBody s_of_none) (defScope s_of_none) ((d_of_none).dvs K) ((d_of_none).kws K) (He.fAd K ("of_none", none)) fd := T.fn 20 (d := d_of_none) rfl
theorem f_of_pay (T : TX w K mg) : ∃ fd, FunD K "of_pay" "of_pay" (defArgs s_of_pay) (defBody s_of_pay) (defScope s_of_pay) ((d_of_pay).dvs K) ((d_of_pay).kws K) (He.fAd K ("of_pay", none)) fd := T.fn 21 (d := d_of_pay) rfl
theorem f_of_now (T : TX w K mg) : ∃ fd, FunD K "of_now" "of_now" (defArgs s_of_now) (defBody s_of_now) (defScope s_of_now) ((d_of_now).dvs K) ((d_of_now).kws K) (He.fAd K ("of_now", none)) fd := T.fn 22 (d := d_of_now) rfl
theorem f_of_both (T : TX w K mg) : ∃ fd, FunD K "of_both" "of_both" (defArgs s_of_both) (defBody s_of_both) (defScope s_of_both) ((d_of_both).dvs K) ((d_of_both).kws K) (He.fAd K ("of_both", none)) fd := T.fn 23 (d := d_of_both) rfl
theorem f_of_times (T : TX w K mg) : ∃ fd, FunD K "of_times" "of_times" (defArgs s_of_times) (defBody s_of_times) (defScope s_of_times) ((d_of_times).dvs K) ((d_of_times).kws K) (He.fAd K ("of_times", none)) fd := T.fn 24 (d := d_of_times) rfl
theorem f_of_turn (T : TX w K mg) : ∃ fd, FunD K "of_turn" "of_turn" (defArgs s_of_turn) (defBody s_of_turn) (defScope s_of_turn) ((d_of_turn).dvs K) ((d_of_turn).kws K) (He.fAd K ("of_turn", none)) fd := T.fn 25 (d := d_of_turn) rfl
theorem f_of_till (T : TX w K mg) : ∃ fd, FunD K "of_till" "of_till" (defArgs s_of_till) (defBody s_of_till) (defScope s_of_till) ((d_of_till).dvs K) ((d_of_till).kws K) (He.fAd K ("of_till", none)) fd := T.fn 26 (d := d_of_till) rfl
theorem f_of_may (T : TX w K mg) : ∃ fd, FunD K "of_may" "of_may" (defArgs s_of_may) (defBody s_of_may) (defScope s_of_may) ((d_of_may).dvs K) ((d_of_may).kws K) (He.fAd K ("of_may", none)) fd := T.fn 27 (d := d_of_may) rfl
theorem f_of_seen (T : TX w K mg) : ∃ fd, FunD K "of_seen" "of_seen" (defArgs s_of_seen) (defBody s_of_seen) (defScope s_of_seen) ((d_of_seen).dvs K) ((d_of_seen).kws K) (He.fAd K ("of_seen", none)) fd := T.fn 28 (d := d_of_seen) rfl
theorem f_lived (T : TX w K mg) : ∃ fd, FunD K "lived" "lived" (defArgs s_lived) (defBody s_lived) (defScope s_lived) ((d_lived).dvs K) ((d_lived).kws K) (He.fAd K ("lived", none)) fd := T.fn 29 (d := d_lived) rfl
theorem f_turned (T : TX w K mg) : ∃ fd, FunD K "turned" "turned" (defArgs s_turned) (defBody s_turned) (defScope s_turned) ((d_turned).dvs K) ((d_turned).kws K) (He.fAd K ("turned", none)) fd := T.fn 30 (d := d_turned) rfl
theorem f_endings (T : TX w K mg) : ∃ fd, FunD K "endings" "endings" (defArgs s_endings) (defBody s_endings) (defScope s_endings) ((d_endings).dvs K) ((d_endings).kws K) (He.fAd K ("endings", none)) fd := T.fn 31 (d := d_endings) rfl
theorem f_look_both (T : TX w K mg) : ∃ fd, FunD K "look_both" "look_both" (defArgs s_look_both) (defBody s_look_both) (defScope s_look_both) ((d_look_both).dvs K) ((d_look_both).kws K) (He.fAd K ("look_both", none)) fd := T.fn 32 (d := d_look_both) rfl
theorem f_M_init (T : TX w K mg) : ∃ fd, FunD K "__init__" "Machine.__init__" (defArgs s_M_init) (defBody s_M_init) (defScope s_M_init) ((d_M_init).dvs K) ((d_M_init).kws K) (He.fAd K ("Machine", some "__init__")) fd := T.fn 33 (d := d_M_init) rfl
theorem f_M_len (T : TX w K mg) : ∃ fd, FunD K "__len__" "Machine.__len__" (defArgs s_M_len) (defBody s_M_len) (defScope s_M_len) ((d_M_len).dvs K) ((d_M_len).kws K) (He.fAd K ("Machine", some "__len__")) fd := T.fn 34 (d := d_M_len) rfl
theorem f_M_later (T : TX w K mg) : ∃ fd, FunD K "later" "Machine.later" (defArgs s_M_later) (defBody s_M_later) (defScope s_M_later) ((d_M_later).dvs K) ((d_M_later).kws K) (He.fAd K ("Machine", some "later")) fd := T.fn 35 (d := d_M_later) rfl
theorem f_M_stand (T : TX w K mg) : ∃ fd, FunD K "stand" "Machine.stand" (defArgs s_M_stand) (defBody s_M_stand) (defScope s_M_stand) ((d_M_stand).dvs K) ((d_M_stand).kws K) (He.fAd K ("Machine", some "stand")) fd := T.fn 36 (d := d_M_stand) rfl
theorem f_M_at (T : TX w K mg) : ∃ fd, FunD K "at" "Machine.at" (defArgs s_M_at) (defBody s_M_at) (defScope s_M_at) ((d_M_at).dvs K) ((d_M_at).kws K) (He.fAd K ("Machine", some "at")) fd := T.fn 37 (d := d_M_at) rfl
theorem f_M_ahead (T : TX w K mg) : ∃ fd, FunD K "ahead" "Machine.ahead" (defArgs s_M_ahead) (defBody s_M_ahead) (defScope s_M_ahead) ((d_M_ahead).dvs K) ((d_M_ahead).kws K) (He.fAd K ("Machine", some "ahead")) fd := T.fn 38 (d := d_M_ahead) rfl
theorem f_weighed (T : TX w K mg) : ∃ fd, FunD K "weighed" "weighed" (defArgs s_weighed) (defBody s_weighed) (defScope s_weighed) ((d_weighed).dvs K) ((d_weighed).kws K) (He.fAd K ("weighed", none)) fd := T.fn 39 (d := d_weighed) rfl
theorem f_chosen (T : TX w K mg) : ∃ fd, FunD K "chosen" "chosen" (defArgs s_chosen) (defBody s_chosen) (defScope s_chosen) ((d_chosen).dvs K) ((d_chosen).kws K) (He.fAd K ("chosen", none)) fd := T.fn 40 (d := d_chosen) rfl
theorem f_W_init (T : TX w K mg) : ∃ fd, FunD K "__init__" "Worth.__init__" (defArgs s_W_init) (defBody s_W_init) (defScope s_W_init) ((d_W_init).dvs K) ((d_W_init).kws K) (He.fAd K ("Worth", some "__init__")) fd := T.fn 41 (d := d_W_init) rfl
theorem f_W_reckoned (T : TX w K mg) : ∃ fd, FunD K "reckoned" "Worth.reckoned" (defArgs s_W_reckoned) (defBody s_W_reckoned) (defScope s_W_reckoned) ((d_W_reckoned).dvs K) ((d_W_reckoned).kws K) (He.fAd K ("Worth", some "reckoned")) fd := T.fn 42 (d := d_W_reckoned) rfl
theorem f_W_worth (T : TX w K mg) : ∃ fd, FunD K "worth" "Worth.worth" (defArgs s_W_worth) (defBody s_W_worth) (defScope s_W_worth) ((d_W_worth).dvs K) ((d_W_worth).kws K) (He.fAd K ("Worth", some "worth")) fd := T.fn 43 (d := d_W_worth) rfl
theorem f_W_plan (T : TX w K mg) : ∃ fd, FunD K "plan" "Worth.plan" (defArgs s_W_plan) (defBody s_W_plan) (defScope s_W_plan) ((d_W_plan).dvs K) ((d_W_plan).kws K) (He.fAd K ("Worth", some "plan")) fd := T.fn 44 (d := d_W_plan) rfl
theorem f_W_region (T : TX w K mg) : ∃ fd, FunD K "region" "Worth.region" (defArgs s_W_region) (defBody s_W_region) (defScope s_W_region) ((d_W_region).dvs K) ((d_W_region).kws K) (He.fAd K ("Worth", some "region")) fd := T.fn 45 (d := d_W_region) rfl
theorem f_look_shape (T : TX w K mg) : ∃ fd, FunD K "look_shape" "look_shape" (defArgs s_look_shape) (defBody s_look_shape) (defScope s_look_shape) ((d_look_shape).dvs K) ((d_look_shape).kws K) (He.fAd K ("look_shape", none)) fd := T.fn 46 (d := d_look_shape) rfl
theorem f_look_above (T : TX w K mg) : ∃ fd, FunD K "look_above" "look_above" (defArgs s_look_above) (defBody s_look_above) (defScope s_look_above) ((d_look_above).dvs K) ((d_look_above).kws K) (He.fAd K ("look_above", none)) fd := T.fn 47 (d := d_look_above) rfl
theorem f_look_steps (T : TX w K mg) : ∃ fd, FunD K "look_steps" "look_steps" (defArgs s_look_steps) (defBody s_look_steps) (defScope s_look_steps) ((d_look_steps).dvs K) ((d_look_steps).kws K) (He.fAd K ("look_steps", none)) fd := T.fn 48 (d := d_look_steps) rfl
theorem f_L_init (T : TX w K mg) : ∃ fd, FunD K "__init__" "Lattice.__init__" (defArgs s_L_init) (defBody s_L_init) (defScope s_L_init) ((d_L_init).dvs K) ((d_L_init).kws K) (He.fAd K ("Lattice", some "__init__")) fd := T.fn 49 (d := d_L_init) rfl
theorem f_L_last (T : TX w K mg) : ∃ fd, FunD K "last" "Lattice.last" (defArgs s_L_last) (defBody s_L_last) (defScope s_L_last) ((d_L_last).dvs K) ((d_L_last).kws K) (He.fAd K ("Lattice", some "last")) fd := T.fn 50 (d := d_L_last) rfl
theorem f_L_many (T : TX w K mg) : ∃ fd, FunD K "many" "Lattice.many" (defArgs s_L_many) (defBody s_L_many) (defScope s_L_many) ((d_L_many).dvs K) ((d_L_many).kws K) (He.fAd K ("Lattice", some "many")) fd := T.fn 51 (d := d_L_many) rfl
theorem f_L_look_node (T : TX w K mg) : ∃ fd, FunD K "look_node" "Lattice.look_node" (defArgs s_L_look_node) (defBody s_L_look_node) (defScope s_L_look_node) ((d_L_look_node).dvs K) ((d_L_look_node).kws K) (He.fAd K ("Lattice", some "look_node")) fd := T.fn 52 (d := d_L_look_node) rfl
theorem f_L_price (T : TX w K mg) : ∃ fd, FunD K "price" "Lattice.price" (defArgs s_L_price) (defBody s_L_price) (defScope s_L_price) ((d_L_price).dvs K) ((d_L_price).kws K) (He.fAd K ("Lattice", some "price")) fd := T.fn 53 (d := d_L_price) rfl
theorem f_L_rate (T : TX w K mg) : ∃ fd, FunD K "rate" "Lattice.rate" (defArgs s_L_rate) (defBody s_L_rate) (defScope s_L_rate) ((d_L_rate).dvs K) ((d_L_rate).kws K) (He.fAd K ("Lattice", some "rate")) fd := T.fn 54 (d := d_L_rate) rfl
theorem f_L_step (T : TX w K mg) : ∃ fd, FunD K "step" "Lattice.step" (defArgs s_L_step) (defBody s_L_step) (defScope s_L_step) ((d_L_step).dvs K) ((d_L_step).kws K) (He.fAd K ("Lattice", some "step")) fd := T.fn 55 (d := d_L_step) rfl
theorem f_L_sides (T : TX w K mg) : ∃ fd, FunD K "sides" "Lattice.sides" (defArgs s_L_sides) (defBody s_L_sides) (defScope s_L_sides) ((d_L_sides).dvs K) ((d_L_sides).kws K) (He.fAd K ("Lattice", some "sides")) fd := T.fn 56 (d := d_L_sides) rfl
theorem f_L_share (T : TX w K mg) : ∃ fd, FunD K "share" "Lattice.share" (defArgs s_L_share) (defBody s_L_share) (defScope s_L_share) ((d_L_share).dvs K) ((d_L_share).kws K) (He.fAd K ("Lattice", some "share")) fd := T.fn 57 (d := d_L_share) rfl
theorem f_L_win (T : TX w K mg) : ∃ fd, FunD K "win" "Lattice.win" (defArgs s_L_win) (defBody s_L_win) (defScope s_L_win) ((d_L_win).dvs K) ((d_L_win).kws K) (He.fAd K ("Lattice", some "win")) fd := T.fn 58 (d := d_L_win) rfl
theorem f_Lbox (T : TX w K mg) : ∃ fd, FunD K "_law_box" "_law_box" (defArgs s_Lbox) (defBody s_Lbox) (defScope s_Lbox) ((d_Lbox).dvs K) ((d_Lbox).kws K) (He.fAd K ("_law_box", none)) fd := T.fn 59 (d := d_Lbox) rfl
theorem f_Ltake (T : TX w K mg) : ∃ fd, FunD K "_law_take" "_law_take" (defArgs s_Ltake) (defBody s_Ltake) (defScope s_Ltake) ((d_Ltake).dvs K) ((d_Ltake).kws K) (He.fAd K ("_law_take", none)) fd := T.fn 60 (d := d_Ltake) rfl
theorem f_Lone (T : TX w K mg) : ∃ fd, FunD K "_law_one" "_law_one" (defArgs s_Lone) (defBody s_Lone) (defScope s_Lone) ((d_Lone).dvs K) ((d_Lone).kws K) (He.fAd K ("_law_one", none)) fd := T.fn 61 (d := d_Lone) rfl
theorem f_Lnear (T : TX w K mg) : ∃ fd, FunD K "_law_near" "_law_near" (defArgs s_Lnear) (defBody s_Lnear) (defScope s_Lnear) ((d_Lnear).dvs K) ((d_Lnear).kws K) (He.fAd K ("_law_near", none)) fd := T.fn 62 (d := d_Lnear) rfl
theorem f_Lcommon (T : TX w K mg) : ∃ fd, FunD K "_law_common" "_law_common" (defArgs s_Lcommon) (defBody s_Lcommon) (defScope s_Lcommon) ((d_Lcommon).dvs K) ((d_Lcommon).kws K) (He.fAd K ("_law_common", none)) fd := T.fn 63 (d := d_Lcommon) rfl
theorem f_Llow (T : TX w K mg) : ∃ fd, FunD K "_law_low" "_law_low" (defArgs s_Llow) (defBody s_Llow) (defScope s_Llow) ((d_Llow).dvs K) ((d_Llow).kws K) (He.fAd K ("_law_low", none)) fd := T.fn 64 (d := d_Llow) rfl
theorem f_Lsum (T : TX w K mg) : ∃ fd, FunD K "_law_sum" "_law_sum" (defArgs s_Lsum) (defBody s_Lsum) (defScope s_Lsum) ((d_Lsum).dvs K) ((d_Lsum).kws K) (He.fAd K ("_law_sum", none)) fd := T.fn 65 (d := d_Lsum) rfl
theorem f_Lless_by (T : TX w K mg) : ∃ fd, FunD K "_law_less_by" "_law_less_by" (defArgs s_Lless_by) (defBody s_Lless_by) (defScope s_Lless_by) ((d_Lless_by).dvs K) ((d_Lless_by).kws K) (He.fAd K ("_law_less_by", none)) fd := T.fn 66 (d := d_Lless_by) rfl
theorem f_Lproduct (T : TX w K mg) : ∃ fd, FunD K "_law_product" "_law_product" (defArgs s_Lproduct) (defBody s_Lproduct) (defScope s_Lproduct) ((d_Lproduct).dvs K) ((d_Lproduct).kws K) (He.fAd K ("_law_product", none)) fd := T.fn 67 (d := d_Lproduct) rfl
theorem f_Lshare_of (T : TX w K mg) : ∃ fd, FunD K "_law_share_of" "_law_share_of" (defArgs s_Lshare_of) (defBody s_Lshare_of) (defScope s_Lshare_of) ((d_Lshare_of).dvs K) ((d_Lshare_of).kws K) (He.fAd K ("_law_share_of", none)) fd := T.fn 68 (d := d_Lshare_of) rfl
theorem f_Lunder (T : TX w K mg) : ∃ fd, FunD K "_law_under" "_law_under" (defArgs s_Lunder) (defBody s_Lunder) (defScope s_Lunder) ((d_Lunder).dvs K) ((d_Lunder).kws K) (He.fAd K ("_law_under", none)) fd := T.fn 69 (d := d_Lunder) rfl
theorem f_Lcoin (T : TX w K mg) : ∃ fd, FunD K "_law_coin" "_law_coin" (defArgs s_Lcoin) (defBody s_Lcoin) (defScope s_Lcoin) ((d_Lcoin).dvs K) ((d_Lcoin).kws K) (He.fAd K ("_law_coin", none)) fd := T.fn 70 (d := d_Lcoin) rfl
theorem f_Labove (T : TX w K mg) : ∃ fd, FunD K "_law_above" "_law_above" (defArgs s_Labove) (defBody s_Labove) (defScope s_Labove) ((d_Labove).dvs K) ((d_Labove).kws K) (He.fAd K ("_law_above", none)) fd := T.fn 71 (d := d_Labove) rfl
theorem f_Lrows_between (T : TX w K mg) : ∃ fd, FunD K "_law_rows_between" "_law_rows_between" (defArgs s_Lrows_between) (defBody s_Lrows_between) (defScope s_Lrows_between) ((d_Lrows_between).dvs K) ((d_Lrows_between).kws K) (He.fAd K ("_law_rows_between", none)) fd := T.fn 72 (d := d_Lrows_between) rfl
theorem f_Lsteps_between (T : TX w K mg) : ∃ fd, FunD K "_law_steps_between" "_law_steps_between" (defArgs s_Lsteps_between) (defBody s_Lsteps_between) (defScope s_Lsteps_between) ((d_Lsteps_between).dvs K) ((d_Lsteps_between).kws K) (He.fAd K ("_law_steps_between", none)) fd := T.fn 73 (d := d_Lsteps_between) rfl
theorem f_Lfair (T : TX w K mg) : ∃ fd, FunD K "_law_fair" "_law_fair" (defArgs s_Lfair) (defBody s_Lfair) (defScope s_Lfair) ((d_Lfair).dvs K) ((d_Lfair).kws K) (He.fAd K ("_law_fair", none)) fd := T.fn 74 (d := d_Lfair) rfl
theorem f_Lweb (T : TX w K mg) : ∃ fd, FunD K "_law_web" "_law_web" (defArgs s_Lweb) (defBody s_Lweb) (defScope s_Lweb) ((d_Lweb).dvs K) ((d_Lweb).kws K) (He.fAd K ("_law_web", none)) fd := T.fn 75 (d := d_Lweb) rfl
theorem f_Lvalue (T : TX w K mg) : ∃ fd, FunD K "_law_value" "_law_value" (defArgs s_Lvalue) (defBody s_Lvalue) (defScope s_Lvalue) ((d_Lvalue).dvs K) ((d_Lvalue).kws K) (He.fAd K ("_law_value", none)) fd := T.fn 76 (d := d_Lvalue) rfl
theorem f_Lname (T : TX w K mg) : ∃ fd, FunD K "_law_name" "_law_name" (defArgs s_Lname) (defBody s_Lname) (defScope s_Lname) ((d_Lname).dvs K) ((d_Lname).kws K) (He.fAd K ("_law_name", none)) fd := T.fn 77 (d := d_Lname) rfl
theorem f_Ldays (T : TX w K mg) : ∃ fd, FunD K "_law_days" "_law_days" (defArgs s_Ldays) (defBody s_Ldays) (defScope s_Ldays) ((d_Ldays).dvs K) ((d_Ldays).kws K) (He.fAd K ("_law_days", none)) fd := T.fn 78 (d := d_Ldays) rfl
theorem f_Lleaf (T : TX w K mg) : ∃ fd, FunD K "_law_leaf" "_law_leaf" (defArgs s_Lleaf) (defBody s_Lleaf) (defScope s_Lleaf) ((d_Lleaf).dvs K) ((d_Lleaf).kws K) (He.fAd K ("_law_leaf", none)) fd := T.fn 79 (d := d_Lleaf) rfl
theorem f_Lnote (T : TX w K mg) : ∃ fd, FunD K "_law_note" "_law_note" (defArgs s_Lnote) (defBody s_Lnote) (defScope s_Lnote) ((d_Lnote).dvs K) ((d_Lnote).kws K) (He.fAd K ("_law_note", none)) fd := T.fn 80 (d := d_Lnote) rfl
theorem f_law (T : TX w K mg) : ∃ fd, FunD K "law" "law" (defArgs s_law) (defBody s_law) (defScope s_law) ((d_law).dvs K) ((d_law).kws K) (He.fAd K ("law", none)) fd := T.fn 81 (d := d_law) rfl
end
end SL
set_option maxHeartbeats 0

namespace SLH
open SL PySem PySem.Spec PyProof.Rows L2
/-! the head: where the top's things stand (found by a native run), the run in the kernel -/
abbrev R : PySem.W.OpenRow := PySem.W.OpenLaw.row PySem.Challenge.rw_strikeloom_k34_whole_rights_help_their_o
def asL : List Addr := ([3, 200, 201, 208, 215, 222, 229, 236, 243, 250, 257, 258, 259, 260, 265, 270, 277, 284, 291, 292, 299, 306, 311, 318, 325, 332, 339, 346, 353, 360, 367, 374, 381, 388, 395, 402, 403, 410, 419, 426, 431, 513, 524, 531, 617, 628, 635, 642, 738, 749, 756, 763, 770, 777, 784, 791, 798, 805, 812, 819, 826, 833, 840, 845, 852, 859, 866, 873, 880, 887, 894, 901, 207, 214, 221, 228, 235, 242, 249, 256, 264, 269, 276, 283, 290, 298, 305, 310, 317, 324, 331, 338, 345, 352, 359, 366, 373, 380, 387, 394, 401, 409, 418, 412, 425, 430, 512, 523, 530, 616, 627, 634, 641, 737, 748, 755, 762, 769, 776, 783, 790, 797, 804, 811, 818, 825, 832, 839, 844, 851, 858, 865, 872, 879, 886, 893, 900, 443, 450, 457, 485, 494, 503, 545, 559, 567, 587, 614, 654, 678, 685, 693, 700, 707, 714, 721, 728, 735, 442, 449, 456, 484, 493, 487, 502, 496, 544, 558, 566, 560, 586, 579, 580, 613, 653, 677, 684, 692, 686, 699, 706, 713, 720, 727, 734, 578] : List Nat)
def obsL (g : Addr → Option Obj) : He.AlT × Bool := (He.obsT faL fnL tsL (He.frT g asL), exB (He.frT g asL))
def hkL : PySem.W.Hook where
  α := He.AlT × Bool
  obs := fun s => obsL s.heap.get?
  val := fun w => (He.valT fnL tsL w, true)
  says := fun w h => ∃ K : PySem.W.Frag, K.In h ∧ He.SaysT faL fnL tsL w K ∧ exB K = true
  of := fun w s e => ⟨_, He.frT_in, congrArg (fun z : He.AlT × Bool => z.1) e, congrArg (fun z : He.AlT × Bool => z.2) e⟩
  keeps := fun _ _ _ ⟨K, hK, c⟩ k => ⟨K, PySem.W.Frag.In.keeps hK k, c⟩
def ob (s : PySem.W.SharedT) : He.AlT × Bool := obsL (HandSHeadRun.getT s)
theorem ob_eq (s : PySem.W.SharedT) : ob s = hkL.obs s.abs := by
  have e : HandSHeadRun.getT s = s.abs.heap.get? := funext (HandSHeadRun.getT_eq s)
  show obsL (HandSHeadRun.getT s) = obsL s.abs.heap.get?
  rw [e]
noncomputable abbrev endW (w : World) (os : OsState) : Option PySem.W.SharedT := HandSHeadRun.endF (HandSHeadRun.stepQ (HandSHeadRun.denQ HandSHeadRun.tabQ) R.prog w) 9000 R.prog w os
theorem map3 {α β γ δ : Type} {x : Option α} {f : α → β} {g : α → γ} {k : α → δ} {a : β} {b : γ} {c : δ} (h1 : x.map f = some a) (h2 : x.map g = some b) (h3 : x.map k = some c) : x.map (fun s => (f s, g s, k s)) = some (a, b, c) := by
  cases x with
  | none => cases h1
  | some s => exact congrArg some (Prod.ext (Option.some.inj h1) (Prod.ext (Option.some.inj h2) (Option.some.inj h3)))
theorem run1f (w : World) (os : OsState) : (endW (w.withFollow "special-get-raises" false) os).map (fun s => HandSHeadRun.looksF R.prog (PySem.W.boot_heap (w.withFollow "special-get-raises" false).params) s.abs) = some true := by
  kernel_rfl
theorem run1t (w : World) (os : OsState) : (endW (w.withFollow "special-get-raises" true) os).map (fun s => HandSHeadRun.looksF R.prog (PySem.W.boot_heap (w.withFollow "special-get-raises" true).params) s.abs) = some true := by
  kernel_rfl
theorem run2f (w : World) (os : OsState) : (endW (w.withFollow "special-get-raises" false) os).map (fun s => HandSHeadRun.seenQ (PySem.W.view R.prog [lawAt]) looseL (importedModules R.prog.main.body) (fun s => PySem.W.xlAt (PySem.W.view R.prog [lawAt]) [] s && PySem.W.recOk R.toRowW.records s) s.abs) = some (PySem.W.openGood (PySem.W.view R.prog [lawAt]) looseL) := by
  kernel_rfl
theorem run2t (w : World) (os : OsState) : (endW (w.withFollow "special-get-raises" true) os).map (fun s => HandSHeadRun.seenQ (PySem.W.view R.prog [lawAt]) looseL (importedModules R.prog.main.body) (fun s => PySem.W.xlAt (PySem.W.view R.prog [lawAt]) [] s && PySem.W.recOk R.toRowW.records s) s.abs) = some (PySem.W.openGood (PySem.W.view R.prog [lawAt]) looseL) := by
  kernel_rfl
theorem run3f (w : World) (os : OsState) : (endW (w.withFollow "special-get-raises" false) os).map ob = some (hkL.val (w.withFollow "special-get-raises" false)) := by
  kernel_rfl
theorem run3t (w : World) (os : OsState) : (endW (w.withFollow "special-get-raises" true) os).map ob = some (hkL.val (w.withFollow "special-get-raises" true)) := by
  kernel_rfl
theorem run (w : World) : HandSHeadRun.RunEq R (PySem.W.view R.prog [lawAt]) hkL ob 9000 looseL w :=
  PySem.W.byRow2 "special-get-raises" (fun w os => map3 (run1f w os) (run2f w os) (run3f w os)) (fun w os => map3 (run1t w os) (run2t w os) (run3t w os)) w
end SLH
set_option maxHeartbeats 4000000
namespace SL
open PySem PySem.Spec PyProof.Rows L2
/-! a def's promise by positional values; calls by it -/
def Fn (w : World) (K : PySem.W.Frag) (mg : Str → Option Value) (base : Heap) (k : Nat) (f : Addr) (sp : Sp) : Prop := FnR PG w K mg base CX0 k f sp ∧ PySem.W.keepIn K (.ref f) = true
section
variable {w : World} {K : PySem.W.Frag} {mg : Str → Option Value} {base : Heap} {j k : Nat} {f : Addr} {sp sp' : Sp}
theorem Fn.mono (F : Fn w K mg base j f sp) (h : j ≤ k) : Fn w K mg base k f sp := ⟨F.1.mono h, F.2⟩
theorem Fn.imp (F : Fn w K mg base k f sp) (h : ∀ vs H Q E, sp' vs H Q E → sp vs H Q E) : Fn w K mg base k f sp' := ⟨F.1.imp h, F.2⟩
theorem fn0 {x qual : Str} {st : Stmt} {fd : FuncData} {N ps : List Str} (F : FunD K x qual (defArgs st) (defBody st) (defScope st) [] [] f fd) (S : FnScope N ps (defScope st))
    (hbind : ∀ (kV doc pm : Value) (an : Option Addr) (cdv ct : Value) (us : List Value), us.length = ps.length → bindArgs (PySem.W.fnOf x qual (defArgs st) (defBody st) (defScope st) .none kV doc pm an cdv ct) ⟨us, []⟩ = pure (ps.zip us))
    (len : ∀ vs H Q E, sp vs H Q E → vs.length = ps.length)
    (hbody : ∀ (cdv : Value) (A : Around) (outer : List Env) (s : Shared) (H : Hp) (vs : List V) (Q : VK) (E : XK), Room k (A.deeper (envOfC qual (defScope st) s.heap.objs.size f cdv)) → sp vs H Q E →
      ∃ t, PSs (cxOf CX0 PG w K mg base N qual (defScope st) f cdv A outer s H E).nox (defBody st) t ∧ t { nx := fun _ H' => Q .non H', rt := Q } (start N vs) H) : Fn w K mg base (k + 1) f sp := by
  have G : FnOk PG w K mg base CX0 (k + 1) f fd ps sp := F.ok S len fun cdv A outer s H vs Q E hr h => by
    obtain ⟨t, a, b⟩ := hbody cdv A outer s H vs Q E hr h
    exact ⟨t, a.nox, b⟩
  refine ⟨(G.raw (F.bindsN hbind) .nil).imp fun vs H Q E h => ?_, F.kp⟩
  rw [List.append_nil]
  exact h
end
/-! ### calls -/
def tCallF (sp : Sp) (t : TA) : TE := fun σ H Q => t σ H fun vs H1 => sp vs H1 Q E0
section
variable {X : Cx} {j k : Nat} {f C : Addr} {sp : Sp} {x m : Str} {p pos apos : Pos} {e o : Expr} {es : List Expr} {ta : TE} {t : TA} {w : World} {K : PySem.W.Frag} {mg : Str → Option Value} {base : Heap}
theorem run_F {pins : List (Addr × Obj)} {σ : L2.St} {H : Hp} {s : Shared} {Q : VK} {us : List Value} {vs : List V} (F : FnR X.prog X.w X.K X.mg X.base CX0 k f sp) (hr : Room k X.A) (I : Inv X pins σ H s) (r : Vals vs us) (h : sp vs H Q E0) :
    wpAny (model X.prog X.w) X.A (call (.ref f) us) (EP X pins σ Q) X.xe s := wpAny_call (run_fnR F hr pass0 I r h)
theorem pe_callF (F : Fn X.w X.K X.mg X.base k f sp) (hp : X.prog = PG) (hr : Room j X.A) (hg : Gl X x) (hm : X.mg x = some (.ref f)) (ha : PA X (e :: es) t) (hj : k ≤ j := by first | decide | omega)
    (hdb : (x == ("__debug__" : Str)) = false := by decide) (he : starEach (e :: es) X.env = (false, eval e X.env) :: starEach es X.env := by rfl) (hpl : (backTo pos (starEach es X.env)).any (·.1) = false := by rfl) :
    PE X (.Call (.Name x p) (e :: es) [] pos) (tCallF sp t) := by
  refine ⟨fun pins s σ H Q I h => ?_⟩
  refine wpAny_Call_Name_kw (ld_glob I hg hm ?_ hdb)
  refine PySem.W.callWith_K (h₀ := X.base) I.ok.mod.kin F.2 (thn (ha.run pos pins s σ H _ I h) fun us s1 ⟨vs, H1, I1, r, q⟩ => ⟨I1.kIn, ?_⟩) he hpl
  exact run_F (by rw [hp]; exact F.1) (hr.mono hj) I1 r q
end
end SL
namespace SL
open PySem PySem.Spec PyProof.Rows L2
section
variable {w : World} {K : PySem.W.Frag} {mg : Str → Option Value} {base : Heap}
/-! common: one 0, other 1 -/
theorem sc_common : FnScope ["one", "other"] ["one", "other"] (defScope s_common) := ⟨rfl, rfl, rfl, by decide +kernel, rfl, by decide +kernel, by decide +kernel⟩
theorem fn_common {k : Nat} {sp : Sp} (T : TX w K mg) (len : ∀ vs H Q E, sp vs H Q E → vs.length = 2)
    (hbody : ∀ (cdv : Value) (A : Around) (outer : List Env) (s : Shared) (H : Hp) (vs : List V) (Q : VK) (E : XK), Room k (A.deeper (envOfC "common" (defScope s_common) s.heap.objs.size (He.fAd K ("common", none)) cdv)) → sp vs H Q E →
      ∃ t, PSs (cxOf CX0 PG w K mg base ["one", "other"] "common" (defScope s_common) (He.fAd K ("common", none)) cdv A outer s H E).nox (defBody s_common) t ∧ t { nx := fun _ H' => Q .non H', rt := Q } (start ["one", "other"] vs) H) : Fn w K mg base (k + 1) (He.fAd K ("common", none)) sp := by
  obtain ⟨fd, F⟩ := f_common T
  exact fn0 F sc_common (fun _ _ _ _ _ _ us hl => match us, hl with | [_, _], _ => rfl) len hbody
/-! lowest: over 0, under 1, part 2 -/
theorem sc_lowest : FnScope ["over", "under", "part"] ["over", "under"] (defScope s_lowest) := ⟨rfl, rfl, rfl, by decide +kernel, rfl, by decide +kernel, by decide +kernel⟩
theorem fn_lowest {k : Nat} {sp : Sp} (T : TX w K mg) (len : ∀ vs H Q E, sp vs H Q E → vs.length = 2)
    (hbody : ∀ (cdv : Value) (A : Around) (outer : List Env) (s : Shared) (H : Hp) (vs : List V) (Q : VK) (E : XK), Room k (A.deeper (envOfC "lowest" (defScope s_lowest) s.heap.objs.size (He.fAd K ("lowest", none)) cdv)) → sp vs H Q E →
      ∃ t, PSs (cxOf CX0 PG w K mg base ["over", "under", "part"] "lowest" (defScope s_lowest) (He.fAd K ("lowest", none)) cdv A outer s H E).nox (defBody s_lowest) t ∧ t { nx := fun _ H' => Q .non H', rt := Q } (start ["over", "under", "part"] vs) H) : Fn w K mg base (k + 1) (He.fAd K ("lowest", none)) sp := by
  obtain ⟨fd, F⟩ := f_lowest T
  exact fn0 F sc_lowest (fun _ _ _ _ _ _ us hl => match us, hl with | [_, _], _ => rfl) len hbody
/-! plus: one 0, other 1 -/
theorem sc_plus : FnScope ["one", "other"] ["one", "other"] (defScope s_plus) := ⟨rfl, rfl, rfl, by decide +kernel, rfl, by decide +kernel, by decide +kernel⟩
theorem fn_plus {k : Nat} {sp : Sp} (T : TX w K mg) (len : ∀ vs H Q E, sp vs H Q E → vs.length = 2)
    (hbody : ∀ (cdv : Value) (A : Around) (outer : List Env) (s : Shared) (H : Hp) (vs : List V) (Q : VK) (E : XK), Room k (A.deeper (envOfC "plus" (defScope s_plus) s.heap.objs.size (He.fAd K ("plus", none)) cdv)) → sp vs H Q E →
      ∃ t, PSs (cxOf CX0 PG w K mg base ["one", "other"] "plus" (defScope s_plus) (He.fAd K ("plus", none)) cdv A outer s H E).nox (defBody s_plus) t ∧ t { nx := fun _ H' => Q .non H', rt := Q } (start ["one", "other"] vs) H) : Fn w K mg base (k + 1) (He.fAd K ("plus", none)) sp := by
  obtain ⟨fd, F⟩ := f_plus T
  exact fn0 F sc_plus (fun _ _ _ _ _ _ us hl => match us, hl with | [_, _], _ => rfl) len hbody
/-! minus: one 0, other 1 -/
theorem sc_minus : FnScope ["one", "other"] ["one", "other"] (defScope s_minus) := ⟨rfl, rfl, rfl, by decide +kernel, rfl, by decide +kernel, by decide +kernel⟩
theorem fn_minus {k : Nat} {sp : Sp} (T : TX w K mg) (len : ∀ vs H Q E, sp vs H Q E → vs.length = 2)
    (hbody : ∀ (cdv : Value) (A : Around) (outer : List Env) (s : Shared) (H : Hp) (vs : List V) (Q : VK) (E : XK), Room k (A.deeper (envOfC "minus" (defScope s_minus) s.heap.objs.size (He.fAd K ("minus", none)) cdv)) → sp vs H Q E →
      ∃ t, PSs (cxOf CX0 PG w K mg base ["one", "other"] "minus" (defScope s_minus) (He.fAd K ("minus", none)) cdv A outer s H E).nox (defBody s_minus) t ∧ t { nx := fun _ H' => Q .non H', rt := Q } (start ["one", "other"] vs) H) : Fn w K mg base (k + 1) (He.fAd K ("minus", none)) sp := by
  obtain ⟨fd, F⟩ := f_minus T
  exact fn0 F sc_minus (fun _ _ _ _ _ _ us hl => match us, hl with | [_, _], _ => rfl) len hbody
/-! times: one 0, other 1 -/
theorem sc_times : FnScope ["one", "other"] ["one", "other"] (defScope s_times) := ⟨rfl, rfl, rfl, by decide +kernel, rfl, by decide +kernel, by decide +kernel⟩
theorem fn_times {k : Nat} {sp : Sp} (T : TX w K mg) (len : ∀ vs H Q E, sp vs H Q E → vs.length = 2)
    (hbody : ∀ (cdv : Value) (A : Around) (outer : List Env) (s : Shared) (H : Hp) (vs : List V) (Q : VK) (E : XK), Room k (A.deeper (envOfC "times" (defScope s_times) s.heap.objs.size (He.fAd K ("times", none)) cdv)) → sp vs H Q E →
      ∃ t, PSs (cxOf CX0 PG w K mg base ["one", "other"] "times" (defScope s_times) (He.fAd K ("times", none)) cdv A outer s H E).nox (defBody s_times) t ∧ t { nx := fun _ H' => Q .non H', rt := Q } (start ["one", "other"] vs) H) : Fn w K mg base (k + 1) (He.fAd K ("times", none)) sp := by
  obtain ⟨fd, F⟩ := f_times T
  exact fn0 F sc_times (fun _ _ _ _ _ _ us hl => match us, hl with | [_, _], _ => rfl) len hbody
/-! by: one 0, other 1 -/
theorem sc_by : FnScope ["one", "other"] ["one", "other"] (defScope s_by) := ⟨rfl, rfl, rfl, by decide +kernel, rfl, by decide +kernel, by decide +kernel⟩
theorem fn_by {k : Nat} {sp : Sp} (T : TX w K mg) (len : ∀ vs H Q E, sp vs H Q E → vs.length = 2)
    (hbody : ∀ (cdv : Value) (A : Around) (outer : List Env) (s : Shared) (H : Hp) (vs : List V) (Q : VK) (E : XK), Room k (A.deeper (envOfC "by" (defScope s_by) s.heap.objs.size (He.fAd K ("by", none)) cdv)) → sp vs H Q E →
      ∃ t, PSs (cxOf CX0 PG w K mg base ["one", "other"] "by" (defScope s_by) (He.fAd K ("by", none)) cdv A outer s H E).nox (defBody s_by) t ∧ t { nx := fun _ H' => Q .non H', rt := Q } (start ["one", "other"] vs) H) : Fn w K mg base (k + 1) (He.fAd K ("by", none)) sp := by
  obtain ⟨fd, F⟩ := f_by T
  exact fn0 F sc_by (fun _ _ _ _ _ _ us hl => match us, hl with | [_, _], _ => rfl) len hbody
/-! less: one 0, other 1 -/
theorem sc_less : FnScope ["one", "other"] ["one", "other"] (defScope s_less) := ⟨rfl, rfl, rfl, by decide +kernel, rfl, by decide +kernel, by decide +kernel⟩
theorem fn_less {k : Nat} {sp : Sp} (T : TX w K mg) (len : ∀ vs H Q E, sp vs H Q E → vs.length = 2)
    (hbody : ∀ (cdv : Value) (A : Around) (outer : List Env) (s : Shared) (H : Hp) (vs : List V) (Q : VK) (E : XK), Room k (A.deeper (envOfC "less" (defScope s_less) s.heap.objs.size (He.fAd K ("less", none)) cdv)) → sp vs H Q E →
      ∃ t, PSs (cxOf CX0 PG w K mg base ["one", "other"] "less" (defScope s_less) (He.fAd K ("less", none)) cdv A outer s H E).nox (defBody s_less) t ∧ t { nx := fun _ H' => Q .non H', rt := Q } (start ["one", "other"] vs) H) : Fn w K mg base (k + 1) (He.fAd K ("less", none)) sp := by
  obtain ⟨fd, F⟩ := f_less T
  exact fn0 F sc_less (fun _ _ _ _ _ _ us hl => match us, hl with | [_, _], _ => rfl) len hbody
/-! amount_text: amount 0, over 1, under 2 -/
theorem sc_amount_text : FnScope ["amount", "over", "under"] ["amount"] (defScope s_amount_text) := ⟨rfl, rfl, rfl, by decide +kernel, rfl, by decide +kernel, by decide +kernel⟩
theorem fn_amount_text {k : Nat} {sp : Sp} (T : TX w K mg) (len : ∀ vs H Q E, sp vs H Q E → vs.length = 1)
    (hbody : ∀ (cdv : Value) (A : Around) (outer : List Env) (s : Shared) (H : Hp) (vs : List V) (Q : VK) (E : XK), Room k (A.deeper (envOfC "amount_text" (defScope s_amount_text) s.heap.objs.size (He.fAd K ("amount_text", none)) cdv)) → sp vs H Q E →
      ∃ t, PSs (cxOf CX0 PG w K mg base ["amount", "over", "under"] "amount_text" (defScope s_amount_text) (He.fAd K ("amount_text", none)) cdv A outer s H E).nox (defBody s_amount_text) t ∧ t { nx := fun _ H' => Q .non H', rt := Q } (start ["amount", "over", "under"] vs) H) : Fn w K mg base (k + 1) (He.fAd K ("amount_text", none)) sp := by
  obtain ⟨fd, F⟩ := f_amount_text T
  exact fn0 F sc_amount_text (fun _ _ _ _ _ _ us hl => match us, hl with | [_], _ => rfl) len hbody
/-! inner: note 0, sign 1, one 2 -/
theorem sc_inner : FnScope ["note", "sign", "one"] ["note"] (defScope s_inner) := ⟨rfl, rfl, rfl, by decide +kernel, rfl, by decide +kernel, by decide +kernel⟩
theorem fn_inner {k : Nat} {sp : Sp} (T : TX w K mg) (len : ∀ vs H Q E, sp vs H Q E → vs.length = 1)
    (hbody : ∀ (cdv : Value) (A : Around) (outer : List Env) (s : Shared) (H : Hp) (vs : List V) (Q : VK) (E : XK), Room k (A.deeper (envOfC "inner" (defScope s_inner) s.heap.objs.size (He.fAd K ("inner", none)) cdv)) → sp vs H Q E →
      ∃ t, PSs (cxOf CX0 PG w K mg base ["note", "sign", "one"] "inner" (defScope s_inner) (He.fAd K ("inner", none)) cdv A outer s H E).nox (defBody s_inner) t ∧ t { nx := fun _ H' => Q .non H', rt := Q } (start ["note", "sign", "one"] vs) H) : Fn w K mg base (k + 1) (He.fAd K ("inner", none)) sp := by
  obtain ⟨fd, F⟩ := f_inner T
  exact fn0 F sc_inner (fun _ _ _ _ _ _ us hl => match us, hl with | [_], _ => rfl) len hbody
/-! uses: note 0, found 1, one 2, name 3 -/
theorem sc_uses : FnScope ["note", "found", "one", "name"] ["note"] (defScope s_uses) := ⟨rfl, rfl, rfl, by decide +kernel, rfl, by decide +kernel, by decide +kernel⟩
theorem fn_uses {k : Nat} {sp : Sp} (T : TX w K mg) (len : ∀ vs H Q E, sp vs H Q E → vs.length = 1)
    (hbody : ∀ (cdv : Value) (A : Around) (outer : List Env) (s : Shared) (H : Hp) (vs : List V) (Q : VK) (E : XK), Room k (A.deeper (envOfC "uses" (defScope s_uses) s.heap.objs.size (He.fAd K ("uses", none)) cdv)) → sp vs H Q E →
      ∃ t, PSs (cxOf CX0 PG w K mg base ["note", "found", "one", "name"] "uses" (defScope s_uses) (He.fAd K ("uses", none)) cdv A outer s H E).nox (defBody s_uses) t ∧ t { nx := fun _ H' => Q .non H', rt := Q } (start ["note", "found", "one", "name"] vs) H) : Fn w K mg base (k + 1) (He.fAd K ("uses", none)) sp := by
  obtain ⟨fd, F⟩ := f_uses T
  exact fn0 F sc_uses (fun _ _ _ _ _ _ us hl => match us, hl with | [_], _ => rfl) len hbody
/-! is_whole: note 0 -/
theorem sc_is_whole : FnScope ["note"] ["note"] (defScope s_is_whole) := ⟨rfl, rfl, rfl, by decide +kernel, rfl, by decide +kernel, by decide +kernel⟩
theorem fn_is_whole {k : Nat} {sp : Sp} (T : TX w K mg) (len : ∀ vs H Q E, sp vs H Q E → vs.length = 1)
    (hbody : ∀ (cdv : Value) (A : Around) (outer : List Env) (s : Shared) (H : Hp) (vs : List V) (Q : VK) (E : XK), Room k (A.deeper (envOfC "is_whole" (defScope s_is_whole) s.heap.objs.size (He.fAd K ("is_whole", none)) cdv)) → sp vs H Q E →
      ∃ t, PSs (cxOf CX0 PG w K mg base ["note"] "is_whole" (defScope s_is_whole) (He.fAd K ("is_whole", none)) cdv A outer s H E).nox (defBody s_is_whole) t ∧ t { nx := fun _ H' => Q .non H', rt := Q } (start ["note"] vs) H) : Fn w K mg base (k + 1) (He.fAd K ("is_whole", none)) sp := by
  obtain ⟨fd, F⟩ := f_is_whole T
  exact fn0 F sc_is_whole (fun _ _ _ _ _ _ us hl => match us, hl with | [_], _ => rfl) len hbody
/-! better: one 0, other 1 -/
theorem sc_better : FnScope ["one", "other"] ["one", "other"] (defScope s_better) := ⟨rfl, rfl, rfl, by decide +kernel, rfl, by decide +kernel, by decide +kernel⟩
theorem fn_better {k : Nat} {sp : Sp} (T : TX w K mg) (len : ∀ vs H Q E, sp vs H Q E → vs.length = 2)
    (hbody : ∀ (cdv : Value) (A : Around) (outer : List Env) (s : Shared) (H : Hp) (vs : List V) (Q : VK) (E : XK), Room k (A.deeper (envOfC "better" (defScope s_better) s.heap.objs.size (He.fAd K ("better", none)) cdv)) → sp vs H Q E →
      ∃ t, PSs (cxOf CX0 PG w K mg base ["one", "other"] "better" (defScope s_better) (He.fAd K ("better", none)) cdv A outer s H E).nox (defBody s_better) t ∧ t { nx := fun _ H' => Q .non H', rt := Q } (start ["one", "other"] vs) H) : Fn w K mg base (k + 1) (He.fAd K ("better", none)) sp := by
  obtain ⟨fd, F⟩ := f_better T
  exact fn0 F sc_better (fun _ _ _ _ _ _ us hl => match us, hl with | [_, _], _ => rfl) len hbody
/-! worse: one 0, other 1 -/
theorem sc_worse : FnScope ["one", "other"] ["one", "other"] (defScope s_worse) := ⟨rfl, rfl, rfl, by decide +kernel, rfl, by decide +kernel, by decide +kernel⟩
theorem fn_worse {k : Nat} {sp : Sp} (T : TX w K mg) (len : ∀ vs H Q E, sp vs H Q E → vs.length = 2)
    (hbody : ∀ (cdv : Value) (A : Around) (outer : List Env) (s : Shared) (H : Hp) (vs : List V) (Q : VK) (E : XK), Room k (A.deeper (envOfC "worse" (defScope s_worse) s.heap.objs.size (He.fAd K ("worse", none)) cdv)) → sp vs H Q E →
      ∃ t, PSs (cxOf CX0 PG w K mg base ["one", "other"] "worse" (defScope s_worse) (He.fAd K ("worse", none)) cdv A outer s H E).nox (defBody s_worse) t ∧ t { nx := fun _ H' => Q .non H', rt := Q } (start ["one", "other"] vs) H) : Fn w K mg base (k + 1) (He.fAd K ("worse", none)) sp := by
  obtain ⟨fd, F⟩ := f_worse T
  exact fn0 F sc_worse (fun _ _ _ _ _ _ us hl => match us, hl with | [_, _], _ => rfl) len hbody
/-! value_at: value 0, price 1, way 2 -/
theorem sc_value_at : FnScope ["value", "price", "way"] ["value", "price"] (defScope s_value_at) := ⟨rfl, rfl, rfl, by decide +kernel, rfl, by decide +kernel, by decide +kernel⟩
theorem fn_value_at {k : Nat} {sp : Sp} (T : TX w K mg) (len : ∀ vs H Q E, sp vs H Q E → vs.length = 2)
    (hbody : ∀ (cdv : Value) (A : Around) (outer : List Env) (s : Shared) (H : Hp) (vs : List V) (Q : VK) (E : XK), Room k (A.deeper (envOfC "value_at" (defScope s_value_at) s.heap.objs.size (He.fAd K ("value_at", none)) cdv)) → sp vs H Q E →
      ∃ t, PSs (cxOf CX0 PG w K mg base ["value", "price", "way"] "value_at" (defScope s_value_at) (He.fAd K ("value_at", none)) cdv A outer s H E).nox (defBody s_value_at) t ∧ t { nx := fun _ H' => Q .non H', rt := Q } (start ["value", "price", "way"] vs) H) : Fn w K mg base (k + 1) (He.fAd K ("value_at", none)) sp := by
  obtain ⟨fd, F⟩ := f_value_at T
  exact fn0 F sc_value_at (fun _ _ _ _ _ _ us hl => match us, hl with | [_, _], _ => rfl) len hbody
/-! thing_text: sign 0, thing 1 -/
theorem sc_thing_text : FnScope ["sign", "thing"] ["sign", "thing"] (defScope s_thing_text) := ⟨rfl, rfl, rfl, by decide +kernel, rfl, by decide +kernel, by decide +kernel⟩
theorem fn_thing_text {k : Nat} {sp : Sp} (T : TX w K mg) (len : ∀ vs H Q E, sp vs H Q E → vs.length = 2)
    (hbody : ∀ (cdv : Value) (A : Around) (outer : List Env) (s : Shared) (H : Hp) (vs : List V) (Q : VK) (E : XK), Room k (A.deeper (envOfC "thing_text" (defScope s_thing_text) s.heap.objs.size (He.fAd K ("thing_text", none)) cdv)) → sp vs H Q E →
      ∃ t, PSs (cxOf CX0 PG w K mg base ["sign", "thing"] "thing_text" (defScope s_thing_text) (He.fAd K ("thing_text", none)) cdv A outer s H E).nox (defBody s_thing_text) t ∧ t { nx := fun _ H' => Q .non H', rt := Q } (start ["sign", "thing"] vs) H) : Fn w K mg base (k + 1) (He.fAd K ("thing_text", none)) sp := by
  obtain ⟨fd, F⟩ := f_thing_text T
  exact fn0 F sc_thing_text (fun _ _ _ _ _ _ us hl => match us, hl with | [_, _], _ => rfl) len hbody
/-! things_text: head 0, form 1, things 2, sign 3, one 4 -/
theorem sc_things_text : FnScope ["head", "form", "things", "sign", "one"] ["head", "form", "things"] (defScope s_things_text) := ⟨rfl, rfl, rfl, by decide +kernel, rfl, by decide +kernel, by decide +kernel⟩
theorem fn_things_text {k : Nat} {sp : Sp} (T : TX w K mg) (len : ∀ vs H Q E, sp vs H Q E → vs.length = 3)
    (hbody : ∀ (cdv : Value) (A : Around) (outer : List Env) (s : Shared) (H : Hp) (vs : List V) (Q : VK) (E : XK), Room k (A.deeper (envOfC "things_text" (defScope s_things_text) s.heap.objs.size (He.fAd K ("things_text", none)) cdv)) → sp vs H Q E →
      ∃ t, PSs (cxOf CX0 PG w K mg base ["head", "form", "things", "sign", "one"] "things_text" (defScope s_things_text) (He.fAd K ("things_text", none)) cdv A outer s H E).nox (defBody s_things_text) t ∧ t { nx := fun _ H' => Q .non H', rt := Q } (start ["head", "form", "things", "sign", "one"] vs) H) : Fn w K mg base (k + 1) (He.fAd K ("things_text", none)) sp := by
  obtain ⟨fd, F⟩ := f_things_text T
  exact fn0 F sc_things_text (fun _ _ _ _ _ _ us hl => match us, hl with | [_, _, _], _ => rfl) len hbody
/-! value_text: value 0, head 1, things 2 -/
theorem sc_value_text : FnScope ["value", "head", "things"] ["value"] (defScope s_value_text) := ⟨rfl, rfl, rfl, by decide +kernel, rfl, by decide +kernel, by decide +kernel⟩
theorem fn_value_text {k : Nat} {sp : Sp} (T : TX w K mg) (len : ∀ vs H Q E, sp vs H Q E → vs.length = 1)
    (hbody : ∀ (cdv : Value) (A : Around) (outer : List Env) (s : Shared) (H : Hp) (vs : List V) (Q : VK) (E : XK), Room k (A.deeper (envOfC "value_text" (defScope s_value_text) s.heap.objs.size (He.fAd K ("value_text", none)) cdv)) → sp vs H Q E →
      ∃ t, PSs (cxOf CX0 PG w K mg base ["value", "head", "things"] "value_text" (defScope s_value_text) (He.fAd K ("value_text", none)) cdv A outer s H E).nox (defBody s_value_text) t ∧ t { nx := fun _ H' => Q .non H', rt := Q } (start ["value", "head", "things"] vs) H) : Fn w K mg base (k + 1) (He.fAd K ("value_text", none)) sp := by
  obtain ⟨fd, F⟩ := f_value_text T
  exact fn0 F sc_value_text (fun _ _ _ _ _ _ us hl => match us, hl with | [_], _ => rfl) len hbody
/-! note_text: note 0, head 1, things 2, word 3, rest 4 -/
theorem sc_note_text : FnScope ["note", "head", "things", "word", "rest"] ["note"] (defScope s_note_text) := ⟨rfl, rfl, rfl, by decide +kernel, rfl, by decide +kernel, by decide +kernel⟩
theorem fn_note_text {k : Nat} {sp : Sp} (T : TX w K mg) (len : ∀ vs H Q E, sp vs H Q E → vs.length = 1)
    (hbody : ∀ (cdv : Value) (A : Around) (outer : List Env) (s : Shared) (H : Hp) (vs : List V) (Q : VK) (E : XK), Room k (A.deeper (envOfC "note_text" (defScope s_note_text) s.heap.objs.size (He.fAd K ("note_text", none)) cdv)) → sp vs H Q E →
      ∃ t, PSs (cxOf CX0 PG w K mg base ["note", "head", "things", "word", "rest"] "note_text" (defScope s_note_text) (He.fAd K ("note_text", none)) cdv A outer s H E).nox (defBody s_note_text) t ∧ t { nx := fun _ H' => Q .non H', rt := Q } (start ["note", "head", "things", "word", "rest"] vs) H) : Fn w K mg base (k + 1) (He.fAd K ("note_text", none)) sp := by
  obtain ⟨fd, F⟩ := f_note_text T
  exact fn0 F sc_note_text (fun _ _ _ _ _ _ us hl => match us, hl with | [_], _ => rfl) len hbody
/-! both_of: one 0, other 1 -/
theorem sc_both_of : FnScope ["one", "other"] ["one", "other"] (defScope s_both_of) := ⟨rfl, rfl, rfl, by decide +kernel, rfl, by decide +kernel, by decide +kernel⟩
theorem fn_both_of {k : Nat} {sp : Sp} (T : TX w K mg) (len : ∀ vs H Q E, sp vs H Q E → vs.length = 2)
    (hbody : ∀ (cdv : Value) (A : Around) (outer : List Env) (s : Shared) (H : Hp) (vs : List V) (Q : VK) (E : XK), Room k (A.deeper (envOfC "both_of" (defScope s_both_of) s.heap.objs.size (He.fAd K ("both_of", none)) cdv)) → sp vs H Q E →
      ∃ t, PSs (cxOf CX0 PG w K mg base ["one", "other"] "both_of" (defScope s_both_of) (He.fAd K ("both_of", none)) cdv A outer s H E).nox (defBody s_both_of) t ∧ t { nx := fun _ H' => Q .non H', rt := Q } (start ["one", "other"] vs) H) : Fn w K mg base (k + 1) (He.fAd K ("both_of", none)) sp := by
  obtain ⟨fd, F⟩ := f_both_of T
  exact fn0 F sc_both_of (fun _ _ _ _ _ _ us hl => match us, hl with | [_, _], _ => rfl) len hbody
/-! turned_owner: owner 0 -/
theorem sc_turned_owner : FnScope ["owner"] ["owner"] (defScope s_turned_owner) := ⟨rfl, rfl, rfl, by decide +kernel, rfl, by decide +kernel, by decide +kernel⟩
theorem fn_turned_owner {k : Nat} {sp : Sp} (T : TX w K mg) (len : ∀ vs H Q E, sp vs H Q E → vs.length = 1)
    (hbody : ∀ (cdv : Value) (A : Around) (outer : List Env) (s : Shared) (H : Hp) (vs : List V) (Q : VK) (E : XK), Room k (A.deeper (envOfC "turned_owner" (defScope s_turned_owner) s.heap.objs.size (He.fAd K ("turned_owner", none)) cdv)) → sp vs H Q E →
      ∃ t, PSs (cxOf CX0 PG w K mg base ["owner"] "turned_owner" (defScope s_turned_owner) (He.fAd K ("turned_owner", none)) cdv A outer s H E).nox (defBody s_turned_owner) t ∧ t { nx := fun _ H' => Q .non H', rt := Q } (start ["owner"] vs) H) : Fn w K mg base (k + 1) (He.fAd K ("turned_owner", none)) sp := by
  obtain ⟨fd, F⟩ := f_turned_owner T
  exact fn0 F sc_turned_owner (fun _ _ _ _ _ _ us hl => match us, hl with | [_], _ => rfl) len hbody
/-! of_none: note 0, date 1, price 2, answers 3 -/
theorem sc_of_none : FnScope ["note", "date", "price", "answers"] ["note", "date", "price", "answers"] (defScope s_of_none) := ⟨rfl, rfl, rfl, by decide +kernel, rfl, by decide +kernel, by decide +kernel⟩
theorem fn_of_none {k : Nat} {sp : Sp} (T : TX w K mg) (len : ∀ vs H Q E, sp vs H Q E → vs.length = 4)
    (hbody : ∀ (cdv : Value) (A : Around) (outer : List Env) (s : Shared) (H : Hp) (vs : List V) (Q : VK) (E : XK), Room k (A.deeper (envOfC "of_none" (defScope s_of_none) s.heap.objs.size (He.fAd K ("of_none", none)) cdv)) → sp vs H Q E →
      ∃ t, PSs (cxOf CX0 PG w K mg base ["note", "date", "price", "answers"] "of_none" (defScope s_of_none) (He.fAd K ("of_none", none)) cdv A outer s H E).nox (defBody s_of_none) t ∧ t { nx := fun _ H' => Q .non H', rt := Q } (start ["note", "date", "price", "answers"] vs) H) : Fn w K mg base (k + 1) (He.fAd K ("of_none", none)) sp := by
  obtain ⟨fd, F⟩ := f_of_none T
  exact fn0 F sc_of_none (fun _ _ _ _ _ _ us hl => match us, hl with | [_, _, _, _], _ => rfl) len hbody
/-! of_pay: note 0, date 1, price 2, answers 3 -/
theorem sc_of_pay : FnScope ["note", "date", "price", "answers"] ["note", "date", "price", "answers"] (defScope s_of_pay) := ⟨rfl, rfl, rfl, by decide +kernel, rfl, by decide +kernel, by decide +kernel⟩
theorem fn_of_pay {k : Nat} {sp : Sp} (T : TX w K mg) (len : ∀ vs H Q E, sp vs H Q E → vs.length = 4)
    (hbody : ∀ (cdv : Value) (A : Around) (outer : List Env) (s : Shared) (H : Hp) (vs : List V) (Q : VK) (E : XK), Room k (A.deeper (envOfC "of_pay" (defScope s_of_pay) s.heap.objs.size (He.fAd K ("of_pay", none)) cdv)) → sp vs H Q E →
      ∃ t, PSs (cxOf CX0 PG w K mg base ["note", "date", "price", "answers"] "of_pay" (defScope s_of_pay) (He.fAd K ("of_pay", none)) cdv A outer s H E).nox (defBody s_of_pay) t ∧ t { nx := fun _ H' => Q .non H', rt := Q } (start ["note", "date", "price", "answers"] vs) H) : Fn w K mg base (k + 1) (He.fAd K ("of_pay", none)) sp := by
  obtain ⟨fd, F⟩ := f_of_pay T
  exact fn0 F sc_of_pay (fun _ _ _ _ _ _ us hl => match us, hl with | [_, _, _, _], _ => rfl) len hbody
/-! of_now: note 0, date 1, price 2, answers 3 -/
theorem sc_of_now : FnScope ["note", "date", "price", "answers"] ["note", "date", "price", "answers"] (defScope s_of_now) := ⟨rfl, rfl, rfl, by decide +kernel, rfl, by decide +kernel, by decide +kernel⟩
theorem fn_of_now {k : Nat} {sp : Sp} (T : TX w K mg) (len : ∀ vs H Q E, sp vs H Q E → vs.length = 4)
    (hbody : ∀ (cdv : Value) (A : Around) (outer : List Env) (s : Shared) (H : Hp) (vs : List V) (Q : VK) (E : XK), Room k (A.deeper (envOfC "of_now" (defScope s_of_now) s.heap.objs.size (He.fAd K ("of_now", none)) cdv)) → sp vs H Q E →
      ∃ t, PSs (cxOf CX0 PG w K mg base ["note", "date", "price", "answers"] "of_now" (defScope s_of_now) (He.fAd K ("of_now", none)) cdv A outer s H E).nox (defBody s_of_now) t ∧ t { nx := fun _ H' => Q .non H', rt := Q } (start ["note", "date", "price", "answers"] vs) H) : Fn w K mg base (k + 1) (He.fAd K ("of_now", none)) sp := by
  obtain ⟨fd, F⟩ := f_of_now T
  exact fn0 F sc_of_now (fun _ _ _ _ _ _ us hl => match us, hl with | [_, _, _, _], _ => rfl) len hbody
/-! of_both: note 0, date 1, price 2, answers 3, first 4, second 5 -/
theorem sc_of_both : FnScope ["note", "date", "price", "answers", "first", "second"] ["note", "date", "price", "answers"] (defScope s_of_both) := ⟨rfl, rfl, rfl, by decide +kernel, rfl, by decide +kernel, by decide +kernel⟩
theorem fn_of_both {k : Nat} {sp : Sp} (T : TX w K mg) (len : ∀ vs H Q E, sp vs H Q E → vs.length = 4)
    (hbody : ∀ (cdv : Value) (A : Around) (outer : List Env) (s : Shared) (H : Hp) (vs : List V) (Q : VK) (E : XK), Room k (A.deeper (envOfC "of_both" (defScope s_of_both) s.heap.objs.size (He.fAd K ("of_both", none)) cdv)) → sp vs H Q E →
      ∃ t, PSs (cxOf CX0 PG w K mg base ["note", "date", "price", "answers", "first", "second"] "of_both" (defScope s_of_both) (He.fAd K ("of_both", none)) cdv A outer s H E).nox (defBody s_of_both) t ∧ t { nx := fun _ H' => Q .non H', rt := Q } (start ["note", "date", "price", "answers", "first", "second"] vs) H) : Fn w K mg base (k + 1) (He.fAd K ("of_both", none)) sp := by
  obtain ⟨fd, F⟩ := f_of_both T
  exact fn0 F sc_of_both (fun _ _ _ _ _ _ us hl => match us, hl with | [_, _, _, _], _ => rfl) len hbody
/-! of_times: note 0, date 1, price 2, answers 3, found 4, rest 5 -/
theorem sc_of_times : FnScope ["note", "date", "price", "answers", "found", "rest"] ["note", "date", "price", "answers"] (defScope s_of_times) := ⟨rfl, rfl, rfl, by decide +kernel, rfl, by decide +kernel, by decide +kernel⟩
theorem fn_of_times {k : Nat} {sp : Sp} (T : TX w K mg) (len : ∀ vs H Q E, sp vs H Q E → vs.length = 4)
    (hbody : ∀ (cdv : Value) (A : Around) (outer : List Env) (s : Shared) (H : Hp) (vs : List V) (Q : VK) (E : XK), Room k (A.deeper (envOfC "of_times" (defScope s_of_times) s.heap.objs.size (He.fAd K ("of_times", none)) cdv)) → sp vs H Q E →
      ∃ t, PSs (cxOf CX0 PG w K mg base ["note", "date", "price", "answers", "found", "rest"] "of_times" (defScope s_of_times) (He.fAd K ("of_times", none)) cdv A outer s H E).nox (defBody s_of_times) t ∧ t { nx := fun _ H' => Q .non H', rt := Q } (start ["note", "date", "price", "answers", "found", "rest"] vs) H) : Fn w K mg base (k + 1) (He.fAd K ("of_times", none)) sp := by
  obtain ⟨fd, F⟩ := f_of_times T
  exact fn0 F sc_of_times (fun _ _ _ _ _ _ us hl => match us, hl with | [_, _, _, _], _ => rfl) len hbody
/-! of_turn: note 0, date 1, price 2, answers 3, found 4 -/
theorem sc_of_turn : FnScope ["note", "date", "price", "answers", "found"] ["note", "date", "price", "answers"] (defScope s_of_turn) := ⟨rfl, rfl, rfl, by decide +kernel, rfl, by decide +kernel, by decide +kernel⟩
theorem fn_of_turn {k : Nat} {sp : Sp} (T : TX w K mg) (len : ∀ vs H Q E, sp vs H Q E → vs.length = 4)
    (hbody : ∀ (cdv : Value) (A : Around) (outer : List Env) (s : Shared) (H : Hp) (vs : List V) (Q : VK) (E : XK), Room k (A.deeper (envOfC "of_turn" (defScope s_of_turn) s.heap.objs.size (He.fAd K ("of_turn", none)) cdv)) → sp vs H Q E →
      ∃ t, PSs (cxOf CX0 PG w K mg base ["note", "date", "price", "answers", "found"] "of_turn" (defScope s_of_turn) (He.fAd K ("of_turn", none)) cdv A outer s H E).nox (defBody s_of_turn) t ∧ t { nx := fun _ H' => Q .non H', rt := Q } (start ["note", "date", "price", "answers", "found"] vs) H) : Fn w K mg base (k + 1) (He.fAd K ("of_turn", none)) sp := by
  obtain ⟨fd, F⟩ := f_of_turn T
  exact fn0 F sc_of_turn (fun _ _ _ _ _ _ us hl => match us, hl with | [_, _, _, _], _ => rfl) len hbody
/-! of_till: note 0, date 1, price 2, answers 3, head 4, side 5, level 6, first 7, second 8, touched 9, found 10 -/
theorem sc_of_till : FnScope ["note", "date", "price", "answers", "head", "side", "level", "first", "second", "touched", "found"] ["note", "date", "price", "answers"] (defScope s_of_till) := ⟨rfl, rfl, rfl, by decide +kernel, rfl, by decide +kernel, by decide +kernel⟩
theorem fn_of_till {k : Nat} {sp : Sp} (T : TX w K mg) (len : ∀ vs H Q E, sp vs H Q E → vs.length = 4)
    (hbody : ∀ (cdv : Value) (A : Around) (outer : List Env) (s : Shared) (H : Hp) (vs : List V) (Q : VK) (E : XK), Room k (A.deeper (envOfC "of_till" (defScope s_of_till) s.heap.objs.size (He.fAd K ("of_till", none)) cdv)) → sp vs H Q E →
      ∃ t, PSs (cxOf CX0 PG w K mg base ["note", "date", "price", "answers", "head", "side", "level", "first", "second", "touched", "found"] "of_till" (defScope s_of_till) (He.fAd K ("of_till", none)) cdv A outer s H E).nox (defBody s_of_till) t ∧ t { nx := fun _ H' => Q .non H', rt := Q } (start ["note", "date", "price", "answers", "head", "side", "level", "first", "second", "touched", "found"] vs) H) : Fn w K mg base (k + 1) (He.fAd K ("of_till", none)) sp := by
  obtain ⟨fd, F⟩ := f_of_till T
  exact fn0 F sc_of_till (fun _ _ _ _ _ _ us hl => match us, hl with | [_, _, _, _], _ => rfl) len hbody
/-! of_may: note 0, date 1, price 2, answers 3, head 4, name 5, owner 6, begin 7, stop 8, stay 9, leave 10, found 11 -/
theorem sc_of_may : FnScope ["note", "date", "price", "answers", "head", "name", "owner", "begin", "stop", "stay", "leave", "found"] ["note", "date", "price", "answers"] (defScope s_of_may) := ⟨rfl, rfl, rfl, by decide +kernel, rfl, by decide +kernel, by decide +kernel⟩
theorem fn_of_may {k : Nat} {sp : Sp} (T : TX w K mg) (len : ∀ vs H Q E, sp vs H Q E → vs.length = 4)
    (hbody : ∀ (cdv : Value) (A : Around) (outer : List Env) (s : Shared) (H : Hp) (vs : List V) (Q : VK) (E : XK), Room k (A.deeper (envOfC "of_may" (defScope s_of_may) s.heap.objs.size (He.fAd K ("of_may", none)) cdv)) → sp vs H Q E →
      ∃ t, PSs (cxOf CX0 PG w K mg base ["note", "date", "price", "answers", "head", "name", "owner", "begin", "stop", "stay", "leave", "found"] "of_may" (defScope s_of_may) (He.fAd K ("of_may", none)) cdv A outer s H E).nox (defBody s_of_may) t ∧ t { nx := fun _ H' => Q .non H', rt := Q } (start ["note", "date", "price", "answers", "head", "name", "owner", "begin", "stop", "stay", "leave", "found"] vs) H) : Fn w K mg base (k + 1) (He.fAd K ("of_may", none)) sp := by
  obtain ⟨fd, F⟩ := f_of_may T
  exact fn0 F sc_of_may (fun _ _ _ _ _ _ us hl => match us, hl with | [_, _, _, _], _ => rfl) len hbody
/-! of_seen: note 0, date 1, price 2, answers 3, head 4, word 5, day 6, strike 7, before 8, after 9 -/
theorem sc_of_seen : FnScope ["note", "date", "price", "answers", "head", "word", "day", "strike", "before", "after"] ["note", "date", "price", "answers"] (defScope s_of_seen) := ⟨rfl, rfl, rfl, by decide +kernel, rfl, by decide +kernel, by decide +kernel⟩
theorem fn_of_seen {k : Nat} {sp : Sp} (T : TX w K mg) (len : ∀ vs H Q E, sp vs H Q E → vs.length = 4)
    (hbody : ∀ (cdv : Value) (A : Around) (outer : List Env) (s : Shared) (H : Hp) (vs : List V) (Q : VK) (E : XK), Room k (A.deeper (envOfC "of_seen" (defScope s_of_seen) s.heap.objs.size (He.fAd K ("of_seen", none)) cdv)) → sp vs H Q E →
      ∃ t, PSs (cxOf CX0 PG w K mg base ["note", "date", "price", "answers", "head", "word", "day", "strike", "before", "after"] "of_seen" (defScope s_of_seen) (He.fAd K ("of_seen", none)) cdv A outer s H E).nox (defBody s_of_seen) t ∧ t { nx := fun _ H' => Q .non H', rt := Q } (start ["note", "date", "price", "answers", "head", "word", "day", "strike", "before", "after"] vs) H) : Fn w K mg base (k + 1) (He.fAd K ("of_seen", none)) sp := by
  obtain ⟨fd, F⟩ := f_of_seen T
  exact fn0 F sc_of_seen (fun _ _ _ _ _ _ us hl => match us, hl with | [_, _, _, _], _ => rfl) len hbody
/-! lived: note 0, date 1, price 2, answers 3, way 4 -/
theorem sc_lived : FnScope ["note", "date", "price", "answers", "way"] ["note", "date", "price", "answers"] (defScope s_lived) := ⟨rfl, rfl, rfl, by decide +kernel, rfl, by decide +kernel, by decide +kernel⟩
theorem fn_lived {k : Nat} {sp : Sp} (T : TX w K mg) (len : ∀ vs H Q E, sp vs H Q E → vs.length = 4)
    (hbody : ∀ (cdv : Value) (A : Around) (outer : List Env) (s : Shared) (H : Hp) (vs : List V) (Q : VK) (E : XK), Room k (A.deeper (envOfC "lived" (defScope s_lived) s.heap.objs.size (He.fAd K ("lived", none)) cdv)) → sp vs H Q E →
      ∃ t, PSs (cxOf CX0 PG w K mg base ["note", "date", "price", "answers", "way"] "lived" (defScope s_lived) (He.fAd K ("lived", none)) cdv A outer s H E).nox (defBody s_lived) t ∧ t { nx := fun _ H' => Q .non H', rt := Q } (start ["note", "date", "price", "answers", "way"] vs) H) : Fn w K mg base (k + 1) (He.fAd K ("lived", none)) sp := by
  obtain ⟨fd, F⟩ := f_lived T
  exact fn0 F sc_lived (fun _ _ _ _ _ _ us hl => match us, hl with | [_, _, _, _], _ => rfl) len hbody
/-! turned: note 0, date 1, price 2, answers 3, found 4 -/
theorem sc_turned : FnScope ["note", "date", "price", "answers", "found"] ["note", "date", "price", "answers"] (defScope s_turned) := ⟨rfl, rfl, rfl, by decide +kernel, rfl, by decide +kernel, by decide +kernel⟩
/-! endings: note 0, date 1, price 2, found 3, todo 4, answers 5, told 6 -/
theorem sc_endings : FnScope ["note", "date", "price", "found", "todo", "answers", "told"] ["note", "date", "price"] (defScope s_endings) := ⟨rfl, rfl, rfl, by decide +kernel, rfl, by decide +kernel, by decide +kernel⟩
theorem fn_endings {k : Nat} {sp : Sp} (T : TX w K mg) (len : ∀ vs H Q E, sp vs H Q E → vs.length = 3)
    (hbody : ∀ (cdv : Value) (A : Around) (outer : List Env) (s : Shared) (H : Hp) (vs : List V) (Q : VK) (E : XK), Room k (A.deeper (envOfC "endings" (defScope s_endings) s.heap.objs.size (He.fAd K ("endings", none)) cdv)) → sp vs H Q E →
      ∃ t, PSs (cxOf CX0 PG w K mg base ["note", "date", "price", "found", "todo", "answers", "told"] "endings" (defScope s_endings) (He.fAd K ("endings", none)) cdv A outer s H E).nox (defBody s_endings) t ∧ t { nx := fun _ H' => Q .non H', rt := Q } (start ["note", "date", "price", "found", "todo", "answers", "told"] vs) H) : Fn w K mg base (k + 1) (He.fAd K ("endings", none)) sp := by
  obtain ⟨fd, F⟩ := f_endings T
  exact fn0 F sc_endings (fun _ _ _ _ _ _ us hl => match us, hl with | [_, _, _], _ => rfl) len hbody
/-! look_both: lattice 0, notes 1, win 2, date 3, node 4, held 5, note 6 -/
theorem sc_look_both : FnScope ["lattice", "notes", "win", "date", "node", "held", "note"] ["lattice", "notes"] (defScope s_look_both) := ⟨rfl, rfl, rfl, by decide +kernel, rfl, by decide +kernel, by decide +kernel⟩
theorem fn_look_both {k : Nat} {sp : Sp} (T : TX w K mg) (len : ∀ vs H Q E, sp vs H Q E → vs.length = 2)
    (hbody : ∀ (cdv : Value) (A : Around) (outer : List Env) (s : Shared) (H : Hp) (vs : List V) (Q : VK) (E : XK), Room k (A.deeper (envOfC "look_both" (defScope s_look_both) s.heap.objs.size (He.fAd K ("look_both", none)) cdv)) → sp vs H Q E →
      ∃ t, PSs (cxOf CX0 PG w K mg base ["lattice", "notes", "win", "date", "node", "held", "note"] "look_both" (defScope s_look_both) (He.fAd K ("look_both", none)) cdv A outer s H E).nox (defBody s_look_both) t ∧ t { nx := fun _ H' => Q .non H', rt := Q } (start ["lattice", "notes", "win", "date", "node", "held", "note"] vs) H) : Fn w K mg base (k + 1) (He.fAd K ("look_both", none)) sp := by
  obtain ⟨fd, F⟩ := f_look_both T
  exact fn0 F sc_look_both (fun _ _ _ _ _ _ us hl => match us, hl with | [_, _], _ => rfl) len hbody
/-! Machine.__init__: self 0, lattice 1, note 2, here 3, date 4, at 5, row 6, node 7, text 8 -/
theorem sc_M_init : FnScope ["self", "lattice", "note", "here", "date", "at", "row", "node", "text"] ["self", "lattice", "note"] (defScope s_M_init) := ⟨rfl, rfl, rfl, by decide +kernel, rfl, by decide +kernel, by decide +kernel⟩
theorem fn_M_init {k : Nat} {sp : Sp} (T : TX w K mg) (len : ∀ vs H Q E, sp vs H Q E → vs.length = 3)
    (hbody : ∀ (cdv : Value) (A : Around) (outer : List Env) (s : Shared) (H : Hp) (vs : List V) (Q : VK) (E : XK), Room k (A.deeper (envOfC "Machine.__init__" (defScope s_M_init) s.heap.objs.size (He.fAd K ("Machine", some "__init__")) cdv)) → sp vs H Q E →
      ∃ t, PSs (cxOf CX0 PG w K mg base ["self", "lattice", "note", "here", "date", "at", "row", "node", "text"] "Machine.__init__" (defScope s_M_init) (He.fAd K ("Machine", some "__init__")) cdv A outer s H E).nox (defBody s_M_init) t ∧ t { nx := fun _ H' => Q .non H', rt := Q } (start ["self", "lattice", "note", "here", "date", "at", "row", "node", "text"] vs) H) : Fn w K mg base (k + 1) (He.fAd K ("Machine", some "__init__")) sp := by
  obtain ⟨fd, F⟩ := f_M_init T
  exact fn0 F sc_M_init (fun _ _ _ _ _ _ us hl => match us, hl with | [_, _, _], _ => rfl) len hbody
/-! Machine.__len__: self 0 -/
theorem sc_M_len : FnScope ["self"] ["self"] (defScope s_M_len) := ⟨rfl, rfl, rfl, by decide +kernel, rfl, by decide +kernel, by decide +kernel⟩
theorem fn_M_len {k : Nat} {sp : Sp} (T : TX w K mg) (len : ∀ vs H Q E, sp vs H Q E → vs.length = 1)
    (hbody : ∀ (cdv : Value) (A : Around) (outer : List Env) (s : Shared) (H : Hp) (vs : List V) (Q : VK) (E : XK), Room k (A.deeper (envOfC "Machine.__len__" (defScope s_M_len) s.heap.objs.size (He.fAd K ("Machine", some "__len__")) cdv)) → sp vs H Q E →
      ∃ t, PSs (cxOf CX0 PG w K mg base ["self"] "Machine.__len__" (defScope s_M_len) (He.fAd K ("Machine", some "__len__")) cdv A outer s H E).nox (defBody s_M_len) t ∧ t { nx := fun _ H' => Q .non H', rt := Q } (start ["self"] vs) H) : Fn w K mg base (k + 1) (He.fAd K ("Machine", some "__len__")) sp := by
  obtain ⟨fd, F⟩ := f_M_len T
  exact fn0 F sc_M_len (fun _ _ _ _ _ _ us hl => match us, hl with | [_], _ => rfl) len hbody
/-! Machine.later: self 0, date 1, here 2, found 3, node 4, text 5, price 6, answers 7, paid 8, rest 9, step 10 -/
theorem sc_M_later : FnScope ["self", "date", "here", "found", "node", "text", "price", "answers", "paid", "rest", "step"] ["self", "date", "here"] (defScope s_M_later) := ⟨rfl, rfl, rfl, by decide +kernel, rfl, by decide +kernel, by decide +kernel⟩
theorem fn_M_later {k : Nat} {sp : Sp} (T : TX w K mg) (len : ∀ vs H Q E, sp vs H Q E → vs.length = 3)
    (hbody : ∀ (cdv : Value) (A : Around) (outer : List Env) (s : Shared) (H : Hp) (vs : List V) (Q : VK) (E : XK), Room k (A.deeper (envOfC "Machine.later" (defScope s_M_later) s.heap.objs.size (He.fAd K ("Machine", some "later")) cdv)) → sp vs H Q E →
      ∃ t, PSs (cxOf CX0 PG w K mg base ["self", "date", "here", "found", "node", "text", "price", "answers", "paid", "rest", "step"] "Machine.later" (defScope s_M_later) (He.fAd K ("Machine", some "later")) cdv A outer s H E).nox (defBody s_M_later) t ∧ t { nx := fun _ H' => Q .non H', rt := Q } (start ["self", "date", "here", "found", "node", "text", "price", "answers", "paid", "rest", "step"] vs) H) : Fn w K mg base (k + 1) (He.fAd K ("Machine", some "later")) sp := by
  obtain ⟨fd, F⟩ := f_M_later T
  exact fn0 F sc_M_later (fun _ _ _ _ _ _ us hl => match us, hl with | [_, _, _], _ => rfl) len hbody
/-! Machine.stand: self 0, number 1 -/
theorem sc_M_stand : FnScope ["self", "number"] ["self", "number"] (defScope s_M_stand) := ⟨rfl, rfl, rfl, by decide +kernel, rfl, by decide +kernel, by decide +kernel⟩
theorem fn_M_stand {k : Nat} {sp : Sp} (T : TX w K mg) (len : ∀ vs H Q E, sp vs H Q E → vs.length = 2)
    (hbody : ∀ (cdv : Value) (A : Around) (outer : List Env) (s : Shared) (H : Hp) (vs : List V) (Q : VK) (E : XK), Room k (A.deeper (envOfC "Machine.stand" (defScope s_M_stand) s.heap.objs.size (He.fAd K ("Machine", some "stand")) cdv)) → sp vs H Q E →
      ∃ t, PSs (cxOf CX0 PG w K mg base ["self", "number"] "Machine.stand" (defScope s_M_stand) (He.fAd K ("Machine", some "stand")) cdv A outer s H E).nox (defBody s_M_stand) t ∧ t { nx := fun _ H' => Q .non H', rt := Q } (start ["self", "number"] vs) H) : Fn w K mg base (k + 1) (He.fAd K ("Machine", some "stand")) sp := by
  obtain ⟨fd, F⟩ := f_M_stand T
  exact fn0 F sc_M_stand (fun _ _ _ _ _ _ us hl => match us, hl with | [_, _], _ => rfl) len hbody
/-! Machine.at: self 0, number 1, answers 2, date 3, node 4, text 5 -/
theorem sc_M_at : FnScope ["self", "number", "answers", "date", "node", "text"] ["self", "number", "answers"] (defScope s_M_at) := ⟨rfl, rfl, rfl, by decide +kernel, rfl, by decide +kernel, by decide +kernel⟩
/-! Machine.ahead: self 0, number 1, answers 2, date 3, node 4, text 5, found 6, up 7, down 8, rest 9 -/
theorem sc_M_ahead : FnScope ["self", "number", "answers", "date", "node", "text", "found", "up", "down", "rest"] ["self", "number", "answers"] (defScope s_M_ahead) := ⟨rfl, rfl, rfl, by decide +kernel, rfl, by decide +kernel, by decide +kernel⟩
/-! weighed: lattice 0, date 1, node 2, up 3, down 4, share 5 -/
theorem sc_weighed : FnScope ["lattice", "date", "node", "up", "down", "share"] ["lattice", "date", "node", "up", "down"] (defScope s_weighed) := ⟨rfl, rfl, rfl, by decide +kernel, rfl, by decide +kernel, by decide +kernel⟩
theorem fn_weighed {k : Nat} {sp : Sp} (T : TX w K mg) (len : ∀ vs H Q E, sp vs H Q E → vs.length = 5)
    (hbody : ∀ (cdv : Value) (A : Around) (outer : List Env) (s : Shared) (H : Hp) (vs : List V) (Q : VK) (E : XK), Room k (A.deeper (envOfC "weighed" (defScope s_weighed) s.heap.objs.size (He.fAd K ("weighed", none)) cdv)) → sp vs H Q E →
      ∃ t, PSs (cxOf CX0 PG w K mg base ["lattice", "date", "node", "up", "down", "share"] "weighed" (defScope s_weighed) (He.fAd K ("weighed", none)) cdv A outer s H E).nox (defBody s_weighed) t ∧ t { nx := fun _ H' => Q .non H', rt := Q } (start ["lattice", "date", "node", "up", "down", "share"] vs) H) : Fn w K mg base (k + 1) (He.fAd K ("weighed", none)) sp := by
  obtain ⟨fd, F⟩ := f_weighed T
  exact fn0 F sc_weighed (fun _ _ _ _ _ _ us hl => match us, hl with | [_, _, _, _, _], _ => rfl) len hbody
/-! chosen: owner 0, yes 1, no 2 -/
theorem sc_chosen : FnScope ["owner", "yes", "no"] ["owner", "yes", "no"] (defScope s_chosen) := ⟨rfl, rfl, rfl, by decide +kernel, rfl, by decide +kernel, by decide +kernel⟩
theorem fn_chosen {k : Nat} {sp : Sp} (T : TX w K mg) (len : ∀ vs H Q E, sp vs H Q E → vs.length = 3)
    (hbody : ∀ (cdv : Value) (A : Around) (outer : List Env) (s : Shared) (H : Hp) (vs : List V) (Q : VK) (E : XK), Room k (A.deeper (envOfC "chosen" (defScope s_chosen) s.heap.objs.size (He.fAd K ("chosen", none)) cdv)) → sp vs H Q E →
      ∃ t, PSs (cxOf CX0 PG w K mg base ["owner", "yes", "no"] "chosen" (defScope s_chosen) (He.fAd K ("chosen", none)) cdv A outer s H E).nox (defBody s_chosen) t ∧ t { nx := fun _ H' => Q .non H', rt := Q } (start ["owner", "yes", "no"] vs) H) : Fn w K mg base (k + 1) (He.fAd K ("chosen", none)) sp := by
  obtain ⟨fd, F⟩ := f_chosen T
  exact fn0 F sc_chosen (fun _ _ _ _ _ _ us hl => match us, hl with | [_, _, _], _ => rfl) len hbody
/-! Worth.__init__: self 0, lattice 1, note 2, number 3 -/
theorem sc_W_init : FnScope ["self", "lattice", "note", "number"] ["self", "lattice", "note"] (defScope s_W_init) := ⟨rfl, rfl, rfl, by decide +kernel, rfl, by decide +kernel, by decide +kernel⟩
theorem fn_W_init {k : Nat} {sp : Sp} (T : TX w K mg) (len : ∀ vs H Q E, sp vs H Q E → vs.length = 3)
    (hbody : ∀ (cdv : Value) (A : Around) (outer : List Env) (s : Shared) (H : Hp) (vs : List V) (Q : VK) (E : XK), Room k (A.deeper (envOfC "Worth.__init__" (defScope s_W_init) s.heap.objs.size (He.fAd K ("Worth", some "__init__")) cdv)) → sp vs H Q E →
      ∃ t, PSs (cxOf CX0 PG w K mg base ["self", "lattice", "note", "number"] "Worth.__init__" (defScope s_W_init) (He.fAd K ("Worth", some "__init__")) cdv A outer s H E).nox (defBody s_W_init) t ∧ t { nx := fun _ H' => Q .non H', rt := Q } (start ["self", "lattice", "note", "number"] vs) H) : Fn w K mg base (k + 1) (He.fAd K ("Worth", some "__init__")) sp := by
  obtain ⟨fd, F⟩ := f_W_init T
  exact fn0 F sc_W_init (fun _ _ _ _ _ _ us hl => match us, hl with | [_, _, _], _ => rfl) len hbody
/-! Worth.reckoned: self 0, number 1, answers 2, found 3, yes 4, no 5, following 6, up 7, down 8, date 9, node 10, text 11 -/
theorem sc_W_reckoned : FnScope ["self", "number", "answers", "found", "yes", "no", "following", "up", "down", "date", "node", "text"] ["self", "number", "answers"] (defScope s_W_reckoned) := ⟨rfl, rfl, rfl, by decide +kernel, rfl, by decide +kernel, by decide +kernel⟩
theorem fn_W_reckoned {k : Nat} {sp : Sp} (T : TX w K mg) (len : ∀ vs H Q E, sp vs H Q E → vs.length = 3)
    (hbody : ∀ (cdv : Value) (A : Around) (outer : List Env) (s : Shared) (H : Hp) (vs : List V) (Q : VK) (E : XK), Room k (A.deeper (envOfC "Worth.reckoned" (defScope s_W_reckoned) s.heap.objs.size (He.fAd K ("Worth", some "reckoned")) cdv)) → sp vs H Q E →
      ∃ t, PSs (cxOf CX0 PG w K mg base ["self", "number", "answers", "found", "yes", "no", "following", "up", "down", "date", "node", "text"] "Worth.reckoned" (defScope s_W_reckoned) (He.fAd K ("Worth", some "reckoned")) cdv A outer s H E).nox (defBody s_W_reckoned) t ∧ t { nx := fun _ H' => Q .non H', rt := Q } (start ["self", "number", "answers", "found", "yes", "no", "following", "up", "down", "date", "node", "text"] vs) H) : Fn w K mg base (k + 1) (He.fAd K ("Worth", some "reckoned")) sp := by
  obtain ⟨fd, F⟩ := f_W_reckoned T
  exact fn0 F sc_W_reckoned (fun _ _ _ _ _ _ us hl => match us, hl with | [_, _, _], _ => rfl) len hbody
/-! Worth.worth: self 0, number 1 -/
theorem sc_W_worth : FnScope ["self", "number"] ["self", "number"] (defScope s_W_worth) := ⟨rfl, rfl, rfl, by decide +kernel, rfl, by decide +kernel, by decide +kernel⟩
/-! Worth.plan: self 0, number 1, answers 2, found 3, yes 4 -/
theorem sc_W_plan : FnScope ["self", "number", "answers", "found", "yes"] ["self", "number", "answers"] (defScope s_W_plan) := ⟨rfl, rfl, rfl, by decide +kernel, rfl, by decide +kernel, by decide +kernel⟩
/-! Worth.region: self 0, name 1, found 2, number 3, todo 4, answers 5, told 6 -/
theorem sc_W_region : FnScope ["self", "name", "found", "number", "todo", "answers", "told"] ["self", "name"] (defScope s_W_region) := ⟨rfl, rfl, rfl, by decide +kernel, rfl, by decide +kernel, by decide +kernel⟩
theorem fn_W_region {k : Nat} {sp : Sp} (T : TX w K mg) (len : ∀ vs H Q E, sp vs H Q E → vs.length = 2)
    (hbody : ∀ (cdv : Value) (A : Around) (outer : List Env) (s : Shared) (H : Hp) (vs : List V) (Q : VK) (E : XK), Room k (A.deeper (envOfC "Worth.region" (defScope s_W_region) s.heap.objs.size (He.fAd K ("Worth", some "region")) cdv)) → sp vs H Q E →
      ∃ t, PSs (cxOf CX0 PG w K mg base ["self", "name", "found", "number", "todo", "answers", "told"] "Worth.region" (defScope s_W_region) (He.fAd K ("Worth", some "region")) cdv A outer s H E).nox (defBody s_W_region) t ∧ t { nx := fun _ H' => Q .non H', rt := Q } (start ["self", "name", "found", "number", "todo", "answers", "told"] vs) H) : Fn w K mg base (k + 1) (He.fAd K ("Worth", some "region")) sp := by
  obtain ⟨fd, F⟩ := f_W_region T
  exact fn0 F sc_W_region (fun _ _ _ _ _ _ us hl => match us, hl with | [_, _], _ => rfl) len hbody
/-! look_shape: prices 0, rates 1, steps 2, date 3, row 4 -/
theorem sc_look_shape : FnScope ["prices", "rates", "steps", "date", "row"] ["prices", "rates", "steps"] (defScope s_look_shape) := ⟨rfl, rfl, rfl, by decide +kernel, rfl, by decide +kernel, by decide +kernel⟩
theorem fn_look_shape {k : Nat} {sp : Sp} (T : TX w K mg) (len : ∀ vs H Q E, sp vs H Q E → vs.length = 3)
    (hbody : ∀ (cdv : Value) (A : Around) (outer : List Env) (s : Shared) (H : Hp) (vs : List V) (Q : VK) (E : XK), Room k (A.deeper (envOfC "look_shape" (defScope s_look_shape) s.heap.objs.size (He.fAd K ("look_shape", none)) cdv)) → sp vs H Q E →
      ∃ t, PSs (cxOf CX0 PG w K mg base ["prices", "rates", "steps", "date", "row"] "look_shape" (defScope s_look_shape) (He.fAd K ("look_shape", none)) cdv A outer s H E).nox (defBody s_look_shape) t ∧ t { nx := fun _ H' => Q .non H', rt := Q } (start ["prices", "rates", "steps", "date", "row"] vs) H) : Fn w K mg base (k + 1) (He.fAd K ("look_shape", none)) sp := by
  obtain ⟨fd, F⟩ := f_look_shape T
  exact fn0 F sc_look_shape (fun _ _ _ _ _ _ us hl => match us, hl with | [_, _, _], _ => rfl) len hbody
/-! look_above: rows 0, rated 1, date 2, row 3, node 4, over 5, under 6 -/
theorem sc_look_above : FnScope ["rows", "rated", "date", "row", "node", "over", "under"] ["rows", "rated"] (defScope s_look_above) := ⟨rfl, rfl, rfl, by decide +kernel, rfl, by decide +kernel, by decide +kernel⟩
/-! look_steps: prices 0, steps 1, date 2, row 3, later 4, node 5, up 6, down 7 -/
theorem sc_look_steps : FnScope ["prices", "steps", "date", "row", "later", "node", "up", "down"] ["prices", "steps"] (defScope s_look_steps) := ⟨rfl, rfl, rfl, by decide +kernel, rfl, by decide +kernel, by decide +kernel⟩
theorem fn_look_steps {k : Nat} {sp : Sp} (T : TX w K mg) (len : ∀ vs H Q E, sp vs H Q E → vs.length = 2)
    (hbody : ∀ (cdv : Value) (A : Around) (outer : List Env) (s : Shared) (H : Hp) (vs : List V) (Q : VK) (E : XK), Room k (A.deeper (envOfC "look_steps" (defScope s_look_steps) s.heap.objs.size (He.fAd K ("look_steps", none)) cdv)) → sp vs H Q E →
      ∃ t, PSs (cxOf CX0 PG w K mg base ["prices", "steps", "date", "row", "later", "node", "up", "down"] "look_steps" (defScope s_look_steps) (He.fAd K ("look_steps", none)) cdv A outer s H E).nox (defBody s_look_steps) t ∧ t { nx := fun _ H' => Q .non H', rt := Q } (start ["prices", "steps", "date", "row", "later", "node", "up", "down"] vs) H) : Fn w K mg base (k + 1) (He.fAd K ("look_steps", none)) sp := by
  obtain ⟨fd, F⟩ := f_look_steps T
  exact fn0 F sc_look_steps (fun _ _ _ _ _ _ us hl => match us, hl with | [_, _], _ => rfl) len hbody
/-! Lattice.__init__: self 0, prices 1, rates 2, steps 3, row 4, up 5, down 6 -/
theorem sc_L_init : FnScope ["self", "prices", "rates", "steps", "row", "up", "down"] ["self", "prices", "rates", "steps"] (defScope s_L_init) := ⟨rfl, rfl, rfl, by decide +kernel, rfl, by decide +kernel, by decide +kernel⟩
theorem fn_L_init {k : Nat} {sp : Sp} (T : TX w K mg) (len : ∀ vs H Q E, sp vs H Q E → vs.length = 4)
    (hbody : ∀ (cdv : Value) (A : Around) (outer : List Env) (s : Shared) (H : Hp) (vs : List V) (Q : VK) (E : XK), Room k (A.deeper (envOfC "Lattice.__init__" (defScope s_L_init) s.heap.objs.size (He.fAd K ("Lattice", some "__init__")) cdv)) → sp vs H Q E →
      ∃ t, PSs (cxOf CX0 PG w K mg base ["self", "prices", "rates", "steps", "row", "up", "down"] "Lattice.__init__" (defScope s_L_init) (He.fAd K ("Lattice", some "__init__")) cdv A outer s H E).nox (defBody s_L_init) t ∧ t { nx := fun _ H' => Q .non H', rt := Q } (start ["self", "prices", "rates", "steps", "row", "up", "down"] vs) H) : Fn w K mg base (k + 1) (He.fAd K ("Lattice", some "__init__")) sp := by
  obtain ⟨fd, F⟩ := f_L_init T
  exact fn0 F sc_L_init (fun _ _ _ _ _ _ us hl => match us, hl with | [_, _, _, _], _ => rfl) len hbody
/-! Lattice.last: self 0 -/
theorem sc_L_last : FnScope ["self"] ["self"] (defScope s_L_last) := ⟨rfl, rfl, rfl, by decide +kernel, rfl, by decide +kernel, by decide +kernel⟩
theorem fn_L_last {k : Nat} {sp : Sp} (T : TX w K mg) (len : ∀ vs H Q E, sp vs H Q E → vs.length = 1)
    (hbody : ∀ (cdv : Value) (A : Around) (outer : List Env) (s : Shared) (H : Hp) (vs : List V) (Q : VK) (E : XK), Room k (A.deeper (envOfC "Lattice.last" (defScope s_L_last) s.heap.objs.size (He.fAd K ("Lattice", some "last")) cdv)) → sp vs H Q E →
      ∃ t, PSs (cxOf CX0 PG w K mg base ["self"] "Lattice.last" (defScope s_L_last) (He.fAd K ("Lattice", some "last")) cdv A outer s H E).nox (defBody s_L_last) t ∧ t { nx := fun _ H' => Q .non H', rt := Q } (start ["self"] vs) H) : Fn w K mg base (k + 1) (He.fAd K ("Lattice", some "last")) sp := by
  obtain ⟨fd, F⟩ := f_L_last T
  exact fn0 F sc_L_last (fun _ _ _ _ _ _ us hl => match us, hl with | [_], _ => rfl) len hbody
/-! Lattice.many: self 0, date 1 -/
theorem sc_L_many : FnScope ["self", "date"] ["self", "date"] (defScope s_L_many) := ⟨rfl, rfl, rfl, by decide +kernel, rfl, by decide +kernel, by decide +kernel⟩
theorem fn_L_many {k : Nat} {sp : Sp} (T : TX w K mg) (len : ∀ vs H Q E, sp vs H Q E → vs.length = 2)
    (hbody : ∀ (cdv : Value) (A : Around) (outer : List Env) (s : Shared) (H : Hp) (vs : List V) (Q : VK) (E : XK), Room k (A.deeper (envOfC "Lattice.many" (defScope s_L_many) s.heap.objs.size (He.fAd K ("Lattice", some "many")) cdv)) → sp vs H Q E →
      ∃ t, PSs (cxOf CX0 PG w K mg base ["self", "date"] "Lattice.many" (defScope s_L_many) (He.fAd K ("Lattice", some "many")) cdv A outer s H E).nox (defBody s_L_many) t ∧ t { nx := fun _ H' => Q .non H', rt := Q } (start ["self", "date"] vs) H) : Fn w K mg base (k + 1) (He.fAd K ("Lattice", some "many")) sp := by
  obtain ⟨fd, F⟩ := f_L_many T
  exact fn0 F sc_L_many (fun _ _ _ _ _ _ us hl => match us, hl with | [_, _], _ => rfl) len hbody
/-! Lattice.look_node: self 0, date 1, node 2, stepping 3 -/
theorem sc_L_look_node : FnScope ["self", "date", "node", "stepping"] ["self", "date", "node", "stepping"] (defScope s_L_look_node) := ⟨rfl, rfl, rfl, by decide +kernel, rfl, by decide +kernel, by decide +kernel⟩
/-! Lattice.price: self 0, date 1, node 2 -/
theorem sc_L_price : FnScope ["self", "date", "node"] ["self", "date", "node"] (defScope s_L_price) := ⟨rfl, rfl, rfl, by decide +kernel, rfl, by decide +kernel, by decide +kernel⟩
theorem fn_L_price {k : Nat} {sp : Sp} (T : TX w K mg) (len : ∀ vs H Q E, sp vs H Q E → vs.length = 3)
    (hbody : ∀ (cdv : Value) (A : Around) (outer : List Env) (s : Shared) (H : Hp) (vs : List V) (Q : VK) (E : XK), Room k (A.deeper (envOfC "Lattice.price" (defScope s_L_price) s.heap.objs.size (He.fAd K ("Lattice", some "price")) cdv)) → sp vs H Q E →
      ∃ t, PSs (cxOf CX0 PG w K mg base ["self", "date", "node"] "Lattice.price" (defScope s_L_price) (He.fAd K ("Lattice", some "price")) cdv A outer s H E).nox (defBody s_L_price) t ∧ t { nx := fun _ H' => Q .non H', rt := Q } (start ["self", "date", "node"] vs) H) : Fn w K mg base (k + 1) (He.fAd K ("Lattice", some "price")) sp := by
  obtain ⟨fd, F⟩ := f_L_price T
  exact fn0 F sc_L_price (fun _ _ _ _ _ _ us hl => match us, hl with | [_, _, _], _ => rfl) len hbody
/-! Lattice.rate: self 0, date 1, node 2 -/
theorem sc_L_rate : FnScope ["self", "date", "node"] ["self", "date", "node"] (defScope s_L_rate) := ⟨rfl, rfl, rfl, by decide +kernel, rfl, by decide +kernel, by decide +kernel⟩
theorem fn_L_rate {k : Nat} {sp : Sp} (T : TX w K mg) (len : ∀ vs H Q E, sp vs H Q E → vs.length = 3)
    (hbody : ∀ (cdv : Value) (A : Around) (outer : List Env) (s : Shared) (H : Hp) (vs : List V) (Q : VK) (E : XK), Room k (A.deeper (envOfC "Lattice.rate" (defScope s_L_rate) s.heap.objs.size (He.fAd K ("Lattice", some "rate")) cdv)) → sp vs H Q E →
      ∃ t, PSs (cxOf CX0 PG w K mg base ["self", "date", "node"] "Lattice.rate" (defScope s_L_rate) (He.fAd K ("Lattice", some "rate")) cdv A outer s H E).nox (defBody s_L_rate) t ∧ t { nx := fun _ H' => Q .non H', rt := Q } (start ["self", "date", "node"] vs) H) : Fn w K mg base (k + 1) (He.fAd K ("Lattice", some "rate")) sp := by
  obtain ⟨fd, F⟩ := f_L_rate T
  exact fn0 F sc_L_rate (fun _ _ _ _ _ _ us hl => match us, hl with | [_, _, _], _ => rfl) len hbody
/-! Lattice.step: self 0, date 1, node 2 -/
theorem sc_L_step : FnScope ["self", "date", "node"] ["self", "date", "node"] (defScope s_L_step) := ⟨rfl, rfl, rfl, by decide +kernel, rfl, by decide +kernel, by decide +kernel⟩
theorem fn_L_step {k : Nat} {sp : Sp} (T : TX w K mg) (len : ∀ vs H Q E, sp vs H Q E → vs.length = 3)
    (hbody : ∀ (cdv : Value) (A : Around) (outer : List Env) (s : Shared) (H : Hp) (vs : List V) (Q : VK) (E : XK), Room k (A.deeper (envOfC "Lattice.step" (defScope s_L_step) s.heap.objs.size (He.fAd K ("Lattice", some "step")) cdv)) → sp vs H Q E →
      ∃ t, PSs (cxOf CX0 PG w K mg base ["self", "date", "node"] "Lattice.step" (defScope s_L_step) (He.fAd K ("Lattice", some "step")) cdv A outer s H E).nox (defBody s_L_step) t ∧ t { nx := fun _ H' => Q .non H', rt := Q } (start ["self", "date", "node"] vs) H) : Fn w K mg base (k + 1) (He.fAd K ("Lattice", some "step")) sp := by
  obtain ⟨fd, F⟩ := f_L_step T
  exact fn0 F sc_L_step (fun _ _ _ _ _ _ us hl => match us, hl with | [_, _, _], _ => rfl) len hbody
/-! Lattice.sides: self 0, date 1, node 2, up 3, down 4, later 5 -/
theorem sc_L_sides : FnScope ["self", "date", "node", "up", "down", "later"] ["self", "date", "node"] (defScope s_L_sides) := ⟨rfl, rfl, rfl, by decide +kernel, rfl, by decide +kernel, by decide +kernel⟩
theorem fn_L_sides {k : Nat} {sp : Sp} (T : TX w K mg) (len : ∀ vs H Q E, sp vs H Q E → vs.length = 3)
    (hbody : ∀ (cdv : Value) (A : Around) (outer : List Env) (s : Shared) (H : Hp) (vs : List V) (Q : VK) (E : XK), Room k (A.deeper (envOfC "Lattice.sides" (defScope s_L_sides) s.heap.objs.size (He.fAd K ("Lattice", some "sides")) cdv)) → sp vs H Q E →
      ∃ t, PSs (cxOf CX0 PG w K mg base ["self", "date", "node", "up", "down", "later"] "Lattice.sides" (defScope s_L_sides) (He.fAd K ("Lattice", some "sides")) cdv A outer s H E).nox (defBody s_L_sides) t ∧ t { nx := fun _ H' => Q .non H', rt := Q } (start ["self", "date", "node", "up", "down", "later"] vs) H) : Fn w K mg base (k + 1) (He.fAd K ("Lattice", some "sides")) sp := by
  obtain ⟨fd, F⟩ := f_L_sides T
  exact fn0 F sc_L_sides (fun _ _ _ _ _ _ us hl => match us, hl with | [_, _, _], _ => rfl) len hbody
/-! Lattice.share: self 0, date 1, node 2, grown 3, high 4, low 5 -/
theorem sc_L_share : FnScope ["self", "date", "node", "grown", "high", "low"] ["self", "date", "node"] (defScope s_L_share) := ⟨rfl, rfl, rfl, by decide +kernel, rfl, by decide +kernel, by decide +kernel⟩
theorem fn_L_share {k : Nat} {sp : Sp} (T : TX w K mg) (len : ∀ vs H Q E, sp vs H Q E → vs.length = 3)
    (hbody : ∀ (cdv : Value) (A : Around) (outer : List Env) (s : Shared) (H : Hp) (vs : List V) (Q : VK) (E : XK), Room k (A.deeper (envOfC "Lattice.share" (defScope s_L_share) s.heap.objs.size (He.fAd K ("Lattice", some "share")) cdv)) → sp vs H Q E →
      ∃ t, PSs (cxOf CX0 PG w K mg base ["self", "date", "node", "grown", "high", "low"] "Lattice.share" (defScope s_L_share) (He.fAd K ("Lattice", some "share")) cdv A outer s H E).nox (defBody s_L_share) t ∧ t { nx := fun _ H' => Q .non H', rt := Q } (start ["self", "date", "node", "grown", "high", "low"] vs) H) : Fn w K mg base (k + 1) (He.fAd K ("Lattice", some "share")) sp := by
  obtain ⟨fd, F⟩ := f_L_share T
  exact fn0 F sc_L_share (fun _ _ _ _ _ _ us hl => match us, hl with | [_, _, _], _ => rfl) len hbody
/-! Lattice.win: self 0, date 1, node 2, grown 3, high 4, low 5, price 6 -/
theorem sc_L_win : FnScope ["self", "date", "node", "grown", "high", "low", "price"] ["self"] (defScope s_L_win) := ⟨rfl, rfl, rfl, by decide +kernel, rfl, by decide +kernel, by decide +kernel⟩
theorem fn_L_win {k : Nat} {sp : Sp} (T : TX w K mg) (len : ∀ vs H Q E, sp vs H Q E → vs.length = 1)
    (hbody : ∀ (cdv : Value) (A : Around) (outer : List Env) (s : Shared) (H : Hp) (vs : List V) (Q : VK) (E : XK), Room k (A.deeper (envOfC "Lattice.win" (defScope s_L_win) s.heap.objs.size (He.fAd K ("Lattice", some "win")) cdv)) → sp vs H Q E →
      ∃ t, PSs (cxOf CX0 PG w K mg base ["self", "date", "node", "grown", "high", "low", "price"] "Lattice.win" (defScope s_L_win) (He.fAd K ("Lattice", some "win")) cdv A outer s H E).nox (defBody s_L_win) t ∧ t { nx := fun _ H' => Q .non H', rt := Q } (start ["self", "date", "node", "grown", "high", "low", "price"] vs) H) : Fn w K mg base (k + 1) (He.fAd K ("Lattice", some "win")) sp := by
  obtain ⟨fd, F⟩ := f_L_win T
  exact fn0 F sc_L_win (fun _ _ _ _ _ _ us hl => match us, hl with | [_], _ => rfl) len hbody
/-! _law_box: _law_script 0 -/
theorem sc_Lbox : FnScope ["_law_script"] ["_law_script"] (defScope s_Lbox) := ⟨rfl, rfl, rfl, by decide +kernel, rfl, by decide +kernel, by decide +kernel⟩
theorem fn_Lbox {k : Nat} {sp : Sp} (T : TX w K mg) (len : ∀ vs H Q E, sp vs H Q E → vs.length = 1)
    (hbody : ∀ (cdv : Value) (A : Around) (outer : List Env) (s : Shared) (H : Hp) (vs : List V) (Q : VK) (E : XK), Room k (A.deeper (envOfC "_law_box" (defScope s_Lbox) s.heap.objs.size (He.fAd K ("_law_box", none)) cdv)) → sp vs H Q E →
      ∃ t, PSs (cxOf CX0 PG w K mg base ["_law_script"] "_law_box" (defScope s_Lbox) (He.fAd K ("_law_box", none)) cdv A outer s H E).nox (defBody s_Lbox) t ∧ t { nx := fun _ H' => Q .non H', rt := Q } (start ["_law_script"] vs) H) : Fn w K mg base (k + 1) (He.fAd K ("_law_box", none)) sp := by
  obtain ⟨fd, F⟩ := f_Lbox T
  exact fn0 F sc_Lbox (fun _ _ _ _ _ _ us hl => match us, hl with | [_], _ => rfl) len hbody
/-! _law_take: _law_box_here 0, _law_many 1, _law_cell 2, _law_seed 3, _law_got 4 -/
theorem sc_Ltake : FnScope ["_law_box_here", "_law_many", "_law_cell", "_law_seed", "_law_got"] ["_law_box_here", "_law_many"] (defScope s_Ltake) := ⟨rfl, rfl, rfl, by decide +kernel, rfl, by decide +kernel, by decide +kernel⟩
theorem fn_Ltake {k : Nat} {sp : Sp} (T : TX w K mg) (len : ∀ vs H Q E, sp vs H Q E → vs.length = 2)
    (hbody : ∀ (cdv : Value) (A : Around) (outer : List Env) (s : Shared) (H : Hp) (vs : List V) (Q : VK) (E : XK), Room k (A.deeper (envOfC "_law_take" (defScope s_Ltake) s.heap.objs.size (He.fAd K ("_law_take", none)) cdv)) → sp vs H Q E →
      ∃ t, PSs (cxOf CX0 PG w K mg base ["_law_box_here", "_law_many", "_law_cell", "_law_seed", "_law_got"] "_law_take" (defScope s_Ltake) (He.fAd K ("_law_take", none)) cdv A outer s H E).nox (defBody s_Ltake) t ∧ t { nx := fun _ H' => Q .non H', rt := Q } (start ["_law_box_here", "_law_many", "_law_cell", "_law_seed", "_law_got"] vs) H) : Fn w K mg base (k + 1) (He.fAd K ("_law_take", none)) sp := by
  obtain ⟨fd, F⟩ := f_Ltake T
  exact fn0 F sc_Ltake (fun _ _ _ _ _ _ us hl => match us, hl with | [_, _], _ => rfl) len hbody
/-! _law_one: _law_box_here 0, _law_some 1 -/
theorem sc_Lone : FnScope ["_law_box_here", "_law_some"] ["_law_box_here", "_law_some"] (defScope s_Lone) := ⟨rfl, rfl, rfl, by decide +kernel, rfl, by decide +kernel, by decide +kernel⟩
theorem fn_Lone {k : Nat} {sp : Sp} (T : TX w K mg) (len : ∀ vs H Q E, sp vs H Q E → vs.length = 2)
    (hbody : ∀ (cdv : Value) (A : Around) (outer : List Env) (s : Shared) (H : Hp) (vs : List V) (Q : VK) (E : XK), Room k (A.deeper (envOfC "_law_one" (defScope s_Lone) s.heap.objs.size (He.fAd K ("_law_one", none)) cdv)) → sp vs H Q E →
      ∃ t, PSs (cxOf CX0 PG w K mg base ["_law_box_here", "_law_some"] "_law_one" (defScope s_Lone) (He.fAd K ("_law_one", none)) cdv A outer s H E).nox (defBody s_Lone) t ∧ t { nx := fun _ H' => Q .non H', rt := Q } (start ["_law_box_here", "_law_some"] vs) H) : Fn w K mg base (k + 1) (He.fAd K ("_law_one", none)) sp := by
  obtain ⟨fd, F⟩ := f_Lone T
  exact fn0 F sc_Lone (fun _ _ _ _ _ _ us hl => match us, hl with | [_, _], _ => rfl) len hbody
/-! _law_near: _law_box_here 0, _law_far 1 -/
theorem sc_Lnear : FnScope ["_law_box_here", "_law_far"] ["_law_box_here", "_law_far"] (defScope s_Lnear) := ⟨rfl, rfl, rfl, by decide +kernel, rfl, by decide +kernel, by decide +kernel⟩
theorem fn_Lnear {k : Nat} {sp : Sp} (T : TX w K mg) (len : ∀ vs H Q E, sp vs H Q E → vs.length = 2)
    (hbody : ∀ (cdv : Value) (A : Around) (outer : List Env) (s : Shared) (H : Hp) (vs : List V) (Q : VK) (E : XK), Room k (A.deeper (envOfC "_law_near" (defScope s_Lnear) s.heap.objs.size (He.fAd K ("_law_near", none)) cdv)) → sp vs H Q E →
      ∃ t, PSs (cxOf CX0 PG w K mg base ["_law_box_here", "_law_far"] "_law_near" (defScope s_Lnear) (He.fAd K ("_law_near", none)) cdv A outer s H E).nox (defBody s_Lnear) t ∧ t { nx := fun _ H' => Q .non H', rt := Q } (start ["_law_box_here", "_law_far"] vs) H) : Fn w K mg base (k + 1) (He.fAd K ("_law_near", none)) sp := by
  obtain ⟨fd, F⟩ := f_Lnear T
  exact fn0 F sc_Lnear (fun _ _ _ _ _ _ us hl => match us, hl with | [_, _], _ => rfl) len hbody
/-! _law_common: _law_one_here 0, _law_other 1 -/
theorem sc_Lcommon : FnScope ["_law_one_here", "_law_other"] ["_law_one_here", "_law_other"] (defScope s_Lcommon) := ⟨rfl, rfl, rfl, by decide +kernel, rfl, by decide +kernel, by decide +kernel⟩
theorem fn_Lcommon {k : Nat} {sp : Sp} (T : TX w K mg) (len : ∀ vs H Q E, sp vs H Q E → vs.length = 2)
    (hbody : ∀ (cdv : Value) (A : Around) (outer : List Env) (s : Shared) (H : Hp) (vs : List V) (Q : VK) (E : XK), Room k (A.deeper (envOfC "_law_common" (defScope s_Lcommon) s.heap.objs.size (He.fAd K ("_law_common", none)) cdv)) → sp vs H Q E →
      ∃ t, PSs (cxOf CX0 PG w K mg base ["_law_one_here", "_law_other"] "_law_common" (defScope s_Lcommon) (He.fAd K ("_law_common", none)) cdv A outer s H E).nox (defBody s_Lcommon) t ∧ t { nx := fun _ H' => Q .non H', rt := Q } (start ["_law_one_here", "_law_other"] vs) H) : Fn w K mg base (k + 1) (He.fAd K ("_law_common", none)) sp := by
  obtain ⟨fd, F⟩ := f_Lcommon T
  exact fn0 F sc_Lcommon (fun _ _ _ _ _ _ us hl => match us, hl with | [_, _], _ => rfl) len hbody
/-! _law_low: _law_num 0, _law_den 1, _law_part_of 2 -/
theorem sc_Llow : FnScope ["_law_num", "_law_den", "_law_part_of"] ["_law_num", "_law_den"] (defScope s_Llow) := ⟨rfl, rfl, rfl, by decide +kernel, rfl, by decide +kernel, by decide +kernel⟩
theorem fn_Llow {k : Nat} {sp : Sp} (T : TX w K mg) (len : ∀ vs H Q E, sp vs H Q E → vs.length = 2)
    (hbody : ∀ (cdv : Value) (A : Around) (outer : List Env) (s : Shared) (H : Hp) (vs : List V) (Q : VK) (E : XK), Room k (A.deeper (envOfC "_law_low" (defScope s_Llow) s.heap.objs.size (He.fAd K ("_law_low", none)) cdv)) → sp vs H Q E →
      ∃ t, PSs (cxOf CX0 PG w K mg base ["_law_num", "_law_den", "_law_part_of"] "_law_low" (defScope s_Llow) (He.fAd K ("_law_low", none)) cdv A outer s H E).nox (defBody s_Llow) t ∧ t { nx := fun _ H' => Q .non H', rt := Q } (start ["_law_num", "_law_den", "_law_part_of"] vs) H) : Fn w K mg base (k + 1) (He.fAd K ("_law_low", none)) sp := by
  obtain ⟨fd, F⟩ := f_Llow T
  exact fn0 F sc_Llow (fun _ _ _ _ _ _ us hl => match us, hl with | [_, _], _ => rfl) len hbody
/-! _law_sum: _law_one_here 0, _law_other 1 -/
theorem sc_Lsum : FnScope ["_law_one_here", "_law_other"] ["_law_one_here", "_law_other"] (defScope s_Lsum) := ⟨rfl, rfl, rfl, by decide +kernel, rfl, by decide +kernel, by decide +kernel⟩
theorem fn_Lsum {k : Nat} {sp : Sp} (T : TX w K mg) (len : ∀ vs H Q E, sp vs H Q E → vs.length = 2)
    (hbody : ∀ (cdv : Value) (A : Around) (outer : List Env) (s : Shared) (H : Hp) (vs : List V) (Q : VK) (E : XK), Room k (A.deeper (envOfC "_law_sum" (defScope s_Lsum) s.heap.objs.size (He.fAd K ("_law_sum", none)) cdv)) → sp vs H Q E →
      ∃ t, PSs (cxOf CX0 PG w K mg base ["_law_one_here", "_law_other"] "_law_sum" (defScope s_Lsum) (He.fAd K ("_law_sum", none)) cdv A outer s H E).nox (defBody s_Lsum) t ∧ t { nx := fun _ H' => Q .non H', rt := Q } (start ["_law_one_here", "_law_other"] vs) H) : Fn w K mg base (k + 1) (He.fAd K ("_law_sum", none)) sp := by
  obtain ⟨fd, F⟩ := f_Lsum T
  exact fn0 F sc_Lsum (fun _ _ _ _ _ _ us hl => match us, hl with | [_, _], _ => rfl) len hbody
/-! _law_less_by: _law_one_here 0, _law_other 1 -/
theorem sc_Lless_by : FnScope ["_law_one_here", "_law_other"] ["_law_one_here", "_law_other"] (defScope s_Lless_by) := ⟨rfl, rfl, rfl, by decide +kernel, rfl, by decide +kernel, by decide +kernel⟩
theorem fn_Lless_by {k : Nat} {sp : Sp} (T : TX w K mg) (len : ∀ vs H Q E, sp vs H Q E → vs.length = 2)
    (hbody : ∀ (cdv : Value) (A : Around) (outer : List Env) (s : Shared) (H : Hp) (vs : List V) (Q : VK) (E : XK), Room k (A.deeper (envOfC "_law_less_by" (defScope s_Lless_by) s.heap.objs.size (He.fAd K ("_law_less_by", none)) cdv)) → sp vs H Q E →
      ∃ t, PSs (cxOf CX0 PG w K mg base ["_law_one_here", "_law_other"] "_law_less_by" (defScope s_Lless_by) (He.fAd K ("_law_less_by", none)) cdv A outer s H E).nox (defBody s_Lless_by) t ∧ t { nx := fun _ H' => Q .non H', rt := Q } (start ["_law_one_here", "_law_other"] vs) H) : Fn w K mg base (k + 1) (He.fAd K ("_law_less_by", none)) sp := by
  obtain ⟨fd, F⟩ := f_Lless_by T
  exact fn0 F sc_Lless_by (fun _ _ _ _ _ _ us hl => match us, hl with | [_, _], _ => rfl) len hbody
/-! _law_product: _law_one_here 0, _law_other 1 -/
theorem sc_Lproduct : FnScope ["_law_one_here", "_law_other"] ["_law_one_here", "_law_other"] (defScope s_Lproduct) := ⟨rfl, rfl, rfl, by decide +kernel, rfl, by decide +kernel, by decide +kernel⟩
theorem fn_Lproduct {k : Nat} {sp : Sp} (T : TX w K mg) (len : ∀ vs H Q E, sp vs H Q E → vs.length = 2)
    (hbody : ∀ (cdv : Value) (A : Around) (outer : List Env) (s : Shared) (H : Hp) (vs : List V) (Q : VK) (E : XK), Room k (A.deeper (envOfC "_law_product" (defScope s_Lproduct) s.heap.objs.size (He.fAd K ("_law_product", none)) cdv)) → sp vs H Q E →
      ∃ t, PSs (cxOf CX0 PG w K mg base ["_law_one_here", "_law_other"] "_law_product" (defScope s_Lproduct) (He.fAd K ("_law_product", none)) cdv A outer s H E).nox (defBody s_Lproduct) t ∧ t { nx := fun _ H' => Q .non H', rt := Q } (start ["_law_one_here", "_law_other"] vs) H) : Fn w K mg base (k + 1) (He.fAd K ("_law_product", none)) sp := by
  obtain ⟨fd, F⟩ := f_Lproduct T
  exact fn0 F sc_Lproduct (fun _ _ _ _ _ _ us hl => match us, hl with | [_, _], _ => rfl) len hbody
/-! _law_share_of: _law_one_here 0, _law_other 1 -/
theorem sc_Lshare_of : FnScope ["_law_one_here", "_law_other"] ["_law_one_here", "_law_other"] (defScope s_Lshare_of) := ⟨rfl, rfl, rfl, by decide +kernel, rfl, by decide +kernel, by decide +kernel⟩
theorem fn_Lshare_of {k : Nat} {sp : Sp} (T : TX w K mg) (len : ∀ vs H Q E, sp vs H Q E → vs.length = 2)
    (hbody : ∀ (cdv : Value) (A : Around) (outer : List Env) (s : Shared) (H : Hp) (vs : List V) (Q : VK) (E : XK), Room k (A.deeper (envOfC "_law_share_of" (defScope s_Lshare_of) s.heap.objs.size (He.fAd K ("_law_share_of", none)) cdv)) → sp vs H Q E →
      ∃ t, PSs (cxOf CX0 PG w K mg base ["_law_one_here", "_law_other"] "_law_share_of" (defScope s_Lshare_of) (He.fAd K ("_law_share_of", none)) cdv A outer s H E).nox (defBody s_Lshare_of) t ∧ t { nx := fun _ H' => Q .non H', rt := Q } (start ["_law_one_here", "_law_other"] vs) H) : Fn w K mg base (k + 1) (He.fAd K ("_law_share_of", none)) sp := by
  obtain ⟨fd, F⟩ := f_Lshare_of T
  exact fn0 F sc_Lshare_of (fun _ _ _ _ _ _ us hl => match us, hl with | [_, _], _ => rfl) len hbody
/-! _law_under: _law_one_here 0, _law_other 1 -/
theorem sc_Lunder : FnScope ["_law_one_here", "_law_other"] ["_law_one_here", "_law_other"] (defScope s_Lunder) := ⟨rfl, rfl, rfl, by decide +kernel, rfl, by decide +kernel, by decide +kernel⟩
theorem fn_Lunder {k : Nat} {sp : Sp} (T : TX w K mg) (len : ∀ vs H Q E, sp vs H Q E → vs.length = 2)
    (hbody : ∀ (cdv : Value) (A : Around) (outer : List Env) (s : Shared) (H : Hp) (vs : List V) (Q : VK) (E : XK), Room k (A.deeper (envOfC "_law_under" (defScope s_Lunder) s.heap.objs.size (He.fAd K ("_law_under", none)) cdv)) → sp vs H Q E →
      ∃ t, PSs (cxOf CX0 PG w K mg base ["_law_one_here", "_law_other"] "_law_under" (defScope s_Lunder) (He.fAd K ("_law_under", none)) cdv A outer s H E).nox (defBody s_Lunder) t ∧ t { nx := fun _ H' => Q .non H', rt := Q } (start ["_law_one_here", "_law_other"] vs) H) : Fn w K mg base (k + 1) (He.fAd K ("_law_under", none)) sp := by
  obtain ⟨fd, F⟩ := f_Lunder T
  exact fn0 F sc_Lunder (fun _ _ _ _ _ _ us hl => match us, hl with | [_, _], _ => rfl) len hbody
/-! _law_coin: _law_box_here 0, _law_far 1 -/
theorem sc_Lcoin : FnScope ["_law_box_here", "_law_far"] ["_law_box_here", "_law_far"] (defScope s_Lcoin) := ⟨rfl, rfl, rfl, by decide +kernel, rfl, by decide +kernel, by decide +kernel⟩
theorem fn_Lcoin {k : Nat} {sp : Sp} (T : TX w K mg) (len : ∀ vs H Q E, sp vs H Q E → vs.length = 2)
    (hbody : ∀ (cdv : Value) (A : Around) (outer : List Env) (s : Shared) (H : Hp) (vs : List V) (Q : VK) (E : XK), Room k (A.deeper (envOfC "_law_coin" (defScope s_Lcoin) s.heap.objs.size (He.fAd K ("_law_coin", none)) cdv)) → sp vs H Q E →
      ∃ t, PSs (cxOf CX0 PG w K mg base ["_law_box_here", "_law_far"] "_law_coin" (defScope s_Lcoin) (He.fAd K ("_law_coin", none)) cdv A outer s H E).nox (defBody s_Lcoin) t ∧ t { nx := fun _ H' => Q .non H', rt := Q } (start ["_law_box_here", "_law_far"] vs) H) : Fn w K mg base (k + 1) (He.fAd K ("_law_coin", none)) sp := by
  obtain ⟨fd, F⟩ := f_Lcoin T
  exact fn0 F sc_Lcoin (fun _ _ _ _ _ _ us hl => match us, hl with | [_, _], _ => rfl) len hbody
/-! _law_above: _law_box_here 0, _law_far 1 -/
theorem sc_Labove : FnScope ["_law_box_here", "_law_far"] ["_law_box_here", "_law_far"] (defScope s_Labove) := ⟨rfl, rfl, rfl, by decide +kernel, rfl, by decide +kernel, by decide +kernel⟩
theorem fn_Labove {k : Nat} {sp : Sp} (T : TX w K mg) (len : ∀ vs H Q E, sp vs H Q E → vs.length = 2)
    (hbody : ∀ (cdv : Value) (A : Around) (outer : List Env) (s : Shared) (H : Hp) (vs : List V) (Q : VK) (E : XK), Room k (A.deeper (envOfC "_law_above" (defScope s_Labove) s.heap.objs.size (He.fAd K ("_law_above", none)) cdv)) → sp vs H Q E →
      ∃ t, PSs (cxOf CX0 PG w K mg base ["_law_box_here", "_law_far"] "_law_above" (defScope s_Labove) (He.fAd K ("_law_above", none)) cdv A outer s H E).nox (defBody s_Labove) t ∧ t { nx := fun _ H' => Q .non H', rt := Q } (start ["_law_box_here", "_law_far"] vs) H) : Fn w K mg base (k + 1) (He.fAd K ("_law_above", none)) sp := by
  obtain ⟨fd, F⟩ := f_Labove T
  exact fn0 F sc_Labove (fun _ _ _ _ _ _ us hl => match us, hl with | [_, _], _ => rfl) len hbody
/-! _law_rows_between: _law_box_here 0, _law_dates 1, _law_most 2, _law_prices 3, _law_date 4, _law_row 5, _law_k 6, _law_price 7 -/
theorem sc_Lrows_between : FnScope ["_law_box_here", "_law_dates", "_law_most", "_law_prices", "_law_date", "_law_row", "_law_k", "_law_price"] ["_law_box_here", "_law_dates", "_law_most"] (defScope s_Lrows_between) := ⟨rfl, rfl, rfl, by decide +kernel, rfl, by decide +kernel, by decide +kernel⟩
theorem fn_Lrows_between {k : Nat} {sp : Sp} (T : TX w K mg) (len : ∀ vs H Q E, sp vs H Q E → vs.length = 3)
    (hbody : ∀ (cdv : Value) (A : Around) (outer : List Env) (s : Shared) (H : Hp) (vs : List V) (Q : VK) (E : XK), Room k (A.deeper (envOfC "_law_rows_between" (defScope s_Lrows_between) s.heap.objs.size (He.fAd K ("_law_rows_between", none)) cdv)) → sp vs H Q E →
      ∃ t, PSs (cxOf CX0 PG w K mg base ["_law_box_here", "_law_dates", "_law_most", "_law_prices", "_law_date", "_law_row", "_law_k", "_law_price"] "_law_rows_between" (defScope s_Lrows_between) (He.fAd K ("_law_rows_between", none)) cdv A outer s H E).nox (defBody s_Lrows_between) t ∧ t { nx := fun _ H' => Q .non H', rt := Q } (start ["_law_box_here", "_law_dates", "_law_most", "_law_prices", "_law_date", "_law_row", "_law_k", "_law_price"] vs) H) : Fn w K mg base (k + 1) (He.fAd K ("_law_rows_between", none)) sp := by
  obtain ⟨fd, F⟩ := f_Lrows_between T
  exact fn0 F sc_Lrows_between (fun _ _ _ _ _ _ us hl => match us, hl with | [_, _, _], _ => rfl) len hbody
/-! _law_steps_between: _law_box_here 0, _law_row 1, _law_one_here 2, _law_other 3, _law_k 4 -/
theorem sc_Lsteps_between : FnScope ["_law_box_here", "_law_row", "_law_one_here", "_law_other", "_law_k"] ["_law_box_here", "_law_row"] (defScope s_Lsteps_between) := ⟨rfl, rfl, rfl, by decide +kernel, rfl, by decide +kernel, by decide +kernel⟩
theorem fn_Lsteps_between {k : Nat} {sp : Sp} (T : TX w K mg) (len : ∀ vs H Q E, sp vs H Q E → vs.length = 2)
    (hbody : ∀ (cdv : Value) (A : Around) (outer : List Env) (s : Shared) (H : Hp) (vs : List V) (Q : VK) (E : XK), Room k (A.deeper (envOfC "_law_steps_between" (defScope s_Lsteps_between) s.heap.objs.size (He.fAd K ("_law_steps_between", none)) cdv)) → sp vs H Q E →
      ∃ t, PSs (cxOf CX0 PG w K mg base ["_law_box_here", "_law_row", "_law_one_here", "_law_other", "_law_k"] "_law_steps_between" (defScope s_Lsteps_between) (He.fAd K ("_law_steps_between", none)) cdv A outer s H E).nox (defBody s_Lsteps_between) t ∧ t { nx := fun _ H' => Q .non H', rt := Q } (start ["_law_box_here", "_law_row", "_law_one_here", "_law_other", "_law_k"] vs) H) : Fn w K mg base (k + 1) (He.fAd K ("_law_steps_between", none)) sp := by
  obtain ⟨fd, F⟩ := f_Lsteps_between T
  exact fn0 F sc_Lsteps_between (fun _ _ _ _ _ _ us hl => match us, hl with | [_, _], _ => rfl) len hbody
/-! _law_fair: _law_box_here 0, _law_dates 1, _law_most 2, _law_prices 3, _law_rates 4, _law_steps 5, _law_date 6, _law_price 7, _law_up 8, _law_down 9, _law_whole 10, _law_share 11, _law_high 12, _law_low_here 13, _law_grown 14 -/
theorem sc_Lfair : FnScope ["_law_box_here", "_law_dates", "_law_most", "_law_prices", "_law_rates", "_law_steps", "_law_date", "_law_price", "_law_up", "_law_down", "_law_whole", "_law_share", "_law_high", "_law_low_here", "_law_grown"] ["_law_box_here", "_law_dates", "_law_most"] (defScope s_Lfair) := ⟨rfl, rfl, rfl, by decide +kernel, rfl, by decide +kernel, by decide +kernel⟩
theorem fn_Lfair {k : Nat} {sp : Sp} (T : TX w K mg) (len : ∀ vs H Q E, sp vs H Q E → vs.length = 3)
    (hbody : ∀ (cdv : Value) (A : Around) (outer : List Env) (s : Shared) (H : Hp) (vs : List V) (Q : VK) (E : XK), Room k (A.deeper (envOfC "_law_fair" (defScope s_Lfair) s.heap.objs.size (He.fAd K ("_law_fair", none)) cdv)) → sp vs H Q E →
      ∃ t, PSs (cxOf CX0 PG w K mg base ["_law_box_here", "_law_dates", "_law_most", "_law_prices", "_law_rates", "_law_steps", "_law_date", "_law_price", "_law_up", "_law_down", "_law_whole", "_law_share", "_law_high", "_law_low_here", "_law_grown"] "_law_fair" (defScope s_Lfair) (He.fAd K ("_law_fair", none)) cdv A outer s H E).nox (defBody s_Lfair) t ∧ t { nx := fun _ H' => Q .non H', rt := Q } (start ["_law_box_here", "_law_dates", "_law_most", "_law_prices", "_law_rates", "_law_steps", "_law_date", "_law_price", "_law_up", "_law_down", "_law_whole", "_law_share", "_law_high", "_law_low_here", "_law_grown"] vs) H) : Fn w K mg base (k + 1) (He.fAd K ("_law_fair", none)) sp := by
  obtain ⟨fd, F⟩ := f_Lfair T
  exact fn0 F sc_Lfair (fun _ _ _ _ _ _ us hl => match us, hl with | [_, _, _], _ => rfl) len hbody
/-! _law_web: _law_web_here 0 -/
theorem sc_Lweb : FnScope ["_law_web_here"] ["_law_web_here"] (defScope s_Lweb) := ⟨rfl, rfl, rfl, by decide +kernel, rfl, by decide +kernel, by decide +kernel⟩
theorem fn_Lweb {k : Nat} {sp : Sp} (T : TX w K mg) (len : ∀ vs H Q E, sp vs H Q E → vs.length = 1)
    (hbody : ∀ (cdv : Value) (A : Around) (outer : List Env) (s : Shared) (H : Hp) (vs : List V) (Q : VK) (E : XK), Room k (A.deeper (envOfC "_law_web" (defScope s_Lweb) s.heap.objs.size (He.fAd K ("_law_web", none)) cdv)) → sp vs H Q E →
      ∃ t, PSs (cxOf CX0 PG w K mg base ["_law_web_here"] "_law_web" (defScope s_Lweb) (He.fAd K ("_law_web", none)) cdv A outer s H E).nox (defBody s_Lweb) t ∧ t { nx := fun _ H' => Q .non H', rt := Q } (start ["_law_web_here"] vs) H) : Fn w K mg base (k + 1) (He.fAd K ("_law_web", none)) sp := by
  obtain ⟨fd, F⟩ := f_Lweb T
  exact fn0 F sc_Lweb (fun _ _ _ _ _ _ us hl => match us, hl with | [_], _ => rfl) len hbody
/-! _law_value: _law_box_here 0, _law_deep 1, _law_kind 2, _law_word 3 -/
theorem sc_Lvalue : FnScope ["_law_box_here", "_law_deep", "_law_kind", "_law_word"] ["_law_box_here", "_law_deep"] (defScope s_Lvalue) := ⟨rfl, rfl, rfl, by decide +kernel, rfl, by decide +kernel, by decide +kernel⟩
theorem fn_Lvalue {k : Nat} {sp : Sp} (T : TX w K mg) (len : ∀ vs H Q E, sp vs H Q E → vs.length = 2)
    (hbody : ∀ (cdv : Value) (A : Around) (outer : List Env) (s : Shared) (H : Hp) (vs : List V) (Q : VK) (E : XK), Room k (A.deeper (envOfC "_law_value" (defScope s_Lvalue) s.heap.objs.size (He.fAd K ("_law_value", none)) cdv)) → sp vs H Q E →
      ∃ t, PSs (cxOf CX0 PG w K mg base ["_law_box_here", "_law_deep", "_law_kind", "_law_word"] "_law_value" (defScope s_Lvalue) (He.fAd K ("_law_value", none)) cdv A outer s H E).nox (defBody s_Lvalue) t ∧ t { nx := fun _ H' => Q .non H', rt := Q } (start ["_law_box_here", "_law_deep", "_law_kind", "_law_word"] vs) H) : Fn w K mg base (k + 1) (He.fAd K ("_law_value", none)) sp := by
  obtain ⟨fd, F⟩ := f_Lvalue T
  exact fn0 F sc_Lvalue (fun _ _ _ _ _ _ us hl => match us, hl with | [_, _], _ => rfl) len hbody
/-! _law_name: _law_box_here 0, _law_found 1, _law_k 2 -/
theorem sc_Lname : FnScope ["_law_box_here", "_law_found", "_law_k"] ["_law_box_here"] (defScope s_Lname) := ⟨rfl, rfl, rfl, by decide +kernel, rfl, by decide +kernel, by decide +kernel⟩
theorem fn_Lname {k : Nat} {sp : Sp} (T : TX w K mg) (len : ∀ vs H Q E, sp vs H Q E → vs.length = 1)
    (hbody : ∀ (cdv : Value) (A : Around) (outer : List Env) (s : Shared) (H : Hp) (vs : List V) (Q : VK) (E : XK), Room k (A.deeper (envOfC "_law_name" (defScope s_Lname) s.heap.objs.size (He.fAd K ("_law_name", none)) cdv)) → sp vs H Q E →
      ∃ t, PSs (cxOf CX0 PG w K mg base ["_law_box_here", "_law_found", "_law_k"] "_law_name" (defScope s_Lname) (He.fAd K ("_law_name", none)) cdv A outer s H E).nox (defBody s_Lname) t ∧ t { nx := fun _ H' => Q .non H', rt := Q } (start ["_law_box_here", "_law_found", "_law_k"] vs) H) : Fn w K mg base (k + 1) (He.fAd K ("_law_name", none)) sp := by
  obtain ⟨fd, F⟩ := f_Lname T
  exact fn0 F sc_Lname (fun _ _ _ _ _ _ us hl => match us, hl with | [_], _ => rfl) len hbody
/-! _law_days: _law_box_here 0, _law_begin 1 -/
theorem sc_Ldays : FnScope ["_law_box_here", "_law_begin"] ["_law_box_here"] (defScope s_Ldays) := ⟨rfl, rfl, rfl, by decide +kernel, rfl, by decide +kernel, by decide +kernel⟩
theorem fn_Ldays {k : Nat} {sp : Sp} (T : TX w K mg) (len : ∀ vs H Q E, sp vs H Q E → vs.length = 1)
    (hbody : ∀ (cdv : Value) (A : Around) (outer : List Env) (s : Shared) (H : Hp) (vs : List V) (Q : VK) (E : XK), Room k (A.deeper (envOfC "_law_days" (defScope s_Ldays) s.heap.objs.size (He.fAd K ("_law_days", none)) cdv)) → sp vs H Q E →
      ∃ t, PSs (cxOf CX0 PG w K mg base ["_law_box_here", "_law_begin"] "_law_days" (defScope s_Ldays) (He.fAd K ("_law_days", none)) cdv A outer s H E).nox (defBody s_Ldays) t ∧ t { nx := fun _ H' => Q .non H', rt := Q } (start ["_law_box_here", "_law_begin"] vs) H) : Fn w K mg base (k + 1) (He.fAd K ("_law_days", none)) sp := by
  obtain ⟨fd, F⟩ := f_Ldays T
  exact fn0 F sc_Ldays (fun _ _ _ _ _ _ us hl => match us, hl with | [_], _ => rfl) len hbody
/-! _law_leaf: _law_box_here 0, _law_room 1, _law_kind 2, _law_past_one 3 -/
theorem sc_Lleaf : FnScope ["_law_box_here", "_law_room", "_law_kind", "_law_past_one"] ["_law_box_here", "_law_room"] (defScope s_Lleaf) := ⟨rfl, rfl, rfl, by decide +kernel, rfl, by decide +kernel, by decide +kernel⟩
theorem fn_Lleaf {k : Nat} {sp : Sp} (T : TX w K mg) (len : ∀ vs H Q E, sp vs H Q E → vs.length = 2)
    (hbody : ∀ (cdv : Value) (A : Around) (outer : List Env) (s : Shared) (H : Hp) (vs : List V) (Q : VK) (E : XK), Room k (A.deeper (envOfC "_law_leaf" (defScope s_Lleaf) s.heap.objs.size (He.fAd K ("_law_leaf", none)) cdv)) → sp vs H Q E →
      ∃ t, PSs (cxOf CX0 PG w K mg base ["_law_box_here", "_law_room", "_law_kind", "_law_past_one"] "_law_leaf" (defScope s_Lleaf) (He.fAd K ("_law_leaf", none)) cdv A outer s H E).nox (defBody s_Lleaf) t ∧ t { nx := fun _ H' => Q .non H', rt := Q } (start ["_law_box_here", "_law_room", "_law_kind", "_law_past_one"] vs) H) : Fn w K mg base (k + 1) (He.fAd K ("_law_leaf", none)) sp := by
  obtain ⟨fd, F⟩ := f_Lleaf T
  exact fn0 F sc_Lleaf (fun _ _ _ _ _ _ us hl => match us, hl with | [_, _], _ => rfl) len hbody
/-! _law_note: _law_box_here 0, _law_deep 1, _law_room 2, _law_kind 3, _law_one_here 4, _law_side_of 5, _law_begin 6, _law_stop 7, _law_name_here 8, _law_owner 9 -/
theorem sc_Lnote : FnScope ["_law_box_here", "_law_deep", "_law_room", "_law_kind", "_law_one_here", "_law_side_of", "_law_begin", "_law_stop", "_law_name_here", "_law_owner"] ["_law_box_here", "_law_deep", "_law_room"] (defScope s_Lnote) := ⟨rfl, rfl, rfl, by decide +kernel, rfl, by decide +kernel, by decide +kernel⟩
theorem fn_Lnote {k : Nat} {sp : Sp} (T : TX w K mg) (len : ∀ vs H Q E, sp vs H Q E → vs.length = 3)
    (hbody : ∀ (cdv : Value) (A : Around) (outer : List Env) (s : Shared) (H : Hp) (vs : List V) (Q : VK) (E : XK), Room k (A.deeper (envOfC "_law_note" (defScope s_Lnote) s.heap.objs.size (He.fAd K ("_law_note", none)) cdv)) → sp vs H Q E →
      ∃ t, PSs (cxOf CX0 PG w K mg base ["_law_box_here", "_law_deep", "_law_room", "_law_kind", "_law_one_here", "_law_side_of", "_law_begin", "_law_stop", "_law_name_here", "_law_owner"] "_law_note" (defScope s_Lnote) (He.fAd K ("_law_note", none)) cdv A outer s H E).nox (defBody s_Lnote) t ∧ t { nx := fun _ H' => Q .non H', rt := Q } (start ["_law_box_here", "_law_deep", "_law_room", "_law_kind", "_law_one_here", "_law_side_of", "_law_begin", "_law_stop", "_law_name_here", "_law_owner"] vs) H) : Fn w K mg base (k + 1) (He.fAd K ("_law_note", none)) sp := by
  obtain ⟨fd, F⟩ := f_Lnote T
  exact fn0 F sc_Lnote (fun _ _ _ _ _ _ us hl => match us, hl with | [_, _, _], _ => rfl) len hbody
/-! law: _law_script 0, _law_box_here 1, _law_made 2, _law_turn 3, _law_stay 4, _law_leave 5, _law_first 6, _law_second 7, _law_begin 8, _law_stop 9, _law_owner 10, _law_sign 11, _law_told 12, _law_at_once 13, _law_best 14, _law_more 15 -/
theorem sc_law : FnScope ["_law_script", "_law_box_here", "_law_made", "_law_turn", "_law_stay", "_law_leave", "_law_first", "_law_second", "_law_begin", "_law_stop", "_law_owner", "_law_sign", "_law_told", "_law_at_once", "_law_best", "_law_more"] ["_law_script"] (defScope s_law) := ⟨rfl, rfl, rfl, by decide +kernel, rfl, by decide +kernel, by decide +kernel⟩
theorem fn_law {k : Nat} {sp : Sp} (T : TX w K mg) (len : ∀ vs H Q E, sp vs H Q E → vs.length = 1)
    (hbody : ∀ (cdv : Value) (A : Around) (outer : List Env) (s : Shared) (H : Hp) (vs : List V) (Q : VK) (E : XK), Room k (A.deeper (envOfC "law" (defScope s_law) s.heap.objs.size (He.fAd K ("law", none)) cdv)) → sp vs H Q E →
      ∃ t, PSs (cxOf CX0 PG w K mg base ["_law_script", "_law_box_here", "_law_made", "_law_turn", "_law_stay", "_law_leave", "_law_first", "_law_second", "_law_begin", "_law_stop", "_law_owner", "_law_sign", "_law_told", "_law_at_once", "_law_best", "_law_more"] "law" (defScope s_law) (He.fAd K ("law", none)) cdv A outer s H E).nox (defBody s_law) t ∧ t { nx := fun _ H' => Q .non H', rt := Q } (start ["_law_script", "_law_box_here", "_law_made", "_law_turn", "_law_stay", "_law_leave", "_law_first", "_law_second", "_law_begin", "_law_stop", "_law_owner", "_law_sign", "_law_told", "_law_at_once", "_law_best", "_law_more"] vs) H) : Fn w K mg base (k + 1) (He.fAd K ("law", none)) sp := by
  obtain ⟨fd, F⟩ := f_law T
  exact fn0 F sc_law (fun _ _ _ _ _ _ us hl => match us, hl with | [_], _ => rfl) len hbody
end
end SL
namespace SL
open PySem (Str)
/-! the mathematics: values, notes, the tree of questions, worths; no program in sight -/
inductive Val where
  | price | coin (q : Rat) | of (q : Rat) (v : Val) | plus (a b : Val) | minus (a b : Val) | best (a b : Val) | least (a b : Val)
inductive Note where
  | none | pay (d : Int) (v : Val) | now (v : Val) | both (a b : Note) | times (q : Rat) (n : Note) | turn (n : Note)
  | till (up : Bool) (level : Rat) (a b : Note)
  | may (name : Str) (hold : Bool) (b s : Int) (stay leave : Note)
  | seen (peak : Bool) (day : Int) (strike : Rat) (past : Option Rat)
def Note.isNone : Note → Bool
  | .none => true
  | _ => false
theorem Note.isNone_eq {n : Note} (h : n.isNone = true) : n = .none := by cases n <;> first | rfl | cases h
def better (x y : Rat) : Rat := if x < y then y else x
def worse (x y : Rat) : Rat := if x < y then x else y
def vat : Val → Rat → Rat
  | .price, p => p
  | .coin q, _ => q
  | .of q v, p => q * vat v p
  | .plus a b, p => vat a p + vat b p
  | .minus a b, p => vat a p - vat b p
  | .best a b, p => better (vat a p) (vat b p)
  | .least a b, p => worse (vat a p) (vat b p)
def bothOf (a b : Note) : Note := if a.isNone then b else if b.isNone then a else .both a b
inductive Tree where
  | leaf (p : Rat) (r : Note)
  | ask (hold : Bool) (name : Str) (yes no : Tree)
def Tree.bind : Tree → (Rat → Note → Tree) → Tree
  | .leaf p r, f => f p r
  | .ask h n y m, f => .ask h n (y.bind f) (m.bind f)
def Tree.flip : Tree → Tree
  | .leaf p r => .leaf p r
  | .ask h n y m => .ask (!h) n y.flip m.flip
def timesR (q : Rat) (r : Note) : Note := if r.isNone then .none else .times q r
def turnR (r : Note) : Note := if r.isNone then .none else .turn r
def afterOf (peak : Bool) (past : Option Rat) (p : Rat) : Rat := match past with
  | none => p
  | some b => if peak then better b p else b + p
def touched (up : Bool) (level p : Rat) : Bool := if up then !decide (p < level) else !decide (level < p)
def tree : Note → Int → Rat → Tree
  | .none, _, _ => .leaf 0 .none
  | .pay day v, d, p => if d < day then .leaf 0 (.pay day v) else .leaf (if d = day then vat v p else 0) .none
  | .now v, _, p => .leaf (vat v p) .none
  | .both a b, d, p => (tree a d p).bind fun x r => (tree b d p).bind fun y r' => .leaf (x + y) (bothOf r r')
  | .times q n, d, p => (tree n d p).bind fun x r => .leaf (q * x) (timesR q r)
  | .turn n, d, p => (tree n d p).flip.bind fun x r => .leaf (0 - x) (turnR r)
  | .till up level a b, d, p => if touched up level p then tree b d p else (tree a d p).bind fun x r => .leaf x (.till up level r b)
  | .may nm h b s stay leave, d, p =>
    if b ≤ d ∧ d ≤ s then .ask h nm (tree leave d p) (if s ≤ d then tree stay d p else (tree stay d p).bind fun x r => .leaf x (.may nm h b s r leave))
    else if s ≤ d then tree stay d p else (tree stay d p).bind fun x r => .leaf x (.may nm h b s r leave)
  | .seen peak day strike past, d, p => if day < d then .leaf 0 .none else
    if d < day then .leaf 0 (.seen peak day strike (some (afterOf peak past p))) else .leaf (better 0 (afterOf peak past p - strike)) .none
inductive Res where
  | ask (hold : Bool) (name : Str)
  | fin (p : Rat) (r : Note) (left : List Bool)
def Tree.walk : Tree → List Bool → Res
  | .leaf p r, ans => .fin p r ans
  | .ask h n _ _, [] => .ask h n
  | .ask _ _ y m, b :: ans => if b then y.walk ans else m.walk ans
def Res.then : Res → (Rat → Note → List Bool → Res) → Res
  | .ask h n, _ => .ask h n
  | .fin p r l, f => f p r l
def Res.flip : Res → Res
  | .ask h n => .ask (!h) n
  | .fin p r l => .fin p r l
theorem walk_bind (f : Rat → Note → Tree) : ∀ (t : Tree) (ans : List Bool), (t.bind f).walk ans = (t.walk ans).then fun p r l => (f p r).walk l
  | .leaf p r, ans => rfl
  | .ask h n y m, [] => rfl
  | .ask h n y m, true :: ans => walk_bind f y ans
  | .ask h n y m, false :: ans => walk_bind f m ans
theorem walk_flip : ∀ (t : Tree) (ans : List Bool), (t.flip).walk ans = (t.walk ans).flip
  | .leaf p r, ans => rfl
  | .ask h n y m, [] => rfl
  | .ask h n y m, true :: ans => walk_flip y ans
  | .ask h n y m, false :: ans => walk_flip m ans
/-! worths -/
def pick (h : Bool) (y m : Rat) : Rat := if h then (if m < y then y else m) else (if y < m then y else m)
def chosen (h : Bool) (y m : Rat) : Bool := if h then decide (m < y) else decide (y < m)
theorem pick_chosen (h : Bool) (y m : Rat) : pick h y m = if chosen h y m then y else m := by
  cases h <;> simp [pick, chosen]
def Tree.val : Tree → (Rat → Note → Rat) → Rat
  | .leaf p r, f => f p r
  | .ask h _ y m, f => pick h (y.val f) (m.val f)
def Tree.sub : Tree → List Bool → Tree
  | t, [] => t
  | .leaf p r, _ :: _ => .leaf p r
  | .ask _ _ y m, b :: ans => if b then y.sub ans else m.sub ans
theorem val_bind (f : Rat → Note → Rat) (g : Rat → Note → Tree) : ∀ t : Tree, (t.bind g).val f = t.val fun p r => (g p r).val f
  | .leaf p r => rfl
  | .ask h n y m => by
    show pick h ((y.bind g).val f) ((m.bind g).val f) = pick h _ _
    rw [val_bind f g y, val_bind f g m]
theorem pick_mono {h : Bool} {a b c d : Rat} (h1 : a ≤ b) (h2 : c ≤ d) : pick h a c ≤ pick h b d := by
  unfold pick
  cases h <;> simp only [Bool.false_eq_true, if_false, if_true] <;> split <;> split <;> grind
theorem pick_left {a b : Rat} : b ≤ pick true a b := by
  unfold pick
  simp only [if_true]
  split <;> grind
theorem pick_right {a b : Rat} : pick false a b ≤ b := by
  unfold pick
  simp only [Bool.false_eq_true, if_false]
  split <;> grind
theorem val_mono {f g : Rat → Note → Rat} (h : ∀ p r, f p r ≤ g p r) : ∀ t : Tree, t.val f ≤ t.val g
  | .leaf p r => h p r
  | .ask k n y m => pick_mono (val_mono h y) (val_mono h m)
theorem pick_add (h : Bool) (c a b : Rat) : pick h (c + a) (c + b) = c + pick h a b := by
  unfold pick
  cases h <;> simp only [Bool.false_eq_true, if_false, if_true] <;> split <;> split <;> grind
theorem val_add (c : Rat) (f : Rat → Note → Rat) : ∀ t : Tree, (t.val fun p r => c + f p r) = c + t.val f
  | .leaf p r => rfl
  | .ask h n y m => by
    show pick h (y.val fun p r => c + f p r) (m.val fun p r => c + f p r) = _
    rw [val_add c f y, val_add c f m, pick_add]
    rfl
/-- what a lattice is, for the worths -/
structure Lat where
  last : Nat
  price : Nat → Nat → Rat
  rate : Nat → Nat → Rat
  up : Nat → Nat → Nat
  down : Nat → Nat → Nat
def Lat.share (L : Lat) (d k : Nat) : Rat :=
  (L.rate d k * L.price d k - L.price (d + 1) (L.down d k)) / (L.price (d + 1) (L.up d k) - L.price (d + 1) (L.down d k))
def Lat.weigh (L : Lat) (d k : Nat) (u v : Rat) : Rat := (L.share d k * u + (1 - L.share d k) * v) / L.rate d k
/-- the worth with so many dates behind this one -/
def Lat.W (L : Lat) : Nat → Nat → Nat → Note → Rat
  | 0, d, k, n => (tree n d (L.price d k)).val fun p _ => p
  | m + 1, d, k, n => (tree n d (L.price d k)).val fun p r => p + L.weigh d k (L.W m (d + 1) (L.up d k) r) (L.W m (d + 1) (L.down d k) r)
/-- what is told behind a leaf -/
def Lat.F (L : Lat) : Nat → Nat → Nat → Rat → Note → Rat
  | 0, _, _, p, _ => p
  | m + 1, d, k, p, r => p + L.weigh d k (L.W m (d + 1) (L.up d k) r) (L.W m (d + 1) (L.down d k) r)
theorem Lat.W_eq (L : Lat) (m d k : Nat) (n : Note) : L.W m d k n = (tree n d (L.price d k)).val (L.F m d k) := by
  cases m <;> rfl
structure Lat.Fair (L : Lat) : Prop where
  rate : ∀ d k, 0 < L.rate d k
  sh0 : ∀ d k, 0 ≤ L.share d k
  sh1 : ∀ d k, L.share d k ≤ 1
theorem Lat.weigh_mono {L : Lat} (F : L.Fair) {d k : Nat} {u v u' v' : Rat} (h1 : u ≤ u') (h2 : v ≤ v') : L.weigh d k u v ≤ L.weigh d k u' v' := by
  unfold Lat.weigh
  have a := Rat.mul_le_mul_of_nonneg_left h1 (F.sh0 d k)
  have b := Rat.mul_le_mul_of_nonneg_left h2 (show 0 ≤ 1 - L.share d k by have := F.sh1 d k; grind)
  have c : L.share d k * u + (1 - L.share d k) * v ≤ L.share d k * u' + (1 - L.share d k) * v' := by grind
  rw [Rat.div_def, Rat.div_def]
  exact Rat.mul_le_mul_of_nonneg_right c (Rat.le_of_lt (Rat.inv_pos.mpr (F.rate d k)))
theorem Lat.F_mono {L : Lat} (Fr : L.Fair) {m d k : Nat} {p : Rat} {r r' : Note} (h : ∀ j, L.W j (d + 1) (L.up d k) r ≤ L.W j (d + 1) (L.up d k) r') (h' : ∀ j, L.W j (d + 1) (L.down d k) r ≤ L.W j (d + 1) (L.down d k) r') : L.F m d k p r ≤ L.F m d k p r' := by
  cases m with
  | zero => exact Rat.le_refl
  | succ m =>
    have := Lat.weigh_mono Fr (d := d) (k := k) (h m) (h' m)
    show p + _ ≤ p + _
    grind
theorem tree_may {nm : Str} {h : Bool} {b s d : Int} {stay leave : Note} {p : Rat} : tree (.may nm h b s stay leave) d p =
    if b ≤ d ∧ d ≤ s then .ask h nm (tree leave d p) (if s ≤ d then tree stay d p else (tree stay d p).bind fun x r => .leaf x (.may nm h b s r leave))
    else if s ≤ d then tree stay d p else (tree stay d p).bind fun x r => .leaf x (.may nm h b s r leave) := by rw [tree]
theorem may_val {L : Lat} {m d k : Nat} {nm : Str} {h : Bool} {b s : Int} {stay leave : Note} : ∃ T : Tree, T.val (L.F m d k) = ((tree stay d (L.price d k)).val fun p r => if s ≤ d then L.F m d k p r else L.F m d k p (.may nm h b s r leave)) ∧
    L.W m d k (.may nm h b s stay leave) = if b ≤ d ∧ d ≤ s then pick h ((tree leave d (L.price d k)).val (L.F m d k)) (T.val (L.F m d k)) else T.val (L.F m d k) := by
  refine ⟨if s ≤ d then tree stay d (L.price d k) else (tree stay d (L.price d k)).bind fun x r => .leaf x (.may nm h b s r leave), ?_, ?_⟩
  · by_cases e : s ≤ (d : Int)
    · simp only [e, if_true]
    · simp only [e, if_false]
      rw [val_bind]
      rfl
  · rw [Lat.W_eq, tree_may]
    by_cases e : b ≤ (d : Int) ∧ (d : Int) ≤ s
    · rw [if_pos e, if_pos e]
      rfl
    · rw [if_neg e, if_neg e]
theorem may_hold {L : Lat} (Fr : L.Fair) {nm : Str} {b s : Int} {leave : Note} : ∀ (m d k : Nat) (stay : Note), L.W m d k stay ≤ L.W m d k (.may nm true b s stay leave)
  | 0, d, k, stay => by
    obtain ⟨T, h1, h2⟩ := may_val (L := L) (m := 0) (d := d) (k := k) (nm := nm) (h := true) (b := b) (s := s) (stay := stay) (leave := leave)
    have e : L.W 0 d k stay ≤ T.val (L.F 0 d k) := by
      rw [h1, Lat.W_eq]
      refine val_mono (fun p r => ?_) _
      split <;> exact Rat.le_refl
    rw [h2]
    split
    · exact Rat.le_trans e pick_left
    · exact e
  | m + 1, d, k, stay => by
    obtain ⟨T, h1, h2⟩ := may_val (L := L) (m := m + 1) (d := d) (k := k) (nm := nm) (h := true) (b := b) (s := s) (stay := stay) (leave := leave)
    have e : L.W (m + 1) d k stay ≤ T.val (L.F (m + 1) d k) := by
      rw [h1, Lat.W_eq]
      refine val_mono (fun p r => ?_) _
      split
      · exact Rat.le_refl
      · have := Lat.weigh_mono Fr (d := d) (k := k) (may_hold Fr (nm := nm) (b := b) (s := s) (leave := leave) m (d + 1) (L.up d k) r) (may_hold Fr (nm := nm) (b := b) (s := s) (leave := leave) m (d + 1) (L.down d k) r)
        show p + _ ≤ p + _
        grind
    rw [h2]
    split
    · exact Rat.le_trans e pick_left
    · exact e
theorem may_write {L : Lat} (Fr : L.Fair) {nm : Str} {b s : Int} {leave : Note} : ∀ (m d k : Nat) (stay : Note), L.W m d k (.may nm false b s stay leave) ≤ L.W m d k stay
  | 0, d, k, stay => by
    obtain ⟨T, h1, h2⟩ := may_val (L := L) (m := 0) (d := d) (k := k) (nm := nm) (h := false) (b := b) (s := s) (stay := stay) (leave := leave)
    have e : T.val (L.F 0 d k) ≤ L.W 0 d k stay := by
      rw [h1, Lat.W_eq]
      refine val_mono (fun p r => ?_) _
      split <;> exact Rat.le_refl
    rw [h2]
    split
    · exact Rat.le_trans pick_right e
    · exact e
  | m + 1, d, k, stay => by
    obtain ⟨T, h1, h2⟩ := may_val (L := L) (m := m + 1) (d := d) (k := k) (nm := nm) (h := false) (b := b) (s := s) (stay := stay) (leave := leave)
    have e : T.val (L.F (m + 1) d k) ≤ L.W (m + 1) d k stay := by
      rw [h1, Lat.W_eq]
      refine val_mono (fun p r => ?_) _
      split
      · exact Rat.le_refl
      · have := Lat.weigh_mono Fr (d := d) (k := k) (may_write Fr (nm := nm) (b := b) (s := s) (leave := leave) m (d + 1) (L.up d k) r) (may_write Fr (nm := nm) (b := b) (s := s) (leave := leave) m (d + 1) (L.down d k) r)
        show p + _ ≤ p + _
        grind
    rw [h2]
    split
    · exact Rat.le_trans pick_right e
    · exact e
/-- the right for the first date alone -/
theorem may_once {nm : Str} {h : Bool} {stay leave : Note} {p : Rat} : tree (.may nm h 0 0 stay leave) 0 p = .ask h nm (tree leave 0 p) (tree stay 0 p) := by
  rw [tree_may, if_pos ⟨Int.le_refl 0, Int.le_refl 0⟩, if_pos (Int.le_refl 0)]
theorem bothOf_none (r : Note) : bothOf r .none = r := by
  unfold bothOf
  cases e : r.isNone with
  | true =>
    rw [Note.isNone_eq e]
    rfl
  | false => rfl
/-- the same and a coin more -/
theorem more_val {L : Lat} {m k : Nat} {n : Note} {c : Rat} : (tree (.both n (.pay 0 (.coin c))) 0 (L.price 0 k)).val (L.F m 0 k) = c + (tree n 0 (L.price 0 k)).val (L.F m 0 k) := by
  show ((tree n 0 (L.price 0 k)).bind fun x r => (tree (.pay 0 (.coin c)) 0 (L.price 0 k)).bind fun y r' => .leaf (x + y) (bothOf r r')).val _ = _
  rw [val_bind, ← val_add]
  congr 1
  funext x r
  have e : tree (.pay 0 (.coin c)) 0 (L.price 0 k) = .leaf c .none := by
    rw [tree, if_neg (Int.lt_irrefl 0), if_pos rfl]
    rfl
  rw [e]
  show L.F m 0 k (x + c) (bothOf r .none) = c + L.F m 0 k x r
  rw [bothOf_none]
  cases m with
  | zero => exact Rat.add_comm _ _
  | succ m =>
    show x + c + _ = c + (x + _)
    grind
end SL
namespace SL
open PySem PySem.Spec PyProof.Rows L2
/-! ### amounts as rational numbers -/
theorem low_num {n d : Int} (hd : 0 < d) : (Rat.divInt n d).num = n / (Int.gcd n d : Int) := by
  rw [Rat.num_divInt, Int.sign_eq_one_of_pos hd, Int.one_mul, Int.gcd_comm]
theorem low_den {n d : Int} (hd : 0 < d) : ((Rat.divInt n d).den : Int) = d / (Int.gcd n d : Int) := by
  rw [Rat.den_divInt, if_neg (by omega), Int.gcd_comm]
  rw [Int.natCast_ediv]
  congr 1
  omega
theorem plus_low (x y : Rat) : Rat.divInt (x.num * y.den + y.num * x.den) (x.den * y.den) = x + y := by
  rw [Rat.add_def', ← Rat.divInt_ofNat]
  congr 1
theorem minus_low (x y : Rat) : Rat.divInt (x.num * y.den - y.num * x.den) (x.den * y.den) = x - y := by
  rw [Rat.sub_def', ← Rat.divInt_ofNat]
  congr 1
theorem times_low (x y : Rat) : Rat.divInt (x.num * y.num) (x.den * y.den) = x * y := by
  rw [Rat.mul_def', ← Rat.divInt_ofNat]
  congr 1
theorem by_low (x y : Rat) : Rat.divInt (x.num * y.den) (x.den * y.num) = x / y := by
  rw [Rat.div_def, Rat.inv_def]
  conv => rhs; lhs; rw [← Rat.num_divInt_den x]
  rw [Rat.divInt_mul_divInt]
/-- bits over and under -/
def Sz (b : Nat) (x : Rat) : Prop := x.num.natAbs < 2 ^ b ∧ x.den < 2 ^ b
theorem Sz.mono {a b : Nat} {x : Rat} (h : Sz a x) (l : a ≤ b) : Sz b x :=
  ⟨Nat.lt_of_lt_of_le h.1 (Nat.pow_le_pow_right (by decide) l), Nat.lt_of_lt_of_le h.2 (Nat.pow_le_pow_right (by decide) l)⟩
theorem Sz.low {n d : Int} {b : Nat} (hd : 0 < d) (h1 : n.natAbs < 2 ^ b) (h2 : d.natAbs < 2 ^ b) : Sz b (Rat.divInt n d) := by
  refine ⟨?_, ?_⟩
  · rw [low_num hd]
    refine Nat.lt_of_le_of_lt ?_ h1
    exact Int.natAbs_ediv_le_natAbs n _
  · have e := low_den (n := n) hd
    have l := Int.natAbs_ediv_le_natAbs d (Int.gcd n d : Int)
    omega
theorem lt_pow_mul {a b m n : Nat} (h1 : m < 2 ^ a) (h2 : n < 2 ^ b) : m * n < 2 ^ (a + b) := by
  rw [Nat.pow_add]
  exact Nat.mul_lt_mul'' h1 h2
theorem den_pos (x : Rat) : (0 : Int) < x.den := by
  have := x.den_pos
  omega
theorem den2_pos (x y : Rat) : (0 : Int) < x.den * y.den := Int.mul_pos (den_pos x) (den_pos y)
theorem Sz.cross {a b : Nat} {x y : Rat} (h1 : Sz a x) (h2 : Sz b y) : (x.num * y.den).natAbs < 2 ^ (a + b) := by
  rw [Int.natAbs_mul]
  exact lt_pow_mul h1.1 (by have := h2.2; simpa using this)
theorem Sz.dens {a b : Nat} {x y : Rat} (h1 : Sz a x) (h2 : Sz b y) : ((x.den : Int) * y.den).natAbs < 2 ^ (a + b) := by
  rw [Int.natAbs_mul]
  exact lt_pow_mul (by simpa using h1.2) (by simpa using h2.2)
theorem two_pow_add {m n c : Nat} (h1 : m < 2 ^ c) (h2 : n < 2 ^ c) : m + n < 2 ^ (c + 1) := by
  rw [Nat.pow_succ]
  omega
theorem Sz.plus {a b : Nat} {x y : Rat} (h1 : Sz a x) (h2 : Sz b y) : Sz (a + b + 1) (x + y) := by
  rw [← plus_low]
  refine Sz.low (den2_pos x y) ?_ ?_
  · have c1 := h1.cross h2
    have c2 := h2.cross h1
    rw [Nat.add_comm b a] at c2
    have := two_pow_add c1 c2
    omega
  · exact Nat.lt_of_lt_of_le (h1.dens h2) (Nat.pow_le_pow_right (by decide) (by omega))
theorem Sz.minus {a b : Nat} {x y : Rat} (h1 : Sz a x) (h2 : Sz b y) : Sz (a + b + 1) (x - y) := by
  rw [← minus_low]
  refine Sz.low (den2_pos x y) ?_ ?_
  · have c1 := h1.cross h2
    have c2 := h2.cross h1
    rw [Nat.add_comm b a] at c2
    have := two_pow_add c1 c2
    omega
  · exact Nat.lt_of_lt_of_le (h1.dens h2) (Nat.pow_le_pow_right (by decide) (by omega))
theorem Sz.times {a b : Nat} {x y : Rat} (h1 : Sz a x) (h2 : Sz b y) : Sz (a + b) (x * y) := by
  rw [← times_low]
  refine Sz.low (den2_pos x y) ?_ (h1.dens h2)
  rw [Int.natAbs_mul]
  exact lt_pow_mul h1.1 h2.1
theorem by_pos {x y : Rat} (h : 0 < y) : (0 : Int) < x.den * y.num := Int.mul_pos (den_pos x) (by
  have := Rat.num_nonneg.mpr (Rat.le_of_lt h)
  have : y.num ≠ 0 := fun e => by
    rw [Rat.num_eq_zero] at e
    rw [e] at h
    exact Rat.lt_irrefl h
  omega)
theorem Sz.by {a b : Nat} {x y : Rat} (h1 : Sz a x) (h2 : Sz b y) (h : 0 < y) : Sz (a + b) (x / y) := by
  rw [← by_low]
  refine Sz.low (by_pos h) (h1.cross h2) ?_
  rw [Int.natAbs_mul]
  exact lt_pow_mul (by simpa using h1.2) h2.1
/-! ### an amount in the heap -/
def Amt (K : PySem.W.Frag) (H : Hp) (v : V) (q : Rat) : Prop := ∃ a, v = .ref a ∧ SqT K H a [.int q.num, .int q.den]
theorem Same.sqt {K : PySem.W.Frag} {H H' : Hp} {a : Addr} {xs : List V} (e : Same H H') (h : SqT K H a xs) : SqT K H' a xs := by
  rcases h with (h | ⟨o, h⟩) | h
  · exact .inl (.inl (e _ _ h))
  · exact .inl (.inr ⟨o, e _ _ h⟩)
  · exact .inr h
theorem Amt.mono {K : PySem.W.Frag} {H H' : Hp} {v : V} {q : Rat} (h : Amt K H v q) (e : Same H H') : Amt K H' v q := by
  obtain ⟨a, r, h⟩ := h
  exact ⟨a, r, Same.sqt e h⟩
theorem Same.new {H : Hp} {p : Addr} {o : HO} (h : H p = none) : Same H (upd H p o) := fun a u e => by
  rw [upd_ne (ne_of_none e h)]
  exact e
section
variable {w : World} {K : PySem.W.Frag} {mg : Str → Option Value} {base : Heap}
/-! ### the walks -/
def spCommon : Sp := fun vs H Q _ => ∃ a b : Int, vs = [.int a, .int b] ∧ Q (.int (Int.gcd a b)) H
theorem gcd_turn (a b : Int) (hb : b ≠ 0) : Int.gcd b (a.fmod b) = Int.gcd a b := by
  rw [Int.fmod_def, Int.gcd_comm a b, Int.mul_comm]
  exact Int.gcd_sub_mul_right_right b a (a.fdiv b)
theorem ok_common (T : TX w K mg) : Fn w K mg base 1 (He.ga K "common") spCommon := by
  refine fn_common T (fun vs H Q E h => ?_) (fun cdv A outer s H vs Q E hr h => ?_)
  · obtain ⟨a, b, rfl, _⟩ := h
    rfl
  · obtain ⟨a, b, rfl, k⟩ := h
    refine ⟨_, pss_cons (ps_par (i := 0) (j := 1) rfl sc_common.nd rfl rfl (by decide) rfl rfl (pa_cons (pe_callB call_abs rfl (b_abs T) (by decide +kernel) (pa_cons (pv 0) pa_nil)) (pa_cons (pe_callB call_abs rfl (b_abs T) (by decide +kernel) (pa_cons (pv 1) pa_nil)) pa_nil)) rfl)
      (pss_cons (ps_while PassesOwn.never (pt_cmpR op_gt (pv 1) pe_int (nomark _)) (pss_one (ps_par (i := 0) (j := 1) rfl sc_common.nd rfl rfl (by decide) rfl rfl (pa_cons (pv 1) (pa_cons (pe_op op_modN (pv 0) (pv 1)) pa_nil)) rfl)))
      (pss_one (ps_ret (pv 0)))), ?_⟩
    refine ⟨_, rfl, _, rfl, _, rfl, _, rfl, _, _, rfl, ?_⟩
    refine while_by (fun σ H' => H' = H ∧ ∃ x y : Int, σ = [some (.int x), some (.int y)] ∧ 0 ≤ x ∧ 0 ≤ y ∧ Int.gcd x y = Int.gcd a b)
      (fun σ H' => match σ with | [_, some (.int y)] => y.toNat | _ => 0) ⟨rfl, _, _, rfl, ?_, ?_, ?_⟩ ?_ ?_
    · split <;> omega
    · split <;> omega
    · split <;> split <;> simp
    · rintro σ H' ⟨rfl, x, y, rfl, hx, hy, e⟩
      refine ⟨_, rfl, _, _, rfl, rfl, _, rfl, ?_⟩
      refine ite2 (fun hc => ?_) (fun hc => ?_)
      · have hy' : 0 < y := of_decide_eq_true hc
        refine ⟨_, rfl, _, rfl, _, rfl, _, _, rfl, rfl, (by omega), _, _, rfl, ⟨rfl, _, _, rfl, hy, Int.fmod_nonneg_of_pos x hy', ?_⟩, ?_⟩
        · rw [gcd_turn x y (by omega)]
          exact e
        · show (x.fmod y).toNat < y.toNat
          have := Int.fmod_lt_of_pos x hy'
          omega
      · have hy' : ¬ 0 < y := fun z => hc (decide_eq_true z)
        have ey : y = 0 := by omega
        subst ey
        refine ⟨_, rfl, ?_⟩
        rw [Int.gcd_zero_right] at e
        rw [show (x : Int) = (Int.gcd a b : Int) by omega]
        exact k
    · intro σ H Q Q' i q
      obtain ⟨v, e, v2, v3, e2, e3, x, e4, z⟩ := q
      exact ⟨v, e, v2, v3, e2, e3, x, e4, i _ _ z⟩

def lineB : Nat := 2 ^ 8999
def spLowest (K : PySem.W.Frag) : Sp := fun vs H Q _ => ∃ n d : Int, vs = [.int n, .int d] ∧ 0 < d ∧ d.natAbs < lineB ∧ ∀ v H', Same H H' → Amt K H' v (Rat.divInt n d) → Q v H'
theorem gcd_small {n d : Int} (hd : 0 < d) (h : d.natAbs < lineB) : CDivW n (Int.gcd n d : Int) := by
  have h1 : 0 < Int.gcd n d := Int.gcd_pos_of_ne_zero_right n (by omega)
  have h2 : Int.gcd n d ≤ d.natAbs := Nat.le_of_dvd (by omega) (Int.gcd_dvd_natAbs_right n d)
  have h' : d.natAbs < 2 ^ 8999 := h
  refine wide_div (b := 8999) (by omega) ?_ (by decide) (by decide)
  have : ((Int.gcd n d : Int)).natAbs = Int.gcd n d := by omega
  omega
theorem ok_lowest (T : TX w K mg) : Fn w K mg base 2 (He.ga K "lowest") (spLowest K) := by
  refine fn_lowest T (fun vs H Q E h => ?_) (fun cdv A outer s H vs Q E hr h => ?_)
  · obtain ⟨a, b, rfl, _⟩ := h
    rfl
  · obtain ⟨n, d, rfl, hd, hb, k⟩ := h
    refine ⟨_, pss_cons (ps_set (i := 2) sc_lowest.nd rfl (.inl rfl) (pe_callF (ok_common T) rfl hr rfl (g_common T) (pa_cons (pv 0) (pa_cons (pv 1) pa_nil))))
      (pss_cons (ps_if (pt_cmpR op_lt (pv 1) pe_int (nomark _)) (pss_one (ps_set (i := 2) sc_lowest.nd rfl (.inl rfl) (pe_un un_neg (pv 2)))) pss_nil)
      (pss_one (ps_ret (pe_tup (pa_cons (pe_op op_fdivW (pv 0) (pv 2)) (pa_cons (pe_op op_fdivW (pv 1) (pv 2)) pa_nil)))))), ?_⟩
    refine ⟨_, rfl, _, rfl, n, d, rfl, ?_⟩
    refine ⟨_, rfl, _, _, rfl, rfl, _, rfl, ite2 (fun hc => ?_) (fun _ => ?_)⟩
    · have := of_decide_eq_true hc
      omega
    · refine ⟨_, rfl, _, rfl, _, _, rfl, rfl, gcd_small hd hb, _, rfl, _, rfl, _, _, rfl, rfl, gcd_small hd hb, (by show 2 ≤ sizeLine; decide), fun p hp => ?_⟩
      refine k _ _ (Same.new hp) ⟨p, rfl, SqT.of ?_⟩
      rw [upd_same, low_num hd, low_den hd]
def spPlus (K : PySem.W.Frag) : Sp := fun vs H Q _ => ∃ u v x y a b, vs = [u, v] ∧ Amt K H u x ∧ Amt K H v y ∧ Sz a x ∧ Sz b y ∧ a + b ≤ 8990 ∧ ∀ z H', Same H H' → Amt K H' z (x + y) → Q z H'
def spMinus (K : PySem.W.Frag) : Sp := fun vs H Q _ => ∃ u v x y a b, vs = [u, v] ∧ Amt K H u x ∧ Amt K H v y ∧ Sz a x ∧ Sz b y ∧ a + b ≤ 8990 ∧ ∀ z H', Same H H' → Amt K H' z (x - y) → Q z H'
def spTimes (K : PySem.W.Frag) : Sp := fun vs H Q _ => ∃ u v x y a b, vs = [u, v] ∧ Amt K H u x ∧ Amt K H v y ∧ Sz a x ∧ Sz b y ∧ a + b ≤ 8990 ∧ ∀ z H', Same H H' → Amt K H' z (x * y) → Q z H'
def spBy (K : PySem.W.Frag) : Sp := fun vs H Q _ => ∃ u v x y a b, vs = [u, v] ∧ Amt K H u x ∧ Amt K H v y ∧ Sz a x ∧ Sz b y ∧ a + b ≤ 8990 ∧ 0 < y ∧ ∀ z H', Same H H' → Amt K H' z (x / y) → Q z H'
def spLess (K : PySem.W.Frag) : Sp := fun vs H Q _ => ∃ u v x y, vs = [u, v] ∧ Amt K H u x ∧ Amt K H v y ∧ Sz 100000 x ∧ Sz 100000 y ∧ Q (.bl (decide (x < y))) H
theorem szd {b : Nat} {x : Rat} (h : Sz b x) : ((x.den : Int)).natAbs < 2 ^ (b + 1) := by
  have := h.2
  have e : ((x.den : Int)).natAbs = x.den := by omega
  rw [e]
  exact Nat.lt_of_lt_of_le this (Nat.pow_le_pow_right (by decide) (by omega))
theorem szn {b : Nat} {x : Rat} (h : Sz b x) : x.num.natAbs < 2 ^ (b + 1) := Nat.lt_of_lt_of_le h.1 (Nat.pow_le_pow_right (by decide) (by omega))
theorem cm {a b : Nat} {i j : Int} (h1 : i.natAbs < 2 ^ (a + 1)) (h2 : j.natAbs < 2 ^ (b + 1)) (h : a + b ≤ 900000) : CMulW i j := wide_mul h1 h2 (by omega) (by omega) (by omega)
theorem dens_line {a b : Nat} {x y : Rat} (h1 : Sz a x) (h2 : Sz b y) (h : a + b ≤ 8990) : ((x.den : Int) * y.den).natAbs < lineB := Nat.lt_of_lt_of_le (h1.dens h2) (Nat.pow_le_pow_right (by decide) (by omega))
theorem by_line {a b : Nat} {x y : Rat} (h1 : Sz a x) (h2 : Sz b y) (h : a + b ≤ 8990) : ((x.den : Int) * y.num).natAbs < lineB := by
  rw [Int.natAbs_mul]
  exact Nat.lt_of_lt_of_le (lt_pow_mul (by simpa using h1.2) h2.1) (Nat.pow_le_pow_right (by decide) (by omega))
theorem ok_plus (T : TX w K mg) : Fn w K mg base 3 (He.ga K "plus") (spPlus K) := by
  refine fn_plus T (fun vs H Q E h => ?_) (fun cdv A outer s H vs Q E hr h => ?_)
  · obtain ⟨a, b, _, _, _, _, rfl, _⟩ := h
    rfl
  · obtain ⟨_, _, x, y, a, b, rfl, ⟨p, rfl, hp⟩, ⟨q, rfl, hq⟩, sx, sy, hab, k⟩ := h
    refine ⟨_, pss_one (ps_ret (pe_callF (ok_lowest T) rfl hr rfl (g_lowest T) (pa_cons (pe_op op_add (pe_op op_mulW (pe_ix ix_tup (pv 0) pe_int (fun _ _ => rfl)) (pe_ix ix_tup (pv 1) pe_int (fun _ _ => rfl))) (pe_op op_mulW (pe_ix ix_tup (pv 1) pe_int (fun _ _ => rfl)) (pe_ix ix_tup (pv 0) pe_int (fun _ _ => rfl)))) (pa_cons (pe_op op_mulW (pe_ix ix_tup (pv 0) pe_int (fun _ _ => rfl)) (pe_ix ix_tup (pv 1) pe_int (fun _ _ => rfl))) pa_nil)))), ?_⟩
    refine ⟨_, rfl, p, _, _, _, rfl, rfl, hp, rfl, _, rfl, q, _, _, _, rfl, rfl, hq, rfl, _, _, rfl, rfl, cm (szn sx) (szd sy) (by omega), _, rfl, q, _, _, _, rfl, rfl, hq, rfl, _, rfl, p, _, _, _, rfl, rfl, hp, rfl, _, _, rfl, rfl, cm (szn sy) (szd sx) (by omega), _, _, rfl, rfl, ?_⟩
    refine ⟨_, rfl, p, _, _, _, rfl, rfl, hp, rfl, _, rfl, q, _, _, _, rfl, rfl, hq, rfl, _, _, rfl, rfl, cm (szd sx) (szd sy) (by omega), _, _, rfl, den2_pos x y, dens_line sx sy hab, fun z H' e r => ?_⟩
    rw [plus_low] at r
    exact k z H' e r
theorem ok_minus (T : TX w K mg) : Fn w K mg base 3 (He.ga K "minus") (spMinus K) := by
  refine fn_minus T (fun vs H Q E h => ?_) (fun cdv A outer s H vs Q E hr h => ?_)
  · obtain ⟨a, b, _, _, _, _, rfl, _⟩ := h
    rfl
  · obtain ⟨_, _, x, y, a, b, rfl, ⟨p, rfl, hp⟩, ⟨q, rfl, hq⟩, sx, sy, hab, k⟩ := h
    refine ⟨_, pss_one (ps_ret (pe_callF (ok_lowest T) rfl hr rfl (g_lowest T) (pa_cons (pe_op op_sub (pe_op op_mulW (pe_ix ix_tup (pv 0) pe_int (fun _ _ => rfl)) (pe_ix ix_tup (pv 1) pe_int (fun _ _ => rfl))) (pe_op op_mulW (pe_ix ix_tup (pv 1) pe_int (fun _ _ => rfl)) (pe_ix ix_tup (pv 0) pe_int (fun _ _ => rfl)))) (pa_cons (pe_op op_mulW (pe_ix ix_tup (pv 0) pe_int (fun _ _ => rfl)) (pe_ix ix_tup (pv 1) pe_int (fun _ _ => rfl))) pa_nil)))), ?_⟩
    refine ⟨_, rfl, p, _, _, _, rfl, rfl, hp, rfl, _, rfl, q, _, _, _, rfl, rfl, hq, rfl, _, _, rfl, rfl, cm (szn sx) (szd sy) (by omega), _, rfl, q, _, _, _, rfl, rfl, hq, rfl, _, rfl, p, _, _, _, rfl, rfl, hp, rfl, _, _, rfl, rfl, cm (szn sy) (szd sx) (by omega), _, _, rfl, rfl, ?_⟩
    refine ⟨_, rfl, p, _, _, _, rfl, rfl, hp, rfl, _, rfl, q, _, _, _, rfl, rfl, hq, rfl, _, _, rfl, rfl, cm (szd sx) (szd sy) (by omega), _, _, rfl, den2_pos x y, dens_line sx sy hab, fun z H' e r => ?_⟩
    rw [minus_low] at r
    exact k z H' e r
theorem ok_times (T : TX w K mg) : Fn w K mg base 3 (He.ga K "times") (spTimes K) := by
  refine fn_times T (fun vs H Q E h => ?_) (fun cdv A outer s H vs Q E hr h => ?_)
  · obtain ⟨a, b, _, _, _, _, rfl, _⟩ := h
    rfl
  · obtain ⟨_, _, x, y, a, b, rfl, ⟨p, rfl, hp⟩, ⟨q, rfl, hq⟩, sx, sy, hab, k⟩ := h
    refine ⟨_, pss_one (ps_ret (pe_callF (ok_lowest T) rfl hr rfl (g_lowest T) (pa_cons (pe_op op_mulW (pe_ix ix_tup (pv 0) pe_int (fun _ _ => rfl)) (pe_ix ix_tup (pv 1) pe_int (fun _ _ => rfl))) (pa_cons (pe_op op_mulW (pe_ix ix_tup (pv 0) pe_int (fun _ _ => rfl)) (pe_ix ix_tup (pv 1) pe_int (fun _ _ => rfl))) pa_nil)))), ?_⟩
    refine ⟨_, rfl, p, _, _, _, rfl, rfl, hp, rfl, _, rfl, q, _, _, _, rfl, rfl, hq, rfl, _, _, rfl, rfl, cm (szn sx) (szn sy) (by omega), ?_⟩
    refine ⟨_, rfl, p, _, _, _, rfl, rfl, hp, rfl, _, rfl, q, _, _, _, rfl, rfl, hq, rfl, _, _, rfl, rfl, cm (szd sx) (szd sy) (by omega), _, _, rfl, den2_pos x y, dens_line sx sy hab, fun z H' e r => ?_⟩
    rw [times_low] at r
    exact k z H' e r
theorem ok_by (T : TX w K mg) : Fn w K mg base 3 (He.ga K "by") (spBy K) := by
  refine fn_by T (fun vs H Q E h => ?_) (fun cdv A outer s H vs Q E hr h => ?_)
  · obtain ⟨a, b, _, _, _, _, rfl, _⟩ := h
    rfl
  · obtain ⟨_, _, x, y, a, b, rfl, ⟨p, rfl, hp⟩, ⟨q, rfl, hq⟩, sx, sy, hab, hy, k⟩ := h
    refine ⟨_, pss_one (ps_ret (pe_callF (ok_lowest T) rfl hr rfl (g_lowest T) (pa_cons (pe_op op_mulW (pe_ix ix_tup (pv 0) pe_int (fun _ _ => rfl)) (pe_ix ix_tup (pv 1) pe_int (fun _ _ => rfl))) (pa_cons (pe_op op_mulW (pe_ix ix_tup (pv 0) pe_int (fun _ _ => rfl)) (pe_ix ix_tup (pv 1) pe_int (fun _ _ => rfl))) pa_nil)))), ?_⟩
    refine ⟨_, rfl, p, _, _, _, rfl, rfl, hp, rfl, _, rfl, q, _, _, _, rfl, rfl, hq, rfl, _, _, rfl, rfl, cm (szn sx) (szd sy) (by omega), ?_⟩
    refine ⟨_, rfl, p, _, _, _, rfl, rfl, hp, rfl, _, rfl, q, _, _, _, rfl, rfl, hq, rfl, _, _, rfl, rfl, cm (szd sx) (szn sy) (by omega), _, _, rfl, by_pos hy, by_line sx sy hab, fun z H' e r => ?_⟩
    rw [by_low] at r
    exact k z H' e r
theorem ok_less (T : TX w K mg) : Fn w K mg base 1 (He.ga K "less") (spLess K) := by
  refine fn_less T (fun vs H Q E h => ?_) (fun cdv A outer s H vs Q E hr h => ?_)
  · obtain ⟨a, b, _, _, rfl, _⟩ := h
    rfl
  · obtain ⟨_, _, x, y, rfl, ⟨p, rfl, hp⟩, ⟨q, rfl, hq⟩, sx, sy, k⟩ := h
    refine ⟨_, pss_one (ps_ret (pe_cmpR op_lt (pe_op op_mulW (pe_ix ix_tup (pv 0) pe_int (fun _ _ => rfl)) (pe_ix ix_tup (pv 1) pe_int (fun _ _ => rfl))) (pe_op op_mulW (pe_ix ix_tup (pv 1) pe_int (fun _ _ => rfl)) (pe_ix ix_tup (pv 0) pe_int (fun _ _ => rfl))) (nomark _))), ?_⟩
    refine ⟨_, rfl, p, _, _, _, rfl, rfl, hp, rfl, _, rfl, q, _, _, _, rfl, rfl, hq, rfl, _, _, rfl, rfl, cm (szn sx) (szd sy) (by omega), _, rfl, q, _, _, _, rfl, rfl, hq, rfl, _, rfl, p, _, _, _, rfl, rfl, hp, rfl, _, _, rfl, rfl, cm (szn sy) (szd sx) (by omega), _, _, rfl, rfl, ?_⟩
    show Q (.bl (decide (x.num * y.den < y.num * x.den))) H
    rw [show decide (x.num * y.den < y.num * x.den) = decide (x < y) from decide_eq_decide.mpr (Rat.lt_iff x y).symm]
    exact k
theorem ok_Lcommon (T : TX w K mg) : Fn w K mg base 1 (He.ga K "_law_common") spCommon := by
  refine fn_Lcommon T (fun vs H Q E h => ?_) (fun cdv A outer s H vs Q E hr h => ?_)
  · obtain ⟨a, b, rfl, _⟩ := h
    rfl
  · obtain ⟨a, b, rfl, k⟩ := h
    refine ⟨_, pss_cons (ps_par (i := 0) (j := 1) rfl sc_Lcommon.nd rfl rfl (by decide) rfl rfl (pa_cons (pe_callB call_abs rfl (b_abs T) (by decide +kernel) (pa_cons (pv 0) pa_nil)) (pa_cons (pe_callB call_abs rfl (b_abs T) (by decide +kernel) (pa_cons (pv 1) pa_nil)) pa_nil)) rfl)
      (pss_cons (ps_while PassesOwn.never (pt_cmpR op_gt (pv 1) pe_int (nomark _)) (pss_one (ps_par (i := 0) (j := 1) rfl sc_Lcommon.nd rfl rfl (by decide) rfl rfl (pa_cons (pv 1) (pa_cons (pe_op op_modN (pv 0) (pv 1)) pa_nil)) rfl)))
      (pss_one (ps_ret (pv 0)))), ?_⟩
    refine ⟨_, rfl, _, rfl, _, rfl, _, rfl, _, _, rfl, ?_⟩
    refine while_by (fun σ H' => H' = H ∧ ∃ x y : Int, σ = [some (.int x), some (.int y)] ∧ 0 ≤ x ∧ 0 ≤ y ∧ Int.gcd x y = Int.gcd a b)
      (fun σ H' => match σ with | [_, some (.int y)] => y.toNat | _ => 0) ⟨rfl, _, _, rfl, ?_, ?_, ?_⟩ ?_ ?_
    · split <;> omega
    · split <;> omega
    · split <;> split <;> simp
    · rintro σ H' ⟨rfl, x, y, rfl, hx, hy, e⟩
      refine ⟨_, rfl, _, _, rfl, rfl, _, rfl, ?_⟩
      refine ite2 (fun hc => ?_) (fun hc => ?_)
      · have hy' : 0 < y := of_decide_eq_true hc
        refine ⟨_, rfl, _, rfl, _, rfl, _, _, rfl, rfl, (by omega), _, _, rfl, ⟨rfl, _, _, rfl, hy, Int.fmod_nonneg_of_pos x hy', ?_⟩, ?_⟩
        · rw [gcd_turn x y (by omega)]
          exact e
        · show (x.fmod y).toNat < y.toNat
          have := Int.fmod_lt_of_pos x hy'
          omega
      · have hy' : ¬ 0 < y := fun z => hc (decide_eq_true z)
        have ey : y = 0 := by omega
        subst ey
        refine ⟨_, rfl, ?_⟩
        rw [Int.gcd_zero_right] at e
        rw [show (x : Int) = (Int.gcd a b : Int) by omega]
        exact k
    · intro σ H Q Q' i q
      obtain ⟨v, e, v2, v3, e2, e3, x, e4, z⟩ := q
      exact ⟨v, e, v2, v3, e2, e3, x, e4, i _ _ z⟩
theorem ok_Llow (T : TX w K mg) : Fn w K mg base 2 (He.ga K "_law_low") (spLowest K) := by
  refine fn_Llow T (fun vs H Q E h => ?_) (fun cdv A outer s H vs Q E hr h => ?_)
  · obtain ⟨a, b, rfl, _⟩ := h
    rfl
  · obtain ⟨n, d, rfl, hd, hb, k⟩ := h
    refine ⟨_, pss_cons (ps_set (i := 2) sc_Llow.nd rfl (.inl rfl) (pe_callF (ok_Lcommon T) rfl hr rfl (g_Lcommon T) (pa_cons (pv 0) (pa_cons (pv 1) pa_nil))))
      (pss_one (ps_ret (pe_tup (pa_cons (pe_op op_fdivW (pv 0) (pv 2)) (pa_cons (pe_op op_fdivW (pv 1) (pv 2)) pa_nil))))), ?_⟩
    refine ⟨_, rfl, _, rfl, n, d, rfl, ?_⟩
    refine ⟨_, rfl, _, rfl, _, _, rfl, rfl, gcd_small hd hb, _, rfl, _, rfl, _, _, rfl, rfl, gcd_small hd hb, (by show 2 ≤ sizeLine; decide), fun p hp => ?_⟩
    refine k _ _ (Same.new hp) ⟨p, rfl, SqT.of ?_⟩
    rw [upd_same, low_num hd, low_den hd]
theorem ok_Lsum (T : TX w K mg) : Fn w K mg base 3 (He.ga K "_law_sum") (spPlus K) := by
  refine fn_Lsum T (fun vs H Q E h => ?_) (fun cdv A outer s H vs Q E hr h => ?_)
  · obtain ⟨a, b, _, _, _, _, rfl, _⟩ := h
    rfl
  · obtain ⟨_, _, x, y, a, b, rfl, ⟨p, rfl, hp⟩, ⟨q, rfl, hq⟩, sx, sy, hab, k⟩ := h
    refine ⟨_, pss_one (ps_ret (pe_callF (ok_Llow T) rfl hr rfl (g_Llow T) (pa_cons (pe_op op_add (pe_op op_mulW (pe_ix ix_tup (pv 0) pe_int (fun _ _ => rfl)) (pe_ix ix_tup (pv 1) pe_int (fun _ _ => rfl))) (pe_op op_mulW (pe_ix ix_tup (pv 1) pe_int (fun _ _ => rfl)) (pe_ix ix_tup (pv 0) pe_int (fun _ _ => rfl)))) (pa_cons (pe_op op_mulW (pe_ix ix_tup (pv 0) pe_int (fun _ _ => rfl)) (pe_ix ix_tup (pv 1) pe_int (fun _ _ => rfl))) pa_nil)))), ?_⟩
    refine ⟨_, rfl, p, _, _, _, rfl, rfl, hp, rfl, _, rfl, q, _, _, _, rfl, rfl, hq, rfl, _, _, rfl, rfl, cm (szn sx) (szd sy) (by omega), _, rfl, q, _, _, _, rfl, rfl, hq, rfl, _, rfl, p, _, _, _, rfl, rfl, hp, rfl, _, _, rfl, rfl, cm (szn sy) (szd sx) (by omega), _, _, rfl, rfl, ?_⟩
    refine ⟨_, rfl, p, _, _, _, rfl, rfl, hp, rfl, _, rfl, q, _, _, _, rfl, rfl, hq, rfl, _, _, rfl, rfl, cm (szd sx) (szd sy) (by omega), _, _, rfl, den2_pos x y, dens_line sx sy hab, fun z H' e r => ?_⟩
    rw [plus_low] at r
    exact k z H' e r
theorem ok_Lless_by (T : TX w K mg) : Fn w K mg base 3 (He.ga K "_law_less_by") (spMinus K) := by
  refine fn_Lless_by T (fun vs H Q E h => ?_) (fun cdv A outer s H vs Q E hr h => ?_)
  · obtain ⟨a, b, _, _, _, _, rfl, _⟩ := h
    rfl
  · obtain ⟨_, _, x, y, a, b, rfl, ⟨p, rfl, hp⟩, ⟨q, rfl, hq⟩, sx, sy, hab, k⟩ := h
    refine ⟨_, pss_one (ps_ret (pe_callF (ok_Llow T) rfl hr rfl (g_Llow T) (pa_cons (pe_op op_sub (pe_op op_mulW (pe_ix ix_tup (pv 0) pe_int (fun _ _ => rfl)) (pe_ix ix_tup (pv 1) pe_int (fun _ _ => rfl))) (pe_op op_mulW (pe_ix ix_tup (pv 1) pe_int (fun _ _ => rfl)) (pe_ix ix_tup (pv 0) pe_int (fun _ _ => rfl)))) (pa_cons (pe_op op_mulW (pe_ix ix_tup (pv 0) pe_int (fun _ _ => rfl)) (pe_ix ix_tup (pv 1) pe_int (fun _ _ => rfl))) pa_nil)))), ?_⟩
    refine ⟨_, rfl, p, _, _, _, rfl, rfl, hp, rfl, _, rfl, q, _, _, _, rfl, rfl, hq, rfl, _, _, rfl, rfl, cm (szn sx) (szd sy) (by omega), _, rfl, q, _, _, _, rfl, rfl, hq, rfl, _, rfl, p, _, _, _, rfl, rfl, hp, rfl, _, _, rfl, rfl, cm (szn sy) (szd sx) (by omega), _, _, rfl, rfl, ?_⟩
    refine ⟨_, rfl, p, _, _, _, rfl, rfl, hp, rfl, _, rfl, q, _, _, _, rfl, rfl, hq, rfl, _, _, rfl, rfl, cm (szd sx) (szd sy) (by omega), _, _, rfl, den2_pos x y, dens_line sx sy hab, fun z H' e r => ?_⟩
    rw [minus_low] at r
    exact k z H' e r
theorem ok_Lproduct (T : TX w K mg) : Fn w K mg base 3 (He.ga K "_law_product") (spTimes K) := by
  refine fn_Lproduct T (fun vs H Q E h => ?_) (fun cdv A outer s H vs Q E hr h => ?_)
  · obtain ⟨a, b, _, _, _, _, rfl, _⟩ := h
    rfl
  · obtain ⟨_, _, x, y, a, b, rfl, ⟨p, rfl, hp⟩, ⟨q, rfl, hq⟩, sx, sy, hab, k⟩ := h
    refine ⟨_, pss_one (ps_ret (pe_callF (ok_Llow T) rfl hr rfl (g_Llow T) (pa_cons (pe_op op_mulW (pe_ix ix_tup (pv 0) pe_int (fun _ _ => rfl)) (pe_ix ix_tup (pv 1) pe_int (fun _ _ => rfl))) (pa_cons (pe_op op_mulW (pe_ix ix_tup (pv 0) pe_int (fun _ _ => rfl)) (pe_ix ix_tup (pv 1) pe_int (fun _ _ => rfl))) pa_nil)))), ?_⟩
    refine ⟨_, rfl, p, _, _, _, rfl, rfl, hp, rfl, _, rfl, q, _, _, _, rfl, rfl, hq, rfl, _, _, rfl, rfl, cm (szn sx) (szn sy) (by omega), ?_⟩
    refine ⟨_, rfl, p, _, _, _, rfl, rfl, hp, rfl, _, rfl, q, _, _, _, rfl, rfl, hq, rfl, _, _, rfl, rfl, cm (szd sx) (szd sy) (by omega), _, _, rfl, den2_pos x y, dens_line sx sy hab, fun z H' e r => ?_⟩
    rw [times_low] at r
    exact k z H' e r
theorem ok_Lshare_of (T : TX w K mg) : Fn w K mg base 3 (He.ga K "_law_share_of") (spBy K) := by
  refine fn_Lshare_of T (fun vs H Q E h => ?_) (fun cdv A outer s H vs Q E hr h => ?_)
  · obtain ⟨a, b, _, _, _, _, rfl, _⟩ := h
    rfl
  · obtain ⟨_, _, x, y, a, b, rfl, ⟨p, rfl, hp⟩, ⟨q, rfl, hq⟩, sx, sy, hab, hy, k⟩ := h
    refine ⟨_, pss_cons (ps_if (pt_cmpR op_lt (pe_ix ix_tup (pv 1) pe_int (fun _ _ => rfl)) pe_int (nomark _)) (pss_one ps_never) pss_nil) (pss_one (ps_ret (pe_callF (ok_Llow T) rfl hr rfl (g_Llow T) (pa_cons (pe_op op_mulW (pe_ix ix_tup (pv 0) pe_int (fun _ _ => rfl)) (pe_ix ix_tup (pv 1) pe_int (fun _ _ => rfl))) (pa_cons (pe_op op_mulW (pe_ix ix_tup (pv 0) pe_int (fun _ _ => rfl)) (pe_ix ix_tup (pv 1) pe_int (fun _ _ => rfl))) pa_nil))))), ?_⟩
    refine ⟨_, rfl, q, _, _, _, rfl, rfl, hq, rfl, _, _, rfl, rfl, _, rfl, ite2 (fun hc => ?_) (fun _ => ?_)⟩
    · have h1 := of_decide_eq_true hc
      have h2 := Rat.num_nonneg.mpr (Rat.le_of_lt hy)
      omega
    refine ⟨_, rfl, p, _, _, _, rfl, rfl, hp, rfl, _, rfl, q, _, _, _, rfl, rfl, hq, rfl, _, _, rfl, rfl, cm (szn sx) (szd sy) (by omega), ?_⟩
    refine ⟨_, rfl, p, _, _, _, rfl, rfl, hp, rfl, _, rfl, q, _, _, _, rfl, rfl, hq, rfl, _, _, rfl, rfl, cm (szd sx) (szn sy) (by omega), _, _, rfl, by_pos hy, by_line sx sy hab, fun z H' e r => ?_⟩
    rw [by_low] at r
    exact k z H' e r
theorem ok_Lunder (T : TX w K mg) : Fn w K mg base 1 (He.ga K "_law_under") (spLess K) := by
  refine fn_Lunder T (fun vs H Q E h => ?_) (fun cdv A outer s H vs Q E hr h => ?_)
  · obtain ⟨a, b, _, _, rfl, _⟩ := h
    rfl
  · obtain ⟨_, _, x, y, rfl, ⟨p, rfl, hp⟩, ⟨q, rfl, hq⟩, sx, sy, k⟩ := h
    refine ⟨_, pss_one (ps_ret (pe_cmpR op_lt (pe_op op_mulW (pe_ix ix_tup (pv 0) pe_int (fun _ _ => rfl)) (pe_ix ix_tup (pv 1) pe_int (fun _ _ => rfl))) (pe_op op_mulW (pe_ix ix_tup (pv 1) pe_int (fun _ _ => rfl)) (pe_ix ix_tup (pv 0) pe_int (fun _ _ => rfl))) (nomark _))), ?_⟩
    refine ⟨_, rfl, p, _, _, _, rfl, rfl, hp, rfl, _, rfl, q, _, _, _, rfl, rfl, hq, rfl, _, _, rfl, rfl, cm (szn sx) (szd sy) (by omega), _, rfl, q, _, _, _, rfl, rfl, hq, rfl, _, rfl, p, _, _, _, rfl, rfl, hp, rfl, _, _, rfl, rfl, cm (szn sy) (szd sx) (by omega), _, _, rfl, rfl, ?_⟩
    show Q (.bl (decide (x.num * y.den < y.num * x.den))) H
    rw [show decide (x.num * y.den < y.num * x.den) = decide (x < y) from decide_eq_decide.mpr (Rat.lt_iff x y).symm]
    exact k
def sp_better (K : PySem.W.Frag) : Sp := fun vs H Q _ => ∃ u v x y, vs = [u, v] ∧ Amt K H u x ∧ Amt K H v y ∧ Sz 100000 x ∧ Sz 100000 y ∧ ∀ z, Amt K H z (better x y) → Q z H
theorem ok_better (T : TX w K mg) : Fn w K mg base 2 (He.ga K "better") (sp_better K) := by
  refine fn_better T (fun vs H Q E h => ?_) (fun cdv A outer s H vs Q E hr h => ?_)
  · obtain ⟨a, b, _, _, rfl, _⟩ := h
    rfl
  · obtain ⟨u, v, x, y, rfl, hu, hv, sx, sy, k⟩ := h
    refine ⟨_, pss_one (ps_ret (pe_ifExp (pt_val (pe_callF (ok_less T) rfl hr rfl (g_less T) (pa_cons (pv 0) (pa_cons (pv 1) pa_nil)))) (pv 1) (pv 0))), ?_⟩
    refine ⟨_, rfl, _, rfl, u, v, x, y, rfl, hu, hv, sx, sy, _, rfl, ite2 (fun hc => ⟨_, rfl, ?_⟩) (fun hc => ⟨_, rfl, ?_⟩)⟩
    · have := of_decide_eq_true hc
      refine k _ ?_
      unfold better
      rw [if_pos this]
      exact hv
    · have : ¬ x < y := fun z => hc (decide_eq_true z)
      refine k _ ?_
      unfold better
      rw [if_neg this]
      exact hu
def sp_worse (K : PySem.W.Frag) : Sp := fun vs H Q _ => ∃ u v x y, vs = [u, v] ∧ Amt K H u x ∧ Amt K H v y ∧ Sz 100000 x ∧ Sz 100000 y ∧ ∀ z, Amt K H z (worse x y) → Q z H
theorem ok_worse (T : TX w K mg) : Fn w K mg base 2 (He.ga K "worse") (sp_worse K) := by
  refine fn_worse T (fun vs H Q E h => ?_) (fun cdv A outer s H vs Q E hr h => ?_)
  · obtain ⟨a, b, _, _, rfl, _⟩ := h
    rfl
  · obtain ⟨u, v, x, y, rfl, hu, hv, sx, sy, k⟩ := h
    refine ⟨_, pss_one (ps_ret (pe_ifExp (pt_val (pe_callF (ok_less T) rfl hr rfl (g_less T) (pa_cons (pv 0) (pa_cons (pv 1) pa_nil)))) (pv 0) (pv 1))), ?_⟩
    refine ⟨_, rfl, _, rfl, u, v, x, y, rfl, hu, hv, sx, sy, _, rfl, ite2 (fun hc => ⟨_, rfl, ?_⟩) (fun hc => ⟨_, rfl, ?_⟩)⟩
    · have := of_decide_eq_true hc
      refine k _ ?_
      unfold worse
      rw [if_pos this]
      exact hu
    · have : ¬ x < y := fun z => hc (decide_eq_true z)
      refine k _ ?_
      unfold worse
      rw [if_neg this]
      exact hv
end
end SL
namespace SL
open PySem PySem.Spec PyProof.Rows L2
/-! ### constants and tables of the top -/
section
variable {w : World} {K : PySem.W.Frag} {mg : Str → Option Value} {base : Heap}
theorem exb_parts (T : TX w K mg) : He.tupB K "NOUGHT" [.int 0, .int 1] = true ∧ He.tupB K "ONE" [.int 1, .int 1] = true ∧ He.tupB K "NONE" [.str "none"] = true ∧ He.valsB K (He.ga K "VALUES") t_VALUES = true ∧
    He.valsB K (He.ga K "NOTES") t_NOTES = true ∧ He.valsB K (He.ga K "PAIRS") t_PAIRS = true ∧ He.valsB K (He.ga K "WAYS") t_WAYS = true ∧ nilB K (kwdAt ("Worth", some "plan") "answers" K) = true := by
  have h := T.exb
  unfold exB at h
  simp only [Bool.and_eq_true] at h
  obtain ⟨h1, h2, h3, h4, h5, h6, h7, h8⟩ := h
  exact ⟨h1, h2, h3, h4, h5, h6, h7, h8⟩
theorem nought_at (T : TX w K mg) (H : Hp) : Amt K H (.ref (He.ga K "NOUGHT")) 0 := ⟨_, rfl, He.tupB_ok (exb_parts T).1 H⟩
theorem one_at (T : TX w K mg) (H : Hp) : Amt K H (.ref (He.ga K "ONE")) 1 := ⟨_, rfl, He.tupB_ok (exb_parts T).2.1 H⟩
theorem none_at (T : TX w K mg) (H : Hp) : SqT K H (He.ga K "NONE") [.str "none"] := He.tupB_ok (exb_parts T).2.2.1 H
theorem kdct_of {n : Str} {i : Nat} {ks : List Str} {kvs : List (Str × He.Dv)} (T : TX w K mg) (e : tsL[i]? = some (fun K => He.ga K n, ks)) (h : He.valsB K (He.ga K n) kvs = true) (j : Nat) {x : Str} {v : He.Dv} (hj : kvs[j]? = some (x, v)) : KDct K w (He.ga K n) x (v.v K) := by
  obtain ⟨es, m, D⟩ := T.tab i e
  obtain ⟨u, h1, h2⟩ := He.valsB_ok h (q := (x, v)) (List.mem_of_getElem? hj)
  exact ⟨es, m, u, D.at_, D.lit, h1, h2⟩
theorem kd_VALUES (T : TX w K mg) (j : Nat) {x : Str} {v : He.Dv} (hj : t_VALUES[j]? = some (x, v)) : KDct K w (He.ga K "VALUES") x (v.v K) := kdct_of T (i := 0) rfl (exb_parts T).2.2.2.1 j hj
theorem kd_NOTES (T : TX w K mg) (j : Nat) {x : Str} {v : He.Dv} (hj : t_NOTES[j]? = some (x, v)) : KDct K w (He.ga K "NOTES") x (v.v K) := kdct_of T (i := 1) rfl (exb_parts T).2.2.2.2.1 j hj
theorem kd_PAIRS (T : TX w K mg) (j : Nat) {x : Str} {v : He.Dv} (hj : t_PAIRS[j]? = some (x, v)) : KDct K w (He.ga K "PAIRS") x (v.v K) := kdct_of T (i := 2) rfl (exb_parts T).2.2.2.2.2.1 j hj
theorem kd_WAYS (T : TX w K mg) (j : Nat) {x : Str} {v : He.Dv} (hj : t_WAYS[j]? = some (x, v)) : KDct K w (He.ga K "WAYS") x (v.v K) := kdct_of T (i := 3) rfl (exb_parts T).2.2.2.2.2.2.1 j hj
end
theorem pe_gref {X : Cx} {x : Str} {a : Addr} {pos : Pos} (hg : Gl X x) (hm : X.mg x = some (.ref a)) (hd : (x == ("__debug__" : Str)) = false := by decide) : PE X (.Name x pos) (tC (.ref a)) := pe_glob hg hm rfl hd
/-- one part of a proof for several ways -/
theorem via (A : Prop) {G : Prop} (p : A → G) (r : (A → G) → G) : G := r p
/-! ### a call of a local name that holds a def -/
def tCallV (F : Addr → Sp → Prop) (i : Nat) (t : TA) : TE := fun σ H Q => ∃ f sp, σ[i]? = some (some (.ref f)) ∧ F f sp ∧ t σ H fun vs H1 => sp vs H1 Q E0
section
variable {X : Cx} {i k : Nat} {x : Str} {p pos : Pos} {e : Expr} {es : List Expr} {t : TA}
theorem pe_callV (hp : X.prog = PG) (hr : Room k X.A) (hN : X.N[i]? = some x) (hv : Vis X.env.scope x) (ha : PA X (e :: es) t) (hdb : (x == ("__debug__" : Str)) = false := by decide) (hcd : (x == ("__classdict__" : Str)) = false := by decide)
    (he : starEach (e :: es) X.env = (false, eval e X.env) :: starEach es X.env := by rfl) (hpl : (backTo pos (starEach es X.env)).any (·.1) = false := by rfl) :
    PE X (.Call (.Name x p) (e :: es) [] pos) (tCallV (Fn X.w X.K X.mg X.base k) i t) := by
  refine ⟨fun pins s σ H Q I h => ?_⟩
  obtain ⟨f, sp, hs, F, ht⟩ := h
  refine wpAny_Call_Name_kw (thn ((pe_var (pos := p) hN hv hdb hcd).run pins s σ H (fun v H1 => v = .ref f ∧ H1 = H) I ⟨.ref f, hs, rfl, rfl⟩) fun u s1 ⟨v, H1, I1, r1, q1⟩ => ?_)
  obtain ⟨rfl, rfl⟩ := q1
  cases r1
  refine PySem.W.callWith_K (h₀ := X.base) I.ok.mod.kin F.2 (thn (ha.run pos pins s1 σ _ _ I1 ht) fun us s2 ⟨vs, H2, I2, r, q⟩ => ⟨I2.kIn, ?_⟩) he hpl
  exact run_F (by rw [hp]; exact F.1) hr I2 r q
end
/-! ### values and notes in the heap -/
def VAt (K : PySem.W.Frag) (H : Hp) : Val → V → Prop
  | .price, v => ∃ a, v = .ref a ∧ SqT K H a [.str "price"]
  | .coin q, v => ∃ a u, v = .ref a ∧ SqT K H a [.str "coin", u] ∧ Amt K H u q
  | .of q x, v => ∃ a u u2, v = .ref a ∧ SqT K H a [.str "of", u, u2] ∧ Amt K H u q ∧ VAt K H x u2
  | .plus x y, v => ∃ a u u2, v = .ref a ∧ SqT K H a [.str "plus", u, u2] ∧ VAt K H x u ∧ VAt K H y u2
  | .minus x y, v => ∃ a u u2, v = .ref a ∧ SqT K H a [.str "minus", u, u2] ∧ VAt K H x u ∧ VAt K H y u2
  | .best x y, v => ∃ a u u2, v = .ref a ∧ SqT K H a [.str "best", u, u2] ∧ VAt K H x u ∧ VAt K H y u2
  | .least x y, v => ∃ a u u2, v = .ref a ∧ SqT K H a [.str "least", u, u2] ∧ VAt K H x u ∧ VAt K H y u2
def owS (h : Bool) : Str := if h then "holder" else "writer"
def sdS (up : Bool) : Str := if up then "up" else "down"
def wdS (peak : Bool) : Str := if peak then "peak" else "total"
def PAt (K : PySem.W.Frag) (H : Hp) : Option Rat → V → Prop
  | none, v => v = .non
  | some q, v => Amt K H v q
def NAt (K : PySem.W.Frag) (H : Hp) : Note → V → Prop
  | .none, v => ∃ a, v = .ref a ∧ SqT K H a [.str "none"]
  | .pay d x, v => ∃ a u, v = .ref a ∧ SqT K H a [.str "pay", .int d, u] ∧ VAt K H x u
  | .now x, v => ∃ a u, v = .ref a ∧ SqT K H a [.str "now", u] ∧ VAt K H x u
  | .both m n, v => ∃ a u u2, v = .ref a ∧ SqT K H a [.str "both", u, u2] ∧ NAt K H m u ∧ NAt K H n u2
  | .times q n, v => ∃ a u u2, v = .ref a ∧ SqT K H a [.str "times", u, u2] ∧ Amt K H u q ∧ NAt K H n u2
  | .turn n, v => ∃ a u, v = .ref a ∧ SqT K H a [.str "turn", u] ∧ NAt K H n u
  | .till up l m n, v => ∃ a u u2 u3, v = .ref a ∧ SqT K H a [.str "till", .str (sdS up), u, u2, u3] ∧ Amt K H u l ∧ NAt K H m u2 ∧ NAt K H n u3
  | .may nm h b s m n, v => ∃ a u u2, v = .ref a ∧ SqT K H a [.str "may", .str nm, .str (owS h), .int b, .int s, u, u2] ∧ NAt K H m u ∧ NAt K H n u2
  | .seen pk d st past, v => ∃ a u u2, v = .ref a ∧ SqT K H a [.str "seen", .str (wdS pk), .int d, u, u2] ∧ Amt K H u st ∧ PAt K H past u2
section
variable {K : PySem.W.Frag} {H H' : Hp}
theorem VAt.mono (e : Same H H') : ∀ {x : Val} {v : V}, VAt K H x v → VAt K H' x v
  | .price, v, ⟨a, r, h⟩ => ⟨a, r, Same.sqt e h⟩
  | .coin q, v, ⟨a, u, r, h, h1⟩ => ⟨a, u, r, Same.sqt e h, h1.mono e⟩
  | .of q x, v, ⟨a, u, u2, r, h, h1, h2⟩ => ⟨a, u, u2, r, Same.sqt e h, h1.mono e, VAt.mono e h2⟩
  | .plus x y, v, ⟨a, u, u2, r, h, h1, h2⟩ => ⟨a, u, u2, r, Same.sqt e h, VAt.mono e h1, VAt.mono e h2⟩
  | .minus x y, v, ⟨a, u, u2, r, h, h1, h2⟩ => ⟨a, u, u2, r, Same.sqt e h, VAt.mono e h1, VAt.mono e h2⟩
  | .best x y, v, ⟨a, u, u2, r, h, h1, h2⟩ => ⟨a, u, u2, r, Same.sqt e h, VAt.mono e h1, VAt.mono e h2⟩
  | .least x y, v, ⟨a, u, u2, r, h, h1, h2⟩ => ⟨a, u, u2, r, Same.sqt e h, VAt.mono e h1, VAt.mono e h2⟩
theorem PAt.mono (e : Same H H') : ∀ {x : Option Rat} {v : V}, PAt K H x v → PAt K H' x v
  | none, _, h => h
  | some _, _, h => Amt.mono h e
theorem NAt.mono (e : Same H H') : ∀ {x : Note} {v : V}, NAt K H x v → NAt K H' x v
  | .none, v, ⟨a, r, h⟩ => ⟨a, r, Same.sqt e h⟩
  | .pay d x, v, ⟨a, u, r, h, h1⟩ => ⟨a, u, r, Same.sqt e h, h1.mono e⟩
  | .now x, v, ⟨a, u, r, h, h1⟩ => ⟨a, u, r, Same.sqt e h, h1.mono e⟩
  | .both x y, v, ⟨a, u, u2, r, h, h1, h2⟩ => ⟨a, u, u2, r, Same.sqt e h, NAt.mono e h1, NAt.mono e h2⟩
  | .times q n, v, ⟨a, u, u2, r, h, h1, h2⟩ => ⟨a, u, u2, r, Same.sqt e h, h1.mono e, NAt.mono e h2⟩
  | .turn n, v, ⟨a, u, r, h, h1⟩ => ⟨a, u, r, Same.sqt e h, NAt.mono e h1⟩
  | .till up l m n, v, ⟨a, u, u2, u3, r, h, h1, h2, h3⟩ => ⟨a, u, u2, u3, r, Same.sqt e h, h1.mono e, NAt.mono e h2, NAt.mono e h3⟩
  | .may nm o b s m n, v, ⟨a, u, u2, r, h, h1, h2⟩ => ⟨a, u, u2, r, Same.sqt e h, NAt.mono e h1, NAt.mono e h2⟩
  | .seen pk d st past, v, ⟨a, u, u2, r, h, h1, h2⟩ => ⟨a, u, u2, r, Same.sqt e h, h1.mono e, PAt.mono e h2⟩
end
/-! ### sizes of values -/
def vdep : Val → Nat
  | .price => 1
  | .coin _ => 1
  | .of _ v => vdep v + 1
  | .plus a b => max (vdep a) (vdep b) + 1
  | .minus a b => max (vdep a) (vdep b) + 1
  | .best a b => max (vdep a) (vdep b) + 1
  | .least a b => max (vdep a) (vdep b) + 1
def vbits : Val → Nat
  | .price => 8
  | .coin _ => 8
  | .of _ v => 8 + vbits v
  | .plus a b => vbits a + vbits b + 1
  | .minus a b => vbits a + vbits b + 1
  | .best a b => vbits a + vbits b + 1
  | .least a b => vbits a + vbits b + 1
def VGood : Val → Prop
  | .price => True
  | .coin q => Sz 8 q
  | .of q v => Sz 8 q ∧ VGood v
  | .plus a b => VGood a ∧ VGood b
  | .minus a b => VGood a ∧ VGood b
  | .best a b => VGood a ∧ VGood b
  | .least a b => VGood a ∧ VGood b
theorem better_sz {a b : Nat} {x y : Rat} (h1 : Sz a x) (h2 : Sz b y) : Sz (a + b + 1) (better x y) := by
  unfold better
  split
  · exact h2.mono (by omega)
  · exact h1.mono (by omega)
theorem worse_sz {a b : Nat} {x y : Rat} (h1 : Sz a x) (h2 : Sz b y) : Sz (a + b + 1) (worse x y) := by
  unfold worse
  split
  · exact h1.mono (by omega)
  · exact h2.mono (by omega)
theorem vat_sz {p : Rat} (hp : Sz 8 p) : ∀ {x : Val}, VGood x → Sz (vbits x) (vat x p)
  | .price, _ => hp
  | .coin q, h => h
  | .of q x, h => h.1.times (vat_sz hp h.2)
  | .plus a b, h => (vat_sz hp h.1).plus (vat_sz hp h.2)
  | .minus a b, h => (vat_sz hp h.1).minus (vat_sz hp h.2)
  | .best a b, h => better_sz (vat_sz hp h.1) (vat_sz hp h.2)
  | .least a b, h => worse_sz (vat_sz hp h.1) (vat_sz hp h.2)
/-! ### value_at -/
section
variable {w : World} {K : PySem.W.Frag} {mg : Str → Option Value} {base : Heap}
def spVat (K : PySem.W.Frag) (k : Nat) : Sp := fun vs H Q _ => ∃ v u x p, vs = [v, u] ∧ VAt K H x v ∧ Amt K H u p ∧ VGood x ∧ Sz 8 p ∧ vdep x ≤ k ∧ vbits x ≤ 4000 ∧ ∀ z H', Same H H' → Amt K H' z (vat x p) → Q z H'
theorem iteSN {a b : Str} {A B : Prop} (q : B) (h : ¬ a = b := by decide +kernel) : if decide (V.str a = V.str b) = true then A else B := by
  rw [if_neg (fun z => h (V.str.inj (of_decide_eq_true z)))]
  exact q
theorem iteSE {a b : Str} {A B : Prop} (q : A) (h : a = b := by rfl) : if decide (V.str a = V.str b) = true then A else B := by
  rw [if_pos (decide_eq_true (by rw [h]))]
  exact q
theorem ok_value_at (T : TX w K mg) (k : Nat) : Fn w K mg base (k + 4) (He.ga K "value_at") (spVat K k) := by
  induction k with
  | zero =>
    refine fn_value_at T (fun vs H Q E h => ?_) (fun cdv A outer s H vs Q E hr h => ?_)
    · obtain ⟨_, _, _, _, rfl, _⟩ := h
      rfl
    · obtain ⟨v, u, x, p, rfl, _, _, _, _, hd, _⟩ := h
      cases x <;> simp [vdep] at hd
  | succ k G =>
    refine fn_value_at (k := k + 4) T (fun vs H Q E h => ?_) (fun cdv A outer s H vs Q E hr h => ?_)
    · obtain ⟨_, _, _, _, rfl, _⟩ := h
      rfl
    · obtain ⟨v, u, x, p, rfl, hv, hu, gx, sp, hd, hb, kk⟩ := h
      refine ⟨_, pss_cons (ps_if (pt_cmpR op_eq (pe_ix ix_tup (pv 0) pe_int (fun _ _ => rfl)) pe_str (nomark _)) (pss_one (ps_ret (pv 1))) pss_nil)
        (pss_cons (ps_if (pt_cmpR op_eq (pe_ix ix_tup (pv 0) pe_int (fun _ _ => rfl)) pe_str (nomark _)) (pss_one (ps_ret (pe_ix ix_tup (pv 0) pe_int (fun _ _ => rfl)))) pss_nil)
        (pss_cons (ps_if (pt_cmpR op_eq (pe_ix ix_tup (pv 0) pe_int (fun _ _ => rfl)) pe_str (nomark _)) (pss_one (ps_ret (pe_callF (ok_times T) rfl hr rfl (g_times T) (pa_cons (pe_ix ix_tup (pv 0) pe_int (fun _ _ => rfl)) (pa_cons (pe_callF G rfl hr rfl (g_value_at T) (pa_cons (pe_ix ix_tup (pv 0) pe_int (fun _ _ => rfl)) (pa_cons (pv 1) pa_nil)) (by omega)) pa_nil)) (by omega)))) pss_nil)
        (pss_cons (ps_set (i := 2) sc_value_at.nd rfl (.inl rfl) (pe_ix ix_kdict (pe_gref rfl (g_PAIRS T)) (pe_ix ix_tup (pv 0) pe_int (fun _ _ => rfl)) (fun _ _ => rfl)))
        (pss_one (ps_ret (pe_callV (i := 2) rfl hr rfl (.inl rfl) (pa_cons (pe_callF G rfl hr rfl (g_value_at T) (pa_cons (pe_ix ix_tup (pv 0) pe_int (fun _ _ => rfl)) (pa_cons (pv 1) pa_nil)) (by omega)) (pa_cons (pe_callF G rfl hr rfl (g_value_at T) (pa_cons (pe_ix ix_tup (pv 0) pe_int (fun _ _ => rfl)) (pa_cons (pv 1) pa_nil)) (by omega)) pa_nil)))))))), ?_⟩
      refine via (∃ (a : Addr) (hd : Str) (j : Nat) (nm : Str) (f : Rat → Rat → Rat) (spf : Sp) (u1 u2 : V) (x y : Val), v = .ref a ∧ SqT K H a [.str hd, u1, u2] ∧ VAt K H x u1 ∧ VAt K H y u2 ∧ VGood x ∧ VGood y ∧ vdep x ≤ k ∧ vdep y ≤ k ∧ vbits x + vbits y + 1 ≤ 4000 ∧
          (∀ z H', Same H H' → Amt K H' z (f (vat x p) (vat y p)) → Q z H') ∧ (¬ hd = "price") ∧ (¬ hd = "coin") ∧ (¬ hd = "of") ∧ t_PAIRS[j]? = some (hd, .glo nm) ∧ Fn w K mg base (k + 4) (He.ga K nm) spf ∧
          (∀ H1 z1 z2, Same H H1 → Amt K H1 z1 (vat x p) → Amt K H1 z2 (vat y p) → Sz (vbits x) (vat x p) → Sz (vbits y) (vat y p) → ∀ Q' : VK, (∀ z H', Same H1 H' → Amt K H' z (f (vat x p) (vat y p)) → Q' z H') → spf [z1, z2] H1 Q' E0)) ?_ (fun pair => ?_)
      · rintro ⟨a, hd, j, nm, f, spf, u1, u2, x, y, ev, hs, hx, hy, gx, gy, dx, dy, hb, kk, n1, n2, n3, hj, F, hf⟩
        subst ev
        refine ⟨_, rfl, a, _, _, _, rfl, rfl, hs, rfl, rfl, _, rfl, iteSN ?_ n1⟩
        refine ⟨_, rfl, a, _, _, _, rfl, rfl, hs, rfl, rfl, _, rfl, iteSN ?_ n2⟩
        refine ⟨_, rfl, a, _, _, _, rfl, rfl, hs, rfl, rfl, _, rfl, iteSN ?_ n3⟩
        refine ⟨_, rfl, a, _, _, _, rfl, rfl, hs, rfl, He.ga K "PAIRS", hd, _, rfl, rfl, kd_PAIRS T j hj, ?_⟩
        refine ⟨_, _, rfl, F, _, rfl, a, _, _, _, rfl, rfl, hs, rfl, _, rfl, u1, u, x, p, rfl, hx, hu, gx, sp, dx, by omega, fun z1 H1 e1 r1 => ?_⟩
        refine ⟨_, rfl, a, _, _, _, rfl, rfl, Same.sqt e1 hs, rfl, _, rfl, u2, u, y, p, rfl, hy.mono e1, hu.mono e1, gy, sp, dy, by omega, fun z2 H2 e2 r2 => ?_⟩
        exact hf H2 z1 z2 (e1.trans e2) (r1.mono e2) r2 (vat_sz sp gx) (vat_sz sp gy) _ fun z H' e r => kk z H' ((e1.trans e2).trans e) r
      cases x with
      | price =>
        obtain ⟨a, rfl, hs⟩ := hv
        refine ⟨_, rfl, a, _, _, _, rfl, rfl, hs, rfl, rfl, _, rfl, iteSE ⟨_, rfl, ?_⟩⟩
        exact kk _ _ (Same.refl _) hu
      | coin q =>
        obtain ⟨a, u1, rfl, hs, h1⟩ := hv
        refine ⟨_, rfl, a, _, _, _, rfl, rfl, hs, rfl, rfl, _, rfl, iteSN ?_⟩
        refine ⟨_, rfl, a, _, _, _, rfl, rfl, hs, rfl, rfl, _, rfl, iteSE ⟨_, rfl, a, _, _, _, rfl, rfl, hs, rfl, ?_⟩⟩
        exact kk _ _ (Same.refl _) h1
      | of q x =>
        obtain ⟨a, u1, u2, rfl, hs, h1, h2⟩ := hv
        have hdx : vdep x ≤ k := by simp only [vdep] at hd; omega
        have hbx : 8 + vbits x ≤ 4000 := hb
        refine ⟨_, rfl, a, _, _, _, rfl, rfl, hs, rfl, rfl, _, rfl, iteSN ?_⟩
        refine ⟨_, rfl, a, _, _, _, rfl, rfl, hs, rfl, rfl, _, rfl, iteSN ?_⟩
        refine ⟨_, rfl, a, _, _, _, rfl, rfl, hs, rfl, rfl, _, rfl, iteSE ?_⟩
        refine ⟨_, rfl, a, _, _, _, rfl, rfl, hs, rfl, _, rfl, a, _, _, _, rfl, rfl, hs, rfl, _, rfl, u2, u, x, p, rfl, h2, hu, gx.2, sp, hdx, by omega, fun z1 H1 e1 r1 => ?_⟩
        refine ⟨_, _, q, _, 8, vbits x, rfl, h1.mono e1, r1, gx.1, vat_sz sp gx.2, by omega, fun z H' e r => ?_⟩
        exact kk z H' (e1.trans e) r
      | plus x y =>
        obtain ⟨a, u1, u2, rfl, hs, h1, h2⟩ := hv
        simp only [vdep] at hd
        exact pair ⟨a, "plus", 0, "plus", (fun a b => a + b), (spPlus K), u1, u2, x, y, rfl, hs, h1, h2, gx.1, gx.2, (by omega), (by omega), hb, kk, (by decide +kernel), (by decide +kernel), (by decide +kernel), rfl, ((ok_plus T).mono (by omega)),
          fun H1 z1 z2 e a1 a2 s1 s2 Q' q => ⟨z1, z2, _, _, vbits x, vbits y, rfl, a1, a2, s1, s2, by simp only [vbits] at hb; omega, q⟩⟩
      | minus x y =>
        obtain ⟨a, u1, u2, rfl, hs, h1, h2⟩ := hv
        simp only [vdep] at hd
        exact pair ⟨a, "minus", 1, "minus", (fun a b => a - b), (spMinus K), u1, u2, x, y, rfl, hs, h1, h2, gx.1, gx.2, (by omega), (by omega), hb, kk, (by decide +kernel), (by decide +kernel), (by decide +kernel), rfl, ((ok_minus T).mono (by omega)),
          fun H1 z1 z2 e a1 a2 s1 s2 Q' q => ⟨z1, z2, _, _, vbits x, vbits y, rfl, a1, a2, s1, s2, by simp only [vbits] at hb; omega, q⟩⟩
      | best x y =>
        obtain ⟨a, u1, u2, rfl, hs, h1, h2⟩ := hv
        simp only [vdep] at hd
        exact pair ⟨a, "best", 2, "better", better, (sp_better K), u1, u2, x, y, rfl, hs, h1, h2, gx.1, gx.2, (by omega), (by omega), hb, kk, (by decide +kernel), (by decide +kernel), (by decide +kernel), rfl, ((ok_better T).mono (by omega)),
          fun H1 z1 z2 e a1 a2 s1 s2 Q' q => ⟨z1, z2, _, _, rfl, a1, a2, s1.mono (by simp only [vbits] at hb; omega), s2.mono (by simp only [vbits] at hb; omega), fun z r => q z H1 (Same.refl _) r⟩⟩
      | least x y =>
        obtain ⟨a, u1, u2, rfl, hs, h1, h2⟩ := hv
        simp only [vdep] at hd
        exact pair ⟨a, "least", 3, "worse", worse, (sp_worse K), u1, u2, x, y, rfl, hs, h1, h2, gx.1, gx.2, (by omega), (by omega), hb, kk, (by decide +kernel), (by decide +kernel), (by decide +kernel), rfl, ((ok_worse T).mono (by omega)),
          fun H1 z1 z2 e a1 a2 s1 s2 Q' q => ⟨z1, z2, _, _, rfl, a1, a2, s1.mono (by simp only [vbits] at hb; omega), s2.mono (by simp only [vbits] at hb; omega), fun z r => q z H1 (Same.refl _) r⟩⟩
end
end SL
namespace SL
open PySem PySem.Spec PyProof.Rows L2
/-! ### what is good of a note: names, dates, sizes; what of it lives on -/
def NameOk (nm : Str) : Prop := nm.length ≤ 6 ∧ ∀ c ∈ nm.cps.toList, 97 ≤ c ∧ c ≤ 122
def DateOk (d : Int) : Prop := 0 ≤ d ∧ d ≤ 6
def NGood (m : Nat) : Note → Prop
  | .none => True
  | .pay d v => DateOk d ∧ VGood v ∧ vdep v ≤ 3
  | .now v => VGood v ∧ vdep v ≤ 3
  | .both a b => NGood m a ∧ NGood m b
  | .times q n => Sz 8 q ∧ NGood m n
  | .turn n => NGood m n
  | .till _ l a b => Sz 8 l ∧ NGood m a ∧ NGood m b
  | .may nm _ b s x y => NameOk nm ∧ DateOk b ∧ DateOk s ∧ NGood m x ∧ NGood m y
  | .seen _ d st past => DateOk d ∧ Sz 8 st ∧ ∀ q, past = some q → Sz (8 + 9 * m) q
theorem NGood.mono {m m' : Nat} (l : m ≤ m') : ∀ {n : Note}, NGood m n → NGood m' n
  | .none, h => h
  | .pay _ _, h => h
  | .now _, h => h
  | .both a b, h => ⟨NGood.mono l h.1, NGood.mono l h.2⟩
  | .times q n, h => ⟨h.1, NGood.mono l h.2⟩
  | .turn n, h => NGood.mono (n := n) l h
  | .till _ _ a b, h => ⟨h.1, NGood.mono l h.2.1, NGood.mono l h.2.2⟩
  | .may _ _ _ _ x y, h => ⟨h.1, h.2.1, h.2.2.1, NGood.mono l h.2.2.2.1, NGood.mono l h.2.2.2.2⟩
  | .seen _ _ _ past, h => ⟨h.1, h.2.1, fun q e => (h.2.2 q e).mono (by omega)⟩
def ndep : Note → Nat
  | .none => 1
  | .pay _ _ => 1
  | .now _ => 1
  | .both a b => max (ndep a) (ndep b) + 1
  | .times _ n => ndep n + 1
  | .turn n => ndep n + 1
  | .till _ _ a b => max (ndep a) (ndep b) + 1
  | .may _ _ _ _ x y => max (ndep x) (ndep y) + 1
  | .seen _ _ _ _ => 1
def nbits : Note → Nat
  | .none => 8
  | .pay _ v => vbits v
  | .now v => vbits v
  | .both a b => nbits a + nbits b + 1
  | .times _ n => 8 + nbits n
  | .turn n => nbits n + 2
  | .till _ _ a b => max (nbits a) (nbits b)
  | .may _ _ _ _ x y => max (nbits x) (nbits y)
  | .seen _ _ _ _ => 53
theorem vbits_ge : ∀ v : Val, 8 ≤ vbits v
  | .price => Nat.le_refl _
  | .coin _ => Nat.le_refl _
  | .of _ v => by have := vbits_ge v; simp only [vbits]; omega
  | .plus a b => by have := vbits_ge a; simp only [vbits]; omega
  | .minus a b => by have := vbits_ge a; simp only [vbits]; omega
  | .best a b => by have := vbits_ge a; simp only [vbits]; omega
  | .least a b => by have := vbits_ge a; simp only [vbits]; omega
theorem nbits_ge : ∀ n : Note, 8 ≤ nbits n
  | .none => Nat.le_refl _
  | .pay _ v => vbits_ge v
  | .now v => vbits_ge v
  | .both a b => by have := nbits_ge a; simp only [nbits]; omega
  | .times _ n => by simp only [nbits]; omega
  | .turn n => by have := nbits_ge n; simp only [nbits]; omega
  | .till _ _ a b => by have := nbits_ge a; simp only [nbits]; omega
  | .may _ _ _ _ a b => by have := nbits_ge a; simp only [nbits]; omega
  | .seen _ _ _ _ => by simp only [nbits]; omega
/-- leaves at most -/
def nlv : Note → Nat
  | .none => 1
  | .pay _ _ => 1
  | .now _ => 1
  | .both a b => nlv a * nlv b
  | .times _ n => nlv n
  | .turn n => nlv n
  | .till _ _ a b => max (nlv a) (nlv b)
  | .may _ _ _ _ x y => nlv x + nlv y
  | .seen _ _ _ _ => 1
/-- questions at most, one behind another -/
def nqs : Note → Nat
  | .none => 0
  | .pay _ _ => 0
  | .now _ => 0
  | .both a b => nqs a + nqs b
  | .times _ n => nqs n
  | .turn n => nqs n
  | .till _ _ a b => max (nqs a) (nqs b)
  | .may _ _ _ _ x y => 1 + max (nqs x) (nqs y)
  | .seen _ _ _ _ => 0
theorem nlv_pos : ∀ n : Note, 1 ≤ nlv n
  | .none => Nat.le_refl _
  | .pay _ _ => Nat.le_refl _
  | .now _ => Nat.le_refl _
  | .both a b => Nat.mul_pos (nlv_pos a) (nlv_pos b)
  | .times _ n => nlv_pos n
  | .turn n => nlv_pos n
  | .till _ _ a b => by have := nlv_pos a; simp only [nlv]; omega
  | .may _ _ _ _ a b => by have := nlv_pos a; simp only [nlv]; omega
  | .seen _ _ _ _ => Nat.le_refl _
/-- the names of a note's rights -/
def NNames (P : Str → Prop) : Note → Prop
  | .none => True
  | .pay _ _ => True
  | .now _ => True
  | .both a b => NNames P a ∧ NNames P b
  | .times _ n => NNames P n
  | .turn n => NNames P n
  | .till _ _ a b => NNames P a ∧ NNames P b
  | .may nm _ _ _ x y => P nm ∧ NNames P x ∧ NNames P y
  | .seen _ _ _ _ => True
/-! ### a tree's leaves and questions -/
def Tree.All (P : Rat → Note → Prop) : Tree → Prop
  | .leaf p r => P p r
  | .ask _ _ y m => y.All P ∧ m.All P
def Tree.Asks (P : Str → Prop) : Tree → Prop
  | .leaf _ _ => True
  | .ask _ n y m => P n ∧ y.Asks P ∧ m.Asks P
def Tree.dep : Tree → Nat
  | .leaf _ _ => 0
  | .ask _ _ y m => 1 + max y.dep m.dep
def Tree.lvs : Tree → Nat
  | .leaf _ _ => 1
  | .ask _ _ y m => y.lvs + m.lvs
theorem all_imp {P P' : Rat → Note → Prop} (h : ∀ p r, P p r → P' p r) : ∀ {t : Tree}, t.All P → t.All P'
  | .leaf p r, q => h p r q
  | .ask _ _ y m, q => ⟨all_imp h q.1, all_imp h q.2⟩
theorem all_bind {P : Rat → Note → Prop} {f : Rat → Note → Tree} : ∀ {t : Tree}, t.All (fun p r => (f p r).All P) → (t.bind f).All P
  | .leaf p r, q => q
  | .ask _ _ y m, q => ⟨all_bind q.1, all_bind q.2⟩
theorem all_flip {P : Rat → Note → Prop} : ∀ {t : Tree}, t.All P → t.flip.All P
  | .leaf p r, q => q
  | .ask _ _ y m, q => ⟨all_flip q.1, all_flip q.2⟩
theorem all_walk {P : Rat → Note → Prop} : ∀ {t : Tree} {ans : List Bool} {p : Rat} {r : Note} {l : List Bool}, t.All P → t.walk ans = .fin p r l → P p r
  | .leaf p r, ans, p', r', l, q, e => by
    simp only [Tree.walk, Res.fin.injEq] at e
    obtain ⟨rfl, rfl, _⟩ := e
    exact q
  | .ask _ _ y m, [], _, _, _, q, e => by cases e
  | .ask _ _ y m, true :: ans, _, _, _, q, e => all_walk (t := y) (ans := ans) q.1 e
  | .ask _ _ y m, false :: ans, _, _, _, q, e => all_walk (t := m) (ans := ans) q.2 e
theorem walk_left : ∀ {t : Tree} {ans : List Bool} {p : Rat} {r : Note} {l : List Bool}, t.walk ans = .fin p r l → l.length ≤ ans.length
  | .leaf p r, ans, p', r', l, e => by
    simp only [Tree.walk, Res.fin.injEq] at e
    obtain ⟨_, _, rfl⟩ := e
    exact Nat.le_refl _
  | .ask _ _ y m, [], _, _, _, e => by cases e
  | .ask _ _ y m, true :: ans, _, _, _, e => Nat.le_succ_of_le (walk_left (t := y) (ans := ans) e)
  | .ask _ _ y m, false :: ans, _, _, _, e => Nat.le_succ_of_le (walk_left (t := m) (ans := ans) e)
theorem asks_bind {P : Str → Prop} {f : Rat → Note → Tree} : ∀ {t : Tree}, t.Asks P → t.All (fun p r => (f p r).Asks P) → (t.bind f).Asks P
  | .leaf p r, _, q => q
  | .ask _ _ y m, a, q => ⟨a.1, asks_bind a.2.1 q.1, asks_bind a.2.2 q.2⟩
theorem asks_flip {P : Str → Prop} : ∀ {t : Tree}, t.Asks P → t.flip.Asks P
  | .leaf p r, q => q
  | .ask _ _ y m, q => ⟨q.1, asks_flip q.2.1, asks_flip q.2.2⟩
theorem dep_bind {f : Rat → Note → Tree} {k : Nat} : ∀ {t : Tree}, t.All (fun p r => (f p r).dep ≤ k) → (t.bind f).dep ≤ t.dep + k
  | .leaf p r, q => by
    have q' : (f p r).dep ≤ k := q
    simpa [Tree.bind, Tree.dep] using q'
  | .ask _ _ y m, q => by
    have h1 := dep_bind q.1
    have h2 := dep_bind q.2
    simp only [Tree.bind, Tree.dep]
    omega
theorem dep_flip : ∀ {t : Tree}, t.flip.dep = t.dep
  | .leaf p r => rfl
  | .ask _ _ y m => by simp only [Tree.flip, Tree.dep, dep_flip (t := y), dep_flip (t := m)]
theorem lvs_flip : ∀ {t : Tree}, t.flip.lvs = t.lvs
  | .leaf p r => rfl
  | .ask _ _ y m => by simp only [Tree.flip, Tree.lvs, lvs_flip (t := y), lvs_flip (t := m)]
theorem lvs_bind {f : Rat → Note → Tree} {k : Nat} : ∀ {t : Tree}, t.All (fun p r => (f p r).lvs ≤ k) → (t.bind f).lvs ≤ t.lvs * k
  | .leaf p r, q => by
    have q' : (f p r).lvs ≤ k := q
    simpa [Tree.bind, Tree.lvs] using q'
  | .ask _ _ y m, q => by
    have h1 := lvs_bind q.1
    have h2 := lvs_bind q.2
    simp only [Tree.bind, Tree.lvs, Nat.add_mul]
    omega
theorem dep_le_lvs : ∀ t : Tree, t.dep + 1 ≤ t.lvs
  | .leaf p r => Nat.le_refl _
  | .ask _ _ y m => by
    have h1 := dep_le_lvs y
    have h2 := dep_le_lvs m
    simp only [Tree.dep, Tree.lvs]
    omega
/-- what lives on behind a date is no greater -/
structure Lives (m : Nat) (P : Str → Prop) (n r : Note) : Prop where
  good : NGood m n → NGood (m + 1) r
  dep : ndep r ≤ ndep n
  bits : nbits r ≤ nbits n
  lvs : nlv r ≤ nlv n
  qs : nqs r ≤ nqs n
  names : NNames P n → NNames P r
theorem lives_none {m : Nat} {P : Str → Prop} {n : Note} (h : 1 ≤ ndep n) : Lives m P n .none :=
  ⟨fun _ => trivial, h, nbits_ge n, nlv_pos n, Nat.zero_le _, fun _ => trivial⟩
theorem ndep_pos (n : Note) : 1 ≤ ndep n := by cases n <;> simp [ndep]
theorem isNone_none (n : Note) : n.isNone = true ∨ n.isNone = false := by cases n.isNone <;> simp
theorem lives_bothOf {m : Nat} {P : Str → Prop} {a b r r' : Note} (h : Lives m P a r) (h' : Lives m P b r') : Lives m P (.both a b) (bothOf r r') := by
  have pa := nlv_pos a
  have pb := nlv_pos b
  have p1 := nlv_pos r
  have p2 := nlv_pos r'
  have la : nlv a ≤ nlv a * nlv b := Nat.le_mul_of_pos_right _ pb
  have lb : nlv b ≤ nlv a * nlv b := Nat.le_mul_of_pos_left _ pa
  unfold bothOf
  split
  · exact ⟨fun g => h'.good g.2, by simp only [ndep]; have := h'.dep; omega, by simp only [nbits]; have := h'.bits; omega, Nat.le_trans h'.lvs lb, by simp only [nqs]; have := h'.qs; omega, fun g => h'.names g.2⟩
  · split
    · exact ⟨fun g => h.good g.1, by simp only [ndep]; have := h.dep; omega, by simp only [nbits]; have := h.bits; omega, Nat.le_trans h.lvs la, by simp only [nqs]; have := h.qs; omega, fun g => h.names g.1⟩
    · exact ⟨fun g => ⟨h.good g.1, h'.good g.2⟩, by simp only [ndep]; have := h.dep; have := h'.dep; omega, by simp only [nbits]; have := h.bits; have := h'.bits; omega, Nat.mul_le_mul h.lvs h'.lvs, by simp only [nqs]; have := h.qs; have := h'.qs; omega, fun g => ⟨h.names g.1, h'.names g.2⟩⟩
theorem tree_lives {P : Str → Prop} {d : Int} {p : Rat} {m : Nat} (sp : Sz 8 p) : ∀ n : Note, (tree n d p).All fun _ r => Lives m P n r
  | .none => by
    rw [tree]
    exact lives_none (Nat.le_refl _)
  | .pay day v => by
    rw [tree]
    split
    · exact ⟨fun g => g, Nat.le_refl _, Nat.le_refl _, Nat.le_refl _, Nat.le_refl _, fun g => g⟩
    · exact lives_none (Nat.le_refl _)
  | .now v => by
    rw [tree]
    exact lives_none (Nat.le_refl _)
  | .both a b => by
    rw [tree]
    refine all_bind (all_imp (fun x r h => ?_) (tree_lives (P := P) (m := m) sp a))
    refine all_bind (all_imp (fun y r' h' => ?_) (tree_lives (P := P) (m := m) sp b))
    exact lives_bothOf h h'
  | .times q n => by
    rw [tree]
    refine all_bind (all_imp (fun x r h => ?_) (tree_lives (P := P) (m := m) sp n))
    show Lives m P (.times q n) (timesR q r)
    unfold timesR
    split
    · exact lives_none (ndep_pos _)
    · exact ⟨fun g => ⟨g.1, h.good g.2⟩, by simp only [ndep]; have := h.dep; omega, by simp only [nbits]; have := h.bits; omega, h.lvs, h.qs, h.names⟩
  | .turn n => by
    rw [tree]
    refine all_bind (all_flip (all_imp (fun x r h => ?_) (tree_lives (P := P) (m := m) sp n)))
    show Lives m P (.turn n) (turnR r)
    unfold turnR
    split
    · exact lives_none (ndep_pos _)
    · exact ⟨h.good, by simp only [ndep]; have := h.dep; omega, by simp only [nbits]; have := h.bits; omega, h.lvs, h.qs, h.names⟩
  | .till up l a b => by
    rw [tree]
    split
    · refine all_imp (fun x r h => ?_) (tree_lives (P := P) (m := m) sp b)
      exact ⟨fun g => h.good g.2.2, by simp only [ndep]; have := h.dep; omega, by simp only [nbits]; have := h.bits; omega, by simp only [nlv]; have := h.lvs; omega, by simp only [nqs]; have := h.qs; omega, fun g => h.names g.2⟩
    · refine all_bind (all_imp (fun x r h => ?_) (tree_lives (P := P) (m := m) sp a))
      exact ⟨fun g => ⟨g.1, h.good g.2.1, g.2.2.mono (Nat.le_succ m)⟩, by simp only [ndep]; have := h.dep; omega, by simp only [nbits]; have := h.bits; omega, by simp only [nlv]; have := h.lvs; omega, by simp only [nqs]; have := h.qs; omega, fun g => ⟨h.names g.1, g.2⟩⟩
  | .may nm o b s x y => by
    have hx : (if s ≤ d then tree x d p else (tree x d p).bind fun z r => .leaf z (.may nm o b s r y)).All fun _ r => Lives m P (.may nm o b s x y) r := by
      split
      · refine all_imp (fun z r h => ?_) (tree_lives (P := P) (m := m) sp x)
        exact ⟨fun g => h.good g.2.2.2.1, by simp only [ndep]; have := h.dep; omega, by simp only [nbits]; have := h.bits; omega, by simp only [nlv]; have := h.lvs; omega, by simp only [nqs]; have := h.qs; omega, fun g => h.names g.2.1⟩
      · refine all_bind (all_imp (fun z r h => ?_) (tree_lives (P := P) (m := m) sp x))
        exact ⟨fun g => ⟨g.1, g.2.1, g.2.2.1, h.good g.2.2.2.1, g.2.2.2.2.mono (Nat.le_succ m)⟩, by simp only [ndep]; have := h.dep; omega, by simp only [nbits]; have := h.bits; omega, by simp only [nlv]; have := h.lvs; omega, by simp only [nqs]; have := h.qs; omega, fun g => ⟨g.1, h.names g.2.1, g.2.2⟩⟩
    rw [tree_may]
    split
    · refine ⟨all_imp (fun z r h => ?_) (tree_lives (P := P) (m := m) sp y), hx⟩
      exact ⟨fun g => h.good g.2.2.2.2, by simp only [ndep]; have := h.dep; omega, by simp only [nbits]; have := h.bits; omega, by simp only [nlv]; have := h.lvs; omega, by simp only [nqs]; have := h.qs; omega, fun g => h.names g.2.2⟩
    · exact hx
  | .seen pk day st past => by
    rw [tree]
    split
    · exact lives_none (ndep_pos _)
    · split
      · refine ⟨fun g => ⟨g.1, g.2.1, fun q e => ?_⟩, Nat.le_refl _, Nat.le_refl _, Nat.le_refl _, Nat.le_refl _, fun g => g⟩
        cases e
        cases past with
        | none => exact sp.mono (by omega)
        | some b =>
          have hb := g.2.2 b rfl
          unfold afterOf
          cases pk with
          | true => exact (better_sz hb sp).mono (by omega)
          | false => exact (hb.plus sp).mono (by omega)
      · exact lives_none (ndep_pos _)
theorem sz_zero (b : Nat) (h : 1 ≤ b) : Sz b 0 := by
  have : 2 ^ 1 ≤ 2 ^ b := Nat.pow_le_pow_right (by decide) h
  refine ⟨?_, ?_⟩
  · show (0 : Int).natAbs < _
    simp
    omega
  · show 1 < _
    omega
theorem tree_pays {d : Int} {p : Rat} {m : Nat} (sp : Sz 8 p) (hm : m ≤ 3) : ∀ n : Note, NGood m n → (tree n d p).All fun x _ => Sz (nbits n) x
  | .none, g => by
    rw [tree]
    exact sz_zero _ (by decide)
  | .pay day v, g => by
    have e : Sz (vbits v) 0 := sz_zero _ (by have := vbits_ge v; omega)
    rw [tree]
    split
    · exact e
    · show Sz (vbits v) (if d = day then vat v p else 0)
      split
      · exact vat_sz sp g.2.1
      · exact e
  | .now v, g => by
    rw [tree]
    exact vat_sz sp g.1
  | .both a b, g => by
    rw [tree]
    refine all_bind (all_imp (fun x r h => ?_) (tree_pays sp hm a g.1))
    refine all_bind (all_imp (fun y r' h' => ?_) (tree_pays sp hm b g.2))
    exact h.plus h'
  | .times q n, g => by
    rw [tree]
    refine all_bind (all_imp (fun x r h => ?_) (tree_pays sp hm n g.2))
    exact g.1.times h
  | .turn n, g => by
    rw [tree]
    refine all_bind (all_flip (all_imp (fun x r h => ?_) (tree_pays sp hm n g)))
    exact ((sz_zero 1 (Nat.le_refl 1)).minus h).mono (by simp only [nbits]; omega)
  | .till up l a b, g => by
    rw [tree]
    split
    · exact all_imp (fun x r h => h.mono (by simp only [nbits]; omega)) (tree_pays sp hm b g.2.2)
    · exact all_bind (all_imp (fun x r h => h.mono (by simp only [nbits]; omega)) (tree_pays sp hm a g.2.1))
  | .may nm o b s x y, g => by
    have hx : (if s ≤ d then tree x d p else (tree x d p).bind fun z r => .leaf z (.may nm o b s r y)).All fun z _ => Sz (nbits (.may nm o b s x y)) z := by
      split
      · exact all_imp (fun x r h => h.mono (by simp only [nbits]; omega)) (tree_pays sp hm x g.2.2.2.1)
      · exact all_bind (all_imp (fun x r h => h.mono (by simp only [nbits]; omega)) (tree_pays sp hm x g.2.2.2.1))
    rw [tree_may]
    split
    · exact ⟨all_imp (fun x r h => h.mono (by simp only [nbits]; omega)) (tree_pays sp hm y g.2.2.2.2), hx⟩
    · exact hx
  | .seen pk day st past, g => by
    rw [tree]
    split
    · exact sz_zero 53 (by decide)
    · split
      · exact sz_zero 53 (by decide)
      · have ha : Sz 44 (afterOf pk past p) := by
          cases past with
          | none => exact sp.mono (by decide)
          | some b =>
            have hb := (g.2.2 b rfl).mono (show 8 + 9 * m ≤ 35 by omega)
            unfold afterOf
            cases pk with
            | true => exact (better_sz hb sp).mono (by decide)
            | false => exact (hb.plus sp).mono (by decide)
        have hs : Sz 53 (afterOf pk past p - st) := (ha.minus g.2.1).mono (by decide)
        show Sz 53 (better 0 (afterOf pk past p - st))
        unfold better
        split
        · exact hs
        · exact sz_zero _ (by decide)
theorem tree_asks {P : Str → Prop} {d : Int} {p : Rat} : ∀ n : Note, NNames P n → (tree n d p).Asks P
  | .none, g => by
    rw [tree]
    trivial
  | .pay day v, g => by
    rw [tree]
    split <;> trivial
  | .now v, g => by
    rw [tree]
    trivial
  | .both a b, g => by
    rw [tree]
    refine asks_bind (tree_asks a g.1) ?_
    have : ∀ t : Tree, t.All fun x r => ((tree b d p).bind fun y r' => .leaf (x + y) (bothOf r r')).Asks P := fun t => by
      induction t with
      | leaf x r =>
        refine asks_bind (tree_asks b g.2) ?_
        induction tree b d p with
        | leaf _ _ => trivial
        | ask _ _ _ _ i j => exact ⟨i, j⟩
      | ask _ _ _ _ i j => exact ⟨i, j⟩
    exact this _
  | .times q n, g => by
    rw [tree]
    refine asks_bind (tree_asks n g) ?_
    induction tree n d p with
    | leaf _ _ => trivial
    | ask _ _ _ _ i j => exact ⟨i, j⟩
  | .turn n, g => by
    rw [tree]
    refine asks_bind (asks_flip (tree_asks n g)) ?_
    induction (tree n d p).flip with
    | leaf _ _ => trivial
    | ask _ _ _ _ i j => exact ⟨i, j⟩
  | .till up l a b, g => by
    rw [tree]
    split
    · exact tree_asks b g.2
    · refine asks_bind (tree_asks a g.1) ?_
      induction tree a d p with
      | leaf _ _ => trivial
      | ask _ _ _ _ i j => exact ⟨i, j⟩
  | .may nm o b s x y, g => by
    have hx : (if s ≤ d then tree x d p else (tree x d p).bind fun z r => .leaf z (.may nm o b s r y)).Asks P := by
      split
      · exact tree_asks x g.2.1
      · refine asks_bind (tree_asks x g.2.1) ?_
        induction tree x d p with
        | leaf _ _ => trivial
        | ask _ _ _ _ i j => exact ⟨i, j⟩
    rw [tree_may]
    split
    · exact ⟨g.1, tree_asks y g.2.2, hx⟩
    · exact hx
  | .seen pk day st past, g => by
    rw [tree]
    split
    · trivial
    · split <;> trivial
theorem all_true {P : Rat → Note → Prop} (h : ∀ p r, P p r) : ∀ t : Tree, t.All P
  | .leaf p r => h p r
  | .ask _ _ y m => ⟨all_true h y, all_true h m⟩
theorem tree_dep {d : Int} {p : Rat} : ∀ n : Note, (tree n d p).dep ≤ nqs n ∧ (tree n d p).lvs ≤ nlv n
  | .none => by
    rw [tree]
    exact ⟨Nat.le_refl _, Nat.le_refl _⟩
  | .pay day v => by
    rw [tree]
    split <;> exact ⟨Nat.le_refl _, Nat.le_refl _⟩
  | .now v => by
    rw [tree]
    exact ⟨Nat.le_refl _, Nat.le_refl _⟩
  | .both a b => by
    rw [tree]
    have ha := tree_dep (d := d) (p := p) a
    have hb := tree_dep (d := d) (p := p) b
    have h1 : ∀ x r, ((tree b d p).bind fun y r' => .leaf (x + y) (bothOf r r')).dep ≤ nqs b := fun x r => Nat.le_trans (dep_bind (k := 0) (all_true (fun _ _ => Nat.le_refl _) _)) hb.1
    have h2 : ∀ x r, ((tree b d p).bind fun y r' => .leaf (x + y) (bothOf r r')).lvs ≤ nlv b := fun x r => Nat.le_trans (lvs_bind (k := 1) (all_true (fun _ _ => Nat.le_refl _) _)) (by omega)
    refine ⟨Nat.le_trans (dep_bind (all_true h1 _)) (by simp only [nqs]; omega), Nat.le_trans (lvs_bind (all_true h2 _)) ?_⟩
    exact Nat.mul_le_mul_right _ ha.2
  | .times q n => by
    rw [tree]
    have ha := tree_dep (d := d) (p := p) n
    exact ⟨Nat.le_trans (dep_bind (k := 0) (all_true (fun _ _ => Nat.le_refl _) _)) (by simp only [nqs]; omega), Nat.le_trans (lvs_bind (k := 1) (all_true (fun _ _ => Nat.le_refl _) _)) (by simp only [nlv]; omega)⟩
  | .turn n => by
    rw [tree]
    have ha := tree_dep (d := d) (p := p) n
    exact ⟨Nat.le_trans (dep_bind (k := 0) (all_true (fun _ _ => Nat.le_refl _) _)) (by simp only [nqs, dep_flip]; omega), Nat.le_trans (lvs_bind (k := 1) (all_true (fun _ _ => Nat.le_refl _) _)) (by simp only [nlv, lvs_flip]; omega)⟩
  | .till up l a b => by
    rw [tree]
    have ha := tree_dep (d := d) (p := p) a
    have hb := tree_dep (d := d) (p := p) b
    split
    · exact ⟨by simp only [nqs]; omega, by simp only [nlv]; omega⟩
    · exact ⟨Nat.le_trans (dep_bind (k := 0) (all_true (fun _ _ => Nat.le_refl _) _)) (by simp only [nqs]; omega), Nat.le_trans (lvs_bind (k := 1) (all_true (fun _ _ => Nat.le_refl _) _)) (by simp only [nlv]; omega)⟩
  | .may nm o b s x y => by
    have hx := tree_dep (d := d) (p := p) x
    have hy := tree_dep (d := d) (p := p) y
    have h : (if s ≤ d then tree x d p else (tree x d p).bind fun z r => .leaf z (.may nm o b s r y)).dep ≤ nqs x ∧ (if s ≤ d then tree x d p else (tree x d p).bind fun z r => .leaf z (.may nm o b s r y)).lvs ≤ nlv x := by
      split
      · exact hx
      · exact ⟨Nat.le_trans (dep_bind (k := 0) (all_true (fun _ _ => Nat.le_refl _) _)) (by omega), Nat.le_trans (lvs_bind (k := 1) (all_true (fun _ _ => Nat.le_refl _) _)) (by omega)⟩
    rw [tree_may]
    split
    · refine ⟨?_, ?_⟩
      · simp only [Tree.dep, nqs]
        have := h.1
        omega
      · simp only [Tree.lvs, nlv]
        have := h.2
        omega
    · exact ⟨by simp only [nqs]; have := h.1; omega, by simp only [nlv]; have := h.2; have := nlv_pos y; omega⟩
  | .seen pk day st past => by
    rw [tree]
    split
    · exact ⟨Nat.le_refl _, Nat.le_refl _⟩
    · split <;> exact ⟨Nat.le_refl _, Nat.le_refl _⟩
end SL
namespace SL
open PySem PySem.Spec PyProof.Rows L2 TL
/-! ### texts as trees of signs -/
inductive Tx where
  | leaf (a : List Nat)
  | node (a : List Nat) (k : Tx)
  | more (t ts : Tx)
def Tx.cs : Tx → List Nat
  | .leaf a => a
  | .node a k => a ++ 40 :: (k.cs ++ [41])
  | .more t ts => t.cs ++ 44 :: 32 :: ts.cs
def Atom (a : List Nat) : Prop := ∀ c ∈ a, c ≠ 40 ∧ c ≠ 41 ∧ c ≠ 44
def Tx.isMore : Tx → Bool
  | .more _ _ => true
  | _ => false
def Tx.Ok : Tx → Prop
  | .leaf a => Atom a
  | .node a k => Atom a ∧ k.Ok
  | .more t ts => t.isMore = false ∧ t.Ok ∧ ts.Ok
def Stp : List Nat → Prop
  | [] => True
  | c :: _ => c = 41 ∨ c = 44
def Cls41 : List Nat → Prop
  | [] => True
  | c :: _ => c = 41
theorem Cls41.stp {r : List Nat} (h : Cls41 r) : Stp r := by
  cases r with
  | nil => trivial
  | cons c r => exact .inl h
def Dlm : List Nat → Prop
  | [] => True
  | c :: _ => c = 40 ∨ c = 41 ∨ c = 44
theorem Stp.dlm {r : List Nat} (h : Stp r) : Dlm r := by
  cases r with
  | nil => trivial
  | cons c r => exact .inr h
theorem dl_o (r : List Nat) : Dlm (40 :: r) := Or.inl rfl
theorem st_c (r : List Nat) : Stp (44 :: r) := Or.inr rfl
theorem atom_cut : ∀ {a b r r' : List Nat}, Atom a → Atom b → Dlm r → Dlm r' → a ++ r = b ++ r' → a = b ∧ r = r'
  | [], [], r, r', _, _, _, _, e => ⟨rfl, e⟩
  | [], c :: b, r, r', _, hb, hr, _, e => by
    have h := hb c (List.mem_cons_self ..)
    have e' : r = c :: (b ++ r') := e
    rw [e'] at hr
    rcases hr with q | q | q
    · exact absurd q h.1
    · exact absurd q h.2.1
    · exact absurd q h.2.2
  | c :: a, [], r, r', ha, _, _, hr, e => by
    have h := ha c (List.mem_cons_self ..)
    have e' : c :: (a ++ r) = r' := e
    rw [← e'] at hr
    rcases hr with q | q | q
    · exact absurd q h.1
    · exact absurd q h.2.1
    · exact absurd q h.2.2
  | c :: a, d :: b, r, r', ha, hb, hr, hr', e => by
    have e' : c :: (a ++ r) = d :: (b ++ r') := e
    obtain ⟨h1, h2⟩ := List.cons.inj e'
    obtain ⟨h3, h4⟩ := atom_cut (fun c h => ha c (List.mem_cons_of_mem _ h)) (fun c h => hb c (List.mem_cons_of_mem _ h)) hr hr' h2
    exact ⟨by rw [h1, h3], h4⟩
theorem cs_inj : ∀ t : Tx, t.Ok → (t.isMore = false → ∀ (t' : Tx) (r r' : List Nat), t'.Ok → t'.isMore = false → Stp r → Stp r' → t.cs ++ r = t'.cs ++ r' → t = t' ∧ r = r') ∧
    (∀ (t' : Tx) (r r' : List Nat), t'.Ok → Cls41 r → Cls41 r' → t.cs ++ r = t'.cs ++ r' → t = t' ∧ r = r')
  | .leaf a, ok => by
    have el : ∀ (t' : Tx) (r r' : List Nat), t'.Ok → t'.isMore = false → Stp r → Stp r' → (Tx.leaf a).cs ++ r = t'.cs ++ r' → Tx.leaf a = t' ∧ r = r' := by
      intro t' r r' ok' hm hr hr' e
      cases t' with
      | leaf b =>
        obtain ⟨h1, h2⟩ := atom_cut ok ok' hr.dlm hr'.dlm e
        exact ⟨by rw [h1], h2⟩
      | node b k =>
        have e' : a ++ r = b ++ (40 :: (k.cs ++ [41]) ++ r') := by rw [← List.append_assoc]; exact e
        obtain ⟨h1, h2⟩ := atom_cut ok ok'.1 hr.dlm (dl_o _) e'
        rw [h2] at hr
        rcases hr with q | q <;> exact absurd q (by decide)
      | more u us => cases hm
    refine ⟨fun _ => el, fun t' r r' ok' hr hr' e => ?_⟩
    cases hb : t'.isMore
    · exact el t' r r' ok' hb hr.stp hr'.stp e
    · cases t' with
      | leaf b => cases hb
      | node b k => cases hb
      | more u us =>
        have e' : (Tx.leaf a).cs ++ r = u.cs ++ (44 :: 32 :: us.cs ++ r') := by rw [← List.append_assoc]; exact e
        obtain ⟨h1, h2⟩ := el u r _ ok'.2.1 ok'.1 hr.stp (st_c _) e'
        rw [h2] at hr
        exact absurd (show 44 = 41 from hr) (by decide)
  | .node a k, ok => by
    have ih := (cs_inj k ok.2).2
    have el : ∀ (t' : Tx) (r r' : List Nat), t'.Ok → t'.isMore = false → Stp r → Stp r' → (Tx.node a k).cs ++ r = t'.cs ++ r' → Tx.node a k = t' ∧ r = r' := by
      intro t' r r' ok' hm hr hr' e
      have e0 : (Tx.node a k).cs ++ r = a ++ (40 :: (k.cs ++ 41 :: r)) := by simp [Tx.cs, List.append_assoc]
      rw [e0] at e
      cases t' with
      | leaf b =>
        obtain ⟨h1, h2⟩ := atom_cut ok.1 ok' (dl_o _) hr'.dlm e
        rw [← h2] at hr'
        rcases hr' with q | q <;> exact absurd q (by decide)
      | node b k' =>
        have e' : (Tx.node b k').cs ++ r' = b ++ (40 :: (k'.cs ++ 41 :: r')) := by simp [Tx.cs, List.append_assoc]
        rw [e'] at e
        obtain ⟨h1, h2⟩ := atom_cut ok.1 ok'.1 (dl_o _) (dl_o _) e
        obtain ⟨h3, h4⟩ := ih k' (41 :: r) (41 :: r') ok'.2 rfl rfl (List.cons.inj h2).2
        exact ⟨by rw [h1, h3], (List.cons.inj h4).2⟩
      | more u us => cases hm
    refine ⟨fun _ => el, fun t' r r' ok' hr hr' e => ?_⟩
    cases hb : t'.isMore
    · exact el t' r r' ok' hb hr.stp hr'.stp e
    · cases t' with
      | leaf b => cases hb
      | node b k => cases hb
      | more u us =>
        have e' : (Tx.node a k).cs ++ r = u.cs ++ (44 :: 32 :: us.cs ++ r') := by rw [← List.append_assoc]; exact e
        obtain ⟨h1, h2⟩ := el u r _ ok'.2.1 ok'.1 hr.stp (st_c _) e'
        rw [h2] at hr
        exact absurd (show 44 = 41 from hr) (by decide)
  | .more t ts, ok => by
    have i1 := (cs_inj t ok.2.1).1 ok.1
    have i2 := (cs_inj ts ok.2.2).2
    refine ⟨fun h => absurd h (by simp [Tx.isMore]), fun t' r r' ok' hr hr' e => ?_⟩
    have e0 : (Tx.more t ts).cs ++ r = t.cs ++ (44 :: 32 :: (ts.cs ++ r)) := by simp [Tx.cs, List.append_assoc]
    rw [e0] at e
    cases hb : t'.isMore
    · obtain ⟨h1, h2⟩ := i1 t' _ r' ok' hb (st_c _) hr'.stp e
      rw [← h2] at hr'
      exact absurd (show 44 = 41 from hr') (by decide)
    · cases t' with
      | leaf b => cases hb
      | node b k => cases hb
      | more u us =>
        have e' : (Tx.more u us).cs ++ r' = u.cs ++ (44 :: 32 :: (us.cs ++ r')) := by simp [Tx.cs, List.append_assoc]
        rw [e'] at e
        obtain ⟨h1, h2⟩ := i1 u _ _ ok'.2.1 ok'.1 (st_c _) (st_c _) e
        obtain ⟨h3, h4⟩ := i2 us r r' ok'.2.2 hr hr' (List.cons.inj (List.cons.inj h2).2).2
        exact ⟨by rw [h1, h3], h4⟩
theorem cs_inj0 {t t' : Tx} (h : t.Ok) (h' : t'.Ok) (m : t.isMore = false) (m' : t'.isMore = false) (e : t.cs = t'.cs) : t = t' :=
  ((cs_inj t h).1 m t' [] [] h' m' trivial trivial (by rw [e])).1
/-! ### numbers, amounts -/
def zL (i : Int) : List Nat := if i < 0 then 45 :: numL i.natAbs else numL i.natAbs
theorem tl_int (i : Int) : tl (Str.ofString (toString i)) = zL i := by
  cases i with
  | ofNat n => exact tl_num n
  | negSucc n =>
    have h : (toString (Int.negSucc n) : String) = "-" ++ toString ((n + 1 : Nat) : Int) := rfl
    rw [h, tl_ofString, String.toList_append, List.map_append, ← tl_ofString, ← tl_ofString, tl_num, show tl (Str.ofString "-") = [45] by decide +kernel]
    unfold zL
    rw [if_pos (Int.negSucc_lt_zero n)]
    rfl
theorem numL_dig {n c : Nat} (h : c ∈ numL n) : 48 ≤ c ∧ c ≤ 57 := numL_digits n c h
theorem zL_dig {i : Int} {c : Nat} (h : c ∈ zL i) : c = 45 ∨ (48 ≤ c ∧ c ≤ 57) := by
  unfold zL at h
  split at h
  · rcases List.mem_cons.mp h with q | q
    · exact .inl q
    · exact .inr (numL_dig q)
  · exact .inr (numL_dig h)
theorem zL_inj {i j : Int} (h : zL i = zL j) : i = j := by
  unfold zL at h
  have no : ∀ {m n : Nat}, 45 :: numL m = numL n → False := fun {m n} q => by
    have : 45 ∈ numL n := by
      rw [← q]
      exact List.mem_cons_self ..
    have := numL_dig this
    omega
  split at h <;> split at h
  · have := numL_inj (List.cons.inj h).2
    omega
  · exact (no h).elim
  · exact (no h.symm).elim
  · have := numL_inj h
    omega
def aL (q : Rat) : List Nat := if q.den = 1 then zL q.num else zL q.num ++ 47 :: numL q.den
theorem cut47 : ∀ {l l' m m' : List Nat}, 47 ∉ l → 47 ∉ l' → l ++ 47 :: m = l' ++ 47 :: m' → l = l' ∧ m = m'
  | [], [], m, m', _, _, e => ⟨rfl, (List.cons.inj e).2⟩
  | [], c :: l', m, m', _, h, e => absurd (List.cons.inj (show 47 :: m = c :: (l' ++ 47 :: m') from e)).1 (fun q => h (by rw [q]; exact List.mem_cons_self ..))
  | c :: l, [], m, m', h, _, e => absurd (List.cons.inj (show c :: (l ++ 47 :: m) = 47 :: m' from e)).1 (fun q => h (by rw [q]; exact List.mem_cons_self ..))
  | c :: l, d :: l', m, m', h, h', e => by
    obtain ⟨h1, h2⟩ := List.cons.inj (show c :: (l ++ 47 :: m) = d :: (l' ++ 47 :: m') from e)
    obtain ⟨h3, h4⟩ := cut47 (fun q => h (List.mem_cons_of_mem _ q)) (fun q => h' (List.mem_cons_of_mem _ q)) h2
    exact ⟨by rw [h1, h3], h4⟩
theorem zL_47 (i : Int) : 47 ∉ zL i := fun h => by
  have := zL_dig h
  omega
theorem aL_inj {p q : Rat} (h : aL p = aL q) : p = q := by
  unfold aL at h
  split at h <;> split at h
  · rename_i a b
    exact Rat.ext (zL_inj h) (a.trans b.symm)
  · exact absurd (by rw [h]; simp : 47 ∈ zL p.num) (zL_47 _)
  · exact absurd (by rw [← h]; simp : 47 ∈ zL q.num) (zL_47 _)
  · obtain ⟨h1, h2⟩ := cut47 (zL_47 _) (zL_47 _) h
    exact Rat.ext (zL_inj h1) (numL_inj h2)
theorem aL_dig {q : Rat} {c : Nat} (h : c ∈ aL q) : 45 ≤ c ∧ c ≤ 57 ∧ c ≠ 46 := by
  unfold aL at h
  split at h
  · have := zL_dig h
    omega
  · rcases List.mem_append.mp h with q | q
    · have := zL_dig q
      omega
    · rcases List.mem_cons.mp q with q | q
      · omega
      · have := numL_dig q
        omega
theorem aL_ok (q : Rat) : Atom (aL q) := fun c h => by
  have := aL_dig h
  omega
theorem zL_ok (i : Int) : Atom (zL i) := fun c h => by
  have := zL_dig h
  omega
/-! ### values and notes as texts -/
def kid2 (a b : Tx) : Tx := .more a b
def kid3 (a b c : Tx) : Tx := .more a (.more b c)
def kid4 (a b c d : Tx) : Tx := .more a (.more b (.more c d))
def kid6 (a b c d e f : Tx) : Tx := .more a (.more b (.more c (.more d (.more e f))))
def wPrice : List Nat := [112, 114, 105, 99, 101]
def wOf : List Nat := [111, 102]
def wPlus : List Nat := [112, 108, 117, 115]
def wMinus : List Nat := [109, 105, 110, 117, 115]
def wBest : List Nat := [98, 101, 115, 116]
def wLeast : List Nat := [108, 101, 97, 115, 116]
def wNone : List Nat := [110, 111, 110, 101]
def wPay : List Nat := [112, 97, 121]
def wNow : List Nat := [110, 111, 119]
def wBoth : List Nat := [98, 111, 116, 104]
def wTimes : List Nat := [116, 105, 109, 101, 115]
def wTurn : List Nat := [116, 117, 114, 110]
def wTill : List Nat := [116, 105, 108, 108]
def wMay : List Nat := [109, 97, 121]
def wPeak : List Nat := [112, 101, 97, 107]
def wTotal : List Nat := [116, 111, 116, 97, 108]
def wUp : List Nat := [117, 112]
def wDown : List Nat := [100, 111, 119, 110]
def wHolder : List Nat := [104, 111, 108, 100, 101, 114]
def wWriter : List Nat := [119, 114, 105, 116, 101, 114]
def pkL (pk : Bool) : List Nat := if pk then wPeak else wTotal
def sdL (up : Bool) : List Nat := if up then wUp else wDown
def owL (h : Bool) : List Nat := if h then wHolder else wWriter
def vT : Val → Tx
  | .price => .leaf wPrice
  | .coin q => .leaf (aL q)
  | .of q v => .node wOf (kid2 (.leaf (aL q)) (vT v))
  | .plus a b => .node wPlus (kid2 (vT a) (vT b))
  | .minus a b => .node wMinus (kid2 (vT a) (vT b))
  | .best a b => .node wBest (kid2 (vT a) (vT b))
  | .least a b => .node wLeast (kid2 (vT a) (vT b))
def nT : Note → Tx
  | .none => .leaf wNone
  | .pay d v => .node wPay (kid2 (.leaf (zL d)) (vT v))
  | .now v => .node wNow (vT v)
  | .both a b => .node wBoth (kid2 (nT a) (nT b))
  | .times q n => .node wTimes (kid2 (.leaf (aL q)) (nT n))
  | .turn n => .node wTurn (nT n)
  | .till up l a b => .node wTill (kid4 (.leaf (sdL up)) (.leaf (aL l)) (nT a) (nT b))
  | .may nm h b s x y => .node wMay (kid6 (.leaf nm.cps.toList) (.leaf (owL h)) (.leaf (zL b)) (.leaf (zL s)) (nT x) (nT y))
  | .seen pk d st none => .node (pkL pk) (kid2 (.leaf (zL d)) (.leaf (aL st)))
  | .seen pk d st (some q) => .node (pkL pk) (kid3 (.leaf (zL d)) (.leaf (aL st)) (.leaf (aL q)))
theorem vT_more (v : Val) : (vT v).isMore = false := by cases v <;> rfl
theorem nT_more (n : Note) : (nT n).isMore = false := by
  cases n with
  | seen pk d st past => cases past <;> rfl
  | _ => rfl
theorem word_ok {w : List Nat} (h : w.all (fun c => c != 40 && c != 41 && c != 44) = true) : Atom w := fun c hc => by
  have := List.all_eq_true.mp h c hc
  simpa [and_assoc] using this
theorem vT_ok : ∀ v : Val, (vT v).Ok
  | .price => word_ok rfl
  | .coin q => aL_ok q
  | .of q v => ⟨word_ok rfl, rfl, aL_ok q, vT_ok v⟩
  | .plus a b => ⟨word_ok rfl, vT_more a, vT_ok a, vT_ok b⟩
  | .minus a b => ⟨word_ok rfl, vT_more a, vT_ok a, vT_ok b⟩
  | .best a b => ⟨word_ok rfl, vT_more a, vT_ok a, vT_ok b⟩
  | .least a b => ⟨word_ok rfl, vT_more a, vT_ok a, vT_ok b⟩
theorem owL_ok (h : Bool) : Atom (owL h) := by cases h <;> exact word_ok rfl
theorem sdL_ok (h : Bool) : Atom (sdL h) := by cases h <;> exact word_ok rfl
theorem pkL_ok (h : Bool) : Atom (pkL h) := by cases h <;> exact word_ok rfl
theorem nT_ok {m : Nat} : ∀ n : Note, NGood m n → (nT n).Ok
  | .none, _ => word_ok rfl
  | .pay d v, _ => ⟨word_ok rfl, rfl, zL_ok d, vT_ok v⟩
  | .now v, _ => ⟨word_ok rfl, vT_ok v⟩
  | .both a b, h => ⟨word_ok rfl, nT_more a, nT_ok a h.1, nT_ok b h.2⟩
  | .times q n, h => ⟨word_ok rfl, rfl, aL_ok q, nT_ok n h.2⟩
  | .turn n, h => ⟨word_ok rfl, nT_ok n h⟩
  | .till up l a b, h => ⟨word_ok rfl, rfl, sdL_ok up, rfl, aL_ok l, nT_more a, nT_ok a h.2.1, nT_ok b h.2.2⟩
  | .may nm o b s x y, h => ⟨word_ok rfl, rfl, fun c hc => by have := h.1.2 c hc; omega, rfl, owL_ok o, rfl, zL_ok b, rfl, zL_ok s, nT_more x, nT_ok x h.2.2.2.1, nT_ok y h.2.2.2.2⟩
  | .seen pk d st none, _ => ⟨pkL_ok pk, rfl, zL_ok d, aL_ok st⟩
  | .seen pk d st (some q), _ => ⟨pkL_ok pk, rfl, zL_ok d, rfl, aL_ok st, aL_ok q⟩
theorem price_aL (q : Rat) : wPrice = aL q → False := fun e => by
  have : (112 : Nat) ∈ aL q := by rw [← e]; decide
  have := aL_dig this
  omega
theorem vT_inj : ∀ v v' : Val, vT v = vT v' → v = v' := by
  intro v
  induction v with
  | price =>
    intro v' h
    cases v' <;> simp [vT] at h
    · rfl
    · exact (price_aL _ h).elim
  | coin q =>
    intro v' h
    cases v' <;> simp [vT] at h
    · exact (price_aL _ h.symm).elim
    · rw [aL_inj h]
  | of q v ih =>
    intro v' h
    cases v' <;> simp [vT, wOf, wPlus, wMinus, wBest, wLeast, kid2] at h
    rw [aL_inj h.1, ih _ h.2]
  | plus a b iha ihb =>
    intro v' h
    cases v' <;> simp [vT, wOf, wPlus, wMinus, wBest, wLeast, kid2] at h
    rw [iha _ h.1, ihb _ h.2]
  | minus a b iha ihb =>
    intro v' h
    cases v' <;> simp [vT, wOf, wPlus, wMinus, wBest, wLeast, kid2] at h
    rw [iha _ h.1, ihb _ h.2]
  | best a b iha ihb =>
    intro v' h
    cases v' <;> simp [vT, wOf, wPlus, wMinus, wBest, wLeast, kid2] at h
    rw [iha _ h.1, ihb _ h.2]
  | least a b iha ihb =>
    intro v' h
    cases v' <;> simp [vT, wOf, wPlus, wMinus, wBest, wLeast, kid2] at h
    rw [iha _ h.1, ihb _ h.2]
theorem owL_inj {a b : Bool} (h : owL a = owL b) : a = b := by cases a <;> cases b <;> first | rfl | cases h
theorem sdL_inj {a b : Bool} (h : sdL a = sdL b) : a = b := by cases a <;> cases b <;> first | rfl | cases h
theorem pkL_inj {a b : Bool} (h : pkL a = pkL b) : a = b := by cases a <;> cases b <;> first | rfl | cases h
theorem cps_inj {a b : Str} (h : a.cps.toList = b.cps.toList) : a = b := by
  cases a
  cases b
  simp at h
  rw [h]
theorem nT_inj : ∀ n n' : Note, nT n = nT n' → n = n' := by
  intro n
  induction n with
  | none =>
    intro n' h
    cases n' <;> first
      | rfl
      | (rename_i past; cases past <;> simp [nT] at h)
      | simp [nT] at h
  | pay d v =>
    intro n' h
    cases n' <;> first
      | (rename_i pk _ _ past; cases past <;> cases pk <;> simp [nT, wPay, pkL, wPeak, wTotal] at h; done)
      | simp [nT, wNone, wPay, wNow, wBoth, wTimes, wTurn, wTill, wMay, kid2, kid4, kid6] at h
    rw [zL_inj h.1, vT_inj _ _ h.2]
  | now v =>
    intro n' h
    cases n' <;> first
      | (rename_i pk _ _ past; cases past <;> cases pk <;> simp [nT, wNow, pkL, wPeak, wTotal] at h; done)
      | simp [nT, wNone, wPay, wNow, wBoth, wTimes, wTurn, wTill, wMay, kid2, kid4, kid6] at h
    rw [vT_inj _ _ h]
  | both a b iha ihb =>
    intro n' h
    cases n' <;> first
      | (rename_i pk _ _ past; cases past <;> cases pk <;> simp [nT, wBoth, pkL, wPeak, wTotal] at h; done)
      | simp [nT, wNone, wPay, wNow, wBoth, wTimes, wTurn, wTill, wMay, kid2, kid4, kid6] at h
    rw [iha _ h.1, ihb _ h.2]
  | times q a iha =>
    intro n' h
    cases n' <;> first
      | (rename_i pk _ _ past; cases past <;> cases pk <;> simp [nT, wTimes, pkL, wPeak, wTotal] at h; done)
      | simp [nT, wNone, wPay, wNow, wBoth, wTimes, wTurn, wTill, wMay, kid2, kid4, kid6] at h
    rw [aL_inj h.1, iha _ h.2]
  | turn a iha =>
    intro n' h
    cases n' <;> first
      | (rename_i pk _ _ past; cases past <;> cases pk <;> simp [nT, wTurn, pkL, wPeak, wTotal] at h; done)
      | simp [nT, wNone, wPay, wNow, wBoth, wTimes, wTurn, wTill, wMay, kid2, kid4, kid6] at h
    rw [iha _ h]
  | till up l a b iha ihb =>
    intro n' h
    cases n' <;> first
      | (rename_i pk _ _ past; cases past <;> cases pk <;> simp [nT, wTill, pkL, wPeak, wTotal] at h; done)
      | simp [nT, wNone, wPay, wNow, wBoth, wTimes, wTurn, wTill, wMay, kid2, kid4, kid6] at h
    rw [sdL_inj h.1, aL_inj h.2.1, iha _ h.2.2.1, ihb _ h.2.2.2]
  | may nm o b s x y ihx ihy =>
    intro n' h
    cases n' <;> first
      | (rename_i pk _ _ past; cases past <;> cases pk <;> simp [nT, wMay, pkL, wPeak, wTotal] at h; done)
      | simp only [nT, wNone, wPay, wNow, wBoth, wTimes, wTurn, wTill, wMay, kid2, kid4, kid6, Tx.node.injEq, Tx.leaf.injEq, Tx.more.injEq, reduceCtorEq, List.cons.injEq, false_and, and_false, true_and, Nat.reduceEqDiff] at h
    rw [cps_inj h.1, owL_inj h.2.1, zL_inj h.2.2.1, zL_inj h.2.2.2.1, ihx _ h.2.2.2.2.1, ihy _ h.2.2.2.2.2]
  | seen pk d st past =>
    intro n' h
    cases n' with
    | seen pk' d' st' past' =>
      cases past <;> cases past' <;> simp [nT, kid2, kid3] at h
      · rw [pkL_inj h.1, zL_inj h.2.1, aL_inj h.2.2]
      · rw [pkL_inj h.1, zL_inj h.2.1, aL_inj h.2.2.1, aL_inj h.2.2.2]
    | none => cases past <;> cases pk <;> simp [nT] at h
    | pay d v => cases past <;> cases pk <;> simp [nT, wPay, pkL, wPeak, wTotal] at h
    | now v => cases past <;> cases pk <;> simp [nT, wNow, pkL, wPeak, wTotal] at h
    | both a b => cases past <;> cases pk <;> simp [nT, wBoth, pkL, wPeak, wTotal] at h
    | times q a => cases past <;> cases pk <;> simp [nT, wTimes, pkL, wPeak, wTotal] at h
    | turn a => cases past <;> cases pk <;> simp [nT, wTurn, pkL, wPeak, wTotal] at h
    | till up l a b => cases past <;> cases pk <;> simp [nT, wTill, pkL, wPeak, wTotal] at h
    | may nm o b s x y => cases past <;> cases pk <;> simp [nT, wMay, pkL, wPeak, wTotal] at h
def mkS (l : List Nat) : Str := ⟨l.toArray⟩
theorem tl_mkS (l : List Nat) : tl (mkS l) = l := rfl
def vS (v : Val) : Str := mkS (vT v).cs
def nS (n : Note) : Str := mkS (nT n).cs
theorem nS_inj {m m' : Nat} {n n' : Note} (h : NGood m n) (h' : NGood m' n') (e : nS n = nS n') : n = n' := by
  have e1 : (nT n).cs = (nT n').cs := by
    have := congrArg tl e
    exact this
  exact nT_inj _ _ (cs_inj0 (nT_ok n h) (nT_ok n' h') (nT_more n) (nT_more n') e1)
/-! ### lengths -/
theorem zL_len {b : Nat} {i : Int} (h : i.natAbs < 10 ^ b) (hb : 0 < b) : (zL i).length ≤ b + 1 := by
  have := numL_len hb h
  unfold zL
  split
  · simp only [List.length_cons]
    omega
  · omega
theorem aL_len {q : Rat} (h : Sz 40 q) : (aL q).length ≤ 28 := by
  obtain ⟨h1, h2⟩ := h
  have e1 : q.num.natAbs < 10 ^ 13 := Nat.lt_of_lt_of_le h1 (by decide)
  have e2 : q.den < 10 ^ 13 := Nat.lt_of_lt_of_le h2 (by decide)
  have l1 := zL_len e1 (by decide)
  have l2 := numL_len (by decide) e2
  unfold aL
  split
  · omega
  · simp only [List.length_append, List.length_cons]
    omega
theorem dL_len {d : Int} (h : DateOk d) : (zL d).length ≤ 2 := zL_len (b := 1) (by obtain ⟨a, b⟩ := h; omega) (by decide)
theorem vT_len : ∀ v : Val, VGood v → (vT v).cs.length + 20 ≤ 60 * 2 ^ vdep v
  | .price, _ => by decide
  | .coin q, h => by
    have := aL_len (h.mono (by decide) : Sz 40 q)
    simp only [vT, Tx.cs, vdep]
    omega
  | .of q v, h => by
    have := aL_len (h.1.mono (by decide) : Sz 40 q)
    have i := vT_len v h.2
    have p : 2 ^ vdep v ≥ 2 := by
      have : 1 ≤ vdep v := by cases v <;> simp [vdep]
      exact Nat.le_trans (by decide : 2 ≤ 2 ^ 1) (Nat.pow_le_pow_right (by decide) this)
    simp only [vT, Tx.cs, vdep, kid2, List.length_append, List.length_cons, List.length_nil, wOf, Nat.pow_succ]
    omega
  | .plus a b, h => by
    have i := vT_len a h.1
    have j := vT_len b h.2
    have p := Nat.pow_le_pow_right (n := 2) (by decide) (Nat.le_max_left (vdep a) (vdep b))
    have q := Nat.pow_le_pow_right (n := 2) (by decide) (Nat.le_max_right (vdep a) (vdep b))
    simp only [vT, Tx.cs, vdep, kid2, List.length_append, List.length_cons, List.length_nil, wPlus, Nat.pow_succ]
    omega
  | .minus a b, h => by
    have i := vT_len a h.1
    have j := vT_len b h.2
    have p := Nat.pow_le_pow_right (n := 2) (by decide) (Nat.le_max_left (vdep a) (vdep b))
    have q := Nat.pow_le_pow_right (n := 2) (by decide) (Nat.le_max_right (vdep a) (vdep b))
    simp only [vT, Tx.cs, vdep, kid2, List.length_append, List.length_cons, List.length_nil, wMinus, Nat.pow_succ]
    omega
  | .best a b, h => by
    have i := vT_len a h.1
    have j := vT_len b h.2
    have p := Nat.pow_le_pow_right (n := 2) (by decide) (Nat.le_max_left (vdep a) (vdep b))
    have q := Nat.pow_le_pow_right (n := 2) (by decide) (Nat.le_max_right (vdep a) (vdep b))
    simp only [vT, Tx.cs, vdep, kid2, List.length_append, List.length_cons, List.length_nil, wBest, Nat.pow_succ]
    omega
  | .least a b, h => by
    have i := vT_len a h.1
    have j := vT_len b h.2
    have p := Nat.pow_le_pow_right (n := 2) (by decide) (Nat.le_max_left (vdep a) (vdep b))
    have q := Nat.pow_le_pow_right (n := 2) (by decide) (Nat.le_max_right (vdep a) (vdep b))
    simp only [vT, Tx.cs, vdep, kid2, List.length_append, List.length_cons, List.length_nil, wLeast, Nat.pow_succ]
    omega
theorem vT_len3 {v : Val} (h : VGood v) (d : vdep v ≤ 3) : (vT v).cs.length ≤ 460 := by
  have i := vT_len v h
  have := Nat.pow_le_pow_right (n := 2) (by decide) d
  omega
theorem owL_len (h : Bool) : (owL h).length ≤ 6 := by cases h <;> decide
theorem sdL_len (h : Bool) : (sdL h).length ≤ 6 := by cases h <;> decide
theorem pkL_len (h : Bool) : (pkL h).length ≤ 6 := by cases h <;> decide
theorem nT_len {m : Nat} (hm : m ≤ 3) : ∀ n : Note, NGood m n → (nT n).cs.length + 100 ≤ 700 * 2 ^ ndep n
  | .none, _ => by decide
  | .pay d v, h => by
    have := vT_len3 h.2.1 h.2.2
    have := dL_len h.1
    simp only [nT, Tx.cs, ndep, kid2, List.length_append, List.length_cons, List.length_nil, wPay]
    omega
  | .now v, h => by
    have := vT_len3 h.1 h.2
    simp only [nT, Tx.cs, ndep, List.length_append, List.length_cons, List.length_nil, wNow]
    omega
  | .both a b, h => by
    have i := nT_len hm a h.1
    have j := nT_len hm b h.2
    have p := Nat.pow_le_pow_right (n := 2) (by decide) (Nat.le_max_left (ndep a) (ndep b))
    have q := Nat.pow_le_pow_right (n := 2) (by decide) (Nat.le_max_right (ndep a) (ndep b))
    simp only [nT, Tx.cs, ndep, kid2, List.length_append, List.length_cons, List.length_nil, wBoth, Nat.pow_succ]
    omega
  | .times q n, h => by
    have := aL_len (h.1.mono (by decide) : Sz 40 q)
    have i := nT_len hm n h.2
    simp only [nT, Tx.cs, ndep, kid2, List.length_append, List.length_cons, List.length_nil, wTimes, Nat.pow_succ]
    omega
  | .turn n, h => by
    have i := nT_len hm n h
    simp only [nT, Tx.cs, ndep, List.length_append, List.length_cons, List.length_nil, wTurn, Nat.pow_succ]
    omega
  | .till up l a b, h => by
    have := aL_len (h.1.mono (by decide) : Sz 40 l)
    have := sdL_len up
    have i := nT_len hm a h.2.1
    have j := nT_len hm b h.2.2
    have p := Nat.pow_le_pow_right (n := 2) (by decide) (Nat.le_max_left (ndep a) (ndep b))
    have q := Nat.pow_le_pow_right (n := 2) (by decide) (Nat.le_max_right (ndep a) (ndep b))
    simp only [nT, Tx.cs, ndep, kid4, List.length_append, List.length_cons, List.length_nil, wTill, Nat.pow_succ]
    omega
  | .may nm o b s x y, h => by
    have l1 : nm.cps.toList.length ≤ 6 := h.1.1
    have := owL_len o
    have := dL_len h.2.1
    have := dL_len h.2.2.1
    have i := nT_len hm x h.2.2.2.1
    have j := nT_len hm y h.2.2.2.2
    have p := Nat.pow_le_pow_right (n := 2) (by decide) (Nat.le_max_left (ndep x) (ndep y))
    have q := Nat.pow_le_pow_right (n := 2) (by decide) (Nat.le_max_right (ndep x) (ndep y))
    simp only [nT, Tx.cs, ndep, kid6, List.length_append, List.length_cons, List.length_nil, wMay, Nat.pow_succ]
    omega
  | .seen pk d st none, h => by
    have := aL_len (h.2.1.mono (by decide) : Sz 40 st)
    have := dL_len h.1
    have := pkL_len pk
    simp only [nT, Tx.cs, ndep, kid2, List.length_append, List.length_cons, List.length_nil]
    omega
  | .seen pk d st (some q), h => by
    have := aL_len (h.2.1.mono (by decide) : Sz 40 st)
    have := aL_len ((h.2.2 q rfl).mono (by omega) : Sz 40 q)
    have := dL_len h.1
    have := pkL_len pk
    simp only [nT, Tx.cs, ndep, kid3, List.length_append, List.length_cons, List.length_nil]
    omega
theorem nS_len {m : Nat} {n : Note} (hm : m ≤ 3) (h : NGood m n) (d : ndep n ≤ 12) : (nS n).length ≤ 3000000 := by
  have i := nT_len hm n h
  have := Nat.pow_le_pow_right (n := 2) (by decide) d
  have e : (nS n).length = (nT n).cs.length := by simp [nS, mkS, Str.length]
  omega
end SL
namespace SL
open PySem PySem.Spec PyProof.Rows L2
/-! ### zip(.., strict=True) of two -/
abbrev ZipS (h : Heap) (z TI TO : Addr) (f0 : Value) : Prop := h.get? z = some { cls := .type "zip", dict := none, data := .fields #[f0, .bool false, .bool true, .ref TI, .ref TO], slots := #[] }
def kwS : List (Str × Value) := [(Str.ofString "strict", .bool true)]
theorem zs_type (a b : Value) : checkTypeCall "zip" ⟨[a, b], [(Str.ofString "strict", .bool true)]⟩ = pure () := by kernel_rfl
theorem zs_newc (a b : Value) : checkBuiltinCall "zip.__new__" ⟨[.type "zip", a, b], [(Str.ofString "strict", .bool true)]⟩ = pure () := by kernel_rfl
theorem zs_init (o a b : Value) : argsOk "object.__init__" ⟨[o, a, b], [(Str.ofString "strict", .bool true)]⟩ := by unfold argsOk; kernel_rfl
abbrev zsT (h : Heap) (o1 o2 : Obj) : Heap := ((h.push o1).push o2).push { cls := .type "tuple", data := .seq #[.ref h.objs.size, .ref (h.push o1).objs.size] }
abbrev zsO (h : Heap) (o1 o2 : Obj) : Heap := (zsT h o1 o2).push { cls := .type "tuple", data := .seq #[.none, .none] }
abbrev zsZ (h : Heap) (o1 o2 : Obj) : Heap := (zsO h o1 o2).push { cls := .type "zip", data := .fields #[.none, .bool false, .bool true, .ref ((h.push o1).push o2).objs.size, .ref (zsT h o1 o2).objs.size] }
theorem zs_new {v1 v2 : Value} {o1 o2 : Obj} {H1 H2 : Heap → Prop} (B1 : Begins v1 o1 H1) (B2 : Begins v2 o2 H2) : Meets (Builtin.«zip.__new__» ⟨[.type "zip", v1, v2], [(Str.ofString "strict", .bool true)]⟩) (fun _ R s => (H1 s.heap ∧ H2 s.heap) ∧
    R (.ok (.ret (.ref (zsO s.heap o1 o2).objs.size))) { s with heap := zsZ s.heap o1 o2 }) :=
  .of_wp fun prog w A R st hyp => by
    obtain ⟨hp, g, d, tk, os⟩ := st
    obtain ⟨⟨a1, a2⟩, fin⟩ := hyp
    have hsub := sub_zip
    have e1 : (Str.ofString "strict" != ("strict" : Str)) = false := by decide +kernel
    have w1 : ∀ {A' : Around} {E : Value → Shared → Prop} {Q : Value → Shared → Prop}, Q (.ref hp.objs.size) ⟨(hp.push o1), g, d, tk, os⟩ → wpAny (model prog w) A' (pyIter v1) Q E ⟨hp, g, d, tk, os⟩ := fun q => B1.iter prog w _ _ ⟨hp, g, d, tk, os⟩ _ a1 q
    have w2 : ∀ {A' : Around} {E : Value → Shared → Prop} {Q : Value → Shared → Prop}, Q (.ref (hp.push o1).objs.size) ⟨((hp.push o1).push o2), g, d, tk, os⟩ → wpAny (model prog w) A' (pyIter v2) Q E ⟨(hp.push o1), g, d, tk, os⟩ := fun q =>
      B2.iter prog w _ _ ⟨(hp.push o1), g, d, tk, os⟩ _ (B2.keeps _ _ a2 fun b o' e => Heap.get?_push_of_some _ e) q
    wp_walk using w1, w2
    exact ⟨_, rfl, fin⟩
end SL
namespace SL
open PySem PySem.Spec PyProof.Rows L2
section
variable {prog : Program} {w : World} {A : Around} {E : Value → Shared → Prop} {s : Shared} {z TI TO i1 i2 it : Addr} {fp fp1 fp2 : List Addr} {n n1 n2 i : Nat} {P P1 P2 : Nat → Value → Prop} {St St1 St2 : Nat → Heap → Prop} {a1 a2 : Value}
theorem ne_item {Q : Option Value → Shared → Prop} (D : Draws prog w A it fp n P St) (hi : i < n) (st : St i s.heap) (k : ∀ x h' tk, P i x → St (i + 1) h' → Heap.SameBut it s.heap h' → Q (some x) { s with heap := h', toks := tk }) :
    wpAny (model prog w) A (Builtin.SmallTypes.nextOrEnd (.ref it)) Q E s := by
  unfold Builtin.SmallTypes.nextOrEnd
  exact wpAny_bind (wpAny_attempt (D.item i s _ _ hi st fun x h' tk p q e => wpAny_pure (k x h' tk p q e)))
theorem ne_end {Q : Option Value → Shared → Prop} (D : Draws prog w A it fp n P St) (st : St n s.heap) (k : ∀ h', Heap.ExtBut it s.heap h' → Q none { s with heap := h' }) :
    wpAny (model prog w) A (Builtin.SmallTypes.nextOrEnd (.ref it)) Q E s := by
  unfold Builtin.SmallTypes.nextOrEnd
  refine wpAny_bind (wpAny_attempt (D.done s _ _ st fun h' e hx ⟨o, ho, hc⟩ => ?_))
  exact wpAny_bind (wpAny_isInstance (T := "StopIteration") (b := true) ⟨o, ho, hc⟩ isSubtype_stop (wpAny_pure (k h' hx)))
/-- one pair is handed out -/
theorem zs_item {Q : Value → Shared → Prop} (S : ZipSep2 z TI TO i1 i2 fp1 fp2) (D1 : Draws prog w A i1 fp1 n1 P1 St1) (D2 : Draws prog w A i2 fp2 n2 P2 St2) (hz : ZipS s.heap z TI TO .none) (hTI : IsTupOf2 s.heap TI (.ref i1) (.ref i2))
    (hTO : IsTupOf2 s.heap TO a1 a2) (st1 : St1 i s.heap) (st2 : St2 i s.heap) (l1 : i < n1) (l2 : i < n2)
    (k : ∀ x y h' tk, P1 i x → P2 i y → ZipS h' z TI TO (rawInt s.heap.objs.size) → IsTupOf2 h' TO x y → St1 (i + 1) h' → St2 (i + 1) h' → IsTupOf2 h' s.heap.objs.size x y → h'.objs.size = s.heap.objs.size + 1 →
      (∀ c o, c ≠ z → c ≠ TO → c ≠ i1 → c ≠ i2 → s.heap.get? c = some o → h'.get? c = some o) → Q (.ref s.heap.objs.size) { s with heap := h', toks := tk }) :
    wpAny (model prog w) A (Builtin.«zip.__next__» ⟨[.ref z], []⟩) (fun fin s' => ∃ v, fin = .done (.ret v) ∧ Q v s') E s := by
  obtain ⟨hp, g, d, tk0, os⟩ := s
  change wpAny _ _ (field (.ref z) 2 >>= _) _ _ _
  refine wpAny_bind (wpAny_field hz rfl (x := .bool true) rfl ?_)
  change wpAny _ _ (field (.ref z) 3 >>= _) _ _ _
  refine wpAny_bind (wpAny_field hz rfl (x := .ref TI) rfl (wpAny_bind (wpAny_seqItems hTI rfl ?_)))
  change wpAny _ _ (Builtin.SmallTypes.ownedTupleIsFree (.ref z) >>= _) _ _ _
  have free : ∀ Q' : Bool → Shared → Prop, Q' true ⟨hp, g, d, tk0, os⟩ → wpAny (model prog w) A (Builtin.SmallTypes.ownedTupleIsFree (.ref z)) Q' E ⟨hp, g, d, tk0, os⟩ := fun Q' q => by
    unfold Builtin.SmallTypes.ownedTupleIsFree
    exact wpAny_bind (wpAny_field hz rfl (x := .none) rfl (wpAny_pure q))
  refine wpAny_bind (free _ ?_)
  simp only [if_true]
  refine wpAny_bind (wpAny_rule (wpAny_bind (wpAny_field hz rfl (x := .ref TO) rfl (wpAny_bind (wpAny_setField_rec hz (by simp) fun g0 hz0 hs0 => ?_)))))
  have hz0' : ZipS g0 z TI TO .ellipsis := hz0
  have hs0' : Heap.SameBut z hp g0 := hs0
  clear hz0 hs0
  refine wpAny_bind ?_
  simp only [List.zipIdx_cons, List.zipIdx_nil, List.forIn_cons, List.forIn_nil]
  refine wpAny_bind (wpAny_bind (wpAny_onRaise ?_))
  change wpAny _ _ (Builtin.SmallTypes.nextOrEnd (.ref i1)) _ _ ⟨g0, g, d, tk0, os⟩
  refine ne_item D1 l1 (D1.over st1 hs0' S.zf1) fun x p1 tk1 hx q1 e1 => ?_
  have e1' : Heap.SameBut i1 g0 p1 := e1
  clear e1
  have u1 : IsTupOf2 p1 TO a1 a2 := e1'.extBut _ _ S.Ti1 (hs0'.extBut _ _ S.TOz hTO)
  refine wpAny_bind (wpAny_seqItems (s := ⟨p1, g, d, tk1, os⟩) u1 rfl (wpAny_bind (updateSeq_IsTupOf2 (s := ⟨p1, g, d, tk1, os⟩) u1 fun g1 hT1 f1 => ?_)))
  have hT1' : IsTupOf2 g1 TO x a2 := hT1
  have f1' : Heap.SameBut TO p1 g1 := f1
  clear hT1 f1
  refine wpAny_bind (wpAny_letGo (wpAny_pure (wpAny_bind (wpAny_bind (wpAny_onRaise ?_)))))
  change wpAny _ _ (Builtin.SmallTypes.nextOrEnd (.ref i2)) _ _ ⟨g1, g, d, tk1, os⟩
  refine ne_item D2 l2 (D2.over (D2.over (D2.over st2 hs0' S.zf2) e1' S.sep1_2) f1' S.Tf2) fun y p2 tk2 hy q2 e2 => ?_
  have e2' : Heap.SameBut i2 g1 p2 := e2
  clear e2
  have u2 : IsTupOf2 p2 TO x a2 := e2'.extBut _ _ S.Ti2 hT1'
  refine wpAny_bind (wpAny_seqItems (s := ⟨p2, g, d, tk2, os⟩) u2 rfl (wpAny_bind (updateSeq_IsTupOf2 (s := ⟨p2, g, d, tk2, os⟩) u2 fun g2 hT2 f2 => ?_)))
  have hT2' : IsTupOf2 g2 TO x y := hT2
  have f2' : Heap.SameBut TO p2 g2 := f2
  clear hT2 f2
  refine wpAny_bind (wpAny_letGo (wpAny_pure (wpAny_pure (wpAny_bind (wpAny_seqItems (s := ⟨g2, g, d, tk2, os⟩) hT2' rfl (wpAny_bind (wpAny_newTuple ?_)))))))
  have size : g2.objs.size = hp.objs.size := ((((f2'.1.trans e2'.1).trans f1'.1).trans e1'.1).trans hs0'.1)
  have hzz : ZipS g2 z TI TO .ellipsis := f2'.extBut _ _ S.TOz.symm (e2'.extBut _ _ S.zi2 (f1'.extBut _ _ S.TOz.symm (e1'.extBut _ _ S.zi1 hz0')))
  have kept : ∀ c o, c ≠ z → c ≠ TO → c ≠ i1 → c ≠ i2 → hp.get? c = some o → g2.get? c = some o := fun c o cz ct c1 c2 e => f2'.extBut _ _ ct (e2'.extBut _ _ c2 (f1'.extBut _ _ ct (e1'.extBut _ _ c1 (hs0'.extBut _ _ cz e))))
  have j1 : St1 (i + 1) g2 := D1.over (D1.over (D1.over q1 f1' S.Tf1) e2' S.sep2_1) f2' S.Tf1
  have j2 : St2 (i + 1) g2 := D2.over q2 f2' S.Tf2
  have zlt : z < g2.objs.size := Heap.lt_size hzz
  change wpAny _ _ (Builtin.SmallTypes.ownedTupleHandOut (.ref z) (.ref g2.objs.size) >>= _) _ _ ⟨g2.push { cls := .type "tuple", data := .seq #[x, y] }, g, d, tk2, os⟩
  refine wpAny_bind ?_
  unfold Builtin.SmallTypes.ownedTupleHandOut
  have hz6 : ZipS (g2.push { cls := .type "tuple", data := .seq #[x, y] }) z TI TO .ellipsis := Heap.get?_push_of_some _ hzz
  refine wpAny_bind (wpAny_setField_rec hz6 (by simp) fun h7 hz7 f7 => ?_)
  have hz7' : ZipS h7 z TI TO (rawInt g2.objs.size) := hz7
  have f7' : Heap.SameBut z (g2.push { cls := .type "tuple", data := .seq #[x, y] }) h7 := f7
  clear hz7 f7
  refine wpAny_setField_rec hz7' (by simp) fun h8 hz8 f8 => ?_
  have hz8' : ZipS h8 z TI TO (rawInt g2.objs.size) := hz8
  have f8' : Heap.SameBut z h7 h8 := f8
  clear hz8 f8
  have up : ∀ c o, c ≠ z → g2.get? c = some o → h8.get? c = some o := fun c o c1 e => f8'.extBut _ _ c1 (f7'.extBut _ _ c1 (Heap.get?_push_of_some _ e))
  have hT8 : IsTupOf2 h8 g2.objs.size x y := f8'.extBut _ _ (Nat.ne_of_gt zlt) (f7'.extBut _ _ (Nat.ne_of_gt zlt) (Heap.get?_push_size _ rfl))
  have s8 : h8.objs.size = g2.objs.size + 1 := by rw [f8'.1, f7'.1, Heap.size_push]
  rw [size] at hz8' hT8 s8
  refine wpAny_pure ⟨_, rfl, ?_⟩
  change Q (.ref g2.objs.size) ⟨h8, g, d, tk2, os⟩
  rw [size]
  exact k x y h8 tk2 hx hy hz8' (up _ _ S.TOz hT2') (D1.frame _ _ _ j1 fun b hb o e => up b o (fun q => S.zf1 (q ▸ hb)) e) (D2.frame _ _ _ j2 fun b hb o e => up b o (fun q => S.zf2 (q ▸ hb)) e) hT8 s8 fun c o cz ct c1 c2 e => up c o cz (kept c o cz ct c1 c2 e)
theorem zs_end {Q : PySem.Fin → Shared → Prop} (S : ZipSep2 z TI TO i1 i2 fp1 fp2) (D1 : Draws prog w A i1 fp1 n P1 St1) (D2 : Draws prog w A i2 fp2 n P2 St2) (hz : ZipS s.heap z TI TO .none) (hTI : IsTupOf2 s.heap TI (.ref i1) (.ref i2))
    (hTO : IsTupOf2 s.heap TO a1 a2) (st1 : St1 n s.heap) (st2 : St2 n s.heap) (hh : A.handled = none)
    (k : ∀ h' tk e, (∀ c o, c ≠ z → c ≠ TO → c ≠ i1 → c ≠ i2 → s.heap.get? c = some o → h'.get? c = some o) → (∃ o, h'.get? e = some o ∧ o.cls = .type "StopIteration") → E (.ref e) { s with heap := h', toks := tk }) :
    wpAny (model prog w) A (Builtin.«zip.__next__» ⟨[.ref z], []⟩) Q E s := by
  obtain ⟨hp, g, d, tk0, os⟩ := s
  change wpAny _ _ (field (.ref z) 2 >>= _) _ _ _
  refine wpAny_bind (wpAny_field hz rfl (x := .bool true) rfl ?_)
  change wpAny _ _ (field (.ref z) 3 >>= _) _ _ _
  refine wpAny_bind (wpAny_field hz rfl (x := .ref TI) rfl (wpAny_bind (wpAny_seqItems hTI rfl ?_)))
  change wpAny _ _ (Builtin.SmallTypes.ownedTupleIsFree (.ref z) >>= _) _ _ _
  have free : ∀ Q' : Bool → Shared → Prop, Q' true ⟨hp, g, d, tk0, os⟩ → wpAny (model prog w) A (Builtin.SmallTypes.ownedTupleIsFree (.ref z)) Q' E ⟨hp, g, d, tk0, os⟩ := fun Q' q => by
    unfold Builtin.SmallTypes.ownedTupleIsFree
    exact wpAny_bind (wpAny_field hz rfl (x := .none) rfl (wpAny_pure q))
  refine wpAny_bind (free _ ?_)
  simp only [if_true]
  refine wpAny_bind (wpAny_rule (wpAny_bind (wpAny_field hz rfl (x := .ref TO) rfl (wpAny_bind (wpAny_setField_rec hz (by simp) fun g0 hz0 hs0 => ?_)))))
  have hz0' : ZipS g0 z TI TO .ellipsis := hz0
  have hs0' : Heap.SameBut z hp g0 := hs0
  clear hz0 hs0
  refine wpAny_bind ?_
  simp only [List.zipIdx_cons, List.zipIdx_nil, List.forIn_cons, List.forIn_nil]
  refine wpAny_bind (wpAny_bind (wpAny_onRaise ?_))
  change wpAny _ _ (Builtin.SmallTypes.nextOrEnd (.ref i1)) _ _ ⟨g0, g, d, tk0, os⟩
  refine ne_end D1 (D1.over st1 hs0' S.zf1) fun q1 e1 => ?_
  have hz1 : ZipS q1 z TI TO .ellipsis := e1 _ _ S.zi1 hz0'
  refine wpAny_bind (wpAny_setField_rec (s := ⟨q1, g, d, tk0, os⟩) hz1 (by simp) fun q2 hz2 e2 => ?_)
  refine wpAny_bind ?_
  have hz2' : ZipS q2 z TI TO .none := hz2
  have e2' : Heap.SameBut z q1 q2 := e2
  clear hz2 e2
  have s2 : St2 n q2 := D2.over (D2.frame _ _ _ (D2.over st2 hs0' S.zf2) fun b hb o x => e1 b o (fun q => S.sep1_2 (q ▸ hb)) x) e2' S.zf2
  have w2 : ∀ {A' : Around} {E' : Value → Shared → Prop} {Q' : Option Value → Shared → Prop}, A' = A → (∀ h', Heap.ExtBut i2 q2 h' → Q' none ⟨h', g, d, tk0, os⟩) → wpAny (model prog w) A' (Builtin.SmallTypes.nextOrEnd (.ref i2)) Q' E' ⟨q2, g, d, tk0, os⟩ := fun e q => by
    subst e
    exact ne_end (s := ⟨q2, g, d, tk0, os⟩) D2 s2 q
  with_unfolding_all refine wpAny_bind ?_
  simp only [List.drop_succ_cons, List.drop_zero, List.zipIdx_cons, List.zipIdx_nil, List.forIn_cons, List.forIn_nil]
  refine wpAny_bind (wpAny_bind (w2 rfl fun q3 e3 => ?_))
  simp only [Option.isSome_none, Bool.false_eq_true, if_false]
  refine wpAny_pure (wpAny_pure (wpAny_bind (wpAny_rule ?_)))
  unfold Builtin.SmallTypes.stopIteration
  refine wpAny_bind ?_
  simp only [newExc, newTuple]
  refine wpAny_bind (wpAny_newObj_type ?_ (by size_fits))
  refine wpAny_bind (m := firstArgMember _ _) (wpAny_of_eq (a := Value.none) (by first | rfl | (simp only [firstArgMember]; rfl)) ?_)
  refine wpAny_newObj_type ?_ (by size_fits)
  simp only [raiseNew]
  refine wpAny_bind (wpAny_handled ?_)
  rw [hh]
  refine wpAny_bind (wpAny_pure (wpAny_throw ?_))
  exact k _ _ _ (fun c o cz ct c1 c2 e => Heap.get?_push_of_some _ (Heap.get?_push_of_some _ (e3 _ _ c2 (e2'.extBut _ _ cz (e1 _ _ c1 (hs0'.extBut _ _ cz e)))))) ⟨_, Heap.get?_push_size _ rfl, rfl⟩
end
end SL
namespace SL
open PySem PySem.Spec PyProof.Rows L2
section
variable {prog : Program} {w : World} {A : Around} {E : Value → Shared → Prop} {s : Shared} {z TI TO i1 i2 : Addr} {fp1 fp2 : List Addr} {n n1 n2 i : Nat} {P1 P2 : Nat → Value → Prop} {St1 St2 : Nat → Heap → Prop} {a1 a2 : Value}
theorem zs_next {Q : Option Value → Shared → Prop} (S : ZipSep2 z TI TO i1 i2 fp1 fp2) (D1 : Draws prog w A.in1 i1 fp1 n1 P1 St1) (D2 : Draws prog w A.in1 i2 fp2 n2 P2 St2) (hz : ZipS s.heap z TI TO .none) (hTI : IsTupOf2 s.heap TI (.ref i1) (.ref i2))
    (hTO : IsTupOf2 s.heap TO a1 a2) (st1 : St1 i s.heap) (st2 : St2 i s.heap) (l1 : i < n1) (l2 : i < n2)
    (k : ∀ x y h' tk, P1 i x → P2 i y → ZipS h' z TI TO (rawInt s.heap.objs.size) → IsTupOf2 h' TO x y → St1 (i + 1) h' → St2 (i + 1) h' → IsTupOf2 h' s.heap.objs.size x y → h'.objs.size = s.heap.objs.size + 1 →
      (∀ c o, c ≠ z → c ≠ TO → c ≠ i1 → c ≠ i2 → s.heap.get? c = some o → h'.get? c = some o) → Q (some (.ref s.heap.objs.size)) { s with heap := h', toks := tk }) :
    wpAny (model prog w) A (pyNext (.ref z)) Q E s := by
  have ty : s.TypeIs (.ref z) "zip" := ⟨_, hz, rfl⟩
  unfold pyNext
  refine wpAny_bind (wpAny_attempt (wpAny_callSpecial?_slot (name := Str.ofString "__next__") ty F.slot_zip_next (wpAny_call_entry F.slot_zip_next ty F.entry_zip_next (zs_item S D1 D2 hz hTI hTO st1 st2 l1 l2 fun x y h' tk b1 b2 b3 b4 b5 b6 b7 b8 b9 => ?_) (F.args_zip_next_1 _))))
  exact wpAny_pure (k x y h' tk b1 b2 b3 b4 b5 b6 b7 b8 b9)
theorem zs_stop {Q : Option Value → Shared → Prop} (S : ZipSep2 z TI TO i1 i2 fp1 fp2) (D1 : Draws prog w A.in1 i1 fp1 n P1 St1) (D2 : Draws prog w A.in1 i2 fp2 n P2 St2) (hz : ZipS s.heap z TI TO .none) (hTI : IsTupOf2 s.heap TI (.ref i1) (.ref i2))
    (hTO : IsTupOf2 s.heap TO a1 a2) (st1 : St1 n s.heap) (st2 : St2 n s.heap) (hh : A.handled = none)
    (k : ∀ h' tk, (∀ c o, c ≠ z → c ≠ TO → c ≠ i1 → c ≠ i2 → s.heap.get? c = some o → h'.get? c = some o) → Q none { s with heap := h', toks := tk }) : wpAny (model prog w) A (pyNext (.ref z)) Q E s := by
  have ty : s.TypeIs (.ref z) "zip" := ⟨_, hz, rfl⟩
  unfold pyNext
  refine wpAny_bind (wpAny_attempt (wpAny_callSpecial?_slot (name := Str.ofString "__next__") ty F.slot_zip_next (wpAny_call_entry F.slot_zip_next ty F.entry_zip_next (zs_end S D1 D2 hz hTI hTO st1 st2 hh fun h' tk e hk ⟨o, ho, hc⟩ => ?_) (F.args_zip_next_1 _))))
  exact wpAny_bind (wpAny_isInstance (T := "StopIteration") (b := true) ⟨o, ho, hc⟩ isSubtype_stop (wpAny_pure (k _ _ hk)))
theorem zs_go {elts : List Expr} {x1} {pos : Pos} {T : Addr} {Q : Unit → Shared → Prop} (hz : ZipS s.heap z TI TO (rawInt T)) (hQ : ∀ h', ZipS h' z TI TO .none → Heap.SameBut z s.heap h' → Q () { s with heap := h' }) :
    wpAny (model prog w) A (letOwnedTupleGo (.Tuple elts x1 pos) (.ref z) (.ref T)) Q E s := by
  unfold letOwnedTupleGo
  refine wpAny_bind (wpAny_load hz ?_)
  change wpAny _ _ (if (["enumerate", "zip", "dict_itemiterator", "dict_reverseitemiterator", "odict_iterator", "itertools.zip_longest", "itertools.pairwise"].contains "zip" &&
      (#[rawInt T, .bool false, .bool true, .ref TI, .ref TO] : Array Value)[0]? == some (rawInt T)) = true then _ else _) Q E s
  rw [if_pos (by simp)]
  refine wpAny_bind (wpAny_rule ?_)
  change wpAny _ _ (setField (.ref z) 0 .none) Q E s
  exact wpAny_setField_rec hz (by simp) fun h' hz' hs' => hQ h' hz' hs'
theorem zs_iter {f0 : Value} {Q : Value → Shared → Prop} (hz : ZipS s.heap z TI TO f0) (h : Q (.ref z) s) : wpAny (model prog w) A (pyIter (.ref z)) Q E s := by
  have ty : s.TypeIs (.ref z) "zip" := ⟨_, hz, rfl⟩
  refine wpAny_pyIter_slot ty F.slot_zip_iter (wpAny_call_entry F.slot_zip_iter ty F.entry_zip_iter ?_ (F.args_zip_iter_1 _))
  change wpAny _ _ (ret (.ref z)) _ _ s
  exact wpAny_pure ⟨_, rfl, "zip", _, ty, F.slot_zip_next.lookup, h⟩
theorem zs_begins {v1 v2 : Value} {o1 o2 : Obj} {H1 H2 : Heap → Prop} {Q : Value → Shared → Prop} (B1 : Begins v1 o1 H1) (B2 : Begins v2 o2 H2) (h1 : H1 s.heap) (h2 : H2 s.heap)
    (h : ∀ h', ZipS h' (s.heap.objs.size + 4) (s.heap.objs.size + 2) (s.heap.objs.size + 3) .none → IsTupOf2 h' (s.heap.objs.size + 2) (.ref s.heap.objs.size) (.ref (s.heap.objs.size + 1)) →
      IsTupOf2 h' (s.heap.objs.size + 3) .none .none → h'.get? s.heap.objs.size = some o1 → h'.get? (s.heap.objs.size + 1) = some o2 → h'.objs.size = s.heap.objs.size + 5 →
      (∀ c o, s.heap.get? c = some o → h'.get? c = some o) → Q (.ref (s.heap.objs.size + 4)) { s with heap := h' }) :
    wpAny (model prog w) A (call (.type "zip") [v1, v2] [(Str.ofString "strict", .bool true)]) Q E s := by
  refine callType_newKw F.called_zip (by decide) (zs_type _ _) (zs_newc _ _) (fun obj => zs_init obj _ _) F.entry_zip_new (zs_new B1 B2) ⟨⟨h1, h2⟩, ?_⟩
  have z1 : (s.heap.push o1).objs.size = s.heap.objs.size + 1 := by rw [Heap.size_push]
  have z2 : ((s.heap.push o1).push o2).objs.size = s.heap.objs.size + 2 := by rw [Heap.size_push, z1]
  have zT : (zsT s.heap o1 o2).objs.size = s.heap.objs.size + 3 := by rw [Heap.size_push, z2]
  have zO : (zsO s.heap o1 o2).objs.size = s.heap.objs.size + 4 := by rw [Heap.size_push, zT]
  have zZ : (zsZ s.heap o1 o2).objs.size = s.heap.objs.size + 5 := by rw [Heap.size_push, zO]
  have gZ : (zsZ s.heap o1 o2).get? (zsO s.heap o1 o2).objs.size = some { cls := .type "zip", data := .fields #[.none, .bool false, .bool true, .ref ((s.heap.push o1).push o2).objs.size, .ref (zsT s.heap o1 o2).objs.size] } := Heap.get?_push_size _ rfl
  have gO : (zsZ s.heap o1 o2).get? (zsT s.heap o1 o2).objs.size = some { cls := .type "tuple", data := .seq #[.none, .none] } := Heap.get?_push_of_some _ (Heap.get?_push_size _ rfl)
  have gT : (zsZ s.heap o1 o2).get? ((s.heap.push o1).push o2).objs.size = some { cls := .type "tuple", data := .seq #[.ref s.heap.objs.size, .ref (s.heap.push o1).objs.size] } := Heap.get?_push_of_some _ (Heap.get?_push_of_some _ (Heap.get?_push_size _ rfl))
  have g1 : (zsZ s.heap o1 o2).get? s.heap.objs.size = some o1 := Heap.get?_push_of_some _ (Heap.get?_push_of_some _ (Heap.get?_push_of_some _ (Heap.get?_push_of_some _ (Heap.get?_push_size _ B1.free))))
  have g2 : (zsZ s.heap o1 o2).get? (s.heap.push o1).objs.size = some o2 := Heap.get?_push_of_some _ (Heap.get?_push_of_some _ (Heap.get?_push_of_some _ (Heap.get?_push_size _ B2.free)))
  rw [zO, zT, z2] at gZ
  rw [zT] at gO
  rw [z2, z1] at gT
  rw [z1] at g2
  change _ ∧ _
  rw [zO]
  exact ⟨⟨_, gZ, rfl⟩, h _ gZ gT gO g1 g2 zZ fun c o e => Heap.get?_push_of_some _ (Heap.get?_push_of_some _ (Heap.get?_push_of_some _ (Heap.get?_push_of_some _ (Heap.get?_push_of_some _ e))))⟩
end
/-! ### a text beside a tuple or a list -/
def SqB (tl : Bool) (K : PySem.W.Frag) (H : Hp) (b : Addr) (xs : List V) : Prop := if tl then SqT K H b xs else SqL K H b xs
def IsB (tl : Bool) (h : Heap) (b : Addr) (its : Array Value) : Prop := if tl then h.IsTuple b its else h.IsList b its
def ItB (tl : Bool) (h : Heap) (it b : Addr) (i : Nat) : Prop := if tl then h.IsTupleIter it b i else h.IsListIter it b i
def begB (tl : Bool) (b : Addr) : Obj := { cls := .type (if tl then "tuple_iterator" else "list_iterator"), data := .fields #[.ref b, .int 0 0] }
theorem begins_b (tl : Bool) (b : Addr) (its : Array Value) : Begins (.ref b) (begB tl b) (fun h => IsB tl h b its) := by
  cases tl
  · exact begins_list b its
  · exact begins_tuple b its
theorem itb_beg {tl : Bool} {h : Heap} {it b : Addr} (e : h.get? it = some (begB tl b)) : ItB tl h it b 0 := by
  cases tl
  · exact ⟨_, e, rfl, rfl⟩
  · exact ⟨_, e, rfl, rfl⟩
theorem itb_obj {tl : Bool} {h : Heap} {it b : Addr} {i : Nat} (e : ItB tl h it b i) : ∃ o, h.get? it = some o ∧ ∀ v, o.data ≠ .cell v := by
  cases tl
  · obtain ⟨o, e, c, d⟩ := e
    exact ⟨o, e, fun v q => by rw [d] at q; cases q⟩
  · obtain ⟨o, e, c, d⟩ := e
    exact ⟨o, e, fun v q => by rw [d] at q; cases q⟩
theorem itb_keep {tl : Bool} {h h' : Heap} {it b : Addr} {i : Nat} (e : ItB tl h it b i) (k : ∀ o, h.get? it = some o → h'.get? it = some o) : ItB tl h' it b i := by
  cases tl
  · exact Heap.IsListIter.at (show h.IsListIter it b i from e) k
  · exact Heap.IsTupleIter.at (show h.IsTupleIter it b i from e) k
theorem draws_b {prog : Program} {w : World} {A : Around} (tl : Bool) (hh : A.handled = none) (it b : Addr) (hne : b ≠ it) (its : Array Value) : Draws prog w A it [it, b] its.size (fun i v => its[i]? = some v) (fun i h => ItB tl h it b i ∧ IsB tl h b its) := by
  cases tl
  · exact Draws.list hh it b hne its
  · exact Draws.tuple hh it b hne its
section
variable {X : Cx} {pins : List (Addr × Obj)} {σ : L2.St} {H : Hp} {s : Shared} {tl : Bool} {b : Addr} {ys : List V}
theorem sqb_at (I : Inv X pins σ H s) (h : SqB tl X.K H b ys) : ∃ its : List Value, Vals ys its ∧ IsB tl s.heap b its.toArray ∧ b < s.heap.objs.size := by
  cases tl
  · obtain ⟨its, rv, p, _⟩ := I.list (show SqL X.K H b ys from h)
    exact ⟨its, rv, p.isList, p.lt⟩
  · obtain ⟨its, rv, p, _⟩ := I.tuple (show SqT X.K H b ys from h)
    obtain ⟨o, ho, _⟩ := id p
    exact ⟨its, rv, p, Heap.lt_size ho⟩
theorem sqb_inj {zs : List V} (I : Inv X pins σ H s) (h : SqB tl X.K H b ys) (h' : SqB tl X.K H b zs) : ys = zs := by
  cases tl
  · exact I.list_inj (show SqL X.K H b ys from h) h'
  · exact I.tuple_inj (show SqT X.K H b ys from h) h'
end
/-- the signs of x beside what stands at b, in new pairs -/
def ItS (tl : Bool) (K : PySem.W.Frag) (x : Str) (b : Addr) : It :=
  ⟨fun i H => ∃ (ys : List V) (c : Nat) (y : V), SqB tl K H b ys ∧ x.cps[i]? = some c ∧ ys[i]? = some y,
    fun i H v H' => ∃ T c y, v = .ref T ∧ H T = none ∧ H' = upd H T (.tup [.str ⟨#[c]⟩, y]) ∧ x.cps[i]? = some c ∧ ∀ ys, SqB tl K H b ys → ys[i]? = some y,
    fun i H => ∃ ys : List V, SqB tl K H b ys ∧ ys.length = i ∧ x.cps.size = i⟩
theorem turn_zs {P : Program} {w : World} {K : PySem.W.Frag} {elts : List Expr} {kk : Nat} {tpos : Pos} {b z TI TO i1 i2 : Addr} (tl : Bool) (x : Str) (t : Tok) (D : ZipSep2 z TI TO i1 i2 [i1] [i2, b]) (bne : b ≠ i2) :
    Turn P w K (.Tuple elts kk tpos) (ItS tl K x b) [z, TI, TO, i1, i2] z (fun i h => ZipS h z TI TO .none ∧ IsTupOf2 h TI (.ref i1) (.ref i2) ∧ (∃ x y, IsTupOf2 h TO x y) ∧ h.IsStrIter i1 (strIterType x) x t i ∧ ItB tl h i2 b i) where
  mem := by simp
  obj := fun i h st c hc => by
    obtain ⟨hz, hTI, ⟨x, y, hTO⟩, ⟨o1, e1, _, d1⟩, h2⟩ := st
    have e' : c = z ∨ c = TI ∨ c = TO ∨ c = i1 ∨ c = i2 := by simpa using hc
    rcases e' with q | q | q | q | q
    · rw [q]; exact ⟨_, hz, fun v q => nomatch q⟩
    · rw [q]; exact ⟨_, hTI, fun v q => nomatch q⟩
    · rw [q]; exact ⟨_, hTO, fun v q => nomatch q⟩
    · rw [q]; exact ⟨o1, e1, fun v q => by rw [d1] at q; cases q⟩
    · rw [q]; exact itb_obj h2
  keep := fun i h h' st k => by
    obtain ⟨hz, hTI, ⟨x, y, hTO⟩, ⟨o1, e1, r1⟩, h2⟩ := st
    exact ⟨k z (by simp) _ hz, k TI (by simp) _ hTI, ⟨x, y, k TO (by simp) _ hTO⟩, ⟨o1, k i1 (by simp) _ e1, r1⟩, itb_keep h2 fun o q => k i2 (by simp) o q⟩
  item := by
    intro X hP hw hK hc i pins s σ H E I hf st hg
    subst hP hw hK
    obtain ⟨hz, hTI, ⟨x0, y0, hTO⟩, h1, h2⟩ := st
    obtain ⟨ys, c, y, hqy, hcx, hy⟩ := hg
    obtain ⟨its, rv, p, pl⟩ := sqb_at I hqy
    obtain ⟨u, hu, ru⟩ := rv.get hy
    have hzl : z < s.heap.objs.size := Heap.lt_size hz
    have hh : X.A.in1.handled = none := I.ok.hd hc
    have D1 := Draws.text (prog := X.prog) (w := X.w) hh i1 x t
    have D2 := draws_b (prog := X.prog) (w := X.w) tl hh i2 b bne its.toArray
    have l1 : i < x.cps.size := (Array.getElem?_eq_some_iff.mp hcx).1
    have l2 : i < its.toArray.size := by
      have := (List.getElem?_eq_some_iff.mp hu).1
      simpa using this
    refine zs_next D D1 D2 hz hTI hTO h1 ⟨h2, p⟩ l1 l2 fun v1 v2 h' tk hv1 hv2 z' TO' h1' h2' hT hsz hk => ?_
    obtain ⟨c', ux, hcx', rfl⟩ := hv1
    obtain rfl : c = c' := Option.some.inj (hcx.symm.trans hcx')
    obtain rfl : u = v2 := Option.some.inj ((by simpa using hu : its.toArray[i]? = some u).symm.trans hv2)
    refine ⟨_, rfl, zs_go (s := { s with heap := h', toks := tk }) z' fun h'' z'' sb => ?_⟩
    have hT2 : h''.get? s.heap.objs.size = some { cls := .type "tuple", data := .seq #[.str ⟨#[c]⟩ ux, u] } := (sb.2 _ (Nat.ne_of_gt hzl)).trans hT
    have new : ObjOk X.prog X.w (upd H s.heap.objs.size (.tup [.str ⟨#[c]⟩, y])) h'' s.heap.objs.size (.tup [.str ⟨#[c]⟩, y]) :=
      ⟨by show 2 ≤ sizeLine; decide, [.str ⟨#[c]⟩ ux, u], .cons ⟨ux, rfl⟩ (.cons ru .nil), ⟨_, hT2, rfl, _, rfl⟩⟩
    have I1 : Inv X pins σ (upd H s.heap.objs.size (.tup [.str ⟨#[c]⟩, y])) { s with heap := h'', toks := tk } :=
      I.turnedNew (t' := tk) (ch := [z, TI, TO, i1, i2]) (fun c o hb q => (sb.2 c (fun q' => hb (by simp [q']))).trans (hk c o (fun q' => hb (by simp [q'])) (fun q' => hb (by simp [q'])) (fun q' => hb (by simp [q'])) (fun q' => hb (by simp [q'])) q)) hf (Nat.le_refl _) new
    refine ⟨.ref s.heap.objs.size, _, I1, rfl, ⟨_, c, y, rfl, I.hok.fresh (Nat.le_refl _), rfl, hcx, fun l hl => by rw [sqb_inj I hl hqy]; exact hy⟩, ⟨z'', ?_, ⟨.str ⟨#[c]⟩ ux, u, ?_⟩, ?_, ?_⟩, fun c hcm => ?_⟩
    · exact (sb.2 _ D.TIz).trans (hk _ _ D.TIz D.TITO D.TIi1 D.TIi2 hTI)
    · exact (sb.2 _ D.TOz).trans TO'
    · obtain ⟨o1, e1, r1⟩ := h1'
      exact ⟨o1, (sb.2 _ D.zi1.symm).trans e1, r1⟩
    · exact itb_keep h2'.1 fun o q => (sb.2 _ D.zi2.symm).trans q
    · have hlt : c < s.heap.objs.size := by
        have e' : c = z ∨ c = TI ∨ c = TO ∨ c = i1 ∨ c = i2 := by simpa using hcm
        rcases e' with q | q | q | q | q
        · rw [q]; exact hzl
        · rw [q]; exact Heap.lt_size hTI
        · rw [q]; exact Heap.lt_size hTO
        · rw [q]; obtain ⟨_, e1, _⟩ := h1; exact Heap.lt_size e1
        · rw [q]; obtain ⟨_, e2, _⟩ := itb_obj h2; exact Heap.lt_size e2
      rw [upd_ne (Nat.ne_of_lt hlt)]
      exact (hf c hcm).1
  done := by
    intro X hP hw hK hc i pins s σ H E I hf st hg
    subst hP hw hK
    obtain ⟨hz, hTI, ⟨x0, y0, hTO⟩, h1, h2⟩ := st
    obtain ⟨ys, hqy, l2, l1⟩ := hg
    obtain ⟨its, rv, p, pl⟩ := sqb_at I hqy
    have hh : X.A.in1.handled = none := I.ok.hd hc
    have D1 := Draws.text (prog := X.prog) (w := X.w) hh i1 x t
    have D2 := draws_b (prog := X.prog) (w := X.w) tl hh i2 b bne its.toArray
    have e2 : its.toArray.size = i := by rw [List.size_toArray, ← rv.length, l2]
    rw [l1] at D1
    rw [e2] at D2
    exact zs_stop D D1 D2 hz hTI hTO h1 ⟨h2, p⟩ (I.ok.hd hc) fun h' tk hk => ⟨rfl, I.turnedL (t' := tk) (ch := [z, TI, TO, i1, i2]) (fun c o hb q =>
      hk c o (fun q' => hb (by simp [q'])) (fun q' => hb (by simp [q'])) (fun q' => hb (by simp [q'])) (fun q' => hb (by simp [q'])) q) hf⟩
  self := fun A i s Q E st h => zs_iter st.1 h
theorem zsep (m b : Nat) (h : b < m) : ZipSep2 (m + 4) (m + 2) (m + 3) m (m + 1) [m] [m + 1, b] where
  TIz := by show (m + 2 : Nat) ≠ m + 4; omega
  TOz := by show (m + 3 : Nat) ≠ m + 4; omega
  TITO := by show (m + 2 : Nat) ≠ m + 3; omega
  TIi1 := by show (m + 2 : Nat) ≠ m; omega
  mem1 := by simp
  zf1 := fun q => by
    have : (m + 4 : Nat) = m := List.mem_singleton.mp q
    omega
  Tf1 := fun q => by
    have : (m + 3 : Nat) = m := List.mem_singleton.mp q
    omega
  TIi2 := by show (m + 2 : Nat) ≠ m + 1; omega
  mem2 := by simp
  zf2 := fun q => by
    have : (m + 4 : Nat) = m + 1 ∨ (m + 4 : Nat) = b := by simpa using q
    omega
  Tf2 := fun q => by
    have : (m + 3 : Nat) = m + 1 ∨ (m + 3 : Nat) = b := by simpa using q
    omega
  sep1_2 := fun q => by
    have : (m : Nat) = m + 1 ∨ (m : Nat) = b := by simpa using q
    omega
  sep2_1 := fun q => by
    have : (m + 1 : Nat) = m := List.mem_singleton.mp q
    omega
theorem callWith_tyKw {M : Model} {A : Around} {E : Value → Shared → Prop} {s : Shared} {env : Env} {pos : Pos} {T : String} {Q : Value → Shared → Prop} {e : Expr} {rest : List Expr} {kws : List Keyword} (hall : (backToKw pos (keywordEach kws env)).all (·.1.isSome) = true)
    (h : wpAny M A (spliced (backTo pos (starEach (e :: rest) env))) (fun vs s₁ => wpAny M A (evalAll ((backToKw pos (keywordEach kws env)).map (·.2)))
      (fun ks s₂ => wpAny M A (call (.type T) vs (((backToKw pos (keywordEach kws env)).filterMap (·.1)).zip ks)) Q E s₂) E s₁) E s)
    (hpl : (backTo pos (starEach rest env)).any (·.1) = false) (he : starEach (e :: rest) env = (false, eval e env) :: starEach rest env) :
    wpAny M A (callWith pos (.type T) [] (backTo pos (starEach (e :: rest) env)) (backToKw pos (keywordEach kws env))) Q E s := by
  have h' := evalArgs_kw2 (f := .type T) (Q := fun a s₁ => wpAny M A (call (.type T) ([] ++ a.pos) a.kw) Q E s₁) hall h he
  have hp1 : (backTo pos (starEach (e :: rest) env)).any (·.1) = false := by
    rw [he]
    exact hpl
  have hp2 : (backToKw pos (keywordEach kws env)).any (·.1.isNone) = false := by
    rw [Bool.eq_false_iff]
    intro q
    obtain ⟨x, hx, q⟩ := List.any_eq_true.mp q
    have := List.all_eq_true.mp hall x hx
    cases hx1 : x.1 <;> simp [hx1] at q this
  unfold callWith
  refine wpAny_bind (wpAny_holding (wpAny_mono h' (fun a s₁ h₁ => wpAny_bind (wpAny_standAt ?_)) fun _ _ x => x))
  simp only [hp1, hp2, Bool.or_false]
  refine wpAny_bind (wpAny_pure ?_)
  exact wpAny_bind (wpAny_mono h₁ (fun r s₂ hr => wpAny_bind (wpAny_holding (wpAny_point (wpAny_pure hr)))) fun _ _ x => x)
def iZipS (K : PySem.W.Frag) (ta tk : TA) : TI := fun σ H R => ta σ H fun vs H1 => tk σ H1 fun zs H1 => ∃ tl x b ys, zs = [.bl true] ∧ vs = [.str x, .ref b] ∧ SqB tl K H1 b ys ∧ R (ItS tl K x b) H1
theorem pi_zipS {X : Cx} {e e2 v : Expr} {ta tk : TA} {p pos tpos : Pos} {elts : List Expr} {kk : Nat} {kp : Pos} (hg : Gl X "zip") (hm : X.mg "zip" = none) (ha : PA X [e, e2] ta) (hv : PK X [⟨some "strict", v, kp⟩] tk)
    (hs : starEach [e, e2] X.env = (false, eval e X.env) :: starEach [e2] X.env := by rfl) (hpl : (backTo pos (starEach [e2] X.env)).any (·.1) = false := by rfl) :
    PI X (.Tuple elts kk tpos) (.Call (.Name "zip" p) [e, e2] [⟨some "strict", v, kp⟩] pos) (iZipS X.K ta tk) := by
  refine ⟨fun pins s σ H R I h => ?_⟩
  refine wpAny_Call_Name_kw (ld_blt I hg hm PyProof.Rows.boot_zip ?_)
  refine callWith_tyKw (by rfl) (thn (ha.run pos pins s σ H _ I h) fun us s1 ⟨vs, H1, I1, r1, q1⟩ => ?_) hpl hs
  refine thn (hv.run pos pins s1 σ H1 _ I1 q1) fun ws s1 ⟨zs, H1, I1, rz, q1⟩ => ?_
  obtain ⟨tl, x, b, ys, rfl, rfl, hq, q⟩ := q1
  cases rz with
  | cons rz rr =>
  cases rz
  cases rr
  cases r1 with
  | cons ra rr =>
  cases rr with
  | cons rb rr =>
  cases rr
  cases rb
  obtain ⟨t, rfl⟩ := ra
  obtain ⟨its, rv, p, pl⟩ := sqb_at I1 hq
  refine zs_begins (begins_text x t) (begins_b tl b its.toArray) trivial p fun h' hz hTI hTO h1 h2 hsz hk => zs_iter hz ?_
  have I2 : Inv X pins σ H1 { s1 with heap := h' } := I1.kept (t' := s1.toks) hk
  refine ⟨s1.heap.objs.size + 4, [s1.heap.objs.size + 4, s1.heap.objs.size + 2, s1.heap.objs.size + 3, s1.heap.objs.size, s1.heap.objs.size + 1], _, _, H1, rfl, I2, turn_zs tl x t (zsep _ b pl) (Nat.ne_of_lt (Nat.lt_succ_of_lt pl)), ⟨hz, hTI, ⟨_, _, hTO⟩, ⟨_, h1, rfl, rfl⟩, itb_beg h2⟩, fun c hcm => ?_, q⟩
  have e' : c = s1.heap.objs.size + 4 ∨ c = s1.heap.objs.size + 2 ∨ c = s1.heap.objs.size + 3 ∨ c = s1.heap.objs.size ∨ c = s1.heap.objs.size + 1 := by simpa using hcm
  have le : s1.heap.objs.size ≤ c := by
    rcases e' with q | q | q | q | q
    · rw [q]; exact Nat.le_add_right _ _
    · rw [q]; exact Nat.le_add_right _ _
    · rw [q]; exact Nat.le_add_right _ _
    · rw [q]; exact Nat.le_refl _
    · rw [q]; exact Nat.le_add_right _ _
  exact I1.fpOk le (I1.hok.fresh le)
end SL
namespace SL
open PySem PySem.Spec PyProof.Rows L2
/-! ### head, *rest = a tuple or a list -/
section
variable {prog : Program} {w : World} {A : Around} {E : Value → Shared → Prop} {s : Shared} {tl : Bool} {it b : Addr} {its : Array Value}
theorem nextb_item {i : Nat} {x : Value} {Q : Option Value → Shared → Prop} (hit : ItB tl s.heap it b i) (hb : IsB tl s.heap b its) (hx : its[i]? = some x) (k : ∀ h', ItB tl h' it b (i + 1) → Heap.SameBut it s.heap h' → Q (some x) { s with heap := h' }) :
    wpAny (model prog w) A (pyNext (.ref it)) Q E s := by
  cases tl
  · exact wpAny_pyNext_list_item hit hb hx k
  · exact wpAny_pyNext_tuple_item hit hb hx k
theorem nextb_end {i : Nat} {Q : Option Value → Shared → Prop} (hh : A.handled = none) (hit : ItB tl s.heap it b i) (hb : IsB tl s.heap b its) (hx : its[i]? = none) (k : ∀ h', Heap.ExtBut it s.heap h' → Q none { s with heap := h' }) :
    wpAny (model prog w) A (pyNext (.ref it)) Q E s := by
  cases tl
  · exact wpAny_pyNext_list_end hh hit hb hx k
  · exact wpAny_pyNext_tuple_end hh hit hb hx k
theorem isb_keep {h h' : Heap} (hb : IsB tl h b its) (k : ∀ o, h.get? b = some o → h'.get? b = some o) : IsB tl h' b its := by
  cases tl
  · exact Heap.IsList.at (show h.IsList b its from hb) k
  · exact Heap.IsTuple.at (show h.IsTuple b its from hb) k
theorem walk_rest (hh : A.handled = none) (hne : b ≠ it) (n : Nat) (hn : n + 1 = its.size) : WalksS prog w A it [it, b] [it] (fun a c => a = c) n (fun i v => its[i + 1]? = some v) (fun i s => ItB tl s.heap it b (i + 1) ∧ IsB tl s.heap b its) where
  sub := fun c hc => by
    have : c = it := by simpa using hc
    simp [this]
  grefl := fun _ => rfl
  gtrans := fun _ _ _ e f => e.trans f
  frame := fun i s h' tk st _ k => ⟨itb_keep st.1 (k it (by simp)), isb_keep st.2 (k b (by simp))⟩
  item := fun i s Q E hi st k => by
    have hx : its[i + 1]? = some (its[i + 1]'(by omega)) := Array.getElem?_eq_getElem (by omega)
    exact nextb_item st.1 st.2 hx fun h' hit hs => k _ _ hx ⟨hit, isb_keep st.2 fun o e => hs.extBut _ _ hne e⟩ ⟨fun c o hc e => hs.extBut c o (fun z => hc (by simp [z])) e, rfl, rfl, rfl, Nat.le_refl _⟩
  done := fun s Q E st k => nextb_end hh st.1 st.2 (Array.getElem?_eq_none (by omega)) fun h' he => k _ ⟨fun c o hc e => he c o (fun z => hc (by simp [z])) e, rfl, rfl, rfl, Nat.le_refl _⟩
  self := fun i s Q E st h => by
    cases tl
    · exact wpAny_pyIter_listiter st.1 h
    · exact wpAny_pyIter_tupleiter st.1 h
theorem isb_type (hb : IsB tl s.heap b its) : s.TypeIs (.ref b) (if tl then "tuple" else "list") := by
  cases tl
  · exact (show s.heap.IsList b its from hb).typeIs
  · exact (show s.heap.IsTuple b its from hb).typeIs
theorem unpack_star {x : Value} {r : List Value} {Q : List Value → Shared → Prop} (hh : A.handled = none) (hb : IsB tl s.heap b (x :: r).toArray) (hl : r.length ≤ sizeLine)
    (k : ∀ (h' : Heap) (tk : Nat), (∀ c o, s.heap.get? c = some o → h'.get? c = some o) → Q [x, .ref h'.objs.size] { s with heap := h'.push { cls := .type "list", data := .seq r.toArray }, toks := tk }) :
    wpAny (model prog w) A (unpackItems (.ref b) 2 (some 1)) Q E s := by
  have blt : b < s.heap.objs.size := by
    cases tl
    · obtain ⟨o, ho, _⟩ := (show s.heap.IsList b _ from hb)
      exact Heap.lt_size ho
    · obtain ⟨o, ho, _⟩ := (show s.heap.IsTuple b _ from hb)
      exact Heap.lt_size ho
  have hne : b ≠ s.heap.objs.size := Nat.ne_of_lt blt
  unfold unpackItems
  refine wpAny_bind ?_
  unfold notIterableAtAll
  have sp : ∀ {Q' : Option Value → Shared → Prop}, (∀ f, Q' (some f) s) → wpAny (model prog w) A (specialOf (.ref b) (Str.ofString "__iter__")) Q' E s := fun q => by
    have ty := isb_type (s := s) hb
    cases tl
    · exact wpAny_specialOf ty slot_list_iter.lookup (q _)
    · exact wpAny_specialOf ty F.slot_tuple_iter.lookup (q _)
  refine wpAny_bind (sp fun f => ?_)
  refine wpAny_pure ?_
  simp only [Bool.false_eq_true, if_false]
  refine wpAny_bind (wpAny_holding ((begins_b tl b _).iter prog w A E s _ hb ?_))
  have it0 : ItB tl (s.heap.push (begB tl b)) s.heap.objs.size b 0 := itb_beg (Heap.get?_push_size _ (begins_b tl b (x :: r).toArray).free)
  have hb0 : IsB tl (s.heap.push (begB tl b)) b (x :: r).toArray := isb_keep hb fun o e => Heap.get?_push_of_some _ e
  refine wpAny_bind (wpAny_holding ?_)
  change wpAny _ _ (pyNext (.ref s.heap.objs.size) >>= _) _ _ _
  refine wpAny_bind (nextb_item (s := { s with heap := s.heap.push (begB tl b) }) it0 hb0 (x := x) rfl fun h1 it1 hs1 => ?_)
  have hb1 : IsB tl h1 b (x :: r).toArray := isb_keep hb0 fun o e => hs1.extBut _ _ hne e
  refine wpAny_bind (wpAny_holding ?_)
  change wpAny _ _ (pure []) _ _ _
  refine wpAny_pure (wpAny_pure ?_)
  rw [if_neg (by simp)]
  have sz1 : h1.objs.size = s.heap.objs.size + 1 := hs1.1.trans (Heap.size_push ..)
  refine wpAny_bind (wpAny_holding (wpAny_collect_iter (T := if tl then "tuple_iterator" else "list_iterator") (I := s.heap.objs.size) (fp := [s.heap.objs.size, b]) (wr := [s.heap.objs.size]) (by cases tl <;> simp) (walk_rest (A := A.in1) hh hne r.length (by simp)) (fun i s' st => ?_) ⟨it1, hb1⟩ (fun c hc => ?_) (by simp) (fun s2 acc hm hi => ?_) hl))
  · obtain ⟨o, e, c, d⟩ : ∃ o, s'.heap.get? s.heap.objs.size = some o ∧ o.cls = .type (if tl then "tuple_iterator" else "list_iterator") ∧ True := by
      cases tl
      · obtain ⟨o, e, c, d⟩ := st.1
        exact ⟨o, e, c, trivial⟩
      · obtain ⟨o, e, c, d⟩ := st.1
        exact ⟨o, e, c, trivial⟩
    exact ⟨o, e, c⟩
  · have e' : c = s.heap.objs.size ∨ c = b := by simpa using hc
    change c < h1.objs.size
    rw [sz1]
    rcases e' with q | q
    · rw [q]; exact Nat.lt_succ_self _
    · rw [q]; exact Nat.lt_succ_of_lt blt
  · have ea : acc.toList = r := by
      refine List.ext_getElem? fun i => ?_
      by_cases h : i < r.length
      · have h1 : i < acc.size := by rw [hi.1]; exact h
        have h2 := hi.2 i _ (Array.getElem?_eq_getElem h1)
        rw [Array.getElem?_toList, Array.getElem?_eq_getElem h1, ← h2]
        simp
      · rw [List.getElem?_eq_none (by rw [Array.length_toList, hi.1]; omega), List.getElem?_eq_none (by omega)]
    rw [ea]
    simp only [Nat.reduceSub, Nat.not_lt_zero, if_false, Nat.sub_zero, List.take_length, List.drop_length, List.append_nil]
    refine wpAny_bind (wpAny_newList (wpAny_pure ?_) hl)
    have es : s2 = { s with heap := s2.heap, toks := s2.toks } := by
      have g := hm.gens
      have d := hm.drawn
      have o := hm.os
      cases s2
      simp only at g d o
      subst g d o
      rfl
    rw [es]
    refine k s2.heap s2.toks (fun c o e => hm.heap c o (fun z => ?_) (hs1.extBut _ _ (fun z => ?_) (Heap.get?_push_of_some _ e)))
    · have : c = s.heap.objs.size := by simpa using z
      exact absurd (Heap.lt_size e) (by rw [this]; exact Nat.lt_irrefl _)
    · exact absurd (Heap.lt_size e) (by rw [z]; exact Nat.lt_irrefl _)
end
def gStar (K : PySem.W.Frag) (t : TGs) : TG := fun v σ H Q => ∃ tl a x xs, v = .ref a ∧ SqB tl K H a (x :: xs) ∧ ∀ p, H p = none → t [x, .ref p] σ (upd H p (.lst xs)) Q
theorem sqb_len {X : Cx} {pins : List (Addr × Obj)} {σ : L2.St} {H : Hp} {s : Shared} {tl : Bool} {b : Addr} {ys : List V} (I : Inv X pins σ H s) (h : SqB tl X.K H b ys) : ys.length ≤ sizeLine := by
  cases tl
  · obtain ⟨_, _, _, z⟩ := I.list (show SqL X.K H b ys from h)
    exact z
  · obtain ⟨_, _, _, z⟩ := I.tuple (show SqT X.K H b ys from h)
    exact z
theorem pg_star {X : Cx} {pos : Pos} {es : List Expr} {k : Nat} {t : TGs} (hc : X.calm = true) (h : PGs X es t)
    (hn : (assignEach es X.env).length = 2 := by rfl) (hst : (assignEach es X.env).findIdx? (·.1) = some 1 := by rfl) : L2.PG X (.Tuple es k pos) (gStar X.K t) := by
  refine ⟨fun pins s σ H v u Q I r hw => ?_⟩
  obtain ⟨tl, a, x, xs, e1, hq, hw⟩ := hw
  subst e1
  cases r
  have hle := sqb_len I hq
  obtain ⟨its, rv, ht, hz⟩ := sqb_at I hq
  cases rv with
  | cons r1 rv =>
  rename_i u1 us
  rw [PyProof.Rows.assign_Tuple]
  refine wpAny_bind (wpAny_standAt ?_)
  unfold unpack
  rw [hn, hst]
  have el := rv.length
  refine wpAny_bind (wpAny_holding (unpack_star (I.ok.hd hc) ht (by simp only [List.length_cons] at hle; omega) fun h' tk hk => ?_))
  have I1 : Inv X pins σ H { s with heap := h', toks := tk } := I.kept hk
  have hp := I1.hok.fresh (Nat.le_refl h'.objs.size)
  have new : ObjOk X.prog X.w (upd H h'.objs.size (.lst xs)) (h'.push { cls := .type "list", data := .seq us.toArray }) h'.objs.size (.lst xs) :=
    ⟨by simp only [List.length_cons] at hle; omega, us, 0, rv, Heap.get?_push_size _ rfl⟩
  have I2 : Inv X pins σ (upd H h'.objs.size (.lst xs)) { s with heap := h'.push { cls := .type "list", data := .seq us.toArray }, toks := tk } :=
    I1.laid (t' := tk) (fun b u e => Heap.get?_push_of_some _ e) (Nat.le_refl _) new
  have rv2 : Vals [x, V.ref h'.objs.size] [u1, .ref h'.objs.size] := .cons r1 (.cons (show L2.RelV (V.ref h'.objs.size) (.ref h'.objs.size) from rfl) .nil)
  exact h.run pins _ σ _ _ _ Q I2 rv2 (hw _ hp)
end SL
namespace SL
open PySem PySem.Spec PyProof.Rows L2
/-! ### a note as plain data, for == -/
def aData (q : Rat) : PyData := .tuple [.int q.num, .int q.den]
def vData : Val → PyData
  | .price => .tuple [.str "price"]
  | .coin q => .tuple [.str "coin", aData q]
  | .of q v => .tuple [.str "of", aData q, vData v]
  | .plus a b => .tuple [.str "plus", vData a, vData b]
  | .minus a b => .tuple [.str "minus", vData a, vData b]
  | .best a b => .tuple [.str "best", vData a, vData b]
  | .least a b => .tuple [.str "least", vData a, vData b]
def pData : Option Rat → PyData
  | none => .none
  | some q => aData q
def nData : Note → PyData
  | .none => .tuple [.str "none"]
  | .pay d v => .tuple [.str "pay", .int d, vData v]
  | .now v => .tuple [.str "now", vData v]
  | .both a b => .tuple [.str "both", nData a, nData b]
  | .times q n => .tuple [.str "times", aData q, nData n]
  | .turn n => .tuple [.str "turn", nData n]
  | .till up l a b => .tuple [.str "till", .str (sdS up), aData l, nData a, nData b]
  | .may nm h b s x y => .tuple [.str "may", .str nm, .str (owS h), .int b, .int s, nData x, nData y]
  | .seen pk d st past => .tuple [.str "seen", .str (wdS pk), .int d, aData st, pData past]
section
variable {K : PySem.W.Frag} {H : Hp}
theorem Amt.dp {v : V} {q : Rat} (h : Amt K H v q) : Dp K H v (aData q) := by
  obtain ⟨a, rfl, h⟩ := h
  exact .tup h (.cons (.int _) (.cons (.int _) .nil))
theorem VAt.dp : ∀ {x : Val} {v : V}, VAt K H x v → Dp K H v (vData x)
  | .price, v, ⟨a, e, h⟩ => e ▸ .tup h (.cons (.str _) .nil)
  | .coin q, v, ⟨a, u, e, h, h1⟩ => e ▸ .tup h (.cons (.str _) (.cons h1.dp .nil))
  | .of q x, v, ⟨a, u, u2, e, h, h1, h2⟩ => e ▸ .tup h (.cons (.str _) (.cons h1.dp (.cons (VAt.dp h2) .nil)))
  | .plus x y, v, ⟨a, u, u2, e, h, h1, h2⟩ => e ▸ .tup h (.cons (.str _) (.cons (VAt.dp h1) (.cons (VAt.dp h2) .nil)))
  | .minus x y, v, ⟨a, u, u2, e, h, h1, h2⟩ => e ▸ .tup h (.cons (.str _) (.cons (VAt.dp h1) (.cons (VAt.dp h2) .nil)))
  | .best x y, v, ⟨a, u, u2, e, h, h1, h2⟩ => e ▸ .tup h (.cons (.str _) (.cons (VAt.dp h1) (.cons (VAt.dp h2) .nil)))
  | .least x y, v, ⟨a, u, u2, e, h, h1, h2⟩ => e ▸ .tup h (.cons (.str _) (.cons (VAt.dp h1) (.cons (VAt.dp h2) .nil)))
theorem PAt.dp : ∀ {x : Option Rat} {v : V}, PAt K H x v → Dp K H v (pData x)
  | none, v, h => by
    cases h
    exact .non
  | some q, v, h => Amt.dp h
theorem NAt.dp : ∀ {x : Note} {v : V}, NAt K H x v → Dp K H v (nData x)
  | .none, v, ⟨a, e, h⟩ => e ▸ .tup h (.cons (.str _) .nil)
  | .pay d x, v, ⟨a, u, e, h, h1⟩ => e ▸ .tup h (.cons (.str _) (.cons (.int _) (.cons h1.dp .nil)))
  | .now x, v, ⟨a, u, e, h, h1⟩ => e ▸ .tup h (.cons (.str _) (.cons h1.dp .nil))
  | .both x y, v, ⟨a, u, u2, e, h, h1, h2⟩ => e ▸ .tup h (.cons (.str _) (.cons (NAt.dp h1) (.cons (NAt.dp h2) .nil)))
  | .times q n, v, ⟨a, u, u2, e, h, h1, h2⟩ => e ▸ .tup h (.cons (.str _) (.cons h1.dp (.cons (NAt.dp h2) .nil)))
  | .turn n, v, ⟨a, u, e, h, h1⟩ => e ▸ .tup h (.cons (.str _) (.cons (NAt.dp h1) .nil))
  | .till up l m n, v, ⟨a, u, u2, u3, e, h, h1, h2, h3⟩ => e ▸ .tup h (.cons (.str _) (.cons (.str _) (.cons h1.dp (.cons (NAt.dp h2) (.cons (NAt.dp h3) .nil)))))
  | .may nm o b s m n, v, ⟨a, u, u2, e, h, h1, h2⟩ => e ▸ .tup h (.cons (.str _) (.cons (.str _) (.cons (.str _) (.cons (.int _) (.cons (.int _) (.cons (NAt.dp h1) (.cons (NAt.dp h2) .nil)))))))
  | .seen pk d st past, v, ⟨a, u, u2, e, h, h1, h2⟩ => e ▸ .tup h (.cons (.str _) (.cons (.str _) (.cons (.int _) (.cons h1.dp (.cons h2.dp .nil)))))
end
theorem a_lay (q : Rat) : (aData q).canLay0 = true := by simp [aData, PyData.canLay0, PyData.canLayAll0]
theorem a_dep (q : Rat) : (aData q).depth ≤ 1 := by simp [aData, PyData.depth, PyData.depthAll]
theorem v_lay : ∀ v : Val, (vData v).canLay0 = true
  | .price => by decide +kernel
  | .coin q => by
    have e : PyData.strOk ("coin" : Str) = true := by decide +kernel
    simp [vData, PyData.canLay0, PyData.canLayAll0, a_lay, e]
  | .of q x => by
    have e : PyData.strOk ("of" : Str) = true := by decide +kernel
    simp [vData, PyData.canLay0, PyData.canLayAll0, a_lay, v_lay x, e]
  | .plus a b => by
    have e : PyData.strOk ("plus" : Str) = true := by decide +kernel
    simp [vData, PyData.canLay0, PyData.canLayAll0, v_lay a, v_lay b, e]
  | .minus a b => by
    have e : PyData.strOk ("minus" : Str) = true := by decide +kernel
    simp [vData, PyData.canLay0, PyData.canLayAll0, v_lay a, v_lay b, e]
  | .best a b => by
    have e : PyData.strOk ("best" : Str) = true := by decide +kernel
    simp [vData, PyData.canLay0, PyData.canLayAll0, v_lay a, v_lay b, e]
  | .least a b => by
    have e : PyData.strOk ("least" : Str) = true := by decide +kernel
    simp [vData, PyData.canLay0, PyData.canLayAll0, v_lay a, v_lay b, e]
theorem v_dep : ∀ v : Val, (vData v).depth ≤ vdep v + 1
  | .price => by simp [vData, PyData.depth, PyData.depthAll, vdep]
  | .coin q => by
    have := a_dep q
    simp [vData, PyData.depth, PyData.depthAll, vdep]
    omega
  | .of q x => by
    have := a_dep q
    have := v_dep x
    simp [vData, PyData.depth, PyData.depthAll, vdep]
    omega
  | .plus a b => by
    have := v_dep a
    have := v_dep b
    simp [vData, PyData.depth, PyData.depthAll, vdep]
    omega
  | .minus a b => by
    have := v_dep a
    have := v_dep b
    simp [vData, PyData.depth, PyData.depthAll, vdep]
    omega
  | .best a b => by
    have := v_dep a
    have := v_dep b
    simp [vData, PyData.depth, PyData.depthAll, vdep]
    omega
  | .least a b => by
    have := v_dep a
    have := v_dep b
    simp [vData, PyData.depth, PyData.depthAll, vdep]
    omega
theorem nm_ok {nm : Str} (h : NameOk nm) : PyData.strOk nm = true := by
  unfold PyData.strOk
  rw [Array.all_eq_true']
  intro c hc
  have := h.2 c (by simpa using hc)
  exact decide_eq_true (by omega)
theorem ow_ok (h : Bool) : PyData.strOk (owS h) = true := by cases h <;> decide +kernel
theorem sd_ok (h : Bool) : PyData.strOk (sdS h) = true := by cases h <;> decide +kernel
theorem wd_ok (h : Bool) : PyData.strOk (wdS h) = true := by cases h <;> decide +kernel
theorem p_lay (q : Option Rat) : (pData q).canLay0 = true := by
  cases q with
  | none => rfl
  | some q => exact a_lay q
theorem p_dep (q : Option Rat) : (pData q).depth ≤ 1 := by
  cases q with
  | none => exact Nat.zero_le _
  | some q => exact a_dep q
theorem n_lay {m : Nat} : ∀ n : Note, NGood m n → (nData n).canLay0 = true
  | .none, _ => by decide +kernel
  | .pay d v, _ => by
    have e : PyData.strOk ("pay" : Str) = true := by decide +kernel
    simp [nData, PyData.canLay0, PyData.canLayAll0, v_lay v, e]
  | .now v, _ => by
    have e : PyData.strOk ("now" : Str) = true := by decide +kernel
    simp [nData, PyData.canLay0, PyData.canLayAll0, v_lay v, e]
  | .both a b, g => by
    have e : PyData.strOk ("both" : Str) = true := by decide +kernel
    simp [nData, PyData.canLay0, PyData.canLayAll0, n_lay a g.1, n_lay b g.2, e]
  | .times q n, g => by
    have e : PyData.strOk ("times" : Str) = true := by decide +kernel
    simp [nData, PyData.canLay0, PyData.canLayAll0, a_lay, n_lay n g.2, e]
  | .turn n, g => by
    have e : PyData.strOk ("turn" : Str) = true := by decide +kernel
    simp [nData, PyData.canLay0, PyData.canLayAll0, n_lay n g, e]
  | .till up l a b, g => by
    have e : PyData.strOk ("till" : Str) = true := by decide +kernel
    simp [nData, PyData.canLay0, PyData.canLayAll0, a_lay, n_lay a g.2.1, n_lay b g.2.2, e, sd_ok]
  | .may nm h b s x y, g => by
    have e : PyData.strOk ("may" : Str) = true := by decide +kernel
    simp [nData, PyData.canLay0, PyData.canLayAll0, n_lay x g.2.2.2.1, n_lay y g.2.2.2.2, e, ow_ok, nm_ok g.1]
  | .seen pk d st past, g => by
    have e : PyData.strOk ("seen" : Str) = true := by decide +kernel
    simp [nData, PyData.canLay0, PyData.canLayAll0, a_lay, p_lay, e, wd_ok]
theorem n_dep {m : Nat} : ∀ n : Note, NGood m n → (nData n).depth ≤ ndep n + 4
  | .none, _ => by simp [nData, PyData.depth, PyData.depthAll, ndep]
  | .pay d v, g => by
    have := v_dep v
    have := g.2.2
    simp [nData, PyData.depth, PyData.depthAll, ndep]
    omega
  | .now v, g => by
    have := v_dep v
    have := g.2
    simp [nData, PyData.depth, PyData.depthAll, ndep]
    omega
  | .both a b, g => by
    have := n_dep a g.1
    have := n_dep b g.2
    simp [nData, PyData.depth, PyData.depthAll, ndep]
    omega
  | .times q n, g => by
    have := a_dep q
    have := n_dep n g.2
    simp [nData, PyData.depth, PyData.depthAll, ndep]
    omega
  | .turn n, g => by
    have := n_dep n g
    simp [nData, PyData.depth, PyData.depthAll, ndep]
    omega
  | .till up l a b, g => by
    have := a_dep l
    have := n_dep a g.2.1
    have := n_dep b g.2.2
    simp [nData, PyData.depth, PyData.depthAll, ndep]
    omega
  | .may nm h b s x y, g => by
    have := n_dep x g.2.2.2.1
    have := n_dep y g.2.2.2.2
    simp [nData, PyData.depth, PyData.depthAll, ndep]
    omega
  | .seen pk d st past, g => by
    have := a_dep st
    have := p_dep past
    simp [nData, PyData.depth, PyData.depthAll, ndep]
    omega
theorem n_shaped {m : Nat} {n : Note} (g : NGood m n) (h : ndep n ≤ 20) : SeqAt.shaped (nData n) = true := by
  have := n_dep n g
  unfold SeqAt.shaped
  rw [n_lay n g, decide_eq_true (by omega)]
  rfl
theorem none_shaped : SeqAt.shaped (.tuple [.str "none"]) = true := by decide +kernel
theorem n_eqv (n : Note) : PyData.eqv (nData n) (.tuple [.str "none"]) = n.isNone := by
  cases n with
  | none => decide +kernel
  | _ => simp [nData, PyData.eqv, PyData.eqvAll, Note.isNone]
/-! ### what lived hands back -/
def AnsAt (K : PySem.W.Frag) (H : Hp) (ans : List Bool) (v : V) : Prop := ∃ a, v = .ref a ∧ SqT K H a (ans.map V.bl) ∧ ans.length ≤ 1000
def ResAt (K : PySem.W.Frag) (H : Hp) : Res → V → Prop
  | .ask h nm, z => ∃ a, z = .ref a ∧ SqT K H a [.str "ask", .str (owS h), .str nm]
  | .fin p r left, z => ∃ a u1 u2 u3, z = .ref a ∧ SqT K H a [.str "end", u1, u2, u3] ∧ Amt K H u1 p ∧ NAt K H r u2 ∧ AnsAt K H left u3
section
variable {K : PySem.W.Frag} {H H' : Hp}
theorem AnsAt.mono {ans : List Bool} {v : V} (h : AnsAt K H ans v) (e : Same H H') : AnsAt K H' ans v := by
  obtain ⟨a, r, h, l⟩ := h
  exact ⟨a, r, Same.sqt e h, l⟩
theorem ResAt.mono (e : Same H H') : ∀ {r : Res} {v : V}, ResAt K H r v → ResAt K H' r v
  | .ask h nm, v, ⟨a, q, h1⟩ => ⟨a, q, Same.sqt e h1⟩
  | .fin p r left, v, ⟨a, u1, u2, u3, q, h, h1, h2, h3⟩ => ⟨a, u1, u2, u3, q, Same.sqt e h, h1.mono e, h2.mono e, h3.mono e⟩
theorem fin_new {x : Rat} {r : Note} {left : List Bool} {u1 u2 u3 : V} {p : Addr} (hp : H p = none) (h1 : Amt K H u1 x) (h2 : NAt K H r u2) (h3 : AnsAt K H left u3) : ResAt K (upd H p (.tup [.str "end", u1, u2, u3])) (.fin x r left) (.ref p) :=
  ⟨p, u1, u2, u3, rfl, SqT.of upd_same, h1.mono (Same.new hp), h2.mono (Same.new hp), h3.mono (Same.new hp)⟩
end
def spL (K : PySem.W.Frag) (k : Nat) (S : Note → Prop) : Sp := fun vs H Q _ => ∃ nv d pv av n p ans m, vs = [nv, .int d, pv, av] ∧ S n ∧ NAt K H n nv ∧ Amt K H pv p ∧ AnsAt K H ans av ∧ NGood m n ∧ m ≤ 3 ∧ Sz 8 p ∧ ndep n ≤ k ∧ k ≤ 12 ∧ nbits n ≤ 4000 ∧
  ∀ z H', Same H H' → ResAt K H' ((tree n d p).walk ans) z → Q z H'
theorem spL_len {K : PySem.W.Frag} {k : Nat} {S : Note → Prop} : ∀ vs H Q E, spL K k S vs H Q E → vs.length = 4 := fun vs H Q E h => by
  obtain ⟨_, _, _, _, _, _, _, _, rfl, _⟩ := h
  rfl
section
variable {w : World} {K : PySem.W.Frag} {mg : Str → Option Value} {base : Heap}
theorem none_n (T : TX w K mg) (H : Hp) : NAt K H .none (.ref (He.ga K "NONE")) := ⟨_, rfl, none_at T H⟩
def spBothOf (K : PySem.W.Frag) : Sp := fun vs H Q _ => ∃ u v a b m, vs = [u, v] ∧ NAt K H a u ∧ NAt K H b v ∧ NGood m a ∧ NGood m b ∧ ndep a ≤ 20 ∧ ndep b ≤ 20 ∧ ∀ z H', Same H H' → NAt K H' (bothOf a b) z → Q z H'
theorem ok_both_of (T : TX w K mg) : Fn w K mg base 1 (He.ga K "both_of") (spBothOf K) := by
  refine fn_both_of T (fun vs H Q E h => ?_) (fun cdv A outer s H vs Q E hr h => ?_)
  · obtain ⟨_, _, _, _, _, rfl, _⟩ := h
    rfl
  · obtain ⟨u, v, a, b, m, rfl, ha, hb, ga, gb, da, db, k⟩ := h
    have hu := hr.units
    refine ⟨_, pss_cons (ps_if (pt_cmpR (op_eqD hu) (pv 0) (pe_gref rfl (g_NONE T)) (nomark _)) (pss_one (ps_ret (pv 1))) pss_nil)
      (pss_one (ps_ret (pe_ifExp (pt_cmpR (op_eqD hu) (pv 1) (pe_gref rfl (g_NONE T)) (nomark _)) (pv 0) (pe_tup (pa_cons pe_str (pa_cons (pv 0) (pa_cons (pv 1) pa_nil))))))), ?_⟩
    refine ⟨_, rfl, nData a, _, ha.dp, (none_n T H).dp, n_shaped ga da, none_shaped, _, rfl, ?_⟩
    rw [show nData Note.none = .tuple [.str "none"] from rfl, n_eqv]
    cases ea : a.isNone with
    | true =>
      refine iteT ⟨_, rfl, k _ _ (Same.refl _) ?_⟩
      unfold bothOf
      rw [if_pos ea]
      exact hb
    | false =>
      refine iteF ?_
      refine ⟨_, rfl, nData b, _, hb.dp, (none_n T H).dp, n_shaped gb db, none_shaped, _, rfl, ?_⟩
      rw [show nData Note.none = .tuple [.str "none"] from rfl, n_eqv]
      cases eb : b.isNone with
      | true =>
        refine iteT ⟨_, rfl, k _ _ (Same.refl _) ?_⟩
        unfold bothOf
        rw [if_neg (by rw [ea]; decide), if_pos eb]
        exact ha
      | false =>
        refine iteF ⟨_, rfl, _, rfl, (by show 3 ≤ sizeLine; decide), fun p hp => ?_⟩
        refine k _ _ (Same.new hp) ?_
        unfold bothOf
        rw [if_neg (by rw [ea]; decide), if_neg (by rw [eb]; decide)]
        exact ⟨p, u, v, rfl, SqT.of upd_same, ha.mono (Same.new hp), hb.mono (Same.new hp)⟩
def spTO : Sp := fun vs H Q _ => ∃ h, vs = [.str (owS h)] ∧ Q (.str (owS (!h))) H
theorem ow_h (h : Bool) : decide (V.str (owS h) = V.str "holder") = h := by cases h <;> decide +kernel
theorem ok_turned_owner (T : TX w K mg) : Fn w K mg base 1 (He.ga K "turned_owner") spTO := by
  refine fn_turned_owner T (fun vs H Q E h => ?_) (fun cdv A outer s H vs Q E hr h => ?_)
  · obtain ⟨_, rfl, _⟩ := h
    rfl
  · obtain ⟨h, rfl, k⟩ := h
    refine ⟨_, pss_one (ps_ret (pe_ifExp (pt_cmpR op_eq (pv 0) pe_str (nomark _)) pe_str pe_str)), ?_⟩
    refine ⟨_, rfl, rfl, _, rfl, ?_⟩
    rw [ow_h]
    cases h with
    | true => exact iteT k
    | false => exact iteF k
theorem ok_of_none (T : TX w K mg) (k : Nat) : Fn w K mg base 1 (He.ga K "of_none") (spL K k fun n => n = .none) := by
  refine fn_of_none T spL_len (fun cdv A outer s H vs Q E hr h => ?_)
  · obtain ⟨nv, d, pv_, av, n, p, ans, m, rfl, rfl, hn, hp, ha, gn, hm, sp, hd, hk, hb, kk⟩ := h
    refine ⟨_, pss_one (ps_ret (pe_tup (pa_cons pe_str (pa_cons (pe_gref rfl (g_NOUGHT T)) (pa_cons (pe_gref rfl (g_NONE T)) (pa_cons (pv 3) pa_nil)))))), ?_⟩
    refine ⟨_, rfl, (by show 4 ≤ sizeLine; decide), fun q hq => ?_⟩
    exact kk _ _ (Same.new hq) (fin_new hq (nought_at T H) (none_n T H) ha)
theorem ok_of_now (T : TX w K mg) (k : Nat) : Fn w K mg base 8 (He.ga K "of_now") (spL K k fun n => ∃ v, n = .now v) := by
  refine fn_of_now T spL_len (fun cdv A outer s H vs Q E hr h => ?_)
  · obtain ⟨nv, d, pv_, av, n, p, ans, m, rfl, ⟨v, rfl⟩, ⟨a, u, rfl, hs, hv⟩, hp, ha, gn, hm, sp, hd, hk, hb, kk⟩ := h
    refine ⟨_, pss_one (ps_ret (pe_tup (pa_cons pe_str (pa_cons (pe_callF (ok_value_at T 3) rfl hr rfl (g_value_at T) (pa_cons (pe_ix ix_tup (pv 0) pe_int (fun _ _ => rfl)) (pa_cons (pv 2) pa_nil))) (pa_cons (pe_gref rfl (g_NONE T)) (pa_cons (pv 3) pa_nil)))))), ?_⟩
    refine ⟨_, rfl, a, _, _, _, rfl, rfl, hs, rfl, _, rfl, u, pv_, v, p, rfl, hv, hp, gn.1, sp, gn.2, hb, fun z H' e r => ?_⟩
    refine ⟨_, rfl, (by show 4 ≤ sizeLine; decide), fun q hq => ?_⟩
    exact kk _ _ (e.trans (Same.new hq)) (fin_new hq r (none_n T H') (ha.mono e))
theorem tree_pay {day d : Int} {v : Val} {p : Rat} : tree (.pay day v) d p = if d < day then .leaf 0 (.pay day v) else .leaf (if d = day then vat v p else 0) .none := by rw [tree]
theorem ok_of_pay (T : TX w K mg) (k : Nat) : Fn w K mg base 8 (He.ga K "of_pay") (spL K k fun n => ∃ d v, n = .pay d v) := by
  refine fn_of_pay T spL_len (fun cdv A outer s H vs Q E hr h => ?_)
  · obtain ⟨nv, d, pv_, av, n, p, ans, m, rfl, ⟨day, v, rfl⟩, ⟨a, u, rfl, hs, hv⟩, hp, ha, gn, hm, sp, hd, hk, hb, kk⟩ := h
    refine ⟨_, pss_cons (ps_if (pt_cmpR op_lt (pv 1) (pe_ix ix_tup (pv 0) pe_int (fun _ _ => rfl)) (nomark _)) (pss_one (ps_ret (pe_tup (pa_cons pe_str (pa_cons (pe_gref rfl (g_NOUGHT T)) (pa_cons (pv 0) (pa_cons (pv 3) pa_nil))))))) pss_nil)
      (pss_one (ps_ret (pe_tup (pa_cons pe_str (pa_cons (pe_ifExp (pt_cmpR op_eq (pv 1) (pe_ix ix_tup (pv 0) pe_int (fun _ _ => rfl)) (nomark _)) (pe_callF (ok_value_at T 3) rfl hr rfl (g_value_at T) (pa_cons (pe_ix ix_tup (pv 0) pe_int (fun _ _ => rfl)) (pa_cons (pv 2) pa_nil))) (pe_gref rfl (g_NOUGHT T))) (pa_cons (pe_gref rfl (g_NONE T)) (pa_cons (pv 3) pa_nil))))))), ?_⟩
    rw [tree_pay] at kk
    refine ⟨_, rfl, _, rfl, a, _, _, _, rfl, rfl, hs, rfl, _, _, rfl, rfl, _, rfl, ite2 (fun hc => ?_) (fun hc => ?_)⟩
    · rw [if_pos (of_decide_eq_true hc)] at kk
      refine ⟨_, rfl, _, rfl, (by show 4 ≤ sizeLine; decide), fun q hq => ?_⟩
      exact kk _ _ (Same.new hq) (fin_new hq (nought_at T H) ⟨a, u, rfl, hs, hv⟩ ha)
    · rw [if_neg (fun z => hc (decide_eq_true z))] at kk
      refine ⟨_, rfl, _, rfl, a, _, _, _, rfl, rfl, hs, rfl, rfl, _, rfl, ite2 (fun he => ?_) (fun he => ?_)⟩
      · have e1 : d = day := V.int.inj (of_decide_eq_true he)
        rw [if_pos e1] at kk
        refine ⟨_, rfl, a, _, _, _, rfl, rfl, hs, rfl, _, rfl, u, pv_, v, p, rfl, hv, hp, gn.2.1, sp, gn.2.2, hb, fun z H' e r => ?_⟩
        refine ⟨_, rfl, (by show 4 ≤ sizeLine; decide), fun q hq => ?_⟩
        exact kk _ _ (e.trans (Same.new hq)) (fin_new hq r (none_n T H') (ha.mono e))
      · rw [if_neg (fun z => he (decide_eq_true (by rw [z])))] at kk
        refine ⟨_, rfl, (by show 4 ≤ sizeLine; decide), fun q hq => ?_⟩
        exact kk _ _ (Same.new hq) (fin_new hq (nought_at T H) (none_n T H) ha)
end
end SL
namespace SL
open PySem PySem.Spec PyProof.Rows L2
/-! ### the tree's turns by the walk -/
theorem walk_both (a b : Note) (d : Int) (p : Rat) (ans : List Bool) : (tree (.both a b) d p).walk ans = ((tree a d p).walk ans).then fun x r l => ((tree b d p).walk l).then fun y r' l' => .fin (x + y) (bothOf r r') l' := by
  rw [tree, walk_bind]
  congr 1
  funext x r l
  rw [walk_bind]
  rfl
theorem walk_times (q : Rat) (n : Note) (d : Int) (p : Rat) (ans : List Bool) : (tree (.times q n) d p).walk ans = ((tree n d p).walk ans).then fun x r l => .fin (q * x) (timesR q r) l := by
  rw [tree, walk_bind]
  rfl
theorem walk_turn (n : Note) (d : Int) (p : Rat) (ans : List Bool) : (tree (.turn n) d p).walk ans = ((tree n d p).walk ans).flip.then fun x r l => .fin (0 - x) (turnR r) l := by
  rw [tree, walk_bind, walk_flip]
  rfl
theorem walk_till (up : Bool) (l : Rat) (a b : Note) (d : Int) (p : Rat) (ans : List Bool) : (tree (.till up l a b) d p).walk ans = if touched up l p then (tree b d p).walk ans else ((tree a d p).walk ans).then fun x r z => .fin x (.till up l r b) z := by
  rw [tree]
  split
  · rfl
  · rw [walk_bind]
    rfl
def mayEnd (nm : Str) (h : Bool) (b s : Int) (stay leave : Note) (d : Int) (p : Rat) (ans : List Bool) : Res := ((tree stay d p).walk ans).then fun x r z => if s ≤ d then .fin x r z else .fin x (.may nm h b s r leave) z
theorem walk_may (nm : Str) (h : Bool) (b s : Int) (x y : Note) (d : Int) (p : Rat) (ans : List Bool) : (tree (.may nm h b s x y) d p).walk ans = if b ≤ d ∧ d ≤ s then (match ans with
    | [] => .ask h nm
    | true :: l => (tree y d p).walk l
    | false :: l => mayEnd nm h b s x y d p l) else mayEnd nm h b s x y d p ans := by
  have e : ∀ l, (if s ≤ d then tree x d p else (tree x d p).bind fun z r => .leaf z (.may nm h b s r y)).walk l = mayEnd nm h b s x y d p l := fun l => by
    unfold mayEnd
    split
    · cases (tree x d p).walk l <;> rfl
    · rw [walk_bind]
      rfl
  rw [tree_may]
  split
  · match ans with
    | [] => rfl
    | true :: l => rfl
    | false :: l => exact e l
  · exact e ans
theorem walk_seen (pk : Bool) (day : Int) (st : Rat) (past : Option Rat) (d : Int) (p : Rat) (ans : List Bool) : (tree (.seen pk day st past) d p).walk ans = if day < d then .fin 0 .none ans else
    if d < day then .fin 0 (.seen pk day st (some (afterOf pk past p))) ans else .fin (better 0 (afterOf pk past p - st)) .none ans := by
  rw [tree]
  split
  · rfl
  · split <;> rfl
/-- a conditional expression's two ways, joined -/
theorem if_join {b : Bool} {ta tb : (V → Hp → Prop) → Prop} {Q : V → Hp → Prop} (P : V → Hp → Prop) (h1 : b = true → ∀ Q' : V → Hp → Prop, (∀ v H', P v H' → Q' v H') → ta Q') (h2 : b = false → ∀ Q' : V → Hp → Prop, (∀ v H', P v H' → Q' v H') → tb Q')
    (hQ : ∀ v H', P v H' → Q v H') : if b = true then ta Q else tb Q := by
  cases b with
  | true =>
    rw [if_pos rfl]
    exact h1 rfl Q hQ
  | false =>
    rw [if_neg Bool.false_ne_true]
    exact h2 rfl Q hQ
section
variable {w : World} {K : PySem.W.Frag} {mg : Str → Option Value} {base : Heap}
theorem walk_pays {d : Int} {p : Rat} {m : Nat} {n : Note} {ans l : List Bool} {x : Rat} {r : Note} (sp : Sz 8 p) (hm : m ≤ 3) (g : NGood m n) (e : (tree n d p).walk ans = .fin x r l) : Sz (nbits n) x := all_walk (tree_pays sp hm n g) e
theorem walk_lives {d : Int} {p : Rat} {m : Nat} {n : Note} {ans l : List Bool} {x : Rat} {r : Note} (sp : Sz 8 p) (e : (tree n d p).walk ans = .fin x r l) : Lives m (fun _ => True) n r := all_walk (tree_lives (P := fun _ => True) (m := m) sp n) e
theorem ok_of_both (T : TX w K mg) {k : Nat} (G : Fn w K mg base (2 * k + 8) (He.ga K "lived") (spL K k fun _ => True)) : Fn w K mg base (2 * k + 9) (He.ga K "of_both") (spL K (k + 1) fun n => ∃ a b, n = .both a b) := by
  refine fn_of_both T spL_len (fun cdv A outer s H vs Q E hr h => ?_)
  · obtain ⟨nv, d, pv_, av, n, p, ans, m, rfl, ⟨a, b, rfl⟩, ⟨c, u, u2, rfl, hs, h1, h2⟩, hp, ha, gn, hm, sp, hd, hk, hb, kk⟩ := h
    have da : ndep a ≤ k := by simp only [ndep] at hd; omega
    have db : ndep b ≤ k := by simp only [ndep] at hd; omega
    have ba : nbits a + nbits b + 1 ≤ 4000 := hb
    refine ⟨_, pss_cons (ps_set (i := 4) sc_of_both.nd rfl (.inl rfl) (pe_callF G rfl hr rfl (g_lived T) (pa_cons (pe_ix ix_tup (pv 0) pe_int (fun _ _ => rfl)) (pa_cons (pv 1) (pa_cons (pv 2) (pa_cons (pv 3) pa_nil)))) (Nat.le_refl _)))
      (pss_cons (ps_if (pt_cmpR op_eq (pe_ix ix_tup (pv 4) pe_int (fun _ _ => rfl)) pe_str (nomark _)) (pss_one (ps_ret (pv 4))) pss_nil)
      (pss_cons (ps_set (i := 5) sc_of_both.nd rfl (.inl rfl) (pe_callF G rfl hr rfl (g_lived T) (pa_cons (pe_ix ix_tup (pv 0) pe_int (fun _ _ => rfl)) (pa_cons (pv 1) (pa_cons (pv 2) (pa_cons (pe_ix ix_tup (pv 4) pe_int (fun _ _ => rfl)) pa_nil)))) (Nat.le_refl _)))
      (pss_cons (ps_if (pt_cmpR op_eq (pe_ix ix_tup (pv 5) pe_int (fun _ _ => rfl)) pe_str (nomark _)) (pss_one (ps_ret (pv 5))) pss_nil)
      (pss_one (ps_ret (pe_tup (pa_cons pe_str (pa_cons (pe_callF (ok_plus T) rfl hr rfl (g_plus T) (pa_cons (pe_ix ix_tup (pv 4) pe_int (fun _ _ => rfl)) (pa_cons (pe_ix ix_tup (pv 5) pe_int (fun _ _ => rfl)) pa_nil)) (by omega))
        (pa_cons (pe_callF (ok_both_of T) rfl hr rfl (g_both_of T) (pa_cons (pe_ix ix_tup (pv 4) pe_int (fun _ _ => rfl)) (pa_cons (pe_ix ix_tup (pv 5) pe_int (fun _ _ => rfl)) pa_nil)) (by omega)) (pa_cons (pe_ix ix_tup (pv 5) pe_int (fun _ _ => rfl)) pa_nil)))))))))), ?_⟩
    rw [walk_both] at kk
    refine ⟨_, rfl, c, _, _, _, rfl, rfl, hs, rfl, _, rfl, _, rfl, _, rfl, u, d, pv_, av, a, p, ans, m, rfl, trivial, h1, hp, ha, gn.1, hm, sp, da, by omega, by omega, fun z1 H1 e1 r1 => ?_⟩
    cases ew : (tree a d p).walk ans with
    | ask o nm =>
      rw [ew] at r1 kk
      obtain ⟨c1, rfl, hc1⟩ := r1
      refine ⟨_, rfl, c1, _, _, _, rfl, rfl, hc1, rfl, rfl, _, rfl, iteSE ⟨_, rfl, ?_⟩⟩
      exact kk _ _ e1 ⟨c1, rfl, hc1⟩
    | fin x r l =>
      rw [ew] at r1 kk
      obtain ⟨c1, u1, u2', u3, rfl, hc1, hx, hr1, hl⟩ := r1
      refine ⟨_, rfl, c1, _, _, _, rfl, rfl, hc1, rfl, rfl, _, rfl, iteSN ?_⟩
      refine ⟨_, rfl, c, _, _, _, rfl, rfl, Same.sqt e1 hs, rfl, _, rfl, _, rfl, _, rfl, c1, _, _, _, rfl, rfl, hc1, rfl, u2, d, pv_, u3, b, p, l, m, rfl, trivial, h2.mono e1, hp.mono e1, hl, gn.2, hm, sp, db, by omega, by omega, fun z2 H2 e2 r2 => ?_⟩
      have kk2 : ∀ z H', Same H H' → ResAt K H' (((tree b d p).walk l).then fun y r' l' => .fin (x + y) (bothOf r r') l') z → Q z H' := kk
      cases ew2 : (tree b d p).walk l with
      | ask o nm =>
        rw [ew2] at r2 kk2
        obtain ⟨c2, rfl, hc2⟩ := r2
        refine ⟨_, rfl, c2, _, _, _, rfl, rfl, hc2, rfl, rfl, _, rfl, iteSE ⟨_, rfl, ?_⟩⟩
        exact kk2 _ _ (e1.trans e2) ⟨c2, rfl, hc2⟩
      | fin y r' l' =>
        rw [ew2] at r2 kk2
        obtain ⟨c2, v1, v2, v3, rfl, hc2, hy, hr2, hl2⟩ := r2
        have hc1' := Same.sqt e2 hc1
        refine ⟨_, rfl, c2, _, _, _, rfl, rfl, hc2, rfl, rfl, _, rfl, iteSN ?_⟩
        refine ⟨_, rfl, c1, _, _, _, rfl, rfl, hc1', rfl, _, rfl, c2, _, _, _, rfl, rfl, hc2, rfl, u1, v1, x, y, nbits a, nbits b, rfl, hx.mono e2, hy, walk_pays sp hm gn.1 ew, walk_pays sp hm gn.2 ew2, by omega, fun z3 H3 e3 r3 => ?_⟩
        have L1 := walk_lives (m := m) sp ew
        have L2' := walk_lives (m := m) sp ew2
        refine ⟨_, rfl, c1, _, _, _, rfl, rfl, Same.sqt e3 hc1', rfl, _, rfl, c2, _, _, _, rfl, rfl, Same.sqt e3 hc2, rfl, u2', v2, r, r', m + 1, rfl, (hr1.mono e2).mono e3, hr2.mono e3, L1.good gn.1, L2'.good gn.2, by have := L1.dep; omega, by have := L2'.dep; omega, fun z4 H4 e4 r4 => ?_⟩
        refine ⟨_, rfl, c2, _, _, _, rfl, rfl, Same.sqt e4 (Same.sqt e3 hc2), rfl, (by show 4 ≤ sizeLine; decide), fun q hq => ?_⟩
        exact kk2 _ _ ((((e1.trans e2).trans e3).trans e4).trans (Same.new hq)) (fin_new hq (r3.mono e4) r4 ((hl2.mono e3).mono e4))
theorem ok_of_times (T : TX w K mg) {k : Nat} (G : Fn w K mg base (2 * k + 8) (He.ga K "lived") (spL K k fun _ => True)) : Fn w K mg base (2 * k + 9) (He.ga K "of_times") (spL K (k + 1) fun n => ∃ q a, n = .times q a) := by
  refine fn_of_times T spL_len (fun cdv A outer s H vs Q E hr h => ?_)
  · obtain ⟨nv, d, pv_, av, n, p, ans, m, rfl, ⟨q0, a, rfl⟩, ⟨c, u, u2, rfl, hs, h1, h2⟩, hp, ha, gn, hm, sp, hd, hk, hb, kk⟩ := h
    have da : ndep a ≤ k := by simp only [ndep] at hd; omega
    have ba : 8 + nbits a ≤ 4000 := hb
    have hu := hr.units
    refine ⟨_, pss_cons (ps_set (i := 4) sc_of_times.nd rfl (.inl rfl) (pe_callF G rfl hr rfl (g_lived T) (pa_cons (pe_ix ix_tup (pv 0) pe_int (fun _ _ => rfl)) (pa_cons (pv 1) (pa_cons (pv 2) (pa_cons (pv 3) pa_nil)))) (Nat.le_refl _)))
      (pss_cons (ps_if (pt_cmpR op_eq (pe_ix ix_tup (pv 4) pe_int (fun _ _ => rfl)) pe_str (nomark _)) (pss_one (ps_ret (pv 4))) pss_nil)
      (pss_cons (ps_set (i := 5) sc_of_times.nd rfl (.inl rfl) (pe_ifExp (pt_cmpR (op_eqD hu) (pe_ix ix_tup (pv 4) pe_int (fun _ _ => rfl)) (pe_gref rfl (g_NONE T)) (nomark _)) (pe_gref rfl (g_NONE T)) (pe_tup (pa_cons pe_str (pa_cons (pe_ix ix_tup (pv 0) pe_int (fun _ _ => rfl)) (pa_cons (pe_ix ix_tup (pv 4) pe_int (fun _ _ => rfl)) pa_nil))))))
      (pss_one (ps_ret (pe_tup (pa_cons pe_str (pa_cons (pe_callF (ok_times T) rfl hr rfl (g_times T) (pa_cons (pe_ix ix_tup (pv 0) pe_int (fun _ _ => rfl)) (pa_cons (pe_ix ix_tup (pv 4) pe_int (fun _ _ => rfl)) pa_nil)) (by omega)) (pa_cons (pv 5) (pa_cons (pe_ix ix_tup (pv 4) pe_int (fun _ _ => rfl)) pa_nil))))))))), ?_⟩
    rw [walk_times] at kk
    refine ⟨_, rfl, c, _, _, _, rfl, rfl, hs, rfl, _, rfl, _, rfl, _, rfl, u2, d, pv_, av, a, p, ans, m, rfl, trivial, h2, hp, ha, gn.2, hm, sp, da, by omega, by omega, fun z1 H1 e1 r1 => ?_⟩
    cases ew : (tree a d p).walk ans with
    | ask o nm =>
      rw [ew] at r1 kk
      obtain ⟨c1, rfl, hc1⟩ := r1
      refine ⟨_, rfl, c1, _, _, _, rfl, rfl, hc1, rfl, rfl, _, rfl, iteSE ⟨_, rfl, ?_⟩⟩
      exact kk _ _ e1 ⟨c1, rfl, hc1⟩
    | fin x r l =>
      rw [ew] at r1 kk
      obtain ⟨c1, u1, u2', u3, rfl, hc1, hx, hr1, hl⟩ := r1
      have kk2 : ∀ z H', Same H H' → ResAt K H' (.fin (q0 * x) (timesR q0 r) l) z → Q z H' := kk
      have L1 := walk_lives (m := m) sp ew
      have g1 := L1.good gn.2
      have d1 : ndep r ≤ 20 := by have := L1.dep; omega
      refine ⟨_, rfl, c1, _, _, _, rfl, rfl, hc1, rfl, rfl, _, rfl, iteSN ?_⟩
      refine ⟨_, rfl, c1, _, _, _, rfl, rfl, hc1, rfl, nData r, _, hr1.dp, (none_n T H1).dp, n_shaped g1 d1, none_shaped, _, rfl, ?_⟩
      rw [show nData Note.none = .tuple [.str "none"] from rfl, n_eqv]
      refine if_join (fun v H' => Same H1 H' ∧ NAt K H' (timesR q0 r) v) (fun eb Q' q => q _ _ ⟨Same.refl _, ?_⟩) (fun eb Q' q => ?_) (fun v H2 ⟨e2, hv⟩ => ?_)
      · unfold timesR
        rw [if_pos eb]
        exact none_n T H1
      · refine ⟨_, rfl, c, _, _, _, rfl, rfl, Same.sqt e1 hs, rfl, _, rfl, c1, _, _, _, rfl, rfl, hc1, rfl, (by show 3 ≤ sizeLine; decide), fun p hp => q _ _ ⟨Same.new hp, ?_⟩⟩
        unfold timesR
        rw [if_neg (by rw [eb]; decide)]
        exact ⟨p, u, u2', rfl, SqT.of upd_same, (h1.mono e1).mono (Same.new hp), hr1.mono (Same.new hp)⟩
      · refine ⟨_, rfl, c, _, _, _, rfl, rfl, Same.sqt e2 (Same.sqt e1 hs), rfl, _, rfl, c1, _, _, _, rfl, rfl, Same.sqt e2 hc1, rfl, u, u1, q0, x, 8, nbits a, rfl, (h1.mono e1).mono e2, hx.mono e2, gn.1, walk_pays sp hm gn.2 ew, by omega, fun z3 H3 e3 r3 => ?_⟩
        refine ⟨_, rfl, _, rfl, c1, _, _, _, rfl, rfl, Same.sqt e3 (Same.sqt e2 hc1), rfl, (by show 4 ≤ sizeLine; decide), fun q hq => ?_⟩
        exact kk2 _ _ (((e1.trans e2).trans e3).trans (Same.new hq)) (fin_new hq r3 (hv.mono e3) ((hl.mono e2).mono e3))
theorem ok_of_turn (T : TX w K mg) {k : Nat} (G : Fn w K mg base (2 * k + 8) (He.ga K "lived") (spL K k fun _ => True)) : Fn w K mg base (2 * k + 9) (He.ga K "of_turn") (spL K (k + 1) fun n => ∃ a, n = .turn a) := by
  refine fn_of_turn T spL_len (fun cdv A outer s H vs Q E hr h => ?_)
  · obtain ⟨nv, d, pv_, av, n, p, ans, m, rfl, ⟨a, rfl⟩, ⟨c, u, rfl, hs, h1⟩, hp, ha, gn, hm, sp, hd, hk, hb, kk⟩ := h
    have da : ndep a ≤ k := by simp only [ndep] at hd; omega
    have ba : nbits a + 2 ≤ 4000 := hb
    have hu := hr.units
    refine ⟨_, pss_cons (ps_set (i := 4) sc_of_turn.nd rfl (.inl rfl) (pe_callF G rfl hr rfl (g_lived T) (pa_cons (pe_ix ix_tup (pv 0) pe_int (fun _ _ => rfl)) (pa_cons (pv 1) (pa_cons (pv 2) (pa_cons (pv 3) pa_nil)))) (Nat.le_refl _)))
      (pss_cons (ps_if (pt_cmpR op_eq (pe_ix ix_tup (pv 4) pe_int (fun _ _ => rfl)) pe_str (nomark _)) (pss_one (ps_ret (pe_tup (pa_cons pe_str (pa_cons (pe_callF (ok_turned_owner T) rfl hr rfl (g_turned_owner T) (pa_cons (pe_ix ix_tup (pv 4) pe_int (fun _ _ => rfl)) pa_nil) (by omega)) (pa_cons (pe_ix ix_tup (pv 4) pe_int (fun _ _ => rfl)) pa_nil)))))) pss_nil)
      (pss_one (ps_ret (pe_tup (pa_cons pe_str (pa_cons (pe_callF (ok_minus T) rfl hr rfl (g_minus T) (pa_cons (pe_gref rfl (g_NOUGHT T)) (pa_cons (pe_ix ix_tup (pv 4) pe_int (fun _ _ => rfl)) pa_nil)) (by omega))
        (pa_cons (pe_ifExp (pt_cmpR (op_eqD hu) (pe_ix ix_tup (pv 4) pe_int (fun _ _ => rfl)) (pe_gref rfl (g_NONE T)) (nomark _)) (pe_gref rfl (g_NONE T)) (pe_tup (pa_cons pe_str (pa_cons (pe_ix ix_tup (pv 4) pe_int (fun _ _ => rfl)) pa_nil)))) (pa_cons (pe_ix ix_tup (pv 4) pe_int (fun _ _ => rfl)) pa_nil)))))))), ?_⟩
    rw [walk_turn] at kk
    refine ⟨_, rfl, c, _, _, _, rfl, rfl, hs, rfl, _, rfl, _, rfl, _, rfl, u, d, pv_, av, a, p, ans, m, rfl, trivial, h1, hp, ha, gn, hm, sp, da, by omega, by omega, fun z1 H1 e1 r1 => ?_⟩
    cases ew : (tree a d p).walk ans with
    | ask o nm =>
      rw [ew] at r1 kk
      obtain ⟨c1, rfl, hc1⟩ := r1
      refine ⟨_, rfl, c1, _, _, _, rfl, rfl, hc1, rfl, rfl, _, rfl, iteSE ?_⟩
      refine ⟨_, rfl, c1, _, _, _, rfl, rfl, hc1, rfl, o, rfl, _, rfl, c1, _, _, _, rfl, rfl, hc1, rfl, (by show 3 ≤ sizeLine; decide), fun q hq => ?_⟩
      exact kk _ _ (e1.trans (Same.new hq)) ⟨q, rfl, SqT.of upd_same⟩
    | fin x r l =>
      rw [ew] at r1 kk
      obtain ⟨c1, u1, u2', u3, rfl, hc1, hx, hr1, hl⟩ := r1
      have kk2 : ∀ z H', Same H H' → ResAt K H' (.fin (0 - x) (turnR r) l) z → Q z H' := kk
      have L1 := walk_lives (m := m) sp ew
      have g1 := L1.good gn
      have d1 : ndep r ≤ 20 := by have := L1.dep; omega
      refine ⟨_, rfl, c1, _, _, _, rfl, rfl, hc1, rfl, rfl, _, rfl, iteSN ?_⟩
      refine ⟨_, rfl, c1, _, _, _, rfl, rfl, hc1, rfl, _, u1, 0, x, 1, nbits a, rfl, nought_at T H1, hx, sz_zero 1 (Nat.le_refl 1), walk_pays sp hm gn ew, by omega, fun z2 H2 e2 r2 => ?_⟩
      refine ⟨_, rfl, c1, _, _, _, rfl, rfl, Same.sqt e2 hc1, rfl, nData r, _, (hr1.mono e2).dp, (none_n T H2).dp, n_shaped g1 d1, none_shaped, _, rfl, ?_⟩
      rw [show nData Note.none = .tuple [.str "none"] from rfl, n_eqv]
      refine if_join (fun v H' => Same H2 H' ∧ NAt K H' (turnR r) v) (fun eb Q' q => q _ _ ⟨Same.refl _, ?_⟩) (fun eb Q' q => ?_) (fun v H3 ⟨e3, hv⟩ => ?_)
      · unfold turnR
        rw [if_pos eb]
        exact none_n T H2
      · refine ⟨_, rfl, c1, _, _, _, rfl, rfl, Same.sqt e2 hc1, rfl, (by show 2 ≤ sizeLine; decide), fun p hp => q _ _ ⟨Same.new hp, ?_⟩⟩
        unfold turnR
        rw [if_neg (by rw [eb]; decide)]
        exact ⟨p, u2', rfl, SqT.of upd_same, (hr1.mono e2).mono (Same.new hp)⟩
      · refine ⟨_, rfl, c1, _, _, _, rfl, rfl, Same.sqt e3 (Same.sqt e2 hc1), rfl, (by show 4 ≤ sizeLine; decide), fun q hq => ?_⟩
        exact kk2 _ _ (((e1.trans e2).trans e3).trans (Same.new hq)) (fin_new hq (r2.mono e3) hv ((hl.mono e2).mono e3))
theorem sd_up (u : Bool) : decide (V.str (sdS u) = V.str "up") = u := by cases u <;> decide +kernel
theorem wd_peak (u : Bool) : decide (V.str (wdS u) = V.str "peak") = u := by cases u <;> decide +kernel
theorem ok_of_till (T : TX w K mg) {k : Nat} (G : Fn w K mg base (2 * k + 8) (He.ga K "lived") (spL K k fun _ => True)) : Fn w K mg base (2 * k + 9) (He.ga K "of_till") (spL K (k + 1) fun n => ∃ u l a b, n = .till u l a b) := by
  refine fn_of_till T spL_len (fun cdv A outer s H vs Q E hr h => ?_)
  · obtain ⟨nv, d, pv_, av, n, p, ans, m, rfl, ⟨up, lv, a, b, rfl⟩, ⟨c, u, u2, u3, rfl, hs, h1, h2, h3⟩, hp, ha, gn, hm, sp, hd, hk, hb, kk⟩ := h
    have da : ndep a ≤ k := by simp only [ndep] at hd; omega
    have db : ndep b ≤ k := by simp only [ndep] at hd; omega
    have ba : nbits a ≤ 4000 := by simp only [nbits] at hb; omega
    have bb : nbits b ≤ 4000 := by simp only [nbits] at hb; omega
    have hu := hr.units
    refine ⟨_, pss_cons (ps_asg (pv 0) (pg_tup rfl (pgs_cons (pg_name (i := 4) sc_of_till.nd rfl (.inl rfl)) (pgs_cons (pg_name (i := 5) sc_of_till.nd rfl (.inl rfl)) (pgs_cons (pg_name (i := 6) sc_of_till.nd rfl (.inl rfl)) (pgs_cons (pg_name (i := 7) sc_of_till.nd rfl (.inl rfl)) (pgs_cons (pg_name (i := 8) sc_of_till.nd rfl (.inl rfl)) pgs_nil)))))))
      (pss_cons (ps_set (i := 9) sc_of_till.nd rfl (.inl rfl) (pe_ifExp (pt_cmpR op_eq (pv 5) pe_str (nomark _)) (pe_not (pe_callF (ok_less T) rfl hr rfl (g_less T) (pa_cons (pv 2) (pa_cons (pv 6) pa_nil)) (by omega))) (pe_not (pe_callF (ok_less T) rfl hr rfl (g_less T) (pa_cons (pv 6) (pa_cons (pv 2) pa_nil)) (by omega)))))
      (pss_cons (ps_if (pt_val (pv 9)) (pss_one (ps_ret (pe_callF G rfl hr rfl (g_lived T) (pa_cons (pv 8) (pa_cons (pv 1) (pa_cons (pv 2) (pa_cons (pv 3) pa_nil)))) (Nat.le_refl _)))) pss_nil)
      (pss_cons (ps_set (i := 10) sc_of_till.nd rfl (.inl rfl) (pe_callF G rfl hr rfl (g_lived T) (pa_cons (pv 7) (pa_cons (pv 1) (pa_cons (pv 2) (pa_cons (pv 3) pa_nil)))) (Nat.le_refl _)))
      (pss_one (ps_ret (pe_ifExp (pt_cmpR op_eq (pe_ix ix_tup (pv 10) pe_int (fun _ _ => rfl)) pe_str (nomark _)) (pv 10) (pe_tup (pa_cons pe_str (pa_cons (pe_ix ix_tup (pv 10) pe_int (fun _ _ => rfl)) (pa_cons (pe_tup (pa_cons (pv 4) (pa_cons (pv 5) (pa_cons (pv 6) (pa_cons (pe_ix ix_tup (pv 10) pe_int (fun _ _ => rfl)) (pa_cons (pv 8) pa_nil)))))) (pa_cons (pe_ix ix_tup (pv 10) pe_int (fun _ _ => rfl)) pa_nil))))))))))), ?_⟩
    rw [walk_till] at kk
    refine ⟨_, rfl, c, _, rfl, hs, rfl, _, _, rfl, _, _, rfl, _, _, rfl, _, _, rfl, _, _, rfl, rfl, ?_⟩
    refine ⟨_, rfl, rfl, _, rfl, ?_⟩
    rw [sd_up]
    refine if_join (fun v H' => H' = H ∧ v = .bl (touched up lv p)) (fun eb Q' q => ?_) (fun eb Q' q => ?_) ?_
    · refine ⟨_, rfl, _, rfl, pv_, u, p, lv, rfl, hp, h1, sp.mono (by decide), gn.1.mono (by decide), _, rfl, q _ _ ⟨rfl, ?_⟩⟩
      rw [eb]
      rfl
    · refine ⟨_, rfl, _, rfl, u, pv_, lv, p, rfl, h1, hp, gn.1.mono (by decide), sp.mono (by decide), _, rfl, q _ _ ⟨rfl, ?_⟩⟩
      rw [eb]
      rfl
    rintro v H' ⟨rfl, rfl⟩
    refine ⟨_, rfl, _, rfl, ?_⟩
    cases et : touched up lv p with
    | true =>
      rw [et, if_pos rfl] at kk
      exact iteT ⟨_, rfl, _, rfl, _, rfl, _, rfl, u3, d, pv_, av, b, p, ans, m, rfl, trivial, h3, hp, ha, gn.2.2, hm, sp, db, by omega, bb, kk⟩
    | false =>
      rw [et, if_neg Bool.false_ne_true] at kk
      refine iteF ⟨_, rfl, _, rfl, _, rfl, _, rfl, u2, d, pv_, av, a, p, ans, m, rfl, trivial, h2, hp, ha, gn.2.1, hm, sp, da, by omega, ba, fun z1 H1 e1 r1 => ?_⟩
      cases ew : (tree a d p).walk ans with
      | ask o nm =>
        rw [ew] at r1 kk
        obtain ⟨c1, rfl, hc1⟩ := r1
        refine ⟨_, rfl, c1, _, _, _, rfl, rfl, hc1, rfl, rfl, _, rfl, iteSE ⟨_, rfl, ?_⟩⟩
        exact kk _ _ e1 ⟨c1, rfl, hc1⟩
      | fin x r l =>
        rw [ew] at r1 kk
        obtain ⟨c1, u1, u2', u3', rfl, hc1, hx, hr1, hl⟩ := r1
        refine ⟨_, rfl, c1, _, _, _, rfl, rfl, hc1, rfl, rfl, _, rfl, iteSN ?_⟩
        refine ⟨_, rfl, c1, _, _, _, rfl, rfl, hc1, rfl, _, rfl, _, rfl, _, rfl, _, rfl, c1, _, _, _, rfl, rfl, hc1, rfl, _, rfl, (by show 5 ≤ sizeLine; decide), fun q1 hq1 => ?_⟩
        have n1 := Same.new (o := .tup [.str "till", .str (sdS up), u, u2', u3]) hq1
        refine ⟨_, rfl, c1, _, _, _, rfl, rfl, Same.sqt n1 hc1, rfl, (by show 4 ≤ sizeLine; decide), fun q hq => ?_⟩
        exact kk _ _ ((e1.trans n1).trans (Same.new hq)) (fin_new hq (hx.mono n1) ⟨q1, u, u2', u3, rfl, SqT.of upd_same, (h1.mono e1).mono n1, hr1.mono n1, (h3.mono e1).mono n1⟩ (hl.mono n1))
end
end SL
namespace SL
open PySem PySem.Spec PyProof.Rows L2
theorem eqvAll_nil (l : List Bool) : PyData.eqv (.tuple (l.map PyData.bool)) (.tuple []) = l.isEmpty := by
  cases l <;> simp [PyData.eqv, PyData.eqvAll]
theorem bl_dp {K : PySem.W.Frag} {H : Hp} : ∀ l : List Bool, DpAll K H (l.map V.bl) (l.map PyData.bool)
  | [] => .nil
  | b :: l => .cons (.bl b) (bl_dp l)
theorem bl_lay : ∀ l : List Bool, PyData.canLayAll0 (l.map PyData.bool) = true
  | [] => rfl
  | b :: l => by simp [PyData.canLayAll0, PyData.canLay0, bl_lay l]
theorem bl_dep : ∀ l : List Bool, PyData.depthAll (l.map PyData.bool) = 0
  | [] => rfl
  | b :: l => by simp [PyData.depthAll, PyData.depth, bl_dep l]
theorem bl_shaped (l : List Bool) : SeqAt.shaped (.tuple (l.map PyData.bool)) = true := by
  unfold SeqAt.shaped
  have e : (PyData.tuple (l.map PyData.bool)).depth = 1 := by simp [PyData.depth, bl_dep]
  rw [e]
  simp [PyData.canLay0, bl_lay]
theorem nil_shaped : SeqAt.shaped (.tuple []) = true := by decide +kernel
theorem cut1 (b : Bool) (l : List Bool) : cutV ((b :: l).map V.bl) (some ((1 : Nat) : Int)) none = l.map V.bl := by
  unfold cutV
  rw [HT.sIx_nat, HT.sIx_none]
  have e : min 1 ((b :: l).map V.bl).length = 1 := by simp
  rw [e]
  show (l.map V.bl).take _ = _
  rw [List.take_of_length_le (by simp)]
theorem cut1_ne (b : Bool) (l : List Bool) : ¬ (HT.sIx ((b :: l).map V.bl).length 0 (some ((1 : Nat) : Int)) = 0 ∧ HT.sIx ((b :: l).map V.bl).length ((b :: l).map V.bl).length none = ((b :: l).map V.bl).length) := by
  rw [HT.sIx_nat]
  simp
theorem nx_mk {n : L2.St → Hp → Prop} {rt : VK} {bk ct : L2.St → Hp → Prop} {σ : L2.St} {H : Hp} (h : n σ H) : (Ends.mk n rt bk ct).nx σ H := h
/-- a block's first statement, its ways joined -/
theorem seq_join {t u : TS} {D : Ends} {σ : L2.St} {H : Hp} (P : L2.St → Hp → Prop) (h : ∀ N : L2.St → Hp → Prop, (∀ σ' H', P σ' H' → N σ' H') → t { D with nx := N } σ H) (hu : ∀ σ' H', P σ' H' → u D σ' H') : tSeq t u D σ H := h (u D) hu
section
variable {w : World} {K : PySem.W.Frag} {mg : Str → Option Value} {base : Heap}
theorem ok_of_may (T : TX w K mg) {k : Nat} (G : Fn w K mg base (2 * k + 8) (He.ga K "lived") (spL K k fun _ => True)) : Fn w K mg base (2 * k + 9) (He.ga K "of_may") (spL K (k + 1) fun n => ∃ nm o b s x y, n = .may nm o b s x y) := by
  refine fn_of_may T spL_len (fun cdv A outer s H vs Q E hr h => ?_)
  · obtain ⟨nv, d, pv_, av, n, p, ans, m, rfl, ⟨nm, o, b, st, x, y, rfl⟩, ⟨c, u, u2, rfl, hs, h1, h2⟩, hp, ha, gn, hm, sp, hd, hk, hb, kk⟩ := h
    have dx : ndep x ≤ k := by simp only [ndep] at hd; omega
    have dy : ndep y ≤ k := by simp only [ndep] at hd; omega
    have bx : nbits x ≤ 4000 := by simp only [nbits] at hb; omega
    have by_ : nbits y ≤ 4000 := by simp only [nbits] at hb; omega
    have hu := hr.units
    refine ⟨_, pss_cons (ps_asg (pv 0) (pg_tup rfl (pgs_cons (pg_name (i := 4) sc_of_may.nd rfl (.inl rfl)) (pgs_cons (pg_name (i := 5) sc_of_may.nd rfl (.inl rfl)) (pgs_cons (pg_name (i := 6) sc_of_may.nd rfl (.inl rfl)) (pgs_cons (pg_name (i := 7) sc_of_may.nd rfl (.inl rfl)) (pgs_cons (pg_name (i := 8) sc_of_may.nd rfl (.inl rfl)) (pgs_cons (pg_name (i := 9) sc_of_may.nd rfl (.inl rfl)) (pgs_cons (pg_name (i := 10) sc_of_may.nd rfl (.inl rfl)) pgs_nil)))))))))
      (pss_cons (ps_if (pt_chain op_le op_le (pv 7) (pv 1) (pv 8))
        (pss_cons (ps_if (pt_cmpR (op_eqD hu) (pv 3) (pe_tup pa_nil) (nomark _)) (pss_one (ps_ret (pe_tup (pa_cons pe_str (pa_cons (pv 6) (pa_cons (pv 5) pa_nil)))))) pss_nil)
        (pss_cons (ps_if (pt_val (pe_ix ix_tup (pv 3) pe_int (fun _ _ => rfl))) (pss_one (ps_ret (pe_callF G rfl hr rfl (g_lived T) (pa_cons (pv 10) (pa_cons (pv 1) (pa_cons (pv 2) (pa_cons (pe_slice sl_tup (pv 3) (po_some pe_int) po_none) pa_nil)))) (Nat.le_refl _)))) pss_nil)
        (pss_one (ps_set (i := 3) sc_of_may.nd rfl (.inl rfl) (pe_slice sl_tup (pv 3) (po_some pe_int) po_none))))) pss_nil)
      (pss_cons (ps_set (i := 11) sc_of_may.nd rfl (.inl rfl) (pe_callF G rfl hr rfl (g_lived T) (pa_cons (pv 9) (pa_cons (pv 1) (pa_cons (pv 2) (pa_cons (pv 3) pa_nil)))) (Nat.le_refl _)))
      (pss_cons (ps_if (PW.pt (pw_or (pt_cmpR op_eq (pe_ix ix_tup (pv 11) pe_int (fun _ _ => rfl)) pe_str (nomark _)) (pw_or1 (pt_cmpR op_ge (pv 1) (pv 8) (nomark _))))) (pss_one (ps_ret (pv 11))) pss_nil)
      (pss_one (ps_ret (pe_tup (pa_cons pe_str (pa_cons (pe_ix ix_tup (pv 11) pe_int (fun _ _ => rfl)) (pa_cons (pe_tup (pa_cons (pv 4) (pa_cons (pv 5) (pa_cons (pv 6) (pa_cons (pv 7) (pa_cons (pv 8) (pa_cons (pe_ix ix_tup (pv 11) pe_int (fun _ _ => rfl)) (pa_cons (pv 10) pa_nil)))))))) (pa_cons (pe_ix ix_tup (pv 11) pe_int (fun _ _ => rfl)) pa_nil)))))))))), ?_⟩
    rw [walk_may] at kk
    refine ⟨_, rfl, c, _, rfl, hs, rfl, _, _, rfl, _, _, rfl, _, _, rfl, _, _, rfl, _, _, rfl, _, _, rfl, _, _, rfl, rfl, ?_⟩
    refine nx_mk ?_
    refine seq_join (fun σ' H1 => ∃ (l : List Bool) (lv : V), σ' = [some (.ref c), some (.int d), some pv_, some lv, some (.str "may"), some (.str nm), some (.str (owS o)), some (.int b), some (.int st), some u, some u2, none] ∧ Same H H1 ∧ AnsAt K H1 l lv ∧
      (∀ z H', Same H1 H' → ResAt K H' (mayEnd nm o b st x y d p l) z → Q z H')) (fun N hN => ?_) ?_
    · by_cases w1 : b ≤ d
      · by_cases w2 : d ≤ st
        · rw [if_pos ⟨w1, w2⟩] at kk
          refine ⟨_, rfl, _, rfl, _, _, rfl, rfl, _, rfl, ?_⟩
          rw [decide_eq_true w1]
          refine iteT ⟨_, rfl, _, _, rfl, rfl, _, rfl, ?_⟩
          rw [decide_eq_true w2]
          refine iteT ?_
          obtain ⟨ca, rfl, hsa, hl⟩ := ha
          refine ⟨_, rfl, (by show 0 ≤ sizeLine; decide), fun q0 hq0 => ?_⟩
          have n0 := Same.new (o := .tup []) hq0
          refine ⟨_, .tuple [], .tup (Same.sqt n0 hsa) (bl_dp ans), .tup (SqT.of upd_same) .nil, bl_shaped ans, nil_shaped, _, rfl, ?_⟩
          rw [eqvAll_nil]
          cases ans with
          | nil =>
            refine iteT ⟨_, rfl, _, rfl, (by show 3 ≤ sizeLine; decide), fun q hq => ?_⟩
            exact kk _ _ (n0.trans (Same.new hq)) ⟨q, rfl, SqT.of upd_same⟩
          | cons a l =>
            have ll : l.length ≤ 1000 := by simp only [List.length_cons] at hl; omega
            refine iteF ⟨_, rfl, ca, _, _, _, rfl, rfl, Same.sqt n0 hsa, atI_nat (j := 0) (v := V.bl a) rfl, _, rfl, ?_⟩
            cases a with
            | true =>
              refine iteT ⟨_, rfl, _, rfl, _, rfl, _, rfl, 1, rfl, ca, _, rfl, Same.sqt n0 hsa, cut1_ne true l, fun q1 hq1 => ?_⟩
              have n1 := Same.new (o := .tup (cutV ((true :: l).map V.bl) (some ((1 : Nat) : Int)) none)) hq1
              exact ⟨u2, d, pv_, .ref q1, y, p, l, m, rfl, trivial, (h2.mono n0).mono n1, (hp.mono n0).mono n1, ⟨q1, rfl, SqT.of (by rw [upd_same]; exact congrArg (fun z => some (HO.tup z)) (cut1 true l)), ll⟩, gn.2.2.2.2, hm, sp, dy, by omega, by_, fun z H' e r => kk z H' ((n0.trans n1).trans e) r⟩
            | false =>
              refine iteF ⟨_, rfl, 1, rfl, ca, _, rfl, Same.sqt n0 hsa, cut1_ne false l, fun q1 hq1 => ?_⟩
              have n1 := Same.new (o := .tup (cutV ((false :: l).map V.bl) (some ((1 : Nat) : Int)) none)) hq1
              exact hN _ _ ⟨l, .ref q1, rfl, n0.trans n1, ⟨q1, rfl, SqT.of (by rw [upd_same]; exact congrArg (fun z => some (HO.tup z)) (cut1 false l)), ll⟩, fun z H' e r => kk z H' ((n0.trans n1).trans e) r⟩
        · rw [if_neg (fun z => w2 z.2)] at kk
          refine ⟨_, rfl, _, rfl, _, _, rfl, rfl, _, rfl, ?_⟩
          rw [decide_eq_true w1]
          refine iteT ⟨_, rfl, _, _, rfl, rfl, _, rfl, ?_⟩
          rw [decide_eq_false w2]
          exact iteF (hN _ _ ⟨ans, av, rfl, Same.refl _, ha, kk⟩)
      · rw [if_neg (fun z => w1 z.1)] at kk
        refine ⟨_, rfl, _, rfl, _, _, rfl, rfl, _, rfl, ?_⟩
        rw [decide_eq_false w1]
        refine iteF ⟨_, rfl, ?_⟩
        exact iteF (hN _ _ ⟨ans, av, rfl, Same.refl _, ha, kk⟩)
    · rintro σ' H0 ⟨l, lv, rfl, e0, hl, kk⟩
      refine ⟨_, rfl, _, rfl, _, rfl, _, rfl, u, d, pv_, lv, x, p, l, m, rfl, trivial, h1.mono e0, hp.mono e0, hl, gn.2.2.2.1, hm, sp, dx, by omega, bx, fun z1 H1 e1 r1 => ?_⟩
      unfold mayEnd at kk
      cases ew : (tree x d p).walk l with
      | ask o2 nm2 =>
        rw [ew] at r1 kk
        obtain ⟨c1, rfl, hc1⟩ := r1
        refine ⟨_, rfl, c1, _, _, _, rfl, rfl, hc1, rfl, rfl, _, rfl, ?_⟩
        rw [show decide (V.str "ask" = V.str "ask") = true from rfl]
        refine iteT (iteT ⟨_, rfl, ?_⟩)
        exact kk _ _ e1 ⟨c1, rfl, hc1⟩
      | fin v r l' =>
        rw [ew] at r1 kk
        obtain ⟨c1, u1, u2', u3', rfl, hc1, hx, hr1, hl1⟩ := r1
        have kk2 : ∀ z H', Same H0 H' → ResAt K H' (if st ≤ d then .fin v r l' else .fin v (.may nm o b st r y) l') z → Q z H' := kk
        refine ⟨_, rfl, c1, _, _, _, rfl, rfl, hc1, rfl, rfl, _, rfl, ?_⟩
        rw [show decide (V.str "end" = V.str "ask") = false by decide +kernel]
        refine iteF ⟨_, rfl, _, rfl, _, _, rfl, rfl, _, rfl, ?_⟩
        by_cases w3 : st ≤ d
        · rw [decide_eq_true w3]
          refine iteT ⟨_, rfl, ?_⟩
          rw [if_pos w3] at kk2
          exact kk2 _ _ e1 ⟨c1, u1, u2', u3', rfl, hc1, hx, hr1, hl1⟩
        · rw [decide_eq_false w3]
          rw [if_neg w3] at kk2
          refine iteF ?_
          refine ⟨_, rfl, c1, _, _, _, rfl, rfl, hc1, rfl, _, rfl, _, rfl, _, rfl, _, rfl, _, rfl, _, rfl, c1, _, _, _, rfl, rfl, hc1, rfl, _, rfl, (by show 7 ≤ sizeLine; decide), fun q1 hq1 => ?_⟩
          have n1 := Same.new (o := .tup [.str "may", .str nm, .str (owS o), .int b, .int st, u2', u2]) hq1
          refine ⟨_, rfl, c1, _, _, _, rfl, rfl, Same.sqt n1 hc1, rfl, (by show 4 ≤ sizeLine; decide), fun q hq => ?_⟩
          exact kk2 _ _ ((e1.trans n1).trans (Same.new hq)) (fin_new hq (hx.mono n1) ⟨q1, u2', u2, rfl, SqT.of upd_same, hr1.mono n1, ((h2.mono e0).mono e1).mono n1⟩ (hl1.mono n1))
theorem ok_of_seen (T : TX w K mg) (k : Nat) : Fn w K mg base 4 (He.ga K "of_seen") (spL K k fun n => ∃ pk d st past, n = .seen pk d st past) := by
  refine fn_of_seen T spL_len (fun cdv A outer s H vs Q E hr h => ?_)
  · obtain ⟨nv, d, pv_, av, n, p, ans, m, rfl, ⟨pk, day, st, past, rfl⟩, ⟨c, u, u2, rfl, hs, h1, h2⟩, hp, ha, gn, hm, sp, hd, hk, hb, kk⟩ := h
    have hu := hr.units
    refine ⟨_, pss_cons (ps_asg (pv 0) (pg_tup rfl (pgs_cons (pg_name (i := 4) sc_of_seen.nd rfl (.inl rfl)) (pgs_cons (pg_name (i := 5) sc_of_seen.nd rfl (.inl rfl)) (pgs_cons (pg_name (i := 6) sc_of_seen.nd rfl (.inl rfl)) (pgs_cons (pg_name (i := 7) sc_of_seen.nd rfl (.inl rfl)) (pgs_cons (pg_name (i := 8) sc_of_seen.nd rfl (.inl rfl)) pgs_nil)))))))
      (pss_cons (ps_if (pt_cmpR op_gt (pv 1) (pv 6) (nomark _)) (pss_one (ps_ret (pe_tup (pa_cons pe_str (pa_cons (pe_gref rfl (g_NOUGHT T)) (pa_cons (pe_gref rfl (g_NONE T)) (pa_cons (pv 3) pa_nil))))))) pss_nil)
      (pss_cons (ps_if (pt_cmpR op_isN (pv 8) pe_non (nomark _)) (pss_one (ps_set (i := 9) sc_of_seen.nd rfl (.inl rfl) (pv 2)))
        (pss_one (ps_set (i := 9) sc_of_seen.nd rfl (.inl rfl) (pe_ifExp (pt_cmpR op_eq (pv 5) pe_str (nomark _)) (pe_callF (ok_better T) rfl hr rfl (g_better T) (pa_cons (pv 8) (pa_cons (pv 2) pa_nil))) (pe_callF (ok_plus T) rfl hr rfl (g_plus T) (pa_cons (pv 8) (pa_cons (pv 2) pa_nil)))))))
      (pss_cons (ps_if (pt_cmpR op_lt (pv 1) (pv 6) (nomark _)) (pss_one (ps_ret (pe_tup (pa_cons pe_str (pa_cons (pe_gref rfl (g_NOUGHT T)) (pa_cons (pe_tup (pa_cons (pv 4) (pa_cons (pv 5) (pa_cons (pv 6) (pa_cons (pv 7) (pa_cons (pv 9) pa_nil)))))) (pa_cons (pv 3) pa_nil))))))) pss_nil)
      (pss_one (ps_ret (pe_tup (pa_cons pe_str (pa_cons (pe_callF (ok_better T) rfl hr rfl (g_better T) (pa_cons (pe_gref rfl (g_NOUGHT T)) (pa_cons (pe_callF (ok_minus T) rfl hr rfl (g_minus T) (pa_cons (pv 9) (pa_cons (pv 7) pa_nil))) pa_nil))) (pa_cons (pe_gref rfl (g_NONE T)) (pa_cons (pv 3) pa_nil)))))))))), ?_⟩
    rw [walk_seen] at kk
    refine ⟨_, rfl, c, _, rfl, hs, rfl, _, _, rfl, _, _, rfl, _, _, rfl, _, _, rfl, _, _, rfl, rfl, ?_⟩
    refine ⟨_, rfl, _, rfl, _, _, rfl, rfl, _, rfl, ite2 (fun hc => ?_) (fun hc => ?_)⟩
    · rw [if_pos (of_decide_eq_true hc)] at kk
      refine ⟨_, rfl, (by show 4 ≤ sizeLine; decide), fun q hq => ?_⟩
      exact kk _ _ (Same.new hq) (fin_new hq (nought_at T H) (none_n T H) ha)
    · rw [if_neg (fun z => hc (decide_eq_true z))] at kk
      have pb : ∀ q, past = some q → Sz 35 q := fun q e => (gn.2.2 q e).mono (by omega)
      have sa : Sz 44 (afterOf pk past p) := by
        cases past with
        | none => exact sp.mono (by decide)
        | some b =>
          have hb' := pb b rfl
          unfold afterOf
          cases pk with
          | true => exact (better_sz hb' sp).mono (by decide)
          | false => exact (hb'.plus sp).mono (by decide)
      refine nx_mk ?_
      refine seq_join (fun σ' H1 => ∃ (v : V), σ' = [some (.ref c), some (.int d), some pv_, some av, some (.str "seen"), some (.str (wdS pk)), some (.int day), some u, some u2, some v] ∧ Same H H1 ∧ Amt K H1 v (afterOf pk past p)) (fun N hN => ?_) ?_
      · cases past with
        | none =>
          cases (show u2 = .non from h2)
          refine ⟨_, rfl, rfl, _, rfl, iteT ?_⟩
          exact ⟨_, rfl, hN _ _ ⟨pv_, rfl, Same.refl _, hp⟩⟩
        | some b =>
          have hb2 : Amt K H u2 b := h2
          obtain ⟨cb, rfl, hcb⟩ := id hb2
          refine ⟨_, rfl, rfl, _, rfl, iteF ?_⟩
          refine ⟨_, rfl, rfl, _, rfl, ?_⟩
          rw [wd_peak]
          refine if_join (fun v H' => Same H H' ∧ Amt K H' v (afterOf pk (some b) p)) (fun eb Q' q => ?_) (fun eb Q' q => ?_) (fun v H' ⟨e, hv⟩ => hN _ _ ⟨v, rfl, e, hv⟩)
          · refine ⟨_, rfl, _, rfl, _, pv_, b, p, rfl, hb2, hp, (pb b rfl).mono (by decide), sp.mono (by decide), fun z r => q _ _ ⟨Same.refl _, ?_⟩⟩
            rw [eb]
            exact r
          · refine ⟨_, rfl, _, rfl, _, pv_, b, p, 35, 8, rfl, hb2, hp, pb b rfl, sp, by decide, fun z H' e r => q _ _ ⟨e, ?_⟩⟩
            rw [eb]
            exact r
      · rintro σ' H1 ⟨v, rfl, e1, hv⟩
        refine ⟨_, rfl, _, rfl, _, _, rfl, rfl, _, rfl, ite2 (fun hc2 => ?_) (fun hc2 => ?_)⟩
        · rw [if_pos (of_decide_eq_true hc2)] at kk
          refine ⟨_, rfl, _, rfl, _, rfl, _, rfl, _, rfl, (by show 5 ≤ sizeLine; decide), fun q1 hq1 => ?_⟩
          have n1 := Same.new (o := .tup [.str "seen", .str (wdS pk), .int day, u, v]) hq1
          refine ⟨_, rfl, (by show 4 ≤ sizeLine; decide), fun q hq => ?_⟩
          exact kk _ _ ((e1.trans n1).trans (Same.new hq)) (fin_new hq (nought_at T _) ⟨q1, u, v, rfl, SqT.of upd_same, (h1.mono e1).mono n1, hv.mono n1⟩ ((ha.mono e1).mono n1))
        · rw [if_neg (fun z => hc2 (decide_eq_true z))] at kk
          refine ⟨_, rfl, _, rfl, v, u, _, st, 44, 8, rfl, hv, h1.mono e1, sa, gn.2.1, by decide, fun z2 H2 e2 r2 => ?_⟩
          refine ⟨_, z2, 0, _, rfl, nought_at T H2, r2, sz_zero _ (by decide), (sa.minus gn.2.1).mono (by decide), fun z3 r3 => ?_⟩
          refine ⟨_, rfl, (by show 4 ≤ sizeLine; decide), fun q hq => ?_⟩
          exact kk _ _ ((e1.trans e2).trans (Same.new hq)) (fin_new hq r3 (none_n T H2) ((ha.mono e1).mono e2))
end
end SL
namespace SL
open PySem PySem.Spec PyProof.Rows L2
/-! ### methods, keywords, new instances, by promises of positional values -/
section
variable {w : World} {K : PySem.W.Frag} {mg : Str → Option Value} {base : Heap} {j k n : Nat} {f : Addr} {sp sp' : Sp} {x qual : Str} {st : Stmt} {fd : FuncData} {N ps ks : List Str} {dvs : List V} {kws : List (Str × V)}
/-- a def's promise by its body, whatever its defaults are -/
theorem fnOk (F : FunD K x qual (defArgs st) (defBody st) (defScope st) dvs kws f fd) (S : FnScope N ps (defScope st)) (len : ∀ vs H Q E, sp vs H Q E → vs.length = ps.length)
    (hbody : ∀ (cdv : Value) (A : Around) (outer : List Env) (s : Shared) (H : Hp) (vs : List V) (Q : VK) (E : XK), Room k (A.deeper (envOfC qual (defScope st) s.heap.objs.size f cdv)) → sp vs H Q E →
      ∃ t, PSs (cxOf CX0 PG w K mg base N qual (defScope st) f cdv A outer s H E).nox (defBody st) t ∧ t { nx := fun _ H' => Q .non H', rt := Q } (start N vs) H) : FnOk PG w K mg base CX0 (k + 1) f fd ps sp :=
  F.ok S len fun cdv A outer s H vs Q E hr h => by
    obtain ⟨t, a, b⟩ := hbody cdv A outer s H vs Q E hr h
    exact ⟨t, a.nox, b⟩
/-- by n positional values and the keywords ks -/
def FnK (w : World) (K : PySem.W.Frag) (mg : Str → Option Value) (base : Heap) (k : Nat) (f : Addr) (n : Nat) (ks : List Str) (sp : Sp) : Prop :=
  (∀ (A : Around) (outer : List Env) (s : Shared) (H : Hp) (us ws : List Value) (vs zs : List V) (Q : VK) (E : XK), Room k A → Env0 PG w K mg base A outer s H → Vals vs us → Vals zs ws → vs.length = n → zs.length = ks.length → sp (vs ++ zs) H Q E →
    codeAny (model PG w) A (.call (.ref f) ⟨us, ks.zip ws⟩) (CR CX0 outer PG w H s Q E) s) ∧ PySem.W.keepIn K (.ref f) = true
theorem FnK.mono (F : FnK w K mg base j f n ks sp) (h : j ≤ k) : FnK w K mg base k f n ks sp := ⟨fun A outer s H us ws vs zs Q E hr => F.1 A outer s H us ws vs zs Q E (hr.mono h), F.2⟩
theorem FnK.imp (F : FnK w K mg base k f n ks sp) (h : ∀ vs H Q E, sp' vs H Q E → sp vs H Q E) : FnK w K mg base k f n ks sp' := ⟨fun A outer s H us ws vs zs Q E hr e0 r rz l1 l2 q => F.1 A outer s H us ws vs zs Q E hr e0 r rz l1 l2 (h _ _ _ _ q), F.2⟩
theorem fnK (G : FnOk PG w K mg base CX0 k f fd ps sp) (kp : PySem.W.keepIn K (.ref f) = true) (hb : ∀ (s : Shared) (us ws : List Value), K.In s.heap → us.length = n → ws.length = ks.length → BindsTo s fd ⟨us, ks.zip ws⟩ (ps.zip (us ++ ws))) : FnK w K mg base k f n ks sp :=
  ⟨fun A outer s H us ws vs zs Q E hr e0 r rz l1 l2 q => G.run A outer s H ⟨us, ks.zip ws⟩ (us ++ ws) (vs ++ zs) Q E hr e0 (hb s us ws (e0.mod.kin.keeps fun b o e => (e0.bs b o e).1) (r.length.symm.trans l1) (rz.length.symm.trans l2)) (r.append rz) q, kp⟩
/-- no positional defaults: all parameters are given -/
theorem bindsK (F : FunD K x qual (defArgs st) (defBody st) (defScope st) [] kws f fd)
    (h : ∀ (kV doc pm : Value) (an : Option Addr) (cdv ct : Value) (us ws : List Value), us.length = n → ws.length = ks.length → bindArgs (PySem.W.fnOf x qual (defArgs st) (defBody st) (defScope st) .none kV doc pm an cdv ct) ⟨us, ks.zip ws⟩ = pure (ps.zip (us ++ ws))) :
    ∀ (s : Shared) (us ws : List Value), K.In s.heap → us.length = n → ws.length = ks.length → BindsTo s fd ⟨us, ks.zip ws⟩ (ps.zip (us ++ ws)) := by
  obtain ⟨oc, od, dV, kV, doc, pm, an, cdv, ct, osl, rfl, lk, hcd, hD, hK⟩ := F.ex
  rcases hD with ⟨_, rfl⟩ | ⟨e, _⟩
  · exact fun s us ws _ l1 l2 => .of_eq (h kV doc pm an cdv ct us ws l1 l2)
  · exact absurd rfl e
/-- by positional values, defaults behind them -/
theorem fnD {ds : List Value} {dv : List V} (G : FnOk PG w K mg base CX0 k f fd ps sp) (kp : PySem.W.keepIn K (.ref f) = true) (hb : Binds K fd ps ds) (hd : Vals dv ds) : Fn w K mg base k f (fun vs H Q E => sp (vs ++ dv) H Q E) := ⟨G.raw hb hd, kp⟩
end
/-! ### the calls -/
def tCallFK (sp : Sp) (n m : Nat) (t tk : TA) : TE := fun σ H Q => t σ H fun vs H1 => tk σ H1 fun zs H2 => vs.length = n ∧ zs.length = m ∧ sp (vs ++ zs) H2 Q E0
/-- o.m(..), o an instance of the class at C -/
def tMethF (C : Addr) (m : Str) (sp : Sp) (ta : TE) (t : TA) : TE := fun σ H Q => ta σ H fun x H1 => ∃ a dx fs, x = .ref a ∧ H1 a = some (.ins C dx fs) ∧ fs.lookup m = none ∧ t σ H1 fun vs H2 => sp (x :: vs) H2 Q E0
def tMethFK (C : Addr) (m : Str) (sp : Sp) (n l : Nat) (ta : TE) (t tk : TA) : TE := fun σ H Q => ta σ H fun x H1 => ∃ a dx fs, x = .ref a ∧ H1 a = some (.ins C dx fs) ∧ fs.lookup m = none ∧
  t σ H1 fun vs H2 => tk σ H2 fun zs H3 => vs.length + 1 = n ∧ zs.length = l ∧ sp (x :: vs ++ zs) H3 Q E0
def tMakeF (C : Addr) (sp : Sp) (t : TA) : TE := fun σ H Q => t σ H fun vs H1 => ∀ x dx, H1 x = none → H1 dx = none → dx ≠ x →
  sp (.ref x :: vs) (upd (upd H1 dx (.own x)) x (.ins C dx [])) (fun v H2 => v = .non ∧ Q (.ref x) H2) E0
section
variable {X : Cx} {j k n : Nat} {f C : Addr} {sp : Sp} {x m : Str} {p pos apos : Pos} {e o : Expr} {es : List Expr} {kws : List Keyword} {ta : TE} {t tk : TA} {ks : List Str}
theorem run_FK {pins : List (Addr × Obj)} {σ : L2.St} {H : Hp} {s : Shared} {Q : VK} {us ws : List Value} {vs zs : List V} (F : FnK X.w X.K X.mg X.base k f n ks sp) (hp : X.prog = PG) (hr : Room k X.A) (I : Inv X pins σ H s) (r : Vals vs us) (rz : Vals zs ws) (l1 : vs.length = n) (l2 : zs.length = ks.length) (h : sp (vs ++ zs) H Q E0) :
    wpAny (model X.prog X.w) X.A (call (.ref f) us (ks.zip ws)) (EP X pins σ Q) X.xe s := by
  have e0 := I.env0
  rw [hp] at e0 ⊢
  refine wpAny_call (codeAny_mono (F.1 X.A X.stack s H us ws vs zs Q E0 hr e0 r rz l1 l2 h) fun r s' hq => ?_)
  rw [← hp] at hq
  cases r with
  | error e => exact hq.elim
  | ok fl =>
    cases fl with
    | ret u => exact I.after hq
    | next => exact False.elim hq
    | brk => exact False.elim hq
    | cont => exact False.elim hq
theorem pe_callFK (F : FnK X.w X.K X.mg X.base k f n ks sp) (hp : X.prog = PG) (hr : Room j X.A) (hg : Gl X x) (hm : X.mg x = some (.ref f)) (ha : PA X (e :: es) t) (hkw : PK X kws tk) (hj : k ≤ j := by first | decide | omega)
    (hall : (backToKw pos (keywordEach kws X.env)).all (·.1.isSome) = true := by rfl) (hks : (backToKw pos (keywordEach kws X.env)).filterMap (·.1) = ks := by rfl)
    (hdb : (x == ("__debug__" : Str)) = false := by decide) (he : starEach (e :: es) X.env = (false, eval e X.env) :: starEach es X.env := by rfl)
    (hpl : ((backTo pos (starEach (e :: es) X.env)).any (·.1) || (backToKw pos (keywordEach kws X.env)).any (·.1.isNone)) = false := by rfl) :
    PE X (.Call (.Name x p) (e :: es) kws pos) (tCallFK sp n ks.length t tk) := by
  refine ⟨fun pins s σ H Q I h => ?_⟩
  refine wpAny_Call_Name_kw (ld_glob I hg hm ?_ hdb)
  refine PySem.W.callWith_KW (h₀ := X.base) I.ok.mod.kin F.2 hall (thn (ha.run pos pins s σ H _ I h) fun us s1 ⟨vs, H1, I1, r, q⟩ => ?_) hpl he
  refine thn (hkw.run pos pins s1 σ H1 _ I1 q) fun ws s2 ⟨zs, H2, I2, rz, l1, l2, q2⟩ => ⟨I2.kIn, ?_⟩
  rw [hks]
  exact run_FK F hp (hr.mono hj) I2 r rz l1 l2 q2
theorem pe_methF {pl : Sem Bool} (he : PE X o ta) (c : Cls X.K C) (hm : Meth X.K C m f) (F : Fn X.w X.K X.mg X.base k f sp) (hp : X.prog = PG) (hr : Room j X.A) (ha : PA X (e :: es) t) (hj : k ≤ j := by first | decide | omega)
    (hst : starEach (e :: es) X.env = (false, eval e X.env) :: starEach es X.env := by rfl) (hpl : (backTo pos (starEach es X.env)).any (·.1) = false := by rfl)
    (ht : eval (.Call (.Attribute o m apos) (e :: es) [] pos) X.env = (do
      let ov ← eval o X.env
      standAt apos.atName
      let (f, first) ← holding [ov] (getMethod ov m pl)
      callWith pos f first (backTo pos (starEach (e :: es) X.env)) (backToKw pos (keywordEach [] X.env))) := by rfl) :
    PE X (.Call (.Attribute o m apos) (e :: es) [] pos) (tMethF C m sp ta t) := by
  refine ⟨fun pins s σ H Q I h => ?_⟩
  refine PySem.W.methodCall_KW (pl := pl) (thn (he.run pins s σ H _ I h) fun u s1 ⟨x, H1, I1, rx, a, dx, fs, ex, ea, l, q⟩ => ?_) ht
  subst ex
  obtain rfl : u = Value.ref a := rx
  refine getmeth_ok I1 ea c hm l ?_
  refine PySem.W.callWith_K (first := [.ref a]) (h₀ := X.base) I.ok.mod.kin hm.kp (thn (ha.run pos pins s1 σ H1 _ I1 q) fun us s2 ⟨vs, H2, I2, r, q2⟩ => ⟨I2.kIn, ?_⟩) hst hpl
  exact run_F (us := .ref a :: us) (vs := .ref a :: vs) (by rw [hp]; exact F.1) (hr.mono hj) I2 (.cons rfl r) q2
theorem pe_methF0 {pl : Sem Bool} (he : PE X o ta) (c : Cls X.K C) (hm : Meth X.K C m f) (F : Fn X.w X.K X.mg X.base k f sp) (hp : X.prog = PG) (hr : Room j X.A) (hj : k ≤ j := by first | decide | omega)
    (ht : eval (.Call (.Attribute o m apos) [] [] pos) X.env = (do
      let ov ← eval o X.env
      standAt apos.atName
      let (f, first) ← holding [ov] (getMethod ov m pl)
      callWith pos f first (backTo pos (starEach [] X.env)) (backToKw pos (keywordEach [] X.env))) := by rfl) :
    PE X (.Call (.Attribute o m apos) [] [] pos) (tMethF C m sp ta tNil) := by
  refine ⟨fun pins s σ H Q I h => ?_⟩
  refine PySem.W.methodCall_KW (pl := pl) (thn (he.run pins s σ H _ I h) fun u s1 ⟨x, H1, I1, rx, a, dx, fs, ex, ea, l, q⟩ => ?_) ht
  subst ex
  obtain rfl : u = Value.ref a := rx
  refine getmeth_ok I1 ea c hm l ?_
  exact PySem.W.callWith_K0 (first := [.ref a]) I1.kIn hm.kp (run_F (us := [.ref a]) (vs := [.ref a]) (by rw [hp]; exact F.1) (hr.mono hj) I1 (.cons rfl .nil) q)
theorem pe_methFK {pl : Sem Bool} (he : PE X o ta) (c : Cls X.K C) (hm : Meth X.K C m f) (F : FnK X.w X.K X.mg X.base k f n ks sp) (hp : X.prog = PG) (hr : Room j X.A) (ha : PA X (e :: es) t) (hkw : PK X kws tk) (hj : k ≤ j := by first | decide | omega)
    (hall : (backToKw pos (keywordEach kws X.env)).all (·.1.isSome) = true := by rfl) (hks : (backToKw pos (keywordEach kws X.env)).filterMap (·.1) = ks := by rfl)
    (hst : starEach (e :: es) X.env = (false, eval e X.env) :: starEach es X.env := by rfl)
    (hpl : ((backTo pos (starEach (e :: es) X.env)).any (·.1) || (backToKw pos (keywordEach kws X.env)).any (·.1.isNone)) = false := by rfl)
    (ht : eval (.Call (.Attribute o m apos) (e :: es) kws pos) X.env = (do
      let ov ← eval o X.env
      standAt apos.atName
      let (f, first) ← holding [ov] (getMethod ov m pl)
      callWith pos f first (backTo pos (starEach (e :: es) X.env)) (backToKw pos (keywordEach kws X.env))) := by rfl) :
    PE X (.Call (.Attribute o m apos) (e :: es) kws pos) (tMethFK C m sp n ks.length ta t tk) := by
  refine ⟨fun pins s σ H Q I h => ?_⟩
  refine PySem.W.methodCall_KW (pl := pl) (thn (he.run pins s σ H _ I h) fun u s1 ⟨x, H1, I1, rx, a, dx, fs, ex, ea, l, q⟩ => ?_) ht
  subst ex
  obtain rfl : u = Value.ref a := rx
  refine getmeth_ok I1 ea c hm l ?_
  refine PySem.W.callWith_KW (first := [.ref a]) (h₀ := X.base) I.ok.mod.kin hm.kp hall (thn (ha.run pos pins s1 σ H1 _ I1 q) fun us s2 ⟨vs, H2, I2, r, q2⟩ => ?_) hpl hst
  refine thn (hkw.run pos pins s2 σ H2 _ I2 q2) fun ws s3 ⟨zs, H3, I3, rz, l1, l2, q3⟩ => ⟨I3.kIn, ?_⟩
  rw [hks]
  exact run_FK (us := .ref a :: us) (vs := .ref a :: vs) F hp (hr.mono hj) I3 (.cons rfl r) rz l1 l2 q3
theorem run_makeF {pins : List (Addr × Obj)} {σ : L2.St} {H : Hp} {s : Shared} {Q : VK} {us : List Value} {vs : List V} (M : Mk X.K C f) (F : FnR X.prog X.w X.K X.mg X.base CX0 k f sp) (hr : Room (k + 1) X.A)
    (I : Inv X pins σ H s) (r : Vals vs us)
    (h : ∀ x dx, H x = none → H dx = none → dx ≠ x → sp (.ref x :: vs) (upd (upd H dx (.own x)) x (.ins C dx [])) (fun v H2 => v = .non ∧ Q (.ref x) H2) E0) :
    wpAny (model X.prog X.w) X.A (call (.ref C) us) (EP X pins σ Q) X.xe s := by
  have hq := h (s.heap.objs.size + 1) s.heap.objs.size (I.hok.fresh (Nat.le_succ _)) (I.hok.fresh (Nat.le_refl _)) (Nat.ne_of_lt (Nat.lt_succ_self _))
  have I2 := Inv.made (C := C) I
  have r2 : Vals (V.ref (s.heap.objs.size + 1) :: vs) (Value.ref (s.heap.objs.size + 1) :: us) := .cons rfl r
  refine wpAny_call (make_map (f := f) I.kIn M.makes M.init (beq_iff_eq.mp M.fn) (codeAny_mono (F _ X.stack _ _ (Value.ref (s.heap.objs.size + 1) :: us) _ _ E0 (hr.make C us []) (I2.env0.make C us []) r2 hq) fun r s' hq' => ?_))
  cases r with
  | error e => exact hq'.elim
  | ok fl =>
    cases fl with
    | ret u =>
      obtain ⟨v, H', I3, rv, ev, q3⟩ := I2.after hq'
      subst ev
      exact ⟨rv, ⟨V.ref (s.heap.objs.size + 1), H', I3, rfl, q3⟩⟩
    | next => exact False.elim hq'
    | brk => exact False.elim hq'
    | cont => exact False.elim hq'
theorem pe_makeF (M : Mk X.K C f) (F : Fn X.w X.K X.mg X.base k f sp) (hp : X.prog = PG) (hr : Room j X.A) (hg : Gl X x) (hm : X.mg x = some (.ref C)) (ha : PA X (e :: es) t) (hj : k + 1 ≤ j := by first | decide | omega)
    (hdb : (x == ("__debug__" : Str)) = false := by decide) (he : starEach (e :: es) X.env = (false, eval e X.env) :: starEach es X.env := by rfl) (hpl : (backTo pos (starEach es X.env)).any (·.1) = false := by rfl) :
    PE X (.Call (.Name x p) (e :: es) [] pos) (tMakeF C sp t) := by
  refine ⟨fun pins s σ H Q I h => ?_⟩
  refine wpAny_Call_Name_kw (ld_glob I hg hm ?_ hdb)
  refine PySem.W.callWith_K (h₀ := X.base) I.ok.mod.kin M.kp (thn (ha.run pos pins s σ H _ I h) fun us s1 ⟨vs, H1, I1, r, q⟩ => ⟨I1.kIn, ?_⟩) he hpl
  exact run_makeF M (by rw [hp]; exact F.1) (hr.mono hj) I1 r q
end
section
variable {w : World} {K : PySem.W.Frag} {mg : Str → Option Value} {base : Heap}
/-! ### lived, turned -/
theorem ok_lived (T : TX w K mg) (k : Nat) : Fn w K mg base (2 * k + 8) (He.ga K "lived") (spL K k fun _ => True) := by
  induction k with
  | zero =>
    refine fn_lived (k := 7) T spL_len (fun cdv A outer s H vs Q E hr h => ?_)
    obtain ⟨nv, d, pv_, av, n, p, ans, m, rfl, _, hn, hp, ha, gn, hm, sp, hd, hk, hb, kk⟩ := h
    have := ndep_pos n
    omega
  | succ k G =>
    refine fn_lived (k := 2 * k + 9) T spL_len (fun cdv A outer s H vs Q E hr h => ?_)
    obtain ⟨nv, d, pv_, av, n, p, ans, m, rfl, _, hn, hp, ha, gn, hm, sp, hd, hk, hb, kk⟩ := h
    refine ⟨_, pss_cons (ps_set (i := 4) sc_lived.nd rfl (.inl rfl) (pe_ix ix_kdict (pe_gref rfl (g_WAYS T)) (pe_ix ix_tup (pv 0) pe_int (fun _ _ => rfl)) (fun _ _ => rfl)))
      (pss_one (ps_ret (pe_callV (i := 4) rfl hr rfl (.inl rfl) (pa_cons (pv 0) (pa_cons (pv 1) (pa_cons (pv 2) (pa_cons (pv 3) pa_nil))))))), ?_⟩
    refine via (∃ (a : Addr) (xs : List V) (hd0 : Str) (j : Nat) (nm : Str) (S : Note → Prop), nv = .ref a ∧ SqT K H a (.str hd0 :: xs) ∧ t_WAYS[j]? = some (hd0, .glo nm) ∧ Fn w K mg base (2 * k + 9) (He.ga K nm) (spL K (k + 1) S) ∧ S n) ?_ (fun fin => ?_)
    · rintro ⟨a, xs, hd0, j, nm, S, rfl, hs, hj, F, hS⟩
      refine ⟨_, rfl, a, _, _, _, rfl, rfl, hs, atI_nat (j := 0) rfl, He.ga K "WAYS", hd0, _, rfl, rfl, kd_WAYS T j hj, ?_⟩
      exact ⟨_, _, rfl, F, _, rfl, _, rfl, _, rfl, _, rfl, _, d, pv_, av, n, p, ans, m, rfl, hS, hn, hp, ha, gn, hm, sp, hd, hk, hb, kk⟩
    · cases n with
      | none =>
        obtain ⟨a, rfl, h⟩ := id hn
        exact fin ⟨a, _, "none", 0, "of_none", _, rfl, h, rfl, (ok_of_none T (k + 1)).mono (by omega), rfl⟩
      | pay d v =>
        obtain ⟨a, u, rfl, h, _⟩ := id hn
        exact fin ⟨a, _, "pay", 1, "of_pay", _, rfl, h, rfl, (ok_of_pay T (k + 1)).mono (by omega), ⟨_, _, rfl⟩⟩
      | now v =>
        obtain ⟨a, u, rfl, h, _⟩ := id hn
        exact fin ⟨a, _, "now", 2, "of_now", _, rfl, h, rfl, (ok_of_now T (k + 1)).mono (by omega), ⟨_, rfl⟩⟩
      | both x y =>
        obtain ⟨a, u, u2, rfl, h, _⟩ := id hn
        exact fin ⟨a, _, "both", 3, "of_both", _, rfl, h, rfl, ok_of_both T G, ⟨_, _, rfl⟩⟩
      | times q x =>
        obtain ⟨a, u, u2, rfl, h, _⟩ := id hn
        exact fin ⟨a, _, "times", 4, "of_times", _, rfl, h, rfl, ok_of_times T G, ⟨_, _, rfl⟩⟩
      | turn x =>
        obtain ⟨a, u, rfl, h, _⟩ := id hn
        exact fin ⟨a, _, "turn", 5, "of_turn", _, rfl, h, rfl, ok_of_turn T G, ⟨_, rfl⟩⟩
      | till up l x y =>
        obtain ⟨a, u, u2, u3, rfl, h, _⟩ := id hn
        exact fin ⟨a, _, "till", 6, "of_till", _, rfl, h, rfl, ok_of_till T G, ⟨_, _, _, _, rfl⟩⟩
      | may nm o b st x y =>
        obtain ⟨a, u, u2, rfl, h, _⟩ := id hn
        exact fin ⟨a, _, "may", 7, "of_may", _, rfl, h, rfl, ok_of_may T G, ⟨_, _, _, _, _, _, rfl⟩⟩
      | seen pk day st past =>
        obtain ⟨a, u, u2, rfl, h, _⟩ := id hn
        exact fin ⟨a, _, "seen", 8, "of_seen", _, rfl, h, rfl, (ok_of_seen T (k + 1)).mono (by omega), ⟨_, _, _, _, rfl⟩⟩
end
end SL
namespace SL
open PySem PySem.Spec PyProof.Rows L2
/-! ### what leans on tuples alone -/
def TS (H H' : Hp) : Prop := ∀ a xs, Rd H a (.tup xs) → Rd H' a (.tup xs)
section
variable {K : PySem.W.Frag} {H H' H2 : Hp}
theorem ts_same (e : Same H H') : TS H H' := fun a xs h => by
  rcases h with h | ⟨o, h⟩
  · exact .inl (e _ _ h)
  · exact .inr ⟨o, e _ _ h⟩
theorem ts_trans (a : TS H H') (b : TS H' H2) : TS H H2 := fun c xs h => b c xs (a c xs h)
theorem ts_refl (H : Hp) : TS H H := fun _ _ h => h
theorem ts_sqt (e : TS H H') {a : Addr} {xs : List V} (h : SqT K H a xs) : SqT K H' a xs := by
  rcases h with h | h
  · exact .inl (e _ _ h)
  · exact .inr h
/-- an object that is no tuple is written -/
theorem ts_upd {p : Addr} {o : HO} (h : ∀ xs, ¬ Rd H p (.tup xs)) : TS H (upd H p o) := fun a xs q => by
  have ne : a ≠ p := fun z => h xs (z ▸ q)
  rcases q with q | ⟨ob, q⟩
  · exact .inl (by rw [upd_ne ne]; exact q)
  · exact .inr ⟨ob, by rw [upd_ne ne]; exact q⟩
theorem ts_lst {p : Addr} {o : HO} {xs : List V} (h : H p = some (.lst xs)) : TS H (upd H p o) := ts_upd fun ys q => by
  rcases q with q | ⟨ob, q⟩ <;> (rw [h] at q; cases q)
theorem ts_dK {p : Addr} {o : HO} {kvs : List (Key × V)} (h : H p = some (.dK kvs)) : TS H (upd H p o) := ts_upd fun ys q => by
  rcases q with q | ⟨ob, q⟩ <;> (rw [h] at q; cases q)
theorem ts_dT {p : Addr} {o : HO} {kvs : List (List Key × V)} (h : H p = some (.dT kvs)) : TS H (upd H p o) := ts_upd fun ys q => by
  rcases q with q | ⟨ob, q⟩ <;> (rw [h] at q; cases q)
theorem ts_ins {p C dx : Addr} {o : HO} {fs : List (Str × V)} (h : H p = some (.ins C dx fs)) : TS H (upd H p o) := ts_upd fun ys q => by
  rcases q with q | ⟨ob, q⟩ <;> (rw [h] at q; cases q)
theorem Amt.ts {v : V} {q : Rat} (h : Amt K H v q) (e : TS H H') : Amt K H' v q := by
  obtain ⟨a, r, h⟩ := h
  exact ⟨a, r, ts_sqt e h⟩
theorem VAt.ts (e : TS H H') : ∀ {x : Val} {v : V}, VAt K H x v → VAt K H' x v
  | .price, v, ⟨a, r, h⟩ => ⟨a, r, ts_sqt e h⟩
  | .coin q, v, ⟨a, u, r, h, h1⟩ => ⟨a, u, r, ts_sqt e h, h1.ts e⟩
  | .of q x, v, ⟨a, u, u2, r, h, h1, h2⟩ => ⟨a, u, u2, r, ts_sqt e h, h1.ts e, VAt.ts e h2⟩
  | .plus x y, v, ⟨a, u, u2, r, h, h1, h2⟩ => ⟨a, u, u2, r, ts_sqt e h, VAt.ts e h1, VAt.ts e h2⟩
  | .minus x y, v, ⟨a, u, u2, r, h, h1, h2⟩ => ⟨a, u, u2, r, ts_sqt e h, VAt.ts e h1, VAt.ts e h2⟩
  | .best x y, v, ⟨a, u, u2, r, h, h1, h2⟩ => ⟨a, u, u2, r, ts_sqt e h, VAt.ts e h1, VAt.ts e h2⟩
  | .least x y, v, ⟨a, u, u2, r, h, h1, h2⟩ => ⟨a, u, u2, r, ts_sqt e h, VAt.ts e h1, VAt.ts e h2⟩
theorem PAt.ts (e : TS H H') : ∀ {x : Option Rat} {v : V}, PAt K H x v → PAt K H' x v
  | none, _, h => h
  | some _, _, h => Amt.ts h e
theorem NAt.ts (e : TS H H') : ∀ {x : Note} {v : V}, NAt K H x v → NAt K H' x v
  | .none, v, ⟨a, r, h⟩ => ⟨a, r, ts_sqt e h⟩
  | .pay d x, v, ⟨a, u, r, h, h1⟩ => ⟨a, u, r, ts_sqt e h, h1.ts e⟩
  | .now x, v, ⟨a, u, r, h, h1⟩ => ⟨a, u, r, ts_sqt e h, h1.ts e⟩
  | .both x y, v, ⟨a, u, u2, r, h, h1, h2⟩ => ⟨a, u, u2, r, ts_sqt e h, NAt.ts e h1, NAt.ts e h2⟩
  | .times q n, v, ⟨a, u, u2, r, h, h1, h2⟩ => ⟨a, u, u2, r, ts_sqt e h, h1.ts e, NAt.ts e h2⟩
  | .turn n, v, ⟨a, u, r, h, h1⟩ => ⟨a, u, r, ts_sqt e h, NAt.ts e h1⟩
  | .till up l m n, v, ⟨a, u, u2, u3, r, h, h1, h2, h3⟩ => ⟨a, u, u2, u3, r, ts_sqt e h, h1.ts e, NAt.ts e h2, NAt.ts e h3⟩
  | .may nm o b s m n, v, ⟨a, u, u2, r, h, h1, h2⟩ => ⟨a, u, u2, r, ts_sqt e h, NAt.ts e h1, NAt.ts e h2⟩
  | .seen pk d st past, v, ⟨a, u, u2, r, h, h1, h2⟩ => ⟨a, u, u2, r, ts_sqt e h, h1.ts e, PAt.ts e h2⟩
theorem AnsAt.ts {ans : List Bool} {v : V} (h : AnsAt K H ans v) (e : TS H H') : AnsAt K H' ans v := by
  obtain ⟨a, r, h, l⟩ := h
  exact ⟨a, r, ts_sqt e h, l⟩
end
/-! ### turned -/
def TurAt (K : PySem.W.Frag) (H : Hp) : Res → V → Prop
  | .ask h nm, z => ∃ a, z = .ref a ∧ SqT K H a [.str "ask", .str (owS h), .str nm]
  | .fin p r _, z => ∃ a u1 u2, z = .ref a ∧ SqT K H a [.str "end", u1, u2] ∧ Amt K H u1 p ∧ NAt K H r u2
def spTurned (K : PySem.W.Frag) : Sp := fun vs H Q _ => ∃ nv d pv av n p ans m, vs = [nv, .int d, pv, av] ∧ NAt K H n nv ∧ Amt K H pv p ∧ AnsAt K H ans av ∧ NGood m n ∧ m ≤ 3 ∧ Sz 8 p ∧ ndep n ≤ 12 ∧ nbits n ≤ 4000 ∧
  ∀ z H', Same H H' → TurAt K H' ((tree n d p).walk ans) z → Q z H'
section
variable {w : World} {K : PySem.W.Frag} {mg : Str → Option Value} {base : Heap}
theorem ok_turned (T : TX w K mg) : FnK w K mg base 33 (He.ga K "turned") 3 ["answers"] (spTurned K) := by
  obtain ⟨fd, F⟩ := f_turned T
  refine fnK (ps := ["note", "date", "price", "answers"]) (fnOk (k := 32) F sc_turned (fun vs H Q E h => ?_) (fun cdv A outer s H vs Q E hr h => ?_)) F.kp (bindsK F fun kV doc pm an cdv ct us ws l1 l2 => ?_)
  · obtain ⟨_, _, _, _, _, _, _, _, rfl, _⟩ := h
    rfl
  · obtain ⟨nv, d, pv_, av, n, p, ans, m, rfl, hn, hp, ha, gn, hm, sp, hd, hb, kk⟩ := h
    refine ⟨_, pss_cons (ps_set (i := 4) sc_turned.nd rfl (.inl rfl) (pe_callF (ok_lived T 12) rfl hr rfl (g_lived T) (pa_cons (pv 0) (pa_cons (pv 1) (pa_cons (pv 2) (pa_cons (pe_callTy call_tupleT rfl (b_tuple T) (by decide +kernel) (pa_cons (pv 3) pa_nil)) pa_nil))))))
      (pss_one (ps_ret (pe_ifExp (pt_cmpR op_eq (pe_ix ix_tup (pv 4) pe_int (fun _ _ => rfl)) pe_str (nomark _)) (pv 4) (pe_tup (pa_cons pe_str (pa_cons (pe_ix ix_tup (pv 4) pe_int (fun _ _ => rfl)) (pa_cons (pe_ix ix_tup (pv 4) pe_int (fun _ _ => rfl)) pa_nil))))))), ?_⟩
    obtain ⟨ca, rfl, hca, hl⟩ := id ha
    refine ⟨_, rfl, _, rfl, _, rfl, _, rfl, ca, _, rfl, hca, nv, d, pv_, _, n, p, ans, m, rfl, trivial, hn, hp, ha, gn, hm, sp, hd, Nat.le_refl _, hb, fun z1 H1 e1 r1 => ?_⟩
    cases ew : (tree n d p).walk ans with
    | ask o nm =>
      rw [ew] at r1 kk
      obtain ⟨c1, rfl, hc1⟩ := r1
      exact ⟨_, rfl, c1, _, _, _, rfl, rfl, hc1, rfl, rfl, _, rfl, iteSE ⟨_, rfl, kk _ _ e1 ⟨c1, rfl, hc1⟩⟩⟩
    | fin x r l =>
      rw [ew] at r1 kk
      obtain ⟨c1, u1, u2, u3, rfl, hc1, hx, hr1, _⟩ := r1
      refine ⟨_, rfl, c1, _, _, _, rfl, rfl, hc1, rfl, rfl, _, rfl, iteSN ?_⟩
      refine ⟨_, rfl, c1, _, _, _, rfl, rfl, hc1, rfl, _, rfl, c1, _, _, _, rfl, rfl, hc1, rfl, (by show 3 ≤ sizeLine; decide), fun q hq => ?_⟩
      exact kk _ _ (e1.trans (Same.new hq)) ⟨q, u1, u2, rfl, SqT.of upd_same, hx.mono (Same.new hq), hr1.mono (Same.new hq)⟩
  · match us, ws, l1, l2 with
    | [a, b, c], [e], _, _ => rfl
end
/-! ### endings: the leaves, by a stack of answers -/
def Tree.at : Tree → List Bool → Option Tree
  | t, [] => some t
  | .leaf _ _, _ :: _ => none
  | .ask _ _ y m, b :: l => if b then y.at l else m.at l
def Tree.lvsOf : Tree → List Bool → List (List Bool × Rat × Note)
  | .leaf p r, pre => [(pre, p, r)]
  | .ask _ _ y m, pre => y.lvsOf (pre ++ [true]) ++ m.lvsOf (pre ++ [false])
def Tree.nodes : Tree → Nat
  | .leaf _ _ => 1
  | .ask _ _ y m => 1 + y.nodes + m.nodes
def Tree.root : Tree → Res
  | .leaf p r => .fin p r []
  | .ask h n _ _ => .ask h n
theorem at_walk : ∀ {t s : Tree} {l : List Bool}, t.at l = some s → t.walk l = s.root
  | .leaf p r, s, [], e => by
    cases e
    rfl
  | .ask h n y m, s, [], e => by
    cases e
    rfl
  | .leaf p r, s, _ :: _, e => by cases e
  | .ask h n y m, s, true :: l, e => at_walk (t := y) (l := l) e
  | .ask h n y m, s, false :: l, e => at_walk (t := m) (l := l) e
theorem at_nil (t : Tree) : t.at [] = some t := by cases t <;> rfl
theorem at_snoc : ∀ {t : Tree} {l : List Bool} {h : Bool} {n : Str} {y m : Tree} (b : Bool), t.at l = some (.ask h n y m) → t.at (l ++ [b]) = some (if b then y else m)
  | .leaf p r, [], h, n, y, m, b, e => by cases e
  | .leaf p r, _ :: _, h, n, y, m, b, e => by cases e
  | .ask h' n' y' m', [], h, n, y, m, b, e => by
    cases e
    cases b
    · exact at_nil m'
    · exact at_nil y'
  | .ask h' n' y' m', true :: l, h, n, y, m, b, e => at_snoc (t := y') (l := l) b e
  | .ask h' n' y' m', false :: l, h, n, y, m, b, e => at_snoc (t := m') (l := l) b e
theorem at_len : ∀ {t s : Tree} {l : List Bool}, t.at l = some s → l.length + s.dep ≤ t.dep
  | t, s, [], e => by
    have : t = s := by cases t <;> cases e <;> rfl
    simp [this]
  | .leaf p r, s, _ :: _, e => by cases e
  | .ask h n y m, s, true :: l, e => by
    have := at_len (t := y) (l := l) e
    simp only [Tree.dep, List.length_cons]
    omega
  | .ask h n y m, s, false :: l, e => by
    have := at_len (t := m) (l := l) e
    simp only [Tree.dep, List.length_cons]
    omega
theorem lvsOf_len : ∀ (t : Tree) (l : List Bool), (t.lvsOf l).length = t.lvs
  | .leaf p r, l => rfl
  | .ask h n y m, l => by simp only [Tree.lvsOf, List.length_append, lvsOf_len y, lvsOf_len m, Tree.lvs]
theorem lvs_pos (t : Tree) : 1 ≤ t.lvs := by
  have := dep_le_lvs t
  omega
/-- what is still to be told of a stack -/
def pend (t : Tree) (S : List (List Bool)) : List (List Bool × Rat × Note) := S.reverse.flatMap fun l => match t.at l with
  | some s => s.lvsOf l
  | none => []
def pendN (t : Tree) (S : List (List Bool)) : Nat := (S.map fun l => match t.at l with
  | some s => s.nodes
  | none => 0).sum
theorem pend_snoc {t s : Tree} {S : List (List Bool)} {l : List Bool} (e : t.at l = some s) : pend t (S ++ [l]) = s.lvsOf l ++ pend t S := by
  unfold pend
  rw [List.reverse_append, List.flatMap_append]
  simp [e]
theorem pendN_snoc {t s : Tree} {S : List (List Bool)} {l : List Bool} (e : t.at l = some s) : pendN t (S ++ [l]) = pendN t S + s.nodes := by
  unfold pendN
  simp [e]
theorem pend_len {t : Tree} : ∀ {S : List (List Bool)}, (∀ l ∈ S, ∃ s, t.at l = some s) → S.length ≤ (pend t S).length := by
  intro S h
  unfold pend
  have : ∀ S : List (List Bool), (∀ l ∈ S, ∃ s, t.at l = some s) → S.length ≤ (S.flatMap fun l => match t.at l with
    | some s => s.lvsOf l
    | none => []).length := by
    intro S h
    induction S with
    | nil => simp
    | cons l S ih =>
      obtain ⟨s, e⟩ := h l (List.mem_cons_self ..)
      have i := ih fun l hl => h l (List.mem_cons_of_mem _ hl)
      have := lvs_pos s
      simp only [List.flatMap_cons, List.length_append, List.length_cons, e, lvsOf_len]
      omega
  have q := this S.reverse (fun l hl => h l (List.mem_reverse.mp hl))
  simpa using q

theorem pend_nil (t : Tree) : pend t [[]] = t.lvsOf [] := by
  unfold pend
  simp [at_nil]
def EndAt (K : PySem.W.Frag) (H : Hp) (e : List Bool × Rat × Note) (v : V) : Prop := ∃ a u1 u2 u3, v = .ref a ∧ SqT K H a [u1, u2, u3] ∧ AnsAt K H e.1 u1 ∧ Amt K H u2 e.2.1 ∧ NAt K H e.2.2 u3
theorem EndAt.ts {K : PySem.W.Frag} {H H' : Hp} {e : List Bool × Rat × Note} {v : V} (h : EndAt K H e v) (t : TS H H') : EndAt K H' e v := by
  obtain ⟨a, u1, u2, u3, r, h, h1, h2, h3⟩ := h
  exact ⟨a, u1, u2, u3, r, ts_sqt t h, h1.ts t, h2.ts t, h3.ts t⟩
/-- lists that go together -/
inductive All2 {α β : Type} (P : α → β → Prop) : List α → List β → Prop
  | nil : All2 P [] []
  | cons {a : α} {b : β} {l : List α} {m : List β} : P a b → All2 P l m → All2 P (a :: l) (b :: m)
section
variable {α β : Type} {P P' : α → β → Prop}
theorem All2.imp (h : ∀ a b, P a b → P' a b) : ∀ {l : List α} {m : List β}, All2 P l m → All2 P' l m
  | _, _, .nil => .nil
  | _, _, .cons a t => .cons (h _ _ a) (All2.imp h t)
theorem All2.len : ∀ {l : List α} {m : List β}, All2 P l m → l.length = m.length
  | _, _, .nil => rfl
  | _, _, .cons a t => congrArg Nat.succ t.len
theorem All2.app : ∀ {l l' : List α} {m m' : List β}, All2 P l m → All2 P l' m' → All2 P (l ++ l') (m ++ m')
  | _, _, _, _, .nil, h => h
  | _, _, _, _, .cons a t, h => .cons a (t.app h)
theorem All2.get : ∀ {l : List α} {m : List β} {i : Nat} {b : β}, All2 P l m → m[i]? = some b → ∃ a, l[i]? = some a ∧ P a b
  | _, _, 0, _, .cons a t, e => by
    cases e
    exact ⟨_, rfl, a⟩
  | _, _, i + 1, _, .cons a t, e => t.get (i := i) e
theorem All2.getL : ∀ {l : List α} {m : List β} {i : Nat} {a : α}, All2 P l m → l[i]? = some a → ∃ b, m[i]? = some b ∧ P a b
  | _, _, 0, _, .cons a t, e => by
    cases e
    exact ⟨_, rfl, a⟩
  | _, _, i + 1, _, .cons a t, e => t.getL (i := i) e
theorem All2.snoc_inv : ∀ {l : List α} {m : List β} {a : α}, All2 P (l ++ [a]) m → ∃ m' b, m = m' ++ [b] ∧ All2 P l m' ∧ P a b
  | [], _, _, .cons a .nil => ⟨[], _, rfl, .nil, a⟩
  | _ :: l, _, _, .cons a t => by
    obtain ⟨m', b, rfl, h1, h2⟩ := All2.snoc_inv (l := l) t
    exact ⟨_ :: m', b, rfl, .cons a h1, h2⟩
end
theorem ansl_dp {K : PySem.W.Frag} {H : Hp} : ∀ {S : List (List Bool)} {ts : List V}, All2 (fun l v => AnsAt K H l v) S ts → DpAll K H ts (S.map fun l => .tuple (l.map PyData.bool))
  | _, _, .nil => .nil
  | _, _, .cons ⟨a, e, h, _⟩ t => e ▸ .cons (.tup h (bl_dp _)) (ansl_dp t)
theorem ansl_lay : ∀ S : List (List Bool), PyData.canLayAll0 (S.map fun l => .tuple (l.map PyData.bool)) = true
  | [] => rfl
  | l :: S => by simp [PyData.canLayAll0, PyData.canLay0, bl_lay l, ansl_lay S]
theorem ansl_dep : ∀ S : List (List Bool), PyData.depthAll (S.map fun l => .tuple (l.map PyData.bool)) ≤ 1
  | [] => Nat.zero_le _
  | l :: S => by
    have := ansl_dep S
    simp [PyData.depthAll, PyData.depth, bl_dep]
    omega
theorem ansl_shaped (S : List (List Bool)) : SeqAt.shaped (.list (S.map fun l => .tuple (l.map PyData.bool))) = true := by
  unfold SeqAt.shaped
  have e : (PyData.list (S.map fun l => .tuple (l.map PyData.bool))).depth ≤ 64 := by
    have := ansl_dep S
    simp only [PyData.depth]
    omega
  rw [decide_eq_true e]
  simp only [PyData.canLay0, ansl_lay, Bool.and_self]
theorem ansl_eqv (S : List (List Bool)) : PyData.eqv (.list (S.map fun l => .tuple (l.map PyData.bool))) (.list []) = S.isEmpty := by
  cases S <;> simp [PyData.eqv, PyData.eqvAll]
theorem nill_shaped : SeqAt.shaped (.list []) = true := by decide +kernel
end SL
namespace SL
open PySem PySem.Spec PyProof.Rows L2
theorem same_mut {H0 H : Hp} {p : Addr} {o : HO} (e : Same H0 H) (h : H0 p = none) : Same H0 (upd H p o) := fun b u q => by
  rw [upd_ne (ne_of_none q h)]
  exact e b u q
theorem line1000 {n : Nat} (h : n ≤ 100000) : n ≤ sizeLine := Nat.le_trans h (by decide)
section
variable {w : World} {K : PySem.W.Frag} {mg : Str → Option Value} {base : Heap}
theorem cat_ans {H : Hp} {l : List Bool} {x : V} {q : Addr} {b : Bool} {Q : VK} (ha : AnsAt K H l x) (hq : H q = some (.tup [.bl b])) (hl : l.length + 1 ≤ 1000) (h : ∀ v H', Same H H' → AnsAt K H' (l ++ [b]) v → Q v H') : rCatA K x (.ref q) H Q := by
  obtain ⟨a, rfl, hs, _⟩ := ha
  refine ⟨a, q, _, _, rfl, rfl, hs, SqT.of hq, line1000 (by simp only [List.length_map, List.length_cons, List.length_nil]; omega), fun e => ?_, (fun _ e => nomatch e), fun _ _ p hp => ?_⟩
  · have e1 : l = [] := by simpa using e
    subst e1
    exact h _ _ (Same.refl _) ⟨q, rfl, SqT.of hq, by simp⟩
  · exact h _ _ (Same.new hp) ⟨p, rfl, SqT.of (by rw [upd_same]; simp), by simp; omega⟩
def spEndings (K : PySem.W.Frag) : Sp := fun vs H Q _ => ∃ nv d pv n p m, vs = [nv, .int d, pv] ∧ NAt K H n nv ∧ Amt K H pv p ∧ NGood m n ∧ m ≤ 3 ∧ Sz 8 p ∧ ndep n ≤ 12 ∧ nbits n ≤ 4000 ∧ nlv n ≤ 900 ∧
  ∀ pf fs H', Same H H' → H' pf = some (.lst fs) → H pf = none → All2 (EndAt K H') ((tree n d p).lvsOf []) fs → Q (.ref pf) H'
theorem ok_endings (T : TX w K mg) : Fn w K mg base 34 (He.ga K "endings") (spEndings K) := by
  refine fn_endings (k := 33) T (fun vs H Q E h => ?_) (fun cdv A outer s H vs Q E hr h => ?_)
  · obtain ⟨_, _, _, _, _, _, rfl, _⟩ := h
    rfl
  · obtain ⟨nv, d, pv_, n, p, m, rfl, hn, hp, gn, hm, sp, hd, hb, hlv, kk⟩ := h
    have hu := hr.units
    refine ⟨_, pss_cons (ps_set (i := 3) sc_endings.nd rfl (.inl rfl) (pe_lst pa_nil))
      (pss_cons (ps_set (i := 4) sc_endings.nd rfl (.inl rfl) (pe_lst (pa_cons (pe_tup pa_nil) pa_nil)))
      (pss_cons (ps_while PassesOwn.never (pt_cmpR (op_neD hu) (pv 4) (pe_lst pa_nil) (nomark _))
        (pss_cons (ps_set (i := 5) sc_endings.nd rfl (.inl rfl) (pe_bm0 PySem.F.plainAttrs_list PySem.F.slot_list_pop PySem.F.type_list_pop mt_pop (pv 4)))
        (pss_cons (ps_set (i := 6) sc_endings.nd rfl (.inl rfl) (pe_callFK (ok_turned T) rfl hr rfl (g_turned T) (pa_cons (pv 0) (pa_cons (pv 1) (pa_cons (pv 2) pa_nil))) (pk_cons (pv 5) pk_nil)))
        (pss_one (ps_if (pt_cmpR op_eq (pe_ix ix_tup (pv 6) pe_int (fun _ _ => rfl)) pe_str (nomark _))
          (pss_one (ps_expr (pe_bm PySem.F.plainAttrs_list PySem.F.slot_list_extend PySem.F.type_list_extend mt_extend (pv 4) (pa_cons (pe_lst (pa_cons (pe_op op_catA (pv 5) (pe_tup (pa_cons pe_bl pa_nil))) (pa_cons (pe_op op_catA (pv 5) (pe_tup (pa_cons pe_bl pa_nil))) pa_nil))) pa_nil))))
          (pss_one (ps_expr (pe_bm PySem.F.plainAttrs_list PySem.F.slot_list_append PySem.F.type_list_append mt_append (pv 3) (pa_cons (pe_tup (pa_cons (pv 5) (pa_cons (pe_ix ix_tup (pv 6) pe_int (fun _ _ => rfl)) (pa_cons (pe_ix ix_tup (pv 6) pe_int (fun _ _ => rfl)) pa_nil)))) pa_nil)))))))))
      (pss_one (ps_ret (pv 3))))), ?_⟩
    have hdl : (tree n d p).lvs ≤ 900 := Nat.le_trans (tree_dep (d := d) (p := p) n).2 hlv
    have hdd := dep_le_lvs (tree n d p)
    generalize ht : tree n d p = t at *
    refine ⟨by show 0 ≤ sizeLine; decide, fun pf hpf => ?_⟩
    refine ⟨by show 0 ≤ sizeLine; decide, fun q0 hq0 => ⟨by show 1 ≤ sizeLine; decide, fun pt hpt => ?_⟩⟩
    have npf : pf ≠ pt := ne_of_none (show (upd (upd H pf (.lst [])) q0 (.tup [])) pf = some (.lst []) by rw [upd_ne (ne_of_none upd_same hq0), upd_same]) hpt
    have s1 := Same.new (o := .lst []) hpf
    have s2 := Same.new (o := .tup []) hq0
    have s3 := Same.new (o := .lst [V.ref q0]) hpt
    have f2 := s1.free hq0
    have f3 := s1.free (s2.free hpt)
    refine ⟨fun k σ' H' => ∃ (S : List (List Bool)) (done : List (List Bool × Rat × Note)) (fs ts : List V) (x5 x6 : Option V), σ' = [some nv, some (.int d), some pv_, some (.ref pf), some (.ref pt), x5, x6] ∧ Same H H' ∧ H' pf = some (.lst fs) ∧ H' pt = some (.lst ts) ∧
        All2 (EndAt K H') done fs ∧ All2 (AnsAt K H') S ts ∧ (∀ l ∈ S, ∃ s, t.at l = some s) ∧ done ++ pend t S = t.lvsOf [] ∧ k = pendN t S, ⟨_, [[]], [], [], [.ref q0], none, none, rfl, (s1.trans s2).trans s3, ?_, upd_same, .nil, .cons ⟨q0, rfl, SqT.of ?_, by simp⟩ .nil, ?_, ?_, rfl⟩, ?_⟩
    · rw [upd_ne npf, upd_ne (ne_of_none upd_same hq0), upd_same]
    · rw [upd_ne (ne_of_none upd_same hpt), upd_same]
      rfl
    · intro l hl
      have : l = [] := by simpa using hl
      exact ⟨t, by rw [this]; exact at_nil t⟩
    · rw [pend_nil]
      rfl
    · rintro k σ' H1 ⟨S, done, fs, ts, x5, x6, rfl, e1, h1f, h1t, hD, hS, hv, hsum, rfl⟩
      have lsum : done.length + (pend t S).length = t.lvs := by
        rw [← lvsOf_len t [], ← hsum, List.length_append]
      have lS := pend_len hv
      refine ⟨_, rfl, by show 0 ≤ sizeLine; decide, fun qe hqe => ?_⟩
      have n1 := Same.new (o := .lst []) hqe
      refine ⟨.list (S.map fun l => .tuple (l.map PyData.bool)), .list [], .lst (SqL.of (n1 _ _ h1t)) (ansl_dp (hS.imp fun _ _ z => z.mono n1)), .lst (SqL.of upd_same) .nil, ansl_shaped S, nill_shaped, _, rfl, ?_⟩
      rw [ansl_eqv]
      rcases List.eq_nil_or_concat S with e | ⟨S', l, e⟩
      · subst e
        refine iteF ⟨_, rfl, ?_⟩
        have e2 : done = t.lvsOf [] := by
          rw [← hsum]
          simp [pend]
        exact kk pf fs _ (e1.trans n1) (n1 _ _ h1f) hpf (e2 ▸ hD.imp fun _ _ z => z.ts (ts_same n1))
      · have eS : S = S' ++ [l] := by rw [e, List.concat_eq_append]
        subst eS
        clear e
        rw [show (!(S' ++ [l]).isEmpty) = true by cases S' <;> rfl]
        refine iteT ⟨_, fun _ _ z => z, ?_⟩
        obtain ⟨ts', tv, rfl, hS', hl⟩ := hS.snoc_inv
        obtain ⟨s, hs⟩ := hv l (List.mem_append_right _ (List.mem_singleton.mpr rfl))
        have ll := at_len hs
        have lS2 : S'.length = ts'.length := hS'.len
        have lS3 : S'.length + 1 ≤ (pend t (S' ++ [l])).length := by simpa using lS
        -- answers = todo.pop()
        refine ⟨_, rfl, .inl ⟨rfl, _, SqL.of (n1 _ _ h1t)⟩, pt, _, tv, rfl, rfl, n1 _ _ h1t, by simp, ?_⟩
        rw [show (ts' ++ [tv]).dropLast = ts' by simp]
        have m1 : Same H (upd (upd H1 qe (.lst [])) pt (.lst ts')) := same_mut (e1.trans n1) f3
        have t1 : TS H1 (upd (upd H1 qe (.lst [])) pt (.lst ts')) := ts_trans (ts_same n1) (ts_lst (n1 _ _ h1t))
        generalize hH2 : upd (upd H1 qe (.lst [])) pt (.lst ts') = H2 at m1 t1
        have h2t : H2 pt = some (.lst ts') := by rw [← hH2, upd_same]
        have h2f : H2 pf = some (.lst fs) := by rw [← hH2, upd_ne npf]; exact n1 _ _ h1f
        -- told = turned(..)
        refine ⟨_, rfl, _, rfl, _, rfl, _, rfl, rfl, rfl, nv, d, pv_, tv, n, p, l, m, rfl, hn.mono m1, hp.mono m1, hl.ts t1, gn, hm, sp, hd, hb, fun z H3 e3 r3 => ?_⟩
        have m3 : Same H H3 := m1.trans e3
        have t3 : TS H1 H3 := ts_trans t1 (ts_same e3)
        rw [ht, at_walk hs] at r3
        have hl3 : AnsAt K H3 l tv := hl.ts t3
        cases s with
        | ask o nm y z' =>
          obtain ⟨c1, rfl, hc1⟩ := r3
          simp only [Tree.dep] at ll
          refine ⟨_, rfl, c1, _, _, _, rfl, rfl, hc1, rfl, rfl, _, rfl, iteSE ?_⟩
          -- todo.extend([answers + (False,), answers + (True,)])
          refine ⟨_, rfl, .inl ⟨rfl, _, SqL.of (e3 _ _ h2t)⟩, ?_⟩
          refine ⟨_, rfl, by show 1 ≤ sizeLine; decide, fun qa hqa => ?_⟩
          have na := Same.new (o := .tup [V.bl false]) hqa
          refine cat_ans (hl3.mono na) upd_same (by omega) fun va H4 e4 ra => ?_
          refine ⟨_, rfl, by show 1 ≤ sizeLine; decide, fun qb hqb => ?_⟩
          have nb := Same.new (o := .tup [V.bl true]) hqb
          refine cat_ans (((hl3.mono na).mono e4).mono nb) upd_same (by omega) fun vb H5 e5 rb => ?_
          refine ⟨by show 2 ≤ sizeLine; decide, fun qc hqc => ?_⟩
          have nc := Same.new (o := .lst [va, vb]) hqc
          have e35 : Same H3 (upd H5 qc (.lst [va, vb])) := (((na.trans e4).trans nb).trans e5).trans nc
          have h5t := e35 _ _ (e3 _ _ h2t)
          have h5f := e35 _ _ (e3 _ _ h2f)
          have ra' := (ra.mono ((nb.trans e5).trans nc))
          have rb' := rb.mono nc
          refine ⟨pt, qc, _, _, rfl, rfl, h5t, upd_same, line1000 (by simp only [List.length_cons, List.length_nil]; omega), ?_⟩
          have t5 : TS H1 (upd (upd H5 qc (.lst [va, vb])) pt (.lst (ts' ++ [va, vb]))) := ts_trans (ts_trans t3 (ts_same e35)) (ts_lst h5t)
          have t5' : TS (upd H5 qc (.lst [va, vb])) (upd (upd H5 qc (.lst [va, vb])) pt (.lst (ts' ++ [va, vb]))) := ts_lst h5t
          have af := at_snoc false hs
          have at_ := at_snoc true hs
          simp only [if_true, Bool.false_eq_true, if_false] at af at_
          have es : S' ++ [l ++ [false], l ++ [true]] = (S' ++ [l ++ [false]]) ++ [l ++ [true]] := by simp
          refine ⟨_, ?_, S' ++ [l ++ [false], l ++ [true]], done, fs, ts' ++ [va, vb], _, _, rfl, same_mut (m3.trans e35) f3, ?_, upd_same, hD.imp fun _ _ q => q.ts t5, (hS'.imp fun _ _ q => q.ts t5).app (.cons (ra'.ts t5') (.cons (rb'.ts t5') .nil)), ?_, ?_, rfl⟩
          · rw [es, pendN_snoc at_, pendN_snoc af, pendN_snoc hs]
            simp only [Tree.nodes]
            omega
          · rw [upd_ne npf]
            exact h5f
          · intro l' hl'
            rcases List.mem_append.mp hl' with q | q
            · exact hv l' (List.mem_append_left _ q)
            · simp only [List.mem_cons, List.not_mem_nil, or_false] at q
              rcases q with rfl | rfl
              · exact ⟨_, af⟩
              · exact ⟨_, at_⟩
          · rw [es, pend_snoc at_, pend_snoc af, ← hsum, pend_snoc hs]
            simp only [Tree.lvsOf, List.append_assoc]
        | leaf x r =>
          obtain ⟨c1, u1, u2, rfl, hc1, hx, hr1⟩ := r3
          refine ⟨_, rfl, c1, _, _, _, rfl, rfl, hc1, rfl, rfl, _, rfl, iteSN ?_⟩
          refine ⟨_, rfl, .inl ⟨rfl, _, SqL.of (e3 _ _ h2f)⟩, ?_⟩
          refine ⟨_, rfl, _, rfl, c1, _, _, _, rfl, rfl, hc1, rfl, _, rfl, c1, _, _, _, rfl, rfl, hc1, rfl, by show 3 ≤ sizeLine; decide, fun qa hqa => ?_⟩
          have na := Same.new (o := .tup [tv, u1, u2]) hqa
          have h5f := na _ _ (e3 _ _ h2f)
          have h5t := na _ _ (e3 _ _ h2t)
          have lf := hD.len
          have lp : 1 ≤ (pend t (S' ++ [l])).length := by
            rw [pend_snoc hs]
            simp [Tree.lvsOf]
          refine ⟨pf, _, _, rfl, rfl, h5f, Nat.lt_of_lt_of_le (show fs.length < 100000 by omega) (by decide), ?_⟩
          have t5 : TS H1 (upd (upd H3 qa (.tup [tv, u1, u2])) pf (.lst (fs ++ [V.ref qa]))) := ts_trans (ts_trans t3 (ts_same na)) (ts_lst h5f)
          have t5' : TS (upd H3 qa (.tup [tv, u1, u2])) (upd (upd H3 qa (.tup [tv, u1, u2])) pf (.lst (fs ++ [V.ref qa]))) := ts_lst h5f
          refine ⟨_, ?_, S', done ++ [(l, x, r)], fs ++ [.ref qa], ts', _, _, rfl, same_mut (m3.trans na) hpf, upd_same, ?_, (hD.imp fun _ _ q => q.ts t5).app (.cons (EndAt.ts ⟨qa, tv, u1, u2, rfl, SqT.of upd_same, hl3.mono na, hx.mono na, hr1.mono na⟩ t5') .nil), hS'.imp fun _ _ q => q.ts t5, fun l' hl' => hv l' (List.mem_append_left _ hl'), ?_, rfl⟩
          · rw [pendN_snoc hs]
            simp only [Tree.nodes]
            omega
          · rw [upd_ne npf.symm]
            exact h5t
          · rw [← hsum, pend_snoc hs]
            simp [Tree.lvsOf]
end
end SL
namespace SL
open PySem PySem.Spec PyProof.Rows L2 TL
theorem str_eq {x : Str} {l : List Nat} (h : tl x = l) : x = mkS l := by
  subst h
  exact (mk_tl x).symm
theorem log_of {n k : Nat} (h : n < 2 ^ k) (hk : k < 1920) : n.log2 < 1920 := by
  by_cases z : n = 0
  · subst z
    decide
  · exact Nat.lt_trans ((Nat.log2_lt z).mpr h) hk
section
variable {w : World} {K : PySem.W.Frag} {mg : Str → Option Value} {base : Heap}
def spAT (K : PySem.W.Frag) : Sp := fun vs H Q _ => ∃ v q, vs = [v] ∧ Amt K H v q ∧ Sz 40 q ∧ Q (.str (mkS (aL q))) H
theorem slen {x : Str} {l : List Nat} (h : tl x = l) : x.length = l.length := by
  rw [← h]
  rfl
theorem ok_amount_text (T : TX w K mg) : Fn w K mg base 1 (He.ga K "amount_text") (spAT K) := by
  refine fn_amount_text (k := 0) T (fun vs H Q E h => ?_) (fun cdv A outer s H vs Q E hr h => ?_)
  · obtain ⟨_, _, rfl, _⟩ := h
    rfl
  · obtain ⟨v, q, rfl, ⟨a, rfl, ha⟩, sz, kk⟩ := h
    have hu := hr.units
    refine ⟨_, pss_cons (ps_asg (pv 0) (pg_tup rfl (pgs_cons (pg_name (i := 1) sc_amount_text.nd rfl (.inl rfl)) (pgs_cons (pg_name (i := 2) sc_amount_text.nd rfl (.inl rfl)) pgs_nil))))
      (pss_one (ps_ret (pe_ifExp (pt_cmpR op_eq (pv 2) pe_int (nomark _)) (pe_callTy call_str_int rfl (b_str T) (by decide +kernel) (pa_cons (pv 1) pa_nil))
        (pe_joined (.cons (pe_fmt (pv 1)) (.cons pe_str (.cons (pe_fmt (pv 2)) .nil))))))), ?_⟩
    refine ⟨_, rfl, a, _, rfl, ha, rfl, _, _, rfl, _, _, rfl, rfl, ?_⟩
    have l1 : q.num.natAbs.log2 < 1920 := log_of sz.1 (by decide)
    have l2 : ((q.den : Int)).natAbs.log2 < 1920 := log_of sz.2 (by decide)
    have e1 : q.num.natAbs < 10 ^ 13 := Nat.lt_of_lt_of_le sz.1 (by decide)
    have e2 : q.den < 10 ^ 13 := Nat.lt_of_lt_of_le sz.2 (by decide)
    have n1 := zL_len e1 (by decide)
    have n2 := numL_len (by decide) e2
    have t1 : tl (Str.ofString (toString q.num)) = zL q.num := tl_int _
    have t2 : tl (Str.ofString (toString (q.den : Int))) = numL q.den := tl_num _
    refine ⟨_, rfl, rfl, _, rfl, ite2 (fun hc => ?_) (fun hc => ?_)⟩
    · have hd : q.den = 1 := by
        have := of_decide_eq_true hc
        simp only [V.int.injEq] at this
        omega
      refine ⟨_, rfl, _, rfl, l1, ?_⟩
      have e : (Str.ofString (toString q.num)) = mkS (aL q) := str_eq (by rw [t1, aL, if_pos hd])
      exact e ▸ kk
    · have hd : ¬ q.den = 1 := fun z => hc (decide_eq_true (by rw [z]; rfl))
      have x1 : tl (Str.empty ++ Str.ofString (toString q.num)) = zL q.num := by rw [tl_append, t1]; rfl
      have x2 : tl (Str.empty ++ Str.ofString (toString q.num) ++ ("/" : Str)) = zL q.num ++ [47] := by rw [tl_append, x1]; rfl
      have x3 : tl (Str.empty ++ Str.ofString (toString q.num) ++ ("/" : Str) ++ Str.ofString (toString (q.den : Int))) = aL q := by rw [tl_append, x2, t2, aL, if_neg hd, List.append_assoc]; rfl
      have n3 := aL_len sz
      refine ⟨_, rfl, .inr ⟨_, rfl, l1, _, rfl, line1000 (by rw [slen x1]; omega), "/", rfl, line1000 (by rw [slen x2, List.length_append, List.length_singleton]; omega), _, rfl, .inr ⟨_, rfl, l2, _, rfl, line1000 (by rw [slen x3]; omega), ?_⟩⟩⟩
      rw [str_eq x3]
      exact kk
/-! ### one thing by its sign -/
def spVT (K : PySem.W.Frag) (j : Nat) : Sp := fun vs H Q _ => ∃ v x, vs = [v] ∧ VAt K H x v ∧ VGood x ∧ vdep x ≤ j ∧ j ≤ 3 ∧ ∀ H', Same H H' → Q (.str (vS x)) H'
def spNT (K : PySem.W.Frag) (k : Nat) : Sp := fun vs H Q _ => ∃ v n m, vs = [v] ∧ NAt K H n v ∧ NGood m n ∧ m ≤ 3 ∧ ndep n ≤ k ∧ k ≤ 12 ∧ ∀ H', Same H H' → Q (.str (nS n)) H'
/-- u, under the sign c, has the text l -/
def ThAt (K : PySem.W.Frag) (H : Hp) (j k : Nat) (c : Nat) (u : V) (l : List Nat) : Prop :=
  (c = 118 ∧ ∃ x, VAt K H x u ∧ VGood x ∧ vdep x ≤ j ∧ j ≤ 3 ∧ l = (vT x).cs) ∨ (c = 110 ∧ ∃ n m, NAt K H n u ∧ NGood m n ∧ m ≤ 3 ∧ ndep n ≤ k ∧ k ≤ 12 ∧ l = (nT n).cs) ∨
  ((c = 97 ∨ c = 113) ∧ ∃ q, Amt K H u q ∧ Sz 40 q ∧ l = aL q) ∨
  (c ≠ 118 ∧ c ≠ 110 ∧ c ≠ 97 ∧ c ≠ 113 ∧ ((∃ x : Str, u = .str x ∧ l = tl x) ∨ ∃ i : Int, u = .int i ∧ i.natAbs < 2 ^ 40 ∧ l = zL i))
theorem ThAt.mono {H H' : Hp} {j k c : Nat} {u : V} {l : List Nat} (e : Same H H') (h : ThAt K H j k c u l) : ThAt K H' j k c u l := by
  rcases h with ⟨h0, x, h1, h2⟩ | ⟨h0, n, m, h1, h2⟩ | ⟨h0, q, h1, h2⟩ | h
  · exact .inl ⟨h0, x, h1.mono e, h2⟩
  · exact .inr (.inl ⟨h0, n, m, h1.mono e, h2⟩)
  · exact .inr (.inr (.inl ⟨h0, q, h1.mono e, h2⟩))
  · exact .inr (.inr (.inr h))
def spTh (K : PySem.W.Frag) (j k : Nat) : Sp := fun vs H Q _ => ∃ c u l, vs = [.str ⟨#[c]⟩, u] ∧ ThAt K H j k c u l ∧ ∀ H', Same H H' → Q (.str (mkS l)) H'
theorem sgn_ne {c d : Nat} {x : Str} (hx : x = ⟨#[d]⟩) (h : c ≠ d) : ¬ (⟨#[c]⟩ : Str) = x := fun e => h (by
  rw [hx] at e
  have := congrArg (fun s : Str => s.cps.toList) e
  simpa using this)
theorem call_strIS {X : Cx} : CallR X (.type "str") (fun xs H Q => (∃ i, xs = [.int i] ∧ i.natAbs.log2 < 1920 ∧ Q (.str (toString i)) H) ∨ ∃ a, xs = [.str a] ∧ Q (.str a) H) := fun pins s σ H xs us Q I r h =>
  h.elim (fun h => call_str_int pins s σ H xs us Q I r h) (fun h => SkE.call_str_str pins s σ H xs us Q I r h)
theorem ok_thing (T : TX w K mg) {L j k : Nat} (GV : Fn w K mg base (L + 1) (He.ga K "value_text") (spVT K j)) (GN : Fn w K mg base (L + 1) (He.ga K "note_text") (spNT K k)) : Fn w K mg base (L + 2) (He.ga K "thing_text") (spTh K j k) := by
  refine fn_thing_text (k := L + 1) T (fun vs H Q E h => ?_) (fun cdv A outer s H vs Q E hr h => ?_)
  · obtain ⟨_, _, _, rfl, _⟩ := h
    rfl
  · obtain ⟨c, u, l, rfl, th, kk⟩ := h
    have hu := hr.units
    have kv : ("v" : Str) = ⟨#[118]⟩ := by decide +kernel
    have kn : ("n" : Str) = ⟨#[110]⟩ := by decide +kernel
    refine ⟨_, pss_cons (ps_if (pt_cmpR op_eq (pv 0) pe_str (nomark _)) (pss_one (ps_ret (pe_callF GV rfl hr rfl (g_value_text T) (pa_cons (pv 1) pa_nil) (by omega)))) pss_nil)
      (pss_cons (ps_if (pt_cmpR op_eq (pv 0) pe_str (nomark _)) (pss_one (ps_ret (pe_callF GN rfl hr rfl (g_note_text T) (pa_cons (pv 1) pa_nil) (by omega)))) pss_nil)
      (pss_one (ps_ret (pe_ifExp (pt_cmpR op_in_seq (pv 0) (pe_tup (pa_cons pe_str (pa_cons pe_str pa_nil))) (by with_unfolding_all rfl)) (pe_callF (ok_amount_text T) rfl hr rfl (g_amount_text T) (pa_cons (pv 1) pa_nil) (by omega)) (pe_callTy call_strIS rfl (b_str T) (by decide +kernel) (pa_cons (pv 1) pa_nil)))))), ?_⟩
    rcases th with ⟨rfl, x, h1, h2, h3, h4, rfl⟩ | ⟨rfl, n, m, h1, h2, h3, h4, h5, rfl⟩ | ⟨hc, q, h1, h2, rfl⟩ | ⟨c1, c2, c3, c4, h⟩
    · exact ⟨_, rfl, rfl, _, rfl, iteSE ⟨_, rfl, u, x, rfl, h1, h2, h3, h4, kk⟩ kv.symm⟩
    · exact ⟨_, rfl, rfl, _, rfl, iteSN (⟨_, rfl, rfl, _, rfl, iteSE ⟨_, rfl, u, n, m, rfl, h1, h2, h3, h4, h5, kk⟩ kn.symm⟩) (sgn_ne kv (by decide))⟩
    · refine ⟨_, rfl, rfl, _, rfl, iteSN (⟨_, rfl, rfl, _, rfl, iteSN ?_ (sgn_ne kn (by omega))⟩) (sgn_ne kv (by omega))⟩
      refine ⟨_, rfl, (by show 2 ≤ sizeLine; decide), fun p hp => ⟨p, _, rfl, .inr (SqT.of upd_same), rfl, rfl, _, rfl, ?_⟩⟩
      have : inV (.str ⟨#[c]⟩) [V.str "a", V.str "q"] = true := by
        rcases hc with rfl | rfl <;> decide +kernel
      rw [this]
      refine iteT ⟨_, rfl, u, q, rfl, h1.mono (Same.new hp), h2, kk _ (Same.new hp)⟩
    · refine ⟨_, rfl, rfl, _, rfl, iteSN (⟨_, rfl, rfl, _, rfl, iteSN ?_ (sgn_ne kn c2)⟩) (sgn_ne kv c1)⟩
      refine ⟨_, rfl, (by show 2 ≤ sizeLine; decide), fun p hp => ⟨p, _, rfl, .inr (SqT.of upd_same), rfl, rfl, _, rfl, ?_⟩⟩
      have : inV (.str ⟨#[c]⟩) [V.str "a", V.str "q"] = false := by
        have ka : ("a" : Str) = ⟨#[97]⟩ := by decide +kernel
        have kq : ("q" : Str) = ⟨#[113]⟩ := by decide +kernel
        have e1 : (("a" : Str) == ⟨#[c]⟩) = false := by
          rw [beq_eq_false_iff_ne]
          exact fun z => sgn_ne ka c3 z.symm
        have e2 : (("q" : Str) == ⟨#[c]⟩) = false := by
          rw [beq_eq_false_iff_ne]
          exact fun z => sgn_ne kq c4 z.symm
        simp [inV, eqV, e1, e2]
      rw [this]
      refine iteF ?_
      rcases h with ⟨x, rfl, rfl⟩ | ⟨i, rfl, hi, rfl⟩
      · refine ⟨_, rfl, .inr ⟨x, rfl, ?_⟩⟩
        have := kk _ (Same.new (o := .tup [V.str "a", V.str "q"]) hp)
        rw [← str_eq (x := x) rfl] at this
        exact this
      · refine ⟨_, rfl, .inl ⟨i, rfl, log_of hi (by decide), ?_⟩⟩
        have := kk _ (Same.new (o := .tup [V.str "a", V.str "q"]) hp)
        rw [← str_eq (tl_int i)] at this
        exact this
/-! ### the things in brackets -/
def resL (head : Str) (ls : List (List Nat)) : List Nat := if ls = [] then tl head else tl head ++ 40 :: (joinL [44, 32] ls ++ [41])
def spThs (K : PySem.W.Frag) (j k : Nat) : Sp := fun vs H Q _ => ∃ (head form : Str) (p : Addr) (b : Bool) (xs : List V) (ls : List (List Nat)) (cs : List Nat), vs = [.str head, .str form, .ref p] ∧ SqB b K H p xs ∧ form.cps.toList = cs ∧ cs.length = xs.length ∧
  All2 (fun (cx : Nat × V) l => ThAt K H j k cx.1 cx.2 l) (cs.zip xs) ls ∧ (resL head ls).length ≤ 4000000 ∧ ∀ H', Same H H' → Q (.str (mkS (resL head ls))) H'
theorem joinL_len : ∀ ls : List (List Nat), (ls.map List.length).sum + ls.length * 2 ≤ (joinL [44, 32] ls).length + 2
  | [] => by simp
  | [l] => by simp [joinL]
  | l :: m :: r => by
    have := joinL_len (m :: r)
    simp only [joinL, List.map_cons, List.sum_cons, List.length_cons, List.length_append, List.length_nil] at this ⊢
    omega
theorem sqb_same {H H' : Hp} {b : Bool} {p : Addr} {xs : List V} (e : Same H H') (h : SqB b K H p xs) : SqB b K H' p xs := by
  cases b
  · exact (show SqL K H p xs from h).elim (fun h => .inl (h.elim (fun h => .inl (e _ _ h)) fun ⟨o, h⟩ => .inr ⟨o, e _ _ h⟩)) .inr
  · exact Same.sqt e (show SqT K H p xs from h)
def YS (f : Str) (xs : List V) : Nat → Hp → V → Hp → Prop := fun i H v H' => ∃ T c y, v = .ref T ∧ H T = none ∧ H' = upd H T (.tup [.str ⟨#[c]⟩, y]) ∧ f.cps[i]? = some c ∧ xs[i]? = some y
theorem walk_zs {f : Str} {b : Bool} {p : Addr} {xs : List V} (h : f.cps.size = xs.length) : Walk (ItS b K f p) xs.length (fun H => SqB b K H p xs) (YS f xs) where
  goes := fun i H hi hq => ⟨xs, f.cps[i]'(by omega), xs[i], hq, Array.getElem?_eq_getElem (by omega), List.getElem?_eq_getElem hi⟩
  stops := fun H hq => ⟨xs, hq, rfl, h⟩
  yields := fun i H v H' hi hq ⟨T, c, y, h1, h2, h3, h4, h5⟩ => ⟨T, c, y, h1, h2, h3, h4, h5 xs hq⟩
theorem ok_things (T : TX w K mg) {L j k : Nat} (G : Fn w K mg base (L + 1) (He.ga K "thing_text") (spTh K j k)) : Fn w K mg base (L + 2) (He.ga K "things_text") (spThs K j k) := by
  refine fn_things_text (k := L + 1) T (fun vs H Q E h => ?_) (fun cdv A outer s H vs Q E hr h => ?_)
  · obtain ⟨_, _, _, _, _, _, _, rfl, _⟩ := h
    rfl
  · obtain ⟨head, form, p, b, xs, ls, cs, rfl, hq, hf, hl, ha, hz, kk⟩ := h
    have hu := hr.units
    refine ⟨_, pss_cons (ps_if (pt_cmpR op_eq (pv 1) pe_str (nomark _)) (pss_one (ps_ret (pv 0))) pss_nil)
      (pss_one (ps_ret (pe_op op_add_str (pe_op op_add_str (pe_op op_add_str (pv 0) pe_str) (pe_join pe_str (pe_lc (own := [("sign", 3), ("one", 4)]) (g := gTup K 2 (gCons (gName 3) (gCons (gName 4) gNil))) (tt := tYes) (te := tCallF (spTh K j k) (tCons (tVar 3) (tCons (tVar 4) tNil))) rfl sc_things_text.nd (pi_zipS rfl (b_zip T) (pa_cons (pv 1) (pa_cons (pv 2) pa_nil)) (pk_cons pe_bl pk_nil)) (blkOk_by (own := [("sign", 3), ("one", 4)]) (N := ["head", "form", "things", "sign", "one"]) (sc := defScope s_things_text) (by decide +kernel))
        (fun _ _ _ _ _ => pg_tup rfl (pgs_cons (pg_name (i := 3) sc_things_text.nd rfl (.inl rfl)) (pgs_cons (pg_name (i := 4) sc_things_text.nd rfl (.inl rfl)) pgs_nil))) (fun _ _ _ _ _ => pts_nil)
        (fun _ _ _ _ _ => pe_callF G rfl hr rfl (g_thing_text T) (pa_cons (pv 3) (pa_cons (pv 4) pa_nil)) (by omega))))) pe_str))), ?_⟩
    have fs : form.cps.size = xs.length := by rw [← hl, ← hf, Array.length_toList]
    have hlen : ls.length = xs.length := by rw [← ha.len, List.length_zip, hl, Nat.min_self]
    refine ⟨_, rfl, rfl, _, rfl, ite2 (fun hc => ?_) (fun hc => ?_)⟩
    · have e : form = "" := V.str.inj (of_decide_eq_true hc)
      have e1 : form.cps.size = 0 := by rw [e]; decide +kernel
      have e2 : ls = [] := List.eq_nil_of_length_eq_zero (by omega)
      refine ⟨_, rfl, ?_⟩
      have := kk H (Same.refl _)
      rw [e2] at this
      exact (str_eq (x := head) rfl) ▸ this
    · have ne : ls ≠ [] := fun z => hc (decide_eq_true (by
        have e1 : form.cps.size = 0 := by
          rw [fs, ← hlen, z]
          rfl
        have : form = "" := cps_inj (by
          rw [show ("" : Str).cps.toList = [] by decide +kernel]
          exact List.eq_nil_of_length_eq_zero (by rw [Array.length_toList]; exact e1))
        rw [this]))
      have hr0 : resL head ls = tl head ++ 40 :: (joinL [44, 32] ls ++ [41]) := if_neg ne
      have hz' := hz
      rw [hr0] at hz'
      simp only [List.length_append, List.length_cons, List.length_nil] at hz'
      have jl := joinL_len ls
      have sl : 5000000 ≤ sizeLine := by decide
      refine ⟨_, rfl, head, "(", rfl, rfl, ?_, ?_⟩
      · have : ("(" : Str).length = 1 := by decide +kernel
        have e : head.length = (tl head).length := rfl
        omega
      refine ⟨⟨_, rfl⟩, _, rfl, _, rfl, b, form, p, xs, rfl, rfl, hq, fun D hD => ?_⟩
      refine lc_it (walk_zs fs) (fun i H' => Same H H' ∧ H' D = some (.lst ((ls.take i).map fun l => V.str (mkS l)))) ⟨Same.new hD, upd_same⟩ (fun i H' _ q => sqb_same q.1 hq) (fun i v H1 H2 hi ⟨e1, d1⟩ ⟨Tp, c, y, e, hT, e2, hc1, hy⟩ => ?_) (fun H1 ⟨e1, d1⟩ => ?_)
      · subst e e2
        have hcy : (cs.zip xs)[i]? = some (c, y) := by
          rw [List.getElem?_zip_eq_some]
          refine ⟨?_, hy⟩
          rw [← hf, Array.getElem?_toList]
          exact hc1
        obtain ⟨l, hl1, th⟩ := ha.getL hcy
        refine ⟨Tp, _, rfl, SqT.of upd_same, rfl, _, _, rfl, _, _, rfl, rfl, rfl, ?_⟩
        refine ⟨_, rfl, _, rfl, c, y, l, rfl, th.mono (e1.trans (Same.new hT)), fun H3 e3 => ?_⟩
        have e13 : Same H1 H3 := (Same.new hT).trans e3
        refine ⟨_, e13 _ _ d1, ?_, ?_, ?_⟩
        · rw [List.length_map, List.length_take]
          omega
        · exact same_mut (e1.trans e13) hD
        · rw [upd_same, List.take_add_one, hl1]
          simp
      · have et : ls.take xs.length = ls := List.take_of_length_le (by omega)
        rw [et] at d1
        have hm : ((ls.map mkS).map (·.length)).sum = (ls.map List.length).sum := by
          rw [List.map_map]
          congr 1
        have jt : tl (Txt.join ", " (ls.map mkS)) = joinL [44, 32] ls := by
          have : tl (Str.join ", " (ls.map mkS)) = joinL (tl ", ") ((ls.map mkS).map tl) := tl_join _ _
          rw [List.map_map, show (tl ∘ mkS) = id from funext fun l => tl_mkS l, List.map_id, show tl (", " : Str) = [44, 32] by decide +kernel] at this
          exact (congrArg tl (TL.join_eq ", " (ls.map mkS))).trans this
        have jt2 : tl (head ++ ("(" : Str) ++ Txt.join ", " (ls.map mkS)) = tl head ++ 40 :: joinL [44, 32] ls := by
          rw [tl_append, tl_append, jt, show tl ("(" : Str) = [40] by decide +kernel, List.append_assoc]
          rfl
        have jt3 : tl (head ++ ("(" : Str) ++ Txt.join ", " (ls.map mkS) ++ (")" : Str)) = resL head ls := by
          rw [tl_append, jt2, show tl (")" : Str) = [41] by decide +kernel, hr0, List.append_assoc]
          rfl
        refine ⟨", ", D, ls.map mkS, rfl, rfl, .inl (SqL.of (by rw [d1, List.map_map]; rfl)), ?_, ?_⟩
        · rw [hm, List.length_map, show (", " : Str).length = 2 by decide +kernel]
          omega
        · refine ⟨_, _, rfl, rfl, ?_, _, _, rfl, rfl, ?_, ?_⟩
          · rw [slen jt, slen (x := head ++ ("(" : Str)) (tl_append _ _), show tl ("(" : Str) = [40] by decide +kernel, List.length_append, List.length_singleton]
            omega
          · rw [slen jt2, List.length_append, List.length_cons, show (")" : Str).length = 1 by decide +kernel]
            omega
          · rw [str_eq jt3]
            exact kk _ e1
end
end SL
namespace SL
open PySem PySem.Spec PyProof.Rows L2 TL
theorem pgs_st {X : Cx} {e : Expr} {p : Pos} {es : List Expr} {t : TG} {u : TGs} (h1 : L2.PG X e t) (h2 : PGs X es u)
    (hs : (assignEach (.Starred e p :: es) X.env).map (·.2) = assign e X.env :: (assignEach es X.env).map (·.2) := by rfl) : PGs X (.Starred e p :: es) (gCons t u) := by
  refine ⟨fun pins s σ H vs us Q I r h => ?_⟩
  obtain ⟨v, vr, e1, h⟩ := h
  subst e1
  cases r with
  | cons r rr =>
    rw [hs]
    refine assignInOrder_cons (thn (h1.run pins s σ H _ _ _ I r h) fun _ s1 ⟨σ1, H1, I1, q1⟩ => ?_)
    exact h2.run pins s1 σ1 H1 _ _ Q I1 rr q1
theorem res2 {hd : Str} {l m a : List Nat} (h : tl hd = a) : a ++ 40 :: ((l ++ 44 :: 32 :: m) ++ [41]) = resL hd [l, m] := by
  unfold resL
  rw [if_neg (by simp), h]
  simp [joinL]
theorem res1 {hd : Str} {l a : List Nat} (h : tl hd = a) : a ++ 40 :: (l ++ [41]) = resL hd [l] := by
  unfold resL
  rw [if_neg (by simp), h]
  simp [joinL]
theorem res3 {hd : Str} {l m n a : List Nat} (h : tl hd = a) : a ++ 40 :: ((l ++ 44 :: 32 :: (m ++ 44 :: 32 :: n)) ++ [41]) = resL hd [l, m, n] := by
  unfold resL
  rw [if_neg (by simp), h]
  simp [joinL]
theorem res4 {hd : Str} {l m n o a : List Nat} (h : tl hd = a) : a ++ 40 :: ((l ++ 44 :: 32 :: (m ++ 44 :: 32 :: (n ++ 44 :: 32 :: o))) ++ [41]) = resL hd [l, m, n, o] := by
  unfold resL
  rw [if_neg (by simp), h]
  simp [joinL]
theorem res6 {hd : Str} {l m n o p q a : List Nat} (h : tl hd = a) : a ++ 40 :: ((l ++ 44 :: 32 :: (m ++ 44 :: 32 :: (n ++ 44 :: 32 :: (o ++ 44 :: 32 :: (p ++ 44 :: 32 :: q))))) ++ [41]) = resL hd [l, m, n, o, p, q] := by
  unfold resL
  rw [if_neg (by simp), h]
  simp [joinL]
section
variable {w : World} {K : PySem.W.Frag} {mg : Str → Option Value} {base : Heap}
theorem th_str {H : Hp} {j k c : Nat} {x : Str} {l : List Nat} (h : l = tl x) (hc : c ≠ 118 ∧ c ≠ 110 ∧ c ≠ 97 ∧ c ≠ 113 := by decide) : ThAt K H j k c (.str x) l := .inr (.inr (.inr ⟨hc.1, hc.2.1, hc.2.2.1, hc.2.2.2, .inl ⟨x, rfl, h⟩⟩))
theorem ok_value_text0 (T : TX w K mg) : Fn w K mg base 1 (He.ga K "value_text") (spVT K 0) := by
  refine fn_value_text (k := 0) T (fun vs H Q E h => ?_) (fun cdv A outer s H vs Q E hr h => ?_)
  · obtain ⟨_, _, rfl, _⟩ := h
    rfl
  · obtain ⟨v, x, rfl, _, _, hd, _⟩ := h
    cases x <;> simp [vdep] at hd
theorem ok_note_text0 (T : TX w K mg) : Fn w K mg base 1 (He.ga K "note_text") (spNT K 0) := by
  refine fn_note_text (k := 0) T (fun vs H Q E h => ?_) (fun cdv A outer s H vs Q E hr h => ?_)
  · obtain ⟨_, _, _, rfl, _⟩ := h
    rfl
  · obtain ⟨v, n, m, rfl, _, _, _, hd, _⟩ := h
    cases n <;> simp [ndep] at hd
theorem ok_value_text (T : TX w K mg) (j : Nat) : Fn w K mg base (3 * j + 1) (He.ga K "value_text") (spVT K j) := by
  induction j with
  | zero => exact ok_value_text0 T
  | succ j G =>
    have G2 := ok_thing T G ((ok_note_text0 (base := base) T).mono (by omega : 1 ≤ 3 * j + 1))
    have G3 := ok_things T G2
    refine fn_value_text (k := 3 * j + 3) T (fun vs H Q E h => ?_) (fun cdv A outer s H vs Q E hr h => ?_)
    · obtain ⟨_, _, rfl, _⟩ := h
      rfl
    · obtain ⟨v, x, rfl, hv, gx, hd, hj, kk⟩ := h
      have hu := hr.units
      refine ⟨_, pss_cons (ps_if (pt_cmpR op_eq (pe_ix ix_tup (pv 0) pe_int (fun _ _ => rfl)) pe_str (nomark _)) (pss_one (ps_ret (pe_callF (ok_amount_text T) rfl hr rfl (g_amount_text T) (pa_cons (pe_ix ix_tup (pv 0) pe_int (fun _ _ => rfl)) pa_nil) (by omega)))) pss_nil)
        (pss_cons (ps_asg (pv 0) (pg_star rfl (pgs_cons (pg_name (i := 1) sc_value_text.nd rfl (.inl rfl)) (pgs_st (pg_name (i := 2) sc_value_text.nd rfl (.inl rfl)) pgs_nil))))
        (pss_one (ps_ret (pe_callF G3 rfl hr rfl (g_things_text T) (pa_cons (pv 1) (pa_cons (pe_ix ix_kdict (pe_gref rfl (g_VALUES T)) (pv 1) (fun _ _ => rfl)) (pa_cons (pv 2) pa_nil))) (by omega))))), ?_⟩
      refine via (∃ (a : Addr) (hd : Str) (xs : List V) (form : Str) (i : Nat) (cs : List Nat) (ls : List (List Nat)), v = .ref a ∧ SqT K H a (.str hd :: xs) ∧ (¬ hd = "coin") ∧ t_VALUES[i]? = some (hd, .str form) ∧ form.cps.toList = cs ∧ cs.length = xs.length ∧
          All2 (fun (cx : Nat × V) l => ThAt K H j 0 cx.1 cx.2 l) (cs.zip xs) ls ∧ (vT x).cs = resL hd ls) ?_ (fun one => ?_)
      · rintro ⟨a, hw, xs, form, i, cs, ls, rfl, hs, nc, hi, hf, hl, ha, er⟩
        refine ⟨_, rfl, a, _, _, _, rfl, rfl, hs, atI_nat (j := 0) rfl, rfl, _, rfl, iteSN ?_ nc⟩
        refine ⟨_, rfl, true, a, _, xs, rfl, hs, fun p hp => ⟨_, _, rfl, _, _, rfl, rfl, ?_⟩⟩
        refine ⟨_, rfl, _, rfl, He.ga K "VALUES", hw, _, rfl, rfl, kd_VALUES T i hi, _, rfl, hw, form, p, false, xs, ls, cs, rfl, SqL.of upd_same, hf, hl, ha.imp fun _ _ z => z.mono (Same.new hp), ?_, fun H' e' => ?_⟩
        · rw [← er]
          have := vT_len3 gx (by omega)
          omega
        · rw [← er]
          exact kk H' ((Same.new hp).trans e')
      · have val : ∀ {x : Val} {u : V}, VAt K H x u → VGood x → vdep x ≤ j → ThAt K H j 0 118 u (vT x).cs := fun a b c => .inl ⟨rfl, _, a, b, c, by omega, rfl⟩
        cases x with
        | price =>
          obtain ⟨a, rfl, hs⟩ := hv
          exact one ⟨a, "price", [], "", 0, [], [], rfl, hs, by decide +kernel, rfl, by decide +kernel, rfl, .nil, by decide +kernel⟩
        | coin q =>
          obtain ⟨a, u, rfl, hs, h1⟩ := hv
          refine ⟨_, rfl, a, _, _, _, rfl, rfl, hs, rfl, rfl, _, rfl, iteSE ⟨_, rfl, a, _, _, _, rfl, rfl, hs, rfl, _, q, rfl, h1, gx.mono (by decide), kk _ (Same.refl _)⟩⟩
        | of q x =>
          obtain ⟨a, u, u2, rfl, hs, h1, h2⟩ := hv
          have := hd
          simp only [vdep] at this
          exact one ⟨a, "of", [u, u2], "av", 2, [97, 118], [aL q, (vT x).cs], rfl, hs, by decide +kernel, rfl, by decide +kernel, rfl, .cons (.inr (.inr (.inl ⟨.inl rfl, q, h1, gx.1.mono (by decide), rfl⟩))) (.cons (val h2 gx.2 (by omega)) .nil), res2 (by decide +kernel)⟩
        | plus x y =>
          obtain ⟨a, u, u2, rfl, hs, h1, h2⟩ := hv
          have := hd
          simp only [vdep] at this
          exact one ⟨a, "plus", [u, u2], "vv", 3, [118, 118], [(vT x).cs, (vT y).cs], rfl, hs, by decide +kernel, rfl, by decide +kernel, rfl, .cons (val h1 gx.1 (by omega)) (.cons (val h2 gx.2 (by omega)) .nil), res2 (by decide +kernel)⟩
        | minus x y =>
          obtain ⟨a, u, u2, rfl, hs, h1, h2⟩ := hv
          have := hd
          simp only [vdep] at this
          exact one ⟨a, "minus", [u, u2], "vv", 4, [118, 118], [(vT x).cs, (vT y).cs], rfl, hs, by decide +kernel, rfl, by decide +kernel, rfl, .cons (val h1 gx.1 (by omega)) (.cons (val h2 gx.2 (by omega)) .nil), res2 (by decide +kernel)⟩
        | best x y =>
          obtain ⟨a, u, u2, rfl, hs, h1, h2⟩ := hv
          have := hd
          simp only [vdep] at this
          exact one ⟨a, "best", [u, u2], "vv", 5, [118, 118], [(vT x).cs, (vT y).cs], rfl, hs, by decide +kernel, rfl, by decide +kernel, rfl, .cons (val h1 gx.1 (by omega)) (.cons (val h2 gx.2 (by omega)) .nil), res2 (by decide +kernel)⟩
        | least x y =>
          obtain ⟨a, u, u2, rfl, hs, h1, h2⟩ := hv
          have := hd
          simp only [vdep] at this
          exact one ⟨a, "least", [u, u2], "vv", 6, [118, 118], [(vT x).cs, (vT y).cs], rfl, hs, by decide +kernel, rfl, by decide +kernel, rfl, .cons (val h1 gx.1 (by omega)) (.cons (val h2 gx.2 (by omega)) .nil), res2 (by decide +kernel)⟩
theorem ok_note_text (T : TX w K mg) (k : Nat) : Fn w K mg base (3 * k + 10) (He.ga K "note_text") (spNT K k) := by
  induction k with
  | zero => exact (ok_note_text0 T).mono (by omega)
  | succ k G =>
    have G2 := ok_thing T ((ok_value_text (base := base) T 3).mono (by omega : 3 * 3 + 1 ≤ 3 * k + 10)) G
    have G3 := ok_things T G2
    refine fn_note_text (k := 3 * k + 12) T (fun vs H Q E h => ?_) (fun cdv A outer s H vs Q E hr h => ?_)
    · obtain ⟨_, _, _, rfl, _⟩ := h
      rfl
    · obtain ⟨v, n, m, rfl, hn, gn, hm, hd, hk, kk⟩ := h
      have hu := hr.units
      refine ⟨_, pss_cons (ps_asg (pv 0) (pg_star rfl (pgs_cons (pg_name (i := 1) sc_note_text.nd rfl (.inl rfl)) (pgs_st (pg_name (i := 2) sc_note_text.nd rfl (.inl rfl)) pgs_nil))))
        (pss_cons (ps_if (pt_cmpR op_eq (pv 1) pe_str (nomark _))
          (pss_cons (ps_asg (pv 2) (pg_star rfl (pgs_cons (pg_name (i := 3) sc_note_text.nd rfl (.inl rfl)) (pgs_st (pg_name (i := 4) sc_note_text.nd rfl (.inl rfl)) pgs_nil))))
          (pss_one (ps_ret (pe_callF G3 rfl hr rfl (g_things_text T) (pa_cons (pv 3) (pa_cons (pe_ifExp (pt_cmpR op_isN (pe_ix ix_list (pv 4) pe_int (fun _ _ => rfl)) pe_non (nomark _)) pe_str pe_str)
            (pa_cons (pe_ifExp (pt_cmpR op_isN (pe_ix ix_list (pv 4) pe_int (fun _ _ => rfl)) pe_non (nomark _)) (pe_slice sl_list (pv 4) po_none (po_some pe_int)) (pv 4)) pa_nil))) (by omega))))) pss_nil)
        (pss_one (ps_ret (pe_callF G3 rfl hr rfl (g_things_text T) (pa_cons (pv 1) (pa_cons (pe_ix ix_kdict (pe_gref rfl (g_NOTES T)) (pv 1) (fun _ _ => rfl)) (pa_cons (pv 2) pa_nil))) (by omega))))), ?_⟩
      refine via (∃ (a : Addr) (hd : Str) (xs : List V) (form : Str) (i : Nat) (cs : List Nat) (ls : List (List Nat)), v = .ref a ∧ SqT K H a (.str hd :: xs) ∧ (¬ hd = "seen") ∧ t_NOTES[i]? = some (hd, .str form) ∧ form.cps.toList = cs ∧ cs.length = xs.length ∧
          All2 (fun (cx : Nat × V) l => ThAt K H 3 k cx.1 cx.2 l) (cs.zip xs) ls ∧ (nT n).cs = resL hd ls) ?_ (fun one => ?_)
      · rintro ⟨a, hw, xs, form, i, cs, ls, rfl, hs, nc, hi, hf, hl, ha, er⟩
        refine ⟨_, rfl, true, a, _, xs, rfl, hs, fun p hp => ⟨_, _, rfl, _, _, rfl, rfl, ?_⟩⟩
        refine ⟨_, rfl, rfl, _, rfl, iteSN ?_ nc⟩
        refine ⟨_, rfl, _, rfl, He.ga K "NOTES", hw, _, rfl, rfl, kd_NOTES T i hi, _, rfl, hw, form, p, false, xs, ls, cs, rfl, SqL.of upd_same, hf, hl, ha.imp fun _ _ z => z.mono (Same.new hp), ?_, fun H' e' => ?_⟩
        · rw [← er]
          have := nT_len hm n gn
          have := Nat.pow_le_pow_right (n := 2) (by decide) (Nat.le_trans hd hk)
          omega
        · rw [← er]
          exact kk H' ((Same.new hp).trans e')
      · have val : ∀ {x : Val} {u : V}, VAt K H x u → VGood x → vdep x ≤ 3 → ThAt K H 3 k 118 u (vT x).cs := fun a b c => .inl ⟨rfl, _, a, b, c, by omega, rfl⟩
        have nte : ∀ {x : Note} {u : V}, NAt K H x u → NGood m x → ndep x ≤ k → ThAt K H 3 k 110 u (nT x).cs := fun a b c => .inr (.inl ⟨rfl, _, m, a, b, hm, c, by omega, rfl⟩)
        have amt : ∀ {q : Rat} {u : V}, Amt K H u q → Sz 40 q → ThAt K H 3 k 97 u (aL q) := fun a b => .inr (.inr (.inl ⟨.inl rfl, _, a, b, rfl⟩))
        have int : ∀ {d : Int}, DateOk d → ThAt K H 3 k 100 (.int d) (zL d) := fun {d} h => .inr (.inr (.inr ⟨by decide, by decide, by decide, by decide, .inr ⟨d, rfl, by obtain ⟨a, b⟩ := h; omega, rfl⟩⟩))
        cases n with
        | none =>
          obtain ⟨a, rfl, hs⟩ := hn
          exact one ⟨a, "none", [], "", 0, [], [], rfl, hs, by decide +kernel, rfl, by decide +kernel, rfl, .nil, by decide +kernel⟩
        | pay d x =>
          obtain ⟨a, u, rfl, hs, h1⟩ := hn
          exact one ⟨a, "pay", [.int d, u], "dv", 1, [100, 118], [zL d, (vT x).cs], rfl, hs, by decide +kernel, rfl, by decide +kernel, rfl, .cons (int gn.1) (.cons (val h1 gn.2.1 gn.2.2) .nil), res2 (by decide +kernel)⟩
        | now x =>
          obtain ⟨a, u, rfl, hs, h1⟩ := hn
          exact one ⟨a, "now", [u], "v", 2, [118], [(vT x).cs], rfl, hs, by decide +kernel, rfl, by decide +kernel, rfl, .cons (val h1 gn.1 gn.2) .nil, res1 (by decide +kernel)⟩
        | both x y =>
          obtain ⟨a, u, u2, rfl, hs, h1, h2⟩ := hn
          have := hd
          simp only [ndep] at this
          exact one ⟨a, "both", [u, u2], "nn", 3, [110, 110], [(nT x).cs, (nT y).cs], rfl, hs, by decide +kernel, rfl, by decide +kernel, rfl, .cons (nte h1 gn.1 (by omega)) (.cons (nte h2 gn.2 (by omega)) .nil), res2 (by decide +kernel)⟩
        | times q x =>
          obtain ⟨a, u, u2, rfl, hs, h1, h2⟩ := hn
          have := hd
          simp only [ndep] at this
          exact one ⟨a, "times", [u, u2], "an", 4, [97, 110], [aL q, (nT x).cs], rfl, hs, by decide +kernel, rfl, by decide +kernel, rfl, .cons (amt h1 (gn.1.mono (by decide))) (.cons (nte h2 gn.2 (by omega)) .nil), res2 (by decide +kernel)⟩
        | turn x =>
          obtain ⟨a, u, rfl, hs, h1⟩ := hn
          have := hd
          simp only [ndep] at this
          exact one ⟨a, "turn", [u], "n", 5, [110], [(nT x).cs], rfl, hs, by decide +kernel, rfl, by decide +kernel, rfl, .cons (nte h1 gn (by omega)) .nil, res1 (by decide +kernel)⟩
        | till up l x y =>
          obtain ⟨a, u, u2, u3, rfl, hs, h1, h2, h3⟩ := hn
          have := hd
          simp only [ndep] at this
          exact one ⟨a, "till", [.str (sdS up), u, u2, u3], "sann", 6, [115, 97, 110, 110], [sdL up, aL l, (nT x).cs, (nT y).cs], rfl, hs, by decide +kernel, rfl, by decide +kernel, rfl,
            .cons (th_str (c := 115) (by cases up <;> decide +kernel)) (.cons (amt h1 (gn.1.mono (by decide))) (.cons (nte h2 gn.2.1 (by omega)) (.cons (nte h3 gn.2.2 (by omega)) .nil))), res4 (by decide +kernel)⟩
        | may nm o b s x y =>
          obtain ⟨a, u, u2, rfl, hs, h1, h2⟩ := hn
          have := hd
          simp only [ndep] at this
          exact one ⟨a, "may", [.str nm, .str (owS o), .int b, .int s, u, u2], "moddnn", 7, [109, 111, 100, 100, 110, 110], [nm.cps.toList, owL o, zL b, zL s, (nT x).cs, (nT y).cs], rfl, hs, by decide +kernel, rfl, by decide +kernel, rfl,
            .cons (th_str (c := 109) rfl) (.cons (th_str (c := 111) (by cases o <;> decide +kernel)) (.cons (int gn.2.1) (.cons (int gn.2.2.1) (.cons (nte h1 gn.2.2.2.1 (by omega)) (.cons (nte h2 gn.2.2.2.2 (by omega)) .nil))))), res6 (by decide +kernel)⟩
        | seen pk d st past =>
          obtain ⟨a, u, u2, rfl, hs, h1, h2⟩ := hn
          have tw : tl (wdS pk) = pkL pk := by cases pk <;> decide +kernel
          refine ⟨_, rfl, true, a, _, _, rfl, hs, fun p hp => ⟨_, _, rfl, _, _, rfl, rfl, ?_⟩⟩
          refine ⟨_, rfl, rfl, _, rfl, iteSE ?_⟩
          refine ⟨_, rfl, false, p, _, _, rfl, SqL.of upd_same, fun p2 hp2 => ⟨_, _, rfl, _, _, rfl, rfl, ?_⟩⟩
          have e2 := (Same.new (o := .lst [V.str (wdS pk), .int d, u, u2]) hp).trans (Same.new (o := .lst [V.int d, u, u2]) hp2)
          cases past with
          | none =>
            obtain rfl : u2 = .non := h2
            refine ⟨_, rfl, _, rfl, p2, _, _, _, rfl, rfl, SqL.of upd_same, rfl, rfl, _, rfl, iteT ⟨_, rfl, p2, _, _, _, rfl, rfl, SqL.of upd_same, rfl, rfl, _, rfl, iteT ⟨_, rfl, _, rfl, p2, _, rfl, SqL.of upd_same, fun p3 hp3 => ?_⟩⟩⟩
            have e3 := e2.trans (Same.new (o := .lst (cutV [V.int d, u, .non] none (some 2))) hp3)
            have er : (nT (.seen pk d st none)).cs = resL (wdS pk) [zL d, aL st] := res2 tw
            refine ⟨wdS pk, "da", p3, false, [.int d, u], [zL d, aL st], [100, 97], rfl, SqL.of (by rw [upd_same]; rfl), by decide +kernel, rfl, (show All2 (fun (cx : Nat × V) l => ThAt K H 3 k cx.1 cx.2 l) [(100, V.int d), (97, u)] [zL d, aL st] from .cons (int gn.1) (.cons (amt h1 (gn.2.1.mono (by decide))) .nil)).imp fun _ _ z => z.mono e3, ?_, fun H' e' => ?_⟩
            · rw [← er]
              have := nT_len hm _ gn
              have := Nat.pow_le_pow_right (n := 2) (by decide) (Nat.le_trans hd hk)
              omega
            · rw [← er]
              exact kk H' (e3.trans e')
          | some q =>
            obtain ⟨b, rfl, hb⟩ := id h2
            refine ⟨_, rfl, _, rfl, p2, _, _, _, rfl, rfl, SqL.of upd_same, rfl, rfl, _, rfl, iteF ⟨_, rfl, p2, _, _, _, rfl, rfl, SqL.of upd_same, rfl, rfl, _, rfl, iteF ⟨_, rfl, ?_⟩⟩⟩
            have er : (nT (.seen pk d st (some q))).cs = resL (wdS pk) [zL d, aL st, aL q] := res3 tw
            refine ⟨wdS pk, "daq", p2, false, [.int d, u, .ref b], [zL d, aL st, aL q], [100, 97, 113], rfl, SqL.of upd_same, by decide +kernel, rfl, (show All2 (fun (cx : Nat × V) l => ThAt K H 3 k cx.1 cx.2 l) [(100, V.int d), (97, u), (113, V.ref b)] [zL d, aL st, aL q] from .cons (int gn.1) (.cons (amt h1 (gn.2.1.mono (by decide))) (.cons (.inr (.inr (.inl ⟨.inr rfl, q, h2, (gn.2.2 q rfl).mono (by omega), rfl⟩))) .nil))).imp fun _ _ z => z.mono e2, ?_, fun H' e' => ?_⟩
            · rw [← er]
              have := nT_len hm _ gn
              have := Nat.pow_le_pow_right (n := 2) (by decide) (Nat.le_trans hd hk)
              omega
            · rw [← er]
              exact kk H' (e2.trans e')
end
end SL
namespace SL
open PySem PySem.Spec PyProof.Rows L2 TL
theorem pe_nev {X : Cx} {e : Expr} : PE X e (fun _ _ _ => False) := ⟨fun _ _ _ _ _ _ h => h.elim⟩
theorem pt_nev {X : Cx} {e : Expr} : PT X e (fun _ _ _ => False) := ⟨fun _ _ _ _ _ _ h => h.elim⟩
def kids : Note → List Note
  | .both a b => [a, b]
  | .times _ n => [n]
  | .turn n => [n]
  | .till _ _ a b => [a, b]
  | .may _ _ _ _ x y => [x, y]
  | _ => []
def SgAt (K : PySem.W.Frag) (H : Hp) (cx : Nat × V) (o : Option Note) : Prop := (cx.1 = 110 ∧ ∃ n, o = some n ∧ NAt K H n cx.2) ∨ (cx.1 ≠ 110 ∧ o = none)
theorem SgAt.mono {K : PySem.W.Frag} {H H' : Hp} {cx : Nat × V} {o : Option Note} (e : Same H H') (h : SgAt K H cx o) : SgAt K H' cx o := by
  rcases h with ⟨a, n, b, c⟩ | h
  · exact .inl ⟨a, n, b, c.mono e⟩
  · exact .inr h
section
variable {w : World} {K : PySem.W.Frag} {mg : Str → Option Value} {base : Heap}
theorem six1 (n d : Nat) (h : 1 ≤ n) : HT.sIx n d (some 1) = 1 := by
  have : HT.sIx n d (some 1) = min 1 n := HT.sIx_nat n d 1
  rw [this]
  omega
def spInner (K : PySem.W.Frag) : Sp := fun vs H Q _ => ∃ v n, vs = [v] ∧ NAt K H n v ∧ ∀ p us H', Same H H' → H' p = some (.lst us) → H p = none → All2 (NAt K H') (kids n) us → Q (.ref p) H'
theorem ok_inner (T : TX w K mg) : Fn w K mg base 1 (He.ga K "inner") (spInner K) := by
  refine fn_inner (k := 0) T (fun vs H Q E h => ?_) (fun cdv A outer s H vs Q E hr h => ?_)
  · obtain ⟨_, _, rfl, _⟩ := h
    rfl
  · obtain ⟨v, n, rfl, hn, kk⟩ := h
    have hu := hr.units
    refine ⟨_, pss_one (ps_ret (pe_lc (own := [("sign", 1), ("one", 2)]) (g := gTup K 2 (gCons (gName 1) (gCons (gName 2) gNil))) (tt := tTest (tOp rEq (tVar 1) (tC (.str "n")))) (te := tVar 2) rfl sc_inner.nd
      (pi_zipS rfl (b_zip T) (pa_cons (pe_ix ix_kdict (pe_gref rfl (g_NOTES T)) (pe_ix ix_tup (pv 0) pe_int (fun _ _ => rfl)) (fun _ _ => rfl)) (pa_cons (pe_slice sl_tup (pv 0) (po_some pe_int) po_none) pa_nil)) (pk_cons pe_bl pk_nil)) (blkOk_by (own := [("sign", 1), ("one", 2)]) (N := ["note", "sign", "one"]) (sc := defScope s_inner) (by decide +kernel))
      (fun _ _ _ _ _ => pg_tup rfl (pgs_cons (pg_name (i := 1) sc_inner.nd rfl (.inl rfl)) (pgs_cons (pg_name (i := 2) sc_inner.nd rfl (.inl rfl)) pgs_nil))) (fun _ _ _ _ _ => pts_one (pt_cmpR op_eq (pv 1) pe_str (nomark _))) (fun _ _ _ _ _ => pv 2))), ?_⟩
    refine via (∃ (a : Addr) (hw : Str) (xs : List V) (form : Str) (i : Nat) (cs : List Nat) (os : List (Option Note)), v = .ref a ∧ SqT K H a (.str hw :: xs) ∧ t_NOTES[i]? = some (hw, .str form) ∧ form.cps.toList = cs ∧ cs.length = xs.length ∧ xs.length ≤ 6 ∧
        All2 (SgAt K H) (cs.zip xs) os ∧ kids n = os.filterMap id) ?_ (fun one => ?_)
    · rintro ⟨a, hw, xs, form, i0, cs, os, rfl, hs, hi, hf, hl, h6, ha, ek⟩
      refine ⟨_, rfl, a, _, _, _, rfl, rfl, hs, atI_nat (j := 0) rfl, He.ga K "NOTES", hw, _, rfl, rfl, kd_NOTES T i0 hi, ?_⟩
      refine ⟨_, rfl, _, rfl, a, _, rfl, hs, ?_, fun p hp => ?_⟩
      · rintro ⟨z, _⟩
        rw [six1 _ _ (by simp)] at z
        exact absurd z (by decide)
      have ec : cutV (.str hw :: xs) (some 1) none = xs := by
        unfold cutV
        rw [six1 _ _ (by simp), HT.sIx_none]
        simp
      rw [ec]
      have n1 := Same.new (o := .tup xs) hp
      have fs : form.cps.size = xs.length := by rw [← hl, ← hf, Array.length_toList]
      refine ⟨true, form, p, xs, rfl, rfl, SqT.of upd_same, fun D hD => ?_⟩
      refine lc_it (walk_zs fs) (fun i H' => Same (upd H p (.tup xs)) H' ∧ ∃ us, H' D = some (.lst us) ∧ us.length ≤ i ∧ All2 (NAt K H') ((os.take i).filterMap id) us) ⟨Same.new hD, [], upd_same, Nat.le_refl _, .nil⟩
        (fun i H' _ q => sqb_same q.1 (SqT.of upd_same)) (fun i v H1 H2 hi ⟨e1, us, d1, hlu, h1⟩ ⟨Tp, c, y, e, hT, e2, hc1, hy⟩ => ?_) (fun H1 ⟨e1, us, d1, hlu, h1⟩ => ?_)
      · subst e e2
        have hcy : (cs.zip xs)[i]? = some (c, y) := by
          rw [List.getElem?_zip_eq_some]
          refine ⟨?_, hy⟩
          rw [← hf, Array.getElem?_toList]
          exact hc1
        obtain ⟨o, ho, th⟩ := ha.getL hcy
        have n2 := Same.new (o := .tup [V.str ⟨#[c]⟩, y]) hT
        have tk : (os.take (i + 1)).filterMap id = (os.take i).filterMap id ++ o.toList := by
          rw [List.take_add_one, ho, List.filterMap_append]
          cases o <;> rfl
        refine ⟨Tp, _, rfl, SqT.of upd_same, rfl, _, _, rfl, _, _, rfl, rfl, rfl, ?_⟩
        refine ⟨_, rfl, rfl, _, rfl, ?_⟩
        have kn : ("n" : Str) = ⟨#[110]⟩ := by decide +kernel
        rcases th with ⟨hc, n', rfl, hn'⟩ | ⟨hc, rfl⟩
        · have hc : c = 110 := hc
          refine iteSE ⟨_, rfl, us, n2 _ _ d1, Nat.lt_of_le_of_lt hlu (Nat.lt_of_lt_of_le hi (Nat.le_trans h6 (by decide))), same_mut (e1.trans n2) hD, us ++ [y], upd_same, ?_, ?_⟩ (by rw [hc, kn])
          · simp only [List.length_append, List.length_singleton]
            omega
          · rw [tk]
            have ts : TS H1 (upd (upd H1 Tp (.tup [V.str ⟨#[c]⟩, y])) D (.lst (us ++ [y]))) := ts_trans (ts_same n2) (ts_lst (n2 _ _ d1))
            exact (h1.imp fun _ _ q => q.ts ts).app (.cons (((hn'.mono n1).mono e1).ts ts) .nil)
        · refine iteSN ⟨e1.trans n2, us, n2 _ _ d1, by omega, ?_⟩ (sgn_ne kn hc)
          rw [tk]
          simpa using h1.imp fun _ _ q => q.mono n2
      · have lo : os.length = xs.length := by rw [← ha.len, List.length_zip, hl, Nat.min_self]
        rw [List.take_of_length_le (by omega), ← ek] at h1
        exact kk D us H1 (n1.trans e1) d1 (n1.free hD) h1
    · have sg : ∀ {c : Nat} {u : V}, c ≠ 110 → SgAt K H (c, u) none := fun h => .inr ⟨h, rfl⟩
      have nt : ∀ {x : Note} {u : V}, NAt K H x u → SgAt K H (110, u) (some x) := fun h => .inl ⟨rfl, _, rfl, h⟩
      cases n with
      | none =>
        obtain ⟨a, rfl, hs⟩ := hn
        exact one ⟨a, "none", [], "", 0, [], [], rfl, hs, rfl, by decide +kernel, rfl, by decide, .nil, rfl⟩
      | pay d x =>
        obtain ⟨a, u, rfl, hs, h1⟩ := hn
        exact one ⟨a, "pay", [.int d, u], "dv", 1, [100, 118], [none, none], rfl, hs, rfl, by decide +kernel, rfl, by simp, .cons (sg (by simp)) (.cons (sg (by simp)) .nil), rfl⟩
      | now x =>
        obtain ⟨a, u, rfl, hs, h1⟩ := hn
        exact one ⟨a, "now", [u], "v", 2, [118], [none], rfl, hs, rfl, by decide +kernel, rfl, by simp, .cons (sg (by simp)) .nil, rfl⟩
      | both x y =>
        obtain ⟨a, u, u2, rfl, hs, h1, h2⟩ := hn
        exact one ⟨a, "both", [u, u2], "nn", 3, [110, 110], [some x, some y], rfl, hs, rfl, by decide +kernel, rfl, by simp, .cons (nt h1) (.cons (nt h2) .nil), rfl⟩
      | times q x =>
        obtain ⟨a, u, u2, rfl, hs, h1, h2⟩ := hn
        exact one ⟨a, "times", [u, u2], "an", 4, [97, 110], [none, some x], rfl, hs, rfl, by decide +kernel, rfl, by simp, .cons (sg (by simp)) (.cons (nt h2) .nil), rfl⟩
      | turn x =>
        obtain ⟨a, u, rfl, hs, h1⟩ := hn
        exact one ⟨a, "turn", [u], "n", 5, [110], [some x], rfl, hs, rfl, by decide +kernel, rfl, by simp, .cons (nt h1) .nil, rfl⟩
      | till up l x y =>
        obtain ⟨a, u, u2, u3, rfl, hs, h1, h2, h3⟩ := hn
        exact one ⟨a, "till", [.str (sdS up), u, u2, u3], "sann", 6, [115, 97, 110, 110], [none, none, some x, some y], rfl, hs, rfl, by decide +kernel, rfl, by simp, .cons (sg (by simp)) (.cons (sg (by simp)) (.cons (nt h2) (.cons (nt h3) .nil))), rfl⟩
      | may nm o b s x y =>
        obtain ⟨a, u, u2, rfl, hs, h1, h2⟩ := hn
        exact one ⟨a, "may", [.str nm, .str (owS o), .int b, .int s, u, u2], "moddnn", 7, [109, 111, 100, 100, 110, 110], [none, none, none, none, some x, some y], rfl, hs, rfl, by decide +kernel, rfl, by simp,
          .cons (sg (by simp)) (.cons (sg (by simp)) (.cons (sg (by simp)) (.cons (sg (by simp)) (.cons (nt h1) (.cons (nt h2) .nil))))), rfl⟩
      | seen pk d st past =>
        obtain ⟨a, u, u2, rfl, hs, h1, h2⟩ := hn
        exact one ⟨a, "seen", [.str (wdS pk), .int d, u, u2], "wdaq", 8, [119, 100, 97, 113], [none, none, none, none], rfl, hs, rfl, by decide +kernel, rfl, by simp, .cons (sg (by simp)) (.cons (sg (by simp)) (.cons (sg (by simp)) (.cons (sg (by simp)) .nil))), rfl⟩
def spUses (K : PySem.W.Frag) (k : Nat) : Sp := fun vs H Q _ => ∃ v n, vs = [v] ∧ NAt K H n v ∧ ndep n ≤ k ∧ ∀ p H', Same H H' → H p = none → H' p = some (.lst []) → Q (.ref p) H'
theorem kids_dep {n x : Note} (h : x ∈ kids n) : ndep x + 1 ≤ ndep n := by
  cases n <;> simp [kids] at h
  all_goals simp only [ndep]
  all_goals first
    | (rcases h with h | h <;> (subst h; omega))
    | (subst h; omega)
theorem heads (n : Note) : ∀ {v : V} {H : Hp}, NAt K H n v → ∃ a hw xs, v = .ref a ∧ SqT K H a (.str hw :: xs) ∧ ¬ hw = "use" := by
  intro v H h
  cases n with
  | none => obtain ⟨a, rfl, hs⟩ := h; exact ⟨a, _, _, rfl, hs, by decide +kernel⟩
  | pay d x => obtain ⟨a, u, rfl, hs, _⟩ := h; exact ⟨a, _, _, rfl, hs, by decide +kernel⟩
  | now x => obtain ⟨a, u, rfl, hs, _⟩ := h; exact ⟨a, _, _, rfl, hs, by decide +kernel⟩
  | both x y => obtain ⟨a, u, u2, rfl, hs, _⟩ := h; exact ⟨a, _, _, rfl, hs, by decide +kernel⟩
  | times q x => obtain ⟨a, u, u2, rfl, hs, _⟩ := h; exact ⟨a, _, _, rfl, hs, by decide +kernel⟩
  | turn x => obtain ⟨a, u, rfl, hs, _⟩ := h; exact ⟨a, _, _, rfl, hs, by decide +kernel⟩
  | till up l x y => obtain ⟨a, u, u2, u3, rfl, hs, _⟩ := h; exact ⟨a, _, _, rfl, hs, by decide +kernel⟩
  | may nm o b s x y => obtain ⟨a, u, u2, rfl, hs, _⟩ := h; exact ⟨a, _, _, rfl, hs, by decide +kernel⟩
  | seen pk d st past => obtain ⟨a, u, u2, rfl, hs, _⟩ := h; exact ⟨a, _, _, rfl, hs, by decide +kernel⟩
theorem ok_uses (T : TX w K mg) (k : Nat) : Fn w K mg base (k + 1) (He.ga K "uses") (spUses K k) := by
  induction k with
  | zero =>
    refine fn_uses (k := 0) T (fun vs H Q E h => ?_) (fun cdv A outer s H vs Q E hr h => ?_)
    · obtain ⟨_, _, rfl, _⟩ := h
      rfl
    · obtain ⟨v, n, rfl, hn, hd, _⟩ := h
      have := ndep_pos n
      omega
  | succ k G =>
    refine fn_uses (k := k + 1) T (fun vs H Q E h => ?_) (fun cdv A outer s H vs Q E hr h => ?_)
    · obtain ⟨_, _, rfl, _⟩ := h
      rfl
    · obtain ⟨v, n, rfl, hn, hd, kk⟩ := h
      have hu := hr.units
      refine ⟨_, pss_cons (ps_if (pt_cmpR op_eq (pe_ix ix_tup (pv 0) pe_int (fun _ _ => rfl)) pe_str (nomark _)) pss_never pss_nil)
        (pss_cons (ps_set (i := 1) sc_uses.nd rfl (.inr rfl) (pe_lst pa_nil))
        (pss_cons (ps_for PassesOwn.never rfl (pi_list (pe_callF (ok_inner T) rfl hr rfl (g_inner T) (pa_cons (pv 0) pa_nil) (by omega))) (pg_name (i := 2) sc_uses.nd rfl (.inl rfl))
          (pss_one (ps_expr (pe_bm PySem.F.plainAttrs_list PySem.F.slot_list_extend PySem.F.type_list_extend mt_extend (pv 1) (pa_cons
            (pe_lc (own := [("name", 3)]) (g := gName 3) (tt := fun _ _ _ => False) (te := fun _ _ _ => False) rfl sc_uses.nd (pi_list (pe_callF G rfl hr rfl (g_uses T) (pa_cons (pv 2) pa_nil) (by omega))) (blkOk_by (own := [("name", 3)]) (N := ["note", "found", "one", "name"]) (sc := defScope s_uses) (by decide +kernel))
              (fun _ _ _ _ _ => pg_name (i := 3) sc_uses.nd rfl (.inl rfl)) (fun _ _ _ _ _ => pts_one pt_nev) (fun _ _ _ _ _ => pe_nev)) pa_nil)))))
        (pss_one (ps_ret (pv 1))))), ?_⟩
      obtain ⟨a, hw, xs, rfl, hs, nu⟩ := heads n hn
      refine ⟨_, rfl, a, _, _, _, rfl, rfl, hs, atI_nat (j := 0) rfl, rfl, _, rfl, iteSN ?_ nu⟩
      refine ⟨by show 0 ≤ sizeLine; decide, fun pf hpf => ?_⟩
      have s1 := Same.new (o := .lst []) hpf
      refine ⟨_, rfl, _, n, rfl, hn.mono s1, fun p us H1 e1 hp fp hk => ⟨p, rfl, ⟨_, SqL.of hp⟩, ?_⟩⟩
      have npf : pf ≠ p := ne_of_none upd_same fp
      refine for_list (xs := us) (fun i σ' H' => ∃ x2 x3, σ' = [some (.ref a), some (.ref pf), x2, x3] ∧ Same H H' ∧ TS H1 H' ∧ H' p = some (.lst us) ∧ H' pf = some (.lst [])) ⟨_, _, rfl, s1.trans e1, ts_refl _, hp, e1 _ _ upd_same⟩
        (fun i σ' H' _ ⟨_, _, _, _, _, q, _⟩ => SqL.of q) (fun i x σ' H2 hx ⟨x2, x3, eσ, e2, t2, h2p, h2f⟩ => ?_) (fun σ' H2 ⟨x2, x3, eσ, e2, t2, h2p, h2f⟩ => ?_)
      · subst eσ
        obtain ⟨n', hn', hx'⟩ := hk.get hx
        have dp := kids_dep (List.mem_of_getElem? hn')
        refine ⟨_, rfl, .inl ⟨rfl, _, SqL.of h2f⟩, ?_⟩
        refine ⟨_, rfl, x, n', rfl, hx'.ts t2, by omega, fun p3 H3 e3 f3 l3 => ⟨p3, rfl, ⟨_, SqL.of l3⟩, fun D hD => ?_⟩⟩
        refine lc_list (K := K) (g := gName 3) (te := fun _ _ _ => False) (tt := fun _ _ _ => False) (xs := []) (fun _ H' => Same H3 H' ∧ H' p3 = some (.lst []) ∧ H' D = some (.lst [])) ⟨Same.new hD, (Same.new hD) _ _ l3, upd_same⟩ (fun _ _ _ q => SqL.of q.2.1) (fun i x H z _ => nomatch z) (fun H4 ⟨e4, _, h4⟩ => ?_)
        have e24 := e3.trans e4
        have t5 : TS H2 (upd H4 pf (.lst ([] ++ []))) := ts_trans (ts_same e24) (ts_lst (e24 _ _ h2f))
        refine ⟨pf, D, _, _, rfl, rfl, e24 _ _ h2f, h4, by show 0 ≤ sizeLine; decide, _, _, rfl, same_mut (e2.trans e24) hpf, ts_trans t2 t5, ?_, upd_same⟩
        rw [upd_ne npf.symm]
        exact e24 _ _ h2p
      · subst eσ
        exact ⟨_, rfl, kk pf H2 e2 hpf h2f⟩
def spWhole (K : PySem.W.Frag) : Sp := fun vs H Q _ => ∃ v n, vs = [v] ∧ NAt K H n v ∧ ndep n ≤ 12 ∧ ∀ H', Same H H' → Q (.bl true) H'
theorem ok_is_whole (T : TX w K mg) : Fn w K mg base 14 (He.ga K "is_whole") (spWhole K) := by
  refine fn_is_whole (k := 13) T (fun vs H Q E h => ?_) (fun cdv A outer s H vs Q E hr h => ?_)
  · obtain ⟨_, _, rfl, _⟩ := h
    rfl
  · obtain ⟨v, n, rfl, hn, hd, kk⟩ := h
    have hu := hr.units
    refine ⟨_, pss_one (ps_ret (pe_cmpR (op_eqD hu) (pe_callF (ok_uses T 12) rfl hr rfl (g_uses T) (pa_cons (pv 0) pa_nil)) (pe_lst pa_nil) (nomark _))), ?_⟩
    refine ⟨_, rfl, v, n, rfl, hn, hd, fun p H1 e1 f1 l1 => ⟨by show 0 ≤ sizeLine; decide, fun q hq => ?_⟩⟩
    have n1 := Same.new (o := .lst []) hq
    exact ⟨.list [], .list [], .lst (SqL.of (n1 _ _ l1)) .nil, .lst (SqL.of upd_same) .nil, nill_shaped, nill_shaped, kk _ (e1.trans n1)⟩
end
end SL
namespace SL
open PySem PySem.Spec PyProof.Rows L2 TL
/-! ### a lattice's numbers -/
structure Dat where
  P : List (List Rat)
  R : List (List Rat)
  S : List (List (Nat × Nat))
def cell {α : Type} (G : List (List α)) (d k : Nat) : Option α := (G[d]?).bind (·[k]?)
theorem cell_eq {α : Type} {G : List (List α)} {d k : Nat} {x : α} (h : cell G d k = some x) : ∃ row, G[d]? = some row ∧ row[k]? = some x := by
  unfold cell at h
  cases e : G[d]? with
  | none => rw [e] at h; cases h
  | some row => rw [e] at h; exact ⟨row, rfl, h⟩
/-- what stands at a node that is not of the last date -/
structure Nd (D : Dat) (d k : Nat) (q r : Rat) (u v : Nat) (hi lo s : Rat) : Prop where
  rt : cell D.R d k = some r
  st : cell D.S d k = some (u, v)
  ehi : cell D.P (d + 1) u = some hi
  elo : cell D.P (d + 1) v = some lo
  rz : Sz 40 r
  rp : 0 < r
  sz : Sz 3 s
  sz1 : Sz 3 (1 - s)
  s0 : 0 < s
  s1 : s < 1
  lt : lo < hi
  eq : r * q = lo + s * (hi - lo)
structure Dat.Ok (D : Dat) : Prop where
  one : 1 ≤ D.P.length
  most : D.P.length ≤ 4
  rl : D.R.length + 1 = D.P.length
  sl : D.S.length + 1 = D.P.length
  top : ∃ q, D.P[0]? = some [q]
  wide : ∀ (d : Nat) (row : List Rat), D.P[d]? = some row → 1 ≤ row.length ∧ row.length ≤ 8
  pz : ∀ d k q, cell D.P d k = some q → Sz 8 q ∧ 0 < q
  nd : ∀ d k q, cell D.P d k = some q → d + 1 < D.P.length → ∃ r u v hi lo s, Nd D d k q r u v hi lo s
  rin : ∀ d k r, cell D.R d k = some r → d + 1 < D.P.length ∧ ∃ q, cell D.P d k = some q
  sin : ∀ d k s, cell D.S d k = some s → d + 1 < D.P.length ∧ ∃ q, cell D.P d k = some q
/-! ### in the heap -/
section
variable {K : PySem.W.Frag} {H H' : Hp}
def RowAt (K : PySem.W.Frag) (H : Hp) (row : List Rat) (v : V) : Prop := ∃ b us, v = .ref b ∧ H b = some (.lst us) ∧ All2 (fun q u => Amt K H u q) row us
def SAt (K : PySem.W.Frag) (H : Hp) (s : Nat × Nat) (v : V) : Prop := ∃ a, v = .ref a ∧ SqT K H a [.int s.1, .int s.2]
def SRowAt (K : PySem.W.Frag) (H : Hp) (row : List (Nat × Nat)) (v : V) : Prop := ∃ b us, v = .ref b ∧ H b = some (.lst us) ∧ All2 (SAt K H) row us
def GridAt (K : PySem.W.Frag) (H : Hp) (P : List (List Rat)) (v : V) : Prop := ∃ b us, v = .ref b ∧ H b = some (.lst us) ∧ All2 (RowAt K H) P us
def SGridAt (K : PySem.W.Frag) (H : Hp) (P : List (List (Nat × Nat))) (v : V) : Prop := ∃ b us, v = .ref b ∧ H b = some (.lst us) ∧ All2 (SRowAt K H) P us
def LatAt (K : PySem.W.Frag) (H : Hp) (D : Dat) (v : V) : Prop := ∃ a dx vp vr vs, v = .ref a ∧ H a = some (.ins (He.ga K "Lattice") dx [("prices", vp), ("rates", vr), ("steps", vs)]) ∧ GridAt K H D.P vp ∧ GridAt K H D.R vr ∧ SGridAt K H D.S vs
theorem RowAt.mono (e : Same H H') {row : List Rat} {v : V} (h : RowAt K H row v) : RowAt K H' row v := by
  obtain ⟨b, us, r, h, a⟩ := h
  exact ⟨b, us, r, e _ _ h, a.imp fun _ _ z => z.mono e⟩
theorem SAt.mono (e : Same H H') {s : Nat × Nat} {v : V} (h : SAt K H s v) : SAt K H' s v := by
  obtain ⟨a, r, h⟩ := h
  exact ⟨a, r, Same.sqt e h⟩
theorem SRowAt.mono (e : Same H H') {row : List (Nat × Nat)} {v : V} (h : SRowAt K H row v) : SRowAt K H' row v := by
  obtain ⟨b, us, r, h, a⟩ := h
  exact ⟨b, us, r, e _ _ h, a.imp fun _ _ z => z.mono e⟩
theorem GridAt.mono (e : Same H H') {P : List (List Rat)} {v : V} (h : GridAt K H P v) : GridAt K H' P v := by
  obtain ⟨b, us, r, h, a⟩ := h
  exact ⟨b, us, r, e _ _ h, a.imp fun _ _ z => z.mono e⟩
theorem SGridAt.mono (e : Same H H') {P : List (List (Nat × Nat))} {v : V} (h : SGridAt K H P v) : SGridAt K H' P v := by
  obtain ⟨b, us, r, h, a⟩ := h
  exact ⟨b, us, r, e _ _ h, a.imp fun _ _ z => z.mono e⟩
theorem LatAt.mono (e : Same H H') {D : Dat} {v : V} (h : LatAt K H D v) : LatAt K H' D v := by
  obtain ⟨a, dx, vp, vr, vs, r, h, h1, h2, h3⟩ := h
  exact ⟨a, dx, vp, vr, vs, r, e _ _ h, h1.mono e, h2.mono e, h3.mono e⟩
end
theorem itP {p A B : Prop} [Decidable p] (h : p) (q : A) : if decide p = true then A else B := by
  rw [if_pos (decide_eq_true h)]
  exact q
theorem itN {p A B : Prop} [Decidable p] (h : ¬ p) (q : B) : if decide p = true then A else B := by
  rw [if_neg (fun z => h (of_decide_eq_true z))]
  exact q
/-! ### its methods -/
section
variable {w : World} {K : PySem.W.Frag} {mg : Str → Option Value} {base : Heap}
def spLast (K : PySem.W.Frag) : Sp := fun vs H Q _ => ∃ v D, vs = [v] ∧ LatAt K H D v ∧ D.Ok ∧ Q (.int ((D.P.length - 1 : Nat) : Int)) H
theorem ok_L_last (T : TX w K mg) : Fn w K mg base 1 (He.ma K (He.ga K "Lattice") "last") (spLast K) := by
  refine fn_L_last (k := 0) T (fun vs H Q E h => ?_) (fun cdv A outer s H vs Q E hr h => ?_)
  · obtain ⟨_, _, rfl, _⟩ := h
    rfl
  · obtain ⟨v, D, rfl, ⟨a, dx, vp, vr, vs, rfl, h0, ⟨b, us, rfl, hb, hp⟩, _⟩, ok, kk⟩ := h
    refine ⟨_, pss_one (ps_ret (pe_op op_sub (pe_callB call_len_seq rfl (b_len T) boot_len (pa_cons (pe_fld (pv 0) rfl) pa_nil)) pe_int)), ?_⟩
    refine ⟨_, rfl, _, _, dx, _, _, rfl, h0, c_Lattice T, n_prices T, rfl, b, us, rfl, .inl (SqL.of hb), _, _, rfl, rfl, ?_⟩
    have e : ((D.P.length - 1 : Nat) : Int) = (us.length : Int) - 1 := by
      have := hp.len
      have := ok.one
      omega
    rw [e] at kk
    exact kk
def spMany (K : PySem.W.Frag) : Sp := fun vs H Q _ => ∃ v D d row, vs = [v, .int ((d : Nat) : Int)] ∧ LatAt K H D v ∧ D.P[d]? = some row ∧ Q (.int ((row.length : Nat) : Int)) H
theorem ok_L_many (T : TX w K mg) : Fn w K mg base 1 (He.ma K (He.ga K "Lattice") "many") (spMany K) := by
  refine fn_L_many (k := 0) T (fun vs H Q E h => ?_) (fun cdv A outer s H vs Q E hr h => ?_)
  · obtain ⟨_, _, _, _, rfl, _⟩ := h
    rfl
  · obtain ⟨v, D, d, row, rfl, ⟨a, dx, vp, vr, vs, rfl, h0, ⟨b, us, rfl, hb, hp⟩, _⟩, hd, kk⟩ := h
    have hu := hr.units
    refine ⟨_, pss_one (ps_ret (pe_ifExp (pt_chain op_le op_lt pe_int (pv 1) (pe_callB call_len_seq rfl (b_len T) boot_len (pa_cons (pe_fld (pv 0) rfl) pa_nil)))
      (pe_callB call_len_seq rfl (b_len T) boot_len (pa_cons (pe_ix ix_list (pe_fld (pv 0) rfl) (pv 1) (fun _ _ => rfl)) pa_nil)) pe_int)), ?_⟩
    have hl : d < us.length := by
      rw [← hp.len]
      exact (List.getElem?_eq_some_iff.mp hd).1
    obtain ⟨u, hu1, b2, ws, rfl, hb2, hrow⟩ := hp.getL hd
    refine ⟨_, rfl, _, _, rfl, rfl, _, rfl, itP (by omega) ⟨_, rfl, _, _, dx, _, _, rfl, h0, c_Lattice T, n_prices T, rfl, b, us, rfl, .inl (SqL.of hb), _, _, rfl, rfl, _, rfl, itP (by omega) ?_⟩⟩
    refine ⟨_, rfl, _, _, dx, _, _, rfl, h0, c_Lattice T, n_prices T, rfl, _, rfl, b, us, _, _, rfl, rfl, SqL.of hb, atI_nat hu1, b2, ws, rfl, .inl (SqL.of hb2), ?_⟩
    rw [hrow.len] at kk
    exact kk
theorem cell_lt {α : Type} {G : List (List α)} {d k : Nat} {x : α} (h : cell G d k = some x) : d < G.length := by
  obtain ⟨row, h1, _⟩ := cell_eq h
  exact (List.getElem?_eq_some_iff.mp h1).1
def spLook (K : PySem.W.Frag) : Sp := fun vs H Q _ => ∃ v D d k q st, vs = [v, .int ((d : Nat) : Int), .int ((k : Nat) : Int), .bl st] ∧ LatAt K H D v ∧ D.Ok ∧ cell D.P d k = some q ∧ (st = true → d + 1 < D.P.length) ∧ Q .non H
theorem ok_L_look (T : TX w K mg) {fd : FuncData} (F : FunD K "look_node" "Lattice.look_node" (defArgs s_L_look_node) (defBody s_L_look_node) (defScope s_L_look_node) ((d_L_look_node).dvs K) ((d_L_look_node).kws K) (He.fAd K ("Lattice", some "look_node")) fd) :
    FnOk PG w K mg base CX0 2 (He.fAd K ("Lattice", some "look_node")) fd ["self", "date", "node", "stepping"] (spLook K) := by
  refine fnOk (k := 1) F sc_L_look_node (fun vs H Q E h => ?_) (fun cdv A outer s H vs Q E hr h => ?_)
  · obtain ⟨_, _, _, _, _, _, rfl, _⟩ := h
    rfl
  · obtain ⟨v, D, d, k, q, st, rfl, la, ok, hc, hst, kk⟩ := h
    have hu := hr.units
    refine ⟨_, pss_cons (ps_if (PW.pt (pw_or (pt_not (pt_chain op_le op_lt pe_int (pv 2) (pe_methF (pv 0) (c_Lattice T) (m_L_many T) (ok_L_many T) rfl hr (pa_cons (pv 1) pa_nil)))) (pw_or1 (PW.pt (pw_and (pt_val (pv 3)) (pw_and1 (pt_cmpR op_eq (pv 1) (pe_methF0 (pv 0) (c_Lattice T) (m_L_last T) (ok_L_last T) rfl hr) (nomark _)))))))) pss_never pss_nil) pss_nil, ?_⟩
    obtain ⟨row, hd, hk⟩ := cell_eq hc
    have lk := (List.getElem?_eq_some_iff.mp hk).1
    have ld := (List.getElem?_eq_some_iff.mp hd).1
    obtain ⟨a, dx, vp, vr, vs', rfl, h0, hrest⟩ := id la
    refine ⟨_, rfl, _, _, rfl, rfl, _, rfl, itP (by omega) ⟨_, rfl, a, dx, _, rfl, h0, rfl, _, rfl, _, D, d, row, rfl, la, hd, _, _, rfl, rfl, _, rfl, ?_⟩⟩
    rw [decide_eq_true (show (k : Int) < ((row.length : Nat) : Int) by omega)]
    refine iteF ⟨_, rfl, st, rfl, ?_⟩
    cases st with
    | false => exact iteF (iteF kk)
    | true =>
      have := hst rfl
      refine iteT ⟨_, rfl, _, rfl, a, dx, _, rfl, h0, rfl, _, D, rfl, la, ok, rfl, _, rfl, itN ?_ kk⟩
      intro z
      have := V.int.inj z
      omega
theorem ok_L_lookK (T : TX w K mg) : FnK w K mg base 2 (He.ma K (He.ga K "Lattice") "look_node") 3 ["stepping"] (spLook K) := by
  obtain ⟨fd, F⟩ := f_L_look_node T
  refine fnK (ok_L_look T F) F.kp (bindsK F fun kV doc pm an cdv ct us ws l1 l2 => ?_)
  match us, ws, l1, l2 with
  | [a, b, c], [e], _, _ => rfl
theorem ok_L_lookD (T : TX w K mg) : Fn w K mg base 2 (He.ma K (He.ga K "Lattice") "look_node") (fun vs H Q E => spLook K (vs ++ [.bl true]) H Q E) := by
  obtain ⟨fd, F⟩ := f_L_look_node T
  obtain ⟨ds, h1, h2⟩ := FunD.binds0 F 3 (ps := ["self", "date", "node", "stepping"]) (fun z => nomatch z) rfl (fun D doc pm an cdv ct us ks l1 l2 => by
    match us, ks, l1, l2 with
    | [a, b, c], [e], _, _ => exact ⟨_, _, _, _, _, _, rfl, rfl, rfl⟩)
  exact fnD (ok_L_look T F) F.kp h2 h1
def spPrice (K : PySem.W.Frag) : Sp := fun vs H Q _ => ∃ v D d k q, vs = [v, .int ((d : Nat) : Int), .int ((k : Nat) : Int)] ∧ LatAt K H D v ∧ D.Ok ∧ cell D.P d k = some q ∧ ∀ u, Amt K H u q → Q u H
theorem ok_L_price (T : TX w K mg) : Fn w K mg base 3 (He.ma K (He.ga K "Lattice") "price") (spPrice K) := by
  refine fn_L_price (k := 2) T (fun vs H Q E h => ?_) (fun cdv A outer s H vs Q E hr h => ?_)
  · obtain ⟨_, _, _, _, _, rfl, _⟩ := h
    rfl
  · obtain ⟨v, D, d, k, q, rfl, la, ok, hc, kk⟩ := h
    refine ⟨_, pss_cons (ps_expr (pe_methFK (pv 0) (c_Lattice T) (m_L_look_node T) (ok_L_lookK T) rfl hr (pa_cons (pv 1) (pa_cons (pv 2) pa_nil)) (pk_cons pe_bl pk_nil)))
      (pss_one (ps_ret (pe_ix ix_list (pe_ix ix_list (pe_fld (pv 0) rfl) (pv 1) (fun _ _ => rfl)) (pv 2) (fun _ _ => rfl)))), ?_⟩
    obtain ⟨row, hd, hk⟩ := cell_eq hc
    obtain ⟨a, dx, vp, vr, vs', rfl, h0, ⟨b, us, rfl, hb, hp⟩, hrest⟩ := id la
    obtain ⟨u, hu1, b2, ws, rfl, hb2, hrow⟩ := hp.getL hd
    obtain ⟨z, hz, az⟩ := hrow.getL hk
    refine ⟨_, rfl, a, dx, _, rfl, h0, rfl, _, rfl, _, rfl, rfl, rfl, _, D, d, k, q, false, rfl, la, ok, hc, (fun e => nomatch e), ?_⟩
    exact ⟨_, rfl, _, _, dx, _, _, rfl, h0, c_Lattice T, n_prices T, rfl, _, rfl, b, us, _, _, rfl, rfl, SqL.of hb, atI_nat hu1, _, rfl, b2, ws, _, _, rfl, rfl, SqL.of hb2, atI_nat hz, kk z az⟩
def spRate (K : PySem.W.Frag) : Sp := fun vs H Q _ => ∃ v D d k q r, vs = [v, .int ((d : Nat) : Int), .int ((k : Nat) : Int)] ∧ LatAt K H D v ∧ D.Ok ∧ cell D.P d k = some q ∧ d + 1 < D.P.length ∧ cell D.R d k = some r ∧ ∀ u, Amt K H u r → Q u H
theorem ok_L_rate (T : TX w K mg) : Fn w K mg base 3 (He.ma K (He.ga K "Lattice") "rate") (spRate K) := by
  refine fn_L_rate (k := 2) T (fun vs H Q E h => ?_) (fun cdv A outer s H vs Q E hr h => ?_)
  · obtain ⟨_, _, _, _, _, _, rfl, _⟩ := h
    rfl
  · obtain ⟨v, D, d, k, q, r, rfl, la, ok, hc, hlt, hcr, kk⟩ := h
    refine ⟨_, pss_cons (ps_expr (pe_methF (pv 0) (c_Lattice T) (m_L_look_node T) (ok_L_lookD T) rfl hr (pa_cons (pv 1) (pa_cons (pv 2) pa_nil))))
      (pss_one (ps_ret (pe_ix ix_list (pe_ix ix_list (pe_fld (pv 0) rfl) (pv 1) (fun _ _ => rfl)) (pv 2) (fun _ _ => rfl)))), ?_⟩
    obtain ⟨row, hd, hk⟩ := cell_eq hcr
    obtain ⟨a, dx, vp, vr, vs', rfl, h0, _, ⟨b, us, rfl, hb, hp⟩, hrest⟩ := id la
    obtain ⟨u, hu1, b2, ws, rfl, hb2, hrow⟩ := hp.getL hd
    obtain ⟨z, hz, az⟩ := hrow.getL hk
    refine ⟨_, rfl, a, dx, _, rfl, h0, rfl, _, rfl, _, rfl, _, D, d, k, q, true, rfl, la, ok, hc, (fun _ => hlt), ?_⟩
    exact ⟨_, rfl, _, _, dx, _, _, rfl, h0, c_Lattice T, n_rates T, rfl, _, rfl, b, us, _, _, rfl, rfl, SqL.of hb, atI_nat hu1, _, rfl, b2, ws, _, _, rfl, rfl, SqL.of hb2, atI_nat hz, kk z az⟩
def spStep (K : PySem.W.Frag) : Sp := fun vs H Q _ => ∃ v D d k q u v', vs = [v, .int ((d : Nat) : Int), .int ((k : Nat) : Int)] ∧ LatAt K H D v ∧ D.Ok ∧ cell D.P d k = some q ∧ d + 1 < D.P.length ∧ cell D.S d k = some (u, v') ∧ ∀ a, SqT K H a [.int ((u : Nat) : Int), .int ((v' : Nat) : Int)] → Q (.ref a) H
theorem ok_L_step (T : TX w K mg) : Fn w K mg base 3 (He.ma K (He.ga K "Lattice") "step") (spStep K) := by
  refine fn_L_step (k := 2) T (fun vs H Q E h => ?_) (fun cdv A outer s H vs Q E hr h => ?_)
  · obtain ⟨_, _, _, _, _, _, _, rfl, _⟩ := h
    rfl
  · obtain ⟨v, D, d, k, q, u0, v0, rfl, la, ok, hc, hlt, hcr, kk⟩ := h
    refine ⟨_, pss_cons (ps_expr (pe_methF (pv 0) (c_Lattice T) (m_L_look_node T) (ok_L_lookD T) rfl hr (pa_cons (pv 1) (pa_cons (pv 2) pa_nil))))
      (pss_one (ps_ret (pe_ix ix_list (pe_ix ix_list (pe_fld (pv 0) rfl) (pv 1) (fun _ _ => rfl)) (pv 2) (fun _ _ => rfl)))), ?_⟩
    obtain ⟨row, hd, hk⟩ := cell_eq hcr
    obtain ⟨a, dx, vp, vr, vs', rfl, h0, _, _, ⟨b, us, rfl, hb, hp⟩⟩ := id la
    obtain ⟨u, hu1, b2, ws, rfl, hb2, hrow⟩ := hp.getL hd
    obtain ⟨z, hz, sa, rfl, hsa⟩ := hrow.getL hk
    refine ⟨_, rfl, a, dx, _, rfl, h0, rfl, _, rfl, _, rfl, _, D, d, k, q, true, rfl, la, ok, hc, (fun _ => hlt), ?_⟩
    exact ⟨_, rfl, _, _, dx, _, _, rfl, h0, c_Lattice T, n_steps T, rfl, _, rfl, b, us, _, _, rfl, rfl, SqL.of hb, atI_nat hu1, _, rfl, b2, ws, _, _, rfl, rfl, SqL.of hb2, atI_nat hz, kk sa hsa⟩
/-- three amounts -/
def spSides (K : PySem.W.Frag) : Sp := fun vs H Q _ => ∃ v D d k q r u v' hi lo s, vs = [v, .int ((d : Nat) : Int), .int ((k : Nat) : Int)] ∧ LatAt K H D v ∧ D.Ok ∧ cell D.P d k = some q ∧ d + 1 < D.P.length ∧ Nd D d k q r u v' hi lo s ∧
  ∀ a g h l H', Same H H' → SqT K H' a [g, h, l] → Amt K H' g (r * q) → Amt K H' h hi → Amt K H' l lo → Q (.ref a) H'
theorem ok_L_sides (T : TX w K mg) : Fn w K mg base 4 (He.ma K (He.ga K "Lattice") "sides") (spSides K) := by
  refine fn_L_sides (k := 3) T (fun vs H Q E h => ?_) (fun cdv A outer s H vs Q E hr h => ?_)
  · obtain ⟨_, _, _, _, _, _, _, _, _, _, _, rfl, _⟩ := h
    rfl
  · obtain ⟨v, D, d, k, q, r, u0, v0, hi, lo, s0, rfl, la, ok, hc, hlt, nd, kk⟩ := h
    refine ⟨_, pss_cons (ps_asg (pe_methF (pv 0) (c_Lattice T) (m_L_step T) (ok_L_step T) rfl hr (pa_cons (pv 1) (pa_cons (pv 2) pa_nil))) (pg_tup rfl (pgs_cons (pg_name (i := 3) sc_L_sides.nd rfl (.inl rfl)) (pgs_cons (pg_name (i := 4) sc_L_sides.nd rfl (.inl rfl)) pgs_nil))))
      (pss_cons (ps_set (i := 5) sc_L_sides.nd rfl (.inl rfl) (pe_ix ix_list (pe_fld (pv 0) rfl) (pe_op op_add (pv 1) pe_int) (fun _ _ => rfl)))
      (pss_one (ps_ret (pe_tup (pa_cons (pe_callF (ok_times T) rfl hr rfl (g_times T) (pa_cons (pe_methF (pv 0) (c_Lattice T) (m_L_rate T) (ok_L_rate T) rfl hr (pa_cons (pv 1) (pa_cons (pv 2) pa_nil))) (pa_cons (pe_methF (pv 0) (c_Lattice T) (m_L_price T) (ok_L_price T) rfl hr (pa_cons (pv 1) (pa_cons (pv 2) pa_nil))) pa_nil)))
        (pa_cons (pe_ix ix_list (pv 5) (pv 3) (fun _ _ => rfl)) (pa_cons (pe_ix ix_list (pv 5) (pv 4) (fun _ _ => rfl)) pa_nil))))))), ?_⟩
    obtain ⟨a, dx, vp, vr, vs', rfl, h0, ⟨b, us, rfl, hb, hp⟩, hrest⟩ := id la
    obtain ⟨row, hd1, hk1⟩ := cell_eq nd.ehi
    obtain ⟨row', hd2, hk2⟩ := cell_eq nd.elo
    obtain rfl : row = row' := Option.some.inj (hd1.symm.trans hd2)
    obtain ⟨z, hz, b2, ws, rfl, hb2, hrow⟩ := hp.getL hd1
    obtain ⟨zh, hzh, azh⟩ := hrow.getL hk1
    obtain ⟨zl, hzl, azl⟩ := hrow.getL hk2
    have pq := ok.pz _ _ _ hc
    refine ⟨_, rfl, a, dx, _, rfl, h0, rfl, _, rfl, _, rfl, _, D, d, k, q, u0, v0, rfl, la, ok, hc, hlt, nd.st, fun sa hsa => ⟨sa, _, rfl, hsa, rfl, _, _, rfl, _, _, rfl, rfl, ?_⟩⟩
    refine ⟨_, rfl, _, _, dx, _, _, rfl, h0, c_Lattice T, n_prices T, rfl, _, rfl, _, _, rfl, rfl, b, us, ((d + 1 : Nat) : Int), _, rfl, ?_, SqL.of hb, atI_nat hz, ?_⟩
    · simp
    refine ⟨_, rfl, a, dx, _, rfl, h0, rfl, _, rfl, _, rfl, _, D, d, k, q, r, rfl, la, ok, hc, hlt, nd.rt, fun ur hur => ?_⟩
    refine ⟨_, rfl, a, dx, _, rfl, h0, rfl, _, rfl, _, rfl, _, D, d, k, q, rfl, la, ok, hc, fun up hup => ?_⟩
    refine ⟨_, _, r, q, 40, 8, rfl, hur, hup, nd.rz, pq.1, by decide, fun g H1 e1 hg => ?_⟩
    refine ⟨_, rfl, _, rfl, b2, ws, _, _, rfl, rfl, SqL.of (e1 _ _ hb2), atI_nat hzh, _, rfl, _, rfl, b2, ws, _, _, rfl, rfl, SqL.of (e1 _ _ hb2), atI_nat hzl, by show 3 ≤ sizeLine; decide, fun p hp0 => ?_⟩
    have n1 := Same.new (o := .tup [g, zh, zl]) hp0
    exact kk p g zh zl _ (e1.trans n1) (SqT.of upd_same) (hg.mono n1) (azh.mono (e1.trans n1)) (azl.mono (e1.trans n1))
end
end SL
namespace SL
open PySem PySem.Spec PyProof.Rows L2 TL
section
variable {w : World} {K : PySem.W.Frag} {mg : Str → Option Value} {base : Heap}
theorem share_eq {D : Dat} {d k u v : Nat} {q r hi lo s : Rat} (nd : Nd D d k q r u v hi lo s) : (r * q - lo) / (hi - lo) = s := by
  have h := nd.eq
  have l := nd.lt
  have e : r * q - lo = s * (hi - lo) := by grind
  rw [e]
  have ne : hi - lo ≠ 0 := by grind
  grind
def spShare (K : PySem.W.Frag) : Sp := fun vs H Q _ => ∃ v D d k q r u v' hi lo s, vs = [v, .int ((d : Nat) : Int), .int ((k : Nat) : Int)] ∧ LatAt K H D v ∧ D.Ok ∧ cell D.P d k = some q ∧ d + 1 < D.P.length ∧ Nd D d k q r u v' hi lo s ∧ ∀ z H', Same H H' → Amt K H' z s → Q z H'
theorem ok_L_share (T : TX w K mg) : Fn w K mg base 5 (He.ma K (He.ga K "Lattice") "share") (spShare K) := by
  refine fn_L_share (k := 4) T (fun vs H Q E h => ?_) (fun cdv A outer s H vs Q E hr h => ?_)
  · obtain ⟨_, _, _, _, _, _, _, _, _, _, _, rfl, _⟩ := h
    rfl
  · obtain ⟨v, D, d, k, q, r, u0, v0, hi, lo, s0, rfl, la, ok, hc, hlt, nd, kk⟩ := h
    refine ⟨_, pss_cons (ps_asg (pe_methF (pv 0) (c_Lattice T) (m_L_sides T) (ok_L_sides T) rfl hr (pa_cons (pv 1) (pa_cons (pv 2) pa_nil))) (pg_tup rfl (pgs_cons (pg_name (i := 3) sc_L_share.nd rfl (.inl rfl)) (pgs_cons (pg_name (i := 4) sc_L_share.nd rfl (.inl rfl)) (pgs_cons (pg_name (i := 5) sc_L_share.nd rfl (.inl rfl)) pgs_nil)))))
      (pss_one (ps_ret (pe_callF (ok_by T) rfl hr rfl (g_by T) (pa_cons (pe_callF (ok_minus T) rfl hr rfl (g_minus T) (pa_cons (pv 3) (pa_cons (pv 5) pa_nil))) (pa_cons (pe_callF (ok_minus T) rfl hr rfl (g_minus T) (pa_cons (pv 4) (pa_cons (pv 5) pa_nil))) pa_nil))))), ?_⟩
    obtain ⟨a, dx, vp, vr, vs', rfl, h0, hrest⟩ := id la
    have zq := (ok.pz _ _ _ hc).1
    have zh := (ok.pz _ _ _ nd.ehi).1
    have zl := (ok.pz _ _ _ nd.elo).1
    have zg : Sz 48 (r * q) := nd.rz.times zq
    refine ⟨_, rfl, a, dx, _, rfl, h0, rfl, _, rfl, _, rfl, _, D, d, k, q, r, u0, v0, hi, lo, s0, rfl, la, ok, hc, hlt, nd, fun t g h l H1 e1 ht hg hh hl => ?_⟩
    refine ⟨t, _, rfl, ht, rfl, _, _, rfl, _, _, rfl, _, _, rfl, rfl, ?_⟩
    refine ⟨_, rfl, _, rfl, _, _, r * q, lo, 48, 8, rfl, hg, hl, zg, zl, by decide, fun x H2 e2 hx => ?_⟩
    refine ⟨_, rfl, _, rfl, _, _, hi, lo, 8, 8, rfl, hh.mono e2, hl.mono e2, zh, zl, by decide, fun y H3 e3 hy => ?_⟩
    refine ⟨_, _, r * q - lo, hi - lo, 57, 17, rfl, hx.mono e3, hy, zg.minus zl, zh.minus zl, by decide, ?_, fun z H4 e4 hz => ?_⟩
    · have := nd.lt
      grind
    · rw [share_eq nd] at hz
      exact kk z H4 (((e1.trans e2).trans e3).trans e4) hz
/-! ### no win -/
theorem nd_below {D : Dat} {d k u v : Nat} {q r hi lo s : Rat} (nd : Nd D d k q r u v hi lo s) : lo < r * q ∧ r * q < hi := by
  have h := nd.eq
  have l := nd.lt
  have p1 : 0 < s * (hi - lo) := Rat.mul_pos nd.s0 (by grind)
  have p2 : 0 < (1 - s) * (hi - lo) := Rat.mul_pos (by have := nd.s1; grind) (by grind)
  constructor
  · grind
  · grind
def spWin (K : PySem.W.Frag) : Sp := fun vs H Q _ => ∃ v D, vs = [v] ∧ LatAt K H D v ∧ D.Ok ∧ ∀ H', Same H H' → Q .non H'
theorem ok_L_win (T : TX w K mg) : Fn w K mg base 5 (He.ma K (He.ga K "Lattice") "win") (spWin K) := by
  refine fn_L_win (k := 4) T (fun vs H Q E h => ?_) (fun cdv A outer s H vs Q E hr h => ?_)
  · obtain ⟨_, _, rfl, _⟩ := h
    rfl
  · obtain ⟨v, D, rfl, la, ok, kk⟩ := h
    refine ⟨_, pss_cons (ps_for PassesOwn.never rfl (pi_range1 rfl (b_range T) (pa_cons (pe_methF0 (pv 0) (c_Lattice T) (m_L_last T) (ok_L_last T) rfl hr) pa_nil)) (pg_name (i := 1) sc_L_win.nd rfl (.inl rfl))
        (pss_one (ps_for PassesOwn.never rfl (pi_range1 rfl (b_range T) (pa_cons (pe_methF (pv 0) (c_Lattice T) (m_L_many T) (ok_L_many T) rfl hr (pa_cons (pv 1) pa_nil)) pa_nil)) (pg_name (i := 2) sc_L_win.nd rfl (.inl rfl))
          (pss_cons (ps_asg (pe_methF (pv 0) (c_Lattice T) (m_L_sides T) (ok_L_sides T) rfl hr (pa_cons (pv 1) (pa_cons (pv 2) pa_nil))) (pg_tup rfl (pgs_cons (pg_name (i := 3) sc_L_win.nd rfl (.inl rfl)) (pgs_cons (pg_name (i := 4) sc_L_win.nd rfl (.inl rfl)) (pgs_cons (pg_name (i := 5) sc_L_win.nd rfl (.inl rfl)) pgs_nil)))))
          (pss_cons (ps_set (i := 6) sc_L_win.nd rfl (.inl rfl) (pe_ix ix_list (pe_ix ix_list (pe_fld (pv 0) rfl) (pv 1) (fun _ _ => rfl)) (pv 2) (fun _ _ => rfl)))
          (pss_cons (ps_if (pt_not (pt_val (pe_callF (ok_less T) rfl hr rfl (g_less T) (pa_cons (pv 5) (pa_cons (pv 3) pa_nil))))) pss_never pss_nil)
          (pss_one (ps_if (pt_not (pt_val (pe_callF (ok_less T) rfl hr rfl (g_less T) (pa_cons (pv 3) (pa_cons (pv 4) pa_nil))))) pss_never pss_nil))))))))
      (pss_one (ps_ret pe_non)), ?_⟩
    obtain ⟨a, dx, vp, vr, vs', rfl, h0, hrest⟩ := id la
    refine ⟨_, rfl, a, dx, _, rfl, h0, rfl, _, D, rfl, la, ok, ?_⟩
    have hm := ok.most
    have h1 := ok.one
    refine ⟨_, rfl, by omega, by omega, ?_⟩
    rw [Int.toNat_natCast]
    refine for_range (lo := 0) (n := D.P.length - 1) (fun i σ' H' => ∃ x1 x2 x3 x4 x5 x6, σ' = [some (.ref a), x1, x2, x3, x4, x5, x6] ∧ Same H H') ⟨_, _, _, _, _, _, rfl, Same.refl _⟩ (fun d σ' H1 hd ⟨x1, x2, x3, x4, x5, x6, eσ, e1⟩ => ?_) (fun σ' H1 ⟨x1, x2, x3, x4, x5, x6, eσ, e1⟩ => kk H1 e1)
    subst eσ
    rw [Int.zero_add]
    have hd2 : d < D.P.length := by omega
    have hrow : D.P[d]? = some D.P[d] := List.getElem?_eq_getElem hd2
    have wd := ok.wide d _ hrow
    refine ⟨_, rfl, a, dx, _, rfl, e1 _ _ h0, rfl, _, rfl, _, D, d, _, rfl, la.mono e1, hrow, _, rfl, by omega, by omega, ?_⟩
    rw [Int.toNat_natCast]
    refine for_range (lo := 0) (n := D.P[d].length) (fun i σ' H' => ∃ x2 x3 x4 x5 x6, σ' = [some (.ref a), some (.int ((d : Nat) : Int)), x2, x3, x4, x5, x6] ∧ Same H H') ⟨_, _, _, _, _, rfl, e1⟩ (fun k σ' H2 hk ⟨x2, x3, x4, x5, x6, eσ, e2⟩ => ?_) (fun σ' H2 ⟨x2, x3, x4, x5, x6, eσ, e2⟩ => ⟨_, _, _, _, _, _, eσ, e2⟩)
    subst eσ
    rw [Int.zero_add]
    have hc : cell D.P d k = some (D.P[d][k]) := by
      unfold cell
      rw [hrow]
      exact List.getElem?_eq_getElem hk
    obtain ⟨r, u0, v0, hi, lo, s0, nd⟩ := ok.nd d k _ hc (by omega)
    have zq := ok.pz _ _ _ hc
    have zh := (ok.pz _ _ _ nd.ehi).1
    have zl := (ok.pz _ _ _ nd.elo).1
    have zg : Sz 48 (r * D.P[d][k]) := nd.rz.times zq.1
    obtain ⟨b1, b2⟩ := nd_below nd
    refine ⟨_, rfl, a, dx, _, rfl, e2 _ _ h0, rfl, _, rfl, _, rfl, _, D, d, k, _, r, u0, v0, hi, lo, s0, rfl, la.mono e2, ok, hc, by omega, nd, fun t g h l H3 e3 ht hg hh hl => ?_⟩
    have e23 := e2.trans e3
    refine ⟨t, _, rfl, ht, rfl, _, _, rfl, _, _, rfl, _, _, rfl, rfl, ?_⟩
    obtain ⟨a', dx', vp', vr', vs'', ea', h0', ⟨b, us, rfl, hb, hp⟩, _⟩ := la.mono e23
    cases ea'
    obtain ⟨u, hu1, bb, ws, rfl, hb2, hrw⟩ := hp.getL hrow
    obtain ⟨z, hz, az⟩ := hrw.getL (List.getElem?_eq_getElem hk)
    refine ⟨_, rfl, _, _, dx', _, _, rfl, h0', c_Lattice T, n_prices T, rfl, _, rfl, b, us, _, _, rfl, rfl, SqL.of hb, atI_nat hu1, _, rfl, bb, ws, _, _, rfl, rfl, SqL.of hb2, atI_nat hz, ?_⟩
    refine ⟨_, rfl, _, rfl, _, _, lo, r * D.P[d][k], rfl, hl, hg, zl.mono (by decide), zg.mono (by decide), _, rfl, ?_⟩
    rw [decide_eq_true b1]
    refine iteF ⟨_, rfl, _, rfl, _, _, r * D.P[d][k], hi, rfl, hg, hh, zg.mono (by decide), zh.mono (by decide), _, rfl, ?_⟩
    rw [decide_eq_true b2]
    exact iteF ⟨_, _, _, _, _, rfl, e23⟩
end
end SL
namespace SL
open PySem PySem.Spec PyProof.Rows L2 TL
section
variable {w : World} {K : PySem.W.Frag} {mg : Str → Option Value} {base : Heap}
def spWeighed (K : PySem.W.Frag) : Sp := fun vs H Q _ => ∃ v D d k q r u v' hi lo s x y ux uy b, vs = [v, .int ((d : Nat) : Int), .int ((k : Nat) : Int), ux, uy] ∧ LatAt K H D v ∧ D.Ok ∧ cell D.P d k = some q ∧ d + 1 < D.P.length ∧ Nd D d k q r u v' hi lo s ∧
  Amt K H ux x ∧ Amt K H uy y ∧ Sz b x ∧ Sz b y ∧ 2 * b + 47 ≤ 8990 ∧ ∀ z H', Same H H' → Amt K H' z ((s * x + (1 - s) * y) / r) → Q z H'
theorem ok_weighed (T : TX w K mg) : Fn w K mg base 6 (He.ga K "weighed") (spWeighed K) := by
  refine fn_weighed (k := 5) T (fun vs H Q E h => ?_) (fun cdv A outer s H vs Q E hr h => ?_)
  · obtain ⟨_, _, _, _, _, _, _, _, _, _, _, _, _, _, _, _, rfl, _⟩ := h
    rfl
  · obtain ⟨v, D, d, k, q, r, u0, v0, hi, lo, s0, x, y, ux, uy, b, rfl, la, ok, hc, hlt, nd, hx, hy, sx, sy, hb, kk⟩ := h
    refine ⟨_, pss_cons (ps_set (i := 5) sc_weighed.nd rfl (.inl rfl) (pe_methF (pv 0) (c_Lattice T) (m_L_share T) (ok_L_share T) rfl hr (pa_cons (pv 1) (pa_cons (pv 2) pa_nil))))
      (pss_one (ps_ret (pe_callF (ok_by T) rfl hr rfl (g_by T) (pa_cons (pe_callF (ok_plus T) rfl hr rfl (g_plus T) (pa_cons (pe_callF (ok_times T) rfl hr rfl (g_times T) (pa_cons (pv 5) (pa_cons (pv 3) pa_nil)))
        (pa_cons (pe_callF (ok_times T) rfl hr rfl (g_times T) (pa_cons (pe_callF (ok_minus T) rfl hr rfl (g_minus T) (pa_cons (pe_gref rfl (g_ONE T)) (pa_cons (pv 5) pa_nil))) (pa_cons (pv 4) pa_nil))) pa_nil)))
        (pa_cons (pe_methF (pv 0) (c_Lattice T) (m_L_rate T) (ok_L_rate T) rfl hr (pa_cons (pv 1) (pa_cons (pv 2) pa_nil))) pa_nil))))), ?_⟩
    obtain ⟨a, dx, vp, vr, vs', rfl, h0, hrest⟩ := id la
    refine ⟨_, rfl, a, dx, _, rfl, h0, rfl, _, rfl, _, rfl, _, D, d, k, q, r, u0, v0, hi, lo, s0, rfl, la, ok, hc, hlt, nd, fun z1 H1 e1 hz1 => ?_⟩
    refine ⟨_, rfl, _, rfl, z1, ux, s0, x, 3, b, rfl, hz1, hx.mono e1, nd.sz, sx, by omega, fun z2 H2 e2 hz2 => ?_⟩
    refine ⟨_, rfl, _, z1, 1, s0, 3, 3, rfl, one_at T H2, hz1.mono e2, ⟨by decide, by decide⟩, nd.sz, by decide, fun z3 H3 e3 hz3 => ?_⟩
    refine ⟨_, rfl, z3, uy, 1 - s0, y, 3, b, rfl, hz3, hy.mono ((e1.trans e2).trans e3), nd.sz1, sy, by omega, fun z4 H4 e4 hz4 => ?_⟩
    refine ⟨z2, z4, s0 * x, (1 - s0) * y, 3 + b, 3 + b, rfl, hz2.mono (e3.trans e4), hz4, nd.sz.times sx, nd.sz1.times sy, by omega, fun z5 H5 e5 hz5 => ?_⟩
    have e15 := (((e1.trans e2).trans e3).trans e4).trans e5
    refine ⟨_, rfl, a, dx, _, rfl, e15 _ _ h0, rfl, _, rfl, _, rfl, _, D, d, k, q, r, rfl, la.mono e15, ok, hc, hlt, nd.rt, fun ur hur => ?_⟩
    exact ⟨z5, ur, _, r, 3 + b + (3 + b) + 1, 40, rfl, hz5, hur, (nd.sz.times sx).plus (nd.sz1.times sy), nd.rz, by omega, nd.rp, fun z6 H6 e6 hz6 => kk z6 H6 (e15.trans e6) hz6⟩
def spChosen (K : PySem.W.Frag) : Sp := fun vs H Q _ => ∃ h u v x y, vs = [.str (owS h), u, v] ∧ Amt K H u x ∧ Amt K H v y ∧ Sz 100000 x ∧ Sz 100000 y ∧ Q (.bl (chosen h x y)) H
theorem ok_chosen (T : TX w K mg) : Fn w K mg base 3 (He.ga K "chosen") (spChosen K) := by
  refine fn_chosen (k := 2) T (fun vs H Q E h => ?_) (fun cdv A outer s H vs Q E hr h => ?_)
  · obtain ⟨_, _, _, _, _, rfl, _⟩ := h
    rfl
  · obtain ⟨ho, u, v, x, y, rfl, hx, hy, sx, sy, kk⟩ := h
    refine ⟨_, pss_one (ps_ret (pe_ifExp (pt_cmpR op_eq (pv 0) pe_str (nomark _)) (pe_callF (ok_less T) rfl hr rfl (g_less T) (pa_cons (pv 2) (pa_cons (pv 1) pa_nil))) (pe_callF (ok_less T) rfl hr rfl (g_less T) (pa_cons (pv 1) (pa_cons (pv 2) pa_nil))))), ?_⟩
    refine ⟨_, rfl, rfl, _, rfl, ?_⟩
    rw [ow_h ho]
    cases ho with
    | true => exact iteT ⟨_, rfl, _, rfl, _, _, y, x, rfl, hy, hx, sy, sx, kk⟩
    | false => exact iteF ⟨_, rfl, _, rfl, _, _, x, y, rfl, hx, hy, sx, sy, kk⟩
def spLookB (K : PySem.W.Frag) : Sp := fun vs H Q _ => ∃ v D p nv n, vs = [v, .ref p] ∧ LatAt K H D v ∧ D.Ok ∧ H p = some (.lst [nv]) ∧ NAt K H n nv ∧ ndep n ≤ 12 ∧ ∀ H', Same H H' → Q .non H'
theorem ok_look_both (T : TX w K mg) : Fn w K mg base 15 (He.ga K "look_both") (spLookB K) := by
  refine fn_look_both (k := 14) T (fun vs H Q E h => ?_) (fun cdv A outer s H vs Q E hr h => ?_)
  · obtain ⟨_, _, _, _, _, rfl, _⟩ := h
    rfl
  · obtain ⟨v, D, p, nv, n, rfl, la, ok, hp, hn, hd, kk⟩ := h
    refine ⟨_, pss_cons (ps_if (pt_not (pt_val (pe_callB (cr_all rfl) rfl (b_all T) (by decide +kernel) (pa_cons (pe_lc (own := [("note", 6)]) (g := gName 6) (tt := tYes) (te := tCallF (spWhole K) (tCons (tVar 6) tNil)) rfl sc_look_both.nd (pi_list (pv 1)) (blkOk_by (own := [("note", 6)]) (N := ["lattice", "notes", "win", "date", "node", "held", "note"]) (sc := defScope s_look_both) (by decide +kernel))
        (fun _ _ _ _ _ => pg_name (i := 6) sc_look_both.nd rfl (.inl rfl)) (fun _ _ _ _ _ => pts_nil) (fun _ _ _ _ _ => pe_callF (ok_is_whole T) rfl hr rfl (g_is_whole T) (pa_cons (pv 6) pa_nil))) pa_nil)))) pss_never pss_nil)
      (pss_cons (ps_set (i := 2) sc_look_both.nd rfl (.inl rfl) (pe_methF0 (pv 0) (c_Lattice T) (m_L_win T) (ok_L_win T) rfl hr))
      (pss_one (ps_if (pt_cmpR op_notN (pv 2) pe_non (nomark _)) pss_never pss_nil))), ?_⟩
    refine ⟨_, rfl, p, rfl, ⟨_, SqL.of hp⟩, fun X hX => ?_⟩
    refine lc_list (K := K) (xs := [nv]) (fun i H' => Same H H' ∧ H' X = some (.lst ((List.replicate i true).map V.bl))) ⟨Same.new hX, upd_same⟩ (fun i H' _ q => SqL.of (q.1 _ _ hp)) (fun i x H1 hx ⟨e1, h1⟩ => ?_) (fun H1 ⟨e1, h1⟩ => ?_)
    · have ei : i = 0 := by
        cases i with
        | zero => rfl
        | succ i => simp at hx
      subst ei
      obtain rfl : nv = x := by simpa using hx
      refine ⟨rfl, ?_⟩
      refine ⟨_, rfl, nv, n, rfl, hn.mono e1, hd, fun H2 e2 => ⟨[], e2 _ _ h1, by decide, same_mut (e1.trans e2) hX, upd_same⟩⟩
    · refine ⟨X, [true], rfl, SqL.of h1, _, rfl, iteF ?_⟩
      obtain ⟨a, dx, vp, vr, vs', rfl, h0, hrest⟩ := id la
      refine ⟨_, rfl, a, dx, _, rfl, e1 _ _ h0, rfl, _, D, rfl, la.mono e1, ok, fun H2 e2 => ?_⟩
      exact ⟨_, rfl, rfl, _, rfl, iteF (kk H2 (e1.trans e2))⟩
end
end SL
namespace SL
open PySem PySem.Spec PyProof.Rows L2
/-! ### dicts with tuple keys: stores, displays of one pair, comprehensions; update by a dict -/
theorem tk_room {A : Around} {P : Program} {w : World} (hu : A.units < cLine) : (tupleKind (mixKind P w)).room A := hu
section
variable {X : Cx} {pins : List (Addr × Obj)} {σ : L2.St} {H : Hp} {s : Shared} {E : Value → Shared → Prop}
theorem set_dT {A : Around} {D b : Addr} {kvs : List (List Key × V)} {k : List Key} {v : V} {r : Value} {Q : Unit → Shared → Prop} (hu : A.units < cLine) (I : Inv X pins σ H s) (hD : H D = some (.dT kvs)) (hb : H b = some (.tup (k.map kV))) (hz : kvs.length < sizeLine)
    (rv : L2.RelV v r) (q : ∀ s', Inv X pins σ (upd H D (.dT (putK kvs k v))) s' → Q () s') : wpAny (model X.prog X.w) A (dictSet D (.ref b) r) Q E s := by
  obtain ⟨z, hd, xs, rel, dd⟩ := dt_of I.hok hD
  have zx : xs.length ≤ sizeLine := by rw [← Paired.length rel]; exact z
  have zp := length_putK kvs k v
  refine wpAny_dictSet_heap (hsz := zx) (tk_room hu) (key_of I.hok hb) dd fun h' dd' same => q _ ?_
  obtain ⟨ob, es, ep, e1, e2, e3, e4, _, e5⟩ := dd'
  refine d_write I (by rw [hD]; exact True.intro) same ⟨ob, e1⟩ ⟨by omega, hd, _, (rel.put k hb rv).keeps fun c ys ec => ?_, ob, es, ep, e1, e2, e3, e4, e5⟩
  rw [upd_ne (ne_of ec hD (fun z => nomatch z))]
  exact ec
end
/-- {k: v}, k a tuple -/
def tDisp1 (tk tv : TE) : TE := fun σ H Q => ∀ p, H p = none → tk σ (upd H p (.dT [])) fun x H1 => tv σ H1 fun y H2 => ∃ b k, x = .ref b ∧ H2 b = some (.tup (k.map kV)) ∧ H2 p = some (.dT []) ∧ Q (.ref p) (upd H2 p (.dT [(k, y)]))
theorem pe_disp1 {X : Cx} {pos : Pos} {k v : Expr} {tk tv : TE} (hu : X.A.units + 64 < cLine) (hk : PE X k tk) (hv : PE X v tv) : PE X (.Dict [some k] [v] pos) (tDisp1 tk tv) := by
  refine ⟨fun pins s σ H Q I q => ?_⟩
  have fr := I.hok.fresh (Nat.le_refl s.heap.objs.size)
  have I1 := I.laid (a := s.heap.objs.size) (o := .dT []) (h' := s.heap.push { cls := .type "dict", data := .dict #[] }) (t' := s.toks) (fun _ _ z => Heap.get?_push_of_some _ z) (Nat.le_refl _) (dt_empty s.heap I.big)
  rw [arm_eval_Dict, zip_pairTrees [some k] [v] X.env pos rfl rfl, dictDisplay_pairs _ (by simp [pairTrees]) (by simp [pairTrees])]
  refine wpAny_bind (wpAny_standAt (wpAny_bind ?_))
  unfold subDict
  refine wpAny_bind (wpAny_alloc (wpAny_bind (wpAny_holding ?_)))
  rw [if_pos (by simp [pairTrees])]
  have ev : wpAny (model X.prog X.w) X.A (evalPairs (pairTrees [some k] [v] X.env pos)) (fun vs s' => ∃ u r x y H2, vs = [(u, r)] ∧ Inv X pins σ H2 s' ∧ L2.RelV x u ∧ L2.RelV y r ∧ ∃ b k, x = .ref b ∧ H2 b = some (.tup (k.map kV)) ∧ H2 s.heap.objs.size = some (.dT []) ∧ Q (.ref s.heap.objs.size) (upd H2 s.heap.objs.size (.dT [(k, y)]))) X.xe
      { s with heap := s.heap.push { cls := .type "dict", data := .dict #[] } } := by
    refine pairTrees_cons_walk (thn (hk.run pins _ σ _ _ I1 (q _ fr)) fun u s1 ⟨x, H1, I2, rx, q1⟩ => thn (hv.run pins s1 σ H1 _ I2 q1) fun r s2 ⟨y, H2, I3, ry, q2⟩ => pairTrees_nil_walk ⟨u, r, x, y, H2, rfl, I3, rx, ry, q2⟩)
  refine wpAny_bind (thn ev fun vs s1 ⟨u, r, x, y, H2, e, I2, rx, ry, b, kk, ex, hb, hp, q2⟩ => ?_)
  subst e ex
  cases rx
  refine wpAny_holding (wpAny_bind ?_)
  rw [List.forIn_cons]
  refine wpAny_bind (wpAny_bind (set_dT (by omega) I2 hp hb (by decide) ry fun s' I' => wpAny_pure (wpAny_pure (wpAny_pure (wpAny_pure (wpAny_pure ⟨.ref s.heap.objs.size, _, I', rfl, q2⟩))))))
/-! ### d.update(e), both by ints and texts -/
theorem mt_updD {X : Cx} : MtR X "dict.update" (fun x xs H Q => ∃ a b kvs ls, x = .ref a ∧ xs = [.ref b] ∧ a ≠ b ∧ H a = some (.dK kvs) ∧ Rd H b (.dK ls) ∧ kvs.length + ls.length ≤ 1000000 ∧ Q .non (upd H a (.dK (mergeK kvs ls)))) := by
  intro pins s σ H x xs v us Q I rx rs h
  obtain ⟨a, b, kvs, ls, rfl, rfl, ne, ha, hb, hz, q⟩ := h
  cases rx
  cases rs with
  | cons rb rs =>
  cases rs
  cases rb
  obtain ⟨z1, h1, vs, r1, d1⟩ := dk_of I.hok ha
  obtain ⟨z2, h2, ws, r2, d2⟩ := dk_rd I.hok hb
  have l1 := r1.length
  have l2 := r2.length
  have lm := length_mergeK ls kvs
  have big : 1000000 ≤ sizeLine := by decide
  refine call_meetsIn PySem.F.slot_dict_update d1.typeIs PySem.F.entry_dict_update (PySem.F.args_dict_update_2 _ _) (meets_dict_update (mixKind X.prog X.w) a b ne h2) ⟨vs, ws, d1, d2, by omega, fun h' dm _ same => ?_⟩
  have he : ∃ o, h'.get? a = some o := let ⟨o, _, _, ho, _⟩ := dm; ⟨o, ho⟩
  exact ⟨.non, _, d_write (t' := s.toks) I (by rw [ha]; exact True.intro) same he (dk_new (by omega) h1 (r2.merge r1) dm), rfl, q⟩
end SL
namespace SL
open PySem PySem.Spec PyProof.Rows L2
/-! ### {k: v for target in iter}, k a tuple: the way of DictComp with another table -/
def tDcT (wi : TI) (g : TG) (tk tv : TE) (own : List Nat) : TE := fun σ H Q => wi σ H fun J H1 => ∀ D, H1 D = none → ∃ W : Nat → Nat → Hp → Prop, (∃ m, W 0 m (upd H1 D (.dT []))) ∧ ∀ i m H, W i m H →
  (J.stop i H ∧ Q (.ref D) H) ∨ (J.go i H ∧ ∃ N : Hp → Prop, (∀ H', N H' → ∃ m', m' < m ∧ W (i + 1) m' H') ∧ ∀ x H', J.yld i H x H' → g x (wipe σ own) H' fun σ2 H2 => wipe σ2 own = wipe σ own ∧
    tk σ2 H2 fun y H4 => tv σ2 H4 fun z H5 => ∃ kvs k b, y = .ref b ∧ H5 b = some (.tup (k.map kV)) ∧ H5 D = some (.dT kvs) ∧ kvs.length < sizeLine ∧ N (upd H5 D (.dT (putK kvs k z))))
abbrev AllBlk (X : Cx) (scope : Scope) (P : Cx → Prop) : Prop := ∀ (s : Shared) (H : Hp) (C : Addr) (cl : List (Str × Addr)) (fp : List Addr), P (X.blk s H scope (compEnvC scope cl C X.env) fp)
theorem pe_dcT {X : Cx} {kx vx tg iter : Expr} {scope : Scope} {own : List (Str × Nat)} {pos : Pos} {wi : TI} {g : TG} {tk tv : TE} (hu : X.A.units + 64 < cLine) (calm : X.calm = true) (nd : X.N.Nodup) (pi : PI X tg iter wi) (ok : BlkOk X.N X.env.scope scope own)
    (pg : AllBlk X scope fun Y => L2.PG Y tg g) (pk : AllBlk X scope fun Y => PE Y kx tk) (pv' : AllBlk X scope fun Y => PE Y vx tv) (fold : ∀ x, foldedSetIterable iter X.env x = pure x := by intro _; rfl) :
    PE X (.DictComp kx vx [⟨tg, iter, [], 0⟩] scope pos) (tDcT wi g tk tv (own.map (·.2))) := by
  refine ⟨fun pins s0 σ H Q I want => ?_⟩
  rw [arm_eval_DictComp]
  have frees : ∀ y ∈ scope.names, y.2 = .free → ∃ c, X.env.cells.lookup y.1 = some c := fun y hy e =>
    (ok.free y hy e).elim (fun k => I.ok.has _ (.inl k)) fun k => I.ok.has _ (.inr k)
  refine wpAny_comprehension_free rfl fold (closure_ok frees) ok.kind (fun y hy e => by rw [ok.uniq y hy, e]) (thn (pi.run pins s0 σ H _ I want) fun xv t1 hx => thn hx fun itv t2 h2 => ?_)
  obtain ⟨it, fp, tn, J, Ha, e, Ia, T, sta, fpa, q⟩ := h2
  subst e
  refine wpAny_newObj_type (newEnv_comp ?_)
  generalize eD : t2.heap.objs.size = D
  have freeD : Ha D = none := Ia.hok.fresh (Nat.le_of_eq eD)
  obtain ⟨W, ⟨m0, w0⟩, turn⟩ := q D freeD
  generalize e3 : ({ t2 with heap := t2.heap.push { cls := .type "dict", data := .dict #[] } } : Shared) = t3
  have hp3 : t3.heap = t2.heap.push { cls := .type "dict", data := .dict #[] } := by rw [← e3]
  have Ib : Inv X pins σ (upd Ha D (.dT [])) t3 := by
    subst e3
    subst eD
    exact Ia.laid (t' := t2.toks) (fun b o z => Heap.get?_push_of_some _ z) (Nat.le_refl _) (dt_empty t2.heap Ia.big)
  have older : ∀ b ∈ fp, b < t2.heap.objs.size := fun b hb => by
    obtain ⟨o, z, _⟩ := T.obj _ _ sta b hb
    exact Heap.lt_size z
  have fpb : ∀ b ∈ fp, FpOk X pins (upd Ha D (.dT [])) b ∧ b < t3.heap.objs.size := fun b hb => by
    have lt := older b hb
    refine ⟨⟨?_, (fpa b hb).2⟩, ?_⟩
    · rw [upd_ne (eD ▸ Nat.ne_of_lt lt)]
      exact (fpa b hb).1
    · rw [hp3, Heap.size_push]
      exact Nat.lt_succ_of_lt lt
  have stb : tn 0 t3.heap := T.keep _ _ _ sta fun b _ o z => hp3 ▸ Heap.get?_push_of_some _ z
  have Ic := block_start Ib ok nd fpb
  have g1 := pg t3 (upd Ha D (.dT [])) t3.heap.objs.size (cellsFrom (t3.heap.objs.size + 1) scope.names (cloFrom X.env.cells scope.names [])) fp
  have k1 := pk t3 (upd Ha D (.dT [])) t3.heap.objs.size (cellsFrom (t3.heap.objs.size + 1) scope.names (cloFrom X.env.cells scope.names [])) fp
  have v1 := pv' t3 (upd Ha D (.dT [])) t3.heap.objs.size (cellsFrom (t3.heap.objs.size + 1) scope.names (cloFrom X.env.cells scope.names [])) fp
  have post : ∀ s' m H', Inv X pins σ H' s' → Q (.ref D) H' → s'.heap.Ns t3.heap.objs.size m → FpOk X pins H' t3.heap.objs.size → compPost (model X.prog X.w) X.A X.xe none (EP X pins σ Q) (.ref D) t3.heap.objs.size (.ok .next) s' := fun s' m H' I' qq hn f =>
    ⟨m, hn, fun h'' sb => ⟨.ref D, H', I'.turned (t' := s'.toks) (fun b o hb z => (sb.2 b hb).trans z) f.1 f.2.1 f.2.2.2.1 f.2.2.2.2.1 f.2.2.2.2.2, rfl, qq⟩⟩
  change codeAny _ _ (.compStart _ 0 (.ref it) (.ref D) (compEnvC scope (cellsFrom (t3.heap.objs.size + 1) scope.names (cloFrom X.env.cells scope.names [])) t3.heap.objs.size X.env)) _ { t3 with heap := pushCells (t3.heap.push { cls := .type "dict", data := .dict #[] }) scope.names }
  generalize ec : compEnvC scope (cellsFrom (t3.heap.objs.size + 1) scope.names (cloFrom X.env.cells scope.names [])) t3.heap.objs.size X.env = ce at Ic g1 k1 v1 ⊢
  have cl : ce.locals = t3.heap.objs.size := by rw [← ec]; rfl
  have nof : ∀ b ∈ fp, (upd Ha D (.dT [])) b = none := fun b hb => (fpb b hb).1.1
  generalize eH : upd Ha D (.dT []) = Hb at Ib Ic g1 k1 v1 w0 nof fpb
  generalize e4 : ({ t3 with heap := pushCells (t3.heap.push { cls := .type "dict", data := .dict #[] }) scope.names } : Shared) = t4 at Ic ⊢
  have stc : tn 0 t4.heap := T.keep _ _ _ stb fun b _ o z => e4 ▸ pushCells_keeps _ _ _ _ (Heap.get?_push_of_some _ z)
  have stays : ∀ {σ' : L2.St} {H' : Hp} {s' : Shared}, Inv (X.blk t3 Hb scope ce fp) [] σ' H' s' → (∀ b ∈ fp, H' b = none) → ∀ b ∈ fp, FpOk (X.blk t3 Hb scope ce fp) [] H' b := fun I' hn b hb =>
    ⟨hn b hb, (I'.ok.exf b hb).1, I'.ok.exfs b hb, .inl hb, fun x c z => (I'.ok.exf b hb).2 x c z, fun p hp => nomatch (show p ∈ ([] : List (Addr × Obj)) from hp)⟩
  suffices loop : codeAny (model X.prog X.w) X.A (.compLoop (.DictComp kx vx [⟨tg, iter, [], 0⟩] scope pos) 0 (.ref it) (.ref D) ce) (compPost (model X.prog X.w) X.A X.xe none (EP X pins σ Q) (.ref D) t3.heap.objs.size) t4 from
    codeAny_compStart_dict loop (T.self X.A 0 _ _ _ stc loop)
  refine compLoop_anyD (fun n s' => ∃ i H', Inv (X.blk t3 Hb scope ce fp) [] (wipe σ (own.map (·.2))) H' s' ∧ tn i s'.heap ∧ (∀ b ∈ fp, H' b = none) ∧ W i n H') ?_ m0 ⟨0, Hb, Ic, stc, nof, w0⟩
  rintro n t5 ⟨i, H5, I5, st5, n5, w5⟩
  rcases turn i n H5 w5 with ⟨stop, qq⟩ | ⟨go, N, hN, step⟩
  · refine thnF (T.done (X.blk t3 Hb scope ce fp) rfl rfl rfl calm i [] t5 _ H5 (fun _ _ => False) I5 (stays I5 n5) st5 stop) fun r t6 ⟨er, I6⟩ => ?_
    subst er
    have I7 : Inv X pins σ H5 t6 := Ib.call' (ch := fp) I6.os I6.base I6.hok I6.bare fun b hb => ⟨(fpb b hb).1.2.2.2.1, (fpb b hb).1.2.1, (fpb b hb).1.2.2.2.2.1, (fpb b hb).1.2.2.2.2.2⟩
    have nc : H5 t3.heap.objs.size = none := cl ▸ (show H5 ce.locals = none from I6.free)
    obtain ⟨m, hm, _⟩ := I6.loc
    exact post t6 m H5 I7 qq (cl ▸ (show t6.heap.Ns ce.locals m from hm)) (Ib.fpOk (Nat.le_refl _) nc)
  · refine thnF (T.item (X.blk t3 Hb scope ce fp) rfl rfl rfl calm i [] t5 _ H5 (fun _ _ => False) I5 (stays I5 n5) st5 go) fun r t6 ⟨u, er, h6⟩ => ?_
    subst er
    refine thnF h6 fun _ t7 ⟨x, H7, I7, r7, y7, st7, n7⟩ => ?_
    have Ip := I7.pinned (stays I7 n7) (T.obj _ _ st7)
    refine thnF (g1.run _ t7 _ H7 x u _ Ip r7 (step x H7 y7)) fun _ t8 ⟨σ8, H8, I8, w8, q8⟩ => ?_
    refine wpAny_tests_nil ?_
    simp only [if_true]
    refine thnF (k1.run _ t8 σ8 H8 _ I8 q8) fun z t9 ⟨yk, H9, I9, r9, q9⟩ => ?_
    refine thnF (v1.run _ t9 σ8 H9 _ I9 q9) fun z2 ta ⟨yv, H10, I10, r10, kvs, k, b, ek, hb, hD10, hz, nx⟩ => ?_
    subst ek
    cases r9
    refine set_dT (X := X.blk t3 Hb scope ce fp) (show X.A.units < cLine by omega) I10 hD10 hb hz r10 fun tb I11 => ?_
    obtain ⟨m', lt, w'⟩ := hN _ nx
    have old : ∀ b ∈ fp, ∀ o, t7.heap.get? b = some o → tb.heap.get? b = some o ∧ (upd H10 D (.dT (putK kvs k yv))) b = none := fun b hb o z =>
      ⟨(I11.pin (b, o) (List.mem_append_right _ (List.mem_append_right _ (mem_pinsAt hb z)))).1, (I11.pin (b, o) (List.mem_append_right _ (List.mem_append_right _ (mem_pinsAt hb z)))).2.1⟩
    have len : (wipe σ (own.map (·.2))).length = σ8.length := by rw [← w8, wipe_length]
    refine ⟨m', lt, i + 1, _, (I11.unpinned (pins := [])).weak len (fun j v z => ?_), T.keep _ _ _ st7 fun b hb o z => (old b hb o z).1, fun b hb => ?_, w'⟩
    · rw [← w8] at z
      exact (wipe_some z).1
    · obtain ⟨o, z, _⟩ := T.obj _ _ st7 b hb
      exact (old b hb o z).2
end SL
namespace SL
open PySem PySem.Spec PyProof.Rows L2
theorem paired_at {α β : Type} {F : α → β → Prop} : ∀ {xs : List α} {ys : List β}, Paired F xs ys → ∀ {i : Nat} {y : β}, ys[i]? = some y → ∃ x, xs[i]? = some x ∧ F x y
  | _, _, .nil, _, _, h => by cases h
  | _, _, .cons r t, 0, _, h => ⟨_, rfl, Option.some.inj h ▸ r⟩
  | _, _, .cons r t, i + 1, _, h => paired_at t (i := i) h
/-! ### sorted(d), d's keys pairs of an int and a text -/
def IsIS (h : Heap) (v : Value) : Prop := ∃ a o i t x u n, v = .ref a ∧ h.get? a = some o ∧ o.cls = .type "tuple" ∧ o.data = .seq #[.int i t, .str x u] n
theorem IsIS.keeps {h h' : Heap} {v : Value} (p : IsIS h v) (k : ∀ b o, h.get? b = some o → o.cls = .type "tuple" → h'.get? b = some o) : IsIS h' v := by
  obtain ⟨a, o, i, t, x, u, n, e, ho, hc, hd⟩ := p
  exact ⟨a, o, i, t, x, u, n, e, k _ _ ho hc, hc, hd⟩
section
variable {prog : Program} {w : World} {A : Around} {E : Value → Shared → Prop} {s : Shared}
theorem is_tot {vs : List Value} (hp : ∀ v ∈ vs, IsIS s.heap v) : Srt.Tot prog w A s (tuples' true) (fun p => p.1 ∈ vs) := by
  intro p q hm hm'
  obtain ⟨a, o, i, t, x, u, n, e, ho, hc, hd⟩ := hp _ hm
  obtain ⟨a', o', i', t', x', u', n', e', ho', hc', hd'⟩ := hp _ hm'
  rw [e, e']
  refine ⟨if i = i' then (if x = x' then false else decide (x.cps.toList < x'.cps.toList)) else decide (i < i'), ?_⟩
  refine PySem.W.kat_lt ho hd ho' hd' ?_
  change PySem.W.KatLex prog w A true (decide (2 < 2)) _ [(.int i t, .int i' t'), (.str x u, .str x' u')] 0 s
  refine PySem.W.kat_cons (SeqAt.EqAt.int_int i t i' t' prog w _ _ ?_)
  refine PySem.W.kat_go (fun e1 => ?_) (fun e1 => ?_)
  · have ei : i = i' := by simpa using e1
    rw [if_pos ei]
    refine PySem.W.kat_yes (PySem.W.kat_cons (SeqAt.EqAt.str_str x u x' u' prog w _ _ ?_))
    refine PySem.W.kat_go (fun e2 => ?_) (fun e2 => ?_)
    · have ex : x = x' := by simpa using e2
      rw [if_pos ex]
      exact PySem.W.kat_yes (PySem.W.kat_nil ⟨rfl, rfl⟩)
    · have ex : ¬ x = x' := by simpa using e2
      rw [if_neg ex]
      exact PySem.W.kat_no (PySem.W.kat_one _ _ (PyProof.Rows.lt_str ⟨rfl, rfl⟩))
  · have ei : ¬ i = i' := by simpa using e1
    rw [if_neg ei]
    exact PySem.W.kat_no (oneLt_int ⟨rfl, rfl⟩)
theorem is_firsts {h : Heap} : ∀ {vs : List Value}, (∀ v ∈ vs, IsIS h v) → ∃ fs : List Value, PySem.W.KatTups h vs fs ∧ fs.length = vs.length ∧ ∀ f ∈ fs, ∃ x t, f = Value.int x t
  | [], _ => ⟨[], PySem.W.KatTups.nil, rfl, fun _ hm => by simp at hm⟩
  | v :: vs, hp => by
    obtain ⟨fs, h1, h2, h3⟩ := is_firsts (vs := vs) fun v' hm => hp v' (List.mem_cons_of_mem _ hm)
    obtain ⟨a, o, i, t, x, u, n, e, ho, hc, hd⟩ := hp v (List.mem_cons_self ..)
    subst e
    refine ⟨.int i t :: fs, PySem.W.KatTups.cons ho hc hd rfl h1, by rw [List.length_cons, List.length_cons, h2], fun f hm => ?_⟩
    rcases List.mem_cons.mp hm with rfl | hm
    · exact ⟨i, t, rfl⟩
    · exact h3 f hm
theorem is_sortable {a : Addr} {vs : List Value} (h0 : 0 < vs.length) (hp : ∀ v ∈ vs, IsIS s.heap v) (ha : ∀ o, s.heap.get? a = some o → o.cls ≠ .type "tuple") : Srt.Sortable prog w A s a vs := by
  intro h' keep
  have hp' : ∀ v ∈ vs, IsIS h' v := fun v hm => (hp v hm).keeps fun b o e c => keep b o (fun z => by subst z; exact ha o e c) e
  obtain ⟨fs, h1, h2, h3⟩ := is_firsts hp'
  refine ⟨tuples' true, fun Q E hq => ?_, is_tot hp'⟩
  refine PySem.W.kat_kind (T := .type "int") h1 (by omega) (fun f hm => ?_) (by rfl) ?_
  · obtain ⟨x, t, rfl⟩ := h3 f hm
    exact PySem.W.Looks.now
  · have e : (Value.type "int" != Value.type "tuple") = true := by decide +kernel
    rw [e]
    exact hq
end
section
variable {X : Cx}
theorem cr_sortedT (hcalm : X.calm = true) : CallR X (.builtin "sorted") (fun xs H Q => ∃ (d : Addr) (kvs : List (List Key × V)), xs = [.ref d] ∧ Rd H d (.dT kvs) ∧ (∀ p ∈ kvs, ∃ i x, p.1 = [Sum.inl i, Sum.inr x]) ∧
    ∀ p kvs' bs, kvs'.Perm kvs → IsKeys H kvs' bs → H p = none → Q (.ref p) (upd H p (.lst (bs.map V.ref)))) := by
  intro pins s σ H xs us Q I r q
  obtain ⟨d, kvs, ex, hd, hks, q⟩ := q
  subst ex
  obtain ⟨u, eu, rx⟩ := vals1 r
  subst eu
  cases rx
  obtain ⟨z, hs, ks, pr, o, es, ep, ho, hx, hdt, he, hn⟩ := (show ObjOk X.prog X.w H s.heap d (.dT kvs) from hd.ok I.hok)
  have l1 : es.size = ks.length := size_of_entries he
  have l2 : kvs.length = ks.length := Paired.length pr
  have h16 : es.size ≤ sizeLine := by omega
  refine Calls.call_function_entry PyProof.Rows.kind_sorted PyProof.Rows.plain_sorted PyProof.Rows.entry_sorted (PyProof.Rows.args_sorted1 _) ?_
  unfold Builtin.«sorted»
  refine wpAny_bind (m := checkCount "sorted" 1 1 _) (wpAny_pure ?_)
  refine wpAny_bind (PySem.W.kdu_collect (A := X.A.in1) (kdl_raw hs hx hdt) (I.ok.hd hcalm) ho h16 fun h' tk acc hk it => ?_)
  have ea : acc.toList = (ks.map fun x => x.2.1).map Value.ref := by
    have hl : acc.toList.length = ks.length := by rw [Array.length_toList, it.1]; exact l1
    apply List.ext_getElem?
    intro j
    rw [List.getElem?_map, List.getElem?_map]
    cases hj : acc.toList[j]? with
    | none =>
      have h1 := List.getElem?_eq_none_iff.mp hj
      rw [List.getElem?_eq_none (by omega)]
      rfl
    | some v =>
      obtain ⟨en, hen, hv⟩ := it.2 j v (by rw [← Array.getElem?_toList]; exact hj)
      have qe := entry_at he j
      rw [hen] at qe
      cases hb : ks[j]? with
      | none =>
        rw [hb] at qe
        exact nomatch (show some en = none from qe)
      | some b =>
        rw [hb] at qe
        have e2 : en = entryOfKey (tupleKind (mixKind X.prog X.w)) b := Option.some.inj qe
        rw [hv, e2]
        rfl
  have I1 : Inv X pins σ H { s with heap := h', toks := tk } := I.kept hk
  have hal : acc.toList.length ≤ sizeLine := by rw [ea, List.length_map, List.length_map]; omega
  refine wpAny_bind (wpAny_newList ?_ hal)
  have hoL : (h'.push (seqObj "list" acc.toList.toArray 0)).get? h'.objs.size = some (seqObj "list" acc.toList.toArray 0) := Heap.get?_push_size _ rfl
  change wpAny _ _ _ _ _ { s with heap := h'.push (seqObj "list" acc.toList.toArray 0), toks := tk }
  have ik := isKeys_of pr
  have hall : ∀ v ∈ acc.toList, IsIS h' v := fun v hv => by
    rw [ea] at hv
    obtain ⟨b, hb, rfl⟩ := List.mem_map.mp hv
    obtain ⟨j, hj⟩ := List.mem_iff_getElem?.mp hb
    obtain ⟨kv, hkv, hb2⟩ := paired_at ik hj
    obtain ⟨i, x, ek⟩ := hks kv (List.mem_of_getElem? hkv)
    rw [ek] at hb2
    obtain ⟨_, its2, r2, o2, ho2, hc2, n2, hd2⟩ := I1.hok _ _ hb2
    obtain ⟨u1, u2, rfl, ⟨t1, ri⟩, ⟨t2, rj⟩⟩ := vals2 r2
    subst ri
    subst rj
    exact ⟨b, o2, i, t1, x, t2, n2, rfl, ho2, hc2, hd2⟩
  refine wpAny_bind (wpAny_holding (wpAny_call_entry PyProof.Rows.slot_list_sort ⟨_, hoL, rfl⟩ PyProof.Rows.entry_list_sort
    (Srt.list_sort_any (s := { s with heap := h'.push (seqObj "list" acc.toList.toArray 0), toks := tk }) hoL hal (fun h2 => is_sortable (by omega) (fun v hv => (hall v hv).keeps fun b o e _ => Heap.get?_push_of_some _ e) fun o e => ?_) fun out hp => ⟨_, rfl, ?_⟩)
    (PyProof.Rows.args_list_sort _)))
  · have e' : some o = some (seqObj "list" acc.toList.toArray 0) := e.symm.trans hoL
    cases e'
    intro c
    exact absurd (Value.type.inj c) (by decide)
  · obtain ⟨e', he'⟩ := PyProof.Rows.sortedHeap_at (vs := acc.toList) (out := out.toArray) hoL
    rw [ea] at hp
    obtain ⟨bs, pb, eb⟩ := perm_lift Value.ref hp (ks.map fun x => x.2.1) rfl
    obtain ⟨zs, pz, ez⟩ := perm_lift Prod.snd pb (kvs.zip (ks.map fun x => x.2.1)) (List.map_snd_zip (by rw [List.length_map]; omega))
    have p1 : (zs.map Prod.fst).Perm kvs := by
      have := pz.map Prod.fst
      rwa [List.map_fst_zip (by rw [List.length_map]; omega)] at this
    have p2 : IsKeys H (zs.map Prod.fst) bs := by
      rw [← ez]
      have : ∀ z ∈ zs, H z.2 = some (.tup (z.1.1.map kV)) := fun z hz => by
        have hz' := pz.mem_iff.mp hz
        obtain ⟨j, hj⟩ := List.mem_iff_getElem?.mp hz'
        rw [List.getElem?_zip_eq_some] at hj
        obtain ⟨kv, hkv, hb2⟩ := paired_at ik hj.2
        rw [hj.1] at hkv
        cases hkv
        exact hb2
      clear pz ez p1
      induction zs with
      | nil => exact .nil
      | cons z zs ih => exact .cons (this z (List.mem_cons_self ..)) (ih fun y hy => this y (List.mem_cons_of_mem _ hy))
    have hlen : (bs.map V.ref).length ≤ sizeLine := by
      rw [List.length_map, pb.length_eq, List.length_map]
      omega
    refine wpAny_pure ⟨_, rfl, .ref h'.objs.size, upd H h'.objs.size (.lst (bs.map V.ref)), I1.laid (t' := tk) (fun b u e => ?_) (Nat.le_refl _)
      (show ObjOk X.prog X.w _ _ _ (.lst (bs.map V.ref)) from ⟨hlen, out, e', by rw [← eb]; exact vals_refs _, he'⟩), rfl, q _ _ _ p1 p2 (I1.hok.fresh (Nat.le_refl _))⟩
    have hb : b < h'.objs.size := Heap.lt_size e
    rw [PyProof.Rows.sortedHeap_old (Nat.ne_of_lt hb) (by rw [size_push']; exact Nat.lt_succ_of_lt hb)]
    exact Heap.get?_push_of_some _ e
end
end SL
namespace SL
open PySem PySem.Spec PyProof.Rows L2 TL
/-! ### a table of notes by node and text -/
def hkey (k : Nat) (n : Note) : List Key := [Sum.inl ((k : Nat) : Int), Sum.inr (nS n)]
def GNote (n : Note) : Prop := ∃ m, m ≤ 3 ∧ NGood m n ∧ ndep n ≤ 12
theorem GNote.inj {n n' : Note} (h : GNote n) (h' : GNote n') (e : nS n = nS n') : n = n' := by
  obtain ⟨m, _, g, _⟩ := h
  obtain ⟨m', _, g', _⟩ := h'
  exact nS_inj g g' e
theorem hkey_inj {k k' : Nat} {n n' : Note} (h : GNote n) (h' : GNote n') (e : hkey k n = hkey k' n') : (k, n) = (k', n') := by
  unfold hkey at e
  have e1 := List.cons.inj e
  have e2 := (List.cons.inj e1.2).1
  have e3 : ((k : Nat) : Int) = ((k' : Nat) : Int) := Sum.inl.inj e1.1
  have e4 := GNote.inj h h' (Sum.inr.inj e2)
  have : k = k' := by omega
  rw [this, e4]
def HE (K : PySem.W.Frag) (H : Hp) (x : Nat × Note) (kv : List Key × V) : Prop := kv.1 = hkey x.1 x.2 ∧ NAt K H x.2 kv.2
/-- the table at d holds just what the list says -/
def HereAt (K : PySem.W.Frag) (H : Hp) (d : Addr) (L : List (Nat × Note)) : Prop := ∃ (kvs : List (List Key × V)) (hs : List (Nat × Note)), H d = some (.dT kvs) ∧ All2 (HE K H) hs kvs ∧ hs.Nodup ∧ (∀ x, x ∈ hs ↔ x ∈ L) ∧ hs.length ≤ L.length ∧ ∀ x ∈ hs, GNote x.2
section
variable {K : PySem.W.Frag} {H H' : Hp}
theorem HE.ts {x : Nat × Note} {kv : List Key × V} (h : HE K H x kv) (t : TS H H') : HE K H' x kv := ⟨h.1, h.2.ts t⟩
theorem all2_val {hs : List (Nat × Note)} {kvs : List (List Key × V)} (h : All2 (HE K H) hs kvs) (g : ∀ x ∈ hs, GNote x.2) {k : Nat} {n : Note} (gn : GNote n) :
    ((k, n) ∈ hs → ∃ v, valV kvs (hkey k n) = some v ∧ NAt K H n v) ∧ ((k, n) ∉ hs → valV kvs (hkey k n) = none) := by
  induction h with
  | nil => exact ⟨fun h => (by cases h), fun _ => rfl⟩
  | @cons a b l m hab t ih =>
    obtain ⟨i1, i2⟩ := ih fun x hx => g x (List.mem_cons_of_mem _ hx)
    have ga := g a (List.mem_cons_self ..)
    by_cases e : b.1 = hkey k n
    · have ea : a = (k, n) := hkey_inj ga gn (hab.1.symm.trans e)
      refine ⟨fun _ => ⟨b.2, valV_pos e, ?_⟩, fun h => absurd (by rw [ea]; exact List.mem_cons_self ..) h⟩
      have := hab.2
      rw [ea] at this
      exact this
    · have ne : (k, n) ≠ a := fun z => e (by rw [hab.1, ← z])
      rw [valV_neg e]
      refine ⟨fun h => i1 ((List.mem_cons.mp h).resolve_left ne), fun h => i2 fun z => h (List.mem_cons_of_mem _ z)⟩
theorem all2_put {hs : List (Nat × Note)} {kvs : List (List Key × V)} (h : All2 (HE K H) hs kvs) (g : ∀ x ∈ hs, GNote x.2) {k : Nat} {n : Note} (gn : GNote n) {v : V} (hv : NAt K H n v) :
    ∃ hs', All2 (HE K H) hs' (putK kvs (hkey k n) v) ∧ (((k, n) ∈ hs ∧ hs' = hs) ∨ ((k, n) ∉ hs ∧ hs' = hs ++ [(k, n)])) := by
  have hval := all2_val h g (k := k) gn
  by_cases e : (k, n) ∈ hs
  · obtain ⟨u, hu, _⟩ := hval.1 e
    have an : (kvs.any fun kv => decide (kv.1 = hkey k n)) = true := by rw [valV_any, hu]; rfl
    refine ⟨hs, ?_, .inl ⟨e, rfl⟩⟩
    unfold putK
    rw [if_pos an]
    clear hval e hu an
    induction h with
    | nil => exact .nil
    | @cons a b l m hab t ih =>
      rw [List.map_cons]
      refine .cons ?_ (ih fun x hx => g x (List.mem_cons_of_mem _ hx))
      by_cases e : b.1 = hkey k n
      · have ea : a = (k, n) := hkey_inj (g a (List.mem_cons_self ..)) gn (hab.1.symm.trans e)
        rw [if_pos e]
        exact ⟨hab.1, by rw [ea]; exact hv⟩
      · rw [if_neg e]
        exact hab
  · rw [putK_new v (hval.2 e)]
    exact ⟨_, h.app (.cons ⟨rfl, hv⟩ .nil), .inr ⟨e, rfl⟩⟩
/-- one more -/
theorem HereAt.put {d : Addr} {L : List (Nat × Note)} (h : HereAt K H d L) {k : Nat} {n : Note} (gn : GNote n) {v : V} (hv : NAt K H n v) :
    ∃ kvs, H d = some (.dT kvs) ∧ kvs.length ≤ L.length ∧ HereAt K (upd H d (.dT (putK kvs (hkey k n) v))) d (L ++ [(k, n)]) := by
  obtain ⟨kvs, hs, hd, ha, nd, mem, len, g⟩ := h
  refine ⟨kvs, hd, by rw [← ha.len]; exact len, ?_⟩
  have t : TS H (upd H d (.dT (putK kvs (hkey k n) v))) := ts_dT hd
  obtain ⟨hs', ha', e | e⟩ := all2_put ha g gn hv (k := k)
  · obtain ⟨e, rfl⟩ := e
    refine ⟨_, _, upd_same, ha'.imp fun _ _ z => z.ts t, nd, fun x => ?_, ?_, g⟩
    · rw [List.mem_append, mem]
      refine ⟨.inl, fun z => z.elim id fun z => ?_⟩
      have : x = (k, n) := by simpa using z
      rw [this]
      exact (mem _).mp e
    · rw [List.length_append, List.length_singleton]
      omega
  · obtain ⟨e, rfl⟩ := e
    refine ⟨_, _, upd_same, ha'.imp fun _ _ z => z.ts t, ?_, fun x => ?_, ?_, fun x hx => ?_⟩
    · exact List.nodup_append.mpr ⟨nd, by simp, fun a ha b hb => by
        have : b = (k, n) := by simpa using hb
        subst this
        exact fun z => e (z ▸ ha)⟩
    · rw [List.mem_append, List.mem_append, mem]
    · rw [List.length_append, List.length_append]
      omega
    · rcases List.mem_append.mp hx with z | z
      · exact g x z
      · have : x = (k, n) := by simpa using z
        rw [this]
        exact gn
theorem HereAt.mono {d : Addr} {L : List (Nat × Note)} (h : HereAt K H d L) (e : Same H H') : HereAt K H' d L := by
  obtain ⟨kvs, hs, hd, ha, r⟩ := h
  exact ⟨kvs, hs, e _ _ hd, ha.imp fun _ _ z => z.ts (ts_same e), r⟩
theorem HereAt.nil {d : Addr} (h : H d = some (.dT [])) : HereAt K H d [] := ⟨[], [], h, .nil, List.nodup_nil, fun _ => Iff.rfl, Nat.le_refl _, fun _ h => nomatch h⟩
theorem HereAt.ts {d : Addr} {L : List (Nat × Note)} (h : HereAt K H d L) (t : TS H H') (hd' : H' d = H d) : HereAt K H' d L := by
  obtain ⟨kvs, hs, hd, ha, r⟩ := h
  exact ⟨kvs, hs, hd'.trans hd, ha.imp fun _ _ z => z.ts t, r⟩
end
/-! ### what follows -/
def outs1 (u v : Nat) (e : List Bool × Rat × Note) : List (Nat × Note) := [(u, e.2.2), (v, e.2.2)]
def outs (D : Dat) (d : Nat) (x : Nat × Note) : List (Nat × Note) :=
  match cell D.P d x.1, cell D.S d x.1 with
  | some q, some (u, v) => ((tree x.2 d q).lvsOf []).flatMap (outs1 u v)
  | _, _ => []
theorem outs_eq {D : Dat} {d k : Nat} {n : Note} {q : Rat} {u v : Nat} (h : cell D.P d k = some q) (h2 : cell D.S d k = some (u, v)) : outs D d (k, n) = ((tree n d q).lvsOf []).flatMap (outs1 u v) := by
  unfold outs
  rw [h, h2]
def nextL (D : Dat) (d : Nat) (hs : List (Nat × Note)) : List (Nat × Note) := if d + 1 < D.P.length then hs.flatMap (outs D d) else []
theorem flat_take {α β : Type} (f : α → List β) {l : List α} {i : Nat} {x : α} (h : l[i]? = some x) : (l.take (i + 1)).flatMap f = (l.take i).flatMap f ++ f x := by
  rw [List.take_add_one, h, List.flatMap_append]
  simp
end SL
namespace SL
open PySem PySem.Spec PyProof.Rows L2 TL
theorem all_lvs {P : Rat → Note → Prop} : ∀ {t : Tree} {l : List Bool}, t.All P → ∀ e ∈ t.lvsOf l, P e.2.1 e.2.2
  | .leaf p r, l, h, e, he => by
    have : e = (l, p, r) := by simpa [Tree.lvsOf] using he
    rw [this]
    exact h
  | .ask h' n y m, l, h, e, he => by
    rcases List.mem_append.mp (show e ∈ y.lvsOf (l ++ [true]) ++ m.lvsOf (l ++ [false]) from he) with z | z
    · exact all_lvs h.1 e z
    · exact all_lvs h.2 e z
theorem same_lock {H H' : Hp} {h : Addr} {f u : HO} (e : Same (upd H h f) H') (hh : H h = some u) : Same H (upd H' h u) := fun b w q => by
  by_cases z : b = h
  · subst z
    rw [hh] at q
    cases q
    exact upd_same
  · rw [upd_ne z]
    exact e b w (by rw [upd_ne z]; exact q)
theorem flat_len {α β : Type} {f : α → List β} {c : Nat} : ∀ {l : List α}, (∀ x ∈ l, (f x).length ≤ c) → (l.flatMap f).length ≤ c * l.length
  | [], _ => Nat.zero_le _
  | a :: l, h => by
    have i := flat_len (l := l) fun x hx => h x (List.mem_cons_of_mem _ hx)
    have j := h a (List.mem_cons_self ..)
    rw [List.flatMap_cons, List.length_append, List.length_cons, Nat.mul_succ]
    omega
theorem outs_len {D : Dat} {d : Nat} {x : Nat × Note} (h : nlv x.2 ≤ 32) : (outs D d x).length ≤ 64 := by
  unfold outs
  split
  · rename_i q u v e1 e2
    have b1 : (((tree x.2 (d : Int) q).lvsOf []).flatMap (outs1 u v)).length ≤ 2 * ((tree x.2 (d : Int) q).lvsOf []).length := flat_len fun _ _ => Nat.le_refl _
    have := (tree_dep (d := (d : Int)) (p := q) x.2).2
    rw [lvsOf_len] at b1
    omega
  · exact Nat.zero_le _
/-- all stays but what stands at p -/
def SameBut1 (p : Addr) (H H' : Hp) : Prop := ∀ (b : Addr) (w : HO), b ≠ p → H b = some w → H' b = some w
theorem SameBut1.refl {p : Addr} {H : Hp} : SameBut1 p H H := fun _ _ _ h => h
theorem SameBut1.same {p : Addr} {H H1 H2 : Hp} (a : SameBut1 p H H1) (e : Same H1 H2) : SameBut1 p H H2 := fun _ _ ne h => e _ _ (a _ _ ne h)
theorem SameBut1.upd {p : Addr} {H H1 : Hp} {o : HO} (a : SameBut1 p H H1) : SameBut1 p H (upd H1 p o) := fun _ _ ne h => by
  rw [upd_ne ne]
  exact a _ _ ne h
theorem SameBut1.trans {p : Addr} {H H1 H2 : Hp} (a : SameBut1 p H H1) (b : SameBut1 p H1 H2) : SameBut1 p H H2 := fun c w ne h => b c w ne (a c w ne h)
theorem SameBut1.ts {p : Addr} {H H1 : Hp} {kvs : List (List Key × V)} (a : SameBut1 p H H1) (hp : H p = some (.dT kvs)) : TS H H1 := fun b xs q => by
  have ne : b ≠ p := fun z => by
    rw [z] at q
    rcases q with q | ⟨o, q⟩ <;> (rw [hp] at q; cases q)
  rcases q with q | ⟨o, q⟩
  · exact .inl (a _ _ ne q)
  · exact .inr ⟨o, a _ _ ne q⟩
/-- what is asked of a table's notes at a date -/
def LOk (D : Dat) (d : Nat) (L : List (Nat × Note)) : Prop := ∀ x ∈ L, (∃ q, cell D.P d x.1 = some q) ∧ NGood d x.2 ∧ ndep x.2 ≤ 12 ∧ nbits x.2 ≤ 440 ∧ nlv x.2 ≤ 32
section
variable {w : World} {K : PySem.W.Frag} {mg : Str → Option Value} {base : Heap}
def spLater (K : PySem.W.Frag) : Sp := fun vs H Q _ => ∃ (x dx h : Addr) (fs : List (Str × V)) (lv : V) (D : Dat) (d : Nat) (L : List (Nat × Note)) (H0 : Hp), vs = [.ref x, .int ((d : Nat) : Int), .ref h] ∧ H x = some (.ins (He.ga K "Machine") dx fs) ∧ fs.lookup ("web" : Str) = some lv ∧
  LatAt K H0 D lv ∧ Same H0 H ∧ H0 h = none ∧ D.Ok ∧ d < D.P.length ∧ HereAt K H h L ∧ LOk D d L ∧ (d + 1 < D.P.length → L.length ≤ 5000) ∧
  ∀ p L' H', Same H H' → H p = none → HereAt K H' p L' → (∀ x, x ∈ L' ↔ x ∈ nextL D d L) → L'.length ≤ 64 * L.length → Q (.ref p) H'
theorem ok_M_later (T : TX w K mg) : Fn w K mg base 47 (He.ma K (He.ga K "Machine") "later") (spLater K) := by
  refine fn_M_later (k := 46) T (fun vs H Q E h => ?_) (fun cdv A outer s H vs Q E hr h => ?_)
  · obtain ⟨_, _, _, _, _, _, _, _, _, rfl, _⟩ := h
    rfl
  · obtain ⟨x, dx, h, fs, lv, D, d, L, H0, rfl, hx, hw, la, e0, nh, ok, hd, ⟨kvs, hs, hh, ha, nd, mem, len, gn⟩, lok, lz, kk⟩ := h
    have hu := hr.units
    have hu1 := Nat.lt_of_le_of_lt (Nat.add_le_add_left (by decide : 1 ≤ 64) _) hu
    refine ⟨_, pss_cons (ps_set (i := 3) sc_M_later.nd rfl (.inl rfl) pe_dnewT)
      (pss_cons (ps_if (pt_cmpR op_lt (pv 1) (pe_methF0 (pe_fld (pv 0) rfl) (c_Lattice T) (m_L_last T) (ok_L_last T) rfl hr) (nomark _))
        (pss_one (ps_lock (ps_for PassesOwn.never rfl (pi_keys (pv 2)) (pg_tup rfl (pgs_cons (pg_name (i := 4) sc_M_later.nd rfl (.inl rfl)) (pgs_cons (pg_name (i := 5) sc_M_later.nd rfl (.inl rfl)) pgs_nil)))
          (pss_cons (ps_set (i := 6) sc_M_later.nd rfl (.inl rfl) (pe_methF (pe_fld (pv 0) rfl) (c_Lattice T) (m_L_price T) (ok_L_price T) rfl hr (pa_cons (pv 1) (pa_cons (pv 4) pa_nil))))
          (pss_one (ps_for PassesOwn.never rfl (pi_list (pe_callF (ok_endings T) rfl hr rfl (g_endings T) (pa_cons (pe_dget hu1 (pv 2) (pe_tup (pa_cons (pv 4) (pa_cons (pv 5) pa_nil))) (fun _ _ => rfl)) (pa_cons (pv 1) (pa_cons (pv 6) pa_nil)))))
            (pg_tup rfl (pgs_cons (pg_name (i := 7) sc_M_later.nd rfl (.inl rfl)) (pgs_cons (pg_name (i := 8) sc_M_later.nd rfl (.inl rfl)) (pgs_cons (pg_name (i := 9) sc_M_later.nd rfl (.inl rfl)) pgs_nil))))
            (pss_one (ps_for PassesOwn.never rfl (pi_tup (pe_methF (pe_fld (pv 0) rfl) (c_Lattice T) (m_L_step T) (ok_L_step T) rfl hr (pa_cons (pv 1) (pa_cons (pv 4) pa_nil)))) (pg_name (i := 10) sc_M_later.nd rfl (.inl rfl))
              (pss_one (ps_dput hu1 (pv 3) (pe_tup (pa_cons (pv 10) (pa_cons (pe_callF (ok_note_text T 12) rfl hr rfl (g_note_text T) (pa_cons (pv 9) pa_nil)) pa_nil))) (pv 9) rfl)))))))))) pss_nil)
      (pss_one (ps_ret (pv 3)))), ?_⟩
    refine fun pf hpf => ?_
    have n1 := Same.new (o := .dT []) hpf
    have e1 := e0.trans n1
    obtain ⟨la0, dl, _, _, _, rfl, hl0, hrest⟩ := id la
    have hm := ok.most
    have h1 := ok.one
    refine ⟨_, rfl, _, rfl, _, _, _, _, _, rfl, n1 _ _ hx, c_Machine T, n_web T, hw, la0, _, _, rfl, e1 _ _ hl0, rfl, _, D, rfl, la.mono e1, ok, _, _, rfl, rfl, _, rfl, ite2 (fun hc => ?_) (fun hc => ?_)⟩
    · have hlt : d + 1 < D.P.length := by
        have := of_decide_eq_true hc
        omega
      have lz := lz hlt
      have hol : ∀ x ∈ hs, (outs D d x).length ≤ 64 := fun x hx => outs_len (lok x ((mem _).mp hx)).2.2.2.2
      refine ⟨h, _, n1 _ _ hh, trivial, fun od => ?_⟩
      have hne : h ≠ pf := ne_of_none hh hpf
      have hxh : x ≠ h := fun z => by
        rw [z, hh] at hx
        cases hx
      have e2 : Same H0 (upd (upd H pf (.dT [])) h (.frz od (.dT kvs))) := same_mut e1 nh
      have t2 : TS H (upd (upd H pf (.dT [])) h (.frz od (.dT kvs))) := ts_trans (ts_same n1) (ts_dT (n1 _ _ hh))
      generalize eH : upd (upd H pf (.dT [])) h (.frz od (.dT kvs)) = Hf at e2 t2
      have fh : Hf h = some (.frz od (.dT kvs)) := by rw [← eH, upd_same]
      have fp : Hf pf = some (.dT []) := by rw [← eH, upd_ne hne.symm, upd_same]
      have fx : Hf x = some (.ins (He.ga K "Machine") dx fs) := by
        rw [← eH, upd_ne hxh]
        exact n1 _ _ hx
      refine ⟨_, rfl, h, od, rfl, .inr ⟨kvs, fh, ?_⟩⟩
      -- what stands besides the table that is made
      refine for_it (walk_keysT (kvs := kvs)) (fun i σ' H1 => ∃ x4 x5 x6 x7 x8 x9 x10, σ' = [some (.ref x), some (.int ((d : Nat) : Int)), some (.ref h), some (.ref pf), x4, x5, x6, x7, x8, x9, x10] ∧ SameBut1 pf Hf H1 ∧ HereAt K H1 pf ((hs.take i).flatMap (outs D d)))
        ⟨_, _, _, _, _, _, _, rfl, SameBut1.refl, .nil fp⟩ (fun i σ' H1 _ ⟨_, _, _, _, _, _, _, _, q, _⟩ => q _ _ hne fh) (fun i xv σ' H1 H1' hi ⟨x4, x5, x6, x7, x8, x9, x10, eσ, s1, hr1⟩ ⟨eH1, key, v, qk, hkv, exv, hqk⟩ => ?_) (fun σ' H1 ⟨x4, x5, x6, x7, x8, x9, x10, eσ, s1, hr1⟩ => ?_)
      · subst eσ eH1 exv
        obtain ⟨⟨k, n⟩, hkn, ekey, hnv⟩ := ha.get hkv
        have ekey : key = hkey k n := ekey
        subst ekey
        obtain ⟨⟨q, hq⟩, g1, g2, g3, g4⟩ := lok (k, n) ((mem _).mp (List.mem_of_getElem? hkn))
        obtain ⟨r, u, v', hi', lo, s', nd⟩ := ok.nd d k q hq hlt
        have pq := ok.pz _ _ _ hq
        have hfx : H1' x = some (.ins (He.ga K "Machine") dx fs) := s1 _ _ (ne_of_none hx hpf) fx
        have e01 : Same H0 H1' := fun b w z => s1 _ _ (ne_of_none (e0 _ _ z) hpf) (e2 _ _ z)
        refine ⟨qk, _, rfl, SqT.of hqk, rfl, _, _, rfl, _, _, rfl, rfl, ?_⟩
        refine ⟨_, rfl, _, _, _, _, _, rfl, hfx, c_Machine T, n_web T, hw, la0, _, _, rfl, e01 _ _ hl0, rfl, _, rfl, _, rfl, _, D, d, k, q, rfl, la.mono e01, ok, hq, fun up hup => ?_⟩
        have t1 : TS H H1' := ts_trans t2 (s1.ts fp)
        obtain ⟨v2, hv2, hn2⟩ := (all2_val ha gn (k := k) (n := n) (gn _ (List.mem_of_getElem? hkn))).1 (List.mem_of_getElem? hkn)
        have g3 : nbits n ≤ 440 := g3
        have g4 : nlv n ≤ 32 := g4
        refine ⟨_, rfl, _, rfl, _, rfl, by show 2 ≤ sizeLine; decide, fun b hb => ⟨h, v2, rfl, .inr ⟨kvs, hkey k n, b, .inr ⟨od, Same.new hb _ _ (s1 _ _ hne fh)⟩, rfl, upd_same, hv2.symm⟩, _, rfl, _, rfl, ?_⟩⟩
        have nb := Same.new (o := .tup [V.int ((k : Nat) : Int), .str (nS n)]) hb
        refine ⟨_, _, _, n, q, d, rfl, (hn2.ts t1).mono nb, hup.mono nb, g1, by omega, pq.1, g2, by omega, by omega, fun pe fe H2 e2' hpe fpe hae => ⟨pe, rfl, ⟨_, SqL.of hpe⟩, ?_⟩⟩
        have s2 : SameBut1 pf Hf H2 := s1.same (nb.trans e2')
        have hr2 : HereAt K H2 pf ((hs.take i).flatMap (outs D d)) := hr1.mono (nb.trans e2')
        obtain ⟨kv2, _, hp2, _⟩ := id hr2
        have npe : pe ≠ pf := fun z => by
          rw [z, hp2] at hpe
          cases hpe
        refine for_list (xs := fe) (fun j σ' H' => ∃ x7 x8 x9 x10, σ' = [some (.ref x), some (.int ((d : Nat) : Int)), some (.ref h), some (.ref pf), some (.int ((k : Nat) : Int)), some (.str (nS n)), some up, x7, x8, x9, x10] ∧ SameBut1 pf H2 H' ∧
          HereAt K H' pf ((hs.take i).flatMap (outs D d) ++ (((tree n d q).lvsOf []).take j).flatMap (outs1 u v'))) ⟨_, _, _, _, rfl, SameBut1.refl, by simpa using hr2⟩ (fun j σ' H' _ ⟨_, _, _, _, _, z, _⟩ => SqL.of (z _ _ npe hpe)) (fun j xe σ' H3 hxe ⟨x7, x8, x9, x10, eσ, s3, hr3⟩ => ?_) (fun σ' H3 ⟨x7, x8, x9, x10, eσ, s3, hr3⟩ => ?_)
        · subst eσ
          obtain ⟨el, hel, ca, u1, u2, u3, rfl, hca, _, _, hrn⟩ := hae.get hxe
          have tt3 := s3.ts hp2
          have s03 : SameBut1 pf Hf H3 := s2.trans s3
          have e03 : Same H0 H3 := fun b w z => s03 _ _ (ne_of_none (e0 _ _ z) hpf) (e2 _ _ z)
          have lv1 := all_lvs (tree_lives (P := fun _ => True) (d := (d : Int)) (m := d) pq.1 n) el (List.mem_of_getElem? hel)
          have gel : GNote el.2.2 := ⟨d + 1, by omega, lv1.good g1, Nat.le_trans lv1.dep g2⟩
          refine ⟨ca, _, rfl, ts_sqt tt3 hca, rfl, _, _, rfl, _, _, rfl, _, _, rfl, rfl, ?_⟩
          refine ⟨_, rfl, _, _, _, _, _, rfl, s03 _ _ (ne_of_none hx hpf) fx, c_Machine T, n_web T, hw, la0, _, _, rfl, e03 _ _ hl0, rfl, _, rfl, _, rfl, _, D, d, k, q, u, v', rfl, la.mono e03, ok, hq, hlt, nd.st, fun sa hsa => ⟨sa, rfl, ⟨_, hsa⟩, ?_⟩⟩
          obtain ⟨kv3, _, hp3, _⟩ := id hr3
          refine for_tup (xs := [.int ((u : Nat) : Int), .int ((v' : Nat) : Int)]) (fun m σ' H' => ∃ x10, σ' = [some (.ref x), some (.int ((d : Nat) : Int)), some (.ref h), some (.ref pf), some (.int ((k : Nat) : Int)), some (.str (nS n)), some up, some u1, some u2, some u3, x10] ∧ SameBut1 pf H3 H' ∧
            HereAt K H' pf ((hs.take i).flatMap (outs D d) ++ (((tree n d q).lvsOf []).take j).flatMap (outs1 u v') ++ (outs1 u v' el).take m)) ⟨_, rfl, SameBut1.refl, by simpa using hr3⟩ (fun m σ' H' _ ⟨_, _, z, _⟩ => ts_sqt (z.ts hp3) hsa) (fun m xm σ' H4 hxm ⟨x10, eσ, s4, hr4⟩ => ?_) (fun σ' H4 ⟨x10, eσ, s4, hr4⟩ => ?_)
          · subst eσ
            obtain ⟨wn, ewn, hwm⟩ : ∃ wn : Nat, xm = .int ((wn : Nat) : Int) ∧ (outs1 u v' el)[m]? = some (wn, el.2.2) := by
              match m, hxm with
              | 0, z => exact ⟨u, (Option.some.inj z).symm, rfl⟩
              | 1, z => exact ⟨v', (Option.some.inj z).symm, rfl⟩
            subst ewn
            have hn4 : NAt K H4 el.2.2 u3 := (hrn.ts tt3).ts (s4.ts hp3)
            obtain ⟨mm, gm, gg, gd⟩ := gel
            refine ⟨_, rfl, _, rfl, _, rfl, _, rfl, _, el.2.2, mm, rfl, hn4, gg, gm, gd, Nat.le_refl _, fun H5 e5 => ⟨by show 2 ≤ sizeLine; decide, fun b2 hb2 => ?_⟩⟩
            have n5 := e5.trans (Same.new (o := .tup [V.int ((wn : Nat) : Int), .str (nS el.2.2)]) hb2)
            obtain ⟨kv5, hp5, len5, hr5⟩ := (hr4.mono n5).put (k := wn) ⟨mm, gm, gg, gd⟩ (hn4.mono n5)
            refine ⟨pf, _, rfl, DPut.t (k := hkey wn el.2.2) hp5 upd_same ?_, _, rfl, (s4.same n5).upd, ?_⟩
            · have b1 : ((hs.take i).flatMap (outs D d)).length ≤ 64 * (hs.take i).length := flat_len fun x hx => hol x (List.mem_of_mem_take hx)
              have b2 : ((((tree n d q).lvsOf []).take j).flatMap (outs1 u v')).length ≤ 2 * (((tree n d q).lvsOf []).take j).length := flat_len fun x _ => Nat.le_refl _
              have b3 : (((tree n d q).lvsOf []).take j).length ≤ 32 := by
                have := (tree_dep (d := (d : Int)) (p := q) n).2
                rw [List.length_take, lvsOf_len]
                omega
              have b4 : ((outs1 u v' el).take m).length ≤ 2 := by
                rw [List.length_take]
                show min m 2 ≤ 2
                omega
              have b5 : (hs.take i).length ≤ 5000 := by
                rw [List.length_take]
                omega
              have b6 : 400000 < sizeLine := by decide
              simp only [List.length_append] at len5
              omega
            · rw [List.take_add_one, hwm, ← List.append_assoc]
              exact hr5
          · refine ⟨_, _, _, _, eσ, s3.trans s4, ?_⟩
            rw [flat_take _ hel, ← List.append_assoc]
            exact hr4
        · refine ⟨_, _, _, _, _, _, _, eσ, s2.trans s3, ?_⟩
          rw [flat_take _ hkn, outs_eq hq nd.st]
          rw [← hae.len, List.take_length] at hr3
          exact hr3
      · subst eσ
        have eL : (hs.take kvs.length).flatMap (outs D d) = hs.flatMap (outs D d) := by rw [← ha.len, List.take_length]
        rw [eL] at hr1
        have fh1 := s1 _ _ hne fh
        obtain ⟨kv1, hs1, hp1, hr1'⟩ := id hr1
        refine ⟨fh1, _, rfl, kk pf _ _ ?_ hpf (hr1.ts (ts_upd fun xs z => ?_) (by rw [upd_ne hne.symm])) (fun y => ?_) ?_⟩
        · intro b w z
          by_cases e : b = h
          · subst e
            rw [hh] at z
            cases z
            exact upd_same
          · rw [upd_ne e]
            exact s1 _ _ (ne_of_none z hpf) (by rw [← eH, upd_ne e]; exact n1 _ _ z)
        · rcases z with z | ⟨o, z⟩ <;> (rw [fh1] at z; cases z)
        · unfold nextL
          rw [if_pos hlt]
          simp only [List.mem_flatMap, mem]
        · have b1 : (hs.flatMap (outs D d)).length ≤ 64 * hs.length := flat_len hol
          omega
    · have hlt : ¬ d + 1 < D.P.length := fun z => hc (decide_eq_true (by omega))
      have en : nextL D d L = [] := if_neg hlt
      exact ⟨_, rfl, kk pf [] _ n1 hpf (.nil upd_same) (fun x => by rw [en]) (Nat.zero_le _)⟩
end
end SL
namespace SL
open PySem PySem.Spec PyProof.Rows L2 TL
abbrev Row := Nat × Nat × Note
def atDate (d : Nat) (L : List (Nat × Note)) : List Row := L.map fun x => (d, x.1, x.2)
/-- what holds of a row, by its own date -/
structure RowOk (D : Dat) (P : Str → Prop) (r : Row) : Prop where
  date : r.1 < D.P.length
  node : ∃ q, cell D.P r.1 r.2.1 = some q
  good : NGood r.1 r.2.2
  dep : ndep r.2.2 ≤ 12
  bits : nbits r.2.2 ≤ 440
  lvs : nlv r.2.2 ≤ 32
  names : 1 ≤ r.1 → NNames P r.2.2
theorem RowOk.gnote {D : Dat} {P : Str → Prop} {r : Row} (h : RowOk D P r) (ok : D.Ok) : GNote r.2.2 := ⟨r.1, by have := h.date; have := ok.most; omega, h.good, h.dep⟩
/-- the rows below d, and what stands at d -/
structure MI (D : Dat) (n0 : Note) (P : Str → Prop) (d : Nat) (R : List Row) (L : List (Nat × Note)) : Prop where
  below : ∀ r ∈ R, r.1 < d
  nd : R.Nodup
  ok : ∀ r ∈ R, RowOk D P r
  lok : d < D.P.length → ∀ x ∈ L, RowOk D P (d, x.1, x.2)
  next : ∀ (i : Nat) (r : Row), R[i]? = some r → r.1 + 1 < D.P.length → ∀ x ∈ outs D r.1 r.2, (r.1 + 1 < d → ∃ j, i < j ∧ R[j]? = some (r.1 + 1, x.1, x.2)) ∧ (r.1 + 1 = d → x ∈ L)
  first : (d = 0 → R = [] ∧ ∀ x, x ∈ L ↔ x = (0, n0)) ∧ (1 ≤ d → R[0]? = some (0, 0, n0) ∧ ∀ (i : Nat) (r : Row), R[i]? = some r → r.1 = 0 → i = 0)
  len : L.length ≤ 64 ^ d ∧ 63 * R.length + 1 ≤ 64 ^ d
theorem atDate_mem {d : Nat} {L : List (Nat × Note)} {r : Row} : r ∈ atDate d L ↔ r.1 = d ∧ r.2 ∈ L := by
  unfold atDate
  rw [List.mem_map]
  constructor
  · rintro ⟨x, hx, rfl⟩
    exact ⟨rfl, hx⟩
  · rintro ⟨h1, h2⟩
    exact ⟨r.2, h2, by rw [← h1]⟩
theorem MI.step {D : Dat} {n0 : Note} {P : Str → Prop} {d : Nat} {R : List Row} {L L' hs : List (Nat × Note)} (I : MI D n0 P d R L) (dok : D.Ok) (hd : d < D.P.length) (nd : hs.Nodup) (mem : ∀ x, x ∈ hs ↔ x ∈ L) (hl : hs.length ≤ L.length)
    (hP : ∀ q, (tree n0 0 q).All fun _ r => NNames P r) (mem' : ∀ x, x ∈ L' ↔ x ∈ nextL D d L) (hl' : L'.length ≤ 64 * L.length) : MI D n0 P (d + 1) (R ++ atDate d hs) L' where
  below := fun r hr => by
    rcases List.mem_append.mp hr with z | z
    · have := I.below r z
      omega
    · have := (atDate_mem.mp z).1
      omega
  nd := by
    refine List.nodup_append.mpr ⟨I.nd, ?_, fun a ha b hb z => ?_⟩
    · unfold atDate
      refine List.Pairwise.map _ (fun a b h z => h ?_) nd
      have z2 := (Prod.mk.inj z).2
      exact Prod.ext (Prod.mk.inj z2).1 (Prod.mk.inj z2).2
    · have h1 := I.below a ha
      have h2 := (atDate_mem.mp hb).1
      rw [z] at h1
      omega
  ok := fun r hr => by
    rcases List.mem_append.mp hr with z | z
    · exact I.ok r z
    · obtain ⟨h1, h2⟩ := atDate_mem.mp z
      have := I.lok hd r.2 ((mem _).mp h2)
      rw [← h1] at this
      exact this
  lok := fun hd1 x hx => by
    have hx' := (mem' x).mp hx
    unfold nextL at hx'
    rw [if_pos hd1] at hx'
    obtain ⟨y, hy, hxy⟩ := List.mem_flatMap.mp hx'
    have oy := I.lok hd y hy
    obtain ⟨q, hq⟩ := oy.node
    have hq : cell D.P d y.1 = some q := hq
    obtain ⟨r, u, v, hi, lo, s, ndd⟩ := dok.nd d y.1 q hq hd1
    have pq := (dok.pz _ _ _ hq).1
    rw [show y = (y.1, y.2) from rfl, outs_eq hq ndd.st] at hxy
    obtain ⟨e, he, hxe⟩ := List.mem_flatMap.mp hxy
    have lv := all_lvs (tree_lives (P := P) (d := (d : Int)) (m := d) pq y.2) e he
    have nm : NNames P e.2.2 := by
      by_cases z : d = 0
      · have hy0 := ((I.first.1 z).2 y).mp hy
        rw [hy0, z] at he
        exact all_lvs (hP q) e he
      · exact lv.names (oy.names (by show 1 ≤ d; omega))
    have bb := oy.bits
    have bl := oy.lvs
    have bd := oy.dep
    have l1 := lv.bits
    have l2 := lv.lvs
    have l3 := lv.dep
    have both : x = (u, e.2.2) ∨ x = (v, e.2.2) := by simpa [outs1] using hxe
    have fin : ∀ w, (∃ q, cell D.P (d + 1) w = some q) → RowOk D P (d + 1, w, e.2.2) := fun w hw => ⟨hd1, hw, lv.good oy.good, Nat.le_trans l3 bd, Nat.le_trans l1 bb, Nat.le_trans l2 bl, fun _ => nm⟩
    rcases both with z | z
    · rw [z]
      exact fin u ⟨_, ndd.ehi⟩
    · rw [z]
      exact fin v ⟨_, ndd.elo⟩
  next := fun i r hr hlt x hx => by
    rcases Nat.lt_or_ge i R.length with hi | hi
    · rw [List.getElem?_append_left hi] at hr
      have hb := I.below r (List.mem_of_getElem? hr)
      obtain ⟨n1, n2⟩ := I.next i r hr hlt x hx
      refine ⟨fun z => ?_, fun z => by omega⟩
      by_cases e : r.1 + 1 < d
      · obtain ⟨j, hj, hjr⟩ := n1 e
        exact ⟨j, hj, by rw [List.getElem?_append_left (List.getElem?_eq_some_iff.mp hjr).1]; exact hjr⟩
      · have e : r.1 + 1 = d := by omega
        have hx2 := (mem x).mpr (n2 e)
        obtain ⟨j, hj⟩ := List.mem_iff_getElem?.mp hx2
        refine ⟨R.length + j, by omega, ?_⟩
        rw [List.getElem?_append_right (by omega), Nat.add_sub_cancel_left]
        unfold atDate
        rw [List.getElem?_map, hj, e]
        rfl
    · rw [List.getElem?_append_right hi] at hr
      obtain ⟨h1, h2⟩ := atDate_mem.mp (List.mem_of_getElem? hr)
      refine ⟨fun z => by omega, fun _ => (mem' x).mpr ?_⟩
      unfold nextL
      rw [if_pos (by omega)]
      exact List.mem_flatMap.mpr ⟨r.2, (mem _).mp h2, by rw [← h1]; exact hx⟩
  first := ⟨fun z => by omega, fun _ => by
    by_cases e : d = 0
    · obtain ⟨h1, h2⟩ := I.first.1 e
      have hm : ∀ x, x ∈ hs ↔ x = (0, n0) := fun x => (mem x).trans (h2 x)
      have h0 : hs = [(0, n0)] := by
        match hs, nd, hm with
        | [], _, hm => exact absurd ((hm (0, n0)).mpr rfl) (by simp)
        | [a], _, hm => rw [(hm a).mp (List.mem_cons_self ..)]
        | a :: b :: r, nd, hm =>
          have ha := (hm a).mp (List.mem_cons_self ..)
          have hb := (hm b).mp (List.mem_cons_of_mem _ (List.mem_cons_self ..))
          rw [ha, hb] at nd
          simp at nd
      rw [h1, h0, e]
      refine ⟨rfl, fun i r hr _ => ?_⟩
      cases i with
      | zero => rfl
      | succ i => simp [atDate] at hr
    · obtain ⟨h1, h2⟩ := I.first.2 (by omega)
      have l0 := (List.getElem?_eq_some_iff.mp h1).1
      refine ⟨by rw [List.getElem?_append_left l0]; exact h1, fun i r hr hz => ?_⟩
      rcases Nat.lt_or_ge i R.length with hi | hi
      · rw [List.getElem?_append_left hi] at hr
        exact h2 i r hr hz
      · rw [List.getElem?_append_right hi] at hr
        have := (atDate_mem.mp (List.mem_of_getElem? hr)).1
        omega⟩
  len := by
    obtain ⟨a, b⟩ := I.len
    have e : 64 ^ (d + 1) = 64 ^ d * 64 := rfl
    refine ⟨by omega, ?_⟩
    rw [List.length_append]
    unfold atDate
    rw [List.length_map]
    omega
/-- at the end -/
structure RowsOk (D : Dat) (n0 : Note) (P : Str → Prop) (R : List Row) : Prop where
  nd : R.Nodup
  ok : ∀ r ∈ R, RowOk D P r
  next : ∀ (i : Nat) (r : Row), R[i]? = some r → r.1 + 1 < D.P.length → ∀ x ∈ outs D r.1 r.2, ∃ j, i < j ∧ R[j]? = some (r.1 + 1, x.1, x.2)
  first : R[0]? = some (0, 0, n0)
  one : ∀ (i : Nat) (r : Row), R[i]? = some r → r.1 = 0 → i = 0
  len : R.length ≤ 270000
theorem MI.done {D : Dat} {n0 : Note} {P : Str → Prop} {R : List Row} {L : List (Nat × Note)} (I : MI D n0 P D.P.length R L) (dok : D.Ok) : RowsOk D n0 P R where
  nd := I.nd
  ok := I.ok
  next := fun i r hr hlt x hx => (I.next i r hr hlt x hx).1 hlt
  first := (I.first.2 dok.one).1
  one := (I.first.2 dok.one).2
  len := by
    have := I.len.2
    have := Nat.pow_le_pow_right (n := 64) (by decide) dok.most
    have : 64 ^ 4 = 16777216 := by decide
    omega
end SL
namespace SL
open PySem PySem.Spec PyProof.Rows L2 TL
def rkey (r : Row) : List Key := [Sum.inl ((r.1 : Nat) : Int), Sum.inl ((r.2.1 : Nat) : Int), Sum.inr (nS r.2.2)]
def RowV (H : Hp) (r : Row) (v : V) : Prop := ∃ a, v = .ref a ∧ H a = some (.tup ((rkey r).map kV))
def RowsAt (H : Hp) (p : Addr) (R : List Row) : Prop := ∃ us, H p = some (.lst us) ∧ All2 (RowV H) R us
/-- texts to notes -/
def KinL (K : PySem.W.Frag) (H : Hp) (N : List Note) (kvs : List (Key × V)) : Prop := (∀ kv ∈ kvs, ∃ n, GNote n ∧ kv.1 = Sum.inr (nS n) ∧ NAt K H n kv.2) ∧ ∀ n ∈ N, ∃ v, valV kvs (Sum.inr (nS n)) = some v
def KinAt (K : PySem.W.Frag) (H : Hp) (p : Addr) (R : List Row) : Prop := ∃ kvs, H p = some (.dK kvs) ∧ KinL K H (R.map (·.2.2)) kvs ∧ kvs.length ≤ R.length
def SpotsAt (H : Hp) (p : Addr) (R : List Row) : Prop := ∃ kvs, H p = some (.dT kvs) ∧ ∀ (i : Nat) (r : Row), R[i]? = some r → valV kvs (rkey r) = some (.int ((i : Nat) : Int))
structure MFs (K : PySem.W.Frag) (H : Hp) (D : Dat) (R : List Row) (lv : V) (pr pk ps : Addr) : Prop where
  lat : LatAt K H D lv
  rows : RowsAt H pr R
  kin : KinAt K H pk R
  spots : SpotsAt H ps R
def MAt (K : PySem.W.Frag) (H : Hp) (D : Dat) (R : List Row) (v : V) : Prop := ∃ a dx lv nv pr pk ps, v = .ref a ∧ H a = some (.ins (He.ga K "Machine") dx [("web", lv), ("thing", nv), ("rows", .ref pr), ("kin", .ref pk), ("spots", .ref ps)]) ∧ MFs K H D R lv pr pk ps
section
variable {K : PySem.W.Frag} {H H' : Hp}
theorem RowV.ts {r : Row} {v : V} (h : RowV H r v) (t : ∀ a xs, H a = some (.tup xs) → H' a = some (.tup xs)) : RowV H' r v := by
  obtain ⟨a, e, h⟩ := h
  exact ⟨a, e, t _ _ h⟩
theorem RowsAt.mono {p : Addr} {R : List Row} (h : RowsAt H p R) (e : Same H H') : RowsAt H' p R := by
  obtain ⟨us, h, a⟩ := h
  exact ⟨us, e _ _ h, a.imp fun _ _ z => z.ts fun _ _ q => e _ _ q⟩
theorem KinL.ts {N : List Note} {kvs : List (Key × V)} (h : KinL K H N kvs) (t : TS H H') : KinL K H' N kvs := ⟨fun kv hkv => by
  obtain ⟨n, g, e, a⟩ := h.1 kv hkv
  exact ⟨n, g, e, a.ts t⟩, h.2⟩
theorem KinAt.mono {p : Addr} {R : List Row} (h : KinAt K H p R) (e : Same H H') : KinAt K H' p R := by
  obtain ⟨kvs, h, a, l⟩ := h
  exact ⟨kvs, e _ _ h, a.ts (ts_same e), l⟩
theorem SpotsAt.mono {p : Addr} {R : List Row} (h : SpotsAt H p R) (e : Same H H') : SpotsAt H' p R := by
  obtain ⟨kvs, h, a⟩ := h
  exact ⟨kvs, e _ _ h, a⟩
theorem MFs.mono {D : Dat} {R : List Row} {lv : V} {pr pk ps : Addr} (h : MFs K H D R lv pr pk ps) (e : Same H H') : MFs K H' D R lv pr pk ps := ⟨h.lat.mono e, h.rows.mono e, h.kin.mono e, h.spots.mono e⟩
theorem MAt.mono {D : Dat} {R : List Row} {v : V} (h : MAt K H D R v) (e : Same H H') : MAt K H' D R v := by
  obtain ⟨a, dx, lv, nv, pr, pk, ps, r, h, m⟩ := h
  exact ⟨a, dx, lv, nv, pr, pk, ps, r, e _ _ h, m.mono e⟩
theorem mem_put {κ : Type} [DecidableEq κ] {kvs : List (κ × V)} {k : κ} {v : V} {x : κ × V} (h : x ∈ putK kvs k v) : x ∈ kvs ∨ x = (k, v) := by
  unfold putK at h
  split at h
  · obtain ⟨y, hy, e⟩ := List.mem_map.mp h
    split at e
    · rename_i z
      exact .inr (by rw [← e, z])
    · exact .inl (e ▸ hy)
  · rcases List.mem_append.mp h with z | z
    · exact .inl z
    · exact .inr (by simpa using z)
theorem mem_merge : ∀ {ls kvs : List (Key × V)} {x : Key × V}, x ∈ mergeK kvs ls → x ∈ kvs ∨ x ∈ ls
  | [], kvs, x, h => .inl h
  | p :: ls, kvs, x, h => by
    rcases mem_merge (ls := ls) (kvs := putK kvs p.1 p.2) h with z | z
    · rcases mem_put z with z | z
      · exact .inl z
      · exact .inr (by rw [z]; exact List.mem_cons_self ..)
    · exact .inr (List.mem_cons_of_mem _ z)
theorem val_merge : ∀ {ls kvs : List (Key × V)} {k : Key}, ((∃ v, valV kvs k = some v) ∨ ∃ v, valV ls k = some v) → ∃ v, valV (mergeK kvs ls) k = some v
  | [], kvs, k, h => h.elim id fun ⟨v, h⟩ => by cases h
  | p :: ls, kvs, k, h => by
    refine val_merge (ls := ls) (kvs := putK kvs p.1 p.2) ?_
    rw [valV_put]
    by_cases e : k = p.1
    · rw [if_pos e]
      exact .inl ⟨_, rfl⟩
    · rw [if_neg e]
      refine h.imp id ?_
      rintro ⟨v, h⟩
      rw [valV_neg (fun z => e z.symm)] at h
      exact ⟨v, h⟩
theorem KinL.merge {N M : List Note} {kvs ls : List (Key × V)} (h : KinL K H N kvs) (h' : KinL K H M ls) : KinL K H (N ++ M) (mergeK kvs ls) :=
  ⟨fun kv hkv => (mem_merge hkv).elim (h.1 kv) (h'.1 kv), fun n hn => val_merge ((List.mem_append.mp hn).imp (h.2 n) (h'.2 n))⟩
theorem KinL.put {N : List Note} {kvs : List (Key × V)} (h : KinL K H N kvs) {n : Note} (g : GNote n) {v : V} (hv : NAt K H n v) : KinL K H (N ++ [n]) (putK kvs (Sum.inr (nS n)) v) :=
  ⟨fun kv hkv => (mem_put hkv).elim (h.1 kv) fun e => ⟨n, g, by rw [e], by rw [e]; exact hv⟩, fun m hm => by
    rw [valV_put]
    by_cases e : (Sum.inr (nS m) : Key) = Sum.inr (nS n)
    · exact ⟨v, by rw [if_pos e]⟩
    · rw [if_neg e]
      rcases List.mem_append.mp hm with z | z
      · exact h.2 m z
      · have : m = n := by simpa using z
        rw [this] at e
        exact absurd rfl e⟩
theorem KinL.get {N : List Note} {kvs : List (Key × V)} (h : KinL K H N kvs) {n : Note} (g : GNote n) (hn : n ∈ N) : ∃ v, valV kvs (Sum.inr (nS n)) = some v ∧ NAt K H n v := by
  obtain ⟨v, hv⟩ := h.2 n hn
  refine ⟨v, hv, ?_⟩
  have hf : ∃ kv, (kvs.find? fun kv => decide (kv.1 = (Sum.inr (nS n) : Key))) = some kv ∧ kv.2 = v := by
    unfold valV at hv
    cases e : kvs.find? fun kv => decide (kv.1 = (Sum.inr (nS n) : Key)) with
    | none => rw [e] at hv; cases hv
    | some kv => rw [e] at hv; exact ⟨kv, rfl, Option.some.inj hv⟩
  obtain ⟨kv, h1, rfl⟩ := hf
  have hk := List.find?_some h1
  obtain ⟨n', g', e', a'⟩ := h.1 kv (List.mem_of_find?_eq_some h1)
  have : nS n' = nS n := Sum.inr.inj (e'.symm.trans (of_decide_eq_true hk))
  rw [← g'.inj g this]
  exact a'
end
section
variable {w : World} {K : PySem.W.Frag} {mg : Str → Option Value} {base : Heap}
/-! ### walks of the table comprehensions -/
section
variable {J : It} {n : Nat} {G : Hp → Prop} {Y : Nat → Hp → V → Hp → Prop}
theorem dc_it (wk : Walk J n G Y) {g : TG} {tt : TT} {tk tv : TE} {vs : List Nat} {σ : L2.St} {H1 : Hp} {D : Addr} {Qd : Hp → Prop} (Pv : Nat → Hp → Prop) (h0 : Pv 0 (upd H1 D (.dK []))) (hG : ∀ i H, i ≤ n → Pv i H → G H)
    (hs : ∀ i x H H', i < n → Pv i H → Y i H x H' → g x (wipe σ vs) H' fun σ2 H2 => wipe σ2 vs = wipe σ vs ∧ tt σ2 H2 fun b H3 =>
      if b = true then tk σ2 H3 fun y H4 => tv σ2 H4 fun z H5 => ∃ kvs k, y = kV k ∧ H5 D = some (.dK kvs) ∧ kvs.length < sizeLine ∧ Pv (i + 1) (upd H5 D (.dK (putK kvs k z))) else Pv (i + 1) H3) (hd : ∀ H, Pv n H → Qd H) :
    ∃ W : Nat → Nat → Hp → Prop, (∃ m, W 0 m (upd H1 D (.dK []))) ∧ ∀ i m H, W i m H → (J.stop i H ∧ Qd H) ∨ (J.go i H ∧ ∃ Nx : Hp → Prop, (∀ H', Nx H' → ∃ m', m' < m ∧ W (i + 1) m' H') ∧ ∀ x H', J.yld i H x H' → g x (wipe σ vs) H' fun σ2 H2 => wipe σ2 vs = wipe σ vs ∧ tt σ2 H2 fun b H3 =>
      if b = true then tk σ2 H3 fun y H4 => tv σ2 H4 fun z H5 => ∃ kvs k, y = kV k ∧ H5 D = some (.dK kvs) ∧ kvs.length < sizeLine ∧ Nx (upd H5 D (.dK (putK kvs k z))) else Nx H3) := by
  refine ⟨fun i m H => m = n - i ∧ i ≤ n ∧ Pv i H, ⟨_, rfl, Nat.zero_le _, h0⟩, fun i m H ⟨em, hi, p⟩ => ?_⟩
  have q := hG i H hi p
  by_cases hlt : i < n
  · exact .inr ⟨wk.goes i H hlt q, Pv (i + 1), fun H' p' => ⟨n - (i + 1), by omega, rfl, hlt, p'⟩, fun x H' y => hs i x H H' hlt p (wk.yields i H x H' hlt q y)⟩
  · obtain rfl : i = n := by omega
    exact .inl ⟨wk.stops H q, hd H p⟩
theorem dcT_it (wk : Walk J n G Y) {g : TG} {tk tv : TE} {vs : List Nat} {σ : L2.St} {H1 : Hp} {D : Addr} {Qd : Hp → Prop} (Pv : Nat → Hp → Prop) (h0 : Pv 0 (upd H1 D (.dT []))) (hG : ∀ i H, i ≤ n → Pv i H → G H)
    (hs : ∀ i x H H', i < n → Pv i H → Y i H x H' → g x (wipe σ vs) H' fun σ2 H2 => wipe σ2 vs = wipe σ vs ∧
      tk σ2 H2 fun y H4 => tv σ2 H4 fun z H5 => ∃ kvs k b, y = .ref b ∧ H5 b = some (.tup (k.map kV)) ∧ H5 D = some (.dT kvs) ∧ kvs.length < sizeLine ∧ Pv (i + 1) (upd H5 D (.dT (putK kvs k z)))) (hd : ∀ H, Pv n H → Qd H) :
    ∃ W : Nat → Nat → Hp → Prop, (∃ m, W 0 m (upd H1 D (.dT []))) ∧ ∀ i m H, W i m H → (J.stop i H ∧ Qd H) ∨ (J.go i H ∧ ∃ N : Hp → Prop, (∀ H', N H' → ∃ m', m' < m ∧ W (i + 1) m' H') ∧ ∀ x H', J.yld i H x H' → g x (wipe σ vs) H' fun σ2 H2 => wipe σ2 vs = wipe σ vs ∧
      tk σ2 H2 fun y H4 => tv σ2 H4 fun z H5 => ∃ kvs k b, y = .ref b ∧ H5 b = some (.tup (k.map kV)) ∧ H5 D = some (.dT kvs) ∧ kvs.length < sizeLine ∧ N (upd H5 D (.dT (putK kvs k z)))) := by
  refine ⟨fun i m H => m = n - i ∧ i ≤ n ∧ Pv i H, ⟨_, rfl, Nat.zero_le _, h0⟩, fun i m H ⟨em, hi, p⟩ => ?_⟩
  have q := hG i H hi p
  by_cases hlt : i < n
  · exact .inr ⟨wk.goes i H hlt q, Pv (i + 1), fun H' p' => ⟨n - (i + 1), by omega, rfl, hlt, p'⟩, fun x H' y => hs i x H H' hlt p (wk.yields i H x H' hlt q y)⟩
  · obtain rfl : i = n := by omega
    exact .inl ⟨wk.stops H q, hd H p⟩
end
theorem nodup_idx {α : Type} {l : List α} (h : l.Nodup) {i j : Nat} {a : α} (hi : l[i]? = some a) (hj : l[j]? = some a) : i = j := by
  obtain ⟨l1, z1⟩ := List.getElem?_eq_some_iff.mp hi
  obtain ⟨l2, z2⟩ := List.getElem?_eq_some_iff.mp hj
  have p := List.pairwise_iff_getElem.mp h
  rcases Nat.lt_trichotomy i j with q | q | q
  · exact absurd (z1.trans z2.symm) (p i j l1 l2 q)
  · exact q
  · exact absurd (z2.trans z1.symm) (p j i l2 l1 q)
theorem ne_of_none_l {H : Hp} {a b : Addr} {u v : HO} (h : H a = some u) (h' : H b = some v) (ne : u ≠ v) : a ≠ b := fun z => ne (by
  rw [z, h'] at h
  exact (Option.some.inj h).symm)
theorem all2_perm {α β : Type} {P : α → β → Prop} {m m' : List β} (h : m'.Perm m) : ∀ {l : List α}, All2 P l m → ∃ l', l'.Perm l ∧ All2 P l' m' := by
  induction h with
  | nil => exact fun a => ⟨_, .refl _, a⟩
  | @cons x a b _ ih =>
    intro l q
    cases q with
    | @cons y _ l _ p t =>
    obtain ⟨l', h1, h2⟩ := ih t
    exact ⟨_ :: l', h1.cons _, .cons p h2⟩
  | swap x y a =>
    intro l q
    cases q with
    | cons p t =>
    cases t with
    | cons p' t => exact ⟨_, List.Perm.swap .., .cons p' (.cons p t)⟩
  | trans _ _ i1 i2 =>
    intro l q
    obtain ⟨l1, h1, h2⟩ := i2 q
    obtain ⟨l2, h3, h4⟩ := i1 h2
    exact ⟨l2, h3.trans h1, h4⟩
theorem all2_zip {α β γ : Type} {P : α → β → Prop} {F : β → γ → Prop} {l : List α} {m : List β} {bs : List γ} (h : All2 P l m) (p : Paired F m bs) : All2 (fun a b => ∃ x, P a x ∧ F x b) l bs := by
  induction h generalizing bs with
  | nil => cases p; exact .nil
  | cons hp _ ih =>
    cases p with
    | cons r t => exact .cons ⟨_, hp, r⟩ (ih t)
theorem rkey_inj {D : Dat} {P : Str → Prop} {r r' : Row} (ok : D.Ok) (h : RowOk D P r) (h' : RowOk D P r') (e : rkey r = rkey r') : r = r' := by
  unfold rkey at e
  obtain ⟨e1, e2⟩ := List.cons.inj e
  obtain ⟨e3, e4⟩ := List.cons.inj e2
  have e5 := (List.cons.inj e4).1
  have a1 : ((r.1 : Nat) : Int) = ((r'.1 : Nat) : Int) := Sum.inl.inj e1
  have a2 : ((r.2.1 : Nat) : Int) = ((r'.2.1 : Nat) : Int) := Sum.inl.inj e3
  have a3 := (h.gnote ok).inj (h'.gnote ok) (Sum.inr.inj e5)
  exact Prod.ext (by omega) (Prod.ext (by omega) a3)
def spMInit (K : PySem.W.Frag) : Sp := fun vs H Q _ => ∃ (x dx : Addr) (lv nv : V) (D : Dat) (n0 : Note) (P : Str → Prop) (H0 : Hp), vs = [.ref x, lv, nv] ∧ H0 x = none ∧ Same H0 H ∧ H x = some (.ins (He.ga K "Machine") dx []) ∧ LatAt K H0 D lv ∧ NAt K H0 n0 nv ∧ D.Ok ∧
  NGood 0 n0 ∧ ndep n0 ≤ 12 ∧ nbits n0 ≤ 440 ∧ nlv n0 ≤ 32 ∧ (∀ q, (tree n0 0 q).All fun _ r => NNames P r) ∧ ∀ R H', Same H0 H' → RowsOk D n0 P R → MAt K H' D R (.ref x) → Q .non H'
theorem ok_M_init (T : TX w K mg) : Fn w K mg base 48 (He.ma K (He.ga K "Machine") "__init__") (spMInit K) := by
  refine fn_M_init (k := 47) T (fun vs H Q E h => ?_) (fun cdv A outer s H vs Q E hr h => ?_)
  · obtain ⟨_, _, _, _, _, _, _, _, rfl, _⟩ := h
    rfl
  · obtain ⟨x, dx, lv, nv, D, n0, P, H0, rfl, fx, e0, hx, la, hn, ok, g1, g2, g3, g4, hP, kk⟩ := h
    have hu := hr.units
    have hu1 := Nat.lt_of_le_of_lt (Nat.add_le_add_left (by decide : 1 ≤ 64) _) hu
    refine ⟨_, pss_cons (ps_expr (pe_callF (ok_look_both T) rfl hr rfl (g_look_both T) (pa_cons (pv 1) (pa_cons (pe_lst (pa_cons (pv 2) pa_nil)) pa_nil))))
      (pss_cons (ps_fld (pv 0) (pv 1) rfl)
      (pss_cons (ps_fld (pv 0) (pv 2) rfl)
      (pss_cons (ps_fld (pv 0) (pe_lst pa_nil) rfl)
      (pss_cons (ps_fld (pv 0) pe_dnewK rfl)
      (pss_cons (ps_set (i := 3) sc_M_init.nd rfl (.inr rfl) (pe_disp1 hu (pe_tup (pa_cons pe_int (pa_cons (pe_callF (ok_note_text T 12) rfl hr rfl (g_note_text T) (pa_cons (pv 2) pa_nil)) pa_nil))) (pv 2)))
      (pss_cons (ps_for PassesOwn.never rfl (pi_range1 rfl (b_range T) (pa_cons (pe_op op_add (pe_methF0 (pv 1) (c_Lattice T) (m_L_last T) (ok_L_last T) rfl hr) pe_int) pa_nil)) (pg_name (i := 4) sc_M_init.nd rfl (.inr rfl))
        (pss_cons (ps_expr (pe_bm PySem.F.plainAttrs_list PySem.F.slot_list_extend PySem.F.type_list_extend mt_extend (pe_fld (pv 0) rfl) (pa_cons
          (pe_lc (own := [("node", 7), ("text", 8)]) (g := gTup K 2 (gCons (gName 7) (gCons (gName 8) gNil))) (tt := tYes) (te := tTup (tCons (tVar 4) (tCons (tVar 7) (tCons (tVar 8) tNil)))) rfl sc_M_init.nd (pi_list (pe_callB (cr_sortedT rfl) rfl (b_sorted T) (by decide +kernel) (pa_cons (pv 3) pa_nil))) (blkOk_by (own := [("node", 7), ("text", 8)]) (N := ["self", "lattice", "note", "here", "date", "at", "row", "node", "text"]) (sc := defScope s_M_init) (by decide +kernel))
            (fun _ _ _ _ _ => pg_tup rfl (pgs_cons (pg_name (i := 7) sc_M_init.nd rfl (.inl rfl)) (pgs_cons (pg_name (i := 8) sc_M_init.nd rfl (.inl rfl)) pgs_nil))) (fun _ _ _ _ _ => pts_nil) (fun _ _ _ _ _ => pe_tup (pa_cons (pv 4) (pa_cons (pv 7) (pa_cons (pv 8) pa_nil))))) pa_nil)))
        (pss_cons (ps_expr (pe_bm PySem.F.plainAttrs_dict PySem.F.slot_dict_update PySem.F.type_dict_update mt_updD (pe_fld (pv 0) rfl) (pa_cons
          (pe_lock (pe_dc (own := [("node", 7), ("text", 8)]) (g := gTup K 2 (gCons (gName 7) (gCons (gName 8) gNil))) (tt := tYes) (tk := tVar 8) (tv := tDGet (tVar 3) (tTup (tCons (tVar 7) (tCons (tVar 8) tNil)))) rfl sc_M_init.nd (pi_keys (pv 3)) (blkOk_by (own := [("node", 7), ("text", 8)]) (N := ["self", "lattice", "note", "here", "date", "at", "row", "node", "text"]) (sc := defScope s_M_init) (by decide +kernel))
            (fun _ _ _ _ _ => pg_tup rfl (pgs_cons (pg_name (i := 7) sc_M_init.nd rfl (.inl rfl)) (pgs_cons (pg_name (i := 8) sc_M_init.nd rfl (.inl rfl)) pgs_nil))) (fun _ _ _ _ _ => pts_nil) (fun _ _ _ _ _ => pv 8) (fun _ _ _ _ _ => pe_dget hu1 (pv 3) (pe_tup (pa_cons (pv 7) (pa_cons (pv 8) pa_nil))) (fun _ _ => rfl)))) pa_nil)))
        (pss_one (ps_set (i := 3) sc_M_init.nd rfl (.inr rfl) (pe_methF (pv 0) (c_Machine T) (m_M_later T) (ok_M_later T) rfl hr (pa_cons (pv 4) (pa_cons (pv 3) pa_nil))))))))
      (pss_one (ps_fld (pv 0) (pe_dcT (own := [("at", 5), ("row", 6)]) (g := gTup K 2 (gCons (gName 5) (gCons (gName 6) gNil))) (tk := tVar 6) (tv := tVar 5) hu rfl sc_M_init.nd (pi_enum rfl (b_enumerate T) (pa_cons (pe_fld (pv 0) rfl) pa_nil)) (blkOk_by (own := [("at", 5), ("row", 6)]) (N := ["self", "lattice", "note", "here", "date", "at", "row", "node", "text"]) (sc := defScope s_M_init) (by decide +kernel))
          (fun _ _ _ _ _ => pg_tup rfl (pgs_cons (pg_name (i := 5) sc_M_init.nd rfl (.inl rfl)) (pgs_cons (pg_name (i := 6) sc_M_init.nd rfl (.inl rfl)) pgs_nil))) (fun _ _ _ _ _ => pv 6) (fun _ _ _ _ _ => pv 5)) rfl)))))))), ?_⟩
    have hm := ok.most
    have h1 := ok.one
    -- look_both
    refine ⟨_, rfl, _, rfl, by show 1 ≤ sizeLine; decide, fun p1 hp1 => ?_⟩
    have a1 := Same.new (o := .lst [nv]) hp1
    refine ⟨lv, D, p1, nv, n0, rfl, la.mono (e0.trans a1), ok, upd_same, hn.mono (e0.trans a1), g2, fun H1 b1 => ?_⟩
    have E1 : Same H0 H1 := (e0.trans a1).trans b1
    have X1 : H1 x = some (.ins (He.ga K "Machine") dx []) := b1 _ _ (a1 _ _ hx)
    -- the fields
    refine ⟨_, rfl, _, rfl, x, _, dx, _, rfl, X1, c_Machine T, n_web T, by decide, ?_⟩
    refine ⟨_, rfl, _, rfl, x, _, dx, _, rfl, upd_same, c_Machine T, n_thing T, by simp [putF], ?_⟩
    refine ⟨by show 0 ≤ sizeLine; decide, fun pr hpr => ?_⟩
    have E3 : Same H0 (upd (upd H1 x (.ins (He.ga K "Machine") dx (putF "web" lv []))) x (.ins (He.ga K "Machine") dx (putF "thing" nv (putF "web" lv [])))) := same_mut (same_mut E1 fx) fx
    have X3 : (upd (upd H1 x (.ins (He.ga K "Machine") dx (putF "web" lv []))) x (.ins (He.ga K "Machine") dx (putF "thing" nv (putF "web" lv [])))) x = some (.ins (He.ga K "Machine") dx [("web", lv), ("thing", nv)]) := upd_same
    generalize upd (upd H1 x (.ins (He.ga K "Machine") dx (putF "web" lv []))) x (.ins (He.ga K "Machine") dx (putF "thing" nv (putF "web" lv []))) = H3 at hpr E3 X3
    have fpr : H0 pr = none := E3.free hpr
    have nxp : x ≠ pr := ne_of_none X3 hpr
    refine ⟨_, rfl, x, _, dx, _, rfl, (Same.new hpr) _ _ X3, c_Machine T, n_rows T, by simp, ?_⟩
    have E4 : Same H0 (upd (upd H3 pr (.lst [])) x (.ins (He.ga K "Machine") dx (putF "rows" (.ref pr) [("web", lv), ("thing", nv)]))) := same_mut (E3.trans (Same.new hpr)) fx
    have X4 : (upd (upd H3 pr (.lst [])) x (.ins (He.ga K "Machine") dx (putF "rows" (.ref pr) [("web", lv), ("thing", nv)]))) x = some (.ins (He.ga K "Machine") dx [("web", lv), ("thing", nv), ("rows", .ref pr)]) := upd_same
    have R4 : (upd (upd H3 pr (.lst [])) x (.ins (He.ga K "Machine") dx (putF "rows" (.ref pr) [("web", lv), ("thing", nv)]))) pr = some (.lst []) := by rw [upd_ne nxp.symm, upd_same]
    generalize upd (upd H3 pr (.lst [])) x (.ins (He.ga K "Machine") dx (putF "rows" (.ref pr) [("web", lv), ("thing", nv)])) = H4 at E4 X4 R4
    refine fun pk hpk => ?_
    have fpk : H0 pk = none := E4.free hpk
    have nxk : x ≠ pk := ne_of_none X4 hpk
    have nrk : pr ≠ pk := ne_of_none R4 hpk
    refine ⟨_, rfl, x, _, dx, _, rfl, (Same.new hpk) _ _ X4, c_Machine T, n_kin T, by simp, ?_⟩
    have E5 : Same H0 (upd (upd H4 pk (.dK [])) x (.ins (He.ga K "Machine") dx (putF "kin" (.ref pk) [("web", lv), ("thing", nv), ("rows", .ref pr)]))) := same_mut (E4.trans (Same.new hpk)) fx
    have X5 : (upd (upd H4 pk (.dK [])) x (.ins (He.ga K "Machine") dx (putF "kin" (.ref pk) [("web", lv), ("thing", nv), ("rows", .ref pr)]))) x = some (.ins (He.ga K "Machine") dx [("web", lv), ("thing", nv), ("rows", .ref pr), ("kin", .ref pk)]) := upd_same
    have R5 : (upd (upd H4 pk (.dK [])) x (.ins (He.ga K "Machine") dx (putF "kin" (.ref pk) [("web", lv), ("thing", nv), ("rows", .ref pr)]))) pr = some (.lst []) := by rw [upd_ne nxp.symm, upd_ne nrk]; exact R4
    have K5 : (upd (upd H4 pk (.dK [])) x (.ins (He.ga K "Machine") dx (putF "kin" (.ref pk) [("web", lv), ("thing", nv), ("rows", .ref pr)]))) pk = some (.dK []) := by rw [upd_ne nxk.symm, upd_same]
    generalize upd (upd H4 pk (.dK [])) x (.ins (He.ga K "Machine") dx (putF "kin" (.ref pk) [("web", lv), ("thing", nv), ("rows", .ref pr)])) = H5 at E5 X5 R5 K5
    -- here
    refine fun ph hph => ?_
    have a5 := Same.new (o := .dT []) hph
    have fph : H0 ph = none := E5.free hph
    refine ⟨_, rfl, nv, n0, 0, rfl, hn.mono (E5.trans a5), g1, by decide, g2, Nat.le_refl _, fun H6 b6 => ⟨by show 2 ≤ sizeLine; decide, fun pt hpt => ?_⟩⟩
    have a6 := Same.new (o := .tup [V.int 0, .str (nS n0)]) hpt
    have E56 := (a5.trans b6).trans a6
    have P6 : (upd H6 pt (.tup [V.int 0, .str (nS n0)])) ph = some (.dT []) := a6 _ _ (b6 _ _ upd_same)
    refine ⟨_, rfl, pt, hkey 0 n0, rfl, upd_same, P6, ?_⟩
    have E7 : Same H0 (upd (upd H6 pt (.tup [V.int 0, .str (nS n0)])) ph (.dT [(hkey 0 n0, nv)])) := same_mut (E5.trans E56) fph
    have t7 : ∀ {b : Addr} {o : HO}, b ≠ ph → H5 b = some o → (upd (upd H6 pt (.tup [V.int 0, .str (nS n0)])) ph (.dT [(hkey 0 n0, nv)])) b = some o := fun ne z => by
      rw [upd_ne ne]
      exact E56 _ _ z
    have gn0 : GNote n0 := ⟨0, by decide, g1, g2⟩
    have hr7 : HereAt K (upd (upd H6 pt (.tup [V.int 0, .str (nS n0)])) ph (.dT [(hkey 0 n0, nv)])) ph [(0, n0)] :=
      ⟨_, [(0, n0)], upd_same, .cons ⟨rfl, (hn.mono E7)⟩ .nil, by simp, fun _ => Iff.rfl, Nat.le_refl _, fun y hy => by
        have : y = (0, n0) := by simpa using hy
        rw [this]
        exact gn0⟩
    have nph : ∀ {b : Addr} {o : HO}, H5 b = some o → b ≠ ph := fun z => ne_of_none z hph
    have X7 := t7 (nph X5) X5
    have R7 := t7 (nph R5) R5
    have K7 := t7 (nph K5) K5
    generalize upd (upd H6 pt (.tup [V.int 0, .str (nS n0)])) ph (.dT [(hkey 0 n0, nv)]) = H7 at E7 hr7 X7 R7 K7
    -- the dates
    obtain ⟨la0, dl, _, _, _, rfl, hl0, hrest⟩ := id la
    refine ⟨_, rfl, la0, _, _, rfl, E7 _ _ hl0, rfl, _, D, rfl, la.mono E7, ok, _, _, rfl, rfl, _, rfl, by omega, by omega, ?_⟩
    have ej : (((D.P.length - 1 : Nat) : Int) + 1).toNat = D.P.length := by omega
    rw [ej]
    refine for_range (lo := 0) (n := D.P.length) (fun d σ' H' => ∃ x4 ph R L, σ' = [some (.ref x), some (.ref la0), some nv, some (.ref ph), x4, none, none, none, none] ∧ Same H0 H' ∧ H0 ph = none ∧ H' x = some (.ins (He.ga K "Machine") dx [("web", .ref la0), ("thing", nv), ("rows", .ref pr), ("kin", .ref pk)]) ∧
      MI D n0 P d R L ∧ RowsAt H' pr R ∧ KinAt K H' pk R ∧ HereAt K H' ph L)
      ⟨none, ph, [], [(0, n0)], rfl, E7, fph, X7, ⟨fun r h => (nomatch h), List.nodup_nil, fun r h => (nomatch h), fun hd y hy => ?_, fun i r h => (nomatch h), ⟨fun _ => ⟨rfl, fun y => by simp⟩, fun z => by omega⟩, by simp⟩, ⟨[], R7, .nil⟩, ⟨[], K7, ⟨fun kv h => (nomatch h), fun n h => (nomatch h)⟩, Nat.le_refl _⟩, hr7⟩
      (fun d σ' HA hd ⟨x4, ph, R, L, eσ, EA, fph, XA, mi, RA, KA, hrA⟩ => ?_) (fun σ' HA ⟨x4, ph, R, L, eσ, EA, fph, XA, mi, RA, KA, hrA⟩ => ?_)
    · have : y = (0, n0) := by simpa using hy
      rw [this]
      obtain ⟨q, hq⟩ := ok.top
      exact ⟨hd, ⟨q, by unfold cell; rw [hq]; rfl⟩, g1, g2, g3, g4, fun z => by have z : 1 ≤ 0 := z; omega⟩
    · subst eσ
      rw [Int.zero_add]
      obtain ⟨kvs, hs, hh, ha, nd, mem, len, gn⟩ := id hrA
      obtain ⟨us, hus, hrv⟩ := id RA
      obtain ⟨kvK, hkK, hKL, hKz⟩ := id KA
      have lL := mi.len.1
      have lR := mi.len.2
      have p64 : 64 ^ d ≤ 64 ^ 3 := Nat.pow_le_pow_right (by decide) (by omega)
      have p64' : 64 ^ 3 = 262144 := by decide
      have sl : 1000000 < sizeLine := by decide
      have fpr' : pr ≠ ph := ne_of_none_l hus hh (fun z => nomatch z)
      have gk : ∀ {kv : List Key × V}, kv ∈ kvs → ∃ i x, kv.1 = [Sum.inl i, Sum.inr x] := fun {kv} hkv => by
        obtain ⟨j, hj⟩ := List.mem_iff_getElem?.mp hkv
        obtain ⟨a, _, e, _⟩ := ha.get hj
        exact ⟨_, _, e⟩
      -- rows.extend
      refine ⟨_, rfl, x, _, dx, _, _, rfl, XA, c_Machine T, n_rows T, rfl, .inl ⟨rfl, _, SqL.of hus⟩, ?_⟩
      refine ⟨_, rfl, ph, kvs, rfl, .inl hh, fun kv hkv => gk hkv, fun ps kvs' bs perm ik hps => ⟨ps, rfl, ⟨_, SqL.of upd_same⟩, fun Dl hDl => ?_⟩⟩
      obtain ⟨hs', ph', ha'⟩ := all2_perm perm ha
      have hb := all2_zip ha' ik
      have bB := Same.new (o := .lst (bs.map V.ref)) hps
      refine lc_list (K := K) (xs := bs.map V.ref) (fun i H' => Same (upd HA ps (.lst (bs.map V.ref))) H' ∧ ∃ vs, H' Dl = some (.lst vs) ∧ All2 (RowV H') ((atDate d hs').take i) vs) ⟨Same.new hDl, [], upd_same, .nil⟩ (fun i H' _ q => SqL.of (q.1 _ _ upd_same)) (fun i xv HB hxv ⟨eB, vs, hvs, hrow⟩ => ?_) (fun HB ⟨eB, vs, hvs, hrow⟩ => ?_)
      · rw [List.getElem?_map] at hxv
        cases hb1 : bs[i]? with
        | none => rw [hb1] at hxv; cases hxv
        | some b =>
          rw [hb1] at hxv
          obtain rfl : V.ref b = xv := Option.some.inj hxv
          obtain ⟨⟨k, n⟩, hkn, kv, ⟨ek, _⟩, hbt⟩ := hb.get hb1
          have ek : kv.1 = hkey k n := ek
          rw [ek] at hbt
          have hbB : HB b = some (.tup ((hkey k n).map kV)) := eB _ _ (bB _ _ hbt)
          have lv := hrow.len
          have lb := (List.getElem?_eq_some_iff.mp hkn).1
          have ll := ph'.length_eq
          rw [List.length_take] at lv
          refine ⟨b, _, rfl, SqT.of hbB, rfl, _, _, rfl, _, _, rfl, rfl, rfl, ?_⟩
          refine ⟨_, rfl, _, rfl, _, rfl, by show 3 ≤ sizeLine; decide, fun ar har => ⟨vs, (Same.new har) _ _ hvs, by omega, ?_, ?_⟩⟩
          · exact same_mut (eB.trans (Same.new har)) hDl
          · refine ⟨_, upd_same, ?_⟩
            have tt : ∀ a xs, HB a = some (.tup xs) → (upd (upd HB ar (.tup [V.int ((d : Nat) : Int), V.int ((k : Nat) : Int), V.str (nS n)])) Dl (.lst (vs ++ [V.ref ar]))) a = some (.tup xs) := fun a xs z => by
              have : a ≠ Dl := ne_of_none_l z hvs (fun z => nomatch z)
              rw [upd_ne this]
              exact (Same.new har) _ _ z
            have er : (atDate d hs')[i]? = some (d, k, n) := by
              unfold atDate
              rw [List.getElem?_map, hkn]
              rfl
            rw [List.take_add_one, er]
            refine (hrow.imp fun _ _ z => z.ts tt).app (.cons ⟨ar, rfl, ?_⟩ .nil)
            have : ar ≠ Dl := fun z => by
              rw [z, hvs] at har
              cases har
            rw [upd_ne this, upd_same]
            rfl
      · have e1 : (bs.map V.ref).length = (atDate d hs').length := by
          unfold atDate
          rw [List.length_map, List.length_map, hb.len]
        rw [e1, List.take_length] at hrow
        have lv := hrow.len
        have lu := hrv.len
        have ll := ph'.length_eq
        have la' : (atDate d hs').length = hs'.length := by unfold atDate; rw [List.length_map]
        have eAB : Same HA HB := bB.trans eB
        refine ⟨pr, Dl, us, vs, rfl, rfl, eAB _ _ hus, hvs, by omega, ?_⟩
        have t1 : ∀ a xs, HB a = some (.tup xs) → (upd HB pr (.lst (us ++ vs))) a = some (.tup xs) := fun a xs z => by
          rw [upd_ne (ne_of_none_l z (eAB _ _ hus) (fun z => nomatch z))]
          exact z
        have TS1 : TS HA (upd HB pr (.lst (us ++ vs))) := ts_trans (ts_same eAB) (ts_lst (eAB _ _ hus))
        have EC : Same H0 (upd HB pr (.lst (us ++ vs))) := same_mut (EA.trans eAB) fpr
        have XC : (upd HB pr (.lst (us ++ vs))) x = some (.ins (He.ga K "Machine") dx [("web", .ref la0), ("thing", nv), ("rows", .ref pr), ("kin", .ref pk)]) := by rw [upd_ne nxp]; exact eAB _ _ XA
        have RC : RowsAt (upd HB pr (.lst (us ++ vs))) pr (R ++ atDate d hs') := ⟨_, upd_same, (hrv.imp fun _ _ z => z.ts fun a xs q => t1 _ _ (eAB _ _ q)).app (hrow.imp fun _ _ z => z.ts t1)⟩
        have hkC : (upd HB pr (.lst (us ++ vs))) pk = some (.dK kvK) := by rw [upd_ne nrk.symm]; exact eAB _ _ hkK
        have hhC : (upd HB pr (.lst (us ++ vs))) ph = some (.dT kvs) := by rw [upd_ne fpr'.symm]; exact eAB _ _ hh
        generalize upd HB pr (.lst (us ++ vs)) = HC at TS1 EC XC RC hkC hhC
        -- kin.update
        refine ⟨_, rfl, x, _, dx, _, _, rfl, XC, c_Machine T, n_kin T, rfl, .inr (.inr (.inl ⟨rfl, .inl ⟨_, hkC⟩⟩)), ?_⟩
        refine ⟨ph, .dT kvs, hhC, trivial, fun od => ⟨_, rfl, ph, od, rfl, .inr ⟨kvs, upd_same, fun Dk hDk => ?_⟩⟩⟩
        have TSl : TS HC (upd HC ph (.frz od (.dT kvs))) := ts_dT hhC
        have fDk : HC Dk = none := by
          have ne : Dk ≠ ph := fun z => by
            rw [z, upd_same] at hDk
            cases hDk
          rwa [upd_ne ne] at hDk
        refine dc_it (walk_keysT (kvs := kvs)) (fun i H' => Same (upd HC ph (.frz od (.dT kvs))) H' ∧ ∃ kv2, H' Dk = some (.dK kv2) ∧ KinL K H' ((hs.take i).map (·.2)) kv2 ∧ kv2.length ≤ i) ⟨Same.new hDk, [], upd_same, ⟨fun kv h => (nomatch h), fun n h => (nomatch h)⟩, Nat.le_refl _⟩
          (fun i H' _ q => q.1 _ _ upd_same) (fun i xv HD HD' hi ⟨eD, kv2, hkv2, kl2, kz2⟩ ⟨eHD, key, v, qk, hkv, exv, hqk⟩ => ?_) (fun HD ⟨eD, kv2, hkv2, kl2, kz2⟩ => ?_)
        · subst eHD exv
          obtain ⟨⟨k, n⟩, hkn, ekey, hnv⟩ := ha.get hkv
          have ekey : key = hkey k n := ekey
          subst ekey
          have gnn := gn _ (List.mem_of_getElem? hkn)
          obtain ⟨v2, hv2, hn2⟩ := (all2_val ha gn (k := k) (n := n) gnn).1 (List.mem_of_getElem? hkn)
          have TSd : TS HA HD' := ts_trans (ts_trans TS1 TSl) (ts_same eD)
          have lh := ha.len
          refine ⟨qk, _, rfl, SqT.of hqk, rfl, _, _, rfl, _, _, rfl, rfl, rfl, ?_⟩
          refine ⟨_, rfl, _, rfl, _, rfl, _, rfl, by show 2 ≤ sizeLine; decide, fun b hb' => ?_⟩
          have nb := Same.new (o := .tup [V.int ((k : Nat) : Int), .str (nS n)]) hb'
          refine ⟨ph, v2, rfl, .inr ⟨kvs, hkey k n, b, .inr ⟨od, nb _ _ (eD _ _ upd_same)⟩, rfl, upd_same, hv2.symm⟩, kv2, Sum.inr (nS n), rfl, nb _ _ hkv2, by omega, ?_, ?_⟩
          · exact same_mut (eD.trans nb) hDk
          · have tt : TS HD' (upd (upd HD' b (.tup [V.int ((k : Nat) : Int), .str (nS n)])) Dk (.dK (putK kv2 (Sum.inr (nS n)) v2))) := ts_trans (ts_same nb) (ts_dK (nb _ _ hkv2))
            refine ⟨_, upd_same, ?_, ?_⟩
            · rw [List.take_add_one, hkn, List.map_append]
              exact (kl2.ts tt).put gnn ((hn2.ts TSd).ts tt)
            · have := length_putK kv2 (Sum.inr (nS n)) v2
              omega
        · have lh := ha.len
          rw [← lh, List.take_length] at kl2
          have neD : Dk ≠ ph := fun z => by
            rw [z, upd_same] at hDk
            cases hDk
          have eCD : Same HC (upd HD ph (.dT kvs)) := same_lock eD hhC
          have TSu : TS HD (upd HD ph (.dT kvs)) := ts_upd fun xs z => by
            have q := eD _ _ upd_same
            rcases z with z | ⟨o, z⟩ <;> (rw [q] at z; cases z)
          refine ⟨eD _ _ upd_same, ?_⟩
          have kD : (upd HD ph (.dT kvs)) Dk = some (.dK kv2) := by rw [upd_ne neD]; exact hkv2
          have pkD := eCD _ _ hkC
          refine ⟨pk, Dk, kvK, kv2, rfl, rfl, ne_of_none hkC fDk, pkD, .inl kD, by omega, ?_⟩
          have mz := length_mergeK kv2 kvK
          have TS2 : TS HC (upd (upd HD ph (.dT kvs)) pk (.dK (mergeK kvK kv2))) := ts_trans (ts_same eCD) (ts_dK pkD)
          have TS3 : TS HD (upd (upd HD ph (.dT kvs)) pk (.dK (mergeK kvK kv2))) := ts_trans TSu (ts_dK pkD)
          have keepE : ∀ {b : Addr} {o : HO}, b ≠ pk → HC b = some o → (upd (upd HD ph (.dT kvs)) pk (.dK (mergeK kvK kv2))) b = some o := fun ne z => by
            rw [upd_ne ne]
            exact eCD _ _ z
          have EE : Same H0 (upd (upd HD ph (.dT kvs)) pk (.dK (mergeK kvK kv2))) := same_mut (EC.trans eCD) fpk
          have XE := keepE nxk XC
          have KE : KinAt K (upd (upd HD ph (.dT kvs)) pk (.dK (mergeK kvK kv2))) pk (R ++ atDate d hs') := by
            refine ⟨_, upd_same, ?_, ?_⟩
            · have := (hKL.ts (ts_trans TS1 TS2)).merge (kl2.ts TS3)
              refine ⟨this.1, fun n hn => this.2 n ?_⟩
              rw [List.map_append] at hn
              refine List.mem_append.mpr ((List.mem_append.mp hn).imp id fun z => ?_)
              obtain ⟨r, hr, rfl⟩ := List.mem_map.mp z
              exact List.mem_map.mpr ⟨r.2, ph'.mem_iff.mp (atDate_mem.mp hr).2, rfl⟩
            · rw [List.length_append, la']
              omega
          have RE : RowsAt (upd (upd HD ph (.dT kvs)) pk (.dK (mergeK kvK kv2))) pr (R ++ atDate d hs') := by
            obtain ⟨zs, hz, hzr⟩ := RC
            refine ⟨zs, keepE nrk hz, hzr.imp fun _ _ z => z.ts fun a xs q => keepE (ne_of_none_l q hkC (fun z => nomatch z)) q⟩
          have nhk : ph ≠ pk := ne_of_none_l hhC hkC (fun z => nomatch z)
          have HE' : HereAt K (upd (upd HD ph (.dT kvs)) pk (.dK (mergeK kvK kv2))) ph L := hrA.ts (ts_trans TS1 TS2) (by rw [keepE nhk hhC, hh])
          generalize upd (upd HD ph (.dT kvs)) pk (.dK (mergeK kvK kv2)) = HE1 at EE XE KE RE HE'
          -- here = self.later(date, here)
          refine ⟨_, rfl, x, dx, _, rfl, XE, rfl, _, rfl, _, rfl, ?_⟩
          refine ⟨x, dx, ph, _, .ref la0, D, d, L, H0, rfl, XE, rfl, la, EE, fph, ok, hd, HE', fun y hy => ?_, fun z => ?_, fun p' L' HF eF hp' hrF memF lenF => ?_⟩
          · have o := mi.lok hd y hy
            exact ⟨o.node, o.good, o.dep, o.bits, o.lvs⟩
          · have : 64 ^ d ≤ 64 ^ 2 := Nat.pow_le_pow_right (by decide) (by omega)
            have : 64 ^ 2 = 4096 := by decide
            omega
          · have mi' := mi.step (hs := hs') ok hd (ph'.symm.nodup nd) (fun y => (ph'.mem_iff).trans (mem y)) (by rw [ph'.length_eq]; exact len) hP memF lenF
            exact ⟨_, p', _, L', rfl, EE.trans eF, EE.free hp', eF _ _ XE, mi', RE.mono eF, KE.mono eF, hrF⟩
    · subst eσ
      have ro := mi.done ok
      obtain ⟨us, hus, hrv⟩ := id RA
      have lu := hrv.len
      have rl := ro.len
      have sl : 1000000 < sizeLine := by decide
      refine ⟨_, rfl, x, _, dx, _, _, rfl, XA, c_Machine T, n_rows T, rfl, pr, us, rfl, SqL.of hus, fun Dd hDd => ?_⟩
      refine dcT_it (walk_enum (K := K) (xs := us)) (fun i H' => Same HA H' ∧ ∃ kvs, H' Dd = some (.dT kvs) ∧ kvs.length ≤ i ∧ ∀ (j : Nat) (r : Row), j < i → R[j]? = some r → valV kvs (rkey r) = some (.int ((j : Nat) : Int))) ⟨Same.new hDd, [], upd_same, Nat.le_refl _, fun j r z => absurd z (Nat.not_lt_zero _)⟩
        (fun i H' _ q => SqL.of (q.1 _ _ hus)) (fun i xv HB HB' hi ⟨eB, kvs, hkvs, kz, kv⟩ ⟨Tp, xi, y, exv, hTp, eHB, exi, hyi⟩ => ?_) (fun HB ⟨eB, kvs, hkvs, kz, kv⟩ => ?_)
      · subst exv eHB
        obtain rfl : V.int ((i : Nat) : Int) = xi := Option.some.inj exi
        obtain ⟨r, hr, ar, ey, har⟩ := hrv.get hyi
        subst ey
        have nT := Same.new (o := .tup [V.int ((i : Nat) : Int), V.ref ar]) hTp
        refine ⟨Tp, _, rfl, SqT.of upd_same, rfl, _, _, rfl, _, _, rfl, rfl, rfl, ?_⟩
        refine ⟨_, rfl, _, rfl, kvs, rkey r, ar, rfl, nT _ _ (eB _ _ har), nT _ _ hkvs, by omega, same_mut (eB.trans nT) hDd, _, upd_same, ?_, fun j r' hj hr' => ?_⟩
        · have := length_putK kvs (rkey r) (.int ((i : Nat) : Int))
          omega
        · rw [valV_put]
          by_cases e : rkey r' = rkey r
          · have := rkey_inj ok (ro.ok _ (List.mem_of_getElem? hr')) (ro.ok _ (List.mem_of_getElem? hr)) e
            subst this
            have : j = i := by
              exact nodup_idx ro.nd hr' hr
            rw [if_pos e, this]
          · rw [if_neg e]
            refine kv j r' ?_ hr'
            rcases Nat.lt_or_ge j i with z | z
            · exact z
            · have : j = i := by omega
              subst this
              rw [hr] at hr'
              exact absurd (by rw [Option.some.inj hr']) e
      · refine ⟨_, rfl, x, _, dx, _, rfl, eB _ _ XA, c_Machine T, n_spots T, by simp, ?_⟩
        have nD : x ≠ Dd := ne_of_none XA hDd
        have EZ : Same H0 (upd HB x (.ins (He.ga K "Machine") dx (putF "spots" (.ref Dd) [("web", .ref la0), ("thing", nv), ("rows", .ref pr), ("kin", .ref pk)]))) := same_mut (EA.trans eB) fx
        have keep : ∀ {b : Addr} {o : HO}, b ≠ x → HB b = some o → (upd HB x (.ins (He.ga K "Machine") dx (putF "spots" (.ref Dd) [("web", .ref la0), ("thing", nv), ("rows", .ref pr), ("kin", .ref pk)]))) b = some o := fun ne z => by
          rw [upd_ne ne]
          exact z
        refine kk R _ EZ ro ⟨x, dx, .ref la0, nv, pr, pk, Dd, rfl, upd_same, la.mono EZ, ⟨us, keep nxp.symm (eB _ _ hus), hrv.imp fun _ _ z => z.ts fun a xs q => keep (ne_of_none_l q XA (fun z => nomatch z)) (eB _ _ q)⟩, ?_, ⟨kvs, keep nD.symm hkvs, fun i r hr => kv i r (by rw [← lu]; exact (List.getElem?_eq_some_iff.mp hr).1) hr⟩⟩
        obtain ⟨kvK, hkK, hKL, hKz⟩ := id KA
        exact ⟨kvK, keep nxk.symm (eB _ _ hkK), hKL.ts (ts_trans (ts_same eB) (ts_ins (eB _ _ XA))), hKz⟩
end
end SL
namespace SL
open PySem PySem.Spec PyProof.Rows L2 TL
theorem walk_mem : ∀ {t : Tree} {ans l : List Bool} {p : Rat} {r : Note} (pre : List Bool), t.walk ans = .fin p r l → ∃ e ∈ t.lvsOf pre, e.2 = (p, r)
  | .leaf p' r', ans, l, p, r, pre, h => ⟨(pre, p', r'), List.mem_cons_self .., by
    have h : Res.fin p' r' ans = .fin p r l := by
      cases ans <;> exact h
    cases h
    rfl⟩
  | .ask h' n y m, [], l, p, r, pre, h => by cases h
  | .ask h' n y m, true :: ans, l, p, r, pre, h => by
    obtain ⟨e, he, q⟩ := walk_mem (t := y) (pre ++ [true]) (show y.walk ans = .fin p r l from h)
    exact ⟨e, List.mem_append_left _ he, q⟩
  | .ask h' n y m, false :: ans, l, p, r, pre, h => by
    obtain ⟨e, he, q⟩ := walk_mem (t := m) (pre ++ [false]) (show m.walk ans = .fin p r l from h)
    exact ⟨e, List.mem_append_right _ he, q⟩
section
variable {w : World} {K : PySem.W.Frag} {mg : Str → Option Value} {base : Heap}
def spMLen (K : PySem.W.Frag) : Sp := fun vs H Q _ => ∃ m D R, vs = [m] ∧ MAt K H D R m ∧ Q (.int ((R.length : Nat) : Int)) H
theorem ok_M_len (T : TX w K mg) : Fn w K mg base 1 (He.ma K (He.ga K "Machine") "__len__") (spMLen K) := by
  refine fn_M_len (k := 0) T (fun vs H Q E h => ?_) (fun cdv A outer s H vs Q E hr h => ?_)
  · obtain ⟨_, _, _, rfl, _⟩ := h
    rfl
  · obtain ⟨m, D, R, rfl, ⟨a, dx, lv, nv, pr, pk, ps, rfl, h0, ⟨la, ⟨us, hus, hr'⟩, kin, spots⟩⟩, kk⟩ := h
    refine ⟨_, pss_one (ps_ret (pe_callB call_len_seq rfl (b_len T) boot_len (pa_cons (pe_fld (pv 0) rfl) pa_nil))), ?_⟩
    refine ⟨_, rfl, _, _, dx, _, _, rfl, h0, c_Machine T, n_rows T, rfl, pr, us, rfl, .inl (SqL.of hus), ?_⟩
    rw [hr'.len] at kk
    exact kk
def spStand (K : PySem.W.Frag) : Sp := fun vs H Q _ => ∃ m D R i r, vs = [m, .int ((i : Nat) : Int)] ∧ MAt K H D R m ∧ R[i]? = some r ∧ ∀ a, H a = some (.tup ((rkey r).map kV)) → Q (.ref a) H
theorem ok_M_stand (T : TX w K mg) : Fn w K mg base 1 (He.ma K (He.ga K "Machine") "stand") (spStand K) := by
  refine fn_M_stand (k := 0) T (fun vs H Q E h => ?_) (fun cdv A outer s H vs Q E hr h => ?_)
  · obtain ⟨_, _, _, _, _, rfl, _⟩ := h
    rfl
  · obtain ⟨m, D, R, i, r, rfl, ⟨a, dx, lv, nv, pr, pk, ps, rfl, h0, ⟨la, ⟨us, hus, hr'⟩, kin, spots⟩⟩, hi, kk⟩ := h
    refine ⟨_, pss_cons (ps_if (pt_not (pt_chain op_le op_lt pe_int (pv 1) (pe_callB call_len_seq rfl (b_len T) boot_len (pa_cons (pe_fld (pv 0) rfl) pa_nil)))) pss_never pss_nil)
      (pss_one (ps_ret (pe_ix ix_list (pe_fld (pv 0) rfl) (pv 1) (fun _ _ => rfl)))), ?_⟩
    obtain ⟨u, hu1, b, rfl, hb⟩ := hr'.getL hi
    have hl : i < us.length := (List.getElem?_eq_some_iff.mp hu1).1
    refine ⟨_, rfl, _, _, rfl, rfl, _, rfl, itP (by omega) ⟨_, rfl, _, _, dx, _, _, rfl, h0, c_Machine T, n_rows T, rfl, pr, us, rfl, .inl (SqL.of hus), _, _, rfl, rfl, _, rfl, ?_⟩⟩
    rw [decide_eq_true (show (i : Int) < ((us.length : Nat) : Int) by omega)]
    exact iteF ⟨_, rfl, _, _, dx, _, _, rfl, h0, c_Machine T, n_rows T, rfl, _, rfl, pr, us, _, _, rfl, rfl, SqL.of hus, atI_nat hu1, kk b hb⟩
def spAt (K : PySem.W.Frag) : Sp := fun vs H Q _ => ∃ m D R n0 P i r q av ans, vs = [m, .int ((i : Nat) : Int), av] ∧ MAt K H D R m ∧ D.Ok ∧ RowsOk D n0 P R ∧ R[i]? = some r ∧ cell D.P r.1 r.2.1 = some q ∧ AnsAt K H ans av ∧
  ∀ z H', Same H H' → TurAt K H' ((tree r.2.2 r.1 q).walk ans) z → Q z H'
theorem ok_M_at (T : TX w K mg) : FnK w K mg base 34 (He.ma K (He.ga K "Machine") "at") 2 ["answers"] (spAt K) := by
  obtain ⟨fd, F⟩ := f_M_at T
  refine fnK (ps := ["self", "number", "answers"]) (fnOk (k := 33) F sc_M_at (fun vs H Q E h => ?_) (fun cdv A outer s H vs Q E hr h => ?_)) F.kp (bindsK F fun kV doc pm an cdv ct us ws l1 l2 => ?_)
  · obtain ⟨_, _, _, _, _, _, _, _, _, _, rfl, _⟩ := h
    rfl
  · obtain ⟨m, D, R, n0, P, i, r, q, av, ans, rfl, ma, ok, ro, hi, hq, han, kk⟩ := h
    have hu := hr.units
    have hu1 := Nat.lt_of_le_of_lt (Nat.add_le_add_left (by decide : 1 ≤ 64) _) hu
    refine ⟨_, pss_cons (ps_asg (pe_methF (pv 0) (c_Machine T) (m_M_stand T) (ok_M_stand T) rfl hr (pa_cons (pv 1) pa_nil)) (pg_tup rfl (pgs_cons (pg_name (i := 3) sc_M_at.nd rfl (.inl rfl)) (pgs_cons (pg_name (i := 4) sc_M_at.nd rfl (.inl rfl)) (pgs_cons (pg_name (i := 5) sc_M_at.nd rfl (.inl rfl)) pgs_nil)))))
      (pss_one (ps_ret (pe_callFK (ok_turned T) rfl hr rfl (g_turned T) (pa_cons (pe_dget hu1 (pe_fld (pv 0) rfl) (pv 5) (fun _ _ => rfl)) (pa_cons (pv 3) (pa_cons (pe_methF (pe_fld (pv 0) rfl) (c_Lattice T) (m_L_price T) (ok_L_price T) rfl hr (pa_cons (pv 3) (pa_cons (pv 4) pa_nil))) pa_nil))) (pk_cons (pv 2) pk_nil)))), ?_⟩
    obtain ⟨a, dx, lv, nv, pr, pk, ps, rfl, h0, ⟨la, rows, ⟨kvs, hkv, hkl, _⟩, spots⟩⟩ := id ma
    have rk := ro.ok r (List.mem_of_getElem? hi)
    obtain ⟨v, hv, hnv⟩ := hkl.get (rk.gnote ok) (List.mem_map.mpr ⟨r, List.mem_of_getElem? hi, rfl⟩)
    obtain ⟨la0, dl, _, _, _, rfl, hl0, hrest⟩ := id la
    have pq := ok.pz _ _ _ hq
    have mo := ok.most
    have dt := rk.date
    have bb := rk.bits
    refine ⟨_, rfl, _, dx, _, rfl, h0, rfl, _, rfl, _, D, R, i, r, rfl, ma, hi, fun ar har => ⟨ar, _, rfl, SqT.of har, rfl, _, _, rfl, _, _, rfl, _, _, rfl, rfl, ?_⟩⟩
    refine ⟨_, rfl, _, _, dx, _, _, rfl, h0, c_Machine T, n_kin T, rfl, _, rfl, pk, v, rfl, .inl ⟨kvs, Sum.inr (nS r.2.2), .inl hkv, rfl, hv.symm⟩, _, rfl, ?_⟩
    refine ⟨_, rfl, _, _, dx, _, _, rfl, h0, c_Machine T, n_web T, rfl, la0, _, _, rfl, hl0, rfl, _, rfl, _, rfl, _, D, r.1, r.2.1, q, rfl, la, ok, hq, fun u hu => ?_⟩
    exact ⟨_, rfl, rfl, rfl, v, _, u, av, r.2.2, q, ans, r.1, rfl, hnv, hu, han, rk.good, by omega, pq.1, rk.dep, by omega, kk⟩
  · match us, ws, l1, l2 with
    | [a, b], [e], _, _ => rfl
def spAhead (K : PySem.W.Frag) : Sp := fun vs H Q _ => ∃ m D R n0 P i r q av ans p rr l, vs = [m, .int ((i : Nat) : Int), av] ∧ MAt K H D R m ∧ D.Ok ∧ RowsOk D n0 P R ∧ R[i]? = some r ∧ cell D.P r.1 r.2.1 = some q ∧ AnsAt K H ans av ∧ (tree r.2.2 r.1 q).walk ans = .fin p rr l ∧
  (D.P.length = r.1 + 1 → ∀ H', Same H H' → Q .non H') ∧ (∀ a j j' u v H', Same H H' → r.1 + 1 < D.P.length → SqT K H' a [.int ((j : Nat) : Int), .int ((j' : Nat) : Int)] → i < j → i < j' → cell D.S r.1 r.2.1 = some (u, v) → R[j]? = some (r.1 + 1, u, rr) → R[j']? = some (r.1 + 1, v, rr) → Q (.ref a) H')
theorem ok_M_ahead (T : TX w K mg) : FnK w K mg base 48 (He.ma K (He.ga K "Machine") "ahead") 2 ["answers"] (spAhead K) := by
  obtain ⟨fd, F⟩ := f_M_ahead T
  refine fnK (ps := ["self", "number", "answers"]) (fnOk (k := 47) F sc_M_ahead (fun vs H Q E h => ?_) (fun cdv A outer s H vs Q E hr h => ?_)) F.kp (bindsK F fun kV doc pm an cdv ct us ws l1 l2 => ?_)
  · obtain ⟨_, _, _, _, _, _, _, _, _, _, _, _, _, rfl, _⟩ := h
    rfl
  · obtain ⟨m, D, R, n0, P, i, r, q, av, ans, p, rr, l, rfl, ma, ok, ro, hi, hq, han, hw, k1, k2⟩ := h
    have hu := hr.units
    have hu1 := Nat.lt_of_le_of_lt (Nat.add_le_add_left (by decide : 1 ≤ 64) _) hu
    refine ⟨_, pss_cons (ps_asg (pe_methF (pv 0) (c_Machine T) (m_M_stand T) (ok_M_stand T) rfl hr (pa_cons (pv 1) pa_nil)) (pg_tup rfl (pgs_cons (pg_name (i := 3) sc_M_ahead.nd rfl (.inl rfl)) (pgs_cons (pg_name (i := 4) sc_M_ahead.nd rfl (.inl rfl)) (pgs_cons (pg_name (i := 5) sc_M_ahead.nd rfl (.inl rfl)) pgs_nil)))))
      (pss_cons (ps_set (i := 6) sc_M_ahead.nd rfl (.inl rfl) (pe_methFK (pv 0) (c_Machine T) (m_M_at T) (ok_M_at T) rfl hr (pa_cons (pv 1) pa_nil) (pk_cons (pv 2) pk_nil)))
      (pss_cons (ps_if (PW.pt (pw_or (pt_cmpR op_eq (pe_ix ix_tup (pv 6) pe_int (fun _ _ => rfl)) pe_str (nomark _)) (pw_or1 (pt_cmpR op_eq (pv 3) (pe_methF0 (pe_fld (pv 0) rfl) (c_Lattice T) (m_L_last T) (ok_L_last T) rfl hr) (nomark _))))) (pss_one (ps_ret pe_non)) pss_nil)
      (pss_cons (ps_asg (pe_methF (pe_fld (pv 0) rfl) (c_Lattice T) (m_L_step T) (ok_L_step T) rfl hr (pa_cons (pv 3) (pa_cons (pv 4) pa_nil))) (pg_tup rfl (pgs_cons (pg_name (i := 7) sc_M_ahead.nd rfl (.inl rfl)) (pgs_cons (pg_name (i := 8) sc_M_ahead.nd rfl (.inl rfl)) pgs_nil))))
      (pss_cons (ps_set (i := 9) sc_M_ahead.nd rfl (.inl rfl) (pe_callF (ok_note_text T 12) rfl hr rfl (g_note_text T) (pa_cons (pe_ix ix_tup (pv 6) pe_int (fun _ _ => rfl)) pa_nil)))
      (pss_one (ps_ret (pe_tup (pa_cons (pe_dget hu1 (pe_fld (pv 0) rfl) (pe_tup (pa_cons (pe_op op_add (pv 3) pe_int) (pa_cons (pv 7) (pa_cons (pv 9) pa_nil)))) (fun _ _ => rfl)) (pa_cons (pe_dget hu1 (pe_fld (pv 0) rfl) (pe_tup (pa_cons (pe_op op_add (pv 3) pe_int) (pa_cons (pv 8) (pa_cons (pv 9) pa_nil)))) (fun _ _ => rfl)) pa_nil)))))))))  , ?_⟩
    obtain ⟨a, dx, lv, nv, pr, pk, ps, rfl, h0, ⟨la, rows, kin, ⟨kvs, hkv, hsp⟩⟩⟩ := id ma
    have rk := ro.ok r (List.mem_of_getElem? hi)
    obtain ⟨la0, dl, _, _, _, rfl, hl0, hrest⟩ := id la
    have pq := ok.pz _ _ _ hq
    have mo := ok.most
    have dt := rk.date
    refine ⟨_, rfl, _, dx, _, rfl, h0, rfl, _, rfl, _, D, R, i, r, rfl, ma, hi, fun ar har => ⟨ar, _, rfl, SqT.of har, rfl, _, _, rfl, _, _, rfl, _, _, rfl, rfl, ?_⟩⟩
    refine ⟨_, rfl, a, dx, _, rfl, h0, rfl, _, rfl, _, rfl, rfl, rfl, _, D, R, n0, P, i, r, q, av, ans, rfl, ma, ok, ro, hi, hq, han, fun z1 H1 e1 r1 => ?_⟩
    rw [hw] at r1
    obtain ⟨c1, u1, u2, rfl, hc1, _, hrr⟩ := r1
    refine ⟨_, rfl, c1, _, _, _, rfl, rfl, hc1, rfl, rfl, _, rfl, iteSN ?_⟩
    refine ⟨_, rfl, _, rfl, a, _, dx, _, _, rfl, e1 _ _ h0, c_Machine T, n_web T, rfl, la0, _, _, rfl, e1 _ _ hl0, rfl, _, D, rfl, la.mono e1, ok, rfl, _, rfl, ?_⟩
    by_cases hlt : r.1 + 1 < D.P.length
    · refine itN (fun z => by have := V.int.inj z; omega) ?_
      obtain ⟨rt, u, v, hi', lo, s', nd⟩ := ok.nd _ _ q hq hlt
      refine ⟨_, rfl, a, _, dx, _, _, rfl, e1 _ _ h0, c_Machine T, n_web T, rfl, la0, _, _, rfl, e1 _ _ hl0, rfl, _, rfl, _, rfl, _, D, r.1, r.2.1, q, u, v, rfl, la.mono e1, ok, hq, hlt, nd.st, fun sa hsa => ⟨sa, _, rfl, hsa, rfl, _, _, rfl, _, _, rfl, rfl, ?_⟩⟩
      obtain ⟨e, he, hee⟩ := walk_mem [] hw
      have lv := all_lvs (tree_lives (P := fun _ => True) (d := (r.1 : Int)) (m := r.1) pq.1 r.2.2) e he
      have hrr' : e.2.2 = rr := by rw [hee]
      rw [hrr'] at lv
      have om : ∀ w, w = u ∨ w = v → (w, rr) ∈ outs D r.1 r.2 := fun w hw => by
        rw [show r.2 = (r.2.1, r.2.2) from rfl, outs_eq hq nd.st]
        refine List.mem_flatMap.mpr ⟨e, he, ?_⟩
        rw [← hrr']
        rcases hw with z | z <;> (rw [z]; simp [outs1])
      obtain ⟨j, hj, hjr⟩ := ro.next i r hi hlt _ (om u (.inl rfl))
      obtain ⟨j', hj', hjr'⟩ := ro.next i r hi hlt _ (om v (.inr rfl))
      refine ⟨_, rfl, c1, _, _, _, rfl, rfl, hc1, rfl, u2, rr, r.1 + 1, rfl, hrr, lv.good rk.good, by omega, Nat.le_trans lv.dep rk.dep, Nat.le_refl _, fun H2 e2 => ?_⟩
      have e12 := e1.trans e2
      have k1' := hsp j _ hjr
      have k2' := hsp j' _ hjr'
      refine ⟨_, rfl, a, _, dx, _, _, rfl, e12 _ _ h0, c_Machine T, n_spots T, rfl, _, rfl, _, _, rfl, rfl, _, rfl, _, rfl, by show 3 ≤ sizeLine; decide, fun b1 hb1 => ?_⟩
      have n1 := Same.new (o := .tup [V.int ((r.1 : Int) + 1), .int ((u : Nat) : Int), .str (nS rr)]) hb1
      have ek1 : (upd H2 b1 (.tup [V.int ((r.1 : Int) + 1), .int ((u : Nat) : Int), .str (nS rr)])) b1 = some (.tup ((rkey (r.1 + 1, u, rr)).map kV)) := by
        rw [upd_same]
        rfl
      refine ⟨ps, _, rfl, .inr ⟨kvs, _, b1, .inl (n1 _ _ (e12 _ _ hkv)), rfl, ek1, k1'.symm⟩, ?_⟩
      refine ⟨_, rfl, a, _, dx, _, _, rfl, n1 _ _ (e12 _ _ h0), c_Machine T, n_spots T, rfl, _, rfl, _, _, rfl, rfl, _, rfl, _, rfl, by show 3 ≤ sizeLine; decide, fun b2 hb2 => ?_⟩
      have n2 := Same.new (o := .tup [V.int ((r.1 : Int) + 1), .int ((v : Nat) : Int), .str (nS rr)]) hb2
      have ek2 : (upd (upd H2 b1 (.tup [V.int ((r.1 : Int) + 1), .int ((u : Nat) : Int), .str (nS rr)])) b2 (.tup [V.int ((r.1 : Int) + 1), .int ((v : Nat) : Int), .str (nS rr)])) b2 = some (.tup ((rkey (r.1 + 1, v, rr)).map kV)) := by
        rw [upd_same]
        rfl
      refine ⟨ps, _, rfl, .inr ⟨kvs, _, b2, .inl (n2 _ _ (n1 _ _ (e12 _ _ hkv))), rfl, ek2, k2'.symm⟩, by show 2 ≤ sizeLine; decide, fun b3 hb3 => ?_⟩
      exact k2 b3 j j' u v _ (((e12.trans n1).trans n2).trans (Same.new hb3)) hlt (SqT.of upd_same) hj hj' nd.st hjr hjr'
    · refine itP (congrArg V.int (by omega : ((r.1 : Nat) : Int) = ((D.P.length - 1 : Nat) : Int))) (k1 (by omega) _ e1)
  · match us, ws, l1, l2 with
    | [a, b], [e], _, _ => rfl
end
end SL
namespace SL
open PySem PySem.Spec PyProof.Rows L2 TL
/-! ### len of an own instance -/
theorem call_lenO {X : Cx} {C f : Addr} {k : Nat} {sp : Sp} (hp : X.prog = PG) (c : Cls X.K C) (hm : Meth X.K C "__len__" f) (F : Fn X.w X.K X.mg X.base k f sp) (hr : Room (k + 1) X.A) :
    CallR X (.builtin "len") (fun xs H Q => ∃ a dx fs, xs = [.ref a] ∧ H a = some (.ins C dx fs) ∧ sp [.ref a] H (fun v H' => ∃ n : Nat, v = .int (n : Nat) ∧ n ≤ 1000000 ∧ Q v H') E0) := by
  intro pins s σ H xs us Q I r h
  obtain ⟨a, dx, fs, rfl, ha, q⟩ := h
  obtain ⟨u, rfl, rx⟩ := vals1 r
  obtain rfl : u = .ref a := rx
  obtain ⟨mA, O, _, _, _, _⟩ := ins_get I.hok ha
  obtain ⟨od, IA, _⟩ := O.look
  have run : wpAny (model X.prog X.w) X.A.in1 (call (.ref f) [.ref a]) (EP X pins σ (fun v H' => ∃ n : Nat, v = .int (n : Nat) ∧ n ≤ 1000000 ∧ Q v H')) X.xe s := by
    refine wpAny_call (codeAny_mono ((hp ▸ F.1 : FnR X.prog X.w X.K X.mg X.base CX0 k f sp) X.A.in1 X.stack s H [.ref a] [.ref a] _ E0 hr.in1 I.env0.in1 (.cons rfl .nil) q) fun r s' hq => ?_)
    cases r with
    | error e => exact (pass0 pins σ H s e s' I hq)
    | ok fl =>
      cases fl with
      | ret v => exact I.after hq
      | next => exact False.elim hq
      | brk => exact False.elim hq
      | cont => exact False.elim hq
  refine Calls.call_function_entry kind_len plain_len entry_len (args_len1 _) ?_
  unfold Builtin.«len»
  refine wpAny_bind (m := oneArg "len" _) (wpAny_pure ?_)
  refine wpAny_bind (m := callSpecial? (.ref a) (Str.ofString "__len__")) ?_
  unfold callSpecial? specialOf
  refine wpAny_bind (wpAny_bind (IA.type.here ((PySem.W.looks_findIn I.kIn hm.at_).here (wpAny_holding ?_))))
  refine wpAny_bind ((PySem.W.bind_fn I.kIn _ (beq_iff_eq.mp hm.fn)).here ?_)
  refine wpAny_bind (wpAny_mono run (fun v s1 ⟨x, H1, I1, rv, n, ex, hn, q1⟩ => wpAny_pure ?_) fun _ _ z => z)
  subst ex
  obtain ⟨t, rfl⟩ := rv
  refine wpAny_bind (wpAny_holding (wpAny_pure (wpAny_bind (wpAny_letGo ?_))))
  change wpAny _ _ (if ((n : Nat) : Int) < 0 then _ else _) _ _ _
  rw [if_neg (by omega)]
  change wpAny _ _ (if ((n : Nat) : Int) ≥ 2 ^ 63 then _ else _) _ _ _
  rw [if_neg (by omega)]
  exact wpAny_bind (wpAny_mkInt (wpAny_pure ⟨_, rfl, .int ((n : Nat) : Int), H1, I1.tok _, ⟨_, rfl⟩, q1⟩))
end SL
namespace SL
open PySem PySem.Spec PyProof.Rows L2 TL
/-! ### the lattice as numbers -/
def Dat.lat (D : Dat) : Lat := ⟨D.P.length - 1, fun d k => (cell D.P d k).getD 0, fun d k => (cell D.R d k).getD 1, fun d k => ((cell D.S d k).getD (0, 0)).1, fun d k => ((cell D.S d k).getD (0, 0)).2⟩
section
variable {D : Dat} {d k u v : Nat} {q r hi lo s : Rat}
theorem Nd.share (nd : Nd D d k q r u v hi lo s) (hq : cell D.P d k = some q) : D.lat.share d k = s := by
  have e1 : D.lat.price d k = q := by show (cell D.P d k).getD 0 = q; rw [hq]; rfl
  have e2 : D.lat.rate d k = r := by show (cell D.R d k).getD 1 = r; rw [nd.rt]; rfl
  have e3 : D.lat.up d k = u := by show ((cell D.S d k).getD (0, 0)).1 = u; rw [nd.st]; rfl
  have e4 : D.lat.down d k = v := by show ((cell D.S d k).getD (0, 0)).2 = v; rw [nd.st]; rfl
  have e5 : D.lat.price (d + 1) u = hi := by show (cell D.P (d + 1) u).getD 0 = hi; rw [nd.ehi]; rfl
  have e6 : D.lat.price (d + 1) v = lo := by show (cell D.P (d + 1) v).getD 0 = lo; rw [nd.elo]; rfl
  unfold Lat.share
  rw [e1, e2, e3, e4, e5, e6]
  exact share_eq nd
theorem Nd.up (nd : Nd D d k q r u v hi lo s) : D.lat.up d k = u := by show ((cell D.S d k).getD (0, 0)).1 = u; rw [nd.st]; rfl
theorem Nd.down (nd : Nd D d k q r u v hi lo s) : D.lat.down d k = v := by show ((cell D.S d k).getD (0, 0)).2 = v; rw [nd.st]; rfl
theorem Nd.weigh (nd : Nd D d k q r u v hi lo s) (hq : cell D.P d k = some q) (x y : Rat) : D.lat.weigh d k x y = (s * x + (1 - s) * y) / r := by
  have e2 : D.lat.rate d k = r := by show (cell D.R d k).getD 1 = r; rw [nd.rt]; rfl
  unfold Lat.weigh
  rw [nd.share hq, e2]
theorem lat_price (hq : cell D.P d k = some q) : D.lat.price d k = q := by show (cell D.P d k).getD 0 = q; rw [hq]; rfl
end
theorem lat_fair {D : Dat} (ok : D.Ok) : D.lat.Fair := by
  have key : ∀ d k, (∃ q r u v hi lo s, cell D.P d k = some q ∧ Nd D d k q r u v hi lo s) ∨ D.lat.share d k = 0 := fun d k => by
    cases e : cell D.S d k with
    | none =>
      refine .inr ?_
      have e3 : D.lat.up d k = 0 := by show ((cell D.S d k).getD (0, 0)).1 = 0; rw [e]; rfl
      have e4 : D.lat.down d k = 0 := by show ((cell D.S d k).getD (0, 0)).2 = 0; rw [e]; rfl
      unfold Lat.share
      rw [e3, e4]
      have : D.lat.price (d + 1) 0 - D.lat.price (d + 1) 0 = 0 := by grind
      rw [this, Rat.div_def, Rat.inv_zero, Rat.mul_zero]
    | some s0 =>
      obtain ⟨h1, q, hq⟩ := ok.sin d k s0 e
      obtain ⟨r, u, v, hi, lo, s, nd⟩ := ok.nd d k q hq h1
      exact .inl ⟨q, r, u, v, hi, lo, s, hq, nd⟩
  refine ⟨fun d k => ?_, fun d k => ?_, fun d k => ?_⟩
  · show 0 < (cell D.R d k).getD 1
    cases e : cell D.R d k with
    | none => decide
    | some r0 =>
      obtain ⟨h1, q, hq⟩ := ok.rin d k r0 e
      obtain ⟨r, u, v, hi, lo, s, nd⟩ := ok.nd d k q hq h1
      have : r0 = r := Option.some.inj (e.symm.trans nd.rt)
      rw [this]
      exact nd.rp
  · rcases key d k with ⟨q, r, u, v, hi, lo, s, hq, nd⟩ | e
    · rw [nd.share hq]
      exact Rat.le_of_lt nd.s0
    · rw [e]
      exact Rat.le_refl
  · rcases key d k with ⟨q, r, u, v, hi, lo, s, hq, nd⟩ | e
    · rw [nd.share hq]
      exact Rat.le_of_lt nd.s1
    · rw [e]
      decide
/-! ### sizes of worths -/
theorem nn_true : ∀ n : Note, NNames (fun _ => True) n
  | .none => trivial
  | .pay _ _ => trivial
  | .now _ => trivial
  | .both a b => ⟨nn_true a, nn_true b⟩
  | .times _ n => nn_true n
  | .turn n => nn_true n
  | .till _ _ a b => ⟨nn_true a, nn_true b⟩
  | .may _ _ _ _ x y => ⟨trivial, nn_true x, nn_true y⟩
  | .seen _ _ _ _ => trivial
abbrev RT (D : Dat) (r : Row) : Prop := RowOk D (fun _ => True) r
theorem RowOk.rt {D : Dat} {P : Str → Prop} {r : Row} (h : RowOk D P r) : RT D r := ⟨h.date, h.node, h.good, h.dep, h.bits, h.lvs, fun _ => nn_true _⟩
theorem all_and {P P' : Rat → Note → Prop} : ∀ {t : Tree}, t.All P → t.All P' → t.All fun p r => P p r ∧ P' p r
  | .leaf p r, a, b => ⟨a, b⟩
  | .ask _ _ y m, a, b => ⟨all_and a.1 b.1, all_and a.2 b.2⟩
theorem rt_next {D : Dat} {d k u v : Nat} {n : Note} {q r hi lo s : Rat} (ok : D.Ok) (h : RT D (d, k, n)) (hq : cell D.P d k = some q) (hlt : d + 1 < D.P.length) (nd : Nd D d k q r u v hi lo s) :
    (tree n d q).All fun _ r => RT D (d + 1, u, r) ∧ RT D (d + 1, v, r) := by
  have lv := tree_lives (P := fun _ => True) (d := (d : Int)) (m := d) (ok.pz _ _ _ hq).1 n
  refine all_imp (fun p r lv => ?_) lv
  have b1 := h.bits
  have b2 := h.lvs
  have b3 := h.dep
  have l1 := lv.bits
  have l2 := lv.lvs
  have l3 := lv.dep
  exact ⟨⟨hlt, ⟨_, nd.ehi⟩, lv.good h.good, Nat.le_trans l3 b3, Nat.le_trans l1 b1, Nat.le_trans l2 b2, fun _ => nn_true _⟩, ⟨hlt, ⟨_, nd.elo⟩, lv.good h.good, Nat.le_trans l3 b3, Nat.le_trans l1 b1, Nat.le_trans l2 b2, fun _ => nn_true _⟩⟩
def bnd : Nat → Nat
  | 0 => 440
  | m + 1 => 2 * bnd m + 488
theorem bnd_le : ∀ {m : Nat}, m ≤ 3 → bnd m ≤ 6936
  | 0, _ => by decide
  | 1, _ => by decide
  | 2, _ => by decide
  | 3, _ => by decide
theorem val_sz {b : Nat} {f : Rat → Note → Rat} : ∀ {t : Tree}, t.All (fun p r => Sz b (f p r)) → Sz b (t.val f)
  | .leaf p r, h => h
  | .ask h n y m, a => by
    show Sz b (pick h (y.val f) (m.val f))
    rw [pick_chosen]
    split
    · exact val_sz a.1
    · exact val_sz a.2
theorem weigh_sz {b : Nat} {s r x y : Rat} (h1 : Sz 3 s) (h2 : Sz 3 (1 - s)) (h3 : Sz 40 r) (hp : 0 < r) (hx : Sz b x) (hy : Sz b y) : Sz (2 * b + 47) ((s * x + (1 - s) * y) / r) :=
  (Sz.by ((h1.times hx).plus (h2.times hy)) h3 hp).mono (by omega)
theorem F_sz {D : Dat} (ok : D.Ok) : ∀ (m d k : Nat) (n : Note) (q : Rat), RT D (d, k, n) → m + d + 1 = D.P.length → cell D.P d k = some q → (tree n d q).All fun p r => Sz (bnd m) (D.lat.F m d k p r)
  | 0, d, k, n, q, h, e, hq => by
    have := ok.most
    refine all_imp (fun p r z => ?_) (tree_pays (d := (d : Int)) (ok.pz _ _ _ hq).1 (by omega) n h.good)
    exact z.mono h.bits
  | m + 1, d, k, n, q, h, e, hq => by
    have mo := ok.most
    have hlt : d + 1 < D.P.length := by omega
    obtain ⟨r, u, v, hi, lo, s, nd⟩ := ok.nd d k q hq hlt
    have a1 := tree_pays (d := (d : Int)) (ok.pz _ _ _ hq).1 (by omega) n h.good
    refine all_imp (fun p r' z => ?_) (all_and a1 (rt_next ok h hq hlt nd))
    obtain ⟨z1, z2, z3⟩ := z
    show Sz (bnd (m + 1)) (p + D.lat.weigh d k (D.lat.W m (d + 1) (D.lat.up d k) r') (D.lat.W m (d + 1) (D.lat.down d k) r'))
    rw [nd.weigh hq, nd.up, nd.down]
    have w1 : Sz (bnd m) (D.lat.W m (d + 1) u r') := by
      rw [Lat.W_eq, lat_price nd.ehi]
      exact val_sz (F_sz ok m (d + 1) u r' hi z2 (by omega) nd.ehi)
    have w2 : Sz (bnd m) (D.lat.W m (d + 1) v r') := by
      rw [Lat.W_eq, lat_price nd.elo]
      exact val_sz (F_sz ok m (d + 1) v r' lo z3 (by omega) nd.elo)
    exact ((z1.mono h.bits).plus (weigh_sz nd.sz nd.sz1 nd.rz nd.rp w1 w2)).mono (by simp only [bnd]; omega)
/-- the worth of a row -/
def Wr (D : Dat) (r : Row) : Rat := D.lat.W (D.P.length - 1 - r.1) r.1 r.2.1 r.2.2
theorem Wr_sz {D : Dat} (ok : D.Ok) {r : Row} (h : RT D r) : Sz (bnd (D.P.length - 1 - r.1)) (Wr D r) := by
  obtain ⟨q, hq⟩ := h.node
  have := h.date
  unfold Wr
  rw [Lat.W_eq, lat_price hq]
  exact val_sz (F_sz ok _ r.1 r.2.1 r.2.2 q h (by omega) hq)
theorem at_all {P : Rat → Note → Prop} : ∀ {t s : Tree} {l : List Bool}, t.All P → t.at l = some s → s.All P
  | t, s, [], h, e => by
    rw [at_nil] at e
    exact Option.some.inj e ▸ h
  | .leaf p r, s, _ :: _, h, e => by cases e
  | .ask a n y m, s, true :: l, h, e => at_all (t := y) (l := l) h.1 e
  | .ask a n y m, s, false :: l, h, e => at_all (t := m) (l := l) h.2 e
end SL
namespace SL
open PySem PySem.Spec PyProof.Rows L2 TL
/-- the sums from the place i on -/
def SumsAt (K : PySem.W.Frag) (H : Hp) (D : Dat) (R : List Row) (p : Addr) (i : Nat) : Prop := ∃ kvs, H p = some (.dK kvs) ∧ ∀ (j : Nat) (r : Row), i ≤ j → R[j]? = some r → ∃ v, valV kvs (Sum.inl ((j : Nat) : Int)) = some v ∧ Amt K H v (Wr D r)
def WoAt (K : PySem.W.Frag) (H : Hp) (D : Dat) (R : List Row) (i : Nat) (v : V) : Prop := ∃ a dx mv ps, v = .ref a ∧ H a = some (.ins (He.ga K "Worth") dx [("mill", mv), ("sums", .ref ps)]) ∧ MAt K H D R mv ∧ SumsAt K H D R ps i
section
variable {K : PySem.W.Frag} {H H' : Hp}
theorem SumsAt.mono {D : Dat} {R : List Row} {p : Addr} {i : Nat} (h : SumsAt K H D R p i) (e : Same H H') : SumsAt K H' D R p i := by
  obtain ⟨kvs, h, a⟩ := h
  refine ⟨kvs, e _ _ h, fun j r hj hr => ?_⟩
  obtain ⟨v, h1, h2⟩ := a j r hj hr
  exact ⟨v, h1, h2.mono e⟩
theorem SumsAt.weak {D : Dat} {R : List Row} {p : Addr} {i j : Nat} (h : SumsAt K H D R p i) (l : i ≤ j) : SumsAt K H D R p j := by
  obtain ⟨kvs, h, a⟩ := h
  exact ⟨kvs, h, fun k r hk hr => a k r (Nat.le_trans l hk) hr⟩
theorem WoAt.weak {D : Dat} {R : List Row} {i j : Nat} {v : V} (h : WoAt K H D R i v) (l : i ≤ j) : WoAt K H D R j v := by
  obtain ⟨a, dx, mv, ps, r, h, m, s⟩ := h
  exact ⟨a, dx, mv, ps, r, h, m, s.weak l⟩
theorem WoAt.mono {D : Dat} {R : List Row} {i : Nat} {v : V} (h : WoAt K H D R i v) (e : Same H H') : WoAt K H' D R i v := by
  obtain ⟨a, dx, mv, ps, r, h, m, s⟩ := h
  exact ⟨a, dx, mv, ps, r, e _ _ h, m.mono e, s.mono e⟩
end
section
variable {w : World} {K : PySem.W.Frag} {mg : Str → Option Value} {base : Heap}
def spReck (K : PySem.W.Frag) (k : Nat) : Sp := fun vs H Q _ => ∃ wv D R n0 P i r q av ans s, vs = [wv, .int ((i : Nat) : Int), av] ∧ WoAt K H D R (i + 1) wv ∧ D.Ok ∧ RowsOk D n0 P R ∧ R[i]? = some r ∧ cell D.P r.1 r.2.1 = some q ∧ AnsAt K H ans av ∧ (tree r.2.2 r.1 q).at ans = some s ∧ s.dep < k ∧ ans.length + s.dep ≤ 900 ∧
  ∀ z H', Same H H' → Amt K H' z (s.val (D.lat.F (D.P.length - 1 - r.1) r.1 r.2.1)) → Q z H'
theorem ok_W_reckoned (T : TX w K mg) (k : Nat) : Fn w K mg base (49 + k) (He.ma K (He.ga K "Worth") "reckoned") (spReck K k) := by
  induction k with
  | zero =>
    refine fn_W_reckoned (k := 48) T (fun vs H Q E h => ?_) (fun cdv A outer s H vs Q E hr h => ?_)
    · obtain ⟨_, _, _, _, _, _, _, _, _, _, _, rfl, _⟩ := h
      rfl
    · obtain ⟨_, _, _, _, _, _, _, _, _, _, _, _, _, _, _, _, _, _, _, hd, _⟩ := h
      exact absurd hd (Nat.not_lt_zero _)
  | succ k G =>
    refine fn_W_reckoned (k := 49 + k) T (fun vs H Q E h => ?_) (fun cdv A outer st0 H vs Q E hr h => ?_)
    · obtain ⟨_, _, _, _, _, _, _, _, _, _, _, rfl, _⟩ := h
      rfl
    · obtain ⟨wv, D, R, n0, P, i, r, q, av, ans, s, rfl, wa, ok, ro, hi, hq, han, hat, hdep, hlen, kk⟩ := h
      have hu := hr.units
      have hu1 := Nat.lt_of_le_of_lt (Nat.add_le_add_left (by decide : 1 ≤ 64) _) hu
      refine ⟨_, pss_cons (ps_set (i := 3) sc_W_reckoned.nd rfl (.inl rfl) (pe_methFK (pe_fld (pv 0) rfl) (c_Machine T) (m_M_at T) (ok_M_at T) rfl hr (pa_cons (pv 1) pa_nil) (pk_cons (pv 2) pk_nil) (by omega)))
        (pss_cons (ps_if (pt_cmpR op_eq (pe_ix ix_tup (pv 3) pe_int (fun _ _ => rfl)) pe_str (nomark _))
          (pss_cons (ps_set (i := 4) sc_W_reckoned.nd rfl (.inl rfl) (pe_methF (pv 0) (c_Worth T) (m_W_reckoned T) G rfl hr (pa_cons (pv 1) (pa_cons (pe_op op_catA (pv 2) (pe_tup (pa_cons pe_bl pa_nil))) pa_nil)) (by omega)))
          (pss_cons (ps_set (i := 5) sc_W_reckoned.nd rfl (.inl rfl) (pe_methF (pv 0) (c_Worth T) (m_W_reckoned T) G rfl hr (pa_cons (pv 1) (pa_cons (pe_op op_catA (pv 2) (pe_tup (pa_cons pe_bl pa_nil))) pa_nil)) (by omega)))
          (pss_one (ps_ret (pe_ifExp (pt_val (pe_callF (ok_chosen T) rfl hr rfl (g_chosen T) (pa_cons (pe_ix ix_tup (pv 3) pe_int (fun _ _ => rfl)) (pa_cons (pv 4) (pa_cons (pv 5) pa_nil))) (by omega))) (pv 4) (pv 5)))))) pss_nil)
        (pss_cons (ps_set (i := 6) sc_W_reckoned.nd rfl (.inl rfl) (pe_methFK (pe_fld (pv 0) rfl) (c_Machine T) (m_M_ahead T) (ok_M_ahead T) rfl hr (pa_cons (pv 1) pa_nil) (pk_cons (pv 2) pk_nil) (by omega)))
        (pss_cons (ps_if (pt_cmpR op_isN (pv 6) pe_non (nomark _)) (pss_one (ps_ret (pe_ix ix_tup (pv 3) pe_int (fun _ _ => rfl)))) pss_nil)
        (pss_cons (ps_asg (pv 6) (pg_tup rfl (pgs_cons (pg_name (i := 7) sc_W_reckoned.nd rfl (.inl rfl)) (pgs_cons (pg_name (i := 8) sc_W_reckoned.nd rfl (.inl rfl)) pgs_nil))))
        (pss_cons (ps_asg (pe_methF (pe_fld (pv 0) rfl) (c_Machine T) (m_M_stand T) (ok_M_stand T) rfl hr (pa_cons (pv 1) pa_nil) (by omega)) (pg_tup rfl (pgs_cons (pg_name (i := 9) sc_W_reckoned.nd rfl (.inl rfl)) (pgs_cons (pg_name (i := 10) sc_W_reckoned.nd rfl (.inl rfl)) (pgs_cons (pg_name (i := 11) sc_W_reckoned.nd rfl (.inl rfl)) pgs_nil)))))
        (pss_one (ps_ret (pe_callF (ok_plus T) rfl hr rfl (g_plus T) (pa_cons (pe_ix ix_tup (pv 3) pe_int (fun _ _ => rfl)) (pa_cons (pe_callF (ok_weighed T) rfl hr rfl (g_weighed T) (pa_cons (pe_fld (pe_fld (pv 0) rfl) rfl) (pa_cons (pv 9) (pa_cons (pv 10)
          (pa_cons (pe_dget hu1 (pe_fld (pv 0) rfl) (pv 7) (fun _ _ => rfl)) (pa_cons (pe_dget hu1 (pe_fld (pv 0) rfl) (pv 8) (fun _ _ => rfl)) pa_nil))))) (by omega)) pa_nil)) (by omega)))))))))  , ?_⟩
      obtain ⟨a, dx, mv, ps, rfl, h0, ma, hs⟩ := id wa
      obtain ⟨ma0, dm, lv, nv, pr, pk, pp, rfl, hm0, mf⟩ := id ma
      have rk := (ro.ok r (List.mem_of_getElem? hi)).rt
      have dt := rk.date
      have mo := ok.most
      have fsz := F_sz ok (D.P.length - 1 - r.1) r.1 r.2.1 r.2.2 q rk (by omega) hq
      have b3 := bnd_le (m := D.P.length - 1 - r.1) (by omega)
      refine ⟨_, rfl, a, _, dx, _, _, rfl, h0, c_Worth T, n_mill T, rfl, ma0, dm, _, rfl, hm0, rfl, _, rfl, _, rfl, rfl, rfl, _, D, R, n0, P, i, r, q, av, ans, rfl, ma, ok, ro, hi, hq, han, fun z1 H1 e1 r1 => ?_⟩
      rw [at_walk hat] at r1
      cases s with
      | ask o nm y m =>
        obtain ⟨c1, rfl, hc1⟩ := r1
        have hy := at_snoc true hat
        have hm' := at_snoc false hat
        simp only [if_true, Bool.false_eq_true, if_false] at hy hm'
        simp only [Tree.dep] at hdep hlen
        have zy := val_sz (at_all fsz hy)
        have zm := val_sz (at_all fsz hm')
        refine ⟨_, rfl, c1, _, _, _, rfl, rfl, hc1, rfl, rfl, _, rfl, iteSE ?_⟩
        refine ⟨_, rfl, a, dx, _, rfl, e1 _ _ h0, rfl, _, rfl, _, rfl, by show 1 ≤ sizeLine; decide, fun p1 hp1 => ?_⟩
        have n1 := Same.new (o := .tup [V.bl true]) hp1
        refine cat_ans ((han.mono e1).mono n1) upd_same (by omega) fun va H2 e2 ra => ?_
        have e12 := (e1.trans n1).trans e2
        refine ⟨_, D, R, n0, P, i, r, q, va, ans ++ [true], y, rfl, wa.mono e12, ok, ro, hi, hq, ra, hy, by omega, by simp only [List.length_append, List.length_singleton]; omega, fun zy1 H3 e3 hzy => ?_⟩
        have e13 := e12.trans e3
        refine ⟨_, rfl, a, dx, _, rfl, e13 _ _ h0, rfl, _, rfl, _, rfl, by show 1 ≤ sizeLine; decide, fun p2 hp2 => ?_⟩
        have n2 := Same.new (o := .tup [V.bl false]) hp2
        refine cat_ans ((han.mono e13).mono n2) upd_same (by omega) fun vb H4 e4 rb => ?_
        have e14 := (e13.trans n2).trans e4
        refine ⟨_, D, R, n0, P, i, r, q, vb, ans ++ [false], m, rfl, wa.mono e14, ok, ro, hi, hq, rb, hm', by omega, by simp only [List.length_append, List.length_singleton]; omega, fun zm1 H5 e5 hzm => ?_⟩
        have e35 := (n2.trans e4).trans e5
        have e15 := e14.trans e5
        have hc5 := Same.sqt ((n1.trans e2).trans (e3.trans e35)) hc1
        refine ⟨_, rfl, c1, _, _, _, rfl, rfl, hc5, rfl, _, rfl, _, rfl, o, _, _, _, _, rfl, hzy.mono e35, hzm, zy.mono (by omega), zm.mono (by omega), _, rfl, ?_⟩
        have ev : (Tree.ask o nm y m).val (D.lat.F (D.P.length - 1 - r.1) r.1 r.2.1) = if chosen o (y.val (D.lat.F (D.P.length - 1 - r.1) r.1 r.2.1)) (m.val (D.lat.F (D.P.length - 1 - r.1) r.1 r.2.1)) then y.val (D.lat.F (D.P.length - 1 - r.1) r.1 r.2.1) else m.val (D.lat.F (D.P.length - 1 - r.1) r.1 r.2.1) := pick_chosen _ _ _
        rw [ev] at kk
        refine ite2 (fun hc => ?_) (fun hc => ?_)
        · rw [if_pos hc] at kk
          exact ⟨_, rfl, kk _ _ e15 (hzy.mono e35)⟩
        · rw [if_neg hc] at kk
          exact ⟨_, rfl, kk _ _ e15 hzm⟩
      | leaf p rr =>
        obtain ⟨c1, u1, u2, rfl, hc1, hx, hrr⟩ := r1
        have hw := at_walk hat
        refine ⟨_, rfl, c1, _, _, _, rfl, rfl, hc1, rfl, rfl, _, rfl, iteSN ?_⟩
        refine ⟨_, rfl, a, _, dx, _, _, rfl, e1 _ _ h0, c_Worth T, n_mill T, rfl, ma0, dm, _, rfl, e1 _ _ hm0, rfl, _, rfl, _, rfl, rfl, rfl, _, D, R, n0, P, i, r, q, av, ans, p, rr, [], rfl, ma.mono e1, ok, ro, hi, hq, han.mono e1, hw, fun hl H2 e2 => ?_, fun c2 j j' u v H2 e2 hlt hc2 hj hj' hsv hrj hrj' => ?_⟩
        · refine ⟨_, rfl, rfl, _, rfl, iteT ⟨_, rfl, c1, _, _, _, rfl, rfl, Same.sqt e2 hc1, rfl, kk _ _ (e1.trans e2) ?_⟩⟩
          have : D.P.length - 1 - r.1 = 0 := by omega
          rw [this]
          exact hx.mono e2
        · have e12 := e1.trans e2
          obtain ⟨rt, u', v', hi', lo, s', nd⟩ := ok.nd _ _ q hq hlt
          obtain ⟨rfl, rfl⟩ := Prod.mk.inj (Option.some.inj (hsv.symm.trans nd.st))
          refine ⟨_, rfl, rfl, _, rfl, iteF ⟨_, rfl, c2, _, rfl, hc2, rfl, _, _, rfl, _, _, rfl, rfl, ?_⟩⟩
          refine ⟨_, rfl, a, _, dx, _, _, rfl, e12 _ _ h0, c_Worth T, n_mill T, rfl, ma0, dm, _, rfl, e12 _ _ hm0, rfl, _, rfl, _, D, R, i, r, rfl, ma.mono e12, hi, fun ar har => ⟨ar, _, rfl, SqT.of har, rfl, _, _, rfl, _, _, rfl, _, _, rfl, rfl, ?_⟩⟩
          obtain ⟨kvs, hkv, hsum⟩ := hs.mono e12
          obtain ⟨vu, hvu, au⟩ := hsum j _ hj hrj
          obtain ⟨vd, hvd, ad⟩ := hsum j' _ hj' hrj'
          have rtn := at_all (rt_next ok rk hq hlt nd) hat
          have su := Wr_sz ok rtn.1
          have sd := Wr_sz ok rtn.2
          have eb : D.P.length - 1 - (r.1 + 1) + 1 = D.P.length - 1 - r.1 := by omega
          have bb := bnd_le (m := D.P.length - 1 - (r.1 + 1) + 1) (by omega)
          simp only [bnd] at bb
          have pz := at_all (tree_pays (d := (r.1 : Int)) (ok.pz _ _ _ hq).1 (by omega) r.2.2 rk.good) hat
          have pz : Sz (nbits r.2.2) p := pz
          have nb := rk.bits
          refine ⟨_, rfl, c1, _, _, _, rfl, rfl, Same.sqt e2 hc1, rfl, ?_⟩
          refine ⟨_, rfl, a, _, dx, _, _, rfl, e12 _ _ h0, c_Worth T, n_mill T, rfl, ma0, _, dm, _, _, rfl, e12 _ _ hm0, c_Machine T, n_web T, rfl, _, rfl, _, rfl, ?_⟩
          refine ⟨_, rfl, a, _, dx, _, _, rfl, e12 _ _ h0, c_Worth T, n_sums T, rfl, _, rfl, ps, vu, rfl, .inl ⟨kvs, Sum.inl ((j : Nat) : Int), .inl hkv, rfl, hvu.symm⟩, ?_⟩
          refine ⟨_, rfl, a, _, dx, _, _, rfl, e12 _ _ h0, c_Worth T, n_sums T, rfl, _, rfl, ps, vd, rfl, .inl ⟨kvs, Sum.inl ((j' : Nat) : Int), .inl hkv, rfl, hvd.symm⟩, ?_⟩
          refine ⟨lv, D, r.1, r.2.1, q, rt, u, v, hi', lo, s', _, _, vu, vd, bnd (D.P.length - 1 - (r.1 + 1)), rfl, mf.lat.mono e12, ok, hq, hlt, nd, au, ad, su, sd, by omega, fun zw H3 e3 hzw => ?_⟩
          refine ⟨_, _, p, _, 440, 2 * bnd (D.P.length - 1 - (r.1 + 1)) + 47, rfl, hx.mono (e2.trans e3), hzw, pz.mono nb, weigh_sz nd.sz nd.sz1 nd.rz nd.rp su sd, by omega, fun z H4 e4 hz => kk z H4 ((e12.trans e3).trans e4) ?_⟩
          have ef : (Tree.leaf p rr).val (D.lat.F (D.P.length - 1 - r.1) r.1 r.2.1) = p + (s' * Wr D (r.1 + 1, u, rr) + (1 - s') * Wr D (r.1 + 1, v, rr)) / rt := by
            rw [← eb]
            show p + D.lat.weigh r.1 r.2.1 (D.lat.W (D.P.length - 1 - (r.1 + 1)) (r.1 + 1) (D.lat.up r.1 r.2.1) rr) (D.lat.W (D.P.length - 1 - (r.1 + 1)) (r.1 + 1) (D.lat.down r.1 r.2.1) rr) = _
            rw [nd.weigh hq, nd.up, nd.down]
            rfl
          rw [ef]
          exact hz
end
end SL
namespace SL
open PySem PySem.Spec PyProof.Rows L2 TL
/-- all stays but instances with few fields -/
def Kp (H H' : Hp) : Prop := ∀ b o, H b = some o → (∀ C dx fs, o = .ins C dx fs → 3 ≤ fs.length) → H' b = some o
section
variable {K : PySem.W.Frag} {H H' : Hp}
theorem Kp.wr {x C dx : Addr} {o : HO} {fs : List (Str × V)} (hx : H x = some (.ins C dx fs)) (hl : fs.length < 3) : Kp H (upd H x o) := fun b u h q => by
  have ne : b ≠ x := fun z => by
    rw [z, hx] at h
    have := q C dx fs (Option.some.inj h).symm
    omega
  rw [upd_ne ne]
  exact h
theorem Kp.ts (e : Kp H H') : TS H H' := fun b xs q => by
  rcases q with q | ⟨o, q⟩
  · exact .inl (e _ _ q fun _ _ _ z => nomatch z)
  · exact .inr ⟨o, e _ _ q fun _ _ _ z => nomatch z⟩
theorem RowAt.kp (e : Kp H H') {row : List Rat} {v : V} (h : RowAt K H row v) : RowAt K H' row v := by
  obtain ⟨b, us, r, h, a⟩ := h
  exact ⟨b, us, r, e _ _ h fun _ _ _ z => (nomatch z), a.imp fun _ _ z => z.ts e.ts⟩
theorem SRowAt.kp (e : Kp H H') {row : List (Nat × Nat)} {v : V} (h : SRowAt K H row v) : SRowAt K H' row v := by
  obtain ⟨b, us, r, h, a⟩ := h
  refine ⟨b, us, r, e _ _ h fun _ _ _ z => (nomatch z), a.imp fun s v z => ?_⟩
  obtain ⟨a, r, z⟩ := z
  exact ⟨a, r, ts_sqt e.ts z⟩
theorem LatAt.kp (e : Kp H H') {D : Dat} {v : V} (h : LatAt K H D v) : LatAt K H' D v := by
  obtain ⟨a, dx, vp, vr, vs, r, h, ⟨b1, u1, r1, h1, a1⟩, ⟨b2, u2, r2, h2, a2⟩, ⟨b3, u3, r3, h3, a3⟩⟩ := h
  refine ⟨a, dx, vp, vr, vs, r, e _ _ h fun _ _ _ z => ?_, ⟨b1, u1, r1, e _ _ h1 fun _ _ _ z => (nomatch z), a1.imp fun _ _ z => z.kp e⟩, ⟨b2, u2, r2, e _ _ h2 fun _ _ _ z => (nomatch z), a2.imp fun _ _ z => z.kp e⟩, ⟨b3, u3, r3, e _ _ h3 fun _ _ _ z => (nomatch z), a3.imp fun _ _ z => z.kp e⟩⟩
  cases z
  exact Nat.le_refl _
theorem MAt.kp (e : Kp H H') {D : Dat} {R : List Row} {v : V} (h : MAt K H D R v) : MAt K H' D R v := by
  obtain ⟨a, dx, lv, nv, pr, pk, ps, r, h, la, ⟨us, h1, a1⟩, ⟨kvs, h2, a2, l2⟩, ⟨kt, h3, a3⟩⟩ := h
  refine ⟨a, dx, lv, nv, pr, pk, ps, r, e _ _ h fun _ _ _ z => ?_, la.kp e, ⟨us, e _ _ h1 fun _ _ _ z => (nomatch z), a1.imp fun _ _ z => z.ts fun _ _ q => e _ _ q fun _ _ _ z => (nomatch z)⟩, ⟨kvs, e _ _ h2 fun _ _ _ z => (nomatch z), a2.ts e.ts, l2⟩, ⟨kt, e _ _ h3 fun _ _ _ z => (nomatch z), a3⟩⟩
  cases z
  exact Nat.le_add_left _ _
end
/-- without what stands at x -/
def hid (x : Addr) (H : Hp) : Hp := fun a => if a = x then none else H a
theorem hid_same {x : Addr} (H : Hp) : Same (hid x H) H := fun b o h => by
  unfold hid at h
  split at h
  · cases h
  · exact h
theorem hid_none {x : Addr} (H : Hp) : hid x H x = none := if_pos rfl
theorem same_hid {x : Addr} {H0 H : Hp} (h : H0 x = none) (e : Same H0 H) : Same H0 (hid x H) := fun b o q => by
  unfold hid
  rw [if_neg (ne_of_none q h)]
  exact e _ _ q
theorem Kp.hid {x C dx : Addr} {H : Hp} {fs : List (Str × V)} (hx : H x = some (.ins C dx fs)) (hl : fs.length < 3) : Kp H (hid x H) := fun b u h q => by
  have ne : b ≠ x := fun z => by
    rw [z, hx] at h
    have := q C dx fs (Option.some.inj h).symm
    omega
  unfold SL.hid
  rw [if_neg ne]
  exact h
section
variable {w : World} {K : PySem.W.Frag} {mg : Str → Option Value} {base : Heap}
def spWInit (K : PySem.W.Frag) : Sp := fun vs H Q _ => ∃ (x dx : Addr) (lv nv : V) (D : Dat) (n0 : Note) (P : Str → Prop) (H0 : Hp), vs = [.ref x, lv, nv] ∧ H0 x = none ∧ Same H0 H ∧ H x = some (.ins (He.ga K "Worth") dx []) ∧ LatAt K H0 D lv ∧ NAt K H0 n0 nv ∧ D.Ok ∧
  NGood 0 n0 ∧ ndep n0 ≤ 12 ∧ nbits n0 ≤ 440 ∧ nlv n0 ≤ 32 ∧ (∀ q, (tree n0 0 q).All fun _ r => NNames P r) ∧ ∀ R H', Same H0 H' → RowsOk D n0 P R → WoAt K H' D R 0 (.ref x) → Q .non H'
theorem ok_W_init (T : TX w K mg) : Fn w K mg base 82 (He.ma K (He.ga K "Worth") "__init__") (spWInit K) := by
  refine fn_W_init (k := 81) T (fun vs H Q E h => ?_) (fun cdv A outer s H vs Q E hr h => ?_)
  · obtain ⟨_, _, _, _, _, _, _, _, rfl, _⟩ := h
    rfl
  · obtain ⟨x, dx, lv, nv, D, n0, P, H0, rfl, fx, e0, hx, la, hn, ok, g1, g2, g3, g4, hP, kk⟩ := h
    have hu := hr.units
    have hu1 := Nat.lt_of_le_of_lt (Nat.add_le_add_left (by decide : 1 ≤ 64) _) hu
    refine ⟨_, pss_cons (ps_fld (pv 0) (pe_makeF (mk_Machine T) (ok_M_init T) rfl hr rfl (g_Machine T) (pa_cons (pv 1) (pa_cons (pv 2) pa_nil))) rfl)
      (pss_cons (ps_fld (pv 0) pe_dnewK rfl)
      (pss_one (ps_for PassesOwn.never rfl (pi_revR rfl (b_reversed T) (prg_1 rfl (b_range T) (pe_callB (call_lenO rfl (c_Machine T) (m_M_len T) (ok_M_len T) (hr.mono (by decide))) rfl (b_len T) boot_len (pa_cons (pe_fld (pv 0) rfl) pa_nil)))) (pg_name (i := 3) sc_W_init.nd rfl (.inl rfl))
        (pss_one (ps_dput hu1 (pe_fld (pv 0) rfl) (pv 3) (pe_methF (pv 0) (c_Worth T) (m_W_reckoned T) (ok_W_reckoned T 32) rfl hr (pa_cons (pv 3) (pa_cons (pe_tup pa_nil) pa_nil))) rfl))))), ?_⟩
    refine ⟨_, rfl, _, rfl, fun m dm hm hdm ndm => ?_⟩
    have fm : H0 m = none := e0.free hm
    have fdm : H0 dm = none := e0.free hdm
    have E1 : Same H0 (upd (upd H dm (.own m)) m (.ins (He.ga K "Machine") dm [])) := same_mut (same_mut e0 fdm) fm
    have nxm : x ≠ m := ne_of_none hx hm
    have nxd : x ≠ dm := ne_of_none hx hdm
    -- what stood ahead of the machine, the worth itself among it
    refine ⟨m, dm, lv, nv, D, n0, P, H, rfl, hm, same_mut (Same.new hdm) hm, upd_same, la.mono e0, hn.mono e0, ok, g1, g2, g3, g4, hP, fun R H1 e1 ro ma => ⟨rfl, ?_⟩⟩
    have X1 := e1 _ _ hx
    refine ⟨_, rfl, x, _, dx, _, rfl, X1, c_Worth T, n_mill T, by decide, ?_⟩
    have E2 : Same H0 (upd H1 x (.ins (He.ga K "Worth") dx (putF "mill" (.ref m) []))) := same_mut (e0.trans e1) fx
    have X2 : (upd H1 x (.ins (He.ga K "Worth") dx (putF "mill" (.ref m) []))) x = some (.ins (He.ga K "Worth") dx [("mill", .ref m)]) := upd_same
    have M2 : MAt K (upd H1 x (.ins (He.ga K "Worth") dx (putF "mill" (.ref m) []))) D R (.ref m) := ma.kp (Kp.wr X1 (by decide))
    generalize upd H1 x (.ins (He.ga K "Worth") dx (putF "mill" (.ref m) [])) = H2 at E2 X2 M2
    refine fun ps hps => ?_
    have fps : H0 ps = none := E2.free hps
    have nxp : x ≠ ps := ne_of_none X2 hps
    refine ⟨_, rfl, x, _, dx, _, rfl, (Same.new hps) _ _ X2, c_Worth T, n_sums T, by simp, ?_⟩
    have MB : MAt K (hid x H2) D R (.ref m) := M2.kp (Kp.hid X2 (by simp))
    have EB0 : Same H0 (hid x H2) := same_hid fx E2
    have fbp : hid x H2 ps = none := by
      unfold hid
      rw [if_neg nxp.symm]
      exact hps
    have E3 : Same (hid x H2) (upd (upd H2 ps (.dK [])) x (.ins (He.ga K "Worth") dx (putF "sums" (.ref ps) [("mill", .ref m)]))) := same_mut ((hid_same H2).trans (Same.new hps)) (hid_none H2)
    have X3 : (upd (upd H2 ps (.dK [])) x (.ins (He.ga K "Worth") dx (putF "sums" (.ref ps) [("mill", .ref m)]))) x = some (.ins (He.ga K "Worth") dx [("mill", .ref m), ("sums", .ref ps)]) := upd_same
    have S3 : (upd (upd H2 ps (.dK [])) x (.ins (He.ga K "Worth") dx (putF "sums" (.ref ps) [("mill", .ref m)]))) ps = some (.dK []) := by rw [upd_ne nxp.symm, upd_same]
    generalize upd (upd H2 ps (.dK [])) x (.ins (He.ga K "Worth") dx (putF "sums" (.ref ps) [("mill", .ref m)])) = H3 at E3 X3 S3
    generalize hid x H2 = Hb at MB EB0 fbp E3
    have M3 := MB.mono E3
    obtain ⟨m', dm', lv', nv', pr', pk', pp', em, hm3, _⟩ := id M3
    cases em
    have rl := ro.len
    refine ⟨_, rfl, x, _, dx, _, _, rfl, X3, c_Worth T, n_mill T, rfl, m, dm', _, rfl, hm3, _, D, R, rfl, M3, R.length, rfl, by omega, ?_⟩
    refine ⟨_, rfl, by decide, by decide, by omega, by omega, ?_⟩
    have en : (((R.length : Nat) : Int) - 0).toNat = R.length := by omega
    rw [en]
    refine for_rangeC (n := R.length) (fun i σ' H' => ∃ x3, σ' = [some (.ref x), some lv, some nv, x3] ∧ Same Hb H' ∧ H' x = some (.ins (He.ga K "Worth") dx [("mill", .ref m), ("sums", .ref ps)]) ∧ ∃ kvs, H' ps = some (.dK kvs) ∧ kvs.length ≤ i ∧ ∀ (j : Nat) (r : Row), R.length - i ≤ j → R[j]? = some r → ∃ v, valV kvs (Sum.inl ((j : Nat) : Int)) = some v ∧ Amt K H' v (Wr D r)) ⟨none, rfl, E3, X3, [], S3, by simp, fun j r hj hr => ?_⟩
      (fun i σ' HA hi ⟨x3, eσ, EA, XA, kvs, hkv, kz, hsum⟩ => ?_) (fun σ' HA ⟨x3, eσ, EA, XA, kvs, hkv, kz, hsum⟩ => ?_)
    · have := (List.getElem?_eq_some_iff.mp hr).1
      omega
    · subst eσ
      have ei : (0 : Int) + (((R.length : Nat) : Int)) - 1 + ((i : Nat) : Int) * (-1) = ((R.length - 1 - i : Nat) : Int) := by omega
      rw [ei]
      have hj : R.length - 1 - i < R.length := by omega
      have hr0 : R[R.length - 1 - i]? = some R[R.length - 1 - i] := List.getElem?_eq_getElem hj
      generalize R[R.length - 1 - i] = r at hr0
      have rk := ro.ok r (List.mem_of_getElem? hr0)
      obtain ⟨q, hq⟩ := rk.node
      have ej : R.length - i = R.length - 1 - i + 1 := by omega
      rw [ej] at hsum
      have td := tree_dep (d := (r.1 : Int)) (p := q) r.2.2
      have tl := dep_le_lvs (tree r.2.2 r.1 q)
      have nl := rk.lvs
      have wa : WoAt K HA D R (R.length - 1 - i + 1) (.ref x) := ⟨x, dx, .ref m, ps, rfl, XA, MB.mono EA, kvs, hkv, hsum⟩
      refine ⟨_, rfl, x, dx, _, rfl, XA, rfl, _, rfl, by show 0 ≤ sizeLine; decide, fun p hp => ?_⟩
      have np := Same.new (o := .tup []) hp
      refine ⟨_, D, R, n0, P, R.length - 1 - i, r, q, _, [], tree r.2.2 r.1 q, rfl, wa.mono np, ok, ro, hr0, hq, ⟨p, rfl, SqT.of upd_same, by decide⟩, at_nil _, by omega, by simp only [List.length_nil]; omega, fun z HB eB hz => ?_⟩
      have eAB := np.trans eB
      have hkB := eAB _ _ hkv
      have sl : 1000000 < sizeLine := by decide
      refine ⟨_, rfl, x, _, dx, _, _, rfl, eAB _ _ XA, c_Worth T, n_sums T, rfl, _, rfl, ps, _, rfl, DPut.k (k := Sum.inl ((R.length - 1 - i : Nat) : Int)) hkB (by omega), _, rfl, same_mut (EA.trans eAB) fbp, ?_, ?_⟩
      · rw [upd_ne nxp]
        exact eAB _ _ XA
      · have e2 : R.length - (i + 1) = R.length - 1 - i := by omega
        rw [e2]
        have lp := length_putK kvs (Sum.inl ((R.length - 1 - i : Nat) : Int)) z
        have TSk : TS HB (upd HB ps (.dK (putK kvs (Sum.inl ((R.length - 1 - i : Nat) : Int)) z))) := ts_dK hkB
        refine ⟨_, upd_same, by omega, fun j r' hjj hr' => ?_⟩
        rw [valV_put]
        by_cases e : (Sum.inl ((j : Nat) : Int) : Key) = Sum.inl ((R.length - 1 - i : Nat) : Int)
        · rw [if_pos e]
          have : ((j : Nat) : Int) = ((R.length - 1 - i : Nat) : Int) := Sum.inl.inj e
          obtain rfl : j = R.length - 1 - i := by omega
          obtain rfl : r = r' := Option.some.inj (hr0.symm.trans hr')
          refine ⟨z, rfl, ?_⟩
          have hz : Amt K HB z ((tree r.2.2 r.1 q).val (D.lat.F (D.P.length - 1 - r.1) r.1 r.2.1)) := hz
          have : Wr D r = (tree r.2.2 r.1 q).val (D.lat.F (D.P.length - 1 - r.1) r.1 r.2.1) := by
            unfold Wr
            rw [Lat.W_eq, lat_price hq]
          rw [this]
          exact hz.ts TSk
        · rw [if_neg e]
          have : j ≠ R.length - 1 - i := fun z => e (by rw [z])
          obtain ⟨v, h1, h2⟩ := hsum j r' (by omega) hr'
          exact ⟨v, h1, (h2.mono eAB).ts TSk⟩
    · rw [Nat.sub_self] at hsum
      exact kk R HA (EB0.trans EA) ro ⟨x, dx, .ref m, ps, rfl, XA, MB.mono EA, kvs, hkv, hsum⟩
end
end SL
namespace SL
open PySem PySem.Spec PyProof.Rows L2 TL
/-- all stays but at the addresses M -/
def Ex (M : List Addr) (H H' : Hp) : Prop := ∀ a o, a ∉ M → H a = some o → H' a = some o
section
variable {M N : List Addr} {H H' H2 : Hp}
theorem Ex.refl (M : List Addr) (H : Hp) : Ex M H H := fun _ _ _ h => h
theorem Ex.trans (a : Ex M H H') (b : Ex M H' H2) : Ex M H H2 := fun c o n h => b c o n (a c o n h)
theorem Ex.wide (a : Ex M H H') (h : ∀ x, x ∈ M → x ∈ N) : Ex N H H' := fun c o n q => a c o (fun z => n (h c z)) q
theorem Ex.same (a : Same H H') : Ex M H H' := fun c o _ q => a _ _ q
theorem Ex.put {p : Addr} {o : HO} (h : p ∈ M) : Ex M H (upd H p o) := fun c u n q => by
  rw [upd_ne (fun z : c = p => n (z ▸ h))]
  exact q
theorem Ex.ts (hM : ∀ a, a ∈ M → ∃ xs, H a = some (.lst xs)) (e : Ex M H H') : TS H H' := fun a xs q => by
  by_cases m : a ∈ M
  · obtain ⟨ys, h⟩ := hM a m
    rcases q with q | ⟨o, q⟩
    · rw [h] at q; cases q
    · rw [h] at q; cases q
  · rcases q with q | ⟨o, q⟩
    · exact .inl (e _ _ m q)
    · exact .inr ⟨o, e _ _ m q⟩
end
/-- the box b over the cells c -/
def BoxAt (H : Hp) (b c : Addr) : Prop := b ≠ c ∧ ∃ (cs : List Int) (i : Nat) (z s : Int), H b = some (.lst [.ref c, .int (i : Int), .int z, .int s]) ∧ H c = some (.lst (cs.map V.int)) ∧ i ≤ cs.length ∧ cs.length ≤ 63 ∧ 0 ≤ z ∧ 0 ≤ s ∧ s < 2147482951
theorem BoxAt.lst {H : Hp} {b c : Addr} (h : BoxAt H b c) : ∀ a, a ∈ [b] → ∃ xs, H a = some (.lst xs) := fun a m => by
  obtain ⟨_, cs, i, z, s, h, _⟩ := h
  cases List.mem_singleton.mp m
  exact ⟨_, h⟩
theorem BoxAt.ex {H H' : Hp} {b c : Addr} {M : List Addr} (h : BoxAt H b c) (e : Ex M H H') (hb : b ∉ M) (hc : c ∉ M) : BoxAt H' b c := by
  obtain ⟨n, cs, i, z, s, h1, h2, h3⟩ := h
  exact ⟨n, cs, i, z, s, e _ _ hb h1, e _ _ hc h2, h3⟩
theorem BoxAt.mono {H H' : Hp} {b c : Addr} (h : BoxAt H b c) (e : Same H H') : BoxAt H' b c := by
  obtain ⟨n, cs, i, z, s, h1, h2, h3⟩ := h
  exact ⟨n, cs, i, z, s, e _ _ h1, e _ _ h2, h3⟩
/-- a draw's step -/
def Dr (b c : Addr) (H H' : Hp) : Prop := Ex [b] H H' ∧ BoxAt H' b c
section
variable {b c : Addr} {H H' H2 : Hp}
theorem Dr.trans (x : Dr b c H H') (y : Dr b c H' H2) : Dr b c H H2 := ⟨x.1.trans y.1, y.2⟩
theorem Dr.same (x : Dr b c H H') (e : Same H' H2) : Dr b c H H2 := ⟨x.1.trans (Ex.same e), x.2.mono e⟩
theorem Dr.refl (h : BoxAt H b c) : Dr b c H H := ⟨Ex.refl _ _, h⟩
theorem Dr.ts (h : BoxAt H b c) (x : Dr b c H H') : TS H H' := Ex.ts h.lst x.1
end
section
variable {w : World} {K : PySem.W.Frag} {mg : Str → Option Value} {base : Heap}
def spTake : Sp := fun vs H Q _ => ∃ (b c : Addr) (n : Int), vs = [.ref b, .int n] ∧ BoxAt H b c ∧ 1 ≤ n ∧ n < 2 ^ 30 ∧ ∀ (r : Int) H', 0 ≤ r → r < n → Dr b c H H' → Q (.int r) H'
theorem small_wide {i j : Int} (hi : i.natAbs < 2 ^ 64) (hj : j.natAbs < 2 ^ 64) : CMulW i j := wide_mul hi hj (by decide) (by decide) (by decide)
theorem ok_Ltake (T : TX w K mg) : Fn w K mg base 1 (He.ga K "_law_take") spTake := by
  refine fn_Ltake (k := 0) T (fun vs H Q E h => ?_) (fun cdv A outer s H vs Q E hr h => ?_)
  · obtain ⟨_, _, _, rfl, _⟩ := h
    rfl
  · obtain ⟨b, c, n, rfl, hB, h1, h30, kk⟩ := h
    have B (i : Expr) : True := trivial
    refine ⟨_, pss_cons (ps_if (PW.pt (pw_and (pt_cmpR op_eq (pe_ix ix_list (pv 0) pe_int (fun _ _ => rfl)) pe_int (nomark _)) (pw_and1 (pt_cmpR op_lt (pe_ix ix_list (pv 0) pe_int (fun _ _ => rfl)) (pe_callB call_len_seq rfl (b_len T) boot_len (pa_cons (pe_ix ix_list (pv 0) pe_int (fun _ _ => rfl)) pa_nil)) (nomark _)))))
        (pss_cons (ps_set (i := 2) sc_Ltake.nd rfl (.inl rfl) (pe_ix ix_list (pe_ix ix_list (pv 0) pe_int (fun _ _ => rfl)) (pe_ix ix_list (pv 0) pe_int (fun _ _ => rfl)) (fun _ _ => rfl)))
        (pss_cons (ps_asg (pe_op op_add (pe_ix ix_list (pv 0) pe_int (fun _ _ => rfl)) pe_int) (pg_sub (pv 0) pe_int set_list))
        (pss_one (ps_if (pt_cmpR op_ge (pv 2) (pe_op op_pow pe_int pe_int) (nomark _)) (pss_one (ps_asg (pv 2) (pg_sub (pv 0) pe_int set_list)))
          (pss_cons (ps_set (i := 3) sc_Ltake.nd rfl (.inl rfl) (pe_op op_add (pe_op op_mulW (pe_ix ix_list (pv 0) pe_int (fun _ _ => rfl)) pe_int) (pe_op op_mulW (pe_ix ix_list (pv 0) pe_int (fun _ _ => rfl)) pe_int)))
          (pss_one (ps_asg (pe_op op_mod (pe_op op_add (pv 3) (pe_op op_mulW (pe_op op_mod (pv 2) pe_int) pe_int)) pe_int) (pg_sub (pv 0) pe_int set_list))))))))
        pss_nil)
      (pss_cons (ps_if (pt_cmpR op_gt (pe_ix ix_list (pv 0) pe_int (fun _ _ => rfl)) pe_int (nomark _))
        (pss_cons (ps_set (i := 4) sc_Ltake.nd rfl (.inl rfl) (pe_op op_mod (pe_ix ix_list (pv 0) pe_int (fun _ _ => rfl)) (pv 1)))
        (pss_cons (ps_asg (pe_op op_fdivW (pe_ix ix_list (pv 0) pe_int (fun _ _ => rfl)) (pv 1)) (pg_sub (pv 0) pe_int set_list))
        (pss_one (ps_ret (pv 4))))) pss_nil)
      (pss_cons (ps_set (i := 3) sc_Ltake.nd rfl (.inl rfl) (pe_op op_add (pe_op op_add (pe_op op_mulW (pe_ix ix_list (pv 0) pe_int (fun _ _ => rfl)) (pe_ix ix_list (pv 0) pe_int (fun _ _ => rfl))) (pe_op op_mulW (pe_ix ix_list (pv 0) pe_int (fun _ _ => rfl)) pe_int)) pe_int))
      (pss_cons (ps_asg (pe_op op_mod (pe_op op_add (pv 3) (pe_op op_mulW (pe_ix ix_list (pv 0) pe_int (fun _ _ => rfl)) pe_int)) pe_int) (pg_sub (pv 0) pe_int set_list))
      (pss_one (ps_ret (pe_op op_mod (pe_op op_add (pe_op op_fdivW (pe_ix ix_list (pv 0) pe_int (fun _ _ => rfl)) pe_int) (pe_op op_mulW (pe_op op_mod (pe_ix ix_list (pv 0) pe_int (fun _ _ => rfl)) pe_int) pe_int)) (pv 1))))))), ?_⟩
    refine seq_join (fun σ' H' => ∃ x2 x3 x4, σ' = [some (.ref b), some (.int n), x2, x3, x4] ∧ Dr b c H H') (fun N hN => ?_) ?_
    · obtain ⟨nbc, cs, i, z, s, hb, hc, hi, hl, hz, hs0, hs1⟩ := id hB
      refine ⟨_, rfl, b, _, _, _, rfl, rfl, SqL.of hb, rfl, rfl, _, rfl, ?_⟩
      by_cases e1 : z = 0
      · refine itP (by rw [e1]) ?_
        refine ⟨_, rfl, b, _, _, _, rfl, rfl, SqL.of hb, rfl, _, rfl, b, _, _, _, rfl, rfl, SqL.of hb, rfl, _, _, rfl, .inl (SqL.of hc), _, _, rfl, rfl, _, rfl, ?_⟩
        by_cases e2 : i < cs.length
        · refine itP (by rw [List.length_map]; omega) ?_
          refine ⟨_, rfl, b, _, _, _, rfl, rfl, SqL.of hb, rfl, _, rfl, b, _, _, _, rfl, rfl, SqL.of hb, rfl, c, _, _, _, rfl, rfl, SqL.of hc, atI_nat (by rw [List.getElem?_map, List.getElem?_eq_getElem e2]; rfl), _, rfl, ?_⟩
          generalize cs[i] = cell
          refine ⟨b, _, _, _, rfl, rfl, SqL.of hb, rfl, _, _, rfl, rfl, _, rfl, b, _, _, 1, rfl, rfl, hb, rfl, ?_⟩
          have B1 : BoxAt (upd H b (.lst [.ref c, .int ((i : Int) + 1), .int z, .int s])) b c := ⟨nbc, cs, i + 1, z, s, upd_same, by rw [upd_ne nbc.symm]; exact hc, e2, hl, hz, hs0, hs1⟩
          have hb1 : (upd H b (.lst [.ref c, .int ((i : Int) + 1), .int z, .int s])) b = some (.lst [.ref c, .int ((i : Int) + 1), .int z, .int s]) := upd_same
          have hc1 : (upd H b (.lst [.ref c, .int ((i : Int) + 1), .int z, .int s])) c = some (.lst (cs.map V.int)) := by rw [upd_ne nbc.symm]; exact hc
          have X1 : Ex [b] H (upd H b (.lst [.ref c, .int ((i : Int) + 1), .int z, .int s])) := Ex.put (List.mem_singleton.mpr rfl)
          dsimp only [List.set]
          generalize upd H b (.lst [.ref c, .int ((i : Int) + 1), .int z, .int s]) = H1 at B1 hb1 hc1 X1
          refine ⟨_, rfl, _, _, rfl, rfl, ⟨by decide, by decide, by decide⟩, _, _, rfl, rfl, _, rfl, ?_⟩
          by_cases e3 : (10 : Int) ^ (18 : Int).toNat ≤ cell
          · refine itP e3 ?_
            refine ⟨_, rfl, _, rfl, b, _, _, 2, rfl, rfl, hb1, rfl, hN _ _ ⟨_, _, _, rfl, X1.trans (Ex.put (List.mem_singleton.mpr rfl)), nbc, cs, i + 1, cell, s, upd_same, by rw [upd_ne nbc.symm]; exact hc1, e2, hl, ?_, hs0, hs1⟩⟩
            have : (0 : Int) ≤ (10 : Int) ^ (18 : Int).toNat := by decide
            omega
          · refine itN e3 ?_
            refine ⟨_, rfl, b, _, _, _, rfl, rfl, SqL.of hb1, rfl, _, _, rfl, rfl, small_wide (by omega) (by decide), _, rfl, b, _, _, _, rfl, rfl, SqL.of hb1, rfl, _, _, rfl, rfl, small_wide (by omega) (by decide), _, _, rfl, rfl, ?_⟩
            refine ⟨_, rfl, _, rfl, _, _, rfl, rfl, by show (0 : Int) < 2147483587; decide, _, _, rfl, rfl, small_wide (by omega) (by decide), _, _, rfl, rfl, _, _, rfl, rfl, by show (0 : Int) < 2147482951; decide, _, rfl, b, _, _, 3, rfl, rfl, hb1, rfl, hN _ _ ⟨_, _, _, rfl, X1.trans (Ex.put (List.mem_singleton.mpr rfl)), nbc, cs, i + 1, z, _, upd_same, by rw [upd_ne nbc.symm]; exact hc1, e2, hl, hz, ?_, ?_⟩⟩
            · omega
            · omega
        · refine itN (by rw [List.length_map]; omega) ?_
          exact hN _ _ ⟨_, _, _, rfl, Dr.refl hB⟩
      · refine itN (fun h => e1 (V.int.inj h)) ?_
        exact hN _ _ ⟨_, _, _, rfl, Dr.refl hB⟩
    · rintro σ' H1 ⟨x2, x3, x4, rfl, d1⟩
      obtain ⟨nbc, cs, i, z, s, hb, hc, hi, hl, hz, hs0, hs1⟩ := id d1.2
      have hm0 (x : Int) : 0 ≤ x % n := Int.emod_nonneg _ (by omega)
      have hm1 (x : Int) : x % n < n := Int.emod_lt_of_pos _ (by omega)
      refine ⟨_, rfl, b, _, _, _, rfl, rfl, SqL.of hb, rfl, _, _, rfl, rfl, _, rfl, ?_⟩
      by_cases e1 : 0 < z
      · refine itP e1 ?_
        refine ⟨_, rfl, b, _, _, _, rfl, rfl, SqL.of hb, rfl, _, rfl, _, _, rfl, rfl, by show 0 < n; omega, ?_⟩
        refine ⟨_, rfl, b, _, _, _, rfl, rfl, SqL.of hb, rfl, _, rfl, _, _, rfl, rfl, wide_div (b := 30) (by omega) (by omega) (by decide) (by decide), _, rfl, b, _, _, 2, rfl, rfl, hb, rfl, ?_⟩
        refine ⟨_, rfl, kk _ _ (hm0 _) (hm1 _) (d1.trans ⟨Ex.put (List.mem_singleton.mpr rfl), nbc, cs, i, _, s, upd_same, by rw [upd_ne nbc.symm]; exact hc, hi, hl, Int.ediv_nonneg hz (by omega), hs0, hs1⟩)⟩
      · refine itN e1 ?_
        have hss : (s * s).natAbs < 2 ^ 62 := by
          rw [Int.natAbs_mul]
          exact Nat.lt_of_lt_of_le (Nat.mul_lt_mul'' (a := s.natAbs) (b := s.natAbs) (c := 2 ^ 31) (d := 2 ^ 31) (by omega) (by omega)) (by decide)
        refine ⟨_, rfl, b, _, _, _, rfl, rfl, SqL.of hb, rfl, _, rfl, b, _, _, _, rfl, rfl, SqL.of hb, rfl, _, _, rfl, rfl, small_wide (by omega) (by omega), _, rfl, b, _, _, _, rfl, rfl, SqL.of hb, rfl, _, _, rfl, rfl, small_wide (by omega) (by decide), _, _, rfl, rfl, _, _, rfl, rfl, ?_⟩
        refine ⟨_, rfl, _, rfl, b, _, _, _, rfl, rfl, SqL.of hb, rfl, _, _, rfl, rfl, small_wide (by omega) (by decide), _, _, rfl, rfl, _, _, rfl, rfl, by show (0 : Int) < 2147482951; decide, _, rfl, b, _, _, 3, rfl, rfl, hb, rfl, ?_⟩
        have D2 := fun (x : Int) (h0 : 0 ≤ x) (h1 : x < 2147482951) => d1.trans (H2 := upd H1 b (.lst [.ref c, .int (i : Int), .int z, .int x])) ⟨Ex.put (List.mem_singleton.mpr rfl), nbc, cs, i, z, x, upd_same, by rw [upd_ne nbc.symm]; exact hc, hi, hl, hz, h0, h1⟩
        have y0 := Int.emod_nonneg (s * s + s * 30269 + 7919 + (i : Int) * 101) (b := 2147482951) (by decide)
        have y1 := Int.emod_lt_of_pos (s * s + s * 30269 + 7919 + (i : Int) * 101) (b := 2147482951) (by decide)
        dsimp only [List.set]
        have D3 := D2 _ y0 y1
        have hb3 : (upd H1 b (.lst [.ref c, .int (i : Int), .int z, .int ((s * s + s * 30269 + 7919 + (i : Int) * 101) % 2147482951)])) b = some (.lst [.ref c, .int (i : Int), .int z, .int ((s * s + s * 30269 + 7919 + (i : Int) * 101) % 2147482951)]) := upd_same
        generalize (s * s + s * 30269 + 7919 + (i : Int) * 101) % 2147482951 = y at y0 y1 D3 hb3
        exact ⟨_, rfl, b, _, _, _, rfl, rfl, SqL.of hb3, rfl, _, _, rfl, rfl, wide_div (b := 30) (by decide) (by decide) (by decide) (by decide), _, rfl, b, _, _, _, rfl, rfl, SqL.of hb3, rfl, _, _, rfl, rfl, by show (0 : Int) < 9973; decide, _, _, rfl, rfl, small_wide (by omega) (by decide), _, _, rfl, rfl, _, rfl, _, _, rfl, rfl, by show 0 < n; omega, kk _ _ (hm0 _) (hm1 _) D3⟩
end
end SL
namespace SL
open PySem PySem.Spec PyProof.Rows L2 TL
section
variable {w : World} {K : PySem.W.Frag} {mg : Str → Option Value} {base : Heap}
theorem same_sql {H H' : Hp} {a : Addr} {xs : List V} (e : Same H H') (h : SqL K H a xs) : SqL K H' a xs := by
  rcases h with (h | ⟨o, h⟩) | h
  · exact .inl (.inl (e _ _ h))
  · exact .inl (.inr ⟨o, e _ _ h⟩)
  · exact .inr h
theorem divInt_pos {n d : Int} (hn : 0 < n) (hd : 0 < d) : (0 : Rat) < Rat.divInt n d := by
  refine Rat.lt_of_le_of_ne (Rat.divInt_nonneg (by omega) (by omega)) fun z => ?_
  have e := low_num (n := n) hd
  rw [← z] at e
  have h := Int.ediv_mul_cancel (Int.gcd_dvd_left n d)
  rw [← e] at h
  have : ((0 : Rat).num) = 0 := rfl
  rw [this] at h
  omega
def spBox (K : PySem.W.Frag) : Sp := fun vs H Q _ => ∃ (a : Addr) (ns : List Int), vs = [.ref a] ∧ SqL K H a (ns.map V.int) ∧ ns.length ≤ 63 ∧ ∀ b c H', H b = none → Same H H' → BoxAt H' b c → Q (.ref b) H'
theorem ok_Lbox (T : TX w K mg) : Fn w K mg base 1 (He.ga K "_law_box") (spBox K) := by
  refine fn_Lbox (k := 0) T (fun vs H Q E h => ?_) (fun cdv A outer s H vs Q E hr h => ?_)
  · obtain ⟨_, _, rfl, _⟩ := h
    rfl
  · obtain ⟨a, ns, rfl, hS, hl, kk⟩ := h
    refine ⟨_, pss_one (ps_ret (pe_lst (pa_cons (pe_callTy call_list_of rfl (b_list T) (by decide +kernel) (pa_cons (pe_slice sl_list (pv 0) po_none (po_some pe_int)) pa_nil))
      (pa_cons pe_int (pa_cons pe_int (pa_cons (pe_op op_add pe_int (pe_op op_mulW pe_int (pe_callB call_len_seq rfl (b_len T) boot_len (pa_cons (pe_slice sl_list (pv 0) po_none (po_some pe_int)) pa_nil)))) pa_nil)))))), ?_⟩
    have ec : cutV (ns.map V.int) none (some 63) = ns.map V.int := by
      unfold cutV
      rw [HT.sIx_none, show (63 : Int) = ((63 : Nat) : Int) from rfl, HT.sIx_nat, List.length_map, Nat.min_eq_right hl, List.drop_zero, Nat.sub_zero, ← List.length_map (f := V.int), List.take_length]
    refine ⟨_, rfl, _, rfl, a, _, rfl, hS, fun p hp => ?_⟩
    rw [ec]
    refine ⟨p, _, rfl, .inl (SqL.of upd_same), fun c hc => ?_⟩
    have S1 : Same H (upd (upd H p (.lst (ns.map V.int))) c (.lst (ns.map V.int))) := (Same.new hp).trans (Same.new hc)
    have hc1 : (upd (upd H p (.lst (ns.map V.int))) c (.lst (ns.map V.int))) c = some (.lst (ns.map V.int)) := upd_same
    generalize upd (upd H p (.lst (ns.map V.int))) c (.lst (ns.map V.int)) = H1 at S1 hc1
    refine ⟨_, rfl, _, rfl, a, _, rfl, same_sql S1 hS, fun p2 hp2 => ?_⟩
    rw [ec]
    refine ⟨p2, _, rfl, .inl (SqL.of upd_same), _, _, rfl, rfl, small_wide (by decide) (by rw [List.length_map]; omega), _, _, rfl, rfl, by show 4 ≤ sizeLine; decide, fun b hb => ?_⟩
    have S2 : Same H1 (upd H1 p2 (.lst (ns.map V.int))) := Same.new hp2
    have ncb : b ≠ c := fun z => by
      have := S2 _ _ hc1
      rw [← z, hb] at this
      cases this
    refine kk b c _ ((S1.trans S2).free hb) ((S1.trans S2).trans (Same.new hb)) ⟨ncb, ns, 0, 0, _, upd_same, ?_, Nat.zero_le _, hl, by omega, ?_, ?_⟩
    · rw [upd_ne ncb.symm]
      exact S2 _ _ hc1
    · rw [List.length_map]; omega
    · rw [List.length_map]; omega
def spOne : Sp := fun vs H Q _ => ∃ (b c p : Addr) (us : List V), vs = [.ref b, .ref p] ∧ p ≠ b ∧ BoxAt H b c ∧ H p = some (.lst us) ∧ 1 ≤ us.length ∧ us.length ≤ 1000 ∧ ∀ v H', v ∈ us → Dr b c H H' → Q v H'
theorem at_int {us : List V} {r : Int} (h0 : 0 ≤ r) (h1 : r < us.length) : ∃ v, v ∈ us ∧ atI us r = some v := by
  have hn : r.toNat < us.length := by omega
  refine ⟨us[r.toNat], List.getElem_mem hn, ?_⟩
  have := atI_nat (List.getElem?_eq_getElem hn)
  rw [show ((r.toNat : Nat) : Int) = r by omega] at this
  exact this
theorem ok_Lone (T : TX w K mg) : Fn w K mg base 2 (He.ga K "_law_one") spOne := by
  refine fn_Lone (k := 1) T (fun vs H Q E h => ?_) (fun cdv A outer s H vs Q E hr h => ?_)
  · obtain ⟨_, _, _, _, rfl, _⟩ := h
    rfl
  · obtain ⟨b, c, p, us, rfl, np, hB, hp, h1, h2, kk⟩ := h
    refine ⟨_, pss_one (ps_ret (pe_ix ix_list (pv 1) (pe_callF (ok_Ltake T) rfl hr rfl (g_Ltake T) (pa_cons (pv 0) (pa_cons (pe_callB call_len_seq rfl (b_len T) boot_len (pa_cons (pv 1) pa_nil)) pa_nil))) (fun _ _ => rfl))), ?_⟩
    refine ⟨_, rfl, _, rfl, _, rfl, p, _, rfl, .inl (SqL.of hp), b, c, _, rfl, hB, by omega, by omega, fun r H1 r0 r1 d => ?_⟩
    obtain ⟨v, hv, ha⟩ := at_int (us := us) r0 r1
    exact ⟨p, us, r, v, rfl, rfl, SqL.of (d.1 _ _ (fun z => np (List.mem_singleton.mp z)) hp), ha, kk v H1 hv d⟩
def spNear : Sp := fun vs H Q _ => ∃ (b c : Addr) (f : Int), vs = [.ref b, .int f] ∧ BoxAt H b c ∧ 0 ≤ f ∧ f ≤ 1000 ∧ ∀ (r : Int) H', -f ≤ r → r ≤ f → Dr b c H H' → Q (.int r) H'
theorem ok_Lnear (T : TX w K mg) : Fn w K mg base 2 (He.ga K "_law_near") spNear := by
  refine fn_Lnear (k := 1) T (fun vs H Q E h => ?_) (fun cdv A outer s H vs Q E hr h => ?_)
  · obtain ⟨_, _, _, rfl, _⟩ := h
    rfl
  · obtain ⟨b, c, f, rfl, hB, h0, h1, kk⟩ := h
    refine ⟨_, pss_one (ps_ret (pe_op op_sub (pe_callF (ok_Ltake T) rfl hr rfl (g_Ltake T) (pa_cons (pv 0) (pa_cons (pe_op op_add (pe_op op_mulW pe_int (pv 1)) pe_int) pa_nil))) (pv 1))), ?_⟩
    refine ⟨_, rfl, _, rfl, _, _, rfl, rfl, small_wide (by decide) (by omega), _, _, rfl, rfl, b, c, _, rfl, hB, by omega, by omega, fun r H1 r0 r1 d => ?_⟩
    exact ⟨_, rfl, _, _, rfl, rfl, kk _ _ (by omega) (by omega) d⟩
/-- bounds over and under -/
def Bd (n d : Nat) (q : Rat) : Prop := q.num.natAbs ≤ n ∧ q.den ≤ d
theorem Bd.low {n d : Int} {a b : Nat} (hd : 0 < d) (h1 : n.natAbs ≤ a) (h2 : d.natAbs ≤ b) : Bd a b (Rat.divInt n d) := by
  refine ⟨?_, ?_⟩
  · rw [low_num hd]
    exact Nat.le_trans (Int.natAbs_ediv_le_natAbs n _) h1
  · have e := low_den (n := n) hd
    have l := Int.natAbs_ediv_le_natAbs d (Int.gcd n d : Int)
    omega
theorem Bd.sz {n d k : Nat} {q : Rat} (h : Bd n d q) (h1 : n < 2 ^ k) (h2 : d < 2 ^ k) : Sz k q := ⟨Nat.lt_of_le_of_lt h.1 h1, Nat.lt_of_le_of_lt h.2 h2⟩
theorem den_item {r : Int} (h0 : 0 ≤ r) (h1 : r < 6) {t : Int} (t0 : 0 ≤ t) (t1 : t < 9) : ∃ d : Int, atI [V.int 1, V.int 1, V.int 1, V.int 2, V.int 3, V.int (1 + t)] r = some (.int d) ∧ 1 ≤ d ∧ d ≤ 9 := by
  obtain rfl | rfl | rfl | rfl | rfl | rfl : r = 0 ∨ r = 1 ∨ r = 2 ∨ r = 3 ∨ r = 4 ∨ r = 5 := by omega
  · exact ⟨1, rfl, by decide, by decide⟩
  · exact ⟨1, rfl, by decide, by decide⟩
  · exact ⟨1, rfl, by decide, by decide⟩
  · exact ⟨2, rfl, by decide, by decide⟩
  · exact ⟨3, rfl, by decide, by decide⟩
  · exact ⟨1 + t, rfl, by omega, by omega⟩
def spCoin (K : PySem.W.Frag) : Sp := fun vs H Q _ => ∃ (b c : Addr) (f : Int), vs = [.ref b, .int f] ∧ BoxAt H b c ∧ 0 ≤ f ∧ f ≤ 60 ∧ ∀ v q H', Dr b c H H' → Amt K H' v q → Sz 8 q → Q v H'
theorem ok_Lcoin (T : TX w K mg) : Fn w K mg base 3 (He.ga K "_law_coin") (spCoin K) := by
  refine fn_Lcoin (k := 2) T (fun vs H Q E h => ?_) (fun cdv A outer s H vs Q E hr h => ?_)
  · obtain ⟨_, _, _, rfl, _⟩ := h
    rfl
  · obtain ⟨b, c, f, rfl, hB, h0, h1, kk⟩ := h
    refine ⟨_, pss_one (ps_ret (pe_callF (ok_Llow T) rfl hr rfl (g_Llow T) (pa_cons (pe_callF (ok_Lnear T) rfl hr rfl (g_Lnear T) (pa_cons (pv 0) (pa_cons (pv 1) pa_nil)))
      (pa_cons (pe_ix ix_list (pe_lst (pa_cons pe_int (pa_cons pe_int (pa_cons pe_int (pa_cons pe_int (pa_cons pe_int (pa_cons (pe_op op_add pe_int (pe_callF (ok_Ltake T) rfl hr rfl (g_Ltake T) (pa_cons (pv 0) (pa_cons pe_int pa_nil)))) pa_nil)))))))
        (pe_callF (ok_Ltake T) rfl hr rfl (g_Ltake T) (pa_cons (pv 0) (pa_cons pe_int pa_nil))) (fun _ _ => rfl)) pa_nil)))), ?_⟩
    refine ⟨_, rfl, _, rfl, b, c, f, rfl, hB, h0, by omega, fun n H1 n0 n1 d1 => ?_⟩
    refine ⟨_, rfl, b, c, _, rfl, d1.2, by decide, by decide, fun t H2 t0 t1 d2 => ⟨_, _, rfl, rfl, by show 6 ≤ sizeLine; decide, fun p hp => ?_⟩⟩
    have d3 := (d1.trans d2).same (Same.new (o := .lst [.int 1, .int 1, .int 1, .int 2, .int 3, .int (1 + t)]) hp)
    have hp3 : (upd H2 p (.lst [.int 1, .int 1, .int 1, .int 2, .int 3, .int (1 + t)])) p = some (.lst [.int 1, .int 1, .int 1, .int 2, .int 3, .int (1 + t)]) := upd_same
    have npb : p ≠ b := fun z => by
      obtain ⟨_, _, _, _, _, h, _⟩ := d2.2
      rw [z] at hp
      rw [hp] at h
      cases h
    refine ⟨_, rfl, b, c, _, rfl, d3.2, by decide, by decide, fun r H4 r0 r1 d4 => ?_⟩
    obtain ⟨d, hd, dd0, dd1⟩ := den_item r0 r1 t0 t1
    refine ⟨p, _, r, _, rfl, rfl, SqL.of (d4.1 _ _ (fun z => npb (List.mem_singleton.mp z)) hp3), hd, n, d, rfl, by omega, ?_, fun v H5 e5 hv => ?_⟩
    · have : d.natAbs < 2 ^ 10 := by omega
      exact Nat.lt_of_lt_of_le this (Nat.pow_le_pow_right (by decide) (by decide))
    · exact kk v _ H5 ((d3.trans d4).same e5) hv ((Bd.low (a := 60) (b := 9) (by omega) (by omega) (by omega)).sz (by decide) (by decide))
def spAbv (K : PySem.W.Frag) : Sp := fun vs H Q _ => ∃ (b c : Addr) (f : Int), vs = [.ref b, .int f] ∧ BoxAt H b c ∧ 1 ≤ f ∧ f ≤ 40 ∧ ∀ v q H', Dr b c H H' → Amt K H' v q → Bd 40 9 q → 0 < q → Q v H'
theorem ok_Labove (T : TX w K mg) : Fn w K mg base 3 (He.ga K "_law_above") (spAbv K) := by
  refine fn_Labove (k := 2) T (fun vs H Q E h => ?_) (fun cdv A outer s H vs Q E hr h => ?_)
  · obtain ⟨_, _, _, rfl, _⟩ := h
    rfl
  · obtain ⟨b, c, f, rfl, hB, h0, h1, kk⟩ := h
    refine ⟨_, pss_one (ps_ret (pe_callF (ok_Llow T) rfl hr rfl (g_Llow T) (pa_cons (pe_op op_add pe_int (pe_callF (ok_Ltake T) rfl hr rfl (g_Ltake T) (pa_cons (pv 0) (pa_cons (pv 1) pa_nil))))
      (pa_cons (pe_ix ix_list (pe_lst (pa_cons pe_int (pa_cons pe_int (pa_cons pe_int (pa_cons pe_int (pa_cons pe_int (pa_cons (pe_op op_add pe_int (pe_callF (ok_Ltake T) rfl hr rfl (g_Ltake T) (pa_cons (pv 0) (pa_cons pe_int pa_nil)))) pa_nil)))))))
        (pe_callF (ok_Ltake T) rfl hr rfl (g_Ltake T) (pa_cons (pv 0) (pa_cons pe_int pa_nil))) (fun _ _ => rfl)) pa_nil)))), ?_⟩
    refine ⟨_, rfl, _, rfl, b, c, f, rfl, hB, h0, by omega, fun n H1 n0 n1 d1 => ⟨_, _, rfl, rfl, ?_⟩⟩
    refine ⟨_, rfl, b, c, _, rfl, d1.2, by decide, by decide, fun t H2 t0 t1 d2 => ⟨_, _, rfl, rfl, by show 6 ≤ sizeLine; decide, fun p hp => ?_⟩⟩
    have d3 := (d1.trans d2).same (Same.new (o := .lst [.int 1, .int 1, .int 1, .int 2, .int 3, .int (1 + t)]) hp)
    have hp3 : (upd H2 p (.lst [.int 1, .int 1, .int 1, .int 2, .int 3, .int (1 + t)])) p = some (.lst [.int 1, .int 1, .int 1, .int 2, .int 3, .int (1 + t)]) := upd_same
    have npb : p ≠ b := fun z => by
      obtain ⟨_, _, _, _, _, h, _⟩ := d2.2
      rw [z] at hp
      rw [hp] at h
      cases h
    refine ⟨_, rfl, b, c, _, rfl, d3.2, by decide, by decide, fun r H4 r0 r1 d4 => ?_⟩
    obtain ⟨d, hd, dd0, dd1⟩ := den_item r0 r1 t0 t1
    refine ⟨p, _, r, _, rfl, rfl, SqL.of (d4.1 _ _ (fun z => npb (List.mem_singleton.mp z)) hp3), hd, 1 + n, d, rfl, by omega, ?_, fun v H5 e5 hv => ?_⟩
    · have : d.natAbs < 2 ^ 10 := by omega
      exact Nat.lt_of_lt_of_le this (Nat.pow_le_pow_right (by decide) (by decide))
    · exact kk v _ H5 ((d3.trans d4).same e5) hv (Bd.low (by omega) (by omega) (by omega)) (divInt_pos (by omega) (by omega))
end
end SL
namespace SL
open PySem PySem.Spec PyProof.Rows L2 TL
theorem vbits_dep : ∀ x : Val, vbits x + 1 ≤ 9 * 2 ^ (vdep x - 1)
  | .price => by simp [vbits, vdep]
  | .coin _ => by simp [vbits, vdep]
  | .of _ v => by
    have h := vbits_dep v
    have g := vbits_ge v
    have d : 1 ≤ vdep v := by cases v <;> simp [vdep]
    simp only [vbits, vdep]
    have : 2 ^ (vdep v + 1 - 1) = 2 * 2 ^ (vdep v - 1) := by rw [← Nat.pow_succ']; congr 1; omega
    omega
  | .plus a b => two a b _ (vbits_dep a) (vbits_dep b) rfl
  | .minus a b => two a b _ (vbits_dep a) (vbits_dep b) rfl
  | .best a b => two a b _ (vbits_dep a) (vbits_dep b) rfl
  | .least a b => two a b _ (vbits_dep a) (vbits_dep b) rfl
where
  two (a b : Val) (m : Nat) (ha : vbits a + 1 ≤ 9 * 2 ^ (vdep a - 1)) (hb : vbits b + 1 ≤ 9 * 2 ^ (vdep b - 1)) (hm : m = max (vdep a) (vdep b) + 1) : vbits a + vbits b + 1 + 1 ≤ 9 * 2 ^ (m - 1) := by
    have da : 1 ≤ vdep a := by cases a <;> simp [vdep]
    have e : 2 ^ (m - 1) = 2 * 2 ^ (max (vdep a) (vdep b) - 1) := by rw [← Nat.pow_succ']; congr 1; omega
    have h1 : 2 ^ (vdep a - 1) ≤ 2 ^ (max (vdep a) (vdep b) - 1) := Nat.pow_le_pow_right (by decide) (by omega)
    have h2 : 2 ^ (vdep b - 1) ≤ 2 ^ (max (vdep a) (vdep b) - 1) := Nat.pow_le_pow_right (by decide) (by omega)
    omega
section
variable {w : World} {K : PySem.W.Frag} {mg : Str → Option Value} {base : Heap}
def spDays (K : PySem.W.Frag) : Sp := fun vs H Q _ => ∃ (b c : Addr), vs = [.ref b] ∧ BoxAt H b c ∧ ∀ (p : Addr) (i j : Int) H', Dr b c H H' → SqT K H' p [.int i, .int j] → DateOk i → DateOk j → Q (.ref p) H'
theorem ok_Ldays (T : TX w K mg) : Fn w K mg base 2 (He.ga K "_law_days") (spDays K) := by
  refine fn_Ldays (k := 1) T (fun vs H Q E h => ?_) (fun cdv A outer s H vs Q E hr h => ?_)
  · obtain ⟨_, _, rfl, _⟩ := h
    rfl
  · obtain ⟨b, c, rfl, hB, kk⟩ := h
    refine ⟨_, pss_cons (ps_set (i := 1) sc_Ldays.nd rfl (.inl rfl) (pe_callF (ok_Ltake T) rfl hr rfl (g_Ltake T) (pa_cons (pv 0) (pa_cons pe_int pa_nil))))
      (pss_one (ps_ret (pe_tup (pa_cons (pv 1) (pa_cons (pe_callB (call_min2 rfl) rfl (b_min T) boot_min (pa_cons pe_int (pa_cons (pe_op op_add (pv 1) (pe_callF (ok_Ltake T) rfl hr rfl (g_Ltake T) (pa_cons (pv 0) (pa_cons pe_int pa_nil)))) pa_nil))) pa_nil))))), ?_⟩
    refine ⟨_, rfl, b, c, _, rfl, hB, by decide, by decide, fun i H1 i0 i1 d1 => ?_⟩
    refine ⟨_, rfl, _, rfl, _, rfl, b, c, _, rfl, d1.2, by decide, by decide, fun j H2 j0 j1 d2 => ⟨_, _, rfl, rfl, _, _, rfl, by show 2 ≤ sizeLine; decide, fun p hp => ?_⟩⟩
    refine kk p i _ _ ((d1.trans d2).same (Same.new hp)) (SqT.of upd_same) ⟨i0, by omega⟩ ?_
    by_cases e : i + j < 6
    · rw [if_pos e]
      exact ⟨by omega, by omega⟩
    · rw [if_neg e]
      exact ⟨by omega, by omega⟩
/-- a name so far -/
def NmI (n : Nat) (z : Str) : Prop := z.length = n + 1 ∧ (∀ c ∈ z.cps.toList, 97 ≤ c ∧ c ≤ 122) ∧ ∀ c ∈ z.cps.toList.tail, c ≠ 113
theorem NmI.add {n : Nat} {z : Str} {c : Nat} (h : NmI n z) (hc : c ∈ [97, 97, 98, 122]) : NmI (n + 1) (z ++ ⟨#[c]⟩) := by
  obtain ⟨h1, h2, h3⟩ := h
  have e : (z ++ (⟨#[c]⟩ : Str)).cps.toList = z.cps.toList ++ [c] := by
    show (z.cps ++ #[c]).toList = _
    rw [Array.toList_append]
  have l : z.cps.toList.length = n + 1 := by
    rw [Array.length_toList]
    exact h1
  have hc' : c = 97 ∨ c = 98 ∨ c = 122 := by simpa using hc
  refine ⟨?_, fun x hx => ?_, fun x hx => ?_⟩
  · show (z ++ (⟨#[c]⟩ : Str)).cps.size = _
    rw [← Array.length_toList, e, List.length_append, l]
    rfl
  · rw [e] at hx
    rcases List.mem_append.mp hx with h | h
    · exact h2 x h
    · rw [List.mem_singleton.mp h]
      omega
  · rw [e] at hx
    cases hz : z.cps.toList with
    | nil => rw [hz] at l; cases l
    | cons a t =>
      rw [hz, List.cons_append, List.tail_cons] at hx
      rw [hz, List.tail_cons] at h3
      rcases List.mem_append.mp hx with h | h
      · exact h3 x h
      · rw [List.mem_singleton.mp h]
        omega
theorem NmI.qq {n : Nat} {z : Str} (h : NmI n z) : z ≠ ("qq" : Str) := fun e => by
  rw [e] at h
  exact h.2.2 113 (by decide) rfl
def spName : Sp := fun vs H Q _ => ∃ (b c : Addr), vs = [.ref b] ∧ BoxAt H b c ∧ ∀ (z : Str) H', Dr b c H H' → NameOk z → z ≠ ("qq" : Str) → Q (.str z) H'
theorem letter {r : Int} (r0 : 0 ≤ r) (r1 : r < 26) : ∃ c, atI ("abcdefghijklmnopqrstuvwxyz" : Str).cps.toList r = some c ∧ 97 ≤ c ∧ c ≤ 122 := by
  have hn : r.toNat < ("abcdefghijklmnopqrstuvwxyz" : Str).cps.toList.length := by
    have : ("abcdefghijklmnopqrstuvwxyz" : Str).cps.toList.length = 26 := by decide +kernel
    omega
  refine ⟨("abcdefghijklmnopqrstuvwxyz" : Str).cps.toList[r.toNat], ?_, ?_⟩
  · have := atI_nat (List.getElem?_eq_getElem hn)
    rw [show ((r.toNat : Nat) : Int) = r by omega] at this
    exact this
  · have all : ∀ c ∈ ("abcdefghijklmnopqrstuvwxyz" : Str).cps.toList, 97 ≤ c ∧ c ≤ 122 := by decide +kernel
    exact all _ (List.getElem_mem hn)
theorem letter4 {r : Int} (r0 : 0 ≤ r) (r1 : r < 4) : ∃ c, atI ("aabz" : Str).cps.toList r = some c ∧ c ∈ [97, 97, 98, 122] := by
  obtain rfl | rfl | rfl | rfl : r = 0 ∨ r = 1 ∨ r = 2 ∨ r = 3 := by omega
  · exact ⟨97, by decide +kernel, by decide⟩
  · exact ⟨97, by decide +kernel, by decide⟩
  · exact ⟨98, by decide +kernel, by decide⟩
  · exact ⟨122, by decide +kernel, by decide⟩
theorem ok_Lname (T : TX w K mg) : Fn w K mg base 2 (He.ga K "_law_name") spName := by
  refine fn_Lname (k := 1) T (fun vs H Q E h => ?_) (fun cdv A outer s H vs Q E hr h => ?_)
  · obtain ⟨_, _, rfl, _⟩ := h
    rfl
  · obtain ⟨b, c, rfl, hB, kk⟩ := h
    refine ⟨_, pss_cons (ps_set (i := 1) sc_Lname.nd rfl (.inl rfl) (pe_ix ix_str pe_str (pe_callF (ok_Ltake T) rfl hr rfl (g_Ltake T) (pa_cons (pv 0) (pa_cons pe_int pa_nil))) (fun _ _ => rfl)))
      (pss_cons (ps_for PassesOwn.never rfl (pi_range1 rfl (b_range T) (pa_cons (pe_callF (ok_Ltake T) rfl hr rfl (g_Ltake T) (pa_cons (pv 0) (pa_cons pe_int pa_nil))) pa_nil)) (pg_name (i := 2) sc_Lname.nd rfl (.inl rfl))
        (pss_one (ps_set (i := 1) sc_Lname.nd rfl (.inl rfl) (pe_op op_add_str (pv 1) (pe_ix ix_str pe_str (pe_callF (ok_Ltake T) rfl hr rfl (g_Ltake T) (pa_cons (pv 0) (pa_cons pe_int pa_nil))) (fun _ _ => rfl))))))
      (pss_one (ps_ret (pv 1)))), ?_⟩
    refine ⟨_, rfl, b, c, _, rfl, hB, by decide, by decide, fun r H1 r0 r1 d1 => ?_⟩
    obtain ⟨x, hx, x0, x1⟩ := letter r0 r1
    refine ⟨_, _, x, rfl, rfl, by decide +kernel, hx, ?_⟩
    have n0 : NmI 0 (⟨#[x]⟩ : Str) := ⟨rfl, fun y hy => (List.mem_singleton.mp hy) ▸ ⟨x0, x1⟩, fun y hy => (nomatch hy)⟩
    refine ⟨_, rfl, b, c, _, rfl, d1.2, by decide, by decide, fun m H2 m0 m1 d2 => ⟨m, rfl, by omega, by omega, ?_⟩⟩
    refine for_range (lo := 0) (n := m.toNat) (fun i σ' H' => ∃ z u, σ' = [some (.ref b), some (.str z), u] ∧ NmI i z ∧ Dr b c H H') ⟨_, _, rfl, n0, d1.trans d2⟩ (fun i σ' H' hi ⟨z, u, eσ, hz, d⟩ => ?_) (fun σ' H' ⟨z, u, eσ, hz, d⟩ => ?_)
    · subst eσ
      refine ⟨_, rfl, _, rfl, b, c, _, rfl, d.2, by decide, by decide, fun q H3 q0 q1 d3 => ?_⟩
      obtain ⟨y, hy, hy4⟩ := letter4 q0 q1
      refine ⟨_, _, y, rfl, rfl, by decide +kernel, hy, _, _, rfl, rfl, ?_, _, _, rfl, hz.add hy4, d.trans d3⟩
      have : z.length = i + 1 := hz.1
      show z.length + 1 ≤ sizeLine
      exact line1000 (by omega)
    · subst eσ
      refine ⟨_, rfl, kk z H' d ⟨?_, hz.2.1⟩ hz.qq⟩
      have := hz.1
      omega
def spValue (K : PySem.W.Frag) (d : Nat) : Sp := fun vs H Q _ => ∃ (b c : Addr), vs = [.ref b, .int (d : Int)] ∧ BoxAt H b c ∧ ∀ v x H', Dr b c H H' → VAt K H' x v → VGood x → vdep x ≤ max d 1 → Q v H'
theorem mod2 (k : Int) : k % 2 = 0 ∨ k % 2 = 1 := by omega
theorem ok_Lvalue (T : TX w K mg) : ∀ d : Nat, d ≤ 3 → Fn w K mg base (4 + d) (He.ga K "_law_value") (spValue K d) := by
  intro d
  induction d with
  | zero =>
    intro _
    refine fn_Lvalue (k := 3) T (fun vs H Q E h => ?_) (fun cdv A outer s H vs Q E hr h => ?_)
    · obtain ⟨_, _, rfl, _⟩ := h
      rfl
    · obtain ⟨b, c, rfl, hB, kk⟩ := h
      refine ⟨_, pss_cons (ps_set (i := 2) sc_Lvalue.nd rfl (.inl rfl) (pe_callF (ok_Ltake T) rfl hr rfl (g_Ltake T) (pa_cons (pv 0) (pa_cons pe_int pa_nil))))
        (pss_cons (ps_if (PW.pt (pw_or (pt_cmpR op_lt (pv 1) pe_int (nomark _)) (pw_or1 (pt_cmpR op_lt (pv 2) pe_int (nomark _)))))
          (pss_one (ps_ret (pe_ix ix_list (pe_lst (pa_cons (pe_tup (pa_cons pe_str pa_nil)) (pa_cons (pe_tup (pa_cons pe_str (pa_cons (pe_callF (ok_Lcoin T) rfl hr rfl (g_Lcoin T) (pa_cons (pv 0) (pa_cons pe_int pa_nil))) pa_nil))) pa_nil))) (pe_op op_mod (pv 2) pe_int) (fun _ _ => rfl)))) pss_nil) pss_never), ?_⟩
      refine ⟨_, rfl, b, c, _, rfl, hB, by decide, by decide, fun kd H1 k0 k1 d1 => ?_⟩
      refine ⟨_, rfl, _, _, rfl, rfl, _, rfl, itP (by decide) (iteT ⟨by show 1 ≤ sizeLine; decide, fun p1 hp1 => ?_⟩)⟩
      have D1 := d1.same (Same.new (o := .tup [.str "price"]) hp1)
      have S1 : SqT K (upd H1 p1 (.tup [.str "price"])) p1 [.str "price"] := SqT.of upd_same
      generalize upd H1 p1 (.tup [.str "price"]) = H2 at D1 S1
      refine ⟨_, rfl, b, c, 40, rfl, D1.2, by decide, by decide, fun v q H3 d3 hv hq => ⟨by show 2 ≤ sizeLine; decide, fun p2 hp2 => ⟨by show 2 ≤ sizeLine; decide, fun p3 hp3 => ?_⟩⟩⟩
      have S3 := ts_sqt (d3.ts D1.2) S1
      have n2 := Same.new (o := .tup [.str "coin", v]) hp2
      have n3 := Same.new (o := .lst [.ref p1, .ref p2]) hp3
      have DD := (D1.trans d3).same (n2.trans n3)
      rcases mod2 kd with e | e
      · exact ⟨_, rfl, _, _, rfl, rfl, by show (0 : Int) < 2; decide, p3, _, kd % 2, .ref p1, rfl, rfl, SqL.of upd_same, by rw [e]; rfl, kk _ .price _ DD ⟨p1, rfl, Same.sqt (n2.trans n3) S3⟩ trivial (by show 1 ≤ _; omega)⟩
      · exact ⟨_, rfl, _, _, rfl, rfl, by show (0 : Int) < 2; decide, p3, _, kd % 2, .ref p2, rfl, rfl, SqL.of upd_same, by rw [e]; rfl, kk _ (.coin q) _ DD ⟨p2, v, rfl, Same.sqt n3 (SqT.of upd_same), hv.mono (n2.trans n3)⟩ hq (by show 1 ≤ _; omega)⟩
  | succ d ih =>
    intro hd
    refine fn_Lvalue (k := 4 + d) T (fun vs H Q E h => ?_) (fun cdv A outer s H vs Q E hr h => ?_)
    · obtain ⟨_, _, rfl, _⟩ := h
      rfl
    · obtain ⟨b, c, rfl, hB, kk⟩ := h
      have REC := ih (by omega)
      refine ⟨_, pss_cons (ps_set (i := 2) sc_Lvalue.nd rfl (.inl rfl) (pe_callF (ok_Ltake T) rfl hr rfl (g_Ltake T) (pa_cons (pv 0) (pa_cons pe_int pa_nil))))
        (pss_cons (ps_if (PW.pt (pw_or (pt_cmpR op_lt (pv 1) pe_int (nomark _)) (pw_or1 (pt_cmpR op_lt (pv 2) pe_int (nomark _)))))
          (pss_one (ps_ret (pe_ix ix_list (pe_lst (pa_cons (pe_tup (pa_cons pe_str pa_nil)) (pa_cons (pe_tup (pa_cons pe_str (pa_cons (pe_callF (ok_Lcoin T) rfl hr rfl (g_Lcoin T) (pa_cons (pv 0) (pa_cons pe_int pa_nil))) pa_nil))) pa_nil))) (pe_op op_mod (pv 2) pe_int) (fun _ _ => rfl)))) pss_nil)
        (pss_cons (ps_if (pt_cmpR op_eq (pv 2) pe_int (nomark _)) (pss_one (ps_ret (pe_tup (pa_cons pe_str (pa_cons (pe_callF (ok_Lcoin T) rfl hr rfl (g_Lcoin T) (pa_cons (pv 0) (pa_cons pe_int pa_nil)))
          (pa_cons (pe_callF REC rfl hr rfl (g_Lvalue T) (pa_cons (pv 0) (pa_cons (pe_op op_sub (pv 1) pe_int) pa_nil))) pa_nil)))))) pss_nil)
        (pss_cons (ps_set (i := 3) sc_Lvalue.nd rfl (.inl rfl) (pe_ix ix_list (pe_lst (pa_cons pe_str (pa_cons pe_str (pa_cons pe_str (pa_cons pe_str pa_nil))))) (pe_callF (ok_Ltake T) rfl hr rfl (g_Ltake T) (pa_cons (pv 0) (pa_cons pe_int pa_nil))) (fun _ _ => rfl)))
        (pss_one (ps_ret (pe_tup (pa_cons (pv 3) (pa_cons (pe_callF REC rfl hr rfl (g_Lvalue T) (pa_cons (pv 0) (pa_cons (pe_op op_sub (pv 1) pe_int) pa_nil)))
          (pa_cons (pe_callF REC rfl hr rfl (g_Lvalue T) (pa_cons (pv 0) (pa_cons (pe_op op_sub (pv 1) pe_int) pa_nil))) pa_nil))))))))), ?_⟩
      refine ⟨_, rfl, b, c, _, rfl, hB, by decide, by decide, fun kd H1 k0 k1 d1 => ?_⟩
      refine ⟨_, rfl, _, _, rfl, rfl, _, rfl, ?_⟩
      by_cases h2 : (((d + 1 : Nat) : Int)) < 2
      · refine itP h2 (iteT ⟨by show 1 ≤ sizeLine; decide, fun p1 hp1 => ?_⟩)
        have D1 := d1.same (Same.new (o := .tup [.str "price"]) hp1)
        have S1 : SqT K (upd H1 p1 (.tup [.str "price"])) p1 [.str "price"] := SqT.of upd_same
        generalize upd H1 p1 (.tup [.str "price"]) = H2 at D1 S1
        refine ⟨_, rfl, b, c, 40, rfl, D1.2, by decide, by decide, fun v q H3 d3 hv hq => ⟨by show 2 ≤ sizeLine; decide, fun p2 hp2 => ⟨by show 2 ≤ sizeLine; decide, fun p3 hp3 => ?_⟩⟩⟩
        have S3 := ts_sqt (d3.ts D1.2) S1
        have n2 := Same.new (o := .tup [.str "coin", v]) hp2
        have n3 := Same.new (o := .lst [.ref p1, .ref p2]) hp3
        have DD := (D1.trans d3).same (n2.trans n3)
        rcases mod2 kd with e | e
        · exact ⟨_, rfl, _, _, rfl, rfl, by show (0 : Int) < 2; decide, p3, _, kd % 2, .ref p1, rfl, rfl, SqL.of upd_same, by rw [e]; rfl, kk _ .price _ DD ⟨p1, rfl, Same.sqt (n2.trans n3) S3⟩ trivial (by show 1 ≤ _; omega)⟩
        · exact ⟨_, rfl, _, _, rfl, rfl, by show (0 : Int) < 2; decide, p3, _, kd % 2, .ref p2, rfl, rfl, SqL.of upd_same, by rw [e]; rfl, kk _ (.coin q) _ DD ⟨p2, v, rfl, Same.sqt n3 (SqT.of upd_same), hv.mono (n2.trans n3)⟩ hq (by show 1 ≤ _; omega)⟩
      refine itN h2 ⟨_, rfl, _, _, rfl, rfl, _, rfl, ?_⟩
      by_cases h4 : kd < 4
      · refine itP h4 ⟨by show 1 ≤ sizeLine; decide, fun p1 hp1 => ?_⟩
        have D1 := d1.same (Same.new (o := .tup [.str "price"]) hp1)
        have S1 : SqT K (upd H1 p1 (.tup [.str "price"])) p1 [.str "price"] := SqT.of upd_same
        generalize upd H1 p1 (.tup [.str "price"]) = H2 at D1 S1
        refine ⟨_, rfl, b, c, 40, rfl, D1.2, by decide, by decide, fun v q H3 d3 hv hq => ⟨by show 2 ≤ sizeLine; decide, fun p2 hp2 => ⟨by show 2 ≤ sizeLine; decide, fun p3 hp3 => ?_⟩⟩⟩
        have S3 := ts_sqt (d3.ts D1.2) S1
        have n2 := Same.new (o := .tup [.str "coin", v]) hp2
        have n3 := Same.new (o := .lst [.ref p1, .ref p2]) hp3
        have DD := (D1.trans d3).same (n2.trans n3)
        rcases mod2 kd with e | e
        · exact ⟨_, rfl, _, _, rfl, rfl, by show (0 : Int) < 2; decide, p3, _, kd % 2, .ref p1, rfl, rfl, SqL.of upd_same, by rw [e]; rfl, kk _ .price _ DD ⟨p1, rfl, Same.sqt (n2.trans n3) S3⟩ trivial (by show 1 ≤ _; omega)⟩
        · exact ⟨_, rfl, _, _, rfl, rfl, by show (0 : Int) < 2; decide, p3, _, kd % 2, .ref p2, rfl, rfl, SqL.of upd_same, by rw [e]; rfl, kk _ (.coin q) _ DD ⟨p2, v, rfl, Same.sqt n3 (SqT.of upd_same), hv.mono (n2.trans n3)⟩ hq (by show 1 ≤ _; omega)⟩
      refine itN h4 ⟨_, rfl, rfl, _, rfl, ?_⟩
      have ed : (((d + 1 : Nat) : Int)) - 1 = ((d : Nat) : Int) := by omega
      by_cases e4 : kd = 4
      · refine itP (by rw [e4]) ?_
        refine ⟨_, rfl, b, c, 5, rfl, d1.2, by decide, by decide, fun v q H2 d2 hv hq => ?_⟩
        refine ⟨_, rfl, _, rfl, _, _, rfl, rfl, b, c, congrArg (fun z => [V.ref b, V.int z]) ed, d2.2, fun v3 x3 H3 d3 hv3 g3 z3 => ⟨by show 3 ≤ sizeLine; decide, fun p hp => ?_⟩⟩
        have n := Same.new (o := .tup [.str "of", v, v3]) hp
        exact kk _ (.of q x3) _ (((d1.trans d2).trans d3).same n) ⟨p, v, v3, rfl, SqT.of upd_same, (hv.ts (d3.ts d2.2)).mono n, hv3.mono n⟩ ⟨hq, g3⟩ (by show vdep x3 + 1 ≤ _; omega)
      · refine itN (fun z => e4 (V.int.inj z)) ?_
        refine ⟨by show 4 ≤ sizeLine; decide, fun pl hpl => ?_⟩
        have D2 := d1.same (Same.new (o := .lst [.str "plus", .str "minus", .str "best", .str "least"]) hpl)
        have hl2 : (upd H1 pl (.lst [.str "plus", .str "minus", .str "best", .str "least"])) pl = some (.lst [.str "plus", .str "minus", .str "best", .str "least"]) := upd_same
        have npb : pl ≠ b := fun z => by
          obtain ⟨_, _, _, _, _, h, _⟩ := d1.2
          rw [z] at hpl
          rw [hpl] at h
          cases h
        generalize upd H1 pl (.lst [.str "plus", .str "minus", .str "best", .str "least"]) = H2 at D2 hl2
        refine ⟨_, rfl, b, c, _, rfl, D2.2, by decide, by decide, fun r H3 r0 r1 d3 => ?_⟩
        have hl3 := d3.1 _ _ (fun z => npb (List.mem_singleton.mp z)) hl2
        have D3 := D2.trans d3
        obtain ⟨wd, hw, cs⟩ : ∃ wd : Str, atI [V.str "plus", .str "minus", .str "best", .str "least"] r = some (.str wd) ∧ (wd = "plus" ∨ wd = "minus" ∨ wd = "best" ∨ wd = "least") := by
          obtain rfl | rfl | rfl | rfl : r = 0 ∨ r = 1 ∨ r = 2 ∨ r = 3 := by omega
          · exact ⟨_, rfl, .inl rfl⟩
          · exact ⟨_, rfl, .inr (.inl rfl)⟩
          · exact ⟨_, rfl, .inr (.inr (.inl rfl))⟩
          · exact ⟨_, rfl, .inr (.inr (.inr rfl))⟩
        refine ⟨pl, _, r, _, rfl, rfl, SqL.of hl3, hw, ?_⟩
        refine ⟨_, rfl, _, rfl, _, rfl, _, _, rfl, rfl, b, c, congrArg (fun z => [V.ref b, V.int z]) ed, D3.2, fun v4 x4 H4 d4 hv4 g4 z4 => ?_⟩
        refine ⟨_, rfl, _, rfl, _, _, rfl, rfl, b, c, congrArg (fun z => [V.ref b, V.int z]) ed, d4.2, fun v5 x5 H5 d5 hv5 g5 z5 => ⟨by show 3 ≤ sizeLine; decide, fun p hp => ?_⟩⟩
        have n := Same.new (o := .tup [.str wd, v4, v5]) hp
        have DD := ((D3.trans d4).trans d5).same n
        have a4 := (hv4.ts (d5.ts d4.2)).mono n
        have a5 := hv5.mono n
        have sp : SqT K (upd H5 p (.tup [.str wd, v4, v5])) p [.str wd, v4, v5] := SqT.of upd_same
        rcases cs with rfl | rfl | rfl | rfl
        · exact kk _ (.plus x4 x5) _ DD ⟨p, v4, v5, rfl, sp, a4, a5⟩ ⟨g4, g5⟩ (by show max (vdep x4) (vdep x5) + 1 ≤ _; omega)
        · exact kk _ (.minus x4 x5) _ DD ⟨p, v4, v5, rfl, sp, a4, a5⟩ ⟨g4, g5⟩ (by show max (vdep x4) (vdep x5) + 1 ≤ _; omega)
        · exact kk _ (.best x4 x5) _ DD ⟨p, v4, v5, rfl, sp, a4, a5⟩ ⟨g4, g5⟩ (by show max (vdep x4) (vdep x5) + 1 ≤ _; omega)
        · exact kk _ (.least x4 x5) _ DD ⟨p, v4, v5, rfl, sp, a4, a5⟩ ⟨g4, g5⟩ (by show max (vdep x4) (vdep x5) + 1 ≤ _; omega)
end
end SL
namespace SL
open PySem PySem.Spec PyProof.Rows L2 TL
/-! ### plain bounds of notes -/
def lvB : Nat → Nat
  | 0 => 1
  | 1 => 1
  | 2 => 2
  | n + 3 => lvB (n + 2) * lvB (n + 2)
theorem lvB_pos : ∀ n, 1 ≤ lvB n ∧ (2 ≤ n → 2 ≤ lvB n)
  | 0 => by simp [lvB]
  | 1 => by simp [lvB]
  | 2 => by simp [lvB]
  | n + 3 => by
    have h := (lvB_pos (n + 2)).2 (by omega)
    have : 2 * 2 ≤ lvB (n + 2) * lvB (n + 2) := Nat.mul_le_mul h h
    simp only [lvB]
    omega
theorem lvB_up : ∀ n, lvB n ≤ lvB (n + 1)
  | 0 => by simp [lvB]
  | 1 => by simp [lvB]
  | n + 2 => by
    have h := (lvB_pos (n + 2)).1
    show lvB (n + 2) ≤ lvB (n + 2) * lvB (n + 2)
    exact Nat.le_mul_of_pos_left _ h
theorem lvB_mono {m n : Nat} (h : m ≤ n) : lvB m ≤ lvB n := by
  induction h with
  | refl => exact Nat.le_refl _
  | step _ ih => exact Nat.le_trans ih (lvB_up _)
theorem lvB_two : ∀ m, 1 ≤ m → lvB m * lvB m ≤ lvB (m + 1) ∧ lvB m + lvB m ≤ lvB (m + 1)
  | 1, _ => by simp [lvB]
  | n + 2, _ => by
    have h := (lvB_pos (n + 2)).2 (by omega)
    refine ⟨Nat.le_refl _, ?_⟩
    show _ ≤ lvB (n + 2) * lvB (n + 2)
    have : 2 * lvB (n + 2) ≤ lvB (n + 2) * lvB (n + 2) := Nat.mul_le_mul_right _ h
    omega
theorem ndep_ge1 : ∀ n : Note, 1 ≤ ndep n := fun n => by cases n <;> simp [ndep]
theorem nlv_le : ∀ n : Note, nlv n ≤ lvB (ndep n)
  | .none => by simp [nlv, ndep, lvB]
  | .pay _ _ => by simp [nlv, ndep, lvB]
  | .now _ => by simp [nlv, ndep, lvB]
  | .both a b => by
    have h1 := Nat.le_trans (nlv_le a) (lvB_mono (Nat.le_max_left (ndep a) (ndep b)))
    have h2 := Nat.le_trans (nlv_le b) (lvB_mono (Nat.le_max_right (ndep a) (ndep b)))
    have p := ndep_ge1 a
    simp only [nlv, ndep]
    exact Nat.le_trans (Nat.mul_le_mul h1 h2) (lvB_two _ (by omega)).1
  | .times _ n => Nat.le_trans (nlv_le n) (lvB_up _)
  | .turn n => Nat.le_trans (nlv_le n) (lvB_up _)
  | .till _ _ a b => by
    have h1 := Nat.le_trans (nlv_le a) (lvB_mono (Nat.le_max_left (ndep a) (ndep b)))
    have h2 := Nat.le_trans (nlv_le b) (lvB_mono (Nat.le_max_right (ndep a) (ndep b)))
    have := lvB_up (max (ndep a) (ndep b))
    simp only [nlv, ndep]
    omega
  | .may _ _ _ _ a b => by
    have h1 := Nat.le_trans (nlv_le a) (lvB_mono (Nat.le_max_left (ndep a) (ndep b)))
    have h2 := Nat.le_trans (nlv_le b) (lvB_mono (Nat.le_max_right (ndep a) (ndep b)))
    have p := ndep_ge1 a
    have := (lvB_two (max (ndep a) (ndep b)) (by omega)).2
    simp only [nlv, ndep]
    omega
  | .seen _ _ _ _ => by simp [nlv, ndep, lvB]
theorem vb_35 {v : Val} (h : vdep v ≤ 3) : vbits v ≤ 35 := by
  have h1 := vbits_dep v
  have : 2 ^ (vdep v - 1) ≤ 2 ^ 2 := Nat.pow_le_pow_right (by decide) (by omega)
  omega
theorem nbits_le {m : Nat} : ∀ n : Note, NGood m n → nbits n + 1 ≤ 54 * 2 ^ (ndep n - 1)
  | .none, _ => by simp [nbits, ndep]
  | .pay _ v, h => by
    have := vb_35 h.2.2
    simp only [nbits, ndep]
    omega
  | .now v, h => by
    have := vb_35 h.2
    simp only [nbits, ndep]
    omega
  | .both a b, h => by
    have h1 := nbits_le a h.1
    have h2 := nbits_le b h.2
    have := two a b
    simp only [nbits, ndep]
    omega
  | .times _ n, h => by
    have h1 := nbits_le n h.2
    have := one n
    simp only [nbits, ndep]
    omega
  | .turn n, h => by
    have h1 := nbits_le n h
    have := one n
    simp only [nbits, ndep]
    omega
  | .till _ _ a b, h => by
    have h1 := nbits_le a h.2.1
    have h2 := nbits_le b h.2.2
    have := two a b
    simp only [nbits, ndep]
    omega
  | .may _ _ _ _ a b, h => by
    have h1 := nbits_le a h.2.2.2.1
    have h2 := nbits_le b h.2.2.2.2
    have := two a b
    simp only [nbits, ndep]
    omega
  | .seen _ _ _ _, _ => by simp [nbits, ndep]
where
  one (n : Note) : 2 ^ (ndep n + 1 - 1) = 2 * 2 ^ (ndep n - 1) ∧ 1 ≤ 2 ^ (ndep n - 1) := by
    have := ndep_ge1 n
    refine ⟨?_, Nat.one_le_two_pow⟩
    rw [← Nat.pow_succ']
    congr 1
    omega
  two (a b : Note) : 2 ^ (max (ndep a) (ndep b) + 1 - 1) = 2 * 2 ^ (max (ndep a) (ndep b) - 1) ∧ 2 ^ (ndep a - 1) ≤ 2 ^ (max (ndep a) (ndep b) - 1) ∧ 2 ^ (ndep b - 1) ≤ 2 ^ (max (ndep a) (ndep b) - 1) ∧ 1 ≤ 2 ^ (ndep a - 1) ∧ 1 ≤ 2 ^ (ndep b - 1) := by
    have := ndep_ge1 a
    refine ⟨?_, Nat.pow_le_pow_right (by decide) (by omega), Nat.pow_le_pow_right (by decide) (by omega), Nat.one_le_two_pow, Nat.one_le_two_pow⟩
    rw [← Nat.pow_succ']
    congr 1
    omega
/-! ### the room of a note -/
def RoomAt (H : Hp) (r : Addr) : Prop := ∃ x y z : Int, H r = some (.lst [.int x, .int y, .int z])
def Dn (b c r : Addr) (H H' : Hp) : Prop := Ex [b, r] H H' ∧ BoxAt H' b c ∧ RoomAt H' r
section
variable {b c r : Addr} {H H' H2 : Hp}
theorem Dn.refl (h : BoxAt H b c) (q : RoomAt H r) : Dn b c r H H := ⟨Ex.refl _ _, h, q⟩
theorem Dn.trans (x : Dn b c r H H') (y : Dn b c r H' H2) : Dn b c r H H2 := ⟨x.1.trans y.1, y.2⟩
theorem Dn.same (x : Dn b c r H H') (e : Same H' H2) : Dn b c r H H2 := by
  obtain ⟨h1, h2, u, v, z, h3⟩ := x
  exact ⟨h1.trans (Ex.same e), h2.mono e, u, v, z, e _ _ h3⟩
theorem Dn.draw (x : Dn b c r H H') (y : Dr b c H' H2) (n : r ≠ b) : Dn b c r H H2 := by
  obtain ⟨h1, h2, u, v, z, h3⟩ := x
  exact ⟨h1.trans (y.1.wide fun a m => by cases List.mem_singleton.mp m; exact List.mem_cons_self), y.2, u, v, z, y.1 _ _ (fun m => n (List.mem_singleton.mp m)) h3⟩
theorem Dn.put (x : Dn b c r H H') {u v z : Int} (n1 : r ≠ b) (n2 : r ≠ c) : Dn b c r H (upd H' r (.lst [.int u, .int v, .int z])) := by
  obtain ⟨h1, h2, h3⟩ := x
  have e : Ex [r] H' (upd H' r (.lst [.int u, .int v, .int z])) := Ex.put (List.mem_singleton.mpr rfl)
  exact ⟨h1.trans (e.wide fun a m => by cases List.mem_singleton.mp m; exact List.mem_cons_of_mem _ List.mem_cons_self), h2.ex e (fun m => n1 (List.mem_singleton.mp m).symm) (fun m => n2 (List.mem_singleton.mp m).symm), u, v, z, upd_same⟩
theorem Dn.ts (hB : BoxAt H b c) (hR : RoomAt H r) (x : Dn b c r H H') : TS H H' := Ex.ts (fun a m => by
  rcases List.mem_cons.mp m with z | z
  · exact hB.lst a (List.mem_singleton.mpr z)
  · cases List.mem_singleton.mp z
    obtain ⟨_, _, _, h⟩ := hR
    exact ⟨_, h⟩) x.1
end
abbrev NQ : Str → Prop := fun nm => nm ≠ ("qq" : Str)
section
variable {w : World} {K : PySem.W.Frag} {mg : Str → Option Value} {base : Heap}
def spNoteD (K : PySem.W.Frag) (d : Nat) (ps : Addr → Addr → List V) : Sp := fun vs H Q _ => ∃ (b c r : Addr), vs = ps b r ∧ BoxAt H b c ∧ RoomAt H r ∧ r ≠ b ∧ r ≠ c ∧ ∀ v n H', Dn b c r H H' → NAt K H' n v → NGood 0 n → ndep n ≤ max d 1 → NNames NQ n → Q v H'
theorem ok_Lleaf (T : TX w K mg) : Fn w K mg base 8 (He.ga K "_law_leaf") (spNoteD K 1 fun b r => [.ref b, .ref r]) := by
  refine fn_Lleaf (k := 7) T (fun vs H Q E h => ?_) (fun cdv A outer s H vs Q E hr h => ?_)
  · obtain ⟨_, _, _, rfl, _⟩ := h
    rfl
  · obtain ⟨b, c, r, rfl, hB, hR, n1, n2, kk⟩ := h
    refine ⟨_, pss_cons (ps_set (i := 2) sc_Lleaf.nd rfl (.inl rfl) (pe_callF (ok_Ltake T) rfl hr rfl (g_Ltake T) (pa_cons (pv 0) (pa_cons pe_int pa_nil))))
      (pss_cons (ps_if (pt_cmpR op_eq (pv 2) pe_int (nomark _)) (pss_one (ps_ret (pe_tup (pa_cons pe_str pa_nil)))) pss_nil)
      (pss_cons (ps_if (pt_cmpR op_eq (pv 2) pe_int (nomark _)) (pss_one (ps_ret (pe_tup (pa_cons pe_str (pa_cons (pe_callF (ok_Lvalue T 3 (by decide)) rfl hr rfl (g_Lvalue T) (pa_cons (pv 0) (pa_cons pe_int pa_nil))) pa_nil))))) pss_nil)
      (pss_cons (ps_if (PW.pt (pw_and (pt_cmpR op_eq (pv 2) pe_int (nomark _)) (pw_and1 (pt_cmpR op_gt (pe_ix ix_list (pv 1) pe_int (fun _ _ => rfl)) pe_int (nomark _)))))
        (pss_cons (ps_asg (pe_op op_sub (pe_ix ix_list (pv 1) pe_int (fun _ _ => rfl)) pe_int) (pg_sub (pv 1) pe_int set_list))
        (pss_cons (ps_set (i := 3) sc_Lleaf.nd rfl (.inl rfl) (pe_ifExp (pt_cmpR op_eq (pe_callF (ok_Ltake T) rfl hr rfl (g_Ltake T) (pa_cons (pv 0) (pa_cons pe_int pa_nil))) pe_int (nomark _)) (pe_callF (ok_Lcoin T) rfl hr rfl (g_Lcoin T) (pa_cons (pv 0) (pa_cons pe_int pa_nil))) pe_non))
        (pss_one (ps_ret (pe_tup (pa_cons pe_str (pa_cons (pe_ix ix_list (pe_lst (pa_cons pe_str (pa_cons pe_str pa_nil))) (pe_callF (ok_Ltake T) rfl hr rfl (g_Ltake T) (pa_cons (pv 0) (pa_cons pe_int pa_nil))) (fun _ _ => rfl))
          (pa_cons (pe_callF (ok_Ltake T) rfl hr rfl (g_Ltake T) (pa_cons (pv 0) (pa_cons pe_int pa_nil))) (pa_cons (pe_callF (ok_Lcoin T) rfl hr rfl (g_Lcoin T) (pa_cons (pv 0) (pa_cons pe_int pa_nil))) (pa_cons (pv 3) pa_nil)))))))))) pss_nil)
      (pss_one (ps_ret (pe_tup (pa_cons pe_str (pa_cons (pe_callF (ok_Ltake T) rfl hr rfl (g_Ltake T) (pa_cons (pv 0) (pa_cons pe_int pa_nil))) (pa_cons (pe_callF (ok_Lvalue T 3 (by decide)) rfl hr rfl (g_Lvalue T) (pa_cons (pv 0) (pa_cons pe_int pa_nil))) pa_nil))))))))), ?_⟩
    refine ⟨_, rfl, b, c, _, rfl, hB, by decide, by decide, fun kd H1 k0 k1 d1 => ?_⟩
    have D1 : Dn b c r H H1 := (Dn.refl hB hR).draw d1 n1
    refine ⟨_, rfl, rfl, _, rfl, ?_⟩
    by_cases e0 : kd = 0
    · exact itP (by rw [e0]) ⟨by show 1 ≤ sizeLine; decide, fun p hp => kk _ .none _ (D1.same (Same.new hp)) ⟨p, rfl, SqT.of upd_same⟩ trivial (Nat.le_refl 1) trivial⟩
    refine itN (fun z => e0 (V.int.inj z)) ⟨_, rfl, rfl, _, rfl, ?_⟩
    by_cases e1 : kd = 1
    · refine itP (by rw [e1]) ⟨_, rfl, b, c, rfl, d1.2, fun v x H2 d2 hv gx zx => ⟨by show 2 ≤ sizeLine; decide, fun p hp => ?_⟩⟩
      exact kk _ (.now x) _ ((D1.draw d2 n1).same (Same.new hp)) ⟨p, v, rfl, SqT.of upd_same, hv.mono (Same.new hp)⟩ ⟨gx, zx⟩ (Nat.le_refl 1) trivial
    refine itN (fun z => e1 (V.int.inj z)) ⟨_, rfl, rfl, _, rfl, ?_⟩
    by_cases e2 : kd = 2
    · refine itP (by rw [e2]) ?_
      obtain ⟨x, y, z, hr1⟩ := D1.2.2
      refine ⟨_, rfl, r, _, _, _, rfl, rfl, SqL.of hr1, rfl, _, _, rfl, rfl, _, rfl, ?_⟩
      by_cases e3 : 0 < z
      · refine itP e3 ?_
        refine ⟨_, rfl, r, _, _, _, rfl, rfl, SqL.of hr1, rfl, _, _, rfl, rfl, _, rfl, r, _, _, 2, rfl, rfl, hr1, rfl, ?_⟩
        have D2 : Dn b c r H (upd H1 r (.lst [.int x, .int y, .int (z - 1)])) := D1.put n1 n2
        dsimp only [List.set]
        generalize upd H1 r (.lst [.int x, .int y, .int (z - 1)]) = H2 at D2
        refine ⟨_, rfl, b, c, _, rfl, D2.2.1, by decide, by decide, fun q H3 q0 q1 d3 => ⟨rfl, _, rfl, ?_⟩⟩
        have D3 := D2.draw d3 n1
        -- the bar above
        refine if_join (fun v H' => Dn b c r H H' ∧ ∃ past, PAt K H' past v ∧ ∀ q, past = some q → Sz 8 q) (fun eb Q' k => ?_) (fun eb Q' k => ?_) (fun v4 H4 ⟨D4, past, hp4, gp⟩ => ?_)
        · exact ⟨_, rfl, b, c, 60, rfl, D3.2.1, by decide, by decide, fun v q H4 d4 hv gq => k v H4 ⟨D3.draw d4 n1, some q, hv, fun q' e => Option.some.inj e ▸ gq⟩⟩
        · exact k _ _ ⟨D3, none, rfl, fun _ e => nomatch e⟩
        · refine ⟨by show 2 ≤ sizeLine; decide, fun pl hpl => ?_⟩
          have D5 := D4.same (Same.new (o := .lst [.str "peak", .str "total"]) hpl)
          have hl : (upd H4 pl (.lst [.str "peak", .str "total"])) pl = some (.lst [.str "peak", .str "total"]) := upd_same
          have P5 := PAt.mono (Same.new (o := .lst [.str "peak", .str "total"]) hpl) hp4
          have npb : pl ≠ b := fun z => by
            obtain ⟨_, _, _, _, _, h, _⟩ := D4.2.1
            rw [z] at hpl
            rw [hpl] at h
            cases h
          generalize upd H4 pl (.lst [.str "peak", .str "total"]) = H5 at D5 hl P5
          refine ⟨_, rfl, b, c, _, rfl, D5.2.1, by decide, by decide, fun i H6 i0 i1 d6 => ?_⟩
          have D6 := D5.draw d6 n1
          have hl6 := d6.1 _ _ (fun z => npb (List.mem_singleton.mp z)) hl
          obtain ⟨pk, hpk⟩ : ∃ pk : Bool, atI [V.str "peak", .str "total"] i = some (.str (wdS pk)) := by
            obtain rfl | rfl : i = 0 ∨ i = 1 := by omega
            · exact ⟨true, rfl⟩
            · exact ⟨false, rfl⟩
          refine ⟨pl, _, i, _, rfl, rfl, SqL.of hl6, hpk, ?_⟩
          refine ⟨_, rfl, b, c, _, rfl, D6.2.1, by decide, by decide, fun j H7 j0 j1 d7 => ?_⟩
          have D7 := D6.draw d7 n1
          refine ⟨_, rfl, b, c, _, rfl, D7.2.1, by decide, by decide, fun v8 q8 H8 d8 hv8 g8 => ⟨_, rfl, by show 5 ≤ sizeLine; decide, fun p hp => ?_⟩⟩
          have D8 := D7.draw d8 n1
          have n := Same.new (o := .tup [.str "seen", .str (wdS pk), .int j, v8, v4]) hp
          have P8 : PAt K H8 past v4 := by
            cases past with
            | none => exact P5
            | some q => exact ((Amt.ts P5 (d6.ts D5.2.1)).ts (d7.ts D6.2.1)).ts (d8.ts D7.2.1)
          exact kk _ (.seen pk j q8 past) _ (D8.same n) ⟨p, v8, v4, rfl, SqT.of upd_same, hv8.mono n, P8.mono n⟩ ⟨⟨j0, by omega⟩, g8, gp⟩ (Nat.le_refl 1) trivial
      · refine itN e3 ?_
        refine ⟨_, rfl, b, c, _, rfl, D1.2.1, by decide, by decide, fun j H2 j0 j1 d2 => ⟨_, rfl, b, c, rfl, d2.2, fun v x H3 d3 hv gx zx => ⟨by show 3 ≤ sizeLine; decide, fun p hp => ?_⟩⟩⟩
        have n := Same.new (o := .tup [.str "pay", .int j, v]) hp
        exact kk _ (.pay j x) _ (((D1.draw d2 n1).draw d3 n1).same n) ⟨p, v, rfl, SqT.of upd_same, hv.mono n⟩ ⟨⟨j0, by omega⟩, gx, zx⟩ (Nat.le_refl 1) trivial
    · refine itN (fun z => e2 (V.int.inj z)) ?_
      refine ⟨_, rfl, b, c, _, rfl, D1.2.1, by decide, by decide, fun j H2 j0 j1 d2 => ⟨_, rfl, b, c, rfl, d2.2, fun v x H3 d3 hv gx zx => ⟨by show 3 ≤ sizeLine; decide, fun p hp => ?_⟩⟩⟩
      have n := Same.new (o := .tup [.str "pay", .int j, v]) hp
      exact kk _ (.pay j x) _ (((D1.draw d2 n1).draw d3 n1).same n) ⟨p, v, rfl, SqT.of upd_same, hv.mono n⟩ ⟨⟨j0, by omega⟩, gx, zx⟩ (Nat.le_refl 1) trivial
end
end SL
namespace SL
open PySem PySem.Spec PyProof.Rows L2 TL
section
variable {X : Cx}
/-- len(set(xs)), xs a list of tuples of whole numbers -/
def tLenSetT (K : PySem.W.Frag) (ta : TE) : TE := fun σ H Q => ta σ H fun x H1 => ∃ (l : Addr) (ks : List (Addr × List Int)), x = V.ref l ∧ SqL K H1 l (ks.map fun p => V.ref p.1) ∧ (∀ p ∈ ks, SqT K H1 p.1 (p.2.map V.int)) ∧ ks.length < 64 ∧
  ∀ L : List (List Int), L.Nodup → L.length < 64 → (∀ z ∈ L, z ∈ ks.map (·.2)) → (∀ z ∈ ks.map (·.2), z ∈ L) → Q (.int L.length) H1
theorem pe_lenSetT {a : Expr} {ta : TE} {p p2 q pos : Pos} (hu : X.A.units + 64 < cLine) (hc : X.calm = true) (hg : Gl X "len") (hm : X.mg "len" = none) (hg2 : Gl X "set") (hm2 : X.mg "set" = none) (ha : PE X a ta)
    (na : starEach [a] X.env = (false, eval a X.env) :: starEach [] X.env := by rfl) : PE X (.Call (.Name "len" p) [.Call (.Name "set" p2) [a] [] q] [] pos) (tLenSetT X.K ta) := by
  refine ⟨fun pins s σ H Q I h => ?_⟩
  refine Call_ (ld_blt I hg hm PySem.boot_len ?_)
  refine PyProof.Rows.callWith_builtin1 (PyProof.Rows.args_cons ?_ rfl) rfl rfl
  refine Call_ (ld_blt I hg2 hm2 PyProof.Rows.boot_set ?_)
  refine PyProof.Rows.callWith_type1 (PyProof.Rows.args_cons (thn (ha.run pins s σ H _ I h) fun v s1 ⟨x, H1, I1, r1, q1⟩ => PyProof.Rows.args_nil ?_) na) na rfl
  obtain ⟨l, ks, rfl, hq, hk, hf, q1⟩ := q1
  cases r1
  obtain ⟨its, rv, pl, hz⟩ := I1.list hq
  refine call_set_tups (P := X.prog) (w := X.w) ks (I1.ok.hd hc) pl.isList (by simpa using refs_of_vals rv) (fun p hp => I1.isT (hk p hp)) hf (by omega) fun h' tk L es ep t R g k => ?_
  refine PyProof.Rows.args_nil ?_
  obtain ⟨o, ho, hex, hd⟩ := R.ob
  have I2 : Inv X pins σ H1 { s1 with heap := h', toks := tk } := I1.kept fun b o e => k b o e
  have hsz := SetTR.size (s := { s1 with heap := h', toks := tk }) R
  have few := R.few
  refine call_len_set ho hex hd (SetTR.fits (s := { s1 with heap := h', toks := tk }) R) (by rw [hsz]; omega) ⟨.int es.size, H1, I2.tok _, ⟨_, rfl⟩, ?_⟩
  rw [hsz, show ((L.length : Nat) : Int) = (((L.map (·.2)).length : Nat) : Int) by rw [List.length_map]]
  refine q1 _ R.nd (by rw [List.length_map]; exact few) (fun z hz => ?_) fun z hz => ?_
  · obtain ⟨p, hp, rfl⟩ := List.mem_map.mp hz
    exact List.mem_map.mpr ⟨p, List.mem_of_mem_take (g.sub p hp), rfl⟩
  · obtain ⟨p, hp, rfl⟩ := List.mem_map.mp hz
    exact g.all p (by rw [List.take_length]; exact hp)
end
end SL
namespace SL
open PySem PySem.Spec PyProof.Rows L2 TL
theorem len_iff {α : Type} {l : List α} {n : Nat} (h : ∀ k, (∃ x, l[k]? = some x) ↔ k < n) : l.length = n := by
  rcases Nat.lt_trichotomy l.length n with q | q | q
  · obtain ⟨x, hx⟩ := (h l.length).mpr q
    have := (List.getElem?_eq_some_iff.mp hx).1
    omega
  · exact q
  · have := (h n).mp ⟨_, List.getElem?_eq_getElem q⟩
    omega
theorem ok_lens {D : Dat} (ok : D.Ok) {d : Nat} {p r : List Rat} {s : List (Nat × Nat)} (hp : D.P[d]? = some p) (hr : D.R[d]? = some r) (hs : D.S[d]? = some s) : r.length = p.length ∧ s.length = p.length := by
  have hlt : d + 1 < D.P.length := by
    have := (List.getElem?_eq_some_iff.mp hr).1
    have := ok.rl
    omega
  have cp : ∀ k q, p[k]? = some q → cell D.P d k = some q := fun k q h => by unfold cell; rw [hp]; exact h
  constructor
  · refine len_iff fun k => ⟨fun ⟨x, hx⟩ => ?_, fun h => ?_⟩
    · obtain ⟨_, q, hq⟩ := ok.rin d k x (by unfold cell; rw [hr]; exact hx)
      obtain ⟨row, h1, h2⟩ := cell_eq hq
      rw [hp] at h1
      cases h1
      exact (List.getElem?_eq_some_iff.mp h2).1
    · obtain ⟨r', u, v, hi, lo, s', nd⟩ := ok.nd d k _ (cp k _ (List.getElem?_eq_getElem h)) hlt
      obtain ⟨row, h1, h2⟩ := cell_eq nd.rt
      rw [hr] at h1
      cases h1
      exact ⟨_, h2⟩
  · refine len_iff fun k => ⟨fun ⟨x, hx⟩ => ?_, fun h => ?_⟩
    · obtain ⟨_, q, hq⟩ := ok.sin d k x (by unfold cell; rw [hs]; exact hx)
      obtain ⟨row, h1, h2⟩ := cell_eq hq
      rw [hp] at h1
      cases h1
      exact (List.getElem?_eq_some_iff.mp h2).1
    · obtain ⟨r', u, v, hi, lo, s', nd⟩ := ok.nd d k _ (cp k _ (List.getElem?_eq_getElem h)) hlt
      obtain ⟨row, h1, h2⟩ := cell_eq nd.st
      rw [hs] at h1
      cases h1
      exact ⟨_, h2⟩
theorem iteTC {c : Bool} {a b : V} {σ : L2.St} {H : Hp} {Q : VK} (h : ∀ v, (c = true ∧ v = a) ∨ (c = false ∧ v = b) → Q v H) : if c = true then tC a σ H Q else tC b σ H Q := by
  cases c with
  | true => exact iteT (h a (.inl ⟨rfl, rfl⟩))
  | false => exact iteF (h b (.inr ⟨rfl, rfl⟩))
section
variable {w : World} {K : PySem.W.Frag} {mg : Str → Option Value} {base : Heap}
def spShape (K : PySem.W.Frag) : Sp := fun vs H Q _ => ∃ (vp vr vs' : V) (D : Dat), vs = [vp, vr, vs'] ∧ GridAt K H D.P vp ∧ GridAt K H D.R vr ∧ SGridAt K H D.S vs' ∧ D.Ok ∧ ∀ H', Same H H' → Q .non H'
theorem ok_look_shape (T : TX w K mg) : Fn w K mg base 1 (He.ga K "look_shape") (spShape K) := by
  refine fn_look_shape (k := 0) T (fun vs H Q E h => ?_) (fun cdv A outer s H vs Q E hr h => ?_)
  · obtain ⟨_, _, _, _, rfl, _⟩ := h
    rfl
  · obtain ⟨vp, vr, vs', D, rfl, gp, gr, gs, ok, kk⟩ := h
    obtain ⟨t1, ht1⟩ := i_MOST_DATES T
    obtain ⟨t2, ht2⟩ := i_MOST_NODES T
    refine ⟨_, pss_cons (ps_if (PW.pt (pw_or (pt_not (pt_chain op_le op_le pe_int (pe_callB call_len_seq rfl (b_len T) boot_len (pa_cons (pv 0) pa_nil)) (pe_glob (v := .int 7) rfl ht1 ⟨t1, rfl⟩))) (pw_or1 (pt_not (pt_chain op_eq op_eq (pe_callB call_len_seq rfl (b_len T) boot_len (pa_cons (pv 1) pa_nil)) (pe_callB call_len_seq rfl (b_len T) boot_len (pa_cons (pv 2) pa_nil)) (pe_op op_sub (pe_callB call_len_seq rfl (b_len T) boot_len (pa_cons (pv 0) pa_nil)) pe_int)))))) pss_never pss_nil)
      (pss_one (ps_for PassesOwn.never rfl (pi_enum rfl (b_enumerate T) (pa_cons (pv 0) pa_nil)) (pg_tup rfl (pgs_cons (pg_name (i := 3) sc_look_shape.nd rfl (.inl rfl)) (pgs_cons (pg_name (i := 4) sc_look_shape.nd rfl (.inl rfl)) pgs_nil)))
        (pss_cons (ps_if (pt_not (pt_chain op_le op_le pe_int (pe_callB call_len_seq rfl (b_len T) boot_len (pa_cons (pv 4) pa_nil)) (pe_ifExp (pt_cmpR op_eq (pv 3) pe_int (nomark _)) pe_int (pe_glob (v := .int 8) rfl ht2 ⟨t2, rfl⟩)))) pss_never pss_nil)
        (pss_one (ps_if (PW.pt (pw_and (pt_cmpR op_lt (pv 3) (pe_callB call_len_seq rfl (b_len T) boot_len (pa_cons (pv 1) pa_nil)) (nomark _)) (pw_and1 (pt_not (pt_chain op_eq op_eq (pe_callB call_len_seq rfl (b_len T) boot_len (pa_cons (pe_ix ix_list (pv 1) (pv 3) (fun _ _ => rfl)) pa_nil)) (pe_callB call_len_seq rfl (b_len T) boot_len (pa_cons (pe_ix ix_list (pv 2) (pv 3) (fun _ _ => rfl)) pa_nil)) (pe_callB call_len_seq rfl (b_len T) boot_len (pa_cons (pv 4) pa_nil))))))) pss_never pss_nil))))), ?_⟩
    obtain ⟨bp, up, rfl, hbp, ap⟩ := id gp
    obtain ⟨br, ur, rfl, hbr, ar⟩ := id gr
    obtain ⟨bs, us, rfl, hbs, as⟩ := id gs
    have lp := ap.len
    have lr := ar.len
    have ls := as.len
    have o1 := ok.one
    have o2 := ok.most
    have o3 := ok.rl
    have o4 := ok.sl
    refine ⟨_, rfl, bp, up, rfl, .inl (SqL.of hbp), _, _, rfl, rfl, _, rfl, itP (by omega) ⟨_, _, rfl, rfl, _, rfl, ?_⟩⟩
    rw [decide_eq_true (show ((up.length : Nat) : Int) ≤ 7 by omega)]
    refine iteF ⟨_, rfl, br, ur, rfl, .inl (SqL.of hbr), _, rfl, bs, us, rfl, .inl (SqL.of hbs), rfl, _, rfl, itP (congrArg V.int (by omega)) ⟨_, rfl, bp, up, rfl, .inl (SqL.of hbp), _, _, rfl, rfl, rfl, _, rfl, ?_⟩⟩
    rw [decide_eq_true (congrArg V.int (by omega : ((us.length : Nat) : Int) = ((up.length : Nat) : Int) - 1))]
    refine iteF ⟨_, rfl, bp, up, rfl, SqL.of hbp, ?_⟩
    refine for_it (walk_enum (K := K) (xs := up)) (fun i σ' H' => ∃ x3 x4, σ' = [some (.ref bp), some (.ref br), some (.ref bs), x3, x4] ∧ Same H H') ⟨_, _, rfl, Same.refl _⟩ (fun i σ' H' _ ⟨_, _, _, q⟩ => SqL.of (q _ _ hbp)) (fun i xv σ' H1 H1' hi ⟨x3, x4, eσ, e1⟩ ⟨Tp, xi, y, exv, hTp, eH, exi, hyi⟩ => ?_) (fun σ' H1 ⟨x3, x4, eσ, e1⟩ => kk H1 e1)
    subst eσ exv eH
    obtain rfl : V.int ((i : Nat) : Int) = xi := Option.some.inj exi
    have nT := Same.new (o := .tup [V.int ((i : Nat) : Int), y]) hTp
    have e2 := e1.trans nT
    obtain ⟨row, hrow, b2, ws, rfl, hb2, hrw⟩ := (ap.imp fun _ _ z => RowAt.mono e2 z).get hyi
    have lw := hrw.len
    have wd := ok.wide i row hrow
    refine ⟨Tp, _, rfl, SqT.of upd_same, rfl, _, _, rfl, _, _, rfl, rfl, ?_⟩
    refine ⟨_, rfl, b2, ws, rfl, .inl (SqL.of hb2), _, _, rfl, rfl, _, rfl, itP (by omega) ?_⟩
    refine ⟨_, rfl, rfl, _, rfl, iteTC fun v hv => ?_⟩
    obtain ⟨n, rfl, hn⟩ : ∃ n : Int, v = .int n ∧ ((ws.length : Nat) : Int) ≤ n := by
      rcases hv with ⟨hc, rfl⟩ | ⟨_, rfl⟩
      · refine ⟨1, rfl, ?_⟩
        have := V.int.inj (of_decide_eq_true hc)
        obtain rfl : i = 0 := by omega
        obtain ⟨q, hq⟩ := ok.top
        rw [hrow] at hq
        cases hq
        simp only [List.length_singleton] at lw
        omega
      · exact ⟨8, rfl, by omega⟩
    refine ⟨_, _, rfl, rfl, _, rfl, ?_⟩
    rw [decide_eq_true hn]
    refine iteF ⟨_, rfl, _, rfl, br, ur, rfl, .inl (SqL.of (e2 _ _ hbr)), _, _, rfl, rfl, _, rfl, ite2 (fun hc => ?_) (fun hc => ?_)⟩
    · have hlt : i < ur.length := by
        have := of_decide_eq_true hc
        omega
      obtain ⟨rr, hrr⟩ : ∃ rr, D.R[i]? = some rr := ⟨_, List.getElem?_eq_getElem (by omega)⟩
      obtain ⟨sr, hsr⟩ : ∃ sr, D.S[i]? = some sr := ⟨_, List.getElem?_eq_getElem (by omega)⟩
      obtain ⟨l1, l2⟩ := ok_lens ok hrow hrr hsr
      obtain ⟨u1, hu1, b3, w3, rfl, hb3, h3⟩ := (ar.imp fun _ _ z => RowAt.mono e2 z).getL hrr
      obtain ⟨u2, hu2, b4, w4, rfl, hb4, h4⟩ := (as.imp fun _ _ z => SRowAt.mono e2 z).getL hsr
      have l3 := h3.len
      have l4 := h4.len
      refine ⟨_, rfl, _, rfl, br, ur, _, _, rfl, rfl, SqL.of (e2 _ _ hbr), atI_nat hu1, b3, w3, rfl, .inl (SqL.of hb3), _, rfl, _, rfl, bs, us, _, _, rfl, rfl, SqL.of (e2 _ _ hbs), atI_nat hu2, b4, w4, rfl, .inl (SqL.of hb4), rfl, _, rfl, itP (congrArg V.int (by omega)) ⟨_, rfl, b2, ws, rfl, .inl (SqL.of hb2), rfl, _, rfl, ?_⟩⟩
      rw [decide_eq_true (congrArg V.int (by omega : ((w4.length : Nat) : Int) = ((ws.length : Nat) : Int)))]
      exact iteF ⟨_, _, rfl, e2⟩
    · exact iteF ⟨_, _, rfl, e2⟩
end
end SL
namespace SL
open PySem PySem.Spec PyProof.Rows L2 TL
theorem num_posR {y : Rat} (h : 0 < y) : 0 < y.num := by
  have := Rat.num_nonneg.mpr (Rat.le_of_lt h)
  have : y.num ≠ 0 := fun e => by
    rw [Rat.num_eq_zero] at e
    rw [e] at h
    exact Rat.lt_irrefl h
  omega
section
variable {w : World} {K : PySem.W.Frag} {mg : Str → Option Value} {base : Heap}
def spAbove (K : PySem.W.Frag) : Sp := fun vs H Q _ => ∃ (vp : V) (G : List (List Rat)) (rd : Bool), vs = [vp, .bl rd] ∧ GridAt K H G vp ∧ (∀ row ∈ G, ∀ q ∈ row, 0 < q) ∧ ∀ H', Same H H' → Q .non H'
theorem ok_look_above (T : TX w K mg) : FnK w K mg base 1 (He.ga K "look_above") 1 ["rated"] (spAbove K) := by
  obtain ⟨fd, F⟩ := f_look_above T
  refine fnK (ps := ["rows", "rated"]) (fnOk (k := 0) F sc_look_above (fun vs H Q E h => ?_) (fun cdv A outer s H vs Q E hr h => ?_)) F.kp (bindsK F fun kV doc pm an cdv ct us ws l1 l2 => ?_)
  · obtain ⟨_, _, _, rfl, _⟩ := h
    rfl
  · obtain ⟨vp, G, rd, rfl, gp, pos, kk⟩ := h
    refine ⟨_, pss_one (ps_for PassesOwn.never rfl (pi_enum rfl (b_enumerate T) (pa_cons (pv 0) pa_nil)) (pg_tup rfl (pgs_cons (pg_name (i := 2) sc_look_above.nd rfl (.inl rfl)) (pgs_cons (pg_name (i := 3) sc_look_above.nd rfl (.inl rfl)) pgs_nil)))
        (pss_one (ps_for PassesOwn.never rfl (pi_enum rfl (b_enumerate T) (pa_cons (pv 3) pa_nil)) (pg_tup rfl (pgs_cons (pg_name (i := 4) sc_look_above.nd rfl (.inl rfl)) (pgs_cons (pg_tup rfl (pgs_cons (pg_name (i := 5) sc_look_above.nd rfl (.inl rfl)) (pgs_cons (pg_name (i := 6) sc_look_above.nd rfl (.inl rfl)) pgs_nil))) pgs_nil)))
          (pss_cons (ps_if (PW.pt (pw_and (pt_cmpR op_le (pv 5) pe_int (nomark _)) (pw_and1 (pt_val (pv 1))))) pss_never pss_nil)
          (pss_one (ps_if (pt_cmpR op_le (pv 5) pe_int (nomark _)) pss_never pss_nil)))))), ?_⟩
    obtain ⟨bp, up, rfl, hbp, ap⟩ := id gp
    refine ⟨_, rfl, bp, up, rfl, SqL.of hbp, ?_⟩
    refine for_it (walk_enum (K := K) (xs := up)) (fun i σ' H' => ∃ x2 x3 x4 x5 x6, σ' = [some (.ref bp), some (.bl rd), x2, x3, x4, x5, x6] ∧ Same H H') ⟨_, _, _, _, _, rfl, Same.refl _⟩ (fun i σ' H' _ ⟨_, _, _, _, _, _, q⟩ => SqL.of (q _ _ hbp)) (fun i xv σ' H1 H1' hi ⟨x2, x3, x4, x5, x6, eσ, e1⟩ ⟨Tp, xi, y, exv, hTp, eH, exi, hyi⟩ => ?_) (fun σ' H1 ⟨x2, x3, x4, x5, x6, eσ, e1⟩ => kk H1 e1)
    subst eσ exv eH
    obtain rfl : V.int ((i : Nat) : Int) = xi := Option.some.inj exi
    have nT := Same.new (o := .tup [V.int ((i : Nat) : Int), y]) hTp
    have e2 := e1.trans nT
    obtain ⟨row, hrow, b2, ws, rfl, hb2, hrw⟩ := (ap.imp fun _ _ z => RowAt.mono e2 z).get hyi
    refine ⟨Tp, _, rfl, SqT.of upd_same, rfl, _, _, rfl, _, _, rfl, rfl, ?_⟩
    refine ⟨_, rfl, b2, ws, rfl, SqL.of hb2, ?_⟩
    have hbB := hb2
    refine for_it (walk_enum (K := K) (xs := ws)) (fun j σ' H' => ∃ x4 x5 x6, σ' = [some (.ref bp), some (.bl rd), some (.int ((i : Nat) : Int)), some (.ref b2), x4, x5, x6] ∧ Same (upd H1 Tp (.tup [V.int ((i : Nat) : Int), .ref b2])) H') ⟨_, _, _, rfl, Same.refl _⟩ (fun j σ' H' _ ⟨_, _, _, _, q⟩ => SqL.of (q _ _ hb2)) (fun j xv σ' H2 H2' hj ⟨x4, x5, x6, eσ, e3⟩ ⟨Tq, xj, y2, exv, hTq, eH, exj, hyj⟩ => ?_) (fun σ' H2 ⟨x4, x5, x6, eσ, e3⟩ => ⟨_, _, _, _, _, eσ, e2.trans e3⟩)
    subst eσ exv eH
    obtain rfl : V.int ((j : Nat) : Int) = xj := Option.some.inj exj
    have nU := Same.new (o := .tup [V.int ((j : Nat) : Int), y2]) hTq
    obtain ⟨q, hq, aq, rfl, haq⟩ := (hrw.imp fun _ _ z => Amt.mono z (e3.trans nU)).get hyj
    have pq := pos row (List.mem_of_getElem? hrow) q (List.mem_of_getElem? hq)
    have pn : 0 < q.num := num_posR pq
    refine ⟨Tq, _, rfl, SqT.of upd_same, rfl, _, _, rfl, _, _, rfl, ⟨aq, _, rfl, haq, rfl, _, _, rfl, _, _, rfl, rfl, rfl, ?_⟩⟩
    refine ⟨_, rfl, _, _, rfl, rfl, _, rfl, itN (by omega) (iteF ⟨_, rfl, _, _, rfl, rfl, _, rfl, itN (by omega) ⟨_, _, _, rfl, e3.trans nU⟩⟩)⟩
  · match us, ws, l1, l2 with
    | [a], [e], _, _ => rfl
def spSteps (K : PySem.W.Frag) : Sp := fun vs H Q _ => ∃ (vp vs' : V) (D : Dat), vs = [vp, vs'] ∧ GridAt K H D.P vp ∧ SGridAt K H D.S vs' ∧ D.Ok ∧ ∀ H', Same H H' → Q .non H'
theorem ok_look_steps (T : TX w K mg) : Fn w K mg base 3 (He.ga K "look_steps") (spSteps K) := by
  refine fn_look_steps (k := 2) T (fun vs H Q E h => ?_) (fun cdv A outer s H vs Q E hr h => ?_)
  · obtain ⟨_, _, _, rfl, _⟩ := h
    rfl
  · obtain ⟨vp, vs', D, rfl, gp, gs, ok, kk⟩ := h
    refine ⟨_, pss_one (ps_for PassesOwn.never rfl (pi_enum rfl (b_enumerate T) (pa_cons (pv 1) pa_nil)) (pg_tup rfl (pgs_cons (pg_name (i := 2) sc_look_steps.nd rfl (.inl rfl)) (pgs_cons (pg_name (i := 3) sc_look_steps.nd rfl (.inl rfl)) pgs_nil)))
        (pss_cons (ps_set (i := 4) sc_look_steps.nd rfl (.inl rfl) (pe_ix ix_list (pv 0) (pe_op op_add (pv 2) pe_int) (fun _ _ => rfl)))
        (pss_one (ps_for PassesOwn.never rfl (pi_enum rfl (b_enumerate T) (pa_cons (pv 3) pa_nil)) (pg_tup rfl (pgs_cons (pg_name (i := 5) sc_look_steps.nd rfl (.inl rfl)) (pgs_cons (pg_tup rfl (pgs_cons (pg_name (i := 6) sc_look_steps.nd rfl (.inl rfl)) (pgs_cons (pg_name (i := 7) sc_look_steps.nd rfl (.inl rfl)) pgs_nil))) pgs_nil)))
          (pss_one (ps_if (PW.pt (pw_or (pt_not (pt_chain op_le op_lt pe_int (pv 6) (pe_callB call_len_seq rfl (b_len T) boot_len (pa_cons (pv 4) pa_nil)))) (pw_or (pt_not (pt_chain op_le op_lt pe_int (pv 7) (pe_callB call_len_seq rfl (b_len T) boot_len (pa_cons (pv 4) pa_nil)))) (pw_or1 (pt_not (pt_val (pe_callF (ok_less T) rfl hr rfl (g_less T) (pa_cons (pe_ix ix_list (pv 4) (pv 7) (fun _ _ => rfl)) (pa_cons (pe_ix ix_list (pv 4) (pv 6) (fun _ _ => rfl)) pa_nil))))))))) pss_never pss_nil)))))), ?_⟩
    obtain ⟨bp, up, rfl, hbp, ap⟩ := id gp
    obtain ⟨bs, us, rfl, hbs, as⟩ := id gs
    have lp := ap.len
    have ls := as.len
    have o4 := ok.sl
    refine ⟨_, rfl, bs, us, rfl, SqL.of hbs, ?_⟩
    refine for_it (walk_enum (K := K) (xs := us)) (fun i σ' H' => ∃ x2 x3 x4 x5 x6 x7, σ' = [some (.ref bp), some (.ref bs), x2, x3, x4, x5, x6, x7] ∧ Same H H') ⟨_, _, _, _, _, _, rfl, Same.refl _⟩ (fun i σ' H' _ ⟨_, _, _, _, _, _, _, q⟩ => SqL.of (q _ _ hbs)) (fun i xv σ' H1 H1' hi ⟨x2, x3, x4, x5, x6, x7, eσ, e1⟩ ⟨Tp, xi, y, exv, hTp, eH, exi, hyi⟩ => ?_) (fun σ' H1 ⟨x2, x3, x4, x5, x6, x7, eσ, e1⟩ => kk H1 e1)
    subst eσ exv eH
    obtain rfl : V.int ((i : Nat) : Int) = xi := Option.some.inj exi
    have nT := Same.new (o := .tup [V.int ((i : Nat) : Int), y]) hTp
    have e2 := e1.trans nT
    obtain ⟨row, hrow, b2, ws, rfl, hb2, hrw⟩ := (as.imp fun _ _ z => SRowAt.mono e2 z).get hyi
    obtain ⟨pr, hpr⟩ : ∃ pr, D.P[i + 1]? = some pr := ⟨_, List.getElem?_eq_getElem (by omega)⟩
    obtain ⟨u1, hu1, b3, w3, rfl, hb3, h3⟩ := (ap.imp fun _ _ z => RowAt.mono e2 z).getL hpr
    have l3 := h3.len
    refine ⟨Tp, _, rfl, SqT.of upd_same, rfl, _, _, rfl, _, _, rfl, rfl, ?_⟩
    refine ⟨_, rfl, _, rfl, _, _, rfl, rfl, bp, up, ((i + 1 : Nat) : Int), _, rfl, by simp, SqL.of (e2 _ _ hbp), atI_nat hu1, ?_⟩
    refine ⟨_, rfl, b2, ws, rfl, SqL.of hb2, ?_⟩
    refine for_it (walk_enum (K := K) (xs := ws)) (fun j σ' H' => ∃ x5 x6 x7, σ' = [some (.ref bp), some (.ref bs), some (.int ((i : Nat) : Int)), some (.ref b2), some (.ref b3), x5, x6, x7] ∧ Same (upd H1 Tp (.tup [V.int ((i : Nat) : Int), .ref b2])) H') ⟨_, _, _, rfl, Same.refl _⟩ (fun j σ' H' _ ⟨_, _, _, _, q⟩ => SqL.of (q _ _ hb2)) (fun j xv σ' H2 H2' hj ⟨x5, x6, x7, eσ, e3⟩ ⟨Tq, xj, y2, exv, hTq, eH, exj, hyj⟩ => ?_) (fun σ' H2 ⟨x5, x6, x7, eσ, e3⟩ => ⟨_, _, _, _, _, _, eσ, e2.trans e3⟩)
    subst eσ exv eH
    obtain rfl : V.int ((j : Nat) : Int) = xj := Option.some.inj exj
    have nU := Same.new (o := .tup [V.int ((j : Nat) : Int), y2]) hTq
    have e4 := e3.trans nU
    obtain ⟨⟨u, v⟩, hq, aq, rfl, haq⟩ := (hrw.imp fun _ _ z => SAt.mono e4 z).get hyj
    have hcs : cell D.S i j = some (u, v) := by unfold cell; rw [hrow]; exact hq
    obtain ⟨hlt, q0, hq0⟩ := ok.sin i j _ hcs
    obtain ⟨r, u', v', hi', lo, s', nd⟩ := ok.nd i j q0 hq0 hlt
    obtain ⟨rfl, rfl⟩ := Prod.mk.inj (Option.some.inj (hcs.symm.trans nd.st))
    obtain ⟨row1, k1, k2⟩ := cell_eq nd.ehi
    obtain ⟨row2, k3, k4⟩ := cell_eq nd.elo
    rw [hpr] at k1 k3
    cases k1
    cases k3
    have lu := (List.getElem?_eq_some_iff.mp k2).1
    have lv := (List.getElem?_eq_some_iff.mp k4).1
    obtain ⟨zh, hzh, azh⟩ := h3.getL k2
    obtain ⟨zl, hzl, azl⟩ := h3.getL k4
    have sh := (ok.pz _ _ _ nd.ehi).1
    have sl := (ok.pz _ _ _ nd.elo).1
    have hb5 := e4 _ _ hb3
    refine ⟨Tq, _, rfl, SqT.of upd_same, rfl, _, _, rfl, _, _, rfl, ⟨aq, _, rfl, haq, rfl, _, _, rfl, _, _, rfl, rfl, rfl, ?_⟩⟩
    refine ⟨_, rfl, _, _, rfl, rfl, _, rfl, itP (by omega) ⟨_, rfl, b3, w3, rfl, .inl (SqL.of hb5), _, _, rfl, rfl, _, rfl, ?_⟩⟩
    rw [decide_eq_true (show ((u : Nat) : Int) < ((w3.length : Nat) : Int) by omega)]
    refine iteF ⟨_, rfl, _, _, rfl, rfl, _, rfl, itP (by omega) ⟨_, rfl, b3, w3, rfl, .inl (SqL.of hb5), _, _, rfl, rfl, _, rfl, ?_⟩⟩
    rw [decide_eq_true (show ((v : Nat) : Int) < ((w3.length : Nat) : Int) by omega)]
    refine iteF ⟨_, rfl, _, rfl, b3, w3, _, _, rfl, rfl, SqL.of hb5, atI_nat hzl, _, rfl, _, rfl, b3, w3, _, _, rfl, rfl, SqL.of hb5, atI_nat hzh, _, _, lo, hi', rfl, azl.mono e4, azh.mono e4, sl.mono (by decide), sh.mono (by decide), _, rfl, ?_⟩
    rw [decide_eq_true nd.lt]
    exact iteF ⟨_, _, _, rfl, e4⟩
theorem Kp.trans {H H' H2 : Hp} (a : Kp H H') (b : Kp H' H2) : Kp H H2 := fun c o h q => b c o (a c o h q) q
theorem Kp.same {H H' : Hp} (a : Same H H') : Kp H H' := fun c o h _ => a c o h
theorem GridAt.kp {K : PySem.W.Frag} {H H' : Hp} (e : Kp H H') {G : List (List Rat)} {v : V} (h : GridAt K H G v) : GridAt K H' G v := by
  obtain ⟨b, us, r, h, a⟩ := h
  exact ⟨b, us, r, e _ _ h fun _ _ _ z => (nomatch z), a.imp fun _ _ z => z.kp e⟩
theorem SGridAt.kp {K : PySem.W.Frag} {H H' : Hp} (e : Kp H H') {G : List (List (Nat × Nat))} {v : V} (h : SGridAt K H G v) : SGridAt K H' G v := by
  obtain ⟨b, us, r, h, a⟩ := h
  exact ⟨b, us, r, e _ _ h fun _ _ _ z => (nomatch z), a.imp fun _ _ z => z.kp e⟩
theorem RowAt.wr {K : PySem.W.Frag} {H : Hp} {row : List Rat} {v : V} {D : Addr} {o : HO} {xs : List V} (h : RowAt K H row v) (ne : v ≠ .ref D) (hD : H D = some (.lst xs)) : RowAt K (upd H D o) row v := by
  obtain ⟨b, us, r, h, a⟩ := h
  refine ⟨b, us, r, ?_, a.imp fun _ _ z => z.ts (ts_lst hD)⟩
  rw [upd_ne (fun z => ne (by rw [r, z]))]
  exact h
theorem SRowAt.wr {K : PySem.W.Frag} {H : Hp} {row : List (Nat × Nat)} {v : V} {D : Addr} {o : HO} {xs : List V} (h : SRowAt K H row v) (ne : v ≠ .ref D) (hD : H D = some (.lst xs)) : SRowAt K (upd H D o) row v := by
  obtain ⟨b, us, r, h, a⟩ := h
  refine ⟨b, us, r, ?_, a.imp fun s v z => ?_⟩
  · rw [upd_ne (fun z => ne (by rw [r, z]))]
    exact h
  · obtain ⟨c, e, z⟩ := z
    exact ⟨c, e, ts_sqt (ts_lst hD) z⟩
/-- a copy of a grid, row by row -/
theorem copy_grid {K : PySem.W.Frag} {H : Hp} {G : List (List Rat)} {b : Addr} {us : List V} {D : Addr} {σ : L2.St} {Qd : Hp → Prop} (hb : H b = some (.lst us)) (ha : All2 (RowAt K H) G us) (hz : us.length ≤ 1000) (hD : H D = none) (h6 : σ.length = 7)
    (fin : ∀ H', Same H H' → GridAt K H' G (.ref D) → Qd H') :
    ∃ W : Nat → Nat → Hp → Prop, (∃ m, W 0 m (upd H D (.lst []))) ∧ ∀ i m H, W i m H →
      ((Itl K b).stop i H ∧ Qd H) ∨ ((Itl K b).go i H ∧ ∃ Nx : Hp → Prop, (∀ H', Nx H' → ∃ m', m' < m ∧ W (i + 1) m' H') ∧ ∀ x H', (Itl K b).yld i H x H' → gName 4 x (wipe σ [4]) H' fun σ2 H2 => wipe σ2 [4] = wipe σ [4] ∧ tYes σ2 H2 fun b H3 =>
        if b = true then tCB (fun xs H Q => ∃ p ys, xs = [.ref p] ∧ (SqL K H p ys ∨ SqT K H p ys) ∧ ∀ l, H l = none → Q (.ref l) (upd H l (.lst ys))) (tCons (tVar 4) tNil) σ2 H3 fun y H4 => ∃ acc, H4 D = some (.lst acc) ∧ acc.length < sizeLine ∧ Nx (upd H4 D (.lst (acc ++ [y]))) else Nx H3) := by
  refine lc_list (xs := us) (fun i H' => Same H H' ∧ ∃ vs, H' D = some (.lst vs) ∧ All2 (fun row v => RowAt K H' row v ∧ v ≠ .ref D) (G.take i) vs) ⟨Same.new hD, [], upd_same, .nil⟩ (fun i H' _ q => SqL.of (q.1 _ _ hb)) (fun i y H1 hy ⟨e1, vs, hvs, hrow⟩ => ?_) (fun H1 ⟨e1, vs, hvs, hrow⟩ => ?_)
  · obtain ⟨row, hr, b2, ws, ey, hb2, aw⟩ := ha.get hy
    subst ey
    have lv := hrow.len
    rw [List.length_take] at lv
    have iu := (List.getElem?_eq_some_iff.mp hy).1
    have i4 : (wipe σ [4]).length = 7 := by rw [wipe_length]; exact h6
    refine ⟨?_, ?_⟩
    · show ((wipe σ [4]).set 4 (some (V.ref b2))).set 4 none = wipe σ [4]
      rw [List.set_set]
      show (σ.set 4 none).set 4 none = σ.set 4 none
      rw [List.set_set]
    refine ⟨.ref b2, ?_, b2, ws, rfl, .inl (SqL.of (e1 _ _ hb2)), fun l hl => ⟨vs, (Same.new hl) _ _ hvs, ?_, ?_⟩⟩
    · show ((wipe σ [4]).set 4 (some (V.ref b2)))[4]? = some (some (V.ref b2))
      rw [List.getElem?_set_self (by omega)]
    · have : 2000 < sizeLine := by decide
      omega
    · have hDl : (upd H1 l (.lst ws)) D = some (.lst vs) := (Same.new hl) _ _ hvs
      have ne : D ≠ l := ne_of_none hvs hl
      refine ⟨same_mut (e1.trans (Same.new hl)) hD, _, upd_same, ?_⟩
      rw [List.take_add_one, hr]
      refine (hrow.imp fun _ _ z => ⟨(z.1.mono (Same.new hl)).wr z.2 hDl, z.2⟩).app (.cons ⟨RowAt.wr ⟨l, ws, rfl, upd_same, aw.imp fun _ _ z => (z.mono e1).mono (Same.new hl)⟩ (fun z => ne (by cases z; rfl)) hDl, fun z => ne (by cases z; rfl)⟩ .nil)
  · have : G.take us.length = G := by rw [← ha.len, List.take_length]
    rw [this] at hrow
    exact fin H1 e1 ⟨D, vs, rfl, hvs, hrow.imp fun _ _ z => z.1⟩
def spLInit (K : PySem.W.Frag) : Sp := fun vs H Q _ => ∃ (x dx : Addr) (vp vr vs' : V) (D : Dat) (H0 : Hp), vs = [.ref x, vp, vr, vs'] ∧ H0 x = none ∧ Same H0 H ∧ H x = some (.ins (He.ga K "Lattice") dx []) ∧ GridAt K H0 D.P vp ∧ GridAt K H0 D.R vr ∧ SGridAt K H0 D.S vs' ∧ D.Ok ∧
  ∀ H', Same H0 H' → LatAt K H' D (.ref x) → Q .non H'
theorem ok_L_init (T : TX w K mg) : Fn w K mg base 4 (He.ma K (He.ga K "Lattice") "__init__") (spLInit K) := by
  refine fn_L_init (k := 3) T (fun vs H Q E h => ?_) (fun cdv A outer s H vs Q E hr h => ?_)
  · obtain ⟨_, _, _, _, _, _, _, rfl, _⟩ := h
    rfl
  · obtain ⟨x, dx, vp, vr, vs', D, H0, rfl, fx, e0, hx, gp, gr, gs, ok, kk⟩ := h
    refine ⟨_, pss_cons (ps_expr (pe_callF (ok_look_shape T) rfl hr rfl (g_look_shape T) (pa_cons (pv 1) (pa_cons (pv 2) (pa_cons (pv 3) pa_nil)))))
      (pss_cons (ps_expr (pe_callFK (ok_look_above T) rfl hr rfl (g_look_above T) (pa_cons (pv 1) pa_nil) (pk_cons pe_bl pk_nil)))
      (pss_cons (ps_expr (pe_callFK (ok_look_above T) rfl hr rfl (g_look_above T) (pa_cons (pv 2) pa_nil) (pk_cons pe_bl pk_nil)))
      (pss_cons (ps_expr (pe_callF (ok_look_steps T) rfl hr rfl (g_look_steps T) (pa_cons (pv 1) (pa_cons (pv 3) pa_nil))))
      (pss_cons (ps_fld (pv 0) (pe_lc (own := [("row", 4)]) (g := gName 4) (tt := tYes) (te := tCB (fun xs H Q => ∃ p ys, xs = [.ref p] ∧ (SqL K H p ys ∨ SqT K H p ys) ∧ ∀ l, H l = none → Q (.ref l) (upd H l (.lst ys))) (tCons (tVar 4) tNil)) rfl sc_L_init.nd (pi_list (pv 1)) (blkOk_by (own := [("row", 4)]) (N := ["self", "prices", "rates", "steps", "row", "up", "down"]) (sc := defScope s_L_init) (by decide +kernel))
        (fun _ _ _ _ _ => pg_name (i := 4) sc_L_init.nd rfl (.inl rfl)) (fun _ _ _ _ _ => pts_nil) (fun _ _ _ _ _ => pe_callTy call_list_of rfl (b_list T) (by decide +kernel) (pa_cons (pv 4) pa_nil))) rfl)
      (pss_cons (ps_fld (pv 0) (pe_lc (own := [("row", 4)]) (g := gName 4) (tt := tYes) (te := tCB (fun xs H Q => ∃ p ys, xs = [.ref p] ∧ (SqL K H p ys ∨ SqT K H p ys) ∧ ∀ l, H l = none → Q (.ref l) (upd H l (.lst ys))) (tCons (tVar 4) tNil)) rfl sc_L_init.nd (pi_list (pv 2)) (blkOk_by (own := [("row", 4)]) (N := ["self", "prices", "rates", "steps", "row", "up", "down"]) (sc := defScope s_L_init) (by decide +kernel))
        (fun _ _ _ _ _ => pg_name (i := 4) sc_L_init.nd rfl (.inl rfl)) (fun _ _ _ _ _ => pts_nil) (fun _ _ _ _ _ => pe_callTy call_list_of rfl (b_list T) (by decide +kernel) (pa_cons (pv 4) pa_nil))) rfl)
      (pss_one (ps_fld (pv 0) (pe_lc (own := [("row", 4)]) (g := gName 4) (tt := tYes) (te := tLc (iList K (tVar 4)) (gTup K 2 (gCons (gName 5) (gCons (gName 6) gNil))) tYes (tTup (tCons (tVar 5) (tCons (tVar 6) tNil))) [5, 6]) rfl sc_L_init.nd (pi_list (pv 3)) (blkOk_by (own := [("row", 4)]) (N := ["self", "prices", "rates", "steps", "row", "up", "down"]) (sc := defScope s_L_init) (by decide +kernel))
        (fun _ _ _ _ _ => pg_name (i := 4) sc_L_init.nd rfl (.inl rfl)) (fun _ _ _ _ _ => pts_nil) (fun _ _ _ _ _ => pe_lc (own := [("up", 5), ("down", 6)]) (g := gTup K 2 (gCons (gName 5) (gCons (gName 6) gNil))) (tt := tYes) (te := tTup (tCons (tVar 5) (tCons (tVar 6) tNil))) rfl sc_L_init.nd (pi_list (pv 4)) (blkOk_by (own := [("up", 5), ("down", 6)]) (N := ["self", "prices", "rates", "steps", "row", "up", "down"]) (sc := { kind := .function, names := [(".0", .local), ("row", .local)], isGenerator := false, isCoroutine := false }) (by decide +kernel))
          (fun _ _ _ _ _ => pg_tup rfl (pgs_cons (pg_name (i := 5) sc_L_init.nd rfl (.inl rfl)) (pgs_cons (pg_name (i := 6) sc_L_init.nd rfl (.inl rfl)) pgs_nil))) (fun _ _ _ _ _ => pts_nil) (fun _ _ _ _ _ => pe_tup (pa_cons (pv 5) (pa_cons (pv 6) pa_nil))))) rfl))))))), ?_⟩
    have o1 := ok.one
    have o2 := ok.most
    have o3 := ok.rl
    have o4 := ok.sl
    have posP : ∀ row ∈ D.P, ∀ q ∈ row, 0 < q := fun row hr q hq => by
      obtain ⟨d, hd⟩ := List.mem_iff_getElem?.mp hr
      obtain ⟨k, hk⟩ := List.mem_iff_getElem?.mp hq
      exact (ok.pz d k q (by unfold cell; rw [hd]; exact hk)).2
    have posR : ∀ row ∈ D.R, ∀ q ∈ row, 0 < q := fun row hr q hq => by
      obtain ⟨d, hd⟩ := List.mem_iff_getElem?.mp hr
      obtain ⟨k, hk⟩ := List.mem_iff_getElem?.mp hq
      have hc : cell D.R d k = some q := by unfold cell; rw [hd]; exact hk
      obtain ⟨h1, q0, h2⟩ := ok.rin d k q hc
      obtain ⟨r, u, v, hi, lo, s', nd⟩ := ok.nd d k q0 h2 h1
      rw [Option.some.inj (hc.symm.trans nd.rt)]
      exact nd.rp
    obtain ⟨bp, up, rfl, hbp, ap⟩ := id gp
    obtain ⟨br, ur, rfl, hbr, ar⟩ := id gr
    obtain ⟨bs, us, rfl, hbs, as⟩ := id gs
    have lp := ap.len
    have lr := ar.len
    have ls := as.len
    refine ⟨_, rfl, _, rfl, _, rfl, _, _, _, D, rfl, gp.mono e0, gr.mono e0, gs.mono e0, ok, fun H1 e1 => ?_⟩
    have E1 := e0.trans e1
    refine ⟨_, rfl, rfl, rfl, _, D.P, false, rfl, gp.mono E1, posP, fun H2 e2 => ?_⟩
    have E2 := E1.trans e2
    refine ⟨_, rfl, rfl, rfl, _, D.R, true, rfl, gr.mono E2, posR, fun H3 e3 => ?_⟩
    have E3 := E2.trans e3
    refine ⟨_, rfl, _, rfl, _, _, D, rfl, gp.mono E3, gs.mono E3, ok, fun H4 e4 => ?_⟩
    have E4 := E3.trans e4
    have X4 : H4 x = some (.ins (He.ga K "Lattice") dx []) := e4 _ _ (e3 _ _ (e2 _ _ (e1 _ _ hx)))
    -- prices
    refine ⟨_, rfl, bp, rfl, ⟨_, SqL.of (E4 _ _ hbp)⟩, fun D1 hD1 => ?_⟩
    refine copy_grid (E4 _ _ hbp) (ap.imp fun _ _ z => z.mono E4) (by omega) hD1 rfl fun H5 e5 g5 => ?_
    refine ⟨_, rfl, x, _, dx, _, rfl, e5 _ _ X4, c_Lattice T, n_prices T, by decide, ?_⟩
    have E6 : Same H0 (upd H5 x (.ins (He.ga K "Lattice") dx (putF "prices" (.ref D1) []))) := same_mut (E4.trans e5) fx
    have G6 : GridAt K (upd H5 x (.ins (He.ga K "Lattice") dx (putF "prices" (.ref D1) []))) D.P (.ref D1) := g5.kp (Kp.wr (e5 _ _ X4) (by decide))
    have X6 : (upd H5 x (.ins (He.ga K "Lattice") dx (putF "prices" (.ref D1) []))) x = some (.ins (He.ga K "Lattice") dx [("prices", .ref D1)]) := upd_same
    generalize upd H5 x (.ins (He.ga K "Lattice") dx (putF "prices" (.ref D1) [])) = H6 at E6 G6 X6
    -- rates
    refine ⟨_, rfl, br, rfl, ⟨_, SqL.of (E6 _ _ hbr)⟩, fun D2 hD2 => ?_⟩
    refine copy_grid (E6 _ _ hbr) (ar.imp fun _ _ z => z.mono E6) (by omega) hD2 rfl fun H7 e7 g7 => ?_
    refine ⟨_, rfl, x, _, dx, _, rfl, e7 _ _ X6, c_Lattice T, n_rates T, by simp, ?_⟩
    have E8 : Same H0 (upd H7 x (.ins (He.ga K "Lattice") dx (putF "rates" (.ref D2) [("prices", .ref D1)]))) := same_mut (E6.trans e7) fx
    have G8 : GridAt K (upd H7 x (.ins (He.ga K "Lattice") dx (putF "rates" (.ref D2) [("prices", .ref D1)]))) D.R (.ref D2) := g7.kp (Kp.wr (e7 _ _ X6) (by simp))
    have G8' : GridAt K (upd H7 x (.ins (He.ga K "Lattice") dx (putF "rates" (.ref D2) [("prices", .ref D1)]))) D.P (.ref D1) := (G6.mono e7).kp (Kp.wr (e7 _ _ X6) (by simp))
    have X8 : (upd H7 x (.ins (He.ga K "Lattice") dx (putF "rates" (.ref D2) [("prices", .ref D1)]))) x = some (.ins (He.ga K "Lattice") dx [("prices", .ref D1), ("rates", .ref D2)]) := upd_same
    generalize upd H7 x (.ins (He.ga K "Lattice") dx (putF "rates" (.ref D2) [("prices", .ref D1)])) = H8 at E8 G8 G8' X8
    -- steps
    refine ⟨_, rfl, bs, rfl, ⟨_, SqL.of (E8 _ _ hbs)⟩, fun D3 hD3 => ?_⟩
    have sl : 2000 < sizeLine := by decide
    refine lc_list (K := K) (xs := us) (fun i H' => Same H8 H' ∧ ∃ vs, H' D3 = some (.lst vs) ∧ All2 (fun row v => SRowAt K H' row v ∧ v ≠ .ref D3) (D.S.take i) vs) ⟨Same.new hD3, [], upd_same, .nil⟩ (fun i H' _ q => SqL.of (q.1 _ _ (E8 _ _ hbs))) (fun i y HA hy ⟨eA, vs, hvs, hrow⟩ => ?_) (fun HA ⟨eA, vs, hvs, hrow⟩ => ?_)
    · have EA := E8.trans eA
      obtain ⟨row, hr, b2, ws, ey, hb2, aw⟩ := (as.imp fun _ _ z => SRowAt.mono EA z).get hy
      subst ey
      have lv := hrow.len
      rw [List.length_take] at lv
      have iu := (List.getElem?_eq_some_iff.mp hy).1
      have law := aw.len
      have hrl : row.length ≤ 8 := by
        obtain ⟨p, hp⟩ : ∃ p, D.P[i]? = some p := ⟨_, List.getElem?_eq_getElem (by omega)⟩
        obtain ⟨rr, hrr⟩ : ∃ rr, D.R[i]? = some rr := ⟨_, List.getElem?_eq_getElem (by omega)⟩
        have := (ok_lens ok hp hrr hr).2
        have := (ok.wide i p hp).2
        omega
      refine ⟨rfl, ⟨_, rfl, b2, rfl, ⟨_, SqL.of hb2⟩, fun Dr hDr => ?_⟩⟩
      refine lc_list (K := K) (xs := ws) (fun j H' => Same HA H' ∧ ∃ zs, H' Dr = some (.lst zs) ∧ All2 (SAt K H') (row.take j) zs) ⟨Same.new hDr, [], upd_same, .nil⟩ (fun j H' _ q => SqL.of (q.1 _ _ hb2)) (fun j z HB hz ⟨eB, zs, hzs, hzr⟩ => ?_) (fun HB ⟨eB, zs, hzs, hzr⟩ => ?_)
      · obtain ⟨⟨u, v⟩, huv, aq, ez, haq⟩ := (aw.imp fun _ _ z => SAt.mono eB z).get hz
        subst ez
        have lz := hzr.len
        rw [List.length_take] at lz
        refine ⟨aq, _, rfl, haq, rfl, _, _, rfl, _, _, rfl, rfl, rfl, ?_⟩
        refine ⟨_, rfl, _, rfl, by show 2 ≤ sizeLine; decide, fun p hp => ⟨zs, (Same.new hp) _ _ hzs, by omega, same_mut (eB.trans (Same.new hp)) hDr, _, upd_same, ?_⟩⟩
        have hDl : (upd HB p (.tup [V.int ((u : Nat) : Int), V.int ((v : Nat) : Int)])) Dr = some (.lst zs) := (Same.new hp) _ _ hzs
        have tt : ∀ {s : Nat × Nat} {v' : V}, SAt K (upd HB p (.tup [V.int ((u : Nat) : Int), V.int ((v : Nat) : Int)])) s v' → SAt K (upd (upd HB p (.tup [V.int ((u : Nat) : Int), V.int ((v : Nat) : Int)])) Dr (.lst (zs ++ [V.ref p]))) s v' := fun ⟨c, e, h⟩ => ⟨c, e, ts_sqt (ts_lst hDl) h⟩
        rw [List.take_add_one, huv]
        exact (hzr.imp fun _ _ z => tt (z.mono (Same.new hp))).app (.cons (tt ⟨p, rfl, SqT.of upd_same⟩) .nil)
      · have et : row.take ws.length = row := by rw [← law, List.take_length]
        rw [et] at hzr
        have ne : D3 ≠ Dr := ne_of_none hvs hDr
        refine ⟨vs, eB _ _ hvs, by omega, same_mut (eA.trans eB) hD3, _, upd_same, ?_⟩
        rw [List.take_add_one, hr]
        refine (hrow.imp fun _ _ z => ⟨(z.1.mono eB).wr z.2 (eB _ _ hvs), z.2⟩).app (.cons ⟨SRowAt.wr ⟨Dr, zs, rfl, hzs, hzr⟩ (fun z => ne (by cases z; rfl)) (eB _ _ hvs), fun z => ne (by cases z; rfl)⟩ .nil)
    · have et : D.S.take us.length = D.S := by rw [← ls, List.take_length]
      rw [et] at hrow
      refine ⟨_, rfl, x, _, dx, _, rfl, eA _ _ X8, c_Lattice T, n_steps T, by simp, ?_⟩
      have KW := Kp.wr (o := .ins (He.ga K "Lattice") dx (putF "steps" (.ref D3) [("prices", .ref D1), ("rates", .ref D2)])) (eA _ _ X8) (by simp)
      have g3 : SGridAt K HA D.S (.ref D3) := ⟨D3, vs, rfl, hvs, hrow.imp fun _ _ z => z.1⟩
      exact kk _ (same_mut (E8.trans eA) fx) ⟨x, dx, .ref D1, .ref D2, .ref D3, rfl, upd_same, (G8'.mono eA).kp KW, (G8.mono eA).kp KW, g3.kp KW⟩
end
end SL
namespace SL
open PySem PySem.Spec PyProof.Rows L2 TL
section
variable {w : World} {K : PySem.W.Frag} {mg : Str → Option Value} {base : Heap}
def spWorth (K : PySem.W.Frag) : Sp := fun vs H Q _ => ∃ wv D R n0 P, vs = [wv, .int 0] ∧ WoAt K H D R 0 wv ∧ RowsOk D n0 P R ∧ ∀ v, Amt K H v (Wr D (0, 0, n0)) → Q v H
theorem ok_W_worth (T : TX w K mg) : Fn w K mg base 2 (He.ma K (He.ga K "Worth") "worth") (fun vs H Q E => spWorth K (vs ++ [.int 0]) H Q E) := by
  obtain ⟨fd, F⟩ := f_W_worth T
  have G : FnOk PG w K mg base CX0 2 (He.fAd K ("Worth", some "worth")) fd ["self", "number"] (spWorth K) := by
    refine fnOk (k := 1) F sc_W_worth (fun vs H Q E h => ?_) (fun cdv A outer s H vs Q E hr h => ?_)
    · obtain ⟨_, _, _, _, _, rfl, _⟩ := h
      rfl
    · obtain ⟨wv, D, R, n0, P, rfl, ⟨a, dx, mv, ps, rfl, h0, ma, ⟨kvs, hkv, hsum⟩⟩, ro, kk⟩ := h
      have hu := hr.units
      have hu1 := Nat.lt_of_le_of_lt (Nat.add_le_add_left (by decide : 1 ≤ 64) _) hu
      refine ⟨_, pss_cons (ps_expr (pe_methF (pe_fld (pv 0) rfl) (c_Machine T) (m_M_stand T) (ok_M_stand T) rfl hr (pa_cons (pv 1) pa_nil)))
        (pss_one (ps_ret (pe_dget hu1 (pe_fld (pv 0) rfl) (pv 1) (fun _ _ => rfl)))), ?_⟩
      obtain ⟨ma0, dm, lv, nv, pr, pk, pp, rfl, hm0, mf⟩ := id ma
      obtain ⟨v, hv, av⟩ := hsum 0 _ (Nat.le_refl _) ro.first
      refine ⟨_, rfl, a, _, dx, _, _, rfl, h0, c_Worth T, n_mill T, rfl, ma0, dm, _, rfl, hm0, rfl, _, rfl, _, D, R, 0, _, rfl, ma, ro.first, fun ar har => ?_⟩
      exact ⟨_, rfl, a, _, dx, _, _, rfl, h0, c_Worth T, n_sums T, rfl, _, rfl, ps, v, rfl, .inl ⟨kvs, Sum.inl 0, .inl hkv, rfl, hv.symm⟩, kk v av⟩
  obtain ⟨ds, h1, h2⟩ := FunD.binds1 F 1 0 (ps := ["self", "number"]) (fun z => nomatch z) rfl (fun Tt kV doc pm an cdv ct us its l1 l2 => by
    match us, its, l1, l2 with
    | [a], [b], _, _ => exact ⟨_, rfl, rfl⟩)
  exact fnD G F.kp h2 h1
def spPlan (K : PySem.W.Frag) : Sp := fun vs H Q _ => ∃ wv D R n0 P i r q av ans o nm y m, vs = [wv, .int ((i : Nat) : Int), av] ∧ WoAt K H D R 0 wv ∧ D.Ok ∧ RowsOk D n0 P R ∧ R[i]? = some r ∧ cell D.P r.1 r.2.1 = some q ∧ AnsAt K H ans av ∧ (tree r.2.2 r.1 q).at ans = some (.ask o nm y m) ∧
  ∀ H', Same H H' → Q (.bl (chosen o (y.val (D.lat.F (D.P.length - 1 - r.1) r.1 r.2.1)) (m.val (D.lat.F (D.P.length - 1 - r.1) r.1 r.2.1)))) H'
theorem ok_W_plan_body (T : TX w K mg) {fd : FuncData} (F : FunD K "plan" "Worth.plan" (defArgs s_W_plan) (defBody s_W_plan) (defScope s_W_plan) ((d_W_plan).dvs K) ((d_W_plan).kws K) (He.fAd K ("Worth", some "plan")) fd) :
    FnOk PG w K mg base CX0 83 (He.fAd K ("Worth", some "plan")) fd ["self", "number", "answers"] (spPlan K) := by
  refine fnOk (k := 82) F sc_W_plan (fun vs H Q E h => ?_) (fun cdv A outer s H vs Q E hr h => ?_)
  · obtain ⟨_, _, _, _, _, _, _, _, _, _, _, _, _, _, rfl, _⟩ := h
    rfl
  · obtain ⟨wv, D, R, n0, P, i, r, q, av, ans, o, nm, y, m, rfl, wa, ok, ro, hi, hq, han, hat, kk⟩ := h
    have hu := hr.units
    refine ⟨_, pss_cons (ps_set (i := 3) sc_W_plan.nd rfl (.inl rfl) (pe_methFK (pe_fld (pv 0) rfl) (c_Machine T) (m_M_at T) (ok_M_at T) rfl hr (pa_cons (pv 1) pa_nil) (pk_cons (pv 2) pk_nil)))
      (pss_cons (ps_if (pt_cmpR op_ne (pe_ix ix_tup (pv 3) pe_int (fun _ _ => rfl)) pe_str (nomark _)) (pss_one (ps_ret pe_non)) pss_nil)
      (pss_cons (ps_set (i := 4) sc_W_plan.nd rfl (.inl rfl) (pe_methF (pv 0) (c_Worth T) (m_W_reckoned T) (ok_W_reckoned T 32) rfl hr (pa_cons (pv 1) (pa_cons (pe_op op_catA (pe_callTy call_tupleT rfl (b_tuple T) (by decide +kernel) (pa_cons (pv 2) pa_nil)) (pe_tup (pa_cons pe_bl pa_nil))) pa_nil))))
      (pss_one (ps_ret (pe_callF (ok_chosen T) rfl hr rfl (g_chosen T) (pa_cons (pe_ix ix_tup (pv 3) pe_int (fun _ _ => rfl)) (pa_cons (pv 4) (pa_cons
        (pe_methF (pv 0) (c_Worth T) (m_W_reckoned T) (ok_W_reckoned T 32) rfl hr (pa_cons (pv 1) (pa_cons (pe_op op_catA (pe_callTy call_tupleT rfl (b_tuple T) (by decide +kernel) (pa_cons (pv 2) pa_nil)) (pe_tup (pa_cons pe_bl pa_nil))) pa_nil))) pa_nil)))))))), ?_⟩
    obtain ⟨a, dx, mv, ps, rfl, h0, ma, hs⟩ := id wa
    obtain ⟨ma0, dm, lv, nv, pr, pk, pp, rfl, hm0, mf⟩ := id ma
    obtain ⟨ca, rfl, hca, hal⟩ := id han
    have rk := (ro.ok r (List.mem_of_getElem? hi)).rt
    have dt := rk.date
    have mo := ok.most
    have fsz := F_sz ok (D.P.length - 1 - r.1) r.1 r.2.1 r.2.2 q rk (by omega) hq
    have b3 := bnd_le (m := D.P.length - 1 - r.1) (by omega)
    have hy := at_snoc true hat
    have hm' := at_snoc false hat
    simp only [if_true, Bool.false_eq_true, if_false] at hy hm'
    have zy := val_sz (at_all fsz hy)
    have zm := val_sz (at_all fsz hm')
    have td := (tree_dep (d := (r.1 : Int)) (p := q) r.2.2).2
    have tl := dep_le_lvs (tree r.2.2 r.1 q)
    have nl := rk.lvs
    have al := at_len hat
    simp only [Tree.dep] at al
    refine ⟨_, rfl, a, _, dx, _, _, rfl, h0, c_Worth T, n_mill T, rfl, ma0, dm, _, rfl, hm0, rfl, _, rfl, _, rfl, rfl, rfl, _, D, R, n0, P, i, r, q, _, ans, rfl, ma, ok, ro, hi, hq, han, fun z1 H1 e1 r1 => ?_⟩
    rw [at_walk hat] at r1
    obtain ⟨c1, rfl, hc1⟩ := r1
    refine ⟨_, rfl, c1, _, _, _, rfl, rfl, hc1, rfl, rfl, _, rfl, ?_⟩
    refine iteF ?_
    refine ⟨_, rfl, a, dx, _, rfl, e1 _ _ h0, rfl, _, rfl, _, rfl, ca, _, rfl, Same.sqt e1 hca, by show 1 ≤ sizeLine; decide, fun p1 hp1 => ?_⟩
    have n1 := Same.new (o := .tup [V.bl true]) hp1
    refine cat_ans ((han.mono e1).mono n1) upd_same (by omega) fun va H2 e2 ra => ?_
    have e12 := (e1.trans n1).trans e2
    refine ⟨_, D, R, n0, P, i, r, q, va, ans ++ [true], y, rfl, (wa.mono e12).weak (Nat.zero_le _), ok, ro, hi, hq, ra, hy, by omega, by simp only [List.length_append, List.length_singleton]; omega, fun zy1 H3 e3 hzy => ?_⟩
    have e13 := e12.trans e3
    have hc3 := Same.sqt ((n1.trans e2).trans e3) hc1
    refine ⟨_, rfl, c1, _, _, _, rfl, rfl, hc3, rfl, _, rfl, ?_⟩
    refine ⟨_, rfl, a, dx, _, rfl, e13 _ _ h0, rfl, _, rfl, _, rfl, ca, _, rfl, Same.sqt e13 hca, by show 1 ≤ sizeLine; decide, fun p2 hp2 => ?_⟩
    have n2 := Same.new (o := .tup [V.bl false]) hp2
    refine cat_ans ((han.mono e13).mono n2) upd_same (by omega) fun vb H4 e4 rb => ?_
    have e14 := (e13.trans n2).trans e4
    refine ⟨_, D, R, n0, P, i, r, q, vb, ans ++ [false], m, rfl, (wa.mono e14).weak (Nat.zero_le _), ok, ro, hi, hq, rb, hm', by omega, by simp only [List.length_append, List.length_singleton]; omega, fun zm1 H5 e5 hzm => ?_⟩
    have e35 := (n2.trans e4).trans e5
    exact ⟨o, _, _, _, _, rfl, hzy.mono e35, hzm, zy.mono (by omega), zm.mono (by omega), kk _ (e13.trans e35)⟩
end
end SL
namespace SL
open PySem PySem.Spec PyProof.Rows L2 TL
section
variable {w : World} {K : PySem.W.Frag} {mg : Str → Option Value} {base : Heap}
theorem nil_at (T : TX w K mg) (H : Hp) : AnsAt K H [] (.ref (kwdAt ("Worth", some "plan") "answers" K)) := by
  have h := (exb_parts T).2.2.2.2.2.2.2
  refine ⟨_, rfl, ?_, by decide⟩
  unfold nilB at h
  split at h
  · rename_i c od its n sl e
    simp only [Bool.and_eq_true, decide_eq_true_eq, Array.isEmpty_iff] at h
    obtain ⟨hc, hi⟩ := h
    subst hc hi
    exact .inr ⟨_, #[], n, e, rfl, rfl, by show 0 ≤ sizeLine; decide, .nil⟩
  · cases h
theorem ok_W_planD (T : TX w K mg) : Fn w K mg base 83 (He.ma K (He.ga K "Worth") "plan") (fun vs H Q E => spPlan K (vs ++ [.int 0, .ref (kwdAt ("Worth", some "plan") "answers" K)]) H Q E) := by
  obtain ⟨fd, F⟩ := f_W_plan T
  have G := ok_W_plan_body (base := base) T F
  obtain ⟨ds, h1, h2⟩ := FunD.binds F 1 0 (ps := ["self", "number", "answers"]) (fun z => nomatch z) rfl (fun Tt D doc pm an cdv ct us its ks l1 l2 l3 => by
    match us, its, ks, l1, l2, l3 with
    | [a], [b], [c], _, _, _ => exact ⟨_, rfl, _, _, _, _, _, _, rfl, rfl, rfl⟩) (fun z => nomatch z)
  exact fnD G F.kp h2 h1
theorem ok_W_planK (T : TX w K mg) : FnK w K mg base 83 (He.ma K (He.ga K "Worth") "plan") 2 ["answers"] (spPlan K) := by
  obtain ⟨fd, F⟩ := f_W_plan T
  have G := ok_W_plan_body (base := base) T F
  obtain ⟨its, mv, hb⟩ := FunD.kbinds F 2 ["answers"] [] (ps := ["self", "number", "answers"]) (fun us its mv ws => us ++ ws) (fun z => nomatch z) (fun z => nomatch z) (fun q h => (nomatch h)) (fun r _ _ z => r.append z) (fun Tt D doc pm an cdv ct us its mv ws l1 l2 l3 l4 => by
    match us, its, mv, ws, l1, l2, l3, l4 with
    | [a, b], [c], [], [d], _, _, _, _ => exact ⟨_, rfl, rfl⟩)
  exact fnK G F.kp hb.to
/-- no right of the name is used anywhere -/
def NoUse (D : Dat) (R : List Row) (nm : Str) : Prop := ∀ (i : Nat) (r : Row) (q : Rat) (ans : List Bool) (o : Bool) (n : Str) (y m : Tree), R[i]? = some r → cell D.P r.1 r.2.1 = some q → (tree r.2.2 r.1 q).at ans = some (.ask o n y m) → n = nm →
  chosen o (y.val (D.lat.F (D.P.length - 1 - r.1) r.1 r.2.1)) (m.val (D.lat.F (D.P.length - 1 - r.1) r.1 r.2.1)) = false
def spRegion (K : PySem.W.Frag) : Sp := fun vs H Q _ => ∃ wv D R n0 P nm, vs = [wv, .str nm] ∧ WoAt K H D R 0 wv ∧ D.Ok ∧ RowsOk D n0 P R ∧ NoUse D R nm ∧ ∀ p H', Same H H' → H' p = some (.lst []) → Q (.ref p) H'
theorem ok_W_region (T : TX w K mg) : Fn w K mg base 84 (He.ma K (He.ga K "Worth") "region") (spRegion K) := by
  refine fn_W_region (k := 83) T (fun vs H Q E h => ?_) (fun cdv A outer s H vs Q E hr h => ?_)
  · obtain ⟨_, _, _, _, _, _, rfl, _⟩ := h
    rfl
  · obtain ⟨wv, D, R, n0, P, nm, rfl, wa, ok, ro, nou, kk⟩ := h
    have hu := hr.units
    refine ⟨_, pss_cons (ps_set (i := 2) sc_W_region.nd rfl (.inl rfl) (pe_lst pa_nil))
      (pss_cons (ps_for PassesOwn.never rfl (pi_range1 rfl (b_range T) (pa_cons (pe_callB (call_lenO rfl (c_Machine T) (m_M_len T) (ok_M_len T) (hr.mono (by decide))) rfl (b_len T) boot_len (pa_cons (pe_fld (pv 0) rfl) pa_nil)) pa_nil)) (pg_name (i := 3) sc_W_region.nd rfl (.inl rfl))
        (pss_cons (ps_set (i := 4) sc_W_region.nd rfl (.inl rfl) (pe_lst (pa_cons (pe_tup pa_nil) pa_nil)))
        (pss_one (ps_while PassesOwn.never (pt_cmpR (op_neD hu) (pv 4) (pe_lst pa_nil) (nomark _))
          (pss_cons (ps_set (i := 5) sc_W_region.nd rfl (.inl rfl) (pe_bm0 PySem.F.plainAttrs_list PySem.F.slot_list_pop PySem.F.type_list_pop mt_pop (pv 4)))
          (pss_cons (ps_set (i := 6) sc_W_region.nd rfl (.inl rfl) (pe_methFK (pe_fld (pv 0) rfl) (c_Machine T) (m_M_at T) (ok_M_at T) rfl hr (pa_cons (pv 3) pa_nil) (pk_cons (pv 5) pk_nil)))
          (pss_one (ps_if (pt_cmpR op_eq (pe_ix ix_tup (pv 6) pe_int (fun _ _ => rfl)) pe_str (nomark _))
            (pss_cons (ps_expr (pe_bm PySem.F.plainAttrs_list PySem.F.slot_list_extend PySem.F.type_list_extend mt_extend (pv 4) (pa_cons (pe_lst (pa_cons (pe_op op_catA (pv 5) (pe_tup (pa_cons pe_bl pa_nil))) (pa_cons (pe_op op_catA (pv 5) (pe_tup (pa_cons pe_bl pa_nil))) pa_nil))) pa_nil)))
            (pss_one (ps_if (PW.pt (pw_and (pt_cmpR op_eq (pe_ix ix_tup (pv 6) pe_int (fun _ _ => rfl)) (pv 1) (nomark _)) (pw_and1 (pt_val (pe_methFK (pv 0) (c_Worth T) (m_W_plan T) (ok_W_planK T) rfl hr (pa_cons (pv 3) pa_nil) (pk_cons (pv 5) pk_nil)))))) pss_never pss_nil))) pss_nil))))))))
      (pss_one (ps_ret (pe_callB cr_sorted rfl (b_sorted T) (by decide +kernel) (pa_cons (pv 2) pa_nil))))), ?_⟩
    refine ⟨by show 0 ≤ sizeLine; decide, fun pf hpf => ?_⟩
    have s1 := Same.new (o := .lst []) hpf
    obtain ⟨a, dx, mv, ps, rfl, h0, ma, hs⟩ := id wa
    obtain ⟨ma0, dm, lv, nv, pr, pk, pp, rfl, hm0, mf⟩ := id ma
    have rl := ro.len
    refine ⟨_, rfl, a, _, dx, _, _, rfl, s1 _ _ h0, c_Worth T, n_mill T, rfl, ma0, dm, _, rfl, s1 _ _ hm0, _, D, R, rfl, ma.mono s1, R.length, rfl, by omega, _, rfl, by omega, by omega, ?_⟩
    rw [Int.toNat_natCast]
    refine for_range (lo := 0) (n := R.length) (fun i σ' H' => ∃ x3 x4 x5 x6, σ' = [some (.ref a), some (.str nm), some (.ref pf), x3, x4, x5, x6] ∧ Same H H' ∧ H' pf = some (.lst [])) ⟨_, _, _, _, rfl, s1, upd_same⟩ (fun i σ' HA hi ⟨x3, x4, x5, x6, eσ, EA, FA⟩ => ?_) (fun σ' HA ⟨x3, x4, x5, x6, eσ, EA, FA⟩ => ?_)
    · subst eσ
      rw [Int.zero_add]
      have hr0 : R[i]? = some R[i] := List.getElem?_eq_getElem hi
      generalize R[i] = r at hr0
      have rk := ro.ok r (List.mem_of_getElem? hr0)
      obtain ⟨q, hq⟩ := rk.node
      have td := (tree_dep (d := (r.1 : Int)) (p := q) r.2.2).2
      have tl := dep_le_lvs (tree r.2.2 r.1 q)
      have nl := rk.lvs
      have no := fun ans o n y m => nou i r q ans o n y m hr0 hq
      refine ⟨by show 0 ≤ sizeLine; decide, fun q0 hq0 => ⟨by show 1 ≤ sizeLine; decide, fun pt hpt => ?_⟩⟩
      have s2 := Same.new (o := .tup []) hq0
      have s3 := Same.new (o := .lst [V.ref q0]) hpt
      have fpt : HA pt = none := s2.free hpt
      have npf : pf ≠ pt := ne_of_none (s2 _ _ FA) hpt
      refine ⟨fun k σ' H' => ∃ (S : List (List Bool)) (ts : List V) (x5 x6 : Option V), σ' = [some (.ref a), some (.str nm), some (.ref pf), some (.int ((i : Nat) : Int)), some (.ref pt), x5, x6] ∧ Same HA H' ∧ H' pt = some (.lst ts) ∧ All2 (AnsAt K H') S ts ∧ (∀ l ∈ S, ∃ s, (tree r.2.2 r.1 q).at l = some s) ∧ k = pendN (tree r.2.2 r.1 q) S ∧ (pend (tree r.2.2 r.1 q) S).length ≤ 32,
        ⟨_, [[]], [.ref q0], _, _, rfl, s2.trans s3, upd_same, .cons ⟨q0, rfl, SqT.of (s3 _ _ upd_same), by simp⟩ .nil, fun l hl => ?_, rfl, ?_⟩, ?_⟩
      · have : l = [] := by simpa using hl
        exact ⟨_, by rw [this]; exact at_nil _⟩
      · rw [pend_nil, lvsOf_len]
        omega
      · rintro k σ' H1 ⟨S, ts, x5, x6, rfl, e1, h1t, hS, hv, rfl, hpn⟩
        have lS := pend_len hv
        refine ⟨_, rfl, by show 0 ≤ sizeLine; decide, fun qe hqe => ?_⟩
        have n1 := Same.new (o := .lst []) hqe
        refine ⟨.list (S.map fun l => .tuple (l.map PyData.bool)), .list [], .lst (SqL.of (n1 _ _ h1t)) (ansl_dp (hS.imp fun _ _ z => z.mono n1)), .lst (SqL.of upd_same) .nil, ansl_shaped S, nill_shaped, _, rfl, ?_⟩
        rw [ansl_eqv]
        rcases List.eq_nil_or_concat S with e | ⟨S', l, e⟩
        · subst e
          exact iteF ⟨_, _, _, _, rfl, EA.trans (e1.trans n1), n1 _ _ (e1 _ _ FA)⟩
        · have eS : S = S' ++ [l] := by rw [e, List.concat_eq_append]
          subst eS
          clear e
          rw [show (!(S' ++ [l]).isEmpty) = true by cases S' <;> rfl]
          refine iteT ⟨_, fun _ _ z => z, ?_⟩
          obtain ⟨ts', tv, rfl, hS', hl⟩ := hS.snoc_inv
          obtain ⟨s, hs'⟩ := hv l (List.mem_append_right _ (List.mem_singleton.mpr rfl))
          have ll := at_len hs'
          have lS2 : S'.length = ts'.length := hS'.len
          have lS3 : S'.length + 1 ≤ (pend (tree r.2.2 r.1 q) (S' ++ [l])).length := by simpa using lS
          refine ⟨_, rfl, .inl ⟨rfl, _, SqL.of (n1 _ _ h1t)⟩, pt, _, tv, rfl, rfl, n1 _ _ h1t, by simp, ?_⟩
          rw [show (ts' ++ [tv]).dropLast = ts' by simp]
          have m1 : Same HA (upd (upd H1 qe (.lst [])) pt (.lst ts')) := same_mut (e1.trans n1) fpt
          have t1 : TS H1 (upd (upd H1 qe (.lst [])) pt (.lst ts')) := ts_trans (ts_same n1) (ts_lst (n1 _ _ h1t))
          have h2t : (upd (upd H1 qe (.lst [])) pt (.lst ts')) pt = some (.lst ts') := upd_same
          generalize upd (upd H1 qe (.lst [])) pt (.lst ts') = H2 at m1 t1 h2t
          have wa2 := wa.mono (EA.trans m1)
          have m01 := EA.trans m1
          refine ⟨_, rfl, a, _, dx, _, _, rfl, m01 _ _ h0, c_Worth T, n_mill T, rfl, ma0, dm, _, rfl, m01 _ _ hm0, rfl, _, rfl, _, rfl, rfl, rfl, _, D, R, n0, P, i, r, q, tv, l, rfl, ma.mono m01, ok, ro, hr0, hq, hl.ts t1, fun z H3 e3 r3 => ?_⟩
          have m3 := m1.trans e3
          have t3 : TS H1 H3 := ts_trans t1 (ts_same e3)
          have hl3 : AnsAt K H3 l tv := hl.ts t3
          rw [at_walk hs'] at r3
          cases s with
          | ask o n y m =>
            obtain ⟨c1, rfl, hc1⟩ := r3
            simp only [Tree.dep] at ll
            refine ⟨_, rfl, c1, _, _, _, rfl, rfl, hc1, rfl, rfl, _, rfl, iteSE ?_⟩
            refine ⟨_, rfl, .inl ⟨rfl, _, SqL.of (e3 _ _ h2t)⟩, ?_⟩
            refine ⟨_, rfl, by show 1 ≤ sizeLine; decide, fun qa hqa => ?_⟩
            have na := Same.new (o := .tup [V.bl true]) hqa
            refine cat_ans (hl3.mono na) upd_same (by omega) fun va H4 e4 ra => ?_
            refine ⟨_, rfl, by show 1 ≤ sizeLine; decide, fun qb hqb => ?_⟩
            have nb := Same.new (o := .tup [V.bl false]) hqb
            refine cat_ans (((hl3.mono na).mono e4).mono nb) upd_same (by omega) fun vb H5 e5 rb => ?_
            refine ⟨by show 2 ≤ sizeLine; decide, fun qc hqc => ?_⟩
            have nc := Same.new (o := .lst [va, vb]) hqc
            have e35 : Same H3 (upd H5 qc (.lst [va, vb])) := (((na.trans e4).trans nb).trans e5).trans nc
            have h5t := e35 _ _ (e3 _ _ h2t)
            have ra' := ra.mono ((nb.trans e5).trans nc)
            have rb' := rb.mono nc
            refine ⟨pt, qc, _, _, rfl, rfl, h5t, upd_same, line1000 (by simp only [List.length_cons, List.length_nil]; omega), ?_⟩
            have t5 : TS (upd H5 qc (.lst [va, vb])) (upd (upd H5 qc (.lst [va, vb])) pt (.lst (ts' ++ [va, vb]))) := ts_lst h5t
            have M6 : Same HA (upd (upd H5 qc (.lst [va, vb])) pt (.lst (ts' ++ [va, vb]))) := same_mut (m3.trans e35) fpt
            have h6t : (upd (upd H5 qc (.lst [va, vb])) pt (.lst (ts' ++ [va, vb]))) pt = some (.lst (ts' ++ [va, vb])) := upd_same
            have T6 : TS H3 (upd (upd H5 qc (.lst [va, vb])) pt (.lst (ts' ++ [va, vb]))) := ts_trans (ts_same e35) t5
            have ra6 := ra'.ts t5
            have rb6 := rb'.ts t5
            generalize upd (upd H5 qc (.lst [va, vb])) pt (.lst (ts' ++ [va, vb])) = H6 at M6 h6t T6 ra6 rb6
            have af := at_snoc false hs'
            have at_ := at_snoc true hs'
            simp only [if_true, Bool.false_eq_true, if_false] at af at_
            have es : S' ++ [l ++ [true], l ++ [false]] = (S' ++ [l ++ [true]]) ++ [l ++ [false]] := by simp
            have fin : ∀ H7, Same HA H7 → H7 pt = some (.lst (ts' ++ [va, vb])) → TS H6 H7 → ∃ k', k' < pendN (tree r.2.2 r.1 q) (S' ++ [l]) ∧ ∃ (S : List (List Bool)) (ts : List V) (x5 x6 : Option V), ([some (.ref a), some (.str nm), some (.ref pf), some (.int ((i : Nat) : Int)), some (.ref pt), some tv, some (.ref c1)] : List (Option V)) = [some (.ref a), some (.str nm), some (.ref pf), some (.int ((i : Nat) : Int)), some (.ref pt), x5, x6] ∧ Same HA H7 ∧ H7 pt = some (.lst ts) ∧ All2 (AnsAt K H7) S ts ∧ (∀ l ∈ S, ∃ s, (tree r.2.2 r.1 q).at l = some s) ∧ k' = pendN (tree r.2.2 r.1 q) S ∧ (pend (tree r.2.2 r.1 q) S).length ≤ 32 := by
              intro H7 M7 h7 T7
              refine ⟨_, ?_, S' ++ [l ++ [true], l ++ [false]], ts' ++ [va, vb], _, _, rfl, M7, h7, (hS'.imp fun _ _ z => ((z.ts t3).ts T6).ts T7).app (.cons (ra6.ts T7) (.cons (rb6.ts T7) .nil)), ?_, rfl, ?_⟩
              · rw [es, pendN_snoc af, pendN_snoc at_, pendN_snoc hs']
                simp only [Tree.nodes]
                omega
              · intro l' hl'
                rcases List.mem_append.mp hl' with z | z
                · exact hv l' (List.mem_append_left _ z)
                · simp only [List.mem_cons, List.not_mem_nil, or_false] at z
                  rcases z with rfl | rfl
                  · exact ⟨_, at_⟩
                  · exact ⟨_, af⟩
              · rw [pend_snoc hs'] at hpn
                rw [es, pend_snoc af, pend_snoc at_]
                simp only [Tree.lvsOf, List.length_append] at hpn ⊢
                omega
            -- the plan
            have hc6 := ts_sqt T6 hc1
            refine ⟨_, rfl, c1, _, _, _, rfl, rfl, hc6, rfl, _, rfl, rfl, _, rfl, ?_⟩
            by_cases en : n = nm
            · refine itP (by rw [en]) ?_
              have wa6 := wa.mono (EA.trans M6)
              refine ⟨_, rfl, a, dx, _, rfl, (EA.trans M6) _ _ h0, rfl, _, rfl, _, rfl, rfl, rfl, _, D, R, n0, P, i, r, q, tv, l, o, n, y, m, rfl, wa6, ok, ro, hr0, hq, hl3.ts T6, hs', fun H7 e7 => ⟨_, rfl, ?_⟩⟩
              rw [no l o n y m hs' en]
              exact iteF (fin H7 (M6.trans e7) (e7 _ _ h6t) (ts_same e7))
            · exact itN (fun z => en (V.str.inj z)) (iteF (fin H6 M6 h6t (ts_refl _)))
          | leaf x rr =>
            obtain ⟨c1, u1, u2, rfl, hc1, hx, hr1⟩ := r3
            refine ⟨_, rfl, c1, _, _, _, rfl, rfl, hc1, rfl, rfl, _, rfl, iteSN ?_⟩
            refine ⟨_, ?_, S', ts', _, _, rfl, m3, e3 _ _ h2t, hS'.imp fun _ _ z => z.ts t3, fun l' hl' => hv l' (List.mem_append_left _ hl'), rfl, ?_⟩
            · rw [pendN_snoc hs']
              simp only [Tree.nodes]
              omega
            · rw [pend_snoc hs', List.length_append] at hpn
              omega
    · subst eσ
      refine ⟨_, rfl, pf, [], rfl, SqL.of FA, by decide, fun ns' p perm _ hp => ?_⟩
      have : ns' = [] := List.Perm.eq_nil perm
      subst this
      exact kk p _ (EA.trans (Same.new hp)) upd_same
end
end SL
namespace SL
open PySem PySem.Spec PyProof.Rows L2 TL
section
variable {w : World} {K : PySem.W.Frag} {mg : Str → Option Value} {base : Heap}
abbrev spNoteN (K : PySem.W.Frag) (d : Nat) : Sp := spNoteD K d fun b r => [.ref b, .int (d : Int), .ref r]
theorem side2 {i : Int} (i0 : 0 ≤ i) (i1 : i < 2) : ∃ u : Bool, atI [V.str "up", .str "down"] i = some (.str (sdS u)) := by
  obtain rfl | rfl : i = 0 ∨ i = 1 := by omega
  · exact ⟨true, rfl⟩
  · exact ⟨false, rfl⟩
theorem own2 {i : Int} (i0 : 0 ≤ i) (i1 : i < 2) : ∃ u : Bool, atI [V.str "holder", .str "writer"] i = some (.str (owS u)) := by
  obtain rfl | rfl : i = 0 ∨ i = 1 := by omega
  · exact ⟨true, rfl⟩
  · exact ⟨false, rfl⟩
theorem ok_Lnote (T : TX w K mg) : ∀ d : Nat, d ≤ 4 → Fn w K mg base (9 + d) (He.ga K "_law_note") (spNoteN K d) := by
  intro d
  induction d with
  | zero =>
    intro _
    refine fn_Lnote (k := 8) T (fun vs H Q E h => ?_) (fun cdv A outer s H vs Q E hr h => ?_)
    · obtain ⟨_, _, _, rfl, _⟩ := h
      rfl
    · obtain ⟨b, c, r, rfl, hB, hR, n1, n2, kk⟩ := h
      refine ⟨_, pss_cons (ps_asg (pe_op op_sub (pe_ix ix_list (pv 2) pe_int (fun _ _ => rfl)) pe_int) (pg_sub (pv 2) pe_int set_list))
        (pss_cons (ps_set (i := 3) sc_Lnote.nd rfl (.inl rfl) (pe_callF (ok_Ltake T) rfl hr rfl (g_Ltake T) (pa_cons (pv 0) (pa_cons pe_int pa_nil))))
        (pss_cons (ps_if (PW.pt (pw_or (pt_cmpR op_lt (pv 1) pe_int (nomark _)) (pw_or (pt_cmpR op_lt (pe_ix ix_list (pv 2) pe_int (fun _ _ => rfl)) pe_int (nomark _)) (pw_or1 (pt_cmpR op_lt (pv 3) pe_int (nomark _)))))) (pss_one (ps_ret (pe_callF (ok_Lleaf T) rfl hr rfl (g_Lleaf T) (pa_cons (pv 0) (pa_cons (pv 2) pa_nil))))) pss_nil)
        pss_never)), ?_⟩
      obtain ⟨x, y, z, hr0⟩ := id hR
      refine ⟨_, rfl, r, _, _, _, rfl, rfl, SqL.of hr0, rfl, _, _, rfl, rfl, _, rfl, r, _, _, 0, rfl, rfl, hr0, rfl, ?_⟩
      have D1 : Dn b c r H (upd H r (.lst [.int (x - 1), .int y, .int z])) := (Dn.refl hB hR).put n1 n2
      have hr1 : (upd H r (.lst [.int (x - 1), .int y, .int z])) r = some (.lst [.int (x - 1), .int y, .int z]) := upd_same
      dsimp only [List.set]
      generalize upd H r (.lst [.int (x - 1), .int y, .int z]) = H1 at D1 hr1
      refine ⟨_, rfl, b, c, _, rfl, D1.2.1, by decide, by decide, fun kd H2 k0 k1 d2 => ?_⟩
      have D2 := D1.draw d2 n1
      have hr2 := d2.1 _ _ (fun m => n1 (List.mem_singleton.mp m)) hr1
      refine ⟨_, rfl, _, _, rfl, rfl, _, rfl, ?_⟩
      exact itP (by decide) (iteT ⟨_, rfl, _, rfl, b, c, r, rfl, D2.2.1, D2.2.2, n1, n2, fun v n H3 d3 hv gn zn nn => kk v n H3 (D2.trans d3) hv gn (by omega) nn⟩)
  | succ d ih =>
    intro hd
    refine fn_Lnote (k := 9 + d) T (fun vs H Q E h => ?_) (fun cdv A outer s H vs Q E hr h => ?_)
    · obtain ⟨_, _, _, rfl, _⟩ := h
      rfl
    · obtain ⟨b, c, r, rfl, hB, hR, n1, n2, kk⟩ := h
      have REC := ih (by omega)
      refine ⟨_, pss_cons (ps_asg (pe_op op_sub (pe_ix ix_list (pv 2) pe_int (fun _ _ => rfl)) pe_int) (pg_sub (pv 2) pe_int set_list))
        (pss_cons (ps_set (i := 3) sc_Lnote.nd rfl (.inl rfl) (pe_callF (ok_Ltake T) rfl hr rfl (g_Ltake T) (pa_cons (pv 0) (pa_cons pe_int pa_nil))))
        (pss_cons (ps_if (PW.pt (pw_or (pt_cmpR op_lt (pv 1) pe_int (nomark _)) (pw_or (pt_cmpR op_lt (pe_ix ix_list (pv 2) pe_int (fun _ _ => rfl)) pe_int (nomark _)) (pw_or1 (pt_cmpR op_lt (pv 3) pe_int (nomark _)))))) (pss_one (ps_ret (pe_callF (ok_Lleaf T) rfl hr rfl (g_Lleaf T) (pa_cons (pv 0) (pa_cons (pv 2) pa_nil))))) pss_nil)
        (pss_cons (ps_if (pt_cmpR op_lt (pv 3) pe_int (nomark _)) (pss_cons (ps_set (i := 4) sc_Lnote.nd rfl (.inl rfl) (pe_callF REC rfl hr rfl (g_Lnote T) (pa_cons (pv 0) (pa_cons (pe_op op_sub (pv 1) pe_int) (pa_cons (pv 2) pa_nil))))) (pss_one (ps_ret (pe_tup (pa_cons pe_str (pa_cons (pv 4) (pa_cons (pe_callF REC rfl hr rfl (g_Lnote T) (pa_cons (pv 0) (pa_cons (pe_op op_sub (pv 1) pe_int) (pa_cons (pv 2) pa_nil)))) pa_nil))))))) pss_nil)
        (pss_cons (ps_if (pt_cmpR op_eq (pv 3) pe_int (nomark _)) (pss_one (ps_ret (pe_tup (pa_cons pe_str (pa_cons (pe_callF (ok_Labove T) rfl hr rfl (g_Labove T) (pa_cons (pv 0) (pa_cons pe_int pa_nil))) (pa_cons (pe_callF REC rfl hr rfl (g_Lnote T) (pa_cons (pv 0) (pa_cons (pe_op op_sub (pv 1) pe_int) (pa_cons (pv 2) pa_nil)))) pa_nil)))))) pss_nil)
        (pss_cons (ps_if (pt_cmpR op_eq (pv 3) pe_int (nomark _)) (pss_one (ps_ret (pe_tup (pa_cons pe_str (pa_cons (pe_callF REC rfl hr rfl (g_Lnote T) (pa_cons (pv 0) (pa_cons (pe_op op_sub (pv 1) pe_int) (pa_cons (pv 2) pa_nil)))) pa_nil))))) pss_nil)
        (pss_cons (ps_if (PW.pt (pw_or (pt_cmpR op_eq (pv 3) pe_int (nomark _)) (pw_or1 (pt_cmpR op_lt (pe_ix ix_list (pv 2) pe_int (fun _ _ => rfl)) pe_int (nomark _)))))
          (pss_cons (ps_set (i := 4) sc_Lnote.nd rfl (.inl rfl) (pe_callF REC rfl hr rfl (g_Lnote T) (pa_cons (pv 0) (pa_cons (pe_op op_sub (pv 1) pe_int) (pa_cons (pv 2) pa_nil)))))
          (pss_cons (ps_set (i := 5) sc_Lnote.nd rfl (.inl rfl) (pe_ix ix_list (pe_lst (pa_cons pe_str (pa_cons pe_str pa_nil))) (pe_callF (ok_Ltake T) rfl hr rfl (g_Ltake T) (pa_cons (pv 0) (pa_cons pe_int pa_nil))) (fun _ _ => rfl)))
          (pss_one (ps_ret (pe_tup (pa_cons pe_str (pa_cons (pv 5) (pa_cons (pe_callF (ok_Labove T) rfl hr rfl (g_Labove T) (pa_cons (pv 0) (pa_cons pe_int pa_nil))) (pa_cons (pv 4) (pa_cons (pe_callF REC rfl hr rfl (g_Lnote T) (pa_cons (pv 0) (pa_cons (pe_op op_sub (pv 1) pe_int) (pa_cons (pv 2) pa_nil)))) pa_nil)))))))))) pss_nil)
        (pss_cons (ps_asg (pe_op op_sub (pe_ix ix_list (pv 2) pe_int (fun _ _ => rfl)) pe_int) (pg_sub (pv 2) pe_int set_list))
        (pss_cons (ps_asg (pe_callF (ok_Ldays T) rfl hr rfl (g_Ldays T) (pa_cons (pv 0) pa_nil)) (pg_tup rfl (pgs_cons (pg_name (i := 6) sc_Lnote.nd rfl (.inl rfl)) (pgs_cons (pg_name (i := 7) sc_Lnote.nd rfl (.inl rfl)) pgs_nil))))
        (pss_cons (ps_par (i := 8) (j := 9) rfl sc_Lnote.nd rfl rfl (by decide) rfl rfl (pa_cons (pe_callF (ok_Lname T) rfl hr rfl (g_Lname T) (pa_cons (pv 0) pa_nil)) (pa_cons (pe_ix ix_list (pe_lst (pa_cons pe_str (pa_cons pe_str pa_nil))) (pe_callF (ok_Ltake T) rfl hr rfl (g_Ltake T) (pa_cons (pv 0) (pa_cons pe_int pa_nil))) (fun _ _ => rfl)) pa_nil)) rfl)
        (pss_cons (ps_set (i := 4) sc_Lnote.nd rfl (.inl rfl) (pe_callF REC rfl hr rfl (g_Lnote T) (pa_cons (pv 0) (pa_cons (pe_op op_sub (pv 1) pe_int) (pa_cons (pv 2) pa_nil)))))
        (pss_one (ps_ret (pe_tup (pa_cons pe_str (pa_cons (pv 8) (pa_cons (pv 9) (pa_cons (pv 6) (pa_cons (pv 7) (pa_cons (pv 4) (pa_cons (pe_callF REC rfl hr rfl (g_Lnote T) (pa_cons (pv 0) (pa_cons (pe_op op_sub (pv 1) pe_int) (pa_cons (pv 2) pa_nil)))) pa_nil)))))))))))))))))))), ?_⟩
      obtain ⟨x, y, z, hr0⟩ := id hR
      refine ⟨_, rfl, r, _, _, _, rfl, rfl, SqL.of hr0, rfl, _, _, rfl, rfl, _, rfl, r, _, _, 0, rfl, rfl, hr0, rfl, ?_⟩
      have D1 : Dn b c r H (upd H r (.lst [.int (x - 1), .int y, .int z])) := (Dn.refl hB hR).put n1 n2
      have hr1 : (upd H r (.lst [.int (x - 1), .int y, .int z])) r = some (.lst [.int (x - 1), .int y, .int z]) := upd_same
      dsimp only [List.set]
      generalize upd H r (.lst [.int (x - 1), .int y, .int z]) = H1 at D1 hr1
      refine ⟨_, rfl, b, c, _, rfl, D1.2.1, by decide, by decide, fun kd H2 k0 k1 d2 => ?_⟩
      have D2 := D1.draw d2 n1
      have hr2 := d2.1 _ _ (fun m => n1 (List.mem_singleton.mp m)) hr1
      refine ⟨_, rfl, _, _, rfl, rfl, _, rfl, ?_⟩
      by_cases h2 : (((d + 1 : Nat) : Int)) < 2
      · exact itP h2 (iteT ⟨_, rfl, _, rfl, b, c, r, rfl, D2.2.1, D2.2.2, n1, n2, fun v n H3 d3 hv gn zn nn => kk v n H3 (D2.trans d3) hv gn (by omega) nn⟩)
      refine itN h2 ⟨_, rfl, r, _, _, _, rfl, rfl, SqL.of hr2, rfl, _, _, rfl, rfl, _, rfl, ?_⟩
      by_cases h3 : x - 1 < 4
      · exact itP h3 (iteT ⟨_, rfl, _, rfl, b, c, r, rfl, D2.2.1, D2.2.2, n1, n2, fun v n H3 d3 hv gn zn nn => kk v n H3 (D2.trans d3) hv gn (by omega) nn⟩)
      refine itN h3 ⟨_, rfl, _, _, rfl, rfl, _, rfl, ?_⟩
      by_cases h4 : kd < 2
      · exact itP h4 ⟨_, rfl, _, rfl, b, c, r, rfl, D2.2.1, D2.2.2, n1, n2, fun v n H3 d3 hv gn zn nn => kk v n H3 (D2.trans d3) hv gn (by omega) nn⟩
      have ed : (((d + 1 : Nat) : Int)) - 1 = ((d : Nat) : Int) := by omega
      have hd1 : 1 ≤ d := by omega
      refine itN h4 ⟨_, rfl, _, _, rfl, rfl, _, rfl, ?_⟩
      by_cases h5 : kd < 4
      · refine itP h5 ⟨_, rfl, _, rfl, _, _, rfl, rfl, _, rfl, b, c, r, congrArg (fun z => [V.ref b, V.int z, V.ref r]) ed, D2.2.1, D2.2.2, n1, n2, fun v3 m3 H3 d3 hv3 g3 z3 q3 => ?_⟩
        refine ⟨_, rfl, _, rfl, _, rfl, _, _, rfl, rfl, _, rfl, b, c, r, congrArg (fun z => [V.ref b, V.int z, V.ref r]) ed, d3.2.1, d3.2.2, n1, n2, fun v4 m4 H4 d4 hv4 g4 z4 q4 => ⟨by show 3 ≤ sizeLine; decide, fun p hp => ?_⟩⟩
        have n := Same.new (o := .tup [.str "both", v3, v4]) hp
        exact kk _ (.both m3 m4) _ (((D2.trans d3).trans d4).same n) ⟨p, v3, v4, rfl, SqT.of upd_same, (hv3.ts (d4.ts d3.2.1 d3.2.2)).mono n, hv4.mono n⟩ ⟨g3, g4⟩ (by show max (ndep m3) (ndep m4) + 1 ≤ _; omega) ⟨q3, q4⟩
      refine itN h5 ⟨_, rfl, rfl, _, rfl, ?_⟩
      by_cases h6 : kd = 4
      · refine itP (by rw [h6]) ⟨_, rfl, b, c, 4, rfl, D2.2.1, by decide, by decide, fun v3 q H3 d3 hv3 gq pq => ?_⟩
        have D3 := D2.draw d3 n1
        refine ⟨_, rfl, _, rfl, _, _, rfl, rfl, _, rfl, b, c, r, congrArg (fun z => [V.ref b, V.int z, V.ref r]) ed, D3.2.1, D3.2.2, n1, n2, fun v4 m4 H4 d4 hv4 g4 z4 q4 => ⟨by show 3 ≤ sizeLine; decide, fun p hp => ?_⟩⟩
        have n := Same.new (o := .tup [.str "times", v3, v4]) hp
        exact kk _ (.times q m4) _ ((D3.trans d4).same n) ⟨p, v3, v4, rfl, SqT.of upd_same, (hv3.ts (d4.ts D3.2.1 D3.2.2)).mono n, hv4.mono n⟩ ⟨gq.sz (by decide) (by decide), g4⟩ (by show ndep m4 + 1 ≤ _; omega) q4
      refine itN (fun z => h6 (V.int.inj z)) ⟨_, rfl, rfl, _, rfl, ?_⟩
      by_cases h7 : kd = 5
      · refine itP (by rw [h7]) ⟨_, rfl, _, rfl, _, _, rfl, rfl, _, rfl, b, c, r, congrArg (fun z => [V.ref b, V.int z, V.ref r]) ed, D2.2.1, D2.2.2, n1, n2, fun v4 m4 H4 d4 hv4 g4 z4 q4 => ⟨by show 2 ≤ sizeLine; decide, fun p hp => ?_⟩⟩
        have n := Same.new (o := .tup [.str "turn", v4]) hp
        exact kk _ (.turn m4) _ ((D2.trans d4).same n) ⟨p, v4, rfl, SqT.of upd_same, hv4.mono n⟩ g4 (by show ndep m4 + 1 ≤ _; omega) q4
      refine itN (fun z => h7 (V.int.inj z)) ⟨_, rfl, rfl, _, rfl, ?_⟩
      by_cases h8 : kd = 6
      · refine itP (by rw [h8]) (iteT ⟨_, rfl, _, rfl, _, _, rfl, rfl, _, rfl, b, c, r, congrArg (fun z => [V.ref b, V.int z, V.ref r]) ed, D2.2.1, D2.2.2, n1, n2, fun v3 m3 H3 d3 hv3 g3 z3 q3 => ?_⟩)
        have D3 := D2.trans d3
        refine ⟨by show 2 ≤ sizeLine; decide, fun pl hpl => ?_⟩
        have D5 := D3.same (Same.new (o := .lst [.str "up", .str "down"]) hpl)
        have a5 := hv3.mono (Same.new (o := .lst [.str "up", .str "down"]) hpl)
        have hl : (upd H3 pl (.lst [.str "up", .str "down"])) pl = some (.lst [.str "up", .str "down"]) := upd_same
        have npb : pl ≠ b := fun z => by
          obtain ⟨_, _, _, _, _, h, _⟩ := D3.2.1
          rw [z] at hpl
          rw [hpl] at h
          cases h
        generalize upd H3 pl (.lst [.str "up", .str "down"]) = H5 at D5 hl a5
        refine ⟨_, rfl, b, c, _, rfl, D5.2.1, by decide, by decide, fun i7 H7 i0 i1 d7 => ?_⟩
        have D7 := D5.draw d7 n1
        have hl7 := d7.1 _ _ (fun z => npb (List.mem_singleton.mp z)) hl
        obtain ⟨sd, hw⟩ := side2 i0 i1
        refine ⟨pl, _, i7, _, rfl, rfl, SqL.of hl7, hw, ?_⟩
        refine ⟨_, rfl, _, rfl, b, c, 30, rfl, D7.2.1, by decide, by decide, fun v8 q H8 d8 hv8 gq pq => ?_⟩
        have D8 := D7.draw d8 n1
        refine ⟨_, rfl, _, rfl, _, rfl, _, _, rfl, rfl, _, rfl, b, c, r, congrArg (fun z => [V.ref b, V.int z, V.ref r]) ed, D8.2.1, D8.2.2, n1, n2, fun v9 m9 H9 d9 hv9 g9 z9 q9 => ⟨by show 5 ≤ sizeLine; decide, fun p hp => ?_⟩⟩
        have n := Same.new (o := .tup [.str "till", .str (sdS sd), v8, v3, v9]) hp
        exact kk _ (.till sd q m3 m9) _ ((D8.trans d9).same n) ⟨p, v8, v3, v9, rfl, SqT.of upd_same, (hv8.ts (d9.ts D8.2.1 D8.2.2)).mono n, (((a5.ts (d7.ts D5.2.1)).ts (d8.ts D7.2.1)).ts (d9.ts D8.2.1 D8.2.2)).mono n, hv9.mono n⟩ ⟨gq.sz (by decide) (by decide), g3, g9⟩ (by show max (ndep m3) (ndep m9) + 1 ≤ _; omega) ⟨q3, q9⟩
      refine itN (fun z => h8 (V.int.inj z)) ⟨_, rfl, r, _, _, _, rfl, rfl, SqL.of hr2, rfl, _, _, rfl, rfl, _, rfl, ?_⟩
      by_cases h9 : y < 1
      · refine itP h9 ⟨_, rfl, _, rfl, _, _, rfl, rfl, _, rfl, b, c, r, congrArg (fun z => [V.ref b, V.int z, V.ref r]) ed, D2.2.1, D2.2.2, n1, n2, fun v3 m3 H3 d3 hv3 g3 z3 q3 => ?_⟩
        have D3 := D2.trans d3
        refine ⟨by show 2 ≤ sizeLine; decide, fun pl hpl => ?_⟩
        have D5 := D3.same (Same.new (o := .lst [.str "up", .str "down"]) hpl)
        have a5 := hv3.mono (Same.new (o := .lst [.str "up", .str "down"]) hpl)
        have hl : (upd H3 pl (.lst [.str "up", .str "down"])) pl = some (.lst [.str "up", .str "down"]) := upd_same
        have npb : pl ≠ b := fun z => by
          obtain ⟨_, _, _, _, _, h, _⟩ := D3.2.1
          rw [z] at hpl
          rw [hpl] at h
          cases h
        generalize upd H3 pl (.lst [.str "up", .str "down"]) = H5 at D5 hl a5
        refine ⟨_, rfl, b, c, _, rfl, D5.2.1, by decide, by decide, fun i7 H7 i0 i1 d7 => ?_⟩
        have D7 := D5.draw d7 n1
        have hl7 := d7.1 _ _ (fun z => npb (List.mem_singleton.mp z)) hl
        obtain ⟨sd, hw⟩ := side2 i0 i1
        refine ⟨pl, _, i7, _, rfl, rfl, SqL.of hl7, hw, ?_⟩
        refine ⟨_, rfl, _, rfl, b, c, 30, rfl, D7.2.1, by decide, by decide, fun v8 q H8 d8 hv8 gq pq => ?_⟩
        have D8 := D7.draw d8 n1
        refine ⟨_, rfl, _, rfl, _, rfl, _, _, rfl, rfl, _, rfl, b, c, r, congrArg (fun z => [V.ref b, V.int z, V.ref r]) ed, D8.2.1, D8.2.2, n1, n2, fun v9 m9 H9 d9 hv9 g9 z9 q9 => ⟨by show 5 ≤ sizeLine; decide, fun p hp => ?_⟩⟩
        have n := Same.new (o := .tup [.str "till", .str (sdS sd), v8, v3, v9]) hp
        exact kk _ (.till sd q m3 m9) _ ((D8.trans d9).same n) ⟨p, v8, v3, v9, rfl, SqT.of upd_same, (hv8.ts (d9.ts D8.2.1 D8.2.2)).mono n, (((a5.ts (d7.ts D5.2.1)).ts (d8.ts D7.2.1)).ts (d9.ts D8.2.1 D8.2.2)).mono n, hv9.mono n⟩ ⟨gq.sz (by decide) (by decide), g3, g9⟩ (by show max (ndep m3) (ndep m9) + 1 ≤ _; omega) ⟨q3, q9⟩
      refine itN h9 ?_
      refine ⟨_, rfl, r, _, _, _, rfl, rfl, SqL.of hr2, rfl, _, _, rfl, rfl, _, rfl, r, _, _, 1, rfl, rfl, hr2, rfl, ?_⟩
      have D3 : Dn b c r H (upd H2 r (.lst [.int (x - 1), .int (y - 1), .int z])) := D2.put n1 n2
      dsimp only [List.set]
      generalize upd H2 r (.lst [.int (x - 1), .int (y - 1), .int z]) = H3 at D3
      refine ⟨_, rfl, b, c, rfl, D3.2.1, fun pd i j H4 d4 sd di dj => ⟨pd, _, rfl, sd, rfl, _, _, rfl, _, _, rfl, rfl, ?_⟩⟩
      have D4 := D3.draw d4 n1
      refine ⟨_, rfl, b, c, rfl, D4.2.1, fun nm H5 d5 nok nqq => ⟨by show 2 ≤ sizeLine; decide, fun pl hpl => ?_⟩⟩
      have D5 := (D4.draw d5 n1).same (Same.new (o := .lst [.str "holder", .str "writer"]) hpl)
      have hl : (upd H5 pl (.lst [.str "holder", .str "writer"])) pl = some (.lst [.str "holder", .str "writer"]) := upd_same
      have npb : pl ≠ b := fun z => by
        obtain ⟨_, _, _, _, _, h, _⟩ := d5.2
        rw [z] at hpl
        rw [hpl] at h
        cases h
      generalize upd H5 pl (.lst [.str "holder", .str "writer"]) = H6 at D5 hl
      refine ⟨_, rfl, b, c, _, rfl, D5.2.1, by decide, by decide, fun i7 H7 i0 i1 d7 => ?_⟩
      have D7 := D5.draw d7 n1
      have hl7 := d7.1 _ _ (fun z => npb (List.mem_singleton.mp z)) hl
      obtain ⟨ow, hw⟩ := own2 i0 i1
      refine ⟨pl, _, i7, _, rfl, rfl, SqL.of hl7, hw, _, _, rfl, ?_⟩
      refine ⟨_, rfl, _, rfl, _, _, rfl, rfl, _, rfl, b, c, r, congrArg (fun z => [V.ref b, V.int z, V.ref r]) ed, D7.2.1, D7.2.2, n1, n2, fun v8 m8 H8 d8 hv8 g8 z8 q8 => ?_⟩
      have D8 := D7.trans d8
      refine ⟨_, rfl, _, rfl, _, rfl, _, rfl, _, rfl, _, rfl, _, rfl, _, _, rfl, rfl, _, rfl, b, c, r, congrArg (fun z => [V.ref b, V.int z, V.ref r]) ed, D8.2.1, D8.2.2, n1, n2, fun v9 m9 H9 d9 hv9 g9 z9 q9 => ⟨by show 7 ≤ sizeLine; decide, fun p hp => ?_⟩⟩
      have n := Same.new (o := .tup [.str "may", .str nm, .str (owS ow), .int i, .int j, v8, v9]) hp
      exact kk _ (.may nm ow i j m8 m9) _ ((D8.trans d9).same n) ⟨p, v8, v9, rfl, SqT.of upd_same, (hv8.ts (d9.ts D8.2.1 D8.2.2)).mono n, hv9.mono n⟩ ⟨nok, di, dj, g8, g9⟩ (by show max (ndep m8) (ndep m9) + 1 ≤ _; omega) ⟨nqq, q8, q9⟩
end
end SL
namespace SL
open PySem PySem.Spec PyProof.Rows L2 TL
section
variable {K : PySem.W.Frag} {b c p : Addr} {M : List Addr} {H H' : Hp} {o : HO}
theorem Dr.free (x : Dr b c H H') (h : H' p = none) : H p = none := by
  cases e : H p with
  | none => rfl
  | some u =>
    by_cases n : p = b
    · obtain ⟨_, _, _, _, _, hb, _⟩ := x.2
      rw [n, hb] at h
      cases h
    · rw [x.1 _ _ (fun m => n (List.mem_singleton.mp m)) e] at h
      cases h
theorem Ex.upd0 (e : Ex M H H') (h : H p = none) : Ex M H (upd H' p o) := fun a u m q => by
  rw [upd_ne (ne_of_none q h)]
  exact e a u m q
theorem BoxAt.ne (h : BoxAt H b c) (q : H p = none) : p ≠ b ∧ p ≠ c := by
  obtain ⟨_, cs, i, z, s, hb, hc, _⟩ := h
  exact ⟨fun e => (by rw [e, hb] at q; cases q), fun e => (by rw [e, hc] at q; cases q)⟩
theorem BoxAt.hid (h : BoxAt H b c) (n1 : p ≠ b) (n2 : p ≠ c) : BoxAt (hid p H) b c := by
  obtain ⟨n, cs, i, z, s, hb, hc, r⟩ := h
  refine ⟨n, cs, i, z, s, ?_, ?_, r⟩
  · unfold SL.hid
    rw [if_neg n1.symm]
    exact hb
  · unfold SL.hid
    rw [if_neg n2.symm]
    exact hc
theorem BoxAt.upd (h : BoxAt H b c) (n1 : p ≠ b) (n2 : p ≠ c) : BoxAt (upd H p o) b c := by
  obtain ⟨n, cs, i, z, s, hb, hc, r⟩ := h
  exact ⟨n, cs, i, z, s, by rw [upd_ne n1.symm]; exact hb, by rw [upd_ne n2.symm]; exact hc, r⟩
theorem Ex.hid (e : Ex M H H') : Ex M (hid p H) (hid p H') := fun a u m q => by
  unfold SL.hid at q ⊢
  by_cases n : a = p
  · rw [if_pos n] at q
    cases q
  · rw [if_neg n] at q ⊢
    exact e a u m q
theorem hid_upd : hid p (upd H p o) = hid p H := by
  funext a
  unfold SL.hid
  by_cases n : a = p
  · rw [if_pos n, if_pos n]
  · rw [if_neg n, if_neg n, upd_ne n]
theorem ts_hid {xs : List V} (h : H p = some (.lst xs)) : TS H (hid p H) := Ex.ts (M := [p]) (fun a m => by cases List.mem_singleton.mp m; exact ⟨_, h⟩) fun a u m q => by
  unfold SL.hid
  rw [if_neg (fun z => m (List.mem_singleton.mpr z))]
  exact q
/-- a list of references is no box -/
theorem box_ne {a : Addr} {us : List V} (hB : BoxAt H b c) (h : H a = some (.lst us)) (hu : ∀ u, u ∈ us → ∃ x, u = V.ref x) : a ∉ [b] := fun m => by
  obtain ⟨_, cs, i, z, s, hb, _⟩ := hB
  rw [List.mem_singleton.mp m, hb] at h
  cases h
  obtain ⟨x, e⟩ := hu (.int (i : Int)) (List.mem_cons_of_mem _ List.mem_cons_self)
  cases e
theorem all2_ref {α : Type} {R : α → V → Prop} : ∀ {xs : List α} {us : List V}, (∀ x u, R x u → ∃ a, u = V.ref a) → All2 R xs us → ∀ u, u ∈ us → ∃ a, u = V.ref a := by
  intro xs us hR h
  induction h with
  | nil => exact fun u m => nomatch m
  | cons r t ih =>
    intro u m
    rcases List.mem_cons.mp m with z | z
    · rw [z]; exact hR _ _ r
    · exact ih u z
theorem RowAt.ex (hB : BoxAt H b c) (e : Ex [b] H H') {row : List Rat} {v : V} (h : RowAt K H row v) : RowAt K H' row v := by
  obtain ⟨a, us, r, h, q⟩ := h
  exact ⟨a, us, r, e _ _ (box_ne hB h (all2_ref (fun x u z => by obtain ⟨a, r, _⟩ := z; exact ⟨a, r⟩) q)) h, q.imp fun _ _ z => z.ts (Ex.ts hB.lst e)⟩
theorem SRowAt.ex (hB : BoxAt H b c) (e : Ex [b] H H') {row : List (Nat × Nat)} {v : V} (h : SRowAt K H row v) : SRowAt K H' row v := by
  obtain ⟨a, us, r, h, q⟩ := h
  exact ⟨a, us, r, e _ _ (box_ne hB h (all2_ref (fun x u z => by obtain ⟨a, r, _⟩ := z; exact ⟨a, r⟩) q)) h, q.imp fun _ _ z => by
    obtain ⟨a, r, z⟩ := z
    exact ⟨a, r, ts_sqt (Ex.ts hB.lst e) z⟩⟩
theorem GridAt.ex (hB : BoxAt H b c) (e : Ex [b] H H') {P : List (List Rat)} {v : V} (h : GridAt K H P v) : GridAt K H' P v := by
  obtain ⟨a, us, r, h, q⟩ := h
  exact ⟨a, us, r, e _ _ (box_ne hB h (all2_ref (fun x u z => by obtain ⟨a, _, r, _⟩ := z; exact ⟨a, r⟩) q)) h, q.imp fun _ _ z => z.ex hB e⟩
theorem aml_dp : ∀ {row : List Rat} {us : List V}, All2 (fun q u => Amt K H u q) row us → DpAll K H us (row.map aData)
  | _, _, .nil => .nil
  | _, _, .cons a t => .cons a.dp (aml_dp t)
theorem aml_lay : ∀ row : List Rat, PyData.canLayAll0 (row.map aData) = true
  | [] => rfl
  | q :: row => by simp [PyData.canLayAll0, a_lay q, aml_lay row]
theorem aml_dep : ∀ row : List Rat, PyData.depthAll (row.map aData) ≤ 1
  | [] => Nat.zero_le _
  | q :: row => by
    have := aml_dep row
    have := a_dep q
    simp [PyData.depthAll]
    omega
theorem aml_shaped (row : List Rat) : SeqAt.shaped (.list (row.map aData)) = true := by
  unfold SeqAt.shaped
  have e : (PyData.list (row.map aData)).depth ≤ 64 := by
    have := aml_dep row
    simp only [PyData.depth]
    omega
  rw [decide_eq_true e]
  simp only [PyData.canLay0, aml_lay, Bool.and_self]
theorem a_shaped (q : Rat) : SeqAt.shaped (aData q) = true := by
  unfold SeqAt.shaped
  have e : (aData q).depth ≤ 64 := Nat.le_trans (a_dep q) (by decide)
  rw [decide_eq_true e, a_lay]
  rfl
theorem aml_eqv (row : List Rat) : PyData.eqv (.list (row.map aData)) (.list []) = row.isEmpty := by
  cases row <;> simp [PyData.eqv, PyData.eqvAll]
theorem a_eqv (x y : Rat) : PyData.eqv (aData x) (aData y) = decide (x = y) := by
  rw [Bool.eq_iff_iff, decide_eq_true_iff]
  simp only [aData, PyData.eqv, PyData.eqvAll, Bool.and_true, Bool.and_eq_true, beq_iff_eq]
  constructor
  · rintro ⟨h1, h2⟩
    exact Rat.ext h1 (by omega)
  · rintro rfl
    exact ⟨rfl, rfl⟩
def pairI (q : Rat) : List Int := [q.num, (q.den : Int)]
theorem pairI_inj {x y : Rat} (h : pairI x = pairI y) : x = y := by
  unfold pairI at h
  have h1 := (List.cons.inj h).1
  have h2 := (List.cons.inj (List.cons.inj h).2).1
  exact Rat.ext h1 (by omega)
theorem aml_ks : ∀ {row : List Rat} {us : List V}, All2 (fun q u => Amt K H u q) row us → ∃ ks : List (Addr × List Int), us = ks.map (fun p => V.ref p.1) ∧ ks.map (·.2) = row.map pairI ∧ ∀ p ∈ ks, SqT K H p.1 (p.2.map V.int)
  | _, _, .nil => ⟨[], rfl, rfl, fun _ z => nomatch z⟩
  | _, _, .cons (a := q) ⟨a, e, h⟩ t => by
    obtain ⟨ks, e1, e2, h3⟩ := aml_ks t
    refine ⟨(a, pairI q) :: ks, by rw [e, e1]; rfl, by rw [List.map_cons, List.map_cons, e2], fun p hp => ?_⟩
    rcases List.mem_cons.mp hp with z | z
    · rw [z]; exact h
    · exact h3 p z
theorem two_of {L : List (List Int)} {row : List Rat} (nd : L.Nodup) (h2 : 2 ≤ L.length) (sub : ∀ z ∈ L, z ∈ row.map pairI) : ∃ x y, x ∈ row ∧ y ∈ row ∧ x ≠ y := by
  match L, h2, nd, sub with
  | a :: b :: L, _, nd, sub =>
    obtain ⟨x, hx, ex⟩ := List.mem_map.mp (sub a List.mem_cons_self)
    obtain ⟨y, hy, ey⟩ := List.mem_map.mp (sub b (List.mem_cons_of_mem _ List.mem_cons_self))
    refine ⟨x, y, hx, hy, fun z => ?_⟩
    have : a = b := by rw [← ex, ← ey, z]
    exact (List.nodup_cons.mp nd).1 (this ▸ List.mem_cons_self)
end
end SL
namespace SL
open PySem PySem.Spec PyProof.Rows L2 TL
section
variable {w : World} {K : PySem.W.Frag} {mg : Str → Option Value} {base : Heap}
theorem units65 {k : Nat} {A : Around} (r : Room k A) (h : 1 ≤ k) : A.units + 65 < cLine := by
  have := r.un
  omega
theorem cutHd {v : V} {vs : List V} : cutV (v :: vs) none (some 1) = [v] := by
  unfold cutV
  rw [HT.sIx_none, show (1 : Int) = ((1 : Nat) : Int) from rfl, HT.sIx_nat, List.length_cons, Nat.min_eq_left (by omega), List.drop_zero, Nat.sub_zero]
  rfl
theorem more_bd {q : Rat} {t : Int} (h : Bd 40 9 q) (p : 0 < q) (t0 : 0 ≤ t) (t1 : t ≤ 8) : Bd 121 9 (q + ((1 + t : Int) : Rat)) ∧ 0 < q + ((1 + t : Int) : Rat) := by
  refine ⟨?_, ?_⟩
  · rw [← plus_low, Rat.num_intCast, Rat.den_intCast]
    have hd := den_pos q
    have h1 := h.1
    have h2 := h.2
    refine Bd.low (by simpa using hd) ?_ (by simp; omega)
    have e : (1 + t) * (q.den : Int) ≤ 9 * (q.den : Int) := Int.mul_le_mul_of_nonneg_right (by omega) (by omega)
    have e0 : 0 ≤ (1 + t) * (q.den : Int) := Int.mul_nonneg (by omega) (by omega)
    simp only [Int.natCast_one, Int.mul_one]
    omega
  · have : (0 : Rat) ≤ ((1 + t : Int) : Rat) := by
      have := Rat.intCast_nonneg (a := 1 + t)
      exact this.mpr (by omega)
    grind
/-- what a drawn row is -/
structure RowG (row : List Rat) : Prop where
  one : 1 ≤ row.length
  most : row.length ≤ 8
  num : ∀ q, q ∈ row → Bd 121 9 q ∧ 0 < q
structure RowsG (n : Nat) (G : List (List Rat)) : Prop where
  len : G.length = n
  top : ∃ q, G[0]? = some [q]
  row : ∀ r, r ∈ G → RowG r
  two : ∀ (d : Nat) (r : List Rat), 1 ≤ d → G[d]? = some r → ∃ x y, x ∈ r ∧ y ∈ r ∧ x ≠ y
def spRows (K : PySem.W.Frag) : Sp := fun vs H Q _ => ∃ (b c : Addr) (n : Nat) (m : Int), vs = [.ref b, .int (n : Int), .int m] ∧ BoxAt H b c ∧ 1 ≤ n ∧ n ≤ 4 ∧ 2 ≤ m ∧ m ≤ 3 ∧ ∀ v G H', Dr b c H H' → GridAt K H' G v → RowsG n G → Q v H'
theorem ok_Lrows (T : TX w K mg) : Fn w K mg base 4 (He.ga K "_law_rows_between") (spRows K) := by
  refine fn_Lrows_between (k := 3) T (fun vs H Q E h => ?_) (fun cdv A outer s H vs Q E hr h => ?_)
  · obtain ⟨_, _, _, _, rfl, _⟩ := h
    rfl
  · obtain ⟨b, c, n, m, rfl, hB, n1, n4, m2, m3, kk⟩ := h
    have hu := hr.units
    have hu65 := units65 hr (by decide)
    refine ⟨_, pss_cons (ps_set (i := 3) sc_Lrows_between.nd rfl (.inl rfl) (pe_lst (pa_cons (pe_lst (pa_cons (pe_callF (ok_Labove T) rfl hr rfl (g_Labove T) (pa_cons (pv 0) (pa_cons pe_int pa_nil))) pa_nil)) pa_nil)))
      (pss_cons (ps_for PassesOwn.never rfl (pi_range2 rfl (b_range T) (pa_cons pe_int (pa_cons (pv 1) pa_nil))) (pg_name (i := 4) sc_Lrows_between.nd rfl (.inl rfl))
        (pss_cons (ps_set (i := 5) sc_Lrows_between.nd rfl (.inl rfl) (pe_lst pa_nil))
        (pss_cons (ps_for PassesOwn.never rfl (pi_range1 rfl (b_range T) (pa_cons (pe_op op_add pe_int (pe_callF (ok_Ltake T) rfl hr rfl (g_Ltake T) (pa_cons (pv 0) (pa_cons (pe_op op_sub (pv 2) pe_int) pa_nil)))) pa_nil)) (pg_name (i := 6) sc_Lrows_between.nd rfl (.inl rfl))
          (pss_cons (ps_set (i := 7) sc_Lrows_between.nd rfl (.inl rfl) (pe_callF (ok_Labove T) rfl hr rfl (g_Labove T) (pa_cons (pv 0) (pa_cons pe_int pa_nil))))
          (pss_one (ps_if (PW.pt (pw_or (pt_cmpR (op_eqD hu) (pv 5) (pe_lst pa_nil) (nomark _)) (pw_or (pt_cmpR (op_notInD hu65) (pv 7) (pv 5) (by with_unfolding_all rfl)) (pw_or1 (pt_cmpR op_eq (pe_callF (ok_Ltake T) rfl hr rfl (g_Ltake T) (pa_cons (pv 0) (pa_cons pe_int pa_nil))) pe_int (nomark _))))))
            (pss_one (ps_expr (pe_bm PySem.F.plainAttrs_list PySem.F.slot_list_append PySem.F.type_list_append mt_append (pv 5) (pa_cons (pv 7) pa_nil)))) pss_nil))))
        (pss_cons (ps_if (pt_cmpR op_lt (pe_lenSetT hu rfl rfl (b_len T) rfl (b_set T) (pv 5)) pe_int (nomark _))
          (pss_one (ps_set (i := 5) sc_Lrows_between.nd rfl (.inl rfl) (pe_op op_cat (pe_slice sl_list (pv 5) po_none (po_some pe_int)) (pe_lst (pa_cons (pe_callF (ok_Lsum T) rfl hr rfl (g_Lsum T) (pa_cons (pe_ix ix_list (pv 5) pe_int (fun _ _ => rfl)) (pa_cons (pe_tup (pa_cons (pe_op op_add pe_int (pe_callF (ok_Ltake T) rfl hr rfl (g_Ltake T) (pa_cons (pv 0) (pa_cons pe_int pa_nil)))) (pa_cons pe_int pa_nil))) pa_nil))) pa_nil))))) pss_nil)
        (pss_one (ps_expr (pe_bm PySem.F.plainAttrs_list PySem.F.slot_list_append PySem.F.type_list_append mt_append (pv 3) (pa_cons (pv 5) pa_nil))))))))
      (pss_one (ps_ret (pv 3)))), ?_⟩
    refine ⟨_, rfl, b, c, 30, rfl, hB, by decide, by decide, fun v0 q0 H1 d1 hv0 g0 p0 => ⟨by show 1 ≤ sizeLine; decide, fun pr hpr => ⟨by show 1 ≤ sizeLine; decide, fun P hP => ?_⟩⟩⟩
    have e1 := Same.new (o := .lst [v0]) hpr
    have e2 := Same.new (o := .lst [.ref pr]) hP
    have npP : pr ≠ P := ne_of_none upd_same hP
    have B2 := d1.2.mono (e1.trans e2)
    obtain ⟨nPb, nPc⟩ := (d1.2.mono e1).ne hP
    have X2 : Ex [b] H _ := d1.1.trans (Ex.same (e1.trans e2))
    have P0 : H P = none := (d1.same e1).free hP
    have hP2 : (upd (upd H1 pr (.lst [v0])) P (.lst [.ref pr])) P = some (.lst [.ref pr]) := upd_same
    have G2 : All2 (RowAt K (hid P (upd (upd H1 pr (.lst [v0])) P (.lst [.ref pr])))) [[q0]] [.ref pr] := by
      rw [hid_upd]
      exact .cons ⟨pr, [v0], rfl, by unfold SL.hid; rw [if_neg npP]; exact upd_same, .cons ((hv0.mono e1).mono (same_hid hP (Same.refl _))) .nil⟩ .nil
    have R2 : RowsG 1 [[q0]] := ⟨rfl, ⟨q0, rfl⟩, fun r hr => by
      cases List.mem_singleton.mp hr
      exact ⟨by simp, by simp, fun q hq => by
        cases List.mem_singleton.mp hq
        exact ⟨⟨Nat.le_trans g0.1 (by decide), g0.2⟩, p0⟩⟩, fun d r hd h => by
      have := (List.getElem?_eq_some_iff.mp h).1
      simp at this
      omega⟩
    generalize upd (upd H1 pr (.lst [v0])) P (.lst [.ref pr]) = H2 at B2 X2 hP2 G2
    refine ⟨_, rfl, 1, n, rfl, ⟨by decide, by decide, by omega, by omega⟩, ?_⟩
    refine for_range (lo := 1) (n := ((n : Int) - 1).toNat) (fun i σ' H' => ∃ x4 x5 x6 x7 G us, σ' = [some (.ref b), some (.int (n : Int)), some (.int m), some (.ref P), x4, x5, x6, x7] ∧ Ex [b] H H' ∧ BoxAt H' b c ∧ H' P = some (.lst us) ∧ All2 (RowAt K (hid P H')) G us ∧ RowsG (i + 1) G)
      ⟨none, none, none, none, _, _, rfl, X2, B2, hP2, G2, R2⟩ (fun i σ' HA hi ⟨x4, x5, x6, x7, G, us, eσ, XA, BA, hPA, GA, RA⟩ => ?_) (fun σ' HA ⟨x4, x5, x6, x7, G, us, eσ, XA, BA, hPA, GA, RA⟩ => ?_)
    · subst eσ
      refine ⟨by show 0 ≤ sizeLine; decide, fun R hR => ?_⟩
      have eR := Same.new (o := .lst []) hR
      have nRP : P ≠ R := ne_of_none hPA hR
      obtain ⟨nRb, nRc⟩ := BA.ne hR
      have BB := BA.mono eR
      have XB : Ex [b] HA (upd HA R (.lst [])) := Ex.same eR
      have hRB : (upd HA R (.lst [])) R = some (.lst []) := upd_same
      generalize upd HA R (.lst []) = HB at BB XB hRB
      refine ⟨_, rfl, _, rfl, _, _, rfl, rfl, b, c, _, rfl, BB, by omega, by omega, fun t HC t0 t1 dC => ⟨_, _, rfl, rfl, _, rfl, by omega, by omega, ?_⟩⟩
      have hRC := dC.1 _ _ (fun z => nRb (List.mem_singleton.mp z)) hRB
      refine for_range (lo := 0) (n := (2 + t).toNat) (fun j σ' H' => ∃ x6 x7 row vs, σ' = [some (.ref b), some (.int (n : Int)), some (.int m), some (.ref P), some (.int (1 + (i : Int))), some (.ref R), x6, x7] ∧ Ex [b] HA H' ∧ BoxAt H' b c ∧ H' R = some (.lst vs) ∧ All2 (fun q u => Amt K H' u q) row vs ∧ row.length ≤ j ∧ (1 ≤ j → 1 ≤ row.length) ∧ ∀ q ∈ row, Bd 40 9 q ∧ 0 < q)
        ⟨x6, x7, [], [], rfl, XB.trans dC.1, dC.2, hRC, .nil, Nat.le_refl _, fun z => (by omega), fun q z => (nomatch z)⟩ (fun j σ' HD hj ⟨x6, x7, row, vs, eσ, XD, BD, hRD, AD, l1, l2, gd⟩ => ?_) (fun σ' HD ⟨x6, x7, row, vs, eσ, XD, BD, hRD, AD, l1, l2, gd⟩ => ?_)
      · subst eσ
        refine ⟨_, rfl, b, c, 40, rfl, BD, by decide, by decide, fun v q HE dE hv gq pq => ?_⟩
        have hRE := dE.1 _ _ (fun z => nRb (List.mem_singleton.mp z)) hRD
        have AE := AD.imp fun _ _ z => z.ts (dE.ts BD)
        have PUT : ∀ H', Ex [b] HA H' → BoxAt H' b c → H' R = some (.lst vs) → All2 (fun q u => Amt K H' u q) row vs → Amt K H' v q → vs.length < sizeLine ∧ ∃ x6' x7' row' vs', [some (.ref b), some (.int (n : Int)), some (.int m), some (.ref P), some (.int (1 + (i : Int))), some (.ref R), some (.int (0 + (j : Int))), some v] = [some (.ref b), some (.int (n : Int)), some (.int m), some (.ref P), some (.int (1 + (i : Int))), some (.ref R), x6', x7'] ∧ Ex [b] HA (upd H' R (.lst (vs ++ [v]))) ∧ BoxAt (upd H' R (.lst (vs ++ [v]))) b c ∧ (upd H' R (.lst (vs ++ [v]))) R = some (.lst vs') ∧ All2 (fun q u => Amt K (upd H' R (.lst (vs ++ [v]))) u q) row' vs' ∧ row'.length ≤ j + 1 ∧ (1 ≤ j + 1 → 1 ≤ row'.length) ∧ ∀ q ∈ row', Bd 40 9 q ∧ 0 < q := fun H' X' B' hR' A' hv' => by
          have tsR : TS H' (upd H' R (.lst (vs ++ [v]))) := ts_lst hR'
          refine ⟨?_, _, _, row ++ [q], vs ++ [v], rfl, X'.upd0 hR, B'.upd nRb nRc, upd_same, (A'.imp fun _ _ z => z.ts tsR).app (.cons (hv'.ts tsR) .nil), by simp; omega, fun _ => by simp, fun x hx => ?_⟩
          · have := A'.len
            exact Nat.lt_of_lt_of_le (m := 100) (by omega) (by decide)
          · rcases List.mem_append.mp hx with z | z
            · exact gd x z
            · cases List.mem_singleton.mp z
              exact ⟨gq, pq⟩
        refine ⟨_, rfl, by show 0 ≤ sizeLine; decide, fun pe hpe => ?_⟩
        have n1 := Same.new (o := .lst []) hpe
        have XF : Ex [b] HA _ := (XD.trans dE.1).trans (Ex.same n1)
        have BF := dE.2.mono n1
        have hRF := n1 _ _ hRE
        have AF := AE.imp fun _ _ z => z.mono n1
        have hvF := hv.mono n1
        refine ⟨.list (row.map aData), .list [], .lst (SqL.of hRF) (aml_dp AF), .lst (SqL.of upd_same) .nil, aml_shaped row, nill_shaped, _, rfl, ?_⟩
        rw [aml_eqv]
        generalize upd HE pe (.lst []) = HF at XF BF hRF AF hvF
        cases hE : row.isEmpty with
        | true => exact iteT (iteT ⟨_, rfl, .inl ⟨rfl, _, SqL.of hRF⟩, _, rfl, R, vs, v, rfl, rfl, hRF, (PUT HF XF BF hRF AF hvF).1, (PUT HF XF BF hRF AF hvF).2⟩)
        | false =>
          have l0 : 1 ≤ row.length := by
            cases row with
            | nil => cases hE
            | cons x l => simp
          refine iteF ⟨_, rfl, _, rfl, aData q, row.map aData, hvF.dp, .lst (SqL.of hRF) (aml_dp AF), a_shaped q, aml_shaped row, _, rfl, ?_⟩
          cases (!(row.map aData).any fun z => PyData.eqv z (aData q)) with
          | true => exact iteT (iteT ⟨_, rfl, .inl ⟨rfl, _, SqL.of hRF⟩, _, rfl, R, vs, v, rfl, rfl, hRF, (PUT HF XF BF hRF AF hvF).1, (PUT HF XF BF hRF AF hvF).2⟩)
          | false =>
            refine iteF ⟨_, rfl, b, c, _, rfl, BF, by decide, by decide, fun r HG r0 r1 dG => ⟨rfl, _, rfl, ?_⟩⟩
            have hRG := dG.1 _ _ (fun z => nRb (List.mem_singleton.mp z)) hRF
            have AG := AF.imp fun _ _ z => z.ts (dG.ts BF)
            have hvG := hvF.ts (dG.ts BF)
            refine ite2 (fun _ => ⟨_, rfl, .inl ⟨rfl, _, SqL.of hRG⟩, _, rfl, R, vs, v, rfl, rfl, hRG, (PUT HG (XF.trans dG.1) dG.2 hRG AG hvG).1, (PUT HG (XF.trans dG.1) dG.2 hRG AG hvG).2⟩) (fun _ => ⟨_, _, row, vs, rfl, XF.trans dG.1, dG.2, hRG, AG, by omega, fun _ => l0, gd⟩)
      · subst eσ
        have lr : row.length ≤ 3 := by omega
        have hl1 : 1 ≤ row.length := l2 (by omega)
        obtain ⟨ks, ek1, ek2, ek3⟩ := aml_ks AD
        have lv := AD.len
        have kl : ks.length = row.length := by rw [lv, ek1, List.length_map]
        refine nx_mk ?_
        refine seq_join (fun σ' H' => ∃ R' row' vs', σ' = [some (.ref b), some (.int (n : Int)), some (.int m), some (.ref P), some (.int (1 + (i : Int))), some (.ref R'), x6, x7] ∧ Ex [b] HA H' ∧ BoxAt H' b c ∧ R' ≠ P ∧ H' R' = some (.lst vs') ∧ All2 (fun q u => Amt K H' u q) row' vs' ∧ RowG row' ∧ ∃ x y, x ∈ row' ∧ y ∈ row' ∧ x ≠ y) (fun N hN => ?_) (fun σ' HE ⟨R', row', vs', eσ, XE, BE, nR', hRE, AE, RG, tw⟩ => ?_)
        · refine ⟨_, rfl, R, ks, rfl, by rw [← ek1]; exact SqL.of hRD, ek3, by omega, fun L nd lf sub sup => ⟨_, _, rfl, rfl, _, rfl, ?_⟩⟩
          rw [ek2] at sub sup
          by_cases h2 : ((L.length : Nat) : Int) < 2
          · refine itP h2 ?_
            refine ⟨_, rfl, _, rfl, R, vs, rfl, SqL.of hRD, fun S hS => ?_⟩
            obtain ⟨q0, row', er⟩ : ∃ q0 row', row = q0 :: row' := by
              cases row with
              | nil => simp at hl1
              | cons a l => exact ⟨a, l, rfl⟩
            obtain ⟨v0, vs0, ev⟩ : ∃ v0 vs0, vs = v0 :: vs0 := by
              cases vs with
              | nil => rw [er] at lv; simp at lv
              | cons a l => exact ⟨a, l, rfl⟩
            subst er
            subst ev
            have a0 : Amt K HD v0 q0 := by cases AD with | cons z _ => exact z
            have g0 := gd q0 List.mem_cons_self
            rw [cutHd]
            have nS := Same.new (o := .lst [v0]) hS
            have hRS := nS _ _ hRD
            have BS := BD.mono nS
            have hSS : (upd HD S (.lst [v0])) S = some (.lst [v0]) := upd_same
            have XS : Ex [b] HA (upd HD S (.lst [v0])) := XD.trans (Ex.same nS)
            have aS := a0.mono nS
            obtain ⟨nSb, nSc⟩ := BD.ne hS
            generalize upd HD S (.lst [v0]) = HS at hRS BS hSS XS aS
            refine ⟨_, rfl, R, _, _, _, rfl, rfl, SqL.of hRS, atI_nat (j := 0) rfl, ?_⟩
            refine ⟨_, rfl, b, c, 9, rfl, BS, by decide, by decide, fun t HE t0 t1 dE => ⟨_, _, rfl, rfl, by show 2 ≤ sizeLine; decide, fun tp htp => ?_⟩⟩
            have nT := Same.new (o := .tup [.int (1 + t), .int 1]) htp
            have dT := dE.same nT
            have at1 : Amt K (upd HE tp (.tup [.int (1 + t), .int 1])) (.ref tp) (((1 + t : Int) : Rat)) := ⟨tp, rfl, SqT.of (by rw [upd_same, Rat.num_intCast, Rat.den_intCast]; rfl)⟩
            have aT := aS.ts (dT.ts BS)
            have hST := dT.1 _ _ (fun z => nSb (List.mem_singleton.mp z)) hSS
            have z1 : Sz 8 (((1 + t : Int) : Rat)) := ⟨by rw [Rat.num_intCast]; omega, by rw [Rat.den_intCast]; decide⟩
            refine ⟨_, _, q0, _, 8, 8, rfl, aT, at1, g0.1.sz (by decide) (by decide), z1, by decide, fun z HF eF hz => ⟨by show 1 ≤ sizeLine; decide, fun L hL => ?_⟩⟩
            have nL := Same.new (o := .lst [z]) hL
            have hSF := nL _ _ (eF _ _ hST)
            refine ⟨S, L, _, _, rfl, rfl, hSF, upd_same, by show 2 ≤ sizeLine; decide, fun R' hR' => ?_⟩
            have nR' := Same.new (o := .lst ([v0] ++ [z])) hR'
            have eT := (eF.trans nL).trans nR'
            have dR := dT.same eT
            refine hN _ _ ⟨R', [q0, q0 + ((1 + t : Int) : Rat)], [v0, z], rfl, XS.trans dR.1, dR.2, ?_, upd_same, .cons (aT.mono eT) (.cons (hz.mono (nL.trans nR')) .nil), ?_, q0, _, List.mem_cons_self, List.mem_cons_of_mem _ List.mem_cons_self, ?_⟩
            · exact (ne_of_none ((XS.trans (dT.1.trans (Ex.same (eF.trans nL)))) P _ (fun z => nPb (List.mem_singleton.mp z)) hPA) hR').symm
            · refine ⟨by simp, by simp, fun q hq => ?_⟩
              rcases List.mem_cons.mp hq with e | e
              · rw [e]
                exact ⟨⟨Nat.le_trans g0.1.1 (by decide), g0.1.2⟩, g0.2⟩
              · cases List.mem_singleton.mp e
                exact more_bd g0.1 g0.2 t0 (by omega)
            · intro e
              have : ((1 + t : Int) : Rat) = 0 := by grind
              have := congrArg Rat.num this
              rw [Rat.num_intCast] at this
              have e0 : (0 : Rat).num = 0 := rfl
              omega
          · exact itN h2 (hN _ _ ⟨R, row, vs, rfl, XD, BD, nRP.symm, hRD, AD, ⟨hl1, by omega, fun q hq => ⟨⟨Nat.le_trans (gd q hq).1.1 (by decide), (gd q hq).1.2⟩, (gd q hq).2⟩⟩, two_of nd (by omega) sub⟩)
        · subst eσ
          have hPE := XE P _ (fun z => nPb (List.mem_singleton.mp z)) hPA
          have GE := GA.imp fun _ _ z => z.ex (BA.hid nPb nPc) (Ex.hid XE)
          have lus := GA.len
          have lG := RA.len
          refine ⟨_, rfl, .inl ⟨rfl, _, SqL.of hPE⟩, _, rfl, P, us, .ref R', rfl, rfl, hPE, Nat.lt_of_lt_of_le (m := 100) (by omega) (by decide), ?_⟩
          refine ⟨_, _, _, _, G ++ [row'], us ++ [.ref R'], rfl, (XA.trans XE).upd0 P0, BE.upd nPb nPc, upd_same, ?_, ?_, ?_, ?_, ?_⟩
          · rw [hid_upd]
            exact GE.app (.cons ⟨R', vs', rfl, by unfold SL.hid; rw [if_neg nR']; exact hRE, AE.imp fun _ _ z => z.ts (ts_hid hPE)⟩ .nil)
          · rw [List.length_append, lG]
            rfl
          · obtain ⟨q, hq⟩ := RA.top
            exact ⟨q, by rw [List.getElem?_append_left (by omega)]; exact hq⟩
          · intro r hr
            rcases List.mem_append.mp hr with z | z
            · exact RA.row r z
            · cases List.mem_singleton.mp z
              exact RG
          · intro d r hd h
            by_cases e : d < G.length
            · rw [List.getElem?_append_left e] at h
              exact RA.two d r hd h
            · rw [List.getElem?_append_right (by omega)] at h
              have := List.mem_of_getElem? h
              cases List.mem_singleton.mp this
              exact tw
    · subst eσ
      have en : ((n : Int) - 1).toNat + 1 = n := by omega
      rw [en] at RA
      exact ⟨_, rfl, kk _ G HA ⟨XA, BA⟩ ⟨P, us, rfl, hPA, GA.imp fun _ _ z => z.mono (hid_same HA)⟩ RA⟩
end
end SL
namespace SL
open PySem PySem.Spec PyProof.Rows L2 TL
section
variable {w : World} {K : PySem.W.Frag} {mg : Str → Option Value} {base : Heap}
def nI (k : Nat) : V := .int ((k : Nat) : Int)
def spStepsB (K : PySem.W.Frag) : Sp := fun vs H Q _ => ∃ (b c p : Addr) (us : List V) (row : List Rat), vs = [.ref b, .ref p] ∧ BoxAt H b c ∧ p ≠ b ∧ H p = some (.lst us) ∧ All2 (fun q u => Amt K H u q) row us ∧ RowG row ∧ (∃ x y, x ∈ row ∧ y ∈ row ∧ x ≠ y) ∧
  ∀ z u v qu qv H', Dr b c H H' → SAt K H' (u, v) z → row[u]? = some qu → row[v]? = some qv → qv < qu → Q z H'
theorem ok_Lsteps (T : TX w K mg) : Fn w K mg base 3 (He.ga K "_law_steps_between") (spStepsB K) := by
  refine fn_Lsteps_between (k := 2) T (fun vs H Q E h => ?_) (fun cdv A outer s H vs Q E hr h => ?_)
  · obtain ⟨_, _, _, _, _, rfl, _⟩ := h
    rfl
  · obtain ⟨b, c, p, us, row, rfl, hB, npb, hp, ha, RG, tw, kk⟩ := h
    have hu := hr.units
    have lr := ha.len
    have l1 := RG.one
    have l8 := RG.most
    refine ⟨_, pss_cons (ps_set (i := 2) sc_Lsteps_between.nd rfl (.inr rfl) (pe_callF (ok_Ltake T) rfl hr rfl (g_Ltake T) (pa_cons (pv 0) (pa_cons (pe_callB call_len_seq rfl (b_len T) boot_len (pa_cons (pv 1) pa_nil)) pa_nil))))
      (pss_cons (ps_set (i := 3) sc_Lsteps_between.nd rfl (.inl rfl) (pe_callF (ok_Lone T) rfl hr rfl (g_Lone T) (pa_cons (pv 0) (pa_cons
        (pe_lc (own := [("_law_k", 4)]) (g := gName 4) (tt := tTest (tOp (rNeD K) (tOp (rIxL K) (tVar 1) (tVar 4)) (tOp (rIxL K) (tVar 1) (tVar 2)))) (te := tVar 4) rfl sc_Lsteps_between.nd
          (pi_range1 rfl (b_range T) (pa_cons (pe_callB call_len_seq rfl (b_len T) boot_len (pa_cons (pv 1) pa_nil)) pa_nil))
          (blkOk_by (own := [("_law_k", 4)]) (N := ["_law_box_here", "_law_row", "_law_one_here", "_law_other", "_law_k"]) (sc := defScope s_Lsteps_between) (by decide +kernel))
          (fun _ _ _ _ _ => pg_name (i := 4) sc_Lsteps_between.nd rfl (.inl rfl)) (fun _ _ _ _ _ => pts_one (pt_cmpR (op_neD hu) (pe_ix ix_list (pv 1) (pv 4) (fun _ _ => rfl)) (pe_ix ix_list (pv 1) (pv 2) (fun _ _ => rfl)) (nomark _))) (fun _ _ _ _ _ => pv 4)) pa_nil))))
      (pss_one (ps_ret (pe_ifExp (pt_val (pe_callF (ok_Lunder T) rfl hr rfl (g_Lunder T) (pa_cons (pe_ix ix_list (pv 1) (pv 3) (fun _ _ => rfl)) (pa_cons (pe_ix ix_list (pv 1) (pv 2) (fun _ _ => rfl)) pa_nil))))
        (pe_tup (pa_cons (pv 2) (pa_cons (pv 3) pa_nil))) (pe_tup (pa_cons (pv 3) (pa_cons (pv 2) pa_nil))))))), ?_⟩
    refine ⟨_, rfl, _, rfl, p, _, rfl, .inl (SqL.of hp), b, c, _, rfl, hB, by omega, by omega, fun r H1 r0 r1 d1 => ?_⟩
    obtain ⟨i, rfl⟩ : ∃ i : Nat, r = (i : Int) := ⟨r.toNat, by omega⟩
    have hi : i < us.length := by omega
    have hp1 := d1.1 _ _ (fun z => npb (List.mem_singleton.mp z)) hp
    have ha1 := ha.imp fun _ _ z => z.ts (d1.ts hB)
    have hiu : us[i]? = some us[i] := List.getElem?_eq_getElem hi
    obtain ⟨qi, hqi, ai⟩ := ha1.get hiu
    generalize us[i] = ui at hiu ai
    refine ⟨_, rfl, _, rfl, p, _, rfl, .inl (SqL.of hp1), _, rfl, by omega, by omega, fun D hD => ?_⟩
    rw [Int.toNat_natCast]
    have npD : p ≠ D := ne_of_none hp1 hD
    refine lc_range (lo := 0) (n := us.length) (fun j H' => Same H1 H' ∧ ∃ ks : List Nat, H' D = some (.lst (ks.map nI)) ∧ ks.length ≤ j ∧ (∀ k ∈ ks, ∃ q, row[k]? = some q ∧ q ≠ qi) ∧ ∀ (k : Nat) (q : Rat), k < j → row[k]? = some q → q ≠ qi → k ∈ ks) ⟨Same.new hD, [], upd_same, Nat.le_refl _, fun _ z => (nomatch z), fun k q z => (by omega)⟩ (fun j H2 hj ⟨e2, ks, hk1, hk2, hk3, hk4⟩ => ?_) (fun H2 ⟨e2, ks, hk1, hk2, hk3, hk4⟩ => ?_)
    · have hju : us[j]? = some us[j] := List.getElem?_eq_getElem hj
      obtain ⟨qj, hqj, aj⟩ := ha1.get hju
      generalize us[j] = uj at hju aj
      refine ⟨rfl, ⟨_, rfl, _, rfl, p, us, ((j : Nat) : Int), _, rfl, by simp, SqL.of (e2 _ _ hp1), atI_nat hju, ?_⟩⟩
      refine ⟨_, rfl, _, rfl, p, us, _, _, rfl, rfl, SqL.of (e2 _ _ hp1), atI_nat hiu, aData qj, aData qi, (aj.mono e2).dp, (ai.mono e2).dp, a_shaped qj, a_shaped qi, _, rfl, ?_⟩
      rw [a_eqv]
      by_cases e : qj = qi
      · rw [decide_eq_true e]
        refine iteF ⟨e2, ks, hk1, by omega, hk3, fun k q hk hq ne => ?_⟩
        by_cases ek : k = j
        · rw [ek, hqj] at hq
          exact absurd ((Option.some.inj hq).symm.trans e) ne
        · exact hk4 k q (by omega) hq ne
      · rw [decide_eq_false e]
        refine iteT ⟨_, rfl, ks.map nI, hk1, by rw [List.length_map]; exact Nat.lt_of_lt_of_le (m := 100) (by omega) (by decide), same_mut e2 hD, ks ++ [j], ?_, ?_, ?_, ?_⟩
        · rw [upd_same, List.map_append]
          simp [nI]
        · rw [List.length_append]
          simp
          omega
        · intro k hk
          rcases List.mem_append.mp hk with z | z
          · exact hk3 k z
          · cases List.mem_singleton.mp z
            exact ⟨qj, hqj, e⟩
        · intro k q hk hq ne
          by_cases ek : k = j
          · rw [ek]
            exact List.mem_append_right _ (List.mem_singleton.mpr rfl)
          · exact List.mem_append_left _ (hk4 k q (by omega) hq ne)
    · have hB2 := d1.2.mono e2
      have nDb := (d1.2.ne hD).1
      have lk : 1 ≤ ks.length := by
        obtain ⟨x, y, hx, hy, nxy⟩ := tw
        have : ∃ z, z ∈ row ∧ z ≠ qi := by
          by_cases e : x = qi
          · exact ⟨y, hy, fun z => nxy (e.trans z.symm)⟩
          · exact ⟨x, hx, e⟩
        obtain ⟨z, hz, nz⟩ := this
        obtain ⟨k, hk⟩ := List.mem_iff_getElem?.mp hz
        have := (List.getElem?_eq_some_iff.mp hk).1
        have := hk4 k z (by omega) hk nz
        cases ks with
        | nil => cases this
        | cons a l => simp
      refine ⟨b, c, D, ks.map nI, rfl, nDb, hB2, hk1, by rw [List.length_map]; exact lk, by rw [List.length_map]; omega, fun v H3 hv d3 => ?_⟩
      obtain ⟨k, hk, rfl⟩ := List.mem_map.mp hv
      obtain ⟨qk, hqk, nk⟩ := hk3 k hk
      have hp3 := d3.1 _ _ (fun z => npb (List.mem_singleton.mp z)) (e2 _ _ hp1)
      have ha3 := ha1.imp fun _ _ z => (z.mono e2).ts (d3.ts hB2)
      obtain ⟨uk, huk, ak⟩ := ha3.getL hqk
      obtain ⟨ui', hui', ai3⟩ := ha3.getL hqi
      obtain rfl : ui = ui' := Option.some.inj (hiu.symm.trans hui')
      have bk := (RG.num qk (List.mem_of_getElem? hqk)).1
      have bi := (RG.num qi (List.mem_of_getElem? hqi)).1
      have D3 := (d1.same e2).trans d3
      refine ⟨_, rfl, _, rfl, p, us, _, _, rfl, rfl, SqL.of hp3, atI_nat huk, ?_⟩
      refine ⟨_, rfl, _, rfl, p, us, _, _, rfl, rfl, SqL.of hp3, atI_nat hiu, _, _, qk, qi, rfl, ak, ai3, (bk.sz (k := 8) (by decide) (by decide)).mono (by decide), (bi.sz (k := 8) (by decide) (by decide)).mono (by decide), _, rfl, ?_⟩
      refine ite2 (fun hc => ?_) (fun hc => ?_)
      · refine ⟨_, rfl, _, rfl, by show 2 ≤ sizeLine; decide, fun t ht => ?_⟩
        exact kk _ i k qi qk _ (D3.same (Same.new ht)) ⟨t, rfl, SqT.of upd_same⟩ hqi hqk (of_decide_eq_true hc)
      · refine ⟨_, rfl, _, rfl, by show 2 ≤ sizeLine; decide, fun t ht => ?_⟩
        have nl : ¬ qk < qi := fun z => hc (decide_eq_true z)
        exact kk _ k i qk qi _ (D3.same (Same.new ht)) ⟨t, rfl, SqT.of upd_same⟩ hqk hqi (by grind)
end
end SL
namespace SL
open PySem PySem.Spec PyProof.Rows L2 TL
/-! ### shares, and what a drawn lattice is -/
theorem share_ok {k n : Int} (n2 : 2 ≤ n) (n6 : n ≤ 6) (k1 : 1 ≤ k) (kn : k < n) : Sz 3 (Rat.divInt k n) ∧ Sz 3 (1 - Rat.divInt k n) ∧ 0 < Rat.divInt k n ∧ Rat.divInt k n < 1 := by
  unfold Sz
  obtain ⟨rfl, rfl⟩ | ⟨rfl, rfl⟩ | ⟨rfl, rfl⟩ | ⟨rfl, rfl⟩ | ⟨rfl, rfl⟩ | ⟨rfl, rfl⟩ | ⟨rfl, rfl⟩ | ⟨rfl, rfl⟩ | ⟨rfl, rfl⟩ | ⟨rfl, rfl⟩ | ⟨rfl, rfl⟩ | ⟨rfl, rfl⟩ | ⟨rfl, rfl⟩ | ⟨rfl, rfl⟩ | ⟨rfl, rfl⟩ :
    (n = 2 ∧ k = 1) ∨ (n = 3 ∧ k = 1) ∨ (n = 3 ∧ k = 2) ∨ (n = 4 ∧ k = 1) ∨ (n = 4 ∧ k = 2) ∨ (n = 4 ∧ k = 3) ∨ (n = 5 ∧ k = 1) ∨ (n = 5 ∧ k = 2) ∨ (n = 5 ∧ k = 3) ∨ (n = 5 ∧ k = 4) ∨ (n = 6 ∧ k = 1) ∨ (n = 6 ∧ k = 2) ∨ (n = 6 ∧ k = 3) ∨ (n = 6 ∧ k = 4) ∨ (n = 6 ∧ k = 5) := by omega
  all_goals decide +kernel
theorem times_lowR {k n : Int} (hn : 0 < n) (y : Rat) : Rat.divInt (k * y.num) (n * y.den) = Rat.divInt k n * y := by
  conv => rhs; rw [← Rat.num_divInt_den y]
  rw [Rat.divInt_mul_divInt]
/-- what is drawn for a node -/
def NdR (nr : List Rat) (q r : Rat) (uv : Nat × Nat) : Prop := ∃ hi lo s, nr[uv.1]? = some hi ∧ nr[uv.2]? = some lo ∧ Sz 40 r ∧ 0 < r ∧ Sz 3 s ∧ Sz 3 (1 - s) ∧ 0 < s ∧ s < 1 ∧ lo < hi ∧ r * q = lo + s * (hi - lo)
theorem ndr_of {nr : List Rat} {q hi lo s : Rat} {u v : Nat} (hu : nr[u]? = some hi) (hv : nr[v]? = some lo) (bh : Bd 121 9 hi) (bl : Bd 121 9 lo) (bq : Bd 121 9 q) (pl : 0 < lo) (pq : 0 < q) (lt : lo < hi) (s3 : Sz 3 s) (s3' : Sz 3 (1 - s)) (s0 : 0 < s) (s1 : s < 1) :
    NdR nr q ((lo + s * (hi - lo)) / q) (u, v) := by
  have z1 := ((bl.sz (k := 7) (by decide) (by decide)).plus (s3.times ((bh.sz (k := 7) (by decide) (by decide)).minus (bl.sz (k := 7) (by decide) (by decide)))))
  have z2 := z1.by (bq.sz (k := 7) (by decide) (by decide)) pq
  have pd : 0 < hi - lo := by grind
  have pg : 0 < lo + s * (hi - lo) := by
    have := Rat.mul_pos s0 pd
    grind
  refine ⟨hi, lo, s, hu, hv, z2.mono (by decide), ?_, s3, s3', s0, s1, lt, ?_⟩
  · rw [Rat.div_def]
    exact Rat.mul_pos pg (Rat.inv_pos.mpr pq)
  · exact Rat.div_mul_cancel (by grind)
structure RowFair (pr nr rr : List Rat) (sr : List (Nat × Nat)) : Prop where
  lr : rr.length = pr.length
  ls : sr.length = pr.length
  nd : ∀ (k : Nat) (q r : Rat) (uv : Nat × Nat), pr[k]? = some q → rr[k]? = some r → sr[k]? = some uv → NdR nr q r uv
structure FairG (m : Nat) (P R : List (List Rat)) (S : List (List (Nat × Nat))) : Prop where
  lr : R.length = m
  ls : S.length = m
  row : ∀ (d : Nat) (pr nr rr : List Rat) (sr : List (Nat × Nat)), P[d]? = some pr → P[d + 1]? = some nr → R[d]? = some rr → S[d]? = some sr → RowFair pr nr rr sr
theorem FairG.snoc {m : Nat} {P R : List (List Rat)} {S : List (List (Nat × Nat))} {pr nr rr : List Rat} {sr : List (Nat × Nat)} (F : FairG m P R S) (h1 : P[m]? = some pr) (h2 : P[m + 1]? = some nr) (f : RowFair pr nr rr sr) : FairG (m + 1) P (R ++ [rr]) (S ++ [sr]) := by
  have lr := F.lr
  have ls := F.ls
  refine ⟨by rw [List.length_append, lr]; rfl, by rw [List.length_append, ls]; rfl, fun d pr' nr' rr' sr' e1 e2 e3 e4 => ?_⟩
  by_cases hd : d < m
  · rw [List.getElem?_append_left (by omega)] at e3 e4
    exact F.row d _ _ _ _ e1 e2 e3 e4
  · have l := (List.getElem?_eq_some_iff.mp e3).1
    rw [List.length_append, lr] at l
    have : d = m := by simp at l; omega
    subst this
    rw [List.getElem?_append_right (by omega), lr, Nat.sub_self] at e3
    rw [List.getElem?_append_right (by omega), ls, Nat.sub_self] at e4
    rw [h1] at e1
    rw [h2] at e2
    cases e1
    cases e2
    cases e3
    cases e4
    exact f
theorem dat_ok {n : Nat} {P R : List (List Rat)} {S : List (List (Nat × Nat))} (n1 : 1 ≤ n) (n4 : n ≤ 4) (G : RowsG n P) (F : FairG (n - 1) P R S) : Dat.Ok ⟨P, R, S⟩ := by
  have lp := G.len
  have lr := F.lr
  have ls := F.ls
  have rowP : ∀ d, d < n → ∃ pr, P[d]? = some pr := fun d h => ⟨_, List.getElem?_eq_getElem (by omega)⟩
  have pz : ∀ d k q, cell P d k = some q → Sz 8 q ∧ 0 < q := fun d k q h => by
    obtain ⟨row, h1, h2⟩ := cell_eq h
    obtain ⟨a, b⟩ := (G.row row (List.mem_of_getElem? h1)).num q (List.mem_of_getElem? h2)
    exact ⟨a.sz (by decide) (by decide), b⟩
  refine ⟨by show 1 ≤ P.length; omega, by show P.length ≤ 4; omega, by show R.length + 1 = P.length; omega, by show S.length + 1 = P.length; omega, G.top, fun d row h => ⟨(G.row row (List.mem_of_getElem? h)).one, (G.row row (List.mem_of_getElem? h)).most⟩, pz, fun d k q h hl => ?_, fun d k r h => ?_, fun d k r h => ?_⟩
  · have hl : d + 1 < P.length := hl
    obtain ⟨pr, h1, h2⟩ := cell_eq h
    obtain ⟨nr, h3⟩ := rowP (d + 1) (by omega)
    obtain ⟨rr, h4⟩ : ∃ rr, R[d]? = some rr := ⟨_, List.getElem?_eq_getElem (by omega)⟩
    obtain ⟨sr, h5⟩ : ∃ sr, S[d]? = some sr := ⟨_, List.getElem?_eq_getElem (by omega)⟩
    have f := F.row d pr nr rr sr h1 h3 h4 h5
    have l := (List.getElem?_eq_some_iff.mp h2).1
    have f1 := f.lr
    have f2 := f.ls
    obtain ⟨r, h6⟩ : ∃ r, rr[k]? = some r := ⟨_, List.getElem?_eq_getElem (by omega)⟩
    obtain ⟨⟨u, v⟩, h7⟩ : ∃ uv, sr[k]? = some uv := ⟨_, List.getElem?_eq_getElem (by omega)⟩
    obtain ⟨hi, lo, s, e1, e2, e3, e4, e5, e6, e7, e8, e9, e10⟩ := f.nd k q r (u, v) h2 h6 h7
    exact ⟨r, u, v, hi, lo, s, by show cell R d k = _; unfold cell; rw [h4]; exact h6, by show cell S d k = _; unfold cell; rw [h5]; exact h7, by show cell P (d + 1) u = _; unfold cell; rw [h3]; exact e1, by show cell P (d + 1) v = _; unfold cell; rw [h3]; exact e2, e3, e4, e5, e6, e7, e8, e9, e10⟩
  · obtain ⟨rr, h4, h6⟩ := cell_eq (G := R) h
    have l := (List.getElem?_eq_some_iff.mp h4).1
    obtain ⟨pr, h1⟩ := rowP d (by omega)
    obtain ⟨nr, h3⟩ := rowP (d + 1) (by omega)
    obtain ⟨sr, h5⟩ : ∃ sr, S[d]? = some sr := ⟨_, List.getElem?_eq_getElem (by omega)⟩
    have f := F.row d pr nr rr sr h1 h3 h4 h5
    have l6 := (List.getElem?_eq_some_iff.mp h6).1
    have f1 := f.lr
    refine ⟨by show d + 1 < P.length; omega, pr[k]'(by omega), ?_⟩
    show cell P d k = _
    unfold cell
    rw [h1]
    exact List.getElem?_eq_getElem _
  · obtain ⟨sr, h4, h6⟩ := cell_eq (G := S) h
    have l := (List.getElem?_eq_some_iff.mp h4).1
    obtain ⟨pr, h1⟩ := rowP d (by omega)
    obtain ⟨nr, h3⟩ := rowP (d + 1) (by omega)
    obtain ⟨rr, h5⟩ : ∃ rr, R[d]? = some rr := ⟨_, List.getElem?_eq_getElem (by omega)⟩
    have f := F.row d pr nr rr sr h1 h3 h5 h4
    have l6 := (List.getElem?_eq_some_iff.mp h6).1
    have f1 := f.ls
    refine ⟨by show d + 1 < P.length; omega, pr[k]'(by omega), ?_⟩
    show cell P d k = _
    unfold cell
    rw [h1]
    exact List.getElem?_eq_getElem _
section
variable {w : World} {K : PySem.W.Frag} {mg : Str → Option Value} {base : Heap}
def spTimesR (K : PySem.W.Frag) : Sp := fun vs H Q _ => ∃ (p : Addr) (v : V) (k n : Int) (y : Rat), vs = [.ref p, v] ∧ SqT K H p [.int k, .int n] ∧ Amt K H v y ∧ 1 ≤ k ∧ k ≤ 10 ∧ 1 ≤ n ∧ n ≤ 10 ∧ Sz 100 y ∧ ∀ z H', Same H H' → Amt K H' z (Rat.divInt k n * y) → Q z H'
theorem ok_LproductR (T : TX w K mg) : Fn w K mg base 3 (He.ga K "_law_product") (spTimesR K) := by
  refine fn_Lproduct T (fun vs H Q E h => ?_) (fun cdv A outer s H vs Q E hr h => ?_)
  · obtain ⟨_, _, _, _, _, rfl, _⟩ := h
    rfl
  · obtain ⟨p, _, k, n, y, rfl, hp, ⟨q, rfl, hq⟩, k1, k10, n1, n10, sy, kk⟩ := h
    have kb : k.natAbs < 2 ^ (10 + 1) := Nat.lt_of_lt_of_le (m := 11) (by omega) (by decide)
    have nb : n.natAbs < 2 ^ (10 + 1) := Nat.lt_of_lt_of_le (m := 11) (by omega) (by decide)
    refine ⟨_, pss_one (ps_ret (pe_callF (ok_Llow T) rfl hr rfl (g_Llow T) (pa_cons (pe_op op_mulW (pe_ix ix_tup (pv 0) pe_int (fun _ _ => rfl)) (pe_ix ix_tup (pv 1) pe_int (fun _ _ => rfl))) (pa_cons (pe_op op_mulW (pe_ix ix_tup (pv 0) pe_int (fun _ _ => rfl)) (pe_ix ix_tup (pv 1) pe_int (fun _ _ => rfl))) pa_nil)))), ?_⟩
    refine ⟨_, rfl, p, _, _, _, rfl, rfl, hp, rfl, _, rfl, q, _, _, _, rfl, rfl, hq, rfl, _, _, rfl, rfl, cm kb (szn sy) (by decide), ?_⟩
    have pn : 0 < n * (y.den : Int) := Int.mul_pos (by omega) (den_pos y)
    refine ⟨_, rfl, p, _, _, _, rfl, rfl, hp, rfl, _, rfl, q, _, _, _, rfl, rfl, hq, rfl, _, _, rfl, rfl, cm nb (szd sy) (by decide), _, _, rfl, pn, ?_, fun z H' e r => ?_⟩
    · rw [Int.natAbs_mul]
      exact Nat.lt_of_lt_of_le (lt_pow_mul nb (szd sy)) (Nat.pow_le_pow_right (by decide) (by decide))
    · rw [times_lowR (by omega)] at r
      exact kk z H' e r
end
end SL
namespace SL
open PySem PySem.Spec PyProof.Rows L2 TL
section
variable {K : PySem.W.Frag} {b c p q : Addr} {M : List Addr} {H H' : Hp} {o : HO}
theorem hid_out (h : p ≠ q) : hid q H p = H p := if_neg h
theorem hid_at {u : HO} (h : H p = some u) (n : p ≠ q) : hid q H p = some u := by rw [hid_out n]; exact h
theorem hid_free (h : H p = none) : hid q H p = none := by
  unfold hid
  split
  · rfl
  · exact h
theorem Ex.hidR (e : Ex M H H') (h : H p = none) : Ex M H (SL.hid p H') := fun a u m z => by
  rw [hid_out (ne_of_none z h)]
  exact e a u m z
theorem snoc_at {α : Type} {l : List α} {x : α} {i : Nat} (h : l.length = i) : (l ++ [x])[i]? = some x := by
  rw [List.getElem?_append_right (by omega), h, Nat.sub_self]
  rfl
theorem putv {vp vr vs : V} : valV (mergeK [] [(Sum.inr "prices", vp), (Sum.inr "rates", vr), (Sum.inr "steps", vs)]) (Sum.inr "prices") = some vp ∧ valV (mergeK [] [(Sum.inr "prices", vp), (Sum.inr "rates", vr), (Sum.inr "steps", vs)]) (Sum.inr "rates") = some vr ∧ valV (mergeK [] [(Sum.inr "prices", vp), (Sum.inr "rates", vr), (Sum.inr "steps", vs)]) (Sum.inr "steps") = some vs := by
  refine ⟨?_, ?_, ?_⟩ <;> kernel_rfl
end
section
variable {w : World} {K : PySem.W.Frag} {mg : Str → Option Value} {base : Heap}
def FairAt (K : PySem.W.Frag) (H : Hp) (D : Dat) (v : V) : Prop := ∃ (p : Addr) (kvs : List (Key × V)) (vp vr vs : V), v = .ref p ∧ H p = some (.dK kvs) ∧ valV kvs (Sum.inr "prices") = some vp ∧ valV kvs (Sum.inr "rates") = some vr ∧ valV kvs (Sum.inr "steps") = some vs ∧ GridAt K H D.P vp ∧ GridAt K H D.R vr ∧ SGridAt K H D.S vs
def spFair (K : PySem.W.Frag) : Sp := fun vs H Q _ => ∃ (b c : Addr) (n : Nat) (m : Int), vs = [.ref b, .int (n : Int), .int m] ∧ BoxAt H b c ∧ 1 ≤ n ∧ n ≤ 4 ∧ 2 ≤ m ∧ m ≤ 3 ∧ ∀ v D H', Dr b c H H' → FairAt K H' D v → D.Ok → Q v H'
theorem ok_Lfair (T : TX w K mg) : Fn w K mg base 5 (He.ga K "_law_fair") (spFair K) := by
  refine fn_Lfair (k := 4) T (fun vs H Q E h => ?_) (fun cdv A outer s H vs Q E hr h => ?_)
  · obtain ⟨_, _, _, _, rfl, _⟩ := h
    rfl
  · obtain ⟨b, c, n, m, rfl, hB, n1, n4, m2, m3, kk⟩ := h
    refine ⟨_, pss_cons (ps_set (i := 3) sc_Lfair.nd rfl (.inl rfl) (pe_callF (ok_Lrows T) rfl hr rfl (g_Lrows_between T) (pa_cons (pv 0) (pa_cons (pv 1) (pa_cons (pv 2) pa_nil)))))
      (pss_cons (ps_par (i := 4) (j := 5) rfl sc_Lfair.nd rfl rfl (by decide) rfl rfl (pa_cons (pe_lst pa_nil) (pa_cons (pe_lst pa_nil) pa_nil)) rfl)
      (pss_cons (ps_for PassesOwn.never rfl (pi_range1 rfl (b_range T) (pa_cons (pe_op op_sub (pv 1) pe_int) pa_nil)) (pg_name (i := 6) sc_Lfair.nd rfl (.inl rfl))
        (pss_cons (ps_expr (pe_bm PySem.F.plainAttrs_list PySem.F.slot_list_append PySem.F.type_list_append mt_append (pv 4) (pa_cons (pe_lst pa_nil) pa_nil)))
        (pss_cons (ps_expr (pe_bm PySem.F.plainAttrs_list PySem.F.slot_list_append PySem.F.type_list_append mt_append (pv 5) (pa_cons (pe_lst pa_nil) pa_nil)))
        (pss_one (ps_for PassesOwn.never rfl (pi_list (pe_ix ix_list (pv 3) (pv 6) (fun _ _ => rfl))) (pg_name (i := 7) sc_Lfair.nd rfl (.inl rfl))
          (pss_cons (ps_asg (pe_callF (ok_Lsteps T) rfl hr rfl (g_Lsteps_between T) (pa_cons (pv 0) (pa_cons (pe_ix ix_list (pv 3) (pe_op op_add (pv 6) pe_int) (fun _ _ => rfl)) pa_nil))) (pg_tup rfl (pgs_cons (pg_name (i := 8) sc_Lfair.nd rfl (.inl rfl)) (pgs_cons (pg_name (i := 9) sc_Lfair.nd rfl (.inl rfl)) pgs_nil))))
          (pss_cons (ps_set (i := 10) sc_Lfair.nd rfl (.inl rfl) (pe_op op_add pe_int (pe_callF (ok_Ltake T) rfl hr rfl (g_Ltake T) (pa_cons (pv 0) (pa_cons pe_int pa_nil)))))
          (pss_cons (ps_set (i := 11) sc_Lfair.nd rfl (.inl rfl) (pe_tup (pa_cons (pe_op op_add pe_int (pe_callF (ok_Ltake T) rfl hr rfl (g_Ltake T) (pa_cons (pv 0) (pa_cons (pe_op op_sub (pv 10) pe_int) pa_nil)))) (pa_cons (pv 10) pa_nil))))
          (pss_cons (ps_par (i := 12) (j := 13) rfl sc_Lfair.nd rfl rfl (by decide) rfl rfl (pa_cons (pe_ix ix_list (pe_ix ix_list (pv 3) (pe_op op_add (pv 6) pe_int) (fun _ _ => rfl)) (pv 8) (fun _ _ => rfl)) (pa_cons (pe_ix ix_list (pe_ix ix_list (pv 3) (pe_op op_add (pv 6) pe_int) (fun _ _ => rfl)) (pv 9) (fun _ _ => rfl)) pa_nil)) rfl)
          (pss_cons (ps_set (i := 14) sc_Lfair.nd rfl (.inl rfl) (pe_callF (ok_Lsum T) rfl hr rfl (g_Lsum T) (pa_cons (pv 13) (pa_cons (pe_callF (ok_LproductR T) rfl hr rfl (g_Lproduct T) (pa_cons (pv 11) (pa_cons (pe_callF (ok_Lless_by T) rfl hr rfl (g_Lless_by T) (pa_cons (pv 12) (pa_cons (pv 13) pa_nil))) pa_nil))) pa_nil))))
          (pss_cons (ps_expr (pe_bm PySem.F.plainAttrs_list PySem.F.slot_list_append PySem.F.type_list_append mt_append (pe_ix ix_list (pv 4) (pv 6) (fun _ _ => rfl)) (pa_cons (pe_callF (ok_Lshare_of T) rfl hr rfl (g_Lshare_of T) (pa_cons (pv 14) (pa_cons (pv 7) pa_nil))) pa_nil)))
          (pss_one (ps_expr (pe_bm PySem.F.plainAttrs_list PySem.F.slot_list_append PySem.F.type_list_append mt_append (pe_ix ix_list (pv 5) (pv 6) (fun _ _ => rfl)) (pa_cons (pe_tup (pa_cons (pv 8) (pa_cons (pv 9) pa_nil))) pa_nil)))))))))))))))
      (pss_one (ps_ret (pe_disp (pps_cons pe_str (pv 3) (pps_cons pe_str (pv 4) (pps_cons pe_str (pv 5) pps_nil))) (by rfl) (by rfl) (fun z => by cases z) (by decide)))))), ?_⟩
    refine ⟨_, rfl, _, rfl, _, rfl, b, c, n, m, rfl, hB, n1, n4, m2, m3, fun vp P H1 d1 gp RG => ?_⟩
    obtain ⟨Pp, ups, rfl, hPp, aP⟩ := id gp
    have lP := RG.len
    have lups := aP.len
    refine ⟨by show 0 ≤ sizeLine; decide, fun RA hRA0 => ⟨by show 0 ≤ sizeLine; decide, fun SA hSA0 => ?_⟩⟩
    have nwR := Same.new (o := .lst []) hRA0
    have nwS := Same.new (o := .lst []) hSA0
    have fSA : H1 SA = none := nwR.free hSA0
    have nRS : RA ≠ SA := ne_of_none upd_same hSA0
    have B2 := (d1.2.mono nwR).mono nwS
    have E2 := nwR.trans nwS
    have r2 := nwS _ _ (show (upd H1 RA (.lst [])) RA = some (.lst []) from upd_same)
    have s2 : (upd (upd H1 RA (.lst [])) SA (.lst [])) SA = some (.lst []) := upd_same
    obtain ⟨nRAb, nRAc⟩ := d1.2.ne hRA0
    obtain ⟨nSAb, nSAc⟩ := d1.2.ne fSA
    generalize upd (upd H1 RA (.lst [])) SA (.lst []) = H2 at B2 E2 r2 s2
    refine ⟨_, _, rfl, _, rfl, _, _, rfl, rfl, _, rfl, by omega, by omega, ?_⟩
    have en : ((n : Int) - 1).toNat = n - 1 := by omega
    rw [en]
    refine for_range (lo := 0) (n := n - 1) (fun i σ' H' => ∃ x6 x7 x8 x9 x10 x11 x12 x13 x14 R S rs ss, σ' = [some (.ref b), some (.int (n : Int)), some (.int m), some (.ref Pp), some (.ref RA), some (.ref SA), x6, x7, x8, x9, x10, x11, x12, x13, x14] ∧
        Ex [b] H1 H' ∧ BoxAt H' b c ∧ H' RA = some (.lst rs) ∧ H' SA = some (.lst ss) ∧ GridAt K (hid RA (hid SA H')) P (.ref Pp) ∧ All2 (RowAt K (hid RA (hid SA H'))) R rs ∧ All2 (SRowAt K (hid RA (hid SA H'))) S ss ∧ FairG i P R S)
      ⟨_, _, _, _, _, _, _, _, _, [], [], _, _, rfl, Ex.same E2, B2, r2, s2, gp.mono (same_hid hRA0 (same_hid fSA E2)), .nil, .nil, rfl, rfl, fun d pr nr rr sr _ _ z => by simp at z⟩ (fun i σ' HA hi ⟨x6, x7, x8, x9, x10, x11, x12, x13, x14, R, S, rs, ss, eσ, XA, BA, hRA, hSA, gA, aR, aS, FG⟩ => ?_) (fun σ' HA ⟨x6, x7, x8, x9, x10, x11, x12, x13, x14, R, S, rs, ss, eσ, XA, BA, hRA, hSA, gA, aR, aS, FG⟩ => ?_)
    · subst eσ
      rw [Int.zero_add]
      have lR := aR.len
      have lS := aS.len
      have fR := FG.lr
      have fS := FG.ls
      have BF : BoxAt (hid RA (hid SA HA)) b c := (BA.hid nSAb nSAc).hid nRAb nRAc
      have XF0 : Ex [b] H1 (hid RA (hid SA HA)) := (XA.hidR fSA).hidR hRA0
      have S0 : Same (hid RA (hid SA HA)) HA := fun a o z => hid_same HA _ _ (hid_same _ _ _ z)
      have fFR : (hid RA (hid SA HA)) RA = none := hid_none _
      have fFS : (hid RA (hid SA HA)) SA = none := hid_free (hid_none _)
      generalize hid RA (hid SA HA) = F at BF XF0 S0 fFR fFS gA aR aS
      refine ⟨_, rfl, .inl ⟨rfl, _, SqL.of hRA⟩, by show 0 ≤ sizeLine; decide, fun RR hRR0 => ?_⟩
      have S1 := S0.trans (Same.new (o := .lst []) hRR0)
      have hRA1 := (Same.new (o := .lst []) hRR0) _ _ hRA
      refine ⟨RA, rs, .ref RR, rfl, rfl, hRA1, Nat.lt_of_lt_of_le (m := 100) (by omega) (by decide), ?_⟩
      have S2 : Same F (upd (upd HA RR (.lst [])) RA (.lst (rs ++ [.ref RR]))) := same_mut S1 fFR
      have nRA : RA ≠ RR := ne_of_none hRA hRR0
      have nSR : SA ≠ RR := ne_of_none hSA hRR0
      have q1 : (upd (upd HA RR (.lst [])) RA (.lst (rs ++ [.ref RR]))) RA = some (.lst (rs ++ [.ref RR])) := upd_same
      have q2 : (upd (upd HA RR (.lst [])) RA (.lst (rs ++ [.ref RR]))) SA = some (.lst ss) := by rw [upd_ne nRS.symm, upd_ne nSR]; exact hSA
      have q3 : (upd (upd HA RR (.lst [])) RA (.lst (rs ++ [.ref RR]))) RR = some (.lst []) := by rw [upd_ne nRA.symm]; exact upd_same
      generalize upd (upd HA RR (.lst [])) RA (.lst (rs ++ [.ref RR])) = HB at S2 q1 q2 q3
      have fRR : F RR = none := S0.free hRR0
      refine ⟨_, rfl, .inl ⟨rfl, _, SqL.of q2⟩, by show 0 ≤ sizeLine; decide, fun SR hSR0 => ?_⟩
      have fSR : F SR = none := S2.free hSR0
      have S3 := S2.trans (Same.new (o := .lst []) hSR0)
      have hSA1 := (Same.new (o := .lst []) hSR0) _ _ q2
      refine ⟨SA, ss, .ref SR, rfl, rfl, hSA1, Nat.lt_of_lt_of_le (m := 100) (by omega) (by decide), ?_⟩
      have S4 : Same F (upd (upd HB SR (.lst [])) SA (.lst (ss ++ [.ref SR]))) := same_mut S3 fFS
      have nRAS : RA ≠ SR := ne_of_none q1 hSR0
      have nSAS : SA ≠ SR := ne_of_none q2 hSR0
      have nRRS : RR ≠ SR := ne_of_none q3 hSR0
      have t1 : (upd (upd HB SR (.lst [])) SA (.lst (ss ++ [.ref SR]))) RA = some (.lst (rs ++ [.ref RR])) := by rw [upd_ne nRS, upd_ne nRAS]; exact q1
      have t2 : (upd (upd HB SR (.lst [])) SA (.lst (ss ++ [.ref SR]))) SA = some (.lst (ss ++ [.ref SR])) := upd_same
      have t3 : (upd (upd HB SR (.lst [])) SA (.lst (ss ++ [.ref SR]))) RR = some (.lst []) := by rw [upd_ne nSR.symm, upd_ne nRRS]; exact q3
      have t4 : (upd (upd HB SR (.lst [])) SA (.lst (ss ++ [.ref SR]))) SR = some (.lst []) := by rw [upd_ne nSAS.symm]; exact upd_same
      have BC := BF.mono S4
      generalize upd (upd HB SR (.lst [])) SA (.lst (ss ++ [.ref SR])) = HC at S4 t1 t2 t3 t4 BC
      obtain ⟨nRb, nRc⟩ := BF.ne fRR
      obtain ⟨nSb, nSc⟩ := BF.ne fSR
      -- the rows of prices
      obtain ⟨pr, hpr⟩ : ∃ pr, P[i]? = some pr := ⟨_, List.getElem?_eq_getElem (by omega)⟩
      obtain ⟨nr, hnr⟩ : ∃ nr, P[i + 1]? = some nr := ⟨_, List.getElem?_eq_getElem (by omega)⟩
      have Gp := RG.row pr (List.mem_of_getElem? hpr)
      have Gn := RG.row nr (List.mem_of_getElem? hnr)
      have twn := RG.two (i + 1) nr (by omega) hnr
      obtain ⟨P', ups', eP, hPF, aPF⟩ := id gA
      cases eP
      obtain ⟨up, hup, pa, pus, rfl, hpa, app⟩ := aPF.getL hpr
      obtain ⟨un, hun, na, nus, rfl, hna, apn⟩ := aPF.getL hnr
      have bxn : ∀ {a : Addr} {row : List Rat} {us : List V}, F a = some (.lst us) → All2 (fun q u => Amt K F u q) row us → a ∉ [b] := fun h q => box_ne BF h (all2_ref (fun x u z => by obtain ⟨a, r, _⟩ := z; exact ⟨a, r⟩) q)
      have nPb : Pp ∉ [b] := box_ne BF hPF (all2_ref (fun x u z => by obtain ⟨a, _, r, _⟩ := z; exact ⟨a, r⟩) aPF)
      have npa := bxn hpa app
      have nna := bxn hna apn
      have lpp := app.len
      have m8 := Gp.most
      refine ⟨_, rfl, _, rfl, Pp, ups', ((i : Nat) : Int), _, rfl, rfl, SqL.of (S4 _ _ hPF), atI_nat hup, pa, rfl, ⟨_, SqL.of (S4 _ _ hpa)⟩, ?_⟩
      refine for_list (xs := pus) (fun j σ' H' => ∃ x7 x8 x9 x10 x11 x12 x13 x14 us ws rr sr, σ' = [some (.ref b), some (.int (n : Int)), some (.int m), some (.ref Pp), some (.ref RA), some (.ref SA), some (.int ((i : Nat) : Int)), x7, x8, x9, x10, x11, x12, x13, x14] ∧
          Ex [b] F H' ∧ BoxAt H' b c ∧ H' RA = some (.lst (rs ++ [.ref RR])) ∧ H' SA = some (.lst (ss ++ [.ref SR])) ∧ H' RR = some (.lst us) ∧ H' SR = some (.lst ws) ∧ All2 (fun q u => Amt K H' u q) rr us ∧ All2 (SAt K H') sr ws ∧ rr.length = j ∧ sr.length = j ∧
          ∀ (k : Nat) (q r : Rat) (uv : Nat × Nat), pr[k]? = some q → rr[k]? = some r → sr[k]? = some uv → NdR nr q r uv)
        ⟨_, _, _, _, _, _, _, _, [], [], [], [], rfl, Ex.same S4, BC, t1, t2, t3, t4, .nil, .nil, rfl, rfl, fun k q r uv _ z => by simp at z⟩ (fun j σ' H' _ ⟨_, _, _, _, _, _, _, _, _, _, _, _, _, X, _⟩ => SqL.of (X _ _ npa hpa)) (fun j x σ' HD hx ⟨x7, x8, x9, x10, x11, x12, x13, x14, us, ws, rr, sr, eσ, XD, BD, d1, d2, d3, d4, aD, sD, l1, l2, nd⟩ => ?_) (fun σ' HD ⟨x7, x8, x9, x10, x11, x12, x13, x14, us, ws, rr, sr, eσ, XD, BD, d1, d2, d3, d4, aD, sD, l1, l2, nd⟩ => ?_)
      · subst eσ
        obtain ⟨q, hq, aq⟩ := app.get hx
        obtain ⟨bq, pq⟩ := Gp.num q (List.mem_of_getElem? hq)
        have jl := (List.getElem?_eq_some_iff.mp hx).1
        have tD := Ex.ts BF.lst XD
        refine ⟨_, rfl, _, rfl, _, rfl, _, _, rfl, rfl, Pp, ups', ((i + 1 : Nat) : Int), _, rfl, by simp, SqL.of (XD _ _ nPb hPF), atI_nat hun, b, c, na, nus, nr, rfl, BD, fun z => nna (List.mem_singleton.mpr z), XD _ _ nna hna, apn.imp fun _ _ z => z.ts tD, Gn, twn, fun z u v hi lo HE dE hz hhi hlo lt => ?_⟩
        obtain ⟨za, rfl, hza⟩ := hz
        obtain ⟨bh, ph⟩ := Gn.num hi (List.mem_of_getElem? hhi)
        obtain ⟨bl, pl⟩ := Gn.num lo (List.mem_of_getElem? hlo)
        refine ⟨za, _, rfl, hza, rfl, _, _, rfl, _, _, rfl, rfl, ?_⟩
        refine ⟨_, rfl, b, c, 5, rfl, dE.2, by decide, by decide, fun t HG t0 t1 dG => ⟨_, _, rfl, rfl, ?_⟩⟩
        refine ⟨_, rfl, _, rfl, _, _, rfl, rfl, b, c, _, rfl, dG.2, by omega, by omega, fun sh HI s0 s1 dI => ⟨_, _, rfl, rfl, _, rfl, by show 2 ≤ sizeLine; decide, fun sp hsp => ?_⟩⟩
        have D1 := ((dE.trans dG).trans dI).same (Same.new (o := .tup [.int (1 + sh), .int (2 + t)]) hsp)
        have hsp1 : (upd HI sp (.tup [.int (1 + sh), .int (2 + t)])) sp = some (.tup [.int (1 + sh), .int (2 + t)]) := upd_same
        generalize upd HI sp (.tup [.int (1 + sh), .int (2 + t)]) = HJ at D1 hsp1
        obtain ⟨vh, hvh, ah⟩ := apn.getL hhi
        obtain ⟨vl, hvl, al⟩ := apn.getL hlo
        have XJ := XD.trans D1.1
        have tJ := Ex.ts BF.lst XJ
        have PJ := XJ _ _ nPb hPF
        have nJ := XJ _ _ nna hna
        refine ⟨_, rfl, _, rfl, _, _, rfl, rfl, Pp, ups', ((i + 1 : Nat) : Int), _, rfl, by simp, SqL.of PJ, atI_nat hun, _, rfl, na, nus, _, _, rfl, rfl, SqL.of nJ, atI_nat hvh, ?_⟩
        refine ⟨_, rfl, _, rfl, _, _, rfl, rfl, Pp, ups', ((i + 1 : Nat) : Int), _, rfl, by simp, SqL.of PJ, atI_nat hun, _, rfl, na, nus, _, _, rfl, rfl, SqL.of nJ, atI_nat hvl, _, _, rfl, ?_⟩
        obtain ⟨k1, k2, k3, k4⟩ := share_ok (k := 1 + sh) (n := 2 + t) (by omega) (by omega) (by omega) (by omega)
        have zh := bh.sz (k := 7) (by decide) (by decide)
        have zl := bl.sz (k := 7) (by decide) (by decide)
        have zq := bq.sz (k := 7) (by decide) (by decide)
        have zd := zh.minus zl
        refine ⟨_, rfl, _, rfl, _, rfl, _, rfl, _, _, hi, lo, 7, 7, rfl, ah.ts tJ, al.ts tJ, zh, zl, by decide, fun z1 HK e1 hz1 => ⟨sp, z1, 1 + sh, 2 + t, hi - lo, rfl, Same.sqt e1 (SqT.of hsp1), hz1, by omega, by omega, by omega, by omega, zd.mono (by decide), fun z2 HL e2 hz2 => ⟨vl, z2, lo, _, 7, 18, rfl, (al.ts tJ).mono (e1.trans e2), hz2, zl, (k1.times zd).mono (by decide), by decide, fun z3 HM e3 hz3 => ?_⟩⟩⟩
        have D2 := D1.same ((e1.trans e2).trans e3)
        have XM := XD.trans D2.1
        have tM := Ex.ts BF.lst XM
        have nb : ∀ {a : Addr}, a ≠ b → a ∉ [b] := fun h z => h (List.mem_singleton.mp z)
        have d1M := D2.1 _ _ (nb nRAb) d1
        have d2M := D2.1 _ _ (nb nSAb) d2
        have d3M := D2.1 _ _ (nb nRb) d3
        have d4M := D2.1 _ _ (nb nSb) d4
        have lus := aD.len
        have lws := sD.len
        refine ⟨_, rfl, _, rfl, RA, _, ((i : Nat) : Int), _, rfl, rfl, SqL.of d1M, atI_nat (snoc_at (by omega)), .inl ⟨rfl, _, SqL.of d3M⟩, _, rfl, _, rfl, z3, x, _, q, 26, 7, rfl, hz3, aq.ts tM, (zl.plus (k1.times zd)).mono (by decide), zq, by decide, pq, fun z4 HN e4 hz4 => ⟨RR, us, z4, rfl, rfl, e4 _ _ d3M, Nat.lt_of_lt_of_le (m := 100) (by omega) (by decide), ?_⟩⟩
        have D3 := D2.same e4
        have XO := (XD.trans D3.1).upd0 (o := .lst (us ++ [z4])) fRR
        have BO := D3.2.upd (o := .lst (us ++ [z4])) nRb nRc
        have tO : TS HN (upd HN RR (.lst (us ++ [z4]))) := ts_lst (e4 _ _ d3M)
        have tDO := ts_trans (Dr.ts BD D3) tO
        have o1 : (upd HN RR (.lst (us ++ [z4]))) RA = some (.lst (rs ++ [.ref RR])) := by rw [upd_ne nRA]; exact e4 _ _ d1M
        have o2 : (upd HN RR (.lst (us ++ [z4]))) SA = some (.lst (ss ++ [.ref SR])) := by rw [upd_ne nSR]; exact e4 _ _ d2M
        have o3 : (upd HN RR (.lst (us ++ [z4]))) RR = some (.lst (us ++ [z4])) := upd_same
        have o4 : (upd HN RR (.lst (us ++ [z4]))) SR = some (.lst ws) := by rw [upd_ne nRRS.symm]; exact e4 _ _ d4M
        have hz5 := hz4.ts tO
        generalize upd HN RR (.lst (us ++ [z4])) = HO at XO BO tDO o1 o2 o3 o4 hz5
        refine ⟨_, rfl, _, rfl, SA, _, ((i : Nat) : Int), _, rfl, rfl, SqL.of o2, atI_nat (snoc_at (by omega)), .inl ⟨rfl, _, SqL.of o4⟩, _, rfl, _, rfl, by show 2 ≤ sizeLine; decide, fun tp htp => ?_⟩
        have nt := Same.new (o := .tup [.int ((u : Nat) : Int), .int ((v : Nat) : Int)]) htp
        have o4' := nt _ _ o4
        refine ⟨SR, ws, .ref tp, rfl, rfl, o4', Nat.lt_of_lt_of_le (m := 100) (by omega) (by decide), ?_⟩
        have tZ := ts_trans (ts_same nt) (ts_lst (o := .lst (ws ++ [.ref tp])) o4')
        have tDZ := ts_trans tDO tZ
        refine ⟨_, _, _, _, _, _, _, _, us ++ [z4], ws ++ [.ref tp], rr ++ [(lo + Rat.divInt (1 + sh) (2 + t) * (hi - lo)) / q], sr ++ [(u, v)], rfl, (XO.trans (Ex.same nt)).upd0 fSR, (BO.mono nt).upd nSb nSc, ?_, ?_, ?_, upd_same, ?_, ?_, ?_, ?_, ?_⟩
        · rw [upd_ne nRAS]; exact nt _ _ o1
        · rw [upd_ne nSAS]; exact nt _ _ o2
        · rw [upd_ne nRRS]; exact nt _ _ o3
        · exact (aD.imp fun _ _ z => z.ts tDZ).app (.cons (hz5.ts tZ) .nil)
        · refine (sD.imp fun _ _ z => ?_).app (.cons ⟨tp, rfl, ?_⟩ .nil)
          · obtain ⟨a, r, z⟩ := z
            exact ⟨a, r, ts_sqt tDZ z⟩
          · exact ts_sqt (ts_lst o4') (SqT.of upd_same)
        · rw [List.length_append, l1]; rfl
        · rw [List.length_append, l2]; rfl
        · intro k q' r uv h1 h2 h3
          by_cases hk : k < j
          · rw [List.getElem?_append_left (by omega)] at h2 h3
            exact nd k q' r uv h1 h2 h3
          · have lk := (List.getElem?_eq_some_iff.mp h2).1
            rw [List.length_append, l1] at lk
            have : k = j := by simp at lk; omega
            subst this
            rw [List.getElem?_append_right (by omega), l1, Nat.sub_self] at h2
            rw [List.getElem?_append_right (by omega), l2, Nat.sub_self] at h3
            rw [hq] at h1
            cases h1
            cases h2
            cases h3
            exact ndr_of hhi hlo bh bl bq pl pq lt k1 k2 k3 k4
      · subst eσ
        have lus := aD.len
        have lws := sD.len
        have XH : Ex [b] F (hid RA (hid SA HD)) := (XD.hidR fFS).hidR fFR
        have tH : TS HD (hid RA (hid SA HD)) := ts_trans (ts_hid d2) (ts_hid (hid_at d1 nRS))
        refine ⟨_, _, _, _, _, _, _, _, _, R ++ [rr], S ++ [sr], _, _, rfl, XF0.trans XD, BD, d1, d2, gA.ex BF XH, (aR.imp fun _ _ z => z.ex BF XH).app (.cons ⟨RR, us, rfl, hid_at (hid_at d3 nSR.symm) nRA.symm, aD.imp fun _ _ z => z.ts tH⟩ .nil), (aS.imp fun _ _ z => z.ex BF XH).app (.cons ⟨SR, ws, rfl, hid_at (hid_at d4 nSAS.symm) nRAS.symm, sD.imp fun _ _ z => ?_⟩ .nil), FG.snoc hpr hnr ⟨by omega, by omega, nd⟩⟩
        obtain ⟨a, r, z⟩ := z
        exact ⟨a, r, ts_sqt tH z⟩
    · subst eσ
      have S0 : Same (hid RA (hid SA HA)) HA := fun a o z => hid_same HA _ _ (hid_same _ _ _ z)
      refine fun p hp => ⟨_, rfl, _, rfl, _, rfl, upd_same, [(Sum.inr "prices", .ref Pp), (Sum.inr "rates", .ref RA), (Sum.inr "steps", .ref SA)], rfl, by simp, ?_⟩
      have e0 : Same HA (upd (upd HA p (.dK [])) p (.dK (mergeK [] [(Sum.inr "prices", .ref Pp), (Sum.inr "rates", .ref RA), (Sum.inr "steps", .ref SA)]))) := same_mut (Same.new hp) hp
      refine kk _ ⟨P, R, S⟩ _ ((d1.trans ⟨XA, BA⟩).same e0) ⟨p, _, .ref Pp, .ref RA, .ref SA, rfl, upd_same, putv.1, putv.2.1, putv.2.2, (gA.mono S0).mono e0, ?_, ?_⟩ (dat_ok n1 n4 RG FG)
      · exact ⟨RA, rs, rfl, e0 _ _ hRA, aR.imp fun _ _ z => (z.mono S0).mono e0⟩
      · exact ⟨SA, ss, rfl, e0 _ _ hSA, aS.imp fun _ _ z => (z.mono S0).mono e0⟩
end
end SL
namespace SL
open PySem PySem.Spec PyProof.Rows L2 TL
/-! ### the plain law -/
theorem tree_names {P : Str → Prop} {d : Int} {p : Rat} : ∀ n : Note, NNames P n → (tree n d p).All fun _ r => NNames P r
  | .none, g => by
    rw [tree]
    trivial
  | .pay day v, g => by
    rw [tree]
    split <;> trivial
  | .now v, g => by
    rw [tree]
    trivial
  | .both a b, g => by
    rw [tree]
    refine all_bind (all_imp (fun x r h => ?_) (tree_names a g.1))
    refine all_bind (all_imp (fun y r' h' => ?_) (tree_names b g.2))
    show NNames P (bothOf r r')
    unfold bothOf
    split
    · exact h'
    · split
      · exact h
      · exact ⟨h, h'⟩
  | .times q n, g => by
    rw [tree]
    refine all_bind (all_imp (fun x r h => ?_) (tree_names n g))
    show NNames P (timesR q r)
    unfold timesR
    split
    · trivial
    · exact h
  | .turn n, g => by
    rw [tree]
    refine all_bind (all_flip (all_imp (fun x r h => ?_) (tree_names n g)))
    show NNames P (turnR r)
    unfold turnR
    split
    · trivial
    · exact h
  | .till up l a b, g => by
    rw [tree]
    split
    · exact tree_names b g.2
    · exact all_bind (all_imp (fun x r h => ⟨h, g.2⟩) (tree_names a g.1))
  | .may nm o b s x y, g => by
    have hx : (if s ≤ d then tree x d p else (tree x d p).bind fun z r => .leaf z (.may nm o b s r y)).All fun _ r => NNames P r := by
      split
      · exact tree_names x g.2.1
      · exact all_bind (all_imp (fun z r h => ⟨g.1, h, g.2.2⟩) (tree_names x g.2.1))
    rw [tree_may]
    split
    · exact ⟨tree_names y g.2.2, hx⟩
    · exact hx
  | .seen pk day st past, g => by
    rw [tree]
    split
    · trivial
    · split <;> trivial
theorem at_asks {P : Str → Prop} : ∀ {t s : Tree} {l : List Bool}, t.Asks P → t.at l = some s → s.Asks P
  | t, s, [], h, e => by
    rw [at_nil] at e
    exact Option.some.inj e ▸ h
  | .leaf p r, s, _ :: _, h, e => by cases e
  | .ask a n y m, s, true :: l, h, e => at_asks (t := y) (l := l) h.2.1 e
  | .ask a n y m, s, false :: l, h, e => at_asks (t := m) (l := l) h.2.2 e
def qq : Str := "qq"
/-- the worth told first -/
def Wn (D : Dat) (n : Note) : Rat := Wr D (0, 0, n)
theorem Wn_eq {D : Dat} {q : Rat} (hq : cell D.P 0 0 = some q) (n : Note) : Wn D n = (tree n 0 q).val (D.lat.F (D.P.length - 1) 0 0) := by
  show D.lat.W (D.P.length - 1 - 0) 0 0 n = _
  rw [Lat.W_eq, lat_price hq]
  rfl
theorem wn_hold {D : Dat} (ok : D.Ok) (b s : Int) (x y : Note) : Wn D x ≤ Wn D (.may qq true b s x y) := may_hold (lat_fair ok) _ _ _ _
theorem wn_write {D : Dat} (ok : D.Ok) (b s : Int) (x y : Note) : Wn D (.may qq false b s x y) ≤ Wn D x := may_write (lat_fair ok) _ _ _ _
theorem top_cell {D : Dat} (ok : D.Ok) : ∃ q, cell D.P 0 0 = some q := by
  obtain ⟨q, h⟩ := ok.top
  exact ⟨q, by unfold cell; rw [h]; rfl⟩
theorem wn_once {D : Dat} (ok : D.Ok) (h : Bool) (x y : Note) : Wn D (.may qq h 0 0 x y) = pick h (Wn D y) (Wn D x) := by
  obtain ⟨q, hq⟩ := top_cell ok
  rw [Wn_eq hq, Wn_eq hq, Wn_eq hq, may_once]
  rfl
theorem wn_more {D : Dat} (ok : D.Ok) (x : Note) (c : Rat) : Wn D (.both x (.pay 0 (.coin c))) = c + Wn D x := by
  obtain ⟨q, hq⟩ := top_cell ok
  rw [Wn_eq hq, Wn_eq hq, ← lat_price hq]
  exact more_val
theorem no_use {D : Dat} {R : List Row} {h : Bool} {x y : Note} (ok : D.Ok) (ro : RowsOk D (.may qq h 0 0 x y) NQ R) (nx : NNames NQ x) (ny : NNames NQ y) (hc : chosen h (Wn D y) (Wn D x) = false) : NoUse D R qq := by
  intro i r q ans o n ty tm hr hq hat hn
  have key : ∀ {t : Tree} {l : List Bool}, t.Asks NQ → t.at l = some (.ask o n ty tm) → False := fun ha hl => (at_asks ha hl).1 hn
  by_cases e : r.1 = 0
  · have := ro.one i r hr e
    subst this
    obtain rfl : (0, 0, Note.may qq h 0 0 x y) = r := Option.some.inj (ro.first.symm.trans hr)
    have hq : cell D.P 0 0 = some q := hq
    rw [show tree (Note.may qq h 0 0 x y) (((0 : Nat)) : Int) q = .ask h qq (tree y 0 q) (tree x 0 q) from may_once] at hat
    match ans, hat with
    | [], hat =>
      rw [at_nil] at hat
      cases hat
      rw [Wn_eq hq, Wn_eq hq] at hc
      exact hc
    | true :: l, hat => exact (key (tree_asks y ny) hat).elim
    | false :: l, hat => exact (key (tree_asks x nx) hat).elim
  · have rk := ro.ok r (List.mem_of_getElem? hr)
    exact (key (tree_asks r.2.2 (rk.names (by omega))) hat).elim
/-- what is wanted of a note -/
structure NOk (n : Note) : Prop where
  good : NGood 0 n
  dep : ndep n ≤ 12
  bits : nbits n ≤ 440
  lvs : nlv n ≤ 32
/-- a drawn note -/
structure NDr (n : Note) : Prop where
  good : NGood 0 n
  dep : ndep n ≤ 4
  names : NNames NQ n
theorem NDr.bits {n : Note} (h : NDr n) : nbits n ≤ 431 := by
  have h1 := nbits_le n h.good
  have h2 := Nat.pow_le_pow_right (n := 2) (by decide) (Nat.sub_le_sub_right h.dep 1)
  omega
theorem NDr.lvs {n : Note} (h : NDr n) : nlv n ≤ 16 := Nat.le_trans (nlv_le n) (Nat.le_trans (lvB_mono h.dep) (by decide))
theorem NDr.ok {n : Note} (h : NDr n) : NOk n := ⟨h.good, Nat.le_trans h.dep (by decide), Nat.le_trans h.bits (by decide), Nat.le_trans h.lvs (by decide)⟩
theorem qq_ok : NameOk qq := by
  unfold NameOk qq
  decide +kernel
theorem d0_ok : DateOk 0 := ⟨by decide, by decide⟩
theorem may_nok {h : Bool} {b s : Int} {x y : Note} (hb : DateOk b) (hs : DateOk s) (nx : NDr x) (oy : NGood 0 y) (dy : ndep y ≤ 5) (by_ : nbits y ≤ 440) (ly : nlv y ≤ 16) : NOk (.may qq h b s x y) := by
  have dx := nx.dep
  have bx := nx.bits
  have lx := nx.lvs
  refine ⟨⟨qq_ok, hb, hs, nx.good, oy⟩, ?_, ?_, ?_⟩
  · simp only [ndep]; omega
  · simp only [nbits]; omega
  · simp only [nlv]; omega
theorem more_nok {x : Note} {c : Rat} (nx : NDr x) (hc : Sz 8 c) : NGood 0 (.both x (.pay 0 (.coin c))) ∧ ndep (.both x (.pay 0 (.coin c))) ≤ 5 ∧ nbits (.both x (.pay 0 (.coin c))) ≤ 440 ∧ nlv (.both x (.pay 0 (.coin c))) ≤ 16 ∧ NNames NQ (.both x (.pay 0 (.coin c))) := by
  have dx := nx.dep
  have bx := nx.bits
  have lx := nx.lvs
  refine ⟨⟨nx.good, d0_ok, hc, by simp [vdep]⟩, ?_, ?_, ?_, nx.names, trivial⟩
  · simp only [ndep]; omega
  · simp only [nbits, vbits]; omega
  · simp only [nlv]; omega
theorem wn_sz {D : Dat} {n : Note} {P : Str → Prop} {R : List Row} (ok : D.Ok) (ro : RowsOk D n P R) : Sz 6936 (Wn D n) := by
  have rk := (ro.ok _ (List.mem_of_getElem? ro.first)).rt
  have mo := ok.most
  exact (Wr_sz ok rk).mono (bnd_le (by show D.P.length - 1 - 0 ≤ 3; omega))
theorem diff_sz {a b : Nat} {x y : Rat} (h1 : Sz a x) (h2 : Sz b y) : (x.num * y.den - y.num * x.den).natAbs < 2 ^ (a + b + 1) := by
  have c1 := h1.cross h2
  have c2 := h2.cross h1
  rw [Nat.add_comm b a] at c2
  have := two_pow_add c1 c2
  omega
def sgn (h : Bool) : Int := if h then 1 else -1
theorem sgn_no {h : Bool} {x y : Rat} (e : if h = true then y ≤ x else x ≤ y) : ¬ (x.num * y.den - y.num * x.den) * sgn h < 0 := by
  cases h with
  | true =>
    have := (Rat.le_iff _ _).mp (show y ≤ x from e)
    simp only [sgn, if_true]
    omega
  | false =>
    have := (Rat.le_iff _ _).mp (show x ≤ y from e)
    simp only [sgn, Bool.false_eq_true, if_false]
    omega
theorem sgn_one (h : Bool) : (sgn h).natAbs < 2 ^ 1 := by cases h <;> decide
theorem Dn.room {b c r : Addr} {H H' : Hp} {o : HO} (d : Dn b c r (upd H r o) H') (h : H r = none) : Dr b c H H' := ⟨fun a u m q => d.1 a u (fun z => by
  rcases List.mem_cons.mp z with z | z
  · exact m (List.mem_singleton.mpr z)
  · rw [List.mem_singleton.mp z, h] at q
    cases q) (by rw [upd_ne (ne_of_none q h)]; exact q), d.2.1⟩
theorem best_yes {h : Bool} {a b : Rat} (e : decide (a < b) = h) : b = pick h b a ∧ chosen h b a = !decide (b = a) := by
  subst e
  by_cases l : a < b
  · have n : b ≠ a := fun z => by rw [z] at l; exact Rat.lt_irrefl l
    simp [pick, chosen, l, n]
  · simp only [pick, chosen, l, decide_false, Bool.false_eq_true, if_false]
    by_cases k : b < a
    · have n : b ≠ a := fun z => by rw [z] at k; exact Rat.lt_irrefl k
      simp [k, n]
    · have n : b = a := by grind
      simp [n]
theorem best_no {h : Bool} {a b : Rat} (e : decide (a < b) ≠ h) : a = pick h b a ∧ chosen h b a = !decide (a = a) := by
  by_cases l : a < b
  · have n : ¬ b < a := by grind
    cases h with
    | true => exact absurd (decide_eq_true l) e
    | false => simp [pick, chosen, n]
  · cases h with
    | true => simp [pick, chosen, l]
    | false => exact absurd (decide_eq_false l) e
theorem chosen_same (h : Bool) (a : Rat) : chosen h a a = false := by cases h <;> simp [chosen]
theorem chosen_more {D : Dat} (ok : D.Ok) (h : Bool) (x : Note) : chosen h (Wn D (.both x (.pay 0 (.coin ((sgn h * (-1) : Int) : Rat))))) (Wn D x) = false := by
  rw [wn_more ok]
  generalize Wn D x = a
  cases h with
  | true =>
    have e : ((sgn true * (-1) : Int) : Rat) = -1 := by decide +kernel
    rw [e]
    simp only [chosen, if_true]
    exact decide_eq_false (by grind)
  | false =>
    have e : ((sgn false * (-1) : Int) : Rat) = 1 := by decide +kernel
    rw [e]
    simp only [chosen, Bool.false_eq_true, if_false]
    exact decide_eq_false (by grind)
theorem may_names {h : Bool} {x y : Note} (nx : NNames NQ x) (ny : NNames NQ y) (q : Rat) : (tree (.may qq h 0 0 x y) 0 q).All fun _ r => NNames NQ r := by
  rw [may_once]
  exact ⟨tree_names y ny, tree_names x nx⟩
theorem at_once {h : Bool} {x y : Note} {q : Rat} : (tree (.may qq h 0 0 x y) (((0 : Nat)) : Int) q).at [] = some (.ask h qq (tree y 0 q) (tree x 0 q)) := by
  rw [show tree (Note.may qq h 0 0 x y) (((0 : Nat)) : Int) q = .ask h qq (tree y 0 q) (tree x 0 q) from may_once]
  exact at_nil _
theorem iteSN' {x y : V} {A B : Prop} (e : x = y) (h : B) : if (!decide (x = y)) = true then A else B := by
  rw [decide_eq_true e]
  exact iteF h
/-! ### the walks -/
section
variable {w : World} {K : PySem.W.Frag} {mg : Str → Option Value} {base : Heap}
def spWeb (K : PySem.W.Frag) : Sp := fun vs H Q _ => ∃ v D, vs = [v] ∧ FairAt K H D v ∧ D.Ok ∧ ∀ lv H', Same H H' → LatAt K H' D lv → Q lv H'
theorem ok_Lweb (T : TX w K mg) : Fn w K mg base 6 (He.ga K "_law_web") (spWeb K) := by
  refine fn_Lweb (k := 5) T (fun vs H Q E h => ?_) (fun cdv A outer s H vs Q E hr h => ?_)
  · obtain ⟨_, _, rfl, _⟩ := h
    rfl
  · obtain ⟨v, D, rfl, ⟨p, kvs, vp, vr, vs', rfl, hp, e1, e2, e3, gp, gr, gs⟩, ok, kk⟩ := h
    have hu1 := Nat.lt_of_le_of_lt (Nat.add_le_add_left (by decide : 1 ≤ 64) _) hr.units
    refine ⟨_, pss_one (ps_ret (pe_makeF (mk_Lattice T) (ok_L_init T) rfl hr rfl (g_Lattice T) (pa_cons (pe_dget hu1 (pv 0) pe_str (fun _ _ => rfl)) (pa_cons (pe_dget hu1 (pv 0) pe_str (fun _ _ => rfl)) (pa_cons (pe_dget hu1 (pv 0) pe_str (fun _ _ => rfl)) pa_nil))))), ?_⟩
    refine ⟨_, rfl, p, vp, rfl, .inl ⟨kvs, Sum.inr "prices", .inl hp, rfl, e1.symm⟩, _, rfl, p, vr, rfl, .inl ⟨kvs, Sum.inr "rates", .inl hp, rfl, e2.symm⟩, _, rfl, p, vs', rfl, .inl ⟨kvs, Sum.inr "steps", .inl hp, rfl, e3.symm⟩, fun x dx hx hdx ne => ?_⟩
    exact ⟨x, dx, vp, vr, vs', D, H, rfl, hx, same_mut (Same.new hdx) hx, upd_same, gp, gr, gs, ok, fun H' e la => ⟨rfl, kk _ H' e la⟩⟩
/-- what a made Worth asks -/
theorem made_ok {H : Hp} {lv nv : V} {D : Dat} {n : Note} {P : Str → Prop} {Q : VK} (la : LatAt K H D lv) (hn : NAt K H n nv) (ok : D.Ok) (g : NOk n) (hP : ∀ q, (tree n 0 q).All fun _ r => NNames P r)
    (kk : ∀ x R H', Same H H' → RowsOk D n P R → WoAt K H' D R 0 (.ref x) → Q (.ref x) H') :
    ∀ x dx, H x = none → H dx = none → dx ≠ x → spWInit K [.ref x, lv, nv] (upd (upd H dx (.own x)) x (.ins (He.ga K "Worth") dx [])) (fun v H2 => v = .non ∧ Q (.ref x) H2) E0 :=
  fun x dx hx hdx ne => ⟨x, dx, lv, nv, D, n, P, H, rfl, hx, same_mut (Same.new hdx) hx, upd_same, la, hn, ok, g.good, g.dep, g.bits, g.lvs, hP, fun R H' e ro wa => ⟨rfl, kk x R H' e ro wa⟩⟩
theorem any_names (n : Note) (q : Rat) : (tree n 0 q).All fun _ r => NNames (fun _ => True) r := all_true (fun _ r => nn_true r) _
/-- its worth() -/
theorem worth_ok {H : Hp} {wv : V} {D : Dat} {R : List Row} {n : Note} {P : Str → Prop} {Q : VK} (wa : WoAt K H D R 0 wv) (ro : RowsOk D n P R) (kk : ∀ v, Amt K H v (Wn D n) → Q v H) :
    ∃ a dx fs, wv = .ref a ∧ H a = some (.ins (He.ga K "Worth") dx fs) ∧ fs.lookup ("worth" : Str) = none ∧ spWorth K ([wv] ++ [.int 0]) H Q E0 := by
  obtain ⟨a, dx, mv, ps, e, h, r⟩ := id wa
  exact ⟨a, dx, _, e, h, by rfl, _, D, R, n, P, rfl, wa, ro, kk⟩
theorem LatAt.ex {b c : Addr} {H H' : Hp} {D : Dat} {v : V} (hB : BoxAt H b c) (e : Ex [b] H H') (h : LatAt K H D v) : LatAt K H' D v := by
  obtain ⟨a, dx, vp, vr, vs, r, h, g1, g2, b3, u3, r3, h3, a3⟩ := h
  refine ⟨a, dx, vp, vr, vs, r, e _ _ (fun m => ?_) h, g1.ex hB e, g2.ex hB e, b3, u3, r3, e _ _ (box_ne hB h3 (all2_ref (fun x u z => by obtain ⟨a, _, r, _⟩ := z; exact ⟨a, r⟩) a3)) h3, a3.imp fun _ _ z => z.ex hB e⟩
  obtain ⟨xs, hx⟩ := hB.lst a m
  rw [hx] at h
  cases h
end
end SL
namespace SL
open PySem PySem.Spec PyProof.Rows L2 TL
section
variable {w : World} {K : PySem.W.Frag} {mg : Str → Option Value} {base : Heap}
def spLaw (K : PySem.W.Frag) : Sp := fun vs H Q _ => ∃ (a : Addr) (ns : List Int), vs = [.ref a] ∧ SqL K H a (ns.map V.int) ∧ ns.length ≤ 63 ∧ ∀ H', Q (.bl true) H'
theorem ok_law (T : TX w K mg) {fd : FuncData} (F : FunD K "law" "law" (defArgs s_law) (defBody s_law) (defScope s_law) ((d_law).dvs K) ((d_law).kws K) (He.fAd K ("law", none)) fd) :
    FnOk PG w K mg base CX0 85 (He.fAd K ("law", none)) fd ["_law_script"] (spLaw K) := by
  refine fnOk (k := 84) F sc_law (fun vs H Q E h => ?_) (fun cdv A outer s H vs Q E hr h => ?_)
  · obtain ⟨_, _, rfl, _⟩ := h
    rfl
  · obtain ⟨a, ns, rfl, hS, hl, kk⟩ := h
    have hu := hr.units
    refine ⟨_, (pss_cons (ps_set (i := 1) sc_law.nd rfl (.inl rfl) (pe_callF (ok_Lbox T) rfl hr rfl (g_Lbox T) (pa_cons (pv 0) pa_nil)))
      (pss_cons (ps_set (i := 2) sc_law.nd rfl (.inl rfl) (pe_callF (ok_Lweb T) rfl hr rfl (g_Lweb T) (pa_cons (pe_callF (ok_Lfair T) rfl hr rfl (g_Lfair T) (pa_cons (pv 1) (pa_cons (pe_op op_add pe_int (pe_callF (ok_Ltake T) rfl hr rfl (g_Ltake T) (pa_cons (pv 1) (pa_cons pe_int pa_nil)))) (pa_cons (pe_op op_add pe_int (pe_callF (ok_Ltake T) rfl hr rfl (g_Ltake T) (pa_cons (pv 1) (pa_cons pe_int pa_nil)))) pa_nil)))) pa_nil)))
      (pss_cons (ps_for PassesOwn.never rfl (pi_range1 rfl (b_range T) (pa_cons pe_int pa_nil)) (pg_name (i := 3) sc_law.nd rfl (.inl rfl))
      (pss_cons (ps_par (i := 4) (j := 5) rfl sc_law.nd rfl rfl (by decide) rfl rfl (pa_cons (pe_callF (ok_Lnote T 4 (by decide)) rfl hr rfl (g_Lnote T) (pa_cons (pv 1) (pa_cons pe_int (pa_cons (pe_lst (pa_cons pe_int (pa_cons pe_int (pa_cons pe_int pa_nil)))) pa_nil)))) (pa_cons (pe_callF (ok_Lnote T 4 (by decide)) rfl hr rfl (g_Lnote T) (pa_cons (pv 1) (pa_cons pe_int (pa_cons (pe_lst (pa_cons pe_int (pa_cons pe_int (pa_cons pe_int pa_nil)))) pa_nil)))) pa_nil)) rfl)
      (pss_cons (ps_par (i := 6) (j := 7) rfl sc_law.nd rfl rfl (by decide) rfl rfl (pa_cons (pe_methF0 (pe_makeF (mk_Worth T) (ok_W_init T) rfl hr rfl (g_Worth T) (pa_cons (pv 2) (pa_cons (pv 4) pa_nil))) (c_Worth T) (m_W_worth T) (ok_W_worth T) rfl hr) (pa_cons (pe_methF0 (pe_makeF (mk_Worth T) (ok_W_init T) rfl hr rfl (g_Worth T) (pa_cons (pv 2) (pa_cons (pv 5) pa_nil))) (c_Worth T) (m_W_worth T) (ok_W_worth T) rfl hr) pa_nil)) rfl)
      (pss_cons (ps_asg (pe_callF (ok_Ldays T) rfl hr rfl (g_Ldays T) (pa_cons (pv 1) pa_nil)) (pg_tup rfl (pgs_cons (pg_name (i := 8) sc_law.nd rfl (.inl rfl)) (pgs_cons (pg_name (i := 9) sc_law.nd rfl (.inl rfl)) pgs_nil))))
      (pss_one (ps_for PassesOwn.never rfl (pi_list (pe_lst (pa_cons (pe_tup (pa_cons pe_str (pa_cons pe_int pa_nil))) (pa_cons (pe_tup (pa_cons pe_str (pa_cons (pe_un un_neg pe_int) pa_nil))) pa_nil)))) (pg_tup rfl (pgs_cons (pg_name (i := 10) sc_law.nd rfl (.inl rfl)) (pgs_cons (pg_name (i := 11) sc_law.nd rfl (.inl rfl)) pgs_nil)))
      (pss_cons (ps_set (i := 12) sc_law.nd rfl (.inl rfl) (pe_methF0 (pe_makeF (mk_Worth T) (ok_W_init T) rfl hr rfl (g_Worth T) (pa_cons (pv 2) (pa_cons (pe_tup (pa_cons pe_str (pa_cons pe_str (pa_cons (pv 10) (pa_cons (pv 8) (pa_cons (pv 9) (pa_cons (pv 4) (pa_cons (pv 5) pa_nil)))))))) pa_nil))) (c_Worth T) (m_W_worth T) (ok_W_worth T) rfl hr))
      (pss_cons (ps_if (pt_cmpR op_lt (pe_op op_mulW (pe_op op_sub (pe_op op_mulW (pe_ix ix_tup (pv 12) pe_int (fun _ _ => rfl)) (pe_ix ix_tup (pv 6) pe_int (fun _ _ => rfl))) (pe_op op_mulW (pe_ix ix_tup (pv 6) pe_int (fun _ _ => rfl)) (pe_ix ix_tup (pv 12) pe_int (fun _ _ => rfl)))) (pv 11)) pe_int (nomark _)) (pss_one (ps_ret pe_bl)) pss_nil)
      (pss_cons (ps_set (i := 13) sc_law.nd rfl (.inl rfl) (pe_makeF (mk_Worth T) (ok_W_init T) rfl hr rfl (g_Worth T) (pa_cons (pv 2) (pa_cons (pe_tup (pa_cons pe_str (pa_cons pe_str (pa_cons (pv 10) (pa_cons pe_int (pa_cons pe_int (pa_cons (pv 4) (pa_cons (pv 5) pa_nil)))))))) pa_nil))))
      (pss_cons (ps_set (i := 14) sc_law.nd rfl (.inl rfl) (pe_ifExp (pt_cmpR op_eq (pe_callF (ok_Lunder T) rfl hr rfl (g_Lunder T) (pa_cons (pv 6) (pa_cons (pv 7) pa_nil))) (pe_cmpR op_eq (pv 10) pe_str (nomark _)) (nomark _)) (pv 7) (pv 6)))
      (pss_cons (ps_if (PW.pt (pw_or (pt_cmpR (op_neD hu) (pe_methF0 (pv 13) (c_Worth T) (m_W_worth T) (ok_W_worth T) rfl hr) (pv 14) (nomark _)) (pw_or1 (pt_cmpR op_ne (pe_methF0 (pv 13) (c_Worth T) (m_W_plan T) (ok_W_planD T) rfl hr) (pe_cmpR (op_neD hu) (pv 14) (pv 6) (nomark _)) (nomark _))))) (pss_one (ps_ret pe_bl)) pss_nil)
      (pss_cons (ps_set (i := 15) sc_law.nd rfl (.inl rfl) (pe_tup (pa_cons pe_str (pa_cons (pv 4) (pa_cons (pe_tup (pa_cons pe_str (pa_cons pe_int (pa_cons (pe_tup (pa_cons pe_str (pa_cons (pe_tup (pa_cons (pe_op op_mulW (pv 11) (pe_un un_neg pe_int)) (pa_cons pe_int pa_nil))) pa_nil))) pa_nil)))) pa_nil)))))
      (pss_cons (ps_if (pt_cmpR (op_neD hu) (pe_methF (pe_makeF (mk_Worth T) (ok_W_init T) rfl hr rfl (g_Worth T) (pa_cons (pv 2) (pa_cons (pe_tup (pa_cons pe_str (pa_cons pe_str (pa_cons (pv 10) (pa_cons pe_int (pa_cons pe_int (pa_cons (pv 4) (pa_cons (pv 15) pa_nil)))))))) pa_nil))) (c_Worth T) (m_W_region T) (ok_W_region T) rfl hr (pa_cons pe_str pa_nil)) (pe_lst pa_nil) (nomark _)) (pss_one (ps_ret pe_bl)) pss_nil)
      (pss_one (ps_if (pt_cmpR op_isnot_bl (pe_methF0 (pe_makeF (mk_Worth T) (ok_W_init T) rfl hr rfl (g_Worth T) (pa_cons (pv 2) (pa_cons (pe_tup (pa_cons pe_str (pa_cons pe_str (pa_cons (pv 10) (pa_cons pe_int (pa_cons pe_int (pa_cons (pv 4) (pa_cons (pv 4) pa_nil)))))))) pa_nil))) (c_Worth T) (m_W_plan T) (ok_W_planD T) rfl hr) pe_bl (nomark _)) (pss_one (ps_ret pe_bl)) pss_nil)))))))))))))))
      (pss_one (ps_ret pe_bl))))), ?_⟩
    refine ⟨_, rfl, a, ns, rfl, hS, hl, fun b c H1 fb S1 B1 => ?_⟩
    refine ⟨_, rfl, _, rfl, b, c, _, rfl, B1, by decide, by decide, fun t H2 t0 t1 d2 => ⟨_, _, rfl, rfl, _, rfl, b, c, _, rfl, d2.2, by decide, by decide, fun u H3 u0 u1 d3 => ⟨_, _, rfl, rfl, ?_⟩⟩⟩
    obtain ⟨t, rfl⟩ : ∃ k : Nat, t = (k : Int) := ⟨t.toNat, by omega⟩
    refine ⟨b, c, 1 + t, 2 + u, by rw [Int.natCast_add]; rfl, d3.2, by omega, by omega, by omega, by omega, fun v D H4 d4 fa ok => ⟨v, D, rfl, fa, ok, fun lv H5 e5 la => ?_⟩⟩
    have B5 := d4.2.mono e5
    obtain ⟨q0, hq0⟩ := top_cell ok
    clear fa
    refine ⟨2, rfl, by decide, by decide, ?_⟩
    refine for_range (lo := 0) (n := 2) (fun i σ' H' => ∃ x3 x4 x5 x6 x7 x8 x9 x10 x11 x12 x13 x14 x15, σ' = [some (.ref a), some (.ref b), some lv, x3, x4, x5, x6, x7, x8, x9, x10, x11, x12, x13, x14, x15] ∧ BoxAt H' b c ∧ LatAt K H' D lv)
      ⟨_, _, _, _, _, _, _, _, _, _, _, _, _, rfl, B5, la⟩ (fun i σ' HA hi ⟨x3, x4, x5, x6, x7, x8, x9, x10, x11, x12, x13, x14, x15, eσ, BA, lA⟩ => ?_) (fun σ' HA ⟨x3, x4, x5, x6, x7, x8, x9, x10, x11, x12, x13, x14, x15, eσ, BA, lA⟩ => ?_)
    · subst eσ
      -- two notes
      refine ⟨_, rfl, by show 3 ≤ sizeLine; decide, fun r1 hr1 => ?_⟩
      obtain ⟨n1b, n1c⟩ := BA.ne hr1
      refine ⟨b, c, r1, rfl, BA.mono (Same.new hr1), ⟨_, _, _, upd_same⟩, n1b, n1c, fun v4 n4 HB dB h4 g4 z4 q4 => ?_⟩
      have D4 : NDr n4 := ⟨g4, by omega, q4⟩
      have dB' : Dr b c HA HB := dB.room hr1
      refine ⟨_, rfl, by show 3 ≤ sizeLine; decide, fun r2 hr2 => ?_⟩
      obtain ⟨n2b, n2c⟩ := dB'.2.ne hr2
      refine ⟨b, c, r2, rfl, dB'.2.mono (Same.new hr2), ⟨_, _, _, upd_same⟩, n2b, n2c, fun v5 n5 HC dC h5 g5 z5 q5 => ⟨_, _, rfl, ?_⟩⟩
      have D5 : NDr n5 := ⟨g5, by omega, q5⟩
      have dC' : Dr b c HB HC := dC.room hr2
      have lC := lA.ex BA (dB'.trans dC').1
      have h4C := h4.ts (dC'.ts dB'.2)
      clear dB dC
      -- their worths
      refine ⟨_, rfl, _, rfl, fun y1 w1 hy1 hw1 ne1 => ⟨y1, w1, lv, v4, D, n4, fun _ => True, HC, rfl, hy1, same_mut (Same.new hw1) hy1, upd_same, lC, h4C, ok, D4.ok.good, D4.ok.dep, D4.ok.bits, D4.ok.lvs, any_names n4, fun R4 HD eD ro4 wa4 => ⟨rfl, ?_⟩⟩⟩
      obtain ⟨j1, j2, j3, j4, j5, j6, _⟩ := id wa4
      refine ⟨j1, j2, _, j5, j6, rfl, _, D, R4, n4, _, rfl, wa4, ro4, fun v6 av6 => ?_⟩
      clear j5 j6
      refine ⟨_, rfl, _, rfl, fun y1 w1 hy1 hw1 ne1 => ⟨y1, w1, lv, v5, D, n5, fun _ => True, HD, rfl, hy1, same_mut (Same.new hw1) hy1, upd_same, lC.mono eD, h5.mono eD, ok, D5.ok.good, D5.ok.dep, D5.ok.bits, D5.ok.lvs, any_names n5, fun R5 HE eE ro5 wa5 => ⟨rfl, ?_⟩⟩⟩
      obtain ⟨j1, j2, j3, j4, j5, j6, _⟩ := id wa5
      refine ⟨j1, j2, _, j5, j6, rfl, _, D, R5, n5, _, rfl, wa5, ro5, fun v7 av7 => ⟨_, _, rfl, ?_⟩⟩
      clear j5 j6
      have z6 := wn_sz ok ro4
      have z7 := wn_sz ok ro5
      have BE := dC'.2.mono (eD.trans eE)
      refine ⟨_, rfl, b, c, rfl, BE, fun p8 i8 i9 HF dF s8 k8 k9 => ⟨p8, _, rfl, s8, rfl, _, _, rfl, _, _, rfl, rfl, ?_⟩⟩
      have lF := (lC.mono (eD.trans eE)).ex BE dF.1
      have tF := dF.ts BE
      have h4F := (h4C.mono (eD.trans eE)).ts tF
      have h5F := (h5.mono (eD.trans eE)).ts tF
      have a6F := (av6.mono eE).ts tF
      have a7F := av7.ts tF
      have BF := dF.2
      clear lC lA BA BE wa4 wa5 ro4 ro5
      -- the owners
      refine ⟨by show 2 ≤ sizeLine; decide, fun p1 hp1 => ⟨_, rfl, by show 2 ≤ sizeLine; decide, fun p2 hp2 => ⟨by show 2 ≤ sizeLine; decide, fun pl hpl => ?_⟩⟩⟩
      have e1 := Same.new (o := .tup [.str "holder", .int 1]) hp1
      have e2 := Same.new (o := .tup [.str "writer", .int (-1)]) hp2
      have e3 := Same.new (o := .lst [.ref p1, .ref p2]) hpl
      have eF := (e1.trans e2).trans e3
      have own : ∀ x, x ∈ [V.ref p1, V.ref p2] → ∃ (h : Bool) (px : Addr), x = .ref px ∧ SqT K (upd (upd (upd HF p1 (.tup [.str "holder", .int 1])) p2 (.tup [.str "writer", .int (-1)])) pl (.lst [.ref p1, .ref p2])) px [.str (owS h), .int (sgn h)] := fun x hx => by
        rcases List.mem_cons.mp hx with z | z
        · exact ⟨true, p1, z, SqT.of ((e2.trans e3) _ _ upd_same)⟩
        · exact ⟨false, p2, List.mem_singleton.mp z, SqT.of (e3 _ _ upd_same)⟩
      have hpl' : (upd (upd (upd HF p1 (.tup [.str "holder", .int 1])) p2 (.tup [.str "writer", .int (-1)])) pl (.lst [.ref p1, .ref p2])) pl = some (.lst [.ref p1, .ref p2]) := upd_same
      have lG := lF.mono eF
      have h4G := h4F.mono eF
      have h5G := h5F.mono eF
      have a6G := a6F.mono eF
      have a7G := a7F.mono eF
      have BG := BF.mono eF
      refine ⟨pl, rfl, ⟨_, SqL.of upd_same⟩, ?_⟩
      generalize upd (upd (upd HF p1 (.tup [.str "holder", .int 1])) p2 (.tup [.str "writer", .int (-1)])) pl (.lst [.ref p1, .ref p2]) = HG at own hpl' lG h4G h5G a6G a7G BG
      clear lF h4F h5F a6F a7F BF eF e1 e2 e3
      refine for_list (xs := [V.ref p1, V.ref p2]) (fun j σ' H' => ∃ x10 x11 x12 x13 x14 x15, σ' = [some (.ref a), some (.ref b), some lv, some (.int (0 + (i : Int))), some v4, some v5, some v6, some v7, some (.int i8), some (.int i9), x10, x11, x12, x13, x14, x15] ∧ Same HG H')
        ⟨_, _, _, _, _, _, rfl, Same.refl _⟩ (fun j σ' H' _ ⟨_, _, _, _, _, _, _, q⟩ => SqL.of (q _ _ hpl')) (fun j x σ' HI hx ⟨x10, x11, x12, x13, x14, x15, eσ, eI⟩ => ?_) (fun σ' HI ⟨x10, x11, x12, x13, x14, x15, eσ, eI⟩ => ⟨_, _, _, _, _, _, _, _, _, _, _, _, _, eσ, BG.mono eI, lG.mono eI⟩)
      subst eσ
      obtain ⟨h, px, rfl, sx⟩ := own x (List.mem_of_getElem? hx)
      refine ⟨px, _, rfl, Same.sqt eI sx, rfl, _, _, rfl, _, _, rfl, rfl, ?_⟩
      have ND := may_nok (h := h) k8 k9 D4 D5.good (Nat.le_trans D5.dep (by decide)) (Nat.le_trans D5.bits (by decide)) D5.lvs
      have N0 := may_nok (h := h) d0_ok d0_ok D4 D5.good (Nat.le_trans D5.dep (by decide)) (Nat.le_trans D5.bits (by decide)) D5.lvs
      have NS := may_nok (h := h) d0_ok d0_ok D4 D4.good (Nat.le_trans D4.dep (by decide)) (Nat.le_trans D4.bits (by decide)) D4.lvs
      have cz : Sz 8 ((sgn h * (-1) : Int) : Rat) := by cases h <;> (unfold Sz; decide +kernel)
      obtain ⟨M1, M2, M3, M4, M5⟩ := more_nok (c := ((sgn h * (-1) : Int) : Rat)) D4 cz
      have NM := may_nok (h := h) d0_ok d0_ok D4 M1 M2 M3 M4
      have a6I := a6G.mono eI
      obtain ⟨b6, rfl, s6⟩ := id a6G
      obtain ⟨b7, rfl, s7⟩ := id a7G
      -- told
      refine ⟨_, rfl, _, rfl, _, rfl, _, rfl, _, rfl, _, rfl, by show 7 ≤ sizeLine; decide, fun t1 ht1 => ?_⟩
      have u1 := eI.trans (Same.new (o := (.tup [.str "may", .str "qq", .str (owS h), .int i8, .int i9, v4, v5])) ht1)
      have m1 : NAt K (upd HI t1 (.tup [.str "may", .str "qq", .str (owS h), .int i8, .int i9, v4, v5])) (.may qq h i8 i9 n4 n5) (.ref t1) := ⟨t1, v4, v5, rfl, SqT.of upd_same, h4G.mono u1, h5G.mono u1⟩
      generalize upd HI t1 (.tup [.str "may", .str "qq", .str (owS h), .int i8, .int i9, v4, v5]) = G1 at u1 m1
      refine fun y1 w1 hy1 hw1 ne1 => ⟨y1, w1, lv, .ref t1, D, _, fun _ => True, G1, rfl, hy1, same_mut (Same.new hw1) hy1, upd_same, lG.mono u1, m1, ok, ND.good, ND.dep, ND.bits, ND.lvs, any_names _, fun R1 I1 f1 ro1 wa1 => ⟨rfl, ?_⟩⟩
      obtain ⟨i1, dx1, mv1, ps1, r1, o1, _⟩ := id wa1
      refine ⟨i1, dx1, _, r1, o1, rfl, _, D, R1, _, _, rfl, wa1, ro1, fun v12 av12 => ?_⟩
      have z12 := wn_sz ok ro1
      obtain ⟨b12, rfl, s12⟩ := av12
      have e1 := u1.trans f1
      have s6' := Same.sqt e1 s6
      refine ⟨_, rfl, b12, _, _, _, rfl, rfl, s12, rfl, _, rfl, b6, _, _, _, rfl, rfl, s6', rfl, _, _, rfl, rfl, cm (szn z12) (szd z6) (by decide), ?_⟩
      refine ⟨_, rfl, b6, _, _, _, rfl, rfl, s6', rfl, _, rfl, b12, _, _, _, rfl, rfl, s12, rfl, _, _, rfl, rfl, cm (szn z6) (szd z12) (by decide), _, _, rfl, rfl, _, rfl, _, _, rfl, rfl, wide_mul (diff_sz z12 z6) (sgn_one h) (by decide) (by decide) (by decide), _, _, rfl, rfl, _, rfl, ?_⟩
      refine itN (sgn_no ?_) ?_
      · cases h with
        | true => exact wn_hold ok _ _ _ _
        | false => exact wn_write ok _ _ _ _
      clear z12 s12 wa1 ro1 o1 m1
      -- at once
      refine ⟨_, rfl, _, rfl, _, rfl, _, rfl, by show 7 ≤ sizeLine; decide, fun t2 ht2 => ?_⟩
      have u2 := e1.trans (Same.new (o := (.tup [.str "may", .str "qq", .str (owS h), .int 0, .int 0, v4, v5])) ht2)
      have m2 : NAt K (upd I1 t2 (.tup [.str "may", .str "qq", .str (owS h), .int 0, .int 0, v4, v5])) (.may qq h 0 0 n4 n5) (.ref t2) := ⟨t2, v4, v5, rfl, SqT.of upd_same, h4G.mono u2, h5G.mono u2⟩
      generalize upd I1 t2 (.tup [.str "may", .str "qq", .str (owS h), .int 0, .int 0, v4, v5]) = G2 at u2 m2
      refine fun y2 w2 hy2 hw2 ne2 => ⟨y2, w2, lv, .ref t2, D, _, fun _ => True, G2, rfl, hy2, same_mut (Same.new hw2) hy2, upd_same, lG.mono u2, m2, ok, N0.good, N0.dep, N0.bits, N0.lvs, any_names _, fun R2 I2 f2 ro2 wa2 => ⟨rfl, ?_⟩⟩
      obtain ⟨i2, dx2, mv2, ps2, r2, o2, _⟩ := id wa2
      have e2 := u2.trans f2
      -- the best
      refine ⟨_, rfl, _, rfl, .ref b6, .ref b7, Wn D n4, Wn D n5, rfl, ⟨b6, rfl, Same.sqt e2 s6⟩, ⟨b7, rfl, Same.sqt e2 s7⟩, z6.mono (by decide), z7.mono (by decide), _, rfl, rfl, rfl, _, rfl, ?_⟩
      rw [ow_h]
      refine if_join (fun v H' => H' = I2 ∧ ∃ bst, Amt K I2 v bst ∧ bst = pick h (Wn D n5) (Wn D n4) ∧ chosen h (Wn D n5) (Wn D n4) = !decide (bst = Wn D n4)) (fun eb Q' k => ?_) (fun eb Q' k => ?_) (fun v14 H' ⟨eH, bst, ab, eb, hc⟩ => ?_)
      · obtain ⟨c1, c2⟩ := best_yes (V.bl.inj (of_decide_eq_true eb))
        exact ⟨_, rfl, k _ _ ⟨rfl, _, ⟨b7, rfl, Same.sqt e2 s7⟩, c1, c2⟩⟩
      · obtain ⟨c1, c2⟩ := best_no (fun z => (of_decide_eq_false eb) (congrArg V.bl z))
        exact ⟨_, rfl, k _ _ ⟨rfl, _, ⟨b6, rfl, Same.sqt e2 s6⟩, c1, c2⟩⟩
      subst eH
      rw [← wn_once ok] at eb
      refine ⟨_, rfl, i2, dx2, _, r2, o2, rfl, _, D, R2, _, _, rfl, wa2, ro2, fun v av => ⟨_, rfl, aData (Wn D (.may qq h 0 0 n4 n5)), aData bst, av.dp, ab.dp, a_shaped _, a_shaped _, _, rfl, ?_⟩⟩
      rw [show PyData.eqv (aData (Wn D (.may qq h 0 0 n4 n5))) (aData bst) = true by rw [a_eqv]; exact decide_eq_true eb.symm]
      refine iteF ⟨_, rfl, i2, dx2, _, r2, o2, rfl, _, D, R2, _, _, 0, (0, 0, .may qq h 0 0 n4 n5), q0, _, [], h, qq, tree n5 0 q0, tree n4 0 q0, rfl, wa2, ok, ro2, ro2.first, hq0, nil_at T _, at_once, fun J0 j0 => ⟨_, rfl, _, rfl, aData bst, aData (Wn D n4), (ab.mono j0).dp, (a6G.mono (e2.trans j0)).dp, a_shaped _, a_shaped _, rfl, _, rfl, ?_⟩⟩
      have hcv : chosen h ((tree n5 0 q0).val (D.lat.F (D.P.length - 1 - 0) 0 0)) ((tree n4 0 q0).val (D.lat.F (D.P.length - 1 - 0) 0 0)) = !decide (bst = Wn D n4) := by
        rw [← hc, Wn_eq hq0 n5, Wn_eq hq0 n4]
        rfl
      rw [a_eqv]
      refine iteSN' (congrArg V.bl hcv) ?_
      have e20 := e2.trans j0
      clear ab hc hcv eb wa2 ro2 o2 m2
      -- a coin more
      refine ⟨_, rfl, _, rfl, _, rfl, _, _, rfl, rfl, wide_mul (sgn_one h) (show (-1 : Int).natAbs < 2 ^ 1 by decide) (by decide) (by decide) (by decide), by show 2 ≤ sizeLine; decide, fun p1 hp1 => ⟨by show 2 ≤ sizeLine; decide, fun p2 hp2 => ⟨by show 3 ≤ sizeLine; decide, fun p3 hp3 => ⟨by show 3 ≤ sizeLine; decide, fun p4 hp4 => ?_⟩⟩⟩⟩
      have nn1 := Same.new (o := .tup [.int (sgn h * -1), .int 1]) hp1
      have nn2 := Same.new (o := .tup [.str "coin", .ref p1]) hp2
      have nn3 := Same.new (o := .tup [.str "pay", .int 0, .ref p2]) hp3
      have nn4 := Same.new (o := .tup [.str "both", v4, .ref p3]) hp4
      have e4 := (((e20.trans nn1).trans nn2).trans nn3).trans nn4
      have hM : NAt K (upd (upd (upd (upd J0 p1 (.tup [.int (sgn h * -1), .int 1])) p2 (.tup [.str "coin", .ref p1])) p3 (.tup [.str "pay", .int 0, .ref p2])) p4 (.tup [.str "both", v4, .ref p3])) (.both n4 (.pay 0 (.coin ((sgn h * (-1) : Int) : Rat)))) (.ref p4) :=
        ⟨p4, v4, .ref p3, rfl, SqT.of upd_same, h4G.mono e4, p3, .ref p2, rfl, SqT.of (nn4 _ _ upd_same), p2, .ref p1, rfl, SqT.of ((nn3.trans nn4) _ _ upd_same), p1, rfl, SqT.of (by rw [Rat.num_intCast, Rat.den_intCast]; exact ((nn2.trans nn3).trans nn4) _ _ upd_same)⟩
      generalize upd (upd (upd (upd J0 p1 (.tup [.int (sgn h * -1), .int 1])) p2 (.tup [.str "coin", .ref p1])) p3 (.tup [.str "pay", .int 0, .ref p2])) p4 (.tup [.str "both", v4, .ref p3]) = J4 at e4 hM
      clear nn1 nn2 nn3 nn4
      refine ⟨_, rfl, _, rfl, _, rfl, _, rfl, by show 7 ≤ sizeLine; decide, fun t3 ht3 => ?_⟩
      have u3 := e4.trans (Same.new (o := (.tup [.str "may", .str "qq", .str (owS h), .int 0, .int 0, v4, .ref p4])) ht3)
      have m3 : NAt K (upd J4 t3 (.tup [.str "may", .str "qq", .str (owS h), .int 0, .int 0, v4, .ref p4])) (.may qq h 0 0 n4 (.both n4 (.pay 0 (.coin ((sgn h * (-1) : Int) : Rat))))) (.ref t3) := ⟨t3, v4, .ref p4, rfl, SqT.of upd_same, h4G.mono u3, hM.mono (Same.new ht3)⟩
      generalize upd J4 t3 (.tup [.str "may", .str "qq", .str (owS h), .int 0, .int 0, v4, .ref p4]) = G3 at u3 m3
      refine fun y3 w3 hy3 hw3 ne3 => ⟨y3, w3, lv, .ref t3, D, _, NQ, G3, rfl, hy3, same_mut (Same.new hw3) hy3, upd_same, lG.mono u3, m3, ok, NM.good, NM.dep, NM.bits, NM.lvs, may_names D4.names M5, fun R3 I3 f3 ro3 wa3 => ⟨rfl, ?_⟩⟩
      obtain ⟨i3, dx3, mv3, ps3, r3, o3, _⟩ := id wa3
      refine ⟨i3, dx3, _, r3, o3, rfl, _, D, R3, _, NQ, qq, rfl, wa3, ok, ro3, no_use ok ro3 D4.names M5 (chosen_more ok h n4), fun pf J6 e6 hp6 => ⟨by show 0 ≤ sizeLine; decide, fun pe hpe => ?_⟩⟩
      refine ⟨.list [], .list [], .lst (SqL.of ((Same.new hpe) _ _ hp6)) .nil, .lst (SqL.of upd_same) .nil, nill_shaped, nill_shaped, _, rfl, ?_⟩
      rw [show PyData.eqv (.list []) (.list []) = true from aml_eqv []]
      have e7 := ((u3.trans f3).trans e6).trans (Same.new (o := .lst []) hpe)
      generalize upd J6 pe (.lst []) = J7 at e7
      clear wa3 ro3 o3 m3 hM
      -- for the same
      refine iteF ⟨_, rfl, _, rfl, _, rfl, _, rfl, by show 7 ≤ sizeLine; decide, fun t4 ht4 => ?_⟩
      have u4 := e7.trans (Same.new (o := (.tup [.str "may", .str "qq", .str (owS h), .int 0, .int 0, v4, v4])) ht4)
      have m4 : NAt K (upd J7 t4 (.tup [.str "may", .str "qq", .str (owS h), .int 0, .int 0, v4, v4])) (.may qq h 0 0 n4 n4) (.ref t4) := ⟨t4, v4, v4, rfl, SqT.of upd_same, h4G.mono u4, h4G.mono u4⟩
      generalize upd J7 t4 (.tup [.str "may", .str "qq", .str (owS h), .int 0, .int 0, v4, v4]) = G4 at u4 m4
      refine fun y4 w4 hy4 hw4 ne4 => ⟨y4, w4, lv, .ref t4, D, _, fun _ => True, G4, rfl, hy4, same_mut (Same.new hw4) hy4, upd_same, lG.mono u4, m4, ok, NS.good, NS.dep, NS.bits, NS.lvs, any_names _, fun R6 I4 f4 ro4 wa4 => ⟨rfl, ?_⟩⟩
      obtain ⟨i4, dx4, mv4, ps4, r4, o4, _⟩ := id wa4
      refine ⟨i4, dx4, _, r4, o4, rfl, _, D, R6, _, _, 0, (0, 0, .may qq h 0 0 n4 n4), q0, _, [], h, qq, tree n4 0 q0, tree n4 0 q0, rfl, wa4, ok, ro4, ro4.first, hq0, nil_at T _, at_once, fun J9 j9 => ⟨_, _, rfl, rfl, _, rfl, ?_⟩⟩
      rw [chosen_same]
      exact iteF ⟨_, _, _, _, _, _, rfl, (u4.trans f4).trans j9⟩
    · subst eσ
      exact kk HA

end
end SL
set_option maxHeartbeats 0
namespace SL
open PySem PySem.Spec PyProof.Rows L2
theorem facts {w : World} {K : PySem.W.Frag} {h : Heap} {mg : Str → Option Value} {f : Addr} (X : K.In h) (G : h.Ns mainGlobals mg) (hfa : mg ("law" : Str) = some (.ref f)) (c : He.SaysT faL fnL tsL w K) (x : exB K = true) :
    ∃ fd : FuncData, (∀ (s : Shared) (v : Value), BindsTo s fd ⟨[v], []⟩ [("_law_script", v)]) ∧ ∀ base : Heap, K.In base → base.Ns mainGlobals mg → FnOk PG w K mg base CX0 85 f fd ["_law_script"] (spLaw K) := by
  have T : TX w K mg := ⟨h, X, G, c, x⟩
  obtain ⟨fd, F⟩ := f_law T
  have e := hfa.symm.trans (g_law T)
  cases e
  have b := FunD.bindsA (ps := ["_law_script"]) F fun _ _ _ _ _ _ us hl => match us, hl with | [_], _ => rfl
  exact ⟨fd, fun s v => b s [v] rfl, fun base _ _ => ok_law T F⟩
end SL
open PySem PySem.W PySem.Calls PyProof.Rows
theorem PySem.Challenge.cw_strikeloom_k34_whole_rights_help_their_o_holds : PySem.Challenge.rw_strikeloom_k34_whole_rights_help_their_o.Holds := by
  w_on; o_law
  refine HandSHeadRun.head_any (r := OpenLaw.row PySem.Challenge.rw_strikeloom_k34_whole_rights_help_their_o) (q := view (OpenLaw.row PySem.Challenge.rw_strikeloom_k34_whole_rights_help_their_o).prog [SL.lawAt]) (H := SLH.hkL) (ob := SLH.ob) (M := 9000) (loose := SL.looseL) (d := HandSHeadRun.topDef (OpenLaw.row PySem.Challenge.rw_strikeloom_k34_whole_rights_help_their_o).prog SL.lawAt) (kwd := []) SLH.ob_eq
    (by kernel_rfl) (fun s => by kernel_rfl) SLH.run (by kernel_rfl) (by kernel_rfl) (by kernel_rfl) (by rfl) (by first | assumption | decide +kernel) (by decide +kernel) ⟨rfl, rfl, rfl, rfl, rfl, by decide +kernel⟩ ?hw ?hc
  case hw => w_witness2
  case hc =>
    refine L2.walk_ofE (l := PySem.Challenge.rw_strikeloom_k34_whole_rights_help_their_o) (n := 63) (k := 85) (x := "_law_script") (CX := L2.CX0) rfl (by decide) (by kernel_rfl) ⟨rfl, by decide, by decide⟩ ?F (fun _ _ _ _ z => z)
    intro w mg fa h Y G hmg0
    obtain ⟨K, KX, c, x⟩ := Y
    have hmg : mg ("law" : PySem.Str) = some (.ref fa) := by
      have e : (HandSHeadRun.topDef (OpenLaw.row PySem.Challenge.rw_strikeloom_k34_whole_rights_help_their_o).prog SL.lawAt).name = ("law" : PySem.Str) := by kernel_rfl
      rw [← e]
      exact hmg0
    obtain ⟨fd, hb, hF⟩ := SL.facts (w := w) KX G hmg c x
    exact ⟨K, fd, SL.spLaw K, KX, hb, fun H a ns hl _ hS => ⟨a, ns, rfl, hS, hl, fun _ => rfl⟩, hF⟩
